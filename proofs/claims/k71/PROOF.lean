import PyProof.Rows.All
import Wide.All
import OpenK.AllK
import Wide.FinOn
import KE.KStateDown
import Lean
import HandS.ForMost
import HandS.ForExc
import HandS.Defaults
import HandS.ExcIs
import HandS.Head0
import HandS.Head1
import HandS.Head2
import HandS.HeadEnd
import HandS.HeadHook1
import HandS.HeadHook2
import HandS.HeadHook3
import HandS.HeadHook4
import PySem.Challenge.RW_saywell_k71_values_and_their_texts
import KE.GoesRaise
import HandS.IsInst
import HandS.Wide
import HandS.WideMore
import HandS.More
import HandS.Rev
import HandS.Codes
import HandS.CallRecv
import HandS.Evl
import HandS.HeadWalk
set_option Elab.async false
set_option linter.all false
set_option maxRecDepth 100000
set_option maxHeartbeats 0
namespace K71
open PySem PySem.Spec PyProof.Rows L2
def top (i : Nat) : Stmt := PySem.Challenge.pw_saywell_k71_values_and_their_texts.main.body.getD i (.Pass ⟨0, 0, 0, 0⟩)
abbrev s_all_rests : Stmt := top 9
abbrev s_made : Stmt := top 17
abbrev s_holds : Stmt := top 19
abbrev s_turned : Stmt := top 20
abbrev s_bits_in : Stmt := top 21
abbrev s_below : Stmt := top 22
abbrev s_months_of : Stmt := top 31
abbrev s_first_of : Stmt := top 32
abbrev s_whole_turns : Stmt := top 33
abbrev s_year_and_rest : Stmt := top 34
abbrev s_date_of : Stmt := top 35
abbrev s_shown_day : Stmt := top 37
abbrev s_grouped : Stmt := top 39
abbrev s_figures_of : Stmt := top 40
abbrev s_shown_number : Stmt := top 41
abbrev s_laid : Stmt := top 43
abbrev s_road : Stmt := top 51
abbrev s_word_of : Stmt := top 52
abbrev s_is_whole : Stmt := top 55
abbrev s_named : Stmt := top 61
abbrev s_kind_named : Stmt := top 64
abbrev s_is_value : Stmt := top 65
abbrev s_value_text : Stmt := top 66
abbrev s_is_thing_text : Stmt := top 70
abbrev s__law_cell_at : Stmt := top 77
abbrev s__law_signs : Stmt := top 78
abbrev s__law_words : Stmt := top 79
abbrev s__law_plan : Stmt := top 80
abbrev s__law_marks : Stmt := top 81
abbrev s__law_rules : Stmt := top 82
abbrev s__law_texts : Stmt := top 83
abbrev s__law_house : Stmt := top 84
abbrev s__law_value : Stmt := top 85
abbrev s__law_whole : Stmt := top 86
abbrev s__law_is_value : Stmt := top 87
abbrev s__law_number_text : Stmt := top 88
abbrev s__law_laid : Stmt := top 89
abbrev s__law_first : Stmt := top 90
abbrev s__law_due : Stmt := top 91
abbrev s__law_told : Stmt := top 92
abbrev s__law_odd : Stmt := top 93
abbrev s_law : Stmt := top 94
abbrev s_RestOf_init : Stmt := inClass (top 12) 0
abbrev s_RestOf_holds : Stmt := inClass (top 12) 1
abbrev s_RestOf_span : Stmt := inClass (top 12) 2
abbrev s_RestOf_stretches : Stmt := inClass (top 12) 3
abbrev s_NumberKind_has : Stmt := inClass (top 57) 0
abbrev s_NumberKind_text_of : Stmt := inClass (top 57) 1
abbrev s_CountKind_has : Stmt := inClass (top 58) 0
abbrev s_DayKind_has : Stmt := inClass (top 59) 0
abbrev s_DayKind_text_of : Stmt := inClass (top 59) 1
abbrev s_ThingKind_text_of : Stmt := inClass (top 62) 2
abbrev s_ListKind_has : Stmt := inClass (top 63) 0
abbrev s_ListKind_text_of : Stmt := inClass (top 63) 1
abbrev s_RankKind_has : Stmt := inClass (top 60) 2
abbrev s_RankKind_row : Stmt := inClass (top 60) 0
abbrev s_ThingKind_row : Stmt := inClass (top 62) 0
abbrev s_House_init : Stmt := inClass (top 73) 0
abbrev s_House_add : Stmt := inClass (top 73) 1
abbrev s_House_tongue_named : Stmt := inClass (top 73) 2
abbrev s_House_word : Stmt := inClass (top 73) 3
abbrev s_House_declare : Stmt := inClass (top 73) 4
abbrev s_House_ranks : Stmt := inClass (top 73) 9
abbrev s_House_things : Stmt := inClass (top 73) 10
abbrev s_House_tongues : Stmt := inClass (top 73) 11
abbrev s_House_own_word : Stmt := inClass (top 73) 13
abbrev s_Tongue_init : Stmt := inClass (top 75) 0
def d_all_rests : He.DefD := ⟨("all_rests", none), "all_rests", "all_rests", defArgs s_all_rests, defBody s_all_rests, defScope s_all_rests, [], []⟩
def d_made : He.DefD := ⟨("made", none), "made", "made", defArgs s_made, defBody s_made, defScope s_made, [], []⟩
def d_holds : He.DefD := ⟨("holds", none), "holds", "holds", defArgs s_holds, defBody s_holds, defScope s_holds, [], []⟩
def d_turned : He.DefD := ⟨("turned", none), "turned", "turned", defArgs s_turned, defBody s_turned, defScope s_turned, [], []⟩
def d_bits_in : He.DefD := ⟨("bits_in", none), "bits_in", "bits_in", defArgs s_bits_in, defBody s_bits_in, defScope s_bits_in, [], []⟩
def d_below : He.DefD := ⟨("below", none), "below", "below", defArgs s_below, defBody s_below, defScope s_below, [], []⟩
def d_months_of : He.DefD := ⟨("months_of", none), "months_of", "months_of", defArgs s_months_of, defBody s_months_of, defScope s_months_of, [], []⟩
def d_first_of : He.DefD := ⟨("first_of", none), "first_of", "first_of", defArgs s_first_of, defBody s_first_of, defScope s_first_of, [], []⟩
def d_whole_turns : He.DefD := ⟨("whole_turns", none), "whole_turns", "whole_turns", defArgs s_whole_turns, defBody s_whole_turns, defScope s_whole_turns, [], []⟩
def d_year_and_rest : He.DefD := ⟨("year_and_rest", none), "year_and_rest", "year_and_rest", defArgs s_year_and_rest, defBody s_year_and_rest, defScope s_year_and_rest, [], []⟩
def d_date_of : He.DefD := ⟨("date_of", none), "date_of", "date_of", defArgs s_date_of, defBody s_date_of, defScope s_date_of, [], []⟩
def d_shown_day : He.DefD := ⟨("shown_day", none), "shown_day", "shown_day", defArgs s_shown_day, defBody s_shown_day, defScope s_shown_day, [], []⟩
def d_grouped : He.DefD := ⟨("grouped", none), "grouped", "grouped", defArgs s_grouped, defBody s_grouped, defScope s_grouped, [], []⟩
def d_figures_of : He.DefD := ⟨("figures_of", none), "figures_of", "figures_of", defArgs s_figures_of, defBody s_figures_of, defScope s_figures_of, [], []⟩
def d_shown_number : He.DefD := ⟨("shown_number", none), "shown_number", "shown_number", defArgs s_shown_number, defBody s_shown_number, defScope s_shown_number, [], []⟩
def d_laid : He.DefD := ⟨("laid", none), "laid", "laid", defArgs s_laid, defBody s_laid, defScope s_laid, [], []⟩
def d_road : He.DefD := ⟨("road", none), "road", "road", defArgs s_road, defBody s_road, defScope s_road, [], []⟩
def d_word_of : He.DefD := ⟨("word_of", none), "word_of", "word_of", defArgs s_word_of, defBody s_word_of, defScope s_word_of, [], []⟩
def d_is_whole : He.DefD := ⟨("is_whole", none), "is_whole", "is_whole", defArgs s_is_whole, defBody s_is_whole, defScope s_is_whole, [], []⟩
def d_named : He.DefD := ⟨("named", none), "named", "named", defArgs s_named, defBody s_named, defScope s_named, [], []⟩
def d_kind_named : He.DefD := ⟨("kind_named", none), "kind_named", "kind_named", defArgs s_kind_named, defBody s_kind_named, defScope s_kind_named, [], []⟩
def d_is_value : He.DefD := ⟨("is_value", none), "is_value", "is_value", defArgs s_is_value, defBody s_is_value, defScope s_is_value, [], []⟩
def d_value_text : He.DefD := ⟨("value_text", none), "value_text", "value_text", defArgs s_value_text, defBody s_value_text, defScope s_value_text, [], []⟩
def d_is_thing_text : He.DefD := ⟨("is_thing_text", none), "is_thing_text", "is_thing_text", defArgs s_is_thing_text, defBody s_is_thing_text, defScope s_is_thing_text, [], []⟩
def d__law_cell_at : He.DefD := ⟨("_law_cell_at", none), "_law_cell_at", "_law_cell_at", defArgs s__law_cell_at, defBody s__law_cell_at, defScope s__law_cell_at, [], []⟩
def d__law_signs : He.DefD := ⟨("_law_signs", none), "_law_signs", "_law_signs", defArgs s__law_signs, defBody s__law_signs, defScope s__law_signs, [], []⟩
def d__law_words : He.DefD := ⟨("_law_words", none), "_law_words", "_law_words", defArgs s__law_words, defBody s__law_words, defScope s__law_words, [], []⟩
def d__law_plan : He.DefD := ⟨("_law_plan", none), "_law_plan", "_law_plan", defArgs s__law_plan, defBody s__law_plan, defScope s__law_plan, [], []⟩
def d__law_marks : He.DefD := ⟨("_law_marks", none), "_law_marks", "_law_marks", defArgs s__law_marks, defBody s__law_marks, defScope s__law_marks, [], []⟩
def d__law_rules : He.DefD := ⟨("_law_rules", none), "_law_rules", "_law_rules", defArgs s__law_rules, defBody s__law_rules, defScope s__law_rules, [], []⟩
def d__law_texts : He.DefD := ⟨("_law_texts", none), "_law_texts", "_law_texts", defArgs s__law_texts, defBody s__law_texts, defScope s__law_texts, [], []⟩
def d__law_house : He.DefD := ⟨("_law_house", none), "_law_house", "_law_house", defArgs s__law_house, defBody s__law_house, defScope s__law_house, [], []⟩
def d__law_value : He.DefD := ⟨("_law_value", none), "_law_value", "_law_value", defArgs s__law_value, defBody s__law_value, defScope s__law_value, [], []⟩
def d__law_whole : He.DefD := ⟨("_law_whole", none), "_law_whole", "_law_whole", defArgs s__law_whole, defBody s__law_whole, defScope s__law_whole, [], []⟩
def d__law_is_value : He.DefD := ⟨("_law_is_value", none), "_law_is_value", "_law_is_value", defArgs s__law_is_value, defBody s__law_is_value, defScope s__law_is_value, [], []⟩
def d__law_number_text : He.DefD := ⟨("_law_number_text", none), "_law_number_text", "_law_number_text", defArgs s__law_number_text, defBody s__law_number_text, defScope s__law_number_text, [], []⟩
def d__law_laid : He.DefD := ⟨("_law_laid", none), "_law_laid", "_law_laid", defArgs s__law_laid, defBody s__law_laid, defScope s__law_laid, [], []⟩
def d__law_first : He.DefD := ⟨("_law_first", none), "_law_first", "_law_first", defArgs s__law_first, defBody s__law_first, defScope s__law_first, [], []⟩
def d__law_due : He.DefD := ⟨("_law_due", none), "_law_due", "_law_due", defArgs s__law_due, defBody s__law_due, defScope s__law_due, [], []⟩
def d__law_told : He.DefD := ⟨("_law_told", none), "_law_told", "_law_told", defArgs s__law_told, defBody s__law_told, defScope s__law_told, [], []⟩
def d__law_odd : He.DefD := ⟨("_law_odd", none), "_law_odd", "_law_odd", defArgs s__law_odd, defBody s__law_odd, defScope s__law_odd, [], []⟩
def d_law : He.DefD := ⟨("law", none), "law", "law", defArgs s_law, defBody s_law, defScope s_law, [], []⟩
def d_RestOf_init : He.DefD := ⟨("RestOf", some "__init__"), "__init__", "RestOf.__init__", defArgs s_RestOf_init, defBody s_RestOf_init, defScope s_RestOf_init, [], []⟩
def d_RestOf_holds : He.DefD := ⟨("RestOf", some "holds"), "holds", "RestOf.holds", defArgs s_RestOf_holds, defBody s_RestOf_holds, defScope s_RestOf_holds, [], []⟩
def d_RestOf_span : He.DefD := ⟨("RestOf", some "span"), "span", "RestOf.span", defArgs s_RestOf_span, defBody s_RestOf_span, defScope s_RestOf_span, [], []⟩
def d_RestOf_stretches : He.DefD := ⟨("RestOf", some "stretches"), "stretches", "RestOf.stretches", defArgs s_RestOf_stretches, defBody s_RestOf_stretches, defScope s_RestOf_stretches, [], []⟩
def d_NumberKind_has : He.DefD := ⟨("NumberKind", some "has"), "has", "NumberKind.has", defArgs s_NumberKind_has, defBody s_NumberKind_has, defScope s_NumberKind_has, [], []⟩
def d_NumberKind_text_of : He.DefD := ⟨("NumberKind", some "text_of"), "text_of", "NumberKind.text_of", defArgs s_NumberKind_text_of, defBody s_NumberKind_text_of, defScope s_NumberKind_text_of, [], []⟩
def d_CountKind_has : He.DefD := ⟨("CountKind", some "has"), "has", "CountKind.has", defArgs s_CountKind_has, defBody s_CountKind_has, defScope s_CountKind_has, [], []⟩
def d_CountKind_text_of : He.DefD := ⟨("CountKind", some "text_of"), "text_of", "NumberKind.text_of", defArgs s_NumberKind_text_of, defBody s_NumberKind_text_of, defScope s_NumberKind_text_of, [], []⟩
def d_DayKind_has : He.DefD := ⟨("DayKind", some "has"), "has", "DayKind.has", defArgs s_DayKind_has, defBody s_DayKind_has, defScope s_DayKind_has, [], []⟩
def d_DayKind_text_of : He.DefD := ⟨("DayKind", some "text_of"), "text_of", "DayKind.text_of", defArgs s_DayKind_text_of, defBody s_DayKind_text_of, defScope s_DayKind_text_of, [], []⟩
def d_ThingKind_has : He.DefD := ⟨("ThingKind", some "has"), "has", "RankKind.has", defArgs s_RankKind_has, defBody s_RankKind_has, defScope s_RankKind_has, [], []⟩
def d_ThingKind_text_of : He.DefD := ⟨("ThingKind", some "text_of"), "text_of", "ThingKind.text_of", defArgs s_ThingKind_text_of, defBody s_ThingKind_text_of, defScope s_ThingKind_text_of, [], []⟩
def d_ListKind_has : He.DefD := ⟨("ListKind", some "has"), "has", "ListKind.has", defArgs s_ListKind_has, defBody s_ListKind_has, defScope s_ListKind_has, [], []⟩
def d_ListKind_text_of : He.DefD := ⟨("ListKind", some "text_of"), "text_of", "ListKind.text_of", defArgs s_ListKind_text_of, defBody s_ListKind_text_of, defScope s_ListKind_text_of, [], []⟩
def d_RankKind_has : He.DefD := ⟨("RankKind", some "has"), "has", "RankKind.has", defArgs s_RankKind_has, defBody s_RankKind_has, defScope s_RankKind_has, [], []⟩
def d_RankKind_row : He.DefD := ⟨("RankKind", some "row"), "row", "RankKind.row", defArgs s_RankKind_row, defBody s_RankKind_row, defScope s_RankKind_row, [], []⟩
def d_ThingKind_row : He.DefD := ⟨("ThingKind", some "row"), "row", "ThingKind.row", defArgs s_ThingKind_row, defBody s_ThingKind_row, defScope s_ThingKind_row, [], []⟩
def d_House_init : He.DefD := ⟨("House", some "__init__"), "__init__", "House.__init__", defArgs s_House_init, defBody s_House_init, defScope s_House_init, [], []⟩
def d_House_add : He.DefD := ⟨("House", some "add"), "add", "House.add", defArgs s_House_add, defBody s_House_add, defScope s_House_add, [], []⟩
def d_House_tongue_named : He.DefD := ⟨("House", some "tongue_named"), "tongue_named", "House.tongue_named", defArgs s_House_tongue_named, defBody s_House_tongue_named, defScope s_House_tongue_named, [], []⟩
def d_House_word : He.DefD := ⟨("House", some "word"), "word", "House.word", defArgs s_House_word, defBody s_House_word, defScope s_House_word, [], []⟩
def d_House_declare : He.DefD := ⟨("House", some "declare"), "declare", "House.declare", defArgs s_House_declare, defBody s_House_declare, defScope s_House_declare, [.bl false], []⟩
def d_House_ranks : He.DefD := ⟨("House", some "ranks"), "ranks", "House.ranks", defArgs s_House_ranks, defBody s_House_ranks, defScope s_House_ranks, [], []⟩
def d_House_things : He.DefD := ⟨("House", some "things"), "things", "House.things", defArgs s_House_things, defBody s_House_things, defScope s_House_things, [], []⟩
def d_House_tongues : He.DefD := ⟨("House", some "tongues"), "tongues", "House.tongues", defArgs s_House_tongues, defBody s_House_tongues, defScope s_House_tongues, [], []⟩
def d_House_own_word : He.DefD := ⟨("House", some "own_word"), "own_word", "House.own_word", defArgs s_House_own_word, defBody s_House_own_word, defScope s_House_own_word, [], []⟩
def d_Tongue_init : He.DefD := ⟨("Tongue", some "__init__"), "__init__", "Tongue.__init__", defArgs s_Tongue_init, defBody s_Tongue_init, defScope s_Tongue_init, [], []⟩
def fn0 : List He.DefD := [d_all_rests, d_made, d_holds, d_turned, d_bits_in, d_below, d_months_of, d_first_of, d_whole_turns, d_year_and_rest, d_date_of, d_shown_day, d_grouped, d_figures_of, d_shown_number, d_laid, d_road, d_word_of, d_is_whole, d_named, d_kind_named, d_is_value, d_value_text, d_is_thing_text, d__law_cell_at, d__law_signs, d__law_words, d__law_plan, d__law_marks, d__law_rules]
def fn1 : List He.DefD := [d__law_texts, d__law_house, d__law_value, d__law_whole, d__law_is_value, d__law_number_text, d__law_laid, d__law_first, d__law_due, d__law_told, d__law_odd, d_law, d_RestOf_init, d_RestOf_holds, d_RestOf_span, d_RestOf_stretches, d_NumberKind_has, d_NumberKind_text_of, d_CountKind_has, d_CountKind_text_of, d_DayKind_has, d_DayKind_text_of, d_ThingKind_has, d_ThingKind_text_of, d_ListKind_has, d_ListKind_text_of, d_RankKind_has, d_RankKind_row, d_ThingKind_row, d_House_init]
def fn2 : List He.DefD := [d_House_add, d_House_tongue_named, d_House_word, d_House_declare, d_House_ranks, d_House_things, d_House_tongues, d_House_own_word, d_Tongue_init]
def fn : List He.DefD := fn0 ++ fn1 ++ fn2
def fa0 : List He.Fa := [.glo "all_rests", .glo "made", .glo "holds", .glo "turned", .glo "bits_in", .glo "below", .glo "months_of", .glo "first_of", .glo "whole_turns", .glo "year_and_rest", .glo "date_of", .glo "shown_day", .glo "grouped", .glo "figures_of", .glo "shown_number", .glo "laid", .glo "road", .glo "word_of", .glo "is_whole", .glo "named", .glo "kind_named", .glo "is_value", .glo "value_text", .glo "is_thing_text", .glo "_law_cell_at", .glo "_law_signs", .glo "_law_words", .glo "_law_plan", .glo "_law_marks", .glo "_law_rules"]
def fa1 : List He.Fa := [.glo "_law_texts", .glo "_law_house", .glo "_law_value", .glo "_law_whole", .glo "_law_is_value", .glo "_law_number_text", .glo "_law_laid", .glo "_law_first", .glo "_law_due", .glo "_law_told", .glo "_law_odd", .glo "law", .glo "RestOf", .glo "NumberKind", .glo "CountKind", .glo "DayKind", .glo "RankKind", .glo "ThingKind", .glo "ListKind", .glo "House", .glo "Tongue", .glo "NoThing", .glo "NoValue", .glo "SayError", .free "len", .free "range", .free "enumerate", .free "sorted", .free "sum", .free "divmod"]
def fa2 : List He.Fa := [.free "abs", .free "max", .free "min", .free "str", .free "int", .free "bool", .free "list", .free "isinstance", .free "reversed", .free "all", .free "ValueError", .int "END" (10 ^ 60), .int "TURN" 300, .int "MOST_IN_LIST" 8, .str "LETTERS" "abcdefghijklmnopqrstuvwxyzABCDEFGHIJKLMNOPQRSTUVWXYZ", .cls "RestOf", .cls "NumberKind", .cls "CountKind", .cls "DayKind", .cls "RankKind", .cls "ThingKind", .cls "ListKind", .cls "House", .cls "Tongue", .noat "RestOf" "by", .noat "RestOf" "low", .noat "RestOf" "high", .noat "House" "kind_row", .noat "House" "rank_row", .noat "House" "thing_row"]
def fa3 : List He.Fa := [.noat "House" "by_name", .noat "House" "thing_texts", .noat "House" "declared", .noat "House" "pieces_here", .noat "Tongue" "name", .noat "Tongue" "falls", .noat "Tongue" "rules", .noat "Tongue" "joiners", .noat "Tongue" "figures", .noat "Tongue" "calendar", .noat "Tongue" "dayform", .meth "RestOf" "holds", .meth "RestOf" "span", .meth "RestOf" "stretches", .meth "NumberKind" "has", .meth "NumberKind" "text_of", .meth "CountKind" "has", .meth "CountKind" "text_of", .meth "DayKind" "has", .meth "DayKind" "text_of", .meth "ThingKind" "has", .meth "ThingKind" "text_of", .meth "ListKind" "has", .meth "ListKind" "text_of", .meth "RankKind" "has", .meth "RankKind" "row", .meth "ThingKind" "row", .meth "House" "add", .meth "House" "tongue_named", .meth "House" "word"]
def fa4 : List He.Fa := [.meth "House" "declare", .meth "House" "ranks", .meth "House" "things", .meth "House" "tongues", .meth "House" "own_word", .mkr "RestOf", .mkr "House", .mkr "Tongue", .exc "NoThing", .exm "NoThing" "SayError" true, .keep "NoThing"]
def fa : List He.Fa := fa0 ++ fa1 ++ fa2 ++ fa3 ++ fa4
def loose0 : List PySem.Str := ["_wall", "SayError", "NoTongue", "NoThing", "NoMessage", "NoValue", "divisor", "all_rests", "laid_over", "Condition", "RestOf", "SelfOf", "NotOf", "GroupOf", "AllOf", "made", "copied", "holds", "turned", "bits_in", "below", "set_of", "exact", "set_for", "END", "TURN", "months_of", "first_of", "whole_turns", "year_and_rest"]
def loose1 : List PySem.Str := ["date_of", "shown_day", "grouped", "figures_of", "shown_number", "laid", "MARKS", "is_choice", "inner_of", "every_part", "calls_of", "road", "word_of", "MOST_IN_LIST", "is_whole", "GapKind", "NumberKind", "CountKind", "DayKind", "RankKind", "named", "ThingKind", "ListKind", "kind_named", "is_value", "value_text", "LETTERS", "ASKED_OF", "is_thing_text", "copy_of"]
def loose2 : List PySem.Str := ["bears", "House", "Tongue", "_law_cell_at", "_law_signs", "_law_words", "_law_plan", "_law_marks", "_law_rules", "_law_texts", "_law_house", "_law_value", "_law_whole", "_law_is_value", "_law_number_text", "_law_laid", "_law_first", "_law_due", "_law_told", "_law_odd"]
def loose : List PySem.Str := loose0 ++ loose1 ++ loose2
/-- a class without an __init__ of its own -/
def plainB (K : PySem.W.Frag) (x : Str) : Bool := PySem.W.makesIn K (He.ga K x) && (He.eqO (PySem.W.findIn K (.ref (He.ga K x)) "__init__") (some (some (.builtin "object.__init__"))) && PySem.W.keepIn K (.ref (He.ga K x)))
def excB (K : PySem.W.Frag) (x : Str) : Bool := He.eqO (PySem.W.findIn K (.ref (He.ga K x)) "__getattribute__") (some (some (.builtin "BaseException.__getattribute__"))) && (He.eqO (PySem.W.findIn K (.ref (He.ga K x)) "__getattr__") (some none) && (PySem.W.hasDictIn K (He.ga K x) &&
  (He.eqO (PySem.W.findIn K (.ref (He.ga K x)) "__class__") (some (some (.builtin "object.__class__"))) && (He.eqO (PySem.W.specialIn K (.builtin "object.__class__") "__get__") (some (some (.builtin "getset_descriptor.__get__"))) && (decide (PySem.W.takesIn K (.builtin "object.__class__") = some true) && decide (PySem.W.mroIn K (He.ga K x) (.type "object") = some true))))))
def kitB (K : PySem.W.Frag) (x : Str) (v : Value) (b : Bool) : Bool := decide (PySem.W.kitOne K (.ref (He.ga K x)) v = some b)
def more (K : PySem.W.Frag) : Bool := (plainB K "NumberKind" && plainB K "CountKind" && plainB K "DayKind" && plainB K "RankKind" && plainB K "ThingKind" && plainB K "ListKind") && (excB K "NoThing" && (kitB K "NoThing" (.ref (He.ga K "NoThing")) true && (kitB K "NoThing" (.type "ValueError") true && kitB K "NoThing" (.ref (He.ga K "NoValue")) false)))
/-! ### the part of the heap that is looked at, by stages; each address and object brought to its head first -/
def refsIn (o : Obj) : List Addr := match o.data with
  | .dict es _ => es.toList.flatMap fun e => He.refV e.val
  | _ => []
def codesIn (o : Obj) : List Addr := match o.data with
  | .func fd => He.refV fd.code ++ He.refV fd.defaults
  | _ => []
def nsOf (o : Obj) : List Addr := match o.data with
  | .cls cd => [cd.ns]
  | _ => []
def via (g : Addr → Option Obj) (f : Obj → List Addr) (as : List Addr) : List Addr := as.flatMap fun a => match g a with
  | some o => f o
  | none => []
def frL {α : Type} : List Addr → List Addr → (List Addr → α) → α
  | [], acc, k => k acc
  | a :: r, acc, k => HandSHeadRun.frNat a fun a => frL r (a :: acc) k
theorem frL_eq {α : Type} (k : List Addr → α) : ∀ l acc, frL l acc k = k (l.reverse ++ acc)
  | [], _ => rfl
  | a :: r, acc => by
    show HandSHeadRun.frNat a (fun a => frL r (a :: acc) k) = _
    rw [HandSHeadRun.frNat_eq, frL_eq k r, List.reverse_cons, List.append_assoc] <;> rfl
def frO {α : Type} (o : Obj) (k : Obj → α) : α := match o with
  | ⟨c, d, dt, sl⟩ => match dt with
    | .func fd => (match fd with | ⟨n1, n2, n3, n4, n5, n6, n7, n8, n9, n10, n11, n12, n13, n14, n15⟩ => k ⟨c, d, .func ⟨n1, n2, n3, n4, n5, n6, n7, n8, n9, n10, n11, n12, n13, n14, n15⟩, sl⟩)
    | .cls cd => (match cd with | ⟨m1, m2, m3, m4, m5, m6, m7, m8, m9, m10, m11⟩ => HandSHeadRun.frNat m4 fun m4 => k ⟨c, d, .cls ⟨m1, m2, m3, m4, m5, m6, m7, m8, m9, m10, m11⟩, sl⟩)
    | dt => k ⟨c, d, dt, sl⟩
theorem frO_eq {α : Type} (o : Obj) (k : Obj → α) : frO o k = k o := by
  obtain ⟨c, d, dt, sl⟩ := o
  cases dt with
  | func fd => rfl
  | cls cd =>
    obtain ⟨m1, m2, m3, m4, m5, m6, m7, m8, m9, m10, m11⟩ := cd
    exact HandSHeadRun.frNat_eq m4 (fun m4 => k ⟨c, d, .cls ⟨m1, m2, m3, m4, m5, m6, m7, m8, m9, m10, m11⟩, sl⟩)
  | _ => rfl
def frK {α : Type} : PySem.W.Frag → PySem.W.Frag → (PySem.W.Frag → α) → α
  | [], acc, k => k acc
  | (a, o) :: r, acc, k => HandSHeadRun.frNat a fun a => frO o fun o => frK r ((a, o) :: acc) k
theorem frK_eq {α : Type} (k : PySem.W.Frag → α) : ∀ l acc, frK l acc k = k (l.reverse ++ acc)
  | [], _ => rfl
  | (a, o) :: r, acc => by
    show HandSHeadRun.frNat a (fun a => frO o fun o => frK r ((a, o) :: acc) k) = _
    rw [HandSHeadRun.frNat_eq, frO_eq, frK_eq k r, List.reverse_cons, List.append_assoc] <;> rfl
/-- the addresses that the module's names lead to, and the functions' code objects -/
def asM {α : Type} (g : Addr → Option Obj) (k : List Addr → α) : α :=
  frL (via g refsIn [mainGlobals]) [] fun a1 => frL (via g refsIn (via g nsOf a1)) [] fun a3 => frL (via g nsOf a1 ++ (via g codesIn a1 ++ via g codesIn a3)) [] fun a4 => k (mainGlobals :: (a1 ++ (a3 ++ a4)))
theorem asM_ex {α : Type} (g : Addr → Option Obj) (k : List Addr → α) : ∃ as, asM g k = k as := by
  unfold asM
  rw [frL_eq, frL_eq, frL_eq]
  exact ⟨_, rfl⟩
abbrev AlM : Type := He.AlD × Bool
def seenK (fa : List He.Fa) (fn : List He.DefD) (ex : PySem.W.Frag → Bool) (K : PySem.W.Frag) : AlM := (He.obsD fa fn K, ex K)
def obsM (fa : List He.Fa) (fn : List He.DefD) (ex : PySem.W.Frag → Bool) (g : Addr → Option Obj) : AlM := asM g fun as => frK (He.frG g as) [] fun K => seenK fa fn ex K
theorem frag_rev {K : PySem.W.Frag} {g : Addr → Option Obj} (h : ∀ p ∈ K, g p.1 = some p.2) : ∀ p ∈ K.reverse ++ [], g p.1 = some p.2 := fun p hp => h p (by
  rw [List.append_nil] at hp
  exact List.mem_reverse.mp hp)
theorem obsM_ex (fa : List He.Fa) (fn : List He.DefD) (ex : PySem.W.Frag → Bool) (h : Heap) : ∃ K : PySem.W.Frag, K.In h ∧ obsM fa fn ex h.get? = seenK fa fn ex K := by
  obtain ⟨as, e⟩ := asM_ex h.get? fun as => frK (He.frG h.get? as) [] fun K => seenK fa fn ex K
  refine ⟨(He.frG h.get? as).reverse ++ [], fun a o hl => ?_, e.trans (frK_eq _ _ _)⟩
  exact frag_rev (fun p hp => He.frG_mem (show (p.1, p.2) ∈ _ from hp)) (a, o) (He.lookup_mem hl)
def hookM (fa : List He.Fa) (fn : List He.DefD) (ex : PySem.W.Frag → Bool) : PySem.W.Hook where
  α := AlM
  obs := fun s => obsM fa fn ex s.heap.get?
  val := fun _ => (He.valD fn, true)
  says := fun _ h => ∃ K : PySem.W.Frag, K.In h ∧ He.SaysD fa fn K ∧ ex K = true
  of := fun _ s e => by
    obtain ⟨K, hK, q⟩ := obsM_ex fa fn ex s.heap
    have z : seenK fa fn ex K = (He.valD fn, true) := q.symm.trans e
    exact ⟨K, hK, congrArg (fun z : AlM => z.1) z, congrArg (fun z : AlM => z.2) z⟩
  keeps := fun _ _ _ ⟨K, hK, c⟩ k => ⟨K, PySem.W.Frag.In.keeps hK k, c⟩
abbrev R : PySem.W.OpenRow := PySem.W.OpenLaw.row PySem.Challenge.rw_saywell_k71_values_and_their_texts
abbrev hk : PySem.W.Hook := hookM fa fn more
def ob (s : PySem.W.SharedT) : AlM := obsM fa fn more (HandSHeadRun.getT s)
theorem ob_eq (s : PySem.W.SharedT) : ob s = hk.obs s.abs := by
  have e : HandSHeadRun.getT s = s.abs.heap.get? := funext (HandSHeadRun.getT_eq s)
  show obsM fa fn more (HandSHeadRun.getT s) = obsM fa fn more s.abs.heap.get?
  rw [e]
end K71

set_option maxHeartbeats 0
namespace K71
open PySem PySem.Spec PyProof.Rows L2
theorem runF (w : World) : HandSHeadRun.RunEq R (PySem.W.view R.prog [94]) hk ob 20000 loose (w.withFollow "special-get-raises" false) := by
  intro os
  kernel_rfl
theorem runT (w : World) : HandSHeadRun.RunEq R (PySem.W.view R.prog [94]) hk ob 20000 loose (w.withFollow "special-get-raises" true) := by
  intro os
  kernel_rfl
theorem run (w : World) : HandSHeadRun.RunEq R (PySem.W.view R.prog [94]) hk ob 20000 loose w := PySem.W.byRow2 "special-get-raises" runF runT w
end K71

set_option maxHeartbeats 2000000
/-! K71Kit: rules that this claim wants beyond the layer's own: an instance of a class without __init__, list(reversed(a list)), a list comprehension whose element may raise. -/
namespace K71
open PySem PySem.Spec PyProof.Rows L2
/-! ### C() of a class that has no __init__ of its own -/
structure PlainC (K : PySem.W.Frag) (C : Addr) : Prop where
  makes : PySem.W.makesIn K C = true
  init : PySem.W.findIn K (.ref C) "__init__" = some (some (.builtin "object.__init__"))
  kp : PySem.W.keepIn K (.ref C) = true
def tPlain (C : Addr) : TE := fun _ H Q => ∀ x dx, H x = none → H dx = none → dx ≠ x → Q (.ref x) (upd (upd H dx (.own x)) x (.ins C dx []))
theorem pe_plain {X : Cx} {x : Str} {C : Addr} {p pos : Pos} (M : PlainC X.K C) (hg : Gl X x) (hm : X.mg x = some (.ref C)) (hdb : (x == ("__debug__" : Str)) = false := by decide) : PE X (.Call (.Name x p) [] [] pos) (tPlain C) := by
  refine ⟨fun pins s σ H Q I h => ?_⟩
  refine wpAny_Call_Name_kw (ld_glob I hg hm ?_ hdb)
  refine PySem.W.callWith_K0 I.kIn M.kp (wpAny_call ?_)
  have J := Inv.made (C := C) I
  have Y := PySem.W.makes_of (M := model X.prog X.w) I.kIn M.makes
  have hq := h (s.heap.objs.size + 1) s.heap.objs.size (I.hok.fresh (Nat.le_succ _)) (I.hok.fresh (Nat.le_refl _)) (Nat.ne_of_lt (Nat.lt_succ_self _))
  have e2 : ((s.heap.push PySem.W.emptyDict).push (PySem.W.instObj C s.heap.objs.size)).get? (s.heap.objs.size + 1) = some (PySem.W.instObj C s.heap.objs.size) := by
    have z := Heap.get?_push_size (s.heap.push PySem.W.emptyDict) (o := PySem.W.instObj C s.heap.objs.size) rfl
    rwa [Heap.size_push] at z
  refine make_map0 I.kIn M.makes M.init (fun self => PySem.W.Looks.of_pure (PySem.W.oi_bind self)) ?_
  have t1 : PySem.W.Looks (model X.prog X.w) ((s.heap.push PySem.W.emptyDict).push (PySem.W.instObj C s.heap.objs.size)) (typeOf (.ref (s.heap.objs.size + 1))) (.ref C) := (PySem.W.Looks.ld e2).andThen .now
  have t2 : PySem.W.Looks (model X.prog X.w) ((s.heap.push PySem.W.emptyDict).push (PySem.W.instObj C s.heap.objs.size)) (isInstance (.ref (s.heap.objs.size + 1)) (.type "object")) true :=
    t1.andThen (Y.top.keeps fun b o e => Heap.get?_push_of_some _ (Heap.get?_push_of_some _ e))
  refine codeAny_call_builtin PySem.W.oi_plain PySem.W.entry_oi (@PySem.W.check_slot (model X.prog X.w) _ _ _ "object.__init__" "object" "__init__" (.ref (s.heap.objs.size + 1)) [] [] _ PySem.W.oi_kind PySem.W.oi_split t2 (PySem.W.oi_args _) ?_)
  rw [PySem.W.oi_run]
  exact wpAny_pure (And.intro rfl ⟨V.ref (s.heap.objs.size + 1), _, J, rfl, hq⟩)
/-! ### list(reversed(a list)) -/
section
variable {prog : Program} {w : World} {A : Around} {E : Value → Shared → Prop} {s : Shared}
/-- the items that the backward walk hands out -/
abbrev RevItems (items acc : Array Value) : Prop := ItemsOf (fun i v => items[items.size - 1 - i]? = some v) acc items.size
/-- S, a new list at the heap's word, takes what the backward iterator gives -/
theorem rev_fill {S it l : Addr} {items : Array Value} {res : Value} {c : Nat} {R : Result → Shared → Prop} (hh : A.handled = none) (hit : s.heap.IsRevIter it l ((items.size : Int) - 1)) (hl : s.heap.IsList l items) (hSi : S ≠ it) (hSl : S ≠ l) (hne : l ≠ it)
    (hn : items.size ≤ sizeLine) (hS : s.heap.get? S = some { cls := .type "list", data := .seq #[] c })
    (hR : ∀ (h' : Heap) (tk : Nat) (acc : Array Value) (k : Nat), (∀ b o, b ≠ S → b ≠ it → s.heap.get? b = some o → h'.get? b = some o) → h'.get? S = some { cls := .type "list", dict := none, data := .seq acc k, slots := #[] } → RevItems items acc → R (.ok (.ret res)) { s with heap := h', toks := tk }) :
    wpAny (model prog w) A.in1 (Builtin.List.listExtendWith (.ref S) (.ref it) res)
      (fun fin s' => match fin with | .done f => R (.ok f) s' | .again c' => c'.quiet = true ∧ codeAny (model prog w) A c' R s') (fun e s' => R (.error e) s') s := by
  have hh1 : A.in1.handled = none := hh
  have Wk := (Walks.listRev (prog := prog) (w := w) (A := A.in1) hh1 it l hne items).toS
  have outside : S ∉ [it, l] := fun hm => by
    rcases List.mem_cons.mp hm with e | hm
    · exact hSi e
    · exact hSl (List.mem_singleton.mp hm)
  have hT : s.TypeIs (.ref it) "list_reverseiterator" := hit.typeIs
  have apart : Builtin.List.listSameRef (.ref S) (.ref it) = false := by simp [Builtin.List.listSameRef, hSi]
  unfold Builtin.List.listExtendWith
  refine wpAny_bind (wpAny_typeOf hT ?_)
  rw [if_neg (by rw [apart]; decide)]
  refine wpAny_bind (wpAny_pyIter_revIter hit (wpAny_bind (wpAny_holding ?_)))
  unfold Builtin.List.listLengthHint
  refine wpAny_bind (wpAny_specialOf hT RT.nolen_lri ?_)
  show wpAny _ _ (specialOf (Value.ref it) (Str.ofString "__length_hint__") >>= _) _ _ _
  refine wpAny_bind (wpAny_specialOf hT RT.hint_lri ?_)
  generalize hid : ("list_reverseiterator.__length_hint__" : String) = hint
  wp_delta
  rw [show splitId hint = some ("list_reverseiterator", "__length_hint__") from by subst hid; decide +kernel]
  subst hid
  refine wpAny_bind (wpAny_isInstance (b := true) hT (by rw [isSubtype_type]; kernel_rfl) (wpAny_pure ?_))
  rw [if_neg (by decide)]
  have e0 : ((items.size : Nat) : Int) - 1 - ((0 : Nat) : Int) = (items.size : Int) - 1 := by omega
  refine wpAny_pure ⟨plainId_quiet PySem.F.plain_extend_loop _, codeAny_extend_loopS Wk hn S outside res items.size 0 _ _ _ rfl (Nat.zero_le _) ⟨Nat.zero_le _, by rw [e0]; exact hit, hl⟩ hS (ItemsOf.nil _) fun s' acc k hm hS' hacc => ?_⟩
  rw [Moved.eq_with hm]
  refine hR s'.heap s'.toks acc k (fun b o h1 h2 e => hm.heap b o (fun hmem => ?_) e) hS' hacc
  rcases List.mem_cons.mp hmem with z | hmem
  · exact h1 z
  · exact h2 (List.mem_singleton.mp hmem)
theorem rev_init {S it l : Addr} {items : Array Value} {R : Result → Shared → Prop} (hh : A.handled = none) (hit : s.heap.IsRevIter it l ((items.size : Int) - 1)) (hl : s.heap.IsList l items) (hSi : S ≠ it) (hSl : S ≠ l) (hne : l ≠ it)
    (hn : items.size ≤ sizeLine) (hS : s.heap.get? S = some { cls := .type "list", data := .seq #[] })
    (hR : ∀ (h' : Heap) (tk : Nat) (acc : Array Value) (k : Nat), (∀ b o, b ≠ S → b ≠ it → s.heap.get? b = some o → h'.get? b = some o) → h'.get? S = some { cls := .type "list", dict := none, data := .seq acc k, slots := #[] } → RevItems items acc → R (.ok (.ret .none)) { s with heap := h', toks := tk }) :
    wpAny (model prog w) A.in1 (Builtin.«list.__init__» ⟨[.ref S, .ref it], []⟩)
      (fun fin s' => match fin with | .done f => R (.ok f) s' | .again c' => c'.quiet = true ∧ codeAny (model prog w) A c' R s') (fun e s' => R (.error e) s') s := by
  show wpAny _ _ (do let old ← Builtin.List.listItems (.ref S); Builtin.List.listUpdate (.ref S) (fun _ => #[]); letGo old.toList.reverse; Builtin.List.listExtendWith (.ref S) (.ref it) .none) _ _ s
  refine wpAny_bind ?_
  unfold Builtin.List.listItems
  refine wpAny_bind (wpAny_seqItems hS rfl (wpAny_pure ?_))
  show wpAny _ _ (updateSeq S (fun _ => #[]) >>= fun _ => letGo (#[] : Array Value).toList.reverse >>= fun _ => Builtin.List.listExtendWith (.ref S) (.ref it) .none) _ _ s
  refine wpAny_bind (wpAny_updateSeq hS rfl (wpAny_bind (wpAny_letGo ?_)))
  have hS2 := Heap.get?_update_self (Obj.mapSeq (fun _ => (#[] : Array Value))) hS rfl
  have oth : ∀ b o, b ≠ S → s.heap.get? b = some o → (s.heap.update S (Obj.mapSeq (fun _ => (#[] : Array Value)))).get? b = some o := fun b o hb e => (Heap.get?_update_other _ _ (Ne.symm hb)).trans e
  obtain ⟨ol, hol, rl⟩ := id hl
  refine rev_fill (s := { s with heap := s.heap.update S (Obj.mapSeq (fun _ => (#[] : Array Value))) }) hh (hit.at fun o e => oth it o hSi.symm e) ⟨ol, oth l ol hSl.symm hol, rl⟩ hSi hSl hne hn hS2 fun h' tk acc k hk => hR h' tk acc k fun b o h1 h2 e => hk b o h1 h2 (oth b o h1 e)
theorem call_listRev {it l : Addr} {items : Array Value} {Q : Value → Shared → Prop} (hh : A.handled = none) (hit : s.heap.IsRevIter it l ((items.size : Int) - 1)) (hl : s.heap.IsList l items) (hne : l ≠ it) (hn : items.size ≤ sizeLine)
    (hQ : ∀ (h' : Heap) (tk : Nat) (acc : Array Value) (k : Nat), (∀ b o, b ≠ it → s.heap.get? b = some o → h'.get? b = some o) → h'.get? s.heap.objs.size = some { cls := .type "list", dict := none, data := .seq acc k, slots := #[] } → RevItems items acc → Q (.ref s.heap.objs.size) { s with heap := h', toks := tk }) :
    wpAny (model prog w) A (call (.type "list") [.ref it]) Q E s := by
  obtain ⟨oi, hoi, ri⟩ := id hit
  obtain ⟨ol, hol, rl⟩ := id hl
  have hS : (s.heap.push { cls := .type "list", data := .seq #[] }).get? s.heap.objs.size = some { cls := .type "list", data := .seq #[] } := Heap.get?_push_size _ rfl
  refine callType_codes (Q₁ := fun obj s₁ => obj = .ref s.heap.objs.size ∧ s₁ = { s with heap := s.heap.push { cls := .type "list", data := .seq #[] } }) PySem.F.called_list (PySem.F.typeCall_list_1 _) PySem.F.entry_list_init
    (code_list_new _ ⟨rfl, rfl⟩) fun obj s₁ h₁ => ?_
  obtain ⟨rfl, rfl⟩ := h₁
  refine ⟨⟨_, hS, rfl⟩, PySem.F.args_list_init_2 _ _, rev_init (s := { s with heap := s.heap.push { cls := .type "list", data := .seq #[] } }) (A := A.in1) hh (hit.at fun o e => Heap.get?_push_of_some _ e) (hl.push _) (Nat.ne_of_gt (Heap.lt_size hoi)) (Nat.ne_of_gt (Heap.lt_size hol)) hne hn hS fun h' tk acc k hk hD hacc => ?_⟩
  exact ⟨rfl, hQ h' tk acc k (fun b o hb e => hk b o (Nat.ne_of_lt (Heap.lt_size e)) hb (Heap.get?_push_of_some _ e)) hD hacc⟩
end
def tListRev (K : PySem.W.Frag) (te : TE) : TE := fun σ H Q => te σ H fun v H1 => ∃ (a : Addr) (xs : List V), v = .ref a ∧ SqL K H1 a xs ∧ ∀ q, H1 q = none → Q (.ref q) (upd H1 q (.lst xs.reverse))
section
variable {X : Cx}
theorem pe_listRev {e : Expr} {te : TE} {p p2 pos pos2 : Pos} (hc : X.calm = true) (hg : Gl X "list") (hm : X.mg "list" = none) (hg2 : Gl X "reversed") (hm2 : X.mg "reversed" = none) (he : PE X e te)
    (hs : starEach [e] X.env = (false, eval e X.env) :: starEach [] X.env := by rfl)
    (hs2 : starEach [.Call (.Name "reversed" p2) [e] [] pos2] X.env = (false, eval (.Call (.Name "reversed" p2) [e] [] pos2) X.env) :: starEach [] X.env := by rfl) :
    PE X (.Call (.Name "list" p) [.Call (.Name "reversed" p2) [e] [] pos2] [] pos) (tListRev X.K te) := by
  refine ⟨fun pins s σ H Q I h => ?_⟩
  refine Call_ (ld_blt I hg hm boot_list (PyProof.Rows.callWith_type1 (args_cons (Call_ (ld_blt I hg2 hm2 PyProof.Rows.boot_reversed (PyProof.Rows.callWith_type1 (args_cons (thn (he.run pins s σ H _ I h) fun u s1 hh => args_nil ?_) hs) hs rfl))) hs2) hs2 rfl))
  obtain ⟨v, H1, I1, r1, a, xs, ev, hq, q⟩ := hh
  subst ev
  obtain rfl : u = Value.ref a := r1
  obtain ⟨its, rv, pl, hz⟩ := I1.list hq
  have hlist := pl.isList
  obtain ⟨ol, hol, _⟩ := id hlist
  refine call_reversed_list hlist (args_nil ?_)
  have hne : a ≠ s1.heap.objs.size := Nat.ne_of_lt (Heap.lt_size hol)
  have hn : its.toArray.size ≤ sizeLine := by rw [List.size_toArray, ← rv.length]; exact hz
  refine call_listRev (s := { s1 with heap := s1.heap.push (revObj a ((its.toArray.size : Int) - 1)) }) (I1.ok.hd hc) ⟨_, Heap.get?_push_size _ rfl, rfl, rfl⟩ (hlist.push _) hne hn fun h' tk acc k hk hD hi => ?_
  have le : s1.heap.objs.size ≤ (s1.heap.push (revObj a ((its.toArray.size : Int) - 1))).objs.size := by
    rw [Heap.size_push]
    exact Nat.le_succ _
  have fr : H1 (s1.heap.push (revObj a ((its.toArray.size : Int) - 1))).objs.size = none := I1.hok.fresh le
  have ob : ObjOk X.prog X.w (upd H1 (s1.heap.push (revObj a ((its.toArray.size : Int) - 1))).objs.size (.lst xs.reverse)) h' (s1.heap.push (revObj a ((its.toArray.size : Int) - 1))).objs.size (.lst xs.reverse) :=
    ⟨by rw [List.length_reverse]; exact hz, acc.toList, k, RT.vals_rev rv hi, by rw [Array.toArray_toList]; exact hD⟩
  exact ⟨.ref _, upd H1 _ (.lst xs.reverse), I1.laid (t' := tk) (fun b o e => hk b o (Nat.ne_of_lt (Heap.lt_size e)) (Heap.get?_push_of_some _ e)) le ob, rfl, q _ fr⟩
end
end K71

set_option maxHeartbeats 4000000
/-! K71Comp: y = [elt for target in iter] where a call in elt may raise: the exception leaves the block and goes on in the def. -/
namespace K71
open PySem PySem.Spec PyProof.Rows L2
section
variable {X : Cx} {pins : List (Addr × Obj)} {σ : L2.St} {H3 : Hp} {s3 : Shared} {scope : Scope} {cl : List (Str × Addr)} {fp : List Addr} {E0 : XK}
/-- what a call lets out within the block is, behind the block, in the air of the def -/
theorem comp_air (hstk : X.stack = X.env :: X.outer) (hf : X.env.frame = some X.env.locals) (tk : Takes X (fun cls d _ H => E0 cls d H)) (I3 : Inv X pins σ H3 s3) (f3 : ∀ b ∈ fp, FpOk X pins H3 b)
    {pins5 : List (Addr × Obj)} {σ5 : L2.St} {H5 : Hp} {s5 : Shared} (I5 : Inv (X.blk s3 H3 scope (compEnvC scope cl s3.heap.objs.size X.env) fp) pins5 σ5 H5 s5) {e : Value} {s' : Shared} (c : L2.CX X.prog X.w X.stack H5 s5 E0 e s') :
    notedBy (model X.prog X.w) X.A (compEnvC scope cl s3.heap.objs.size X.env) (CompFails (model X.prog X.w) X.A X.xe (compEnvC scope cl s3.heap.objs.size X.env)) e s' := by
  have x := XE.of_call (X := X.blk s3 H3 scope (compEnvC scope cl s3.heap.objs.size X.env) fp) (W := fun cls d _ H => E0 cls d H) I5 (fun _ _ _ h => h) c
  obtain ⟨a, B, sI, pins', σ', H', cls, d, rfl, J, nb, up, sky, na, os, ag, hE⟩ := x
  obtain ⟨a2, B2, H2, cls2, d2, e2, fl2, _⟩ := c
  cases e2
  obtain ⟨_, _, _, oe2, vs2, T2, oT2, ts2, he2, _, hd2, h12, _, _, hT2, hdT2, h32⟩ := fl2
  -- it flies: the other two makes of an exception in the air part from what the call left
  have fl : HandSPX.FlyingZ B X.stack a (Zc cls d) s'.heap := by
    rcases sky with ⟨_, _, _, oe, vs, he, _, hd, h1⟩ | h | ⟨_, _, _, oe, vs, T, oT, ts, he, _, hd, h1, _, _, hT, hdT, h3⟩
    · rw [he] at he2
      cases he2
      rw [hd] at hd2
      cases hd2
      rw [h1] at h12
      cases h12
    · exact h
    · rw [he] at he2
      cases he2
      rw [hd] at hd2
      cases hd2
      rw [h1] at h12
      cases h12
      rw [hT] at hT2
      cases hT2
      rw [hdT] at hdT2
      cases hdT2
      rw [h3] at h32
      cases h32
  have hfr : X.A.frames = some (X.env :: X.outer) := by rw [I3.ok.frames, hstk]
  rw [hstk] at fl
  show wpAny _ _ (noteFrame (.ref a) (compEnvC scope cl s3.heap.objs.size X.env)) _ _ s'
  rw [noteFrame_env (cenv := compEnvC scope cl s3.heap.objs.size X.env) (env := X.env) (Value.ref a) rfl]
  refine HandSPX.looks_onZ Zc.steady hfr hf fl fun h1 hh up1 => ?_
  obtain ⟨mJ, nJ, _⟩ := J.loc
  have nJ' : sI.heap.Ns s3.heap.objs.size mJ := nJ
  have n1 : h1.Ns s3.heap.objs.size mJ := nJ'.upToSlots (up.trans up1)
  refine ⟨mJ, n1, fun h2 m2 n2 sb => ?_⟩
  have sb : Heap.SameBut s3.heap.objs.size h1 h2 := sb
  have n2 : h2.Ns s3.heap.objs.size m2 := n2
  obtain ⟨k1, k2, k3, oe, vs, T, oT, ts, he, hz, hd, g1, hnT, hTe, hT, hdT, g3⟩ := hh
  obtain ⟨oC, esC, epC, hoC, hdC, _⟩ := id n1
  have aC : a ≠ s3.heap.objs.size := fun q => by
    rw [q, hoC] at he
    cases he
    rw [hdC] at hd
    cases hd
  have TC : T ≠ s3.heap.objs.size := fun q => by
    rw [q, hoC] at hT
    cases hT
    rw [hdC] at hdT
    cases hdT
  have off : ∀ b o, b ≠ s3.heap.objs.size → h1.get? b = some o → h2.get? b = some o := fun b o hb q => (sb.2 b hb).trans q
  -- the ground and the def's state, both without the block's names
  obtain ⟨B', b1, b2⟩ := restrict B fun b => decide (b ≠ s3.heap.objs.size)
  have B'B : ∀ b o, B'.get? b = some o → b ≠ s3.heap.objs.size ∧ B.get? b = some o := fun b o q => by
    by_cases hb : b = s3.heap.objs.size
    · rw [b2 b (by simp [hb])] at q
      cases q
    · exact ⟨hb, by rw [← b1 b (decide_eq_true hb)]; exact q⟩
  have noB : ∀ b, B.get? b = none → B'.get? b = none := fun b q => by
    cases z : B'.get? b with
    | none => rfl
    | some o =>
      have y := (B'B b o z).2
      rw [q] at y
      cases y
  have fr2 : h2.FunFrames B (X.env :: X.outer) := Heap.FunFrames.sameBut sb n2 k3
  have held : HandSPX.HeldZ B' (X.env :: X.outer) a (Zc cls d) X.env.locals h2 :=
    ⟨fun b o q => off b o (B'B b o q).1 (k1 b o (B'B b o q).2), noB a k2, funFrames_none fr2 fun b hb => noB b (fr2.mem hb).1, oe, vs, T, oT, ts, off _ _ aC he, hz, hd, g1, noB T hnT, hTe, off _ _ TC hT, hdT, g3⟩
  unfold PySem.passOn
  refine wpAny_bind (wpAny_field (off _ _ aC he) hd g1 ?_)
  rw [if_neg (show ¬ ((Value.ref T == Value.none) = true) from by simp)]
  show wpAny _ _ (setFlight (.ref a) X.env.frame >>= _) _ _ _
  rw [hf]
  refine wpAny_bind (HandSPX.setFlight_onZ held fun h3 hh3 up3 => wpAny_throw (tk _ _ ?_))
  obtain ⟨G, q1, q2⟩ := restrict sI.heap fun b => decide (b ≠ s3.heap.objs.size)
  have GI : ∀ b o, G.get? b = some o → b ≠ s3.heap.objs.size ∧ sI.heap.get? b = some o := fun b o q => by
    by_cases hb : b = s3.heap.objs.size
    · rw [q2 b (by simp [hb])] at q
      cases q
    · exact ⟨hb, by rw [← q1 b (decide_eq_true hb)]; exact q⟩
  have I7 : Inv X pins σ H' sI := I3.call' (ch := fp) J.os J.base J.hok J.bare fun b hb => ⟨(f3 b hb).2.2.2.1, (f3 b hb).2.1, (f3 b hb).2.2.2.2.1, (f3 b hb).2.2.2.2.2⟩
  have nC : H' s3.heap.objs.size = none := J.free
  obtain ⟨z0, z1, z2, z3, z4, z5⟩ := I3.fpOk (H' := H') (Nat.le_refl s3.heap.objs.size) nC
  have I8 : Inv X pins σ H' { sI with heap := G, toks := sI.toks } := I7.turned (t' := sI.toks) (fun b o hb q => (q1 b (decide_eq_true hb)).trans q) z0 z1 z3 z4 z5
  refine ⟨a, B', { sI with heap := G, toks := sI.toks }, pins, σ, H', cls, d, rfl, I8, fun b o q hb => ?_, fun b o q hnf => ?_, .inr (.inr (by rw [hstk]; exact hh3)), na, os, ag, hE⟩
  · obtain ⟨hne, q'⟩ := GI b o q
    exact (b1 b (decide_eq_true hne)).trans (nb b o q' hb)
  · obtain ⟨hne, q'⟩ := GI b o q
    obtain ⟨sl, e1⟩ := (up.trans up1) b o q' hnf
    obtain ⟨sl2, e2⟩ := up3 b _ (off b _ hne e1) hnf
    exact ⟨sl2, e2⟩
/-- [elt for target in iter] given to y; E0: what elt's calls may let out. The element's term is asked under any wish that takes E0 -/
theorem lc_air {Q : VK} {elt tg iter : Expr} {own : List (Str × Nat)} {pos pos' : Pos} {wi : TI} {g : TG} {te : TE} {use : Option (Value → Sem Unit)} {Qf : Value → Shared → Prop} {H : Hp} {s : Shared} (hstk : X.stack = X.env :: X.outer) (hf : X.env.frame = some X.env.locals)
    (tk : Takes X (fun cls d _ H => E0 cls d H)) (hc : X.calm = true) (hN : X.N.Nodup) (I : Inv X pins σ H s) (hi : PI X tg iter wi) (ok : BlkOk X.N X.env.scope scope own)
    (hg : ∀ (s : Shared) (H : Hp) (C : Addr) (cl : List (Str × Addr)) (fp : List Addr), PG (X.blk s H scope (compEnvC scope cl C X.env) fp) tg g)
    (he : ∀ (s : Shared) (H : Hp) (C : Addr) (cl : List (Str × Addr)) (fp : List Addr) (xe : Value → Shared → Prop), (∀ σ, PassesAt (L2.CX X.prog X.w) ((X.blk s H scope (compEnvC scope cl C X.env) fp).wish xe) σ E0) → PE ((X.blk s H scope (compEnvC scope cl C X.env) fp).wish xe) elt te)
    (hs : ∀ x, foldedSetIterable iter X.env x = pure x) (h : tLc wi g tYes te (own.map (·.2)) σ H Q)
    (hRR : ∀ D (cenv : Env) s' m H', Inv X pins σ H' s' → Q (.ref D) H' → s'.heap.Ns cenv.locals m → FpOk X pins H' cenv.locals → compEnds (model X.prog X.w) X.A X.xe use Qf (.ref D) cenv (.ok .next) s') :
    wpAny (model X.prog X.w) X.A (comprehension (.ListComp elt [⟨tg, iter, [], 0⟩] scope pos) scope X.env pos' (newList []) false (eval iter X.env) use) Qf X.xe s := by
  have hfree : ∀ y ∈ scope.names, y.2 = .free → ∃ c, X.env.cells.lookup y.1 = some c := fun y hy e => (ok.free y hy e).elim (fun k => I.ok.has _ (.inl k)) fun k => I.ok.has _ (.inr k)
  refine comprehension_at (use := use) rfl hs (closure_ok hfree) ok.kind (fun y hy e => by rw [ok.uniq y hy, e]) (thn (hi.run pins s σ H _ I h) fun xv s1 hx => thn hx fun itv s2 h2 => ?_)
  obtain ⟨it, fp, tn, J, H2, e, I2, T, st2, f2, q⟩ := h2
  subst e
  refine wpAny_newObj_type (newEnv_comp ?_) (by show 0 ≤ sizeLine; decide)
  generalize hD : s2.heap.objs.size = D
  have fresh : H2 D = none := I2.hok.fresh (Nat.le_of_eq hD)
  obtain ⟨W, ⟨m0, w0⟩, turn⟩ := q D fresh
  generalize es3 : ({ s2 with heap := s2.heap.push { cls := .type "list", data := .seq ([] : List Value).toArray } } : Shared) = s3
  have h3 : s3.heap = s2.heap.push { cls := .type "list", data := .seq ([] : List Value).toArray } := by rw [← es3]
  have kept3 : ∀ b o, s2.heap.get? b = some o → s3.heap.get? b = some o := fun b o e => by
    rw [h3]
    exact Heap.get?_push_of_some _ e
  have I3 : Inv X pins σ (upd H2 D (.lst [])) s3 := by
    rw [← es3]
    refine I2.laid (t' := s2.toks) (fun b o e => Heap.get?_push_of_some _ e) (Nat.le_of_eq hD) ⟨Nat.zero_le _, [], 0, .nil, ?_⟩
    rw [← hD]
    exact Heap.get?_push_size _ rfl
  have below : ∀ b ∈ fp, b < s2.heap.objs.size := fun b hb => by
    obtain ⟨o, e, _⟩ := T.obj _ _ st2 b hb
    exact Heap.lt_size e
  have f3 : ∀ b ∈ fp, FpOk X pins (upd H2 D (.lst [])) b ∧ b < s3.heap.objs.size := fun b hb => by
    refine ⟨⟨?_, (f2 b hb).2⟩, by rw [h3, Heap.size_push]; exact Nat.lt_succ_of_lt (below b hb)⟩
    rw [upd_ne (by rw [← hD]; exact Nat.ne_of_lt (below b hb))]
    exact (f2 b hb).1
  have st3 : tn 0 s3.heap := T.keep _ _ _ st2 fun b _ o e => kept3 b o e
  have I4 := block_start I3 ok hN f3
  generalize ecl : cellsFrom (s3.heap.objs.size + 1) scope.names (cloFrom X.env.cells scope.names []) = cl at I4
  show codeAny _ _ (.compStart (.ListComp elt [⟨tg, iter, [], 0⟩] scope pos) 0 (.ref it) (.ref D) (compEnvC scope cl s3.heap.objs.size X.env)) (compEnds (model X.prog X.w) X.A X.xe use Qf (.ref D) (compEnvC scope cl s3.heap.objs.size X.env)) { s3 with heap := pushCells (s3.heap.push { cls := .type "dict", data := .dict #[] }) scope.names }
  generalize eH3 : upd H2 D (.lst []) = H3 at I3 I4 w0 f3
  generalize es4 : ({ s3 with heap := pushCells (s3.heap.push { cls := .type "dict", data := .dict #[] }) scope.names } : Shared) = s4 at I4 ⊢
  have st4 : tn 0 s4.heap := T.keep _ _ _ st3 fun b _ o e => by
    rw [← es4]
    exact pushCells_keeps _ _ _ _ (Heap.get?_push_of_some _ e)
  -- the wish of the element: what is noted, then let go
  have pe := he s3 H3 s3.heap.objs.size cl fp (notedBy (model X.prog X.w) X.A (compEnvC scope cl s3.heap.objs.size X.env) (CompFails (model X.prog X.w) X.A X.xe (compEnvC scope cl s3.heap.objs.size X.env)))
    fun σ' pins' H' s' e s'' J' c => comp_air hstk hf tk I3 (fun b hb => (f3 b hb).1) J'.unwish c
  have pg := hg s3 H3 s3.heap.objs.size cl fp
  have wished : ∀ {e : Value} {s' : Shared}, notedBy (model X.prog X.w) X.A (compEnvC scope cl s3.heap.objs.size X.env) (CompFails (model X.prog X.w) X.A X.xe (compEnvC scope cl s3.heap.objs.size X.env)) e s' →
      notedBy (model X.prog X.w) X.A (compEnvC scope cl s3.heap.objs.size X.env) (fun e s' => compEnds (model X.prog X.w) X.A X.xe use Qf (.ref D) (compEnvC scope cl s3.heap.objs.size X.env) (.error e) s') e s' := fun {e s'} z => by
    cases use <;> exact z
  have stat : ∀ {σ' : L2.St} {H' : Hp} {s' : Shared}, Inv (X.blk s3 H3 scope (compEnvC scope cl s3.heap.objs.size X.env) fp) [] σ' H' s' → (∀ b ∈ fp, H' b = none) → ∀ b ∈ fp, FpOk (X.blk s3 H3 scope (compEnvC scope cl s3.heap.objs.size X.env) fp) [] H' b := fun {σ' H' s'} I' hn b hb =>
    ⟨hn b hb, (I'.ok.exf b hb).1, I'.ok.exfs b hb, .inl hb, fun x c e => (I'.ok.exf b hb).2 x c e, fun p hp => by cases hp⟩
  have loop : codeAny (model X.prog X.w) X.A (.compLoop (.ListComp elt [⟨tg, iter, [], 0⟩] scope pos) 0 (.ref it) (.ref D) (compEnvC scope cl s3.heap.objs.size X.env)) (compEnds (model X.prog X.w) X.A X.xe use Qf (.ref D) (compEnvC scope cl s3.heap.objs.size X.env)) s4 := by
    refine compLoop_any (fun n s' => ∃ i H', Inv (X.blk s3 H3 scope (compEnvC scope cl s3.heap.objs.size X.env) fp) [] (wipe σ (own.map (·.2))) H' s' ∧ tn i s'.heap ∧ (∀ b ∈ fp, H' b = none) ∧ W i n H') ?_ m0 ⟨0, H3, I4, st4, fun b hb => (f3 b hb).1.1, w0⟩
    rintro n s5 ⟨i, H5, I5, st5, n5, w5⟩
    rcases turn i n H5 w5 with ⟨stop, qq⟩ | ⟨go, Nx, hNx, step⟩
    · refine thnF (T.done (X.blk s3 H3 scope (compEnvC scope cl s3.heap.objs.size X.env) fp) rfl rfl rfl hc i [] s5 _ H5 (fun _ _ => False) I5 (stat I5 n5) st5 stop) fun r s6 ⟨hr, I6⟩ => ?_
      subst hr
      have I7 : Inv X pins σ H5 s6 := I3.call' (ch := fp) I6.os I6.base I6.hok I6.bare fun b hb => ⟨(f3 b hb).1.2.2.2.1, (f3 b hb).1.2.1, (f3 b hb).1.2.2.2.2.1, (f3 b hb).1.2.2.2.2.2⟩
      have nC : H5 s3.heap.objs.size = none := I6.free
      obtain ⟨m, hn, _⟩ := I6.loc
      exact hRR D (compEnvC scope cl s3.heap.objs.size X.env) s6 m H5 I7 qq hn (I3.fpOk (Nat.le_refl _) nC)
    · refine thnF (T.item (X.blk s3 H3 scope (compEnvC scope cl s3.heap.objs.size X.env) fp) rfl rfl rfl hc i [] s5 _ H5 (fun _ _ => False) I5 (stat I5 n5) st5 go) fun r s6 ⟨u, hr, h6⟩ => ?_
      subst hr
      refine thnF h6 fun _ s7 ⟨x, H7, I7, r7, y7, st7, n7⟩ => ?_
      have I7' := I7.pinned (stat I7 n7) (T.obj _ _ st7)
      refine thnF (pg.run _ s7 _ H7 x u _ I7' r7 (step x H7 y7)) fun _ s8 ⟨σ8, H8, I8, hw8, q8⟩ => wpAny_tests_nil ?_
      have q8' : te σ8 H8 fun y H4 => ∃ acc, H4 D = some (.lst acc) ∧ acc.length < sizeLine ∧ Nx (upd H4 D (.lst (acc ++ [y]))) := q8
      rw [if_pos rfl]
      refine wpAny_mono (pe.run _ s8 σ8 H8 _ (I8.wish _) q8') (fun z s10 ⟨yv, H10, I10, r10, acc, hD10, hz10, nx⟩ => ?_) fun _ _ z => wished z
      refine app_ok (X := X.blk s3 H3 scope (compEnvC scope cl s3.heap.objs.size X.env) fp) I10.unwish hD10 hz10 r10 fun s11 I11 => ?_
      obtain ⟨m', hm, w'⟩ := hNx _ nx
      have pin' : ∀ b ∈ fp, ∀ o, s7.heap.get? b = some o → s11.heap.get? b = some o ∧ (upd H10 D (.lst (acc ++ [yv]))) b = none := fun b hb o e =>
        let z := I11.pin (b, o) (List.mem_append_right _ (List.mem_append_right _ (mem_pinsAt hb e)))
        ⟨z.1, z.2.1⟩
      refine ⟨m', hm, i + 1, _, (I11.unpinned (pins := [])).weak (by rw [← hw8, wipe_length]) (fun j v e => ?_), T.keep _ _ _ st7 fun b hb o e => (pin' b hb o e).1, fun b hb => ?_, w'⟩
      · rw [← hw8] at e
        exact (wipe_some e).1
      · obtain ⟨o, e, _⟩ := T.obj _ _ st7 b hb
        exact (pin' b hb o e).2
  exact codeAny_compStart_list loop (T.self X.A 0 _ _ _ st4 loop)
/-- y = [elt for target in iter] on one line, y a local; the element may raise what E0 says -/
theorem ps_setLcX {i : Nat} {y : Str} {py : Pos} {elt tg iter : Expr} {own : List (Str × Nat)} {pos spos : Pos} {wi : TI} {g : TG} {te : TE} (hstk : X.stack = X.env :: X.outer) (hf : X.env.frame = some X.env.locals) (tk : Takes X (fun cls d _ H => E0 cls d H))
    (hc : X.calm = true) (hN : X.N.Nodup) (hy : X.N[i]? = some y) (hyl : X.env.scope.names.lookup y = some .local)
    (hsw : swapsWith (.ListComp elt [⟨tg, iter, [], 0⟩] scope pos) (some (.Name y py)) spos.line X.env = pure true) (hi : PI X tg iter wi) (ok : BlkOk X.N X.env.scope scope own)
    (hg : ∀ (s : Shared) (H : Hp) (C : Addr) (cl : List (Str × Addr)) (fp : List Addr), PG (X.blk s H scope (compEnvC scope cl C X.env) fp) tg g)
    (he : ∀ (s : Shared) (H : Hp) (C : Addr) (cl : List (Str × Addr)) (fp : List Addr) (xe : Value → Shared → Prop), (∀ σ, PassesAt (L2.CX X.prog X.w) ((X.blk s H scope (compEnvC scope cl C X.env) fp).wish xe) σ E0) → PE ((X.blk s H scope (compEnvC scope cl C X.env) fp).wish xe) elt te)
    (hs : ∀ x, foldedSetIterable iter X.env x = pure x := by intro _; rfl) :
    PS X (.Assign [.Name y py] (.ListComp elt [⟨tg, iter, [], 0⟩] scope pos) spos) (tAsg (tLc wi g tYes te (own.map (·.2))) (gName i)) := by
  refine ⟨fun pins s σ H D I h => ?_⟩
  rw [exec_Assign_Name_used _ _ _ _ hsw]
  refine wpAny_bind (wpAny_standAt (wpAny_bind ?_))
  have h' : tLc wi g tYes te (own.map (·.2)) σ H (fun x H1 => gName i x σ H1 D.nx) := h
  show wpAny _ X.A (do let _ ← comprehension (.ListComp elt [⟨tg, iter, [], 0⟩] scope pos) scope X.env (firstIterPos [⟨tg, iter, [], 0⟩] pos) (newList []) false (eval iter X.env) (some (assign (.Name y py) X.env))) _ _ s
  refine wpAny_bind (thn (lc_air (Qf := fun _ s' => SP X pins D .next s') hstk hf tk hc hN I hi ok hg he hs h' fun L cenv s' m H' I' q hn f => ?_) fun _ s' hq => wpAny_pure (wpAny_pure hq))
  show wpAny _ _ (assign (.Name y py) X.env (.ref L)) _ _ _
  obtain ⟨f0, f1, f2, f3, f4, f5⟩ := f
  refine wpAny_assign_Name (store_ok2 (v := V.ref L) I' hN hy (.inl hyl) rfl (fun s2 I2 hst => ?_) (.inr hyl))
  obtain ⟨a, sb, ha⟩ := hst
  have haC : cenv.locals ≠ a := ha.elim (fun z => by rw [z]; exact f1) fun z e => f4 y a z e.symm
  refine ⟨m, hn.sameBut sb haC, fun h3 sb3 => ⟨_, H', I2.turned (t' := s2.toks) (fun b o hb e => (sb3.2 b hb).trans e) f0 f1 f3 f4 f5, q⟩⟩
end
end K71

set_option maxHeartbeats 4000000
namespace K71
open PySem PySem.Spec PyProof.Rows L2
/-- what the head tells of the written part K and of the module's names mg -/
structure Ctx (K : PySem.W.Frag) (mg : Str → Option Value) : Prop where
  x : ∃ h : Heap, K.In h ∧ h.Ns mainGlobals mg
  c : He.SaysD fa fn K
  m : more K = true
section
variable {K : PySem.W.Frag} {mg : Str → Option Value}
theorem Ctx.glo (T : Ctx K mg) {x : Str} (h : (He.Fa.glo x).ok K = true) : mg x = some (.ref (He.ga K x)) := by
  obtain ⟨_, X, G⟩ := T.x
  exact He.glo_ok X G h
theorem Ctx.free (T : Ctx K mg) {x : Str} (h : (He.Fa.free x).ok K = true) : mg x = none := by
  obtain ⟨_, X, G⟩ := T.x
  exact He.free_ok X G h
theorem Ctx.int (T : Ctx K mg) {x : Str} {i : Int} (h : (He.Fa.int x i).ok K = true) : ∃ u, mg x = some u ∧ RelV (.int i) u := by
  obtain ⟨_, X, G⟩ := T.x
  obtain ⟨t, e⟩ := He.int_ok X G h
  exact ⟨_, e, t, rfl⟩
theorem Ctx.str (T : Ctx K mg) {x z : Str} (h : (He.Fa.str x z).ok K = true) : ∃ u, mg x = some u ∧ RelV (.str z) u := by
  obtain ⟨_, X, G⟩ := T.x
  obtain ⟨t, e⟩ := He.str_ok X G h
  exact ⟨_, e, t, rfl⟩
theorem plain_of {x : Str} (h : plainB K x = true) : PlainC K (He.ga K x) := by
  obtain ⟨h1, h2⟩ := He.ba h
  obtain ⟨h3, h4⟩ := He.ba h2
  exact ⟨h1, He.eqO_ok h3, h4⟩
theorem Ctx.g_all_rests (T : Ctx K mg) : mg "all_rests" = some (.ref (He.ga K "all_rests")) := T.glo (T.c.fact 0 rfl)
theorem Ctx.g_made (T : Ctx K mg) : mg "made" = some (.ref (He.ga K "made")) := T.glo (T.c.fact 1 rfl)
theorem Ctx.g_holds (T : Ctx K mg) : mg "holds" = some (.ref (He.ga K "holds")) := T.glo (T.c.fact 2 rfl)
theorem Ctx.g_turned (T : Ctx K mg) : mg "turned" = some (.ref (He.ga K "turned")) := T.glo (T.c.fact 3 rfl)
theorem Ctx.g_bits_in (T : Ctx K mg) : mg "bits_in" = some (.ref (He.ga K "bits_in")) := T.glo (T.c.fact 4 rfl)
theorem Ctx.g_below (T : Ctx K mg) : mg "below" = some (.ref (He.ga K "below")) := T.glo (T.c.fact 5 rfl)
theorem Ctx.g_months_of (T : Ctx K mg) : mg "months_of" = some (.ref (He.ga K "months_of")) := T.glo (T.c.fact 6 rfl)
theorem Ctx.g_first_of (T : Ctx K mg) : mg "first_of" = some (.ref (He.ga K "first_of")) := T.glo (T.c.fact 7 rfl)
theorem Ctx.g_whole_turns (T : Ctx K mg) : mg "whole_turns" = some (.ref (He.ga K "whole_turns")) := T.glo (T.c.fact 8 rfl)
theorem Ctx.g_year_and_rest (T : Ctx K mg) : mg "year_and_rest" = some (.ref (He.ga K "year_and_rest")) := T.glo (T.c.fact 9 rfl)
theorem Ctx.g_date_of (T : Ctx K mg) : mg "date_of" = some (.ref (He.ga K "date_of")) := T.glo (T.c.fact 10 rfl)
theorem Ctx.g_shown_day (T : Ctx K mg) : mg "shown_day" = some (.ref (He.ga K "shown_day")) := T.glo (T.c.fact 11 rfl)
theorem Ctx.g_grouped (T : Ctx K mg) : mg "grouped" = some (.ref (He.ga K "grouped")) := T.glo (T.c.fact 12 rfl)
theorem Ctx.g_figures_of (T : Ctx K mg) : mg "figures_of" = some (.ref (He.ga K "figures_of")) := T.glo (T.c.fact 13 rfl)
theorem Ctx.g_shown_number (T : Ctx K mg) : mg "shown_number" = some (.ref (He.ga K "shown_number")) := T.glo (T.c.fact 14 rfl)
theorem Ctx.g_laid (T : Ctx K mg) : mg "laid" = some (.ref (He.ga K "laid")) := T.glo (T.c.fact 15 rfl)
theorem Ctx.g_road (T : Ctx K mg) : mg "road" = some (.ref (He.ga K "road")) := T.glo (T.c.fact 16 rfl)
theorem Ctx.g_word_of (T : Ctx K mg) : mg "word_of" = some (.ref (He.ga K "word_of")) := T.glo (T.c.fact 17 rfl)
theorem Ctx.g_is_whole (T : Ctx K mg) : mg "is_whole" = some (.ref (He.ga K "is_whole")) := T.glo (T.c.fact 18 rfl)
theorem Ctx.g_named (T : Ctx K mg) : mg "named" = some (.ref (He.ga K "named")) := T.glo (T.c.fact 19 rfl)
theorem Ctx.g_kind_named (T : Ctx K mg) : mg "kind_named" = some (.ref (He.ga K "kind_named")) := T.glo (T.c.fact 20 rfl)
theorem Ctx.g_is_value (T : Ctx K mg) : mg "is_value" = some (.ref (He.ga K "is_value")) := T.glo (T.c.fact 21 rfl)
theorem Ctx.g_value_text (T : Ctx K mg) : mg "value_text" = some (.ref (He.ga K "value_text")) := T.glo (T.c.fact 22 rfl)
theorem Ctx.g_is_thing_text (T : Ctx K mg) : mg "is_thing_text" = some (.ref (He.ga K "is_thing_text")) := T.glo (T.c.fact 23 rfl)
theorem Ctx.g__law_cell_at (T : Ctx K mg) : mg "_law_cell_at" = some (.ref (He.ga K "_law_cell_at")) := T.glo (T.c.fact 24 rfl)
theorem Ctx.g__law_signs (T : Ctx K mg) : mg "_law_signs" = some (.ref (He.ga K "_law_signs")) := T.glo (T.c.fact 25 rfl)
theorem Ctx.g__law_words (T : Ctx K mg) : mg "_law_words" = some (.ref (He.ga K "_law_words")) := T.glo (T.c.fact 26 rfl)
theorem Ctx.g__law_plan (T : Ctx K mg) : mg "_law_plan" = some (.ref (He.ga K "_law_plan")) := T.glo (T.c.fact 27 rfl)
theorem Ctx.g__law_marks (T : Ctx K mg) : mg "_law_marks" = some (.ref (He.ga K "_law_marks")) := T.glo (T.c.fact 28 rfl)
theorem Ctx.g__law_rules (T : Ctx K mg) : mg "_law_rules" = some (.ref (He.ga K "_law_rules")) := T.glo (T.c.fact 29 rfl)
theorem Ctx.g__law_texts (T : Ctx K mg) : mg "_law_texts" = some (.ref (He.ga K "_law_texts")) := T.glo (T.c.fact 30 rfl)
theorem Ctx.g__law_house (T : Ctx K mg) : mg "_law_house" = some (.ref (He.ga K "_law_house")) := T.glo (T.c.fact 31 rfl)
theorem Ctx.g__law_value (T : Ctx K mg) : mg "_law_value" = some (.ref (He.ga K "_law_value")) := T.glo (T.c.fact 32 rfl)
theorem Ctx.g__law_whole (T : Ctx K mg) : mg "_law_whole" = some (.ref (He.ga K "_law_whole")) := T.glo (T.c.fact 33 rfl)
theorem Ctx.g__law_is_value (T : Ctx K mg) : mg "_law_is_value" = some (.ref (He.ga K "_law_is_value")) := T.glo (T.c.fact 34 rfl)
theorem Ctx.g__law_number_text (T : Ctx K mg) : mg "_law_number_text" = some (.ref (He.ga K "_law_number_text")) := T.glo (T.c.fact 35 rfl)
theorem Ctx.g__law_laid (T : Ctx K mg) : mg "_law_laid" = some (.ref (He.ga K "_law_laid")) := T.glo (T.c.fact 36 rfl)
theorem Ctx.g__law_first (T : Ctx K mg) : mg "_law_first" = some (.ref (He.ga K "_law_first")) := T.glo (T.c.fact 37 rfl)
theorem Ctx.g__law_due (T : Ctx K mg) : mg "_law_due" = some (.ref (He.ga K "_law_due")) := T.glo (T.c.fact 38 rfl)
theorem Ctx.g__law_told (T : Ctx K mg) : mg "_law_told" = some (.ref (He.ga K "_law_told")) := T.glo (T.c.fact 39 rfl)
theorem Ctx.g__law_odd (T : Ctx K mg) : mg "_law_odd" = some (.ref (He.ga K "_law_odd")) := T.glo (T.c.fact 40 rfl)
theorem Ctx.g_law (T : Ctx K mg) : mg "law" = some (.ref (He.ga K "law")) := T.glo (T.c.fact 41 rfl)
theorem Ctx.g_RestOf (T : Ctx K mg) : mg "RestOf" = some (.ref (He.ga K "RestOf")) := T.glo (T.c.fact 42 rfl)
theorem Ctx.g_NumberKind (T : Ctx K mg) : mg "NumberKind" = some (.ref (He.ga K "NumberKind")) := T.glo (T.c.fact 43 rfl)
theorem Ctx.g_CountKind (T : Ctx K mg) : mg "CountKind" = some (.ref (He.ga K "CountKind")) := T.glo (T.c.fact 44 rfl)
theorem Ctx.g_DayKind (T : Ctx K mg) : mg "DayKind" = some (.ref (He.ga K "DayKind")) := T.glo (T.c.fact 45 rfl)
theorem Ctx.g_RankKind (T : Ctx K mg) : mg "RankKind" = some (.ref (He.ga K "RankKind")) := T.glo (T.c.fact 46 rfl)
theorem Ctx.g_ThingKind (T : Ctx K mg) : mg "ThingKind" = some (.ref (He.ga K "ThingKind")) := T.glo (T.c.fact 47 rfl)
theorem Ctx.g_ListKind (T : Ctx K mg) : mg "ListKind" = some (.ref (He.ga K "ListKind")) := T.glo (T.c.fact 48 rfl)
theorem Ctx.g_House (T : Ctx K mg) : mg "House" = some (.ref (He.ga K "House")) := T.glo (T.c.fact 49 rfl)
theorem Ctx.g_Tongue (T : Ctx K mg) : mg "Tongue" = some (.ref (He.ga K "Tongue")) := T.glo (T.c.fact 50 rfl)
theorem Ctx.g_NoThing (T : Ctx K mg) : mg "NoThing" = some (.ref (He.ga K "NoThing")) := T.glo (T.c.fact 51 rfl)
theorem Ctx.g_NoValue (T : Ctx K mg) : mg "NoValue" = some (.ref (He.ga K "NoValue")) := T.glo (T.c.fact 52 rfl)
theorem Ctx.g_SayError (T : Ctx K mg) : mg "SayError" = some (.ref (He.ga K "SayError")) := T.glo (T.c.fact 53 rfl)
theorem Ctx.f_len (T : Ctx K mg) : mg "len" = none := T.free (T.c.fact 54 rfl)
theorem Ctx.f_range (T : Ctx K mg) : mg "range" = none := T.free (T.c.fact 55 rfl)
theorem Ctx.f_enumerate (T : Ctx K mg) : mg "enumerate" = none := T.free (T.c.fact 56 rfl)
theorem Ctx.f_sorted (T : Ctx K mg) : mg "sorted" = none := T.free (T.c.fact 57 rfl)
theorem Ctx.f_sum (T : Ctx K mg) : mg "sum" = none := T.free (T.c.fact 58 rfl)
theorem Ctx.f_divmod (T : Ctx K mg) : mg "divmod" = none := T.free (T.c.fact 59 rfl)
theorem Ctx.f_abs (T : Ctx K mg) : mg "abs" = none := T.free (T.c.fact 60 rfl)
theorem Ctx.f_max (T : Ctx K mg) : mg "max" = none := T.free (T.c.fact 61 rfl)
theorem Ctx.f_min (T : Ctx K mg) : mg "min" = none := T.free (T.c.fact 62 rfl)
theorem Ctx.f_str (T : Ctx K mg) : mg "str" = none := T.free (T.c.fact 63 rfl)
theorem Ctx.f_int (T : Ctx K mg) : mg "int" = none := T.free (T.c.fact 64 rfl)
theorem Ctx.f_bool (T : Ctx K mg) : mg "bool" = none := T.free (T.c.fact 65 rfl)
theorem Ctx.f_list (T : Ctx K mg) : mg "list" = none := T.free (T.c.fact 66 rfl)
theorem Ctx.f_isinstance (T : Ctx K mg) : mg "isinstance" = none := T.free (T.c.fact 67 rfl)
theorem Ctx.f_reversed (T : Ctx K mg) : mg "reversed" = none := T.free (T.c.fact 68 rfl)
theorem Ctx.f_all (T : Ctx K mg) : mg "all" = none := T.free (T.c.fact 69 rfl)
theorem Ctx.f_ValueError (T : Ctx K mg) : mg "ValueError" = none := T.free (T.c.fact 70 rfl)
theorem Ctx.c_END (T : Ctx K mg) : ∃ u, mg "END" = some u ∧ RelV (.int (10 ^ 60)) u := T.int (T.c.fact 71 rfl)
theorem Ctx.c_TURN (T : Ctx K mg) : ∃ u, mg "TURN" = some u ∧ RelV (.int (300)) u := T.int (T.c.fact 72 rfl)
theorem Ctx.c_MOST_IN_LIST (T : Ctx K mg) : ∃ u, mg "MOST_IN_LIST" = some u ∧ RelV (.int (8)) u := T.int (T.c.fact 73 rfl)
theorem Ctx.c_LETTERS (T : Ctx K mg) : ∃ u, mg "LETTERS" = some u ∧ RelV (.str "abcdefghijklmnopqrstuvwxyzABCDEFGHIJKLMNOPQRSTUVWXYZ") u := T.str (T.c.fact 74 rfl)
theorem Ctx.cl_RestOf (T : Ctx K mg) : Cls K (He.ga K "RestOf") := He.cls_ok (T.c.fact 75 rfl)
theorem Ctx.cl_NumberKind (T : Ctx K mg) : Cls K (He.ga K "NumberKind") := He.cls_ok (T.c.fact 76 rfl)
theorem Ctx.cl_CountKind (T : Ctx K mg) : Cls K (He.ga K "CountKind") := He.cls_ok (T.c.fact 77 rfl)
theorem Ctx.cl_DayKind (T : Ctx K mg) : Cls K (He.ga K "DayKind") := He.cls_ok (T.c.fact 78 rfl)
theorem Ctx.cl_RankKind (T : Ctx K mg) : Cls K (He.ga K "RankKind") := He.cls_ok (T.c.fact 79 rfl)
theorem Ctx.cl_ThingKind (T : Ctx K mg) : Cls K (He.ga K "ThingKind") := He.cls_ok (T.c.fact 80 rfl)
theorem Ctx.cl_ListKind (T : Ctx K mg) : Cls K (He.ga K "ListKind") := He.cls_ok (T.c.fact 81 rfl)
theorem Ctx.cl_House (T : Ctx K mg) : Cls K (He.ga K "House") := He.cls_ok (T.c.fact 82 rfl)
theorem Ctx.cl_Tongue (T : Ctx K mg) : Cls K (He.ga K "Tongue") := He.cls_ok (T.c.fact 83 rfl)
theorem Ctx.na_RestOf_by (T : Ctx K mg) : NoAttr K (He.ga K "RestOf") "by" := He.noat_ok (T.c.fact 84 rfl)
theorem Ctx.na_RestOf_low (T : Ctx K mg) : NoAttr K (He.ga K "RestOf") "low" := He.noat_ok (T.c.fact 85 rfl)
theorem Ctx.na_RestOf_high (T : Ctx K mg) : NoAttr K (He.ga K "RestOf") "high" := He.noat_ok (T.c.fact 86 rfl)
theorem Ctx.na_House_kind_row (T : Ctx K mg) : NoAttr K (He.ga K "House") "kind_row" := He.noat_ok (T.c.fact 87 rfl)
theorem Ctx.na_House_rank_row (T : Ctx K mg) : NoAttr K (He.ga K "House") "rank_row" := He.noat_ok (T.c.fact 88 rfl)
theorem Ctx.na_House_thing_row (T : Ctx K mg) : NoAttr K (He.ga K "House") "thing_row" := He.noat_ok (T.c.fact 89 rfl)
theorem Ctx.na_House_by_name (T : Ctx K mg) : NoAttr K (He.ga K "House") "by_name" := He.noat_ok (T.c.fact 90 rfl)
theorem Ctx.na_House_thing_texts (T : Ctx K mg) : NoAttr K (He.ga K "House") "thing_texts" := He.noat_ok (T.c.fact 91 rfl)
theorem Ctx.na_House_declared (T : Ctx K mg) : NoAttr K (He.ga K "House") "declared" := He.noat_ok (T.c.fact 92 rfl)
theorem Ctx.na_House_pieces_here (T : Ctx K mg) : NoAttr K (He.ga K "House") "pieces_here" := He.noat_ok (T.c.fact 93 rfl)
theorem Ctx.na_Tongue_name (T : Ctx K mg) : NoAttr K (He.ga K "Tongue") "name" := He.noat_ok (T.c.fact 94 rfl)
theorem Ctx.na_Tongue_falls (T : Ctx K mg) : NoAttr K (He.ga K "Tongue") "falls" := He.noat_ok (T.c.fact 95 rfl)
theorem Ctx.na_Tongue_rules (T : Ctx K mg) : NoAttr K (He.ga K "Tongue") "rules" := He.noat_ok (T.c.fact 96 rfl)
theorem Ctx.na_Tongue_joiners (T : Ctx K mg) : NoAttr K (He.ga K "Tongue") "joiners" := He.noat_ok (T.c.fact 97 rfl)
theorem Ctx.na_Tongue_figures (T : Ctx K mg) : NoAttr K (He.ga K "Tongue") "figures" := He.noat_ok (T.c.fact 98 rfl)
theorem Ctx.na_Tongue_calendar (T : Ctx K mg) : NoAttr K (He.ga K "Tongue") "calendar" := He.noat_ok (T.c.fact 99 rfl)
theorem Ctx.na_Tongue_dayform (T : Ctx K mg) : NoAttr K (He.ga K "Tongue") "dayform" := He.noat_ok (T.c.fact 100 rfl)
theorem Ctx.me_RestOf_holds (T : Ctx K mg) : Meth K (He.ga K "RestOf") "holds" (He.ma K (He.ga K "RestOf") "holds") := He.meth_ok (T.c.fact 101 rfl)
theorem Ctx.me_RestOf_span (T : Ctx K mg) : Meth K (He.ga K "RestOf") "span" (He.ma K (He.ga K "RestOf") "span") := He.meth_ok (T.c.fact 102 rfl)
theorem Ctx.me_RestOf_stretches (T : Ctx K mg) : Meth K (He.ga K "RestOf") "stretches" (He.ma K (He.ga K "RestOf") "stretches") := He.meth_ok (T.c.fact 103 rfl)
theorem Ctx.me_NumberKind_has (T : Ctx K mg) : Meth K (He.ga K "NumberKind") "has" (He.ma K (He.ga K "NumberKind") "has") := He.meth_ok (T.c.fact 104 rfl)
theorem Ctx.me_NumberKind_text_of (T : Ctx K mg) : Meth K (He.ga K "NumberKind") "text_of" (He.ma K (He.ga K "NumberKind") "text_of") := He.meth_ok (T.c.fact 105 rfl)
theorem Ctx.me_CountKind_has (T : Ctx K mg) : Meth K (He.ga K "CountKind") "has" (He.ma K (He.ga K "CountKind") "has") := He.meth_ok (T.c.fact 106 rfl)
theorem Ctx.me_CountKind_text_of (T : Ctx K mg) : Meth K (He.ga K "CountKind") "text_of" (He.ma K (He.ga K "CountKind") "text_of") := He.meth_ok (T.c.fact 107 rfl)
theorem Ctx.me_DayKind_has (T : Ctx K mg) : Meth K (He.ga K "DayKind") "has" (He.ma K (He.ga K "DayKind") "has") := He.meth_ok (T.c.fact 108 rfl)
theorem Ctx.me_DayKind_text_of (T : Ctx K mg) : Meth K (He.ga K "DayKind") "text_of" (He.ma K (He.ga K "DayKind") "text_of") := He.meth_ok (T.c.fact 109 rfl)
theorem Ctx.me_ThingKind_has (T : Ctx K mg) : Meth K (He.ga K "ThingKind") "has" (He.ma K (He.ga K "ThingKind") "has") := He.meth_ok (T.c.fact 110 rfl)
theorem Ctx.me_ThingKind_text_of (T : Ctx K mg) : Meth K (He.ga K "ThingKind") "text_of" (He.ma K (He.ga K "ThingKind") "text_of") := He.meth_ok (T.c.fact 111 rfl)
theorem Ctx.me_ListKind_has (T : Ctx K mg) : Meth K (He.ga K "ListKind") "has" (He.ma K (He.ga K "ListKind") "has") := He.meth_ok (T.c.fact 112 rfl)
theorem Ctx.me_ListKind_text_of (T : Ctx K mg) : Meth K (He.ga K "ListKind") "text_of" (He.ma K (He.ga K "ListKind") "text_of") := He.meth_ok (T.c.fact 113 rfl)
theorem Ctx.me_RankKind_has (T : Ctx K mg) : Meth K (He.ga K "RankKind") "has" (He.ma K (He.ga K "RankKind") "has") := He.meth_ok (T.c.fact 114 rfl)
theorem Ctx.me_RankKind_row (T : Ctx K mg) : Meth K (He.ga K "RankKind") "row" (He.ma K (He.ga K "RankKind") "row") := He.meth_ok (T.c.fact 115 rfl)
theorem Ctx.me_ThingKind_row (T : Ctx K mg) : Meth K (He.ga K "ThingKind") "row" (He.ma K (He.ga K "ThingKind") "row") := He.meth_ok (T.c.fact 116 rfl)
theorem Ctx.me_House_add (T : Ctx K mg) : Meth K (He.ga K "House") "add" (He.ma K (He.ga K "House") "add") := He.meth_ok (T.c.fact 117 rfl)
theorem Ctx.me_House_tongue_named (T : Ctx K mg) : Meth K (He.ga K "House") "tongue_named" (He.ma K (He.ga K "House") "tongue_named") := He.meth_ok (T.c.fact 118 rfl)
theorem Ctx.me_House_word (T : Ctx K mg) : Meth K (He.ga K "House") "word" (He.ma K (He.ga K "House") "word") := He.meth_ok (T.c.fact 119 rfl)
theorem Ctx.me_House_declare (T : Ctx K mg) : Meth K (He.ga K "House") "declare" (He.ma K (He.ga K "House") "declare") := He.meth_ok (T.c.fact 120 rfl)
theorem Ctx.me_House_ranks (T : Ctx K mg) : Meth K (He.ga K "House") "ranks" (He.ma K (He.ga K "House") "ranks") := He.meth_ok (T.c.fact 121 rfl)
theorem Ctx.me_House_things (T : Ctx K mg) : Meth K (He.ga K "House") "things" (He.ma K (He.ga K "House") "things") := He.meth_ok (T.c.fact 122 rfl)
theorem Ctx.me_House_tongues (T : Ctx K mg) : Meth K (He.ga K "House") "tongues" (He.ma K (He.ga K "House") "tongues") := He.meth_ok (T.c.fact 123 rfl)
theorem Ctx.me_House_own_word (T : Ctx K mg) : Meth K (He.ga K "House") "own_word" (He.ma K (He.ga K "House") "own_word") := He.meth_ok (T.c.fact 124 rfl)
theorem Ctx.mk_RestOf (T : Ctx K mg) : Mk K (He.ga K "RestOf") (He.ma K (He.ga K "RestOf") "__init__") := He.mkr_ok (T.c.fact 125 rfl)
theorem Ctx.mk_House (T : Ctx K mg) : Mk K (He.ga K "House") (He.ma K (He.ga K "House") "__init__") := He.mkr_ok (T.c.fact 126 rfl)
theorem Ctx.mk_Tongue (T : Ctx K mg) : Mk K (He.ga K "Tongue") (He.ma K (He.ga K "Tongue") "__init__") := He.mkr_ok (T.c.fact 127 rfl)
theorem Ctx.ex_NoThing (T : Ctx K mg) : PySem.W.excIn K (He.ga K "NoThing") He.veBase "ValueError.__new__" = true ∧ PySem.W.keepIn K (.ref (He.ga K "NoThing")) = true ∧ PySem.W.subIn K (.ref (He.ga K "NoThing")) (.type "BaseException") = some true ∧ PySem.W.typeIn K (.ref (He.ga K "NoThing")) = some (.type "type") := He.exc_ok (T.c.fact 128 rfl)
theorem Ctx.em_NoThing (T : Ctx K mg) : PySem.W.exmOne K (.ref (He.ga K "NoThing")) (.ref (He.ga K "SayError")) = some true := He.exm_ok (T.c.fact 129 rfl)
theorem Ctx.plains (T : Ctx K mg) : plainB K "NumberKind" = true ∧ plainB K "CountKind" = true ∧ plainB K "DayKind" = true ∧ plainB K "RankKind" = true ∧ plainB K "ThingKind" = true ∧ plainB K "ListKind" = true := by
  obtain ⟨h1, h2⟩ := He.ba T.m
  obtain ⟨h1, p6⟩ := He.ba h1
  obtain ⟨h1, p5⟩ := He.ba h1
  obtain ⟨h1, p4⟩ := He.ba h1
  obtain ⟨h1, p3⟩ := He.ba h1
  obtain ⟨p1, p2⟩ := He.ba h1
  exact ⟨p1, p2, p3, p4, p5, p6⟩
theorem Ctx.pl_NumberKind (T : Ctx K mg) : PlainC K (He.ga K "NumberKind") := plain_of T.plains.1
theorem Ctx.pl_CountKind (T : Ctx K mg) : PlainC K (He.ga K "CountKind") := plain_of T.plains.2.1
theorem Ctx.pl_DayKind (T : Ctx K mg) : PlainC K (He.ga K "DayKind") := plain_of T.plains.2.2.1
theorem Ctx.pl_RankKind (T : Ctx K mg) : PlainC K (He.ga K "RankKind") := plain_of T.plains.2.2.2.1
theorem Ctx.pl_ThingKind (T : Ctx K mg) : PlainC K (He.ga K "ThingKind") := plain_of T.plains.2.2.2.2.1
theorem Ctx.pl_ListKind (T : Ctx K mg) : PlainC K (He.ga K "ListKind") := plain_of T.plains.2.2.2.2.2
theorem Ctx.kit (T : Ctx K mg) : ExcC K (He.ga K "NoThing") ∧ PySem.W.kitOne K (.ref (He.ga K "NoThing")) (.ref (He.ga K "NoThing")) = some true ∧ PySem.W.kitOne K (.ref (He.ga K "NoThing")) (.type "ValueError") = some true ∧ PySem.W.kitOne K (.ref (He.ga K "NoThing")) (.ref (He.ga K "NoValue")) = some false := by
  obtain ⟨_, h2⟩ := He.ba T.m
  obtain ⟨e, h2⟩ := He.ba h2
  obtain ⟨k1, h2⟩ := He.ba h2
  obtain ⟨k2, k3⟩ := He.ba h2
  obtain ⟨e1, e⟩ := He.ba e
  obtain ⟨e2, e⟩ := He.ba e
  obtain ⟨e3, e⟩ := He.ba e
  obtain ⟨e4, e⟩ := He.ba e
  obtain ⟨e5, e⟩ := He.ba e
  obtain ⟨e6, e7⟩ := He.ba e
  exact ⟨⟨He.eqO_ok e1, He.eqO_ok e2, T.ex_NoThing.2.2.1, e3, He.eqO_ok e4, He.eqO_ok e5, of_decide_eq_true e6, of_decide_eq_true e7⟩, of_decide_eq_true k1, of_decide_eq_true k2, of_decide_eq_true k3⟩
end
/-! ### the defs as data -/
section
variable {K : PySem.W.Frag} {mg : Str → Option Value}
theorem Ctx.fd_all_rests (T : Ctx K mg) : ∃ fd, FunD K "all_rests" "all_rests" (defArgs s_all_rests) (defBody s_all_rests) (defScope s_all_rests) [] [] (He.ga K "all_rests") fd := T.c.def_ 0 (d := d_all_rests) rfl
theorem Ctx.fd_made (T : Ctx K mg) : ∃ fd, FunD K "made" "made" (defArgs s_made) (defBody s_made) (defScope s_made) [] [] (He.ga K "made") fd := T.c.def_ 1 (d := d_made) rfl
theorem Ctx.fd_holds (T : Ctx K mg) : ∃ fd, FunD K "holds" "holds" (defArgs s_holds) (defBody s_holds) (defScope s_holds) [] [] (He.ga K "holds") fd := T.c.def_ 2 (d := d_holds) rfl
theorem Ctx.fd_turned (T : Ctx K mg) : ∃ fd, FunD K "turned" "turned" (defArgs s_turned) (defBody s_turned) (defScope s_turned) [] [] (He.ga K "turned") fd := T.c.def_ 3 (d := d_turned) rfl
theorem Ctx.fd_bits_in (T : Ctx K mg) : ∃ fd, FunD K "bits_in" "bits_in" (defArgs s_bits_in) (defBody s_bits_in) (defScope s_bits_in) [] [] (He.ga K "bits_in") fd := T.c.def_ 4 (d := d_bits_in) rfl
theorem Ctx.fd_below (T : Ctx K mg) : ∃ fd, FunD K "below" "below" (defArgs s_below) (defBody s_below) (defScope s_below) [] [] (He.ga K "below") fd := T.c.def_ 5 (d := d_below) rfl
theorem Ctx.fd_months_of (T : Ctx K mg) : ∃ fd, FunD K "months_of" "months_of" (defArgs s_months_of) (defBody s_months_of) (defScope s_months_of) [] [] (He.ga K "months_of") fd := T.c.def_ 6 (d := d_months_of) rfl
theorem Ctx.fd_first_of (T : Ctx K mg) : ∃ fd, FunD K "first_of" "first_of" (defArgs s_first_of) (defBody s_first_of) (defScope s_first_of) [] [] (He.ga K "first_of") fd := T.c.def_ 7 (d := d_first_of) rfl
theorem Ctx.fd_whole_turns (T : Ctx K mg) : ∃ fd, FunD K "whole_turns" "whole_turns" (defArgs s_whole_turns) (defBody s_whole_turns) (defScope s_whole_turns) [] [] (He.ga K "whole_turns") fd := T.c.def_ 8 (d := d_whole_turns) rfl
theorem Ctx.fd_year_and_rest (T : Ctx K mg) : ∃ fd, FunD K "year_and_rest" "year_and_rest" (defArgs s_year_and_rest) (defBody s_year_and_rest) (defScope s_year_and_rest) [] [] (He.ga K "year_and_rest") fd := T.c.def_ 9 (d := d_year_and_rest) rfl
theorem Ctx.fd_date_of (T : Ctx K mg) : ∃ fd, FunD K "date_of" "date_of" (defArgs s_date_of) (defBody s_date_of) (defScope s_date_of) [] [] (He.ga K "date_of") fd := T.c.def_ 10 (d := d_date_of) rfl
theorem Ctx.fd_shown_day (T : Ctx K mg) : ∃ fd, FunD K "shown_day" "shown_day" (defArgs s_shown_day) (defBody s_shown_day) (defScope s_shown_day) [] [] (He.ga K "shown_day") fd := T.c.def_ 11 (d := d_shown_day) rfl
theorem Ctx.fd_grouped (T : Ctx K mg) : ∃ fd, FunD K "grouped" "grouped" (defArgs s_grouped) (defBody s_grouped) (defScope s_grouped) [] [] (He.ga K "grouped") fd := T.c.def_ 12 (d := d_grouped) rfl
theorem Ctx.fd_figures_of (T : Ctx K mg) : ∃ fd, FunD K "figures_of" "figures_of" (defArgs s_figures_of) (defBody s_figures_of) (defScope s_figures_of) [] [] (He.ga K "figures_of") fd := T.c.def_ 13 (d := d_figures_of) rfl
theorem Ctx.fd_shown_number (T : Ctx K mg) : ∃ fd, FunD K "shown_number" "shown_number" (defArgs s_shown_number) (defBody s_shown_number) (defScope s_shown_number) [] [] (He.ga K "shown_number") fd := T.c.def_ 14 (d := d_shown_number) rfl
theorem Ctx.fd_laid (T : Ctx K mg) : ∃ fd, FunD K "laid" "laid" (defArgs s_laid) (defBody s_laid) (defScope s_laid) [] [] (He.ga K "laid") fd := T.c.def_ 15 (d := d_laid) rfl
theorem Ctx.fd_road (T : Ctx K mg) : ∃ fd, FunD K "road" "road" (defArgs s_road) (defBody s_road) (defScope s_road) [] [] (He.ga K "road") fd := T.c.def_ 16 (d := d_road) rfl
theorem Ctx.fd_word_of (T : Ctx K mg) : ∃ fd, FunD K "word_of" "word_of" (defArgs s_word_of) (defBody s_word_of) (defScope s_word_of) [] [] (He.ga K "word_of") fd := T.c.def_ 17 (d := d_word_of) rfl
theorem Ctx.fd_is_whole (T : Ctx K mg) : ∃ fd, FunD K "is_whole" "is_whole" (defArgs s_is_whole) (defBody s_is_whole) (defScope s_is_whole) [] [] (He.ga K "is_whole") fd := T.c.def_ 18 (d := d_is_whole) rfl
theorem Ctx.fd_named (T : Ctx K mg) : ∃ fd, FunD K "named" "named" (defArgs s_named) (defBody s_named) (defScope s_named) [] [] (He.ga K "named") fd := T.c.def_ 19 (d := d_named) rfl
theorem Ctx.fd_kind_named (T : Ctx K mg) : ∃ fd, FunD K "kind_named" "kind_named" (defArgs s_kind_named) (defBody s_kind_named) (defScope s_kind_named) [] [] (He.ga K "kind_named") fd := T.c.def_ 20 (d := d_kind_named) rfl
theorem Ctx.fd_is_value (T : Ctx K mg) : ∃ fd, FunD K "is_value" "is_value" (defArgs s_is_value) (defBody s_is_value) (defScope s_is_value) [] [] (He.ga K "is_value") fd := T.c.def_ 21 (d := d_is_value) rfl
theorem Ctx.fd_value_text (T : Ctx K mg) : ∃ fd, FunD K "value_text" "value_text" (defArgs s_value_text) (defBody s_value_text) (defScope s_value_text) [] [] (He.ga K "value_text") fd := T.c.def_ 22 (d := d_value_text) rfl
theorem Ctx.fd_is_thing_text (T : Ctx K mg) : ∃ fd, FunD K "is_thing_text" "is_thing_text" (defArgs s_is_thing_text) (defBody s_is_thing_text) (defScope s_is_thing_text) [] [] (He.ga K "is_thing_text") fd := T.c.def_ 23 (d := d_is_thing_text) rfl
theorem Ctx.fd__law_cell_at (T : Ctx K mg) : ∃ fd, FunD K "_law_cell_at" "_law_cell_at" (defArgs s__law_cell_at) (defBody s__law_cell_at) (defScope s__law_cell_at) [] [] (He.ga K "_law_cell_at") fd := T.c.def_ 24 (d := d__law_cell_at) rfl
theorem Ctx.fd__law_signs (T : Ctx K mg) : ∃ fd, FunD K "_law_signs" "_law_signs" (defArgs s__law_signs) (defBody s__law_signs) (defScope s__law_signs) [] [] (He.ga K "_law_signs") fd := T.c.def_ 25 (d := d__law_signs) rfl
theorem Ctx.fd__law_words (T : Ctx K mg) : ∃ fd, FunD K "_law_words" "_law_words" (defArgs s__law_words) (defBody s__law_words) (defScope s__law_words) [] [] (He.ga K "_law_words") fd := T.c.def_ 26 (d := d__law_words) rfl
theorem Ctx.fd__law_plan (T : Ctx K mg) : ∃ fd, FunD K "_law_plan" "_law_plan" (defArgs s__law_plan) (defBody s__law_plan) (defScope s__law_plan) [] [] (He.ga K "_law_plan") fd := T.c.def_ 27 (d := d__law_plan) rfl
theorem Ctx.fd__law_marks (T : Ctx K mg) : ∃ fd, FunD K "_law_marks" "_law_marks" (defArgs s__law_marks) (defBody s__law_marks) (defScope s__law_marks) [] [] (He.ga K "_law_marks") fd := T.c.def_ 28 (d := d__law_marks) rfl
theorem Ctx.fd__law_rules (T : Ctx K mg) : ∃ fd, FunD K "_law_rules" "_law_rules" (defArgs s__law_rules) (defBody s__law_rules) (defScope s__law_rules) [] [] (He.ga K "_law_rules") fd := T.c.def_ 29 (d := d__law_rules) rfl
theorem Ctx.fd__law_texts (T : Ctx K mg) : ∃ fd, FunD K "_law_texts" "_law_texts" (defArgs s__law_texts) (defBody s__law_texts) (defScope s__law_texts) [] [] (He.ga K "_law_texts") fd := T.c.def_ 30 (d := d__law_texts) rfl
theorem Ctx.fd__law_house (T : Ctx K mg) : ∃ fd, FunD K "_law_house" "_law_house" (defArgs s__law_house) (defBody s__law_house) (defScope s__law_house) [] [] (He.ga K "_law_house") fd := T.c.def_ 31 (d := d__law_house) rfl
theorem Ctx.fd__law_value (T : Ctx K mg) : ∃ fd, FunD K "_law_value" "_law_value" (defArgs s__law_value) (defBody s__law_value) (defScope s__law_value) [] [] (He.ga K "_law_value") fd := T.c.def_ 32 (d := d__law_value) rfl
theorem Ctx.fd__law_whole (T : Ctx K mg) : ∃ fd, FunD K "_law_whole" "_law_whole" (defArgs s__law_whole) (defBody s__law_whole) (defScope s__law_whole) [] [] (He.ga K "_law_whole") fd := T.c.def_ 33 (d := d__law_whole) rfl
theorem Ctx.fd__law_is_value (T : Ctx K mg) : ∃ fd, FunD K "_law_is_value" "_law_is_value" (defArgs s__law_is_value) (defBody s__law_is_value) (defScope s__law_is_value) [] [] (He.ga K "_law_is_value") fd := T.c.def_ 34 (d := d__law_is_value) rfl
theorem Ctx.fd__law_number_text (T : Ctx K mg) : ∃ fd, FunD K "_law_number_text" "_law_number_text" (defArgs s__law_number_text) (defBody s__law_number_text) (defScope s__law_number_text) [] [] (He.ga K "_law_number_text") fd := T.c.def_ 35 (d := d__law_number_text) rfl
theorem Ctx.fd__law_laid (T : Ctx K mg) : ∃ fd, FunD K "_law_laid" "_law_laid" (defArgs s__law_laid) (defBody s__law_laid) (defScope s__law_laid) [] [] (He.ga K "_law_laid") fd := T.c.def_ 36 (d := d__law_laid) rfl
theorem Ctx.fd__law_first (T : Ctx K mg) : ∃ fd, FunD K "_law_first" "_law_first" (defArgs s__law_first) (defBody s__law_first) (defScope s__law_first) [] [] (He.ga K "_law_first") fd := T.c.def_ 37 (d := d__law_first) rfl
theorem Ctx.fd__law_due (T : Ctx K mg) : ∃ fd, FunD K "_law_due" "_law_due" (defArgs s__law_due) (defBody s__law_due) (defScope s__law_due) [] [] (He.ga K "_law_due") fd := T.c.def_ 38 (d := d__law_due) rfl
theorem Ctx.fd__law_told (T : Ctx K mg) : ∃ fd, FunD K "_law_told" "_law_told" (defArgs s__law_told) (defBody s__law_told) (defScope s__law_told) [] [] (He.ga K "_law_told") fd := T.c.def_ 39 (d := d__law_told) rfl
theorem Ctx.fd__law_odd (T : Ctx K mg) : ∃ fd, FunD K "_law_odd" "_law_odd" (defArgs s__law_odd) (defBody s__law_odd) (defScope s__law_odd) [] [] (He.ga K "_law_odd") fd := T.c.def_ 40 (d := d__law_odd) rfl
theorem Ctx.fd_law (T : Ctx K mg) : ∃ fd, FunD K "law" "law" (defArgs s_law) (defBody s_law) (defScope s_law) [] [] (He.ga K "law") fd := T.c.def_ 41 (d := d_law) rfl
theorem Ctx.fd_RestOf_init (T : Ctx K mg) : ∃ fd, FunD K "__init__" "RestOf.__init__" (defArgs s_RestOf_init) (defBody s_RestOf_init) (defScope s_RestOf_init) [] [] (He.ma K (He.ga K "RestOf") "__init__") fd := T.c.def_ 42 (d := d_RestOf_init) rfl
theorem Ctx.fd_RestOf_holds (T : Ctx K mg) : ∃ fd, FunD K "holds" "RestOf.holds" (defArgs s_RestOf_holds) (defBody s_RestOf_holds) (defScope s_RestOf_holds) [] [] (He.ma K (He.ga K "RestOf") "holds") fd := T.c.def_ 43 (d := d_RestOf_holds) rfl
theorem Ctx.fd_RestOf_span (T : Ctx K mg) : ∃ fd, FunD K "span" "RestOf.span" (defArgs s_RestOf_span) (defBody s_RestOf_span) (defScope s_RestOf_span) [] [] (He.ma K (He.ga K "RestOf") "span") fd := T.c.def_ 44 (d := d_RestOf_span) rfl
theorem Ctx.fd_RestOf_stretches (T : Ctx K mg) : ∃ fd, FunD K "stretches" "RestOf.stretches" (defArgs s_RestOf_stretches) (defBody s_RestOf_stretches) (defScope s_RestOf_stretches) [] [] (He.ma K (He.ga K "RestOf") "stretches") fd := T.c.def_ 45 (d := d_RestOf_stretches) rfl
theorem Ctx.fd_NumberKind_has (T : Ctx K mg) : ∃ fd, FunD K "has" "NumberKind.has" (defArgs s_NumberKind_has) (defBody s_NumberKind_has) (defScope s_NumberKind_has) [] [] (He.ma K (He.ga K "NumberKind") "has") fd := T.c.def_ 46 (d := d_NumberKind_has) rfl
theorem Ctx.fd_NumberKind_text_of (T : Ctx K mg) : ∃ fd, FunD K "text_of" "NumberKind.text_of" (defArgs s_NumberKind_text_of) (defBody s_NumberKind_text_of) (defScope s_NumberKind_text_of) [] [] (He.ma K (He.ga K "NumberKind") "text_of") fd := T.c.def_ 47 (d := d_NumberKind_text_of) rfl
theorem Ctx.fd_CountKind_has (T : Ctx K mg) : ∃ fd, FunD K "has" "CountKind.has" (defArgs s_CountKind_has) (defBody s_CountKind_has) (defScope s_CountKind_has) [] [] (He.ma K (He.ga K "CountKind") "has") fd := T.c.def_ 48 (d := d_CountKind_has) rfl
theorem Ctx.fd_CountKind_text_of (T : Ctx K mg) : ∃ fd, FunD K "text_of" "NumberKind.text_of" (defArgs s_NumberKind_text_of) (defBody s_NumberKind_text_of) (defScope s_NumberKind_text_of) [] [] (He.ma K (He.ga K "CountKind") "text_of") fd := T.c.def_ 49 (d := d_CountKind_text_of) rfl
theorem Ctx.fd_DayKind_has (T : Ctx K mg) : ∃ fd, FunD K "has" "DayKind.has" (defArgs s_DayKind_has) (defBody s_DayKind_has) (defScope s_DayKind_has) [] [] (He.ma K (He.ga K "DayKind") "has") fd := T.c.def_ 50 (d := d_DayKind_has) rfl
theorem Ctx.fd_DayKind_text_of (T : Ctx K mg) : ∃ fd, FunD K "text_of" "DayKind.text_of" (defArgs s_DayKind_text_of) (defBody s_DayKind_text_of) (defScope s_DayKind_text_of) [] [] (He.ma K (He.ga K "DayKind") "text_of") fd := T.c.def_ 51 (d := d_DayKind_text_of) rfl
theorem Ctx.fd_ThingKind_has (T : Ctx K mg) : ∃ fd, FunD K "has" "RankKind.has" (defArgs s_RankKind_has) (defBody s_RankKind_has) (defScope s_RankKind_has) [] [] (He.ma K (He.ga K "ThingKind") "has") fd := T.c.def_ 52 (d := d_ThingKind_has) rfl
theorem Ctx.fd_ThingKind_text_of (T : Ctx K mg) : ∃ fd, FunD K "text_of" "ThingKind.text_of" (defArgs s_ThingKind_text_of) (defBody s_ThingKind_text_of) (defScope s_ThingKind_text_of) [] [] (He.ma K (He.ga K "ThingKind") "text_of") fd := T.c.def_ 53 (d := d_ThingKind_text_of) rfl
theorem Ctx.fd_ListKind_has (T : Ctx K mg) : ∃ fd, FunD K "has" "ListKind.has" (defArgs s_ListKind_has) (defBody s_ListKind_has) (defScope s_ListKind_has) [] [] (He.ma K (He.ga K "ListKind") "has") fd := T.c.def_ 54 (d := d_ListKind_has) rfl
theorem Ctx.fd_ListKind_text_of (T : Ctx K mg) : ∃ fd, FunD K "text_of" "ListKind.text_of" (defArgs s_ListKind_text_of) (defBody s_ListKind_text_of) (defScope s_ListKind_text_of) [] [] (He.ma K (He.ga K "ListKind") "text_of") fd := T.c.def_ 55 (d := d_ListKind_text_of) rfl
theorem Ctx.fd_RankKind_has (T : Ctx K mg) : ∃ fd, FunD K "has" "RankKind.has" (defArgs s_RankKind_has) (defBody s_RankKind_has) (defScope s_RankKind_has) [] [] (He.ma K (He.ga K "RankKind") "has") fd := T.c.def_ 56 (d := d_RankKind_has) rfl
theorem Ctx.fd_RankKind_row (T : Ctx K mg) : ∃ fd, FunD K "row" "RankKind.row" (defArgs s_RankKind_row) (defBody s_RankKind_row) (defScope s_RankKind_row) [] [] (He.ma K (He.ga K "RankKind") "row") fd := T.c.def_ 57 (d := d_RankKind_row) rfl
theorem Ctx.fd_ThingKind_row (T : Ctx K mg) : ∃ fd, FunD K "row" "ThingKind.row" (defArgs s_ThingKind_row) (defBody s_ThingKind_row) (defScope s_ThingKind_row) [] [] (He.ma K (He.ga K "ThingKind") "row") fd := T.c.def_ 58 (d := d_ThingKind_row) rfl
theorem Ctx.fd_House_init (T : Ctx K mg) : ∃ fd, FunD K "__init__" "House.__init__" (defArgs s_House_init) (defBody s_House_init) (defScope s_House_init) [] [] (He.ma K (He.ga K "House") "__init__") fd := T.c.def_ 59 (d := d_House_init) rfl
theorem Ctx.fd_House_add (T : Ctx K mg) : ∃ fd, FunD K "add" "House.add" (defArgs s_House_add) (defBody s_House_add) (defScope s_House_add) [] [] (He.ma K (He.ga K "House") "add") fd := T.c.def_ 60 (d := d_House_add) rfl
theorem Ctx.fd_House_tongue_named (T : Ctx K mg) : ∃ fd, FunD K "tongue_named" "House.tongue_named" (defArgs s_House_tongue_named) (defBody s_House_tongue_named) (defScope s_House_tongue_named) [] [] (He.ma K (He.ga K "House") "tongue_named") fd := T.c.def_ 61 (d := d_House_tongue_named) rfl
theorem Ctx.fd_House_word (T : Ctx K mg) : ∃ fd, FunD K "word" "House.word" (defArgs s_House_word) (defBody s_House_word) (defScope s_House_word) [] [] (He.ma K (He.ga K "House") "word") fd := T.c.def_ 62 (d := d_House_word) rfl
theorem Ctx.fd_House_declare (T : Ctx K mg) : ∃ fd, FunD K "declare" "House.declare" (defArgs s_House_declare) (defBody s_House_declare) (defScope s_House_declare) [.bl false] [] (He.ma K (He.ga K "House") "declare") fd := T.c.def_ 63 (d := d_House_declare) rfl
theorem Ctx.fd_House_ranks (T : Ctx K mg) : ∃ fd, FunD K "ranks" "House.ranks" (defArgs s_House_ranks) (defBody s_House_ranks) (defScope s_House_ranks) [] [] (He.ma K (He.ga K "House") "ranks") fd := T.c.def_ 64 (d := d_House_ranks) rfl
theorem Ctx.fd_House_things (T : Ctx K mg) : ∃ fd, FunD K "things" "House.things" (defArgs s_House_things) (defBody s_House_things) (defScope s_House_things) [] [] (He.ma K (He.ga K "House") "things") fd := T.c.def_ 65 (d := d_House_things) rfl
theorem Ctx.fd_House_tongues (T : Ctx K mg) : ∃ fd, FunD K "tongues" "House.tongues" (defArgs s_House_tongues) (defBody s_House_tongues) (defScope s_House_tongues) [] [] (He.ma K (He.ga K "House") "tongues") fd := T.c.def_ 66 (d := d_House_tongues) rfl
theorem Ctx.fd_House_own_word (T : Ctx K mg) : ∃ fd, FunD K "own_word" "House.own_word" (defArgs s_House_own_word) (defBody s_House_own_word) (defScope s_House_own_word) [] [] (He.ma K (He.ga K "House") "own_word") fd := T.c.def_ 67 (d := d_House_own_word) rfl
theorem Ctx.fd_Tongue_init (T : Ctx K mg) : ∃ fd, FunD K "__init__" "Tongue.__init__" (defArgs s_Tongue_init) (defBody s_Tongue_init) (defScope s_Tongue_init) [] [] (He.ma K (He.ga K "Tongue") "__init__") fd := T.c.def_ 68 (d := d_Tongue_init) rfl
end
/-! ### a def that may be called, by its name; a method -/
section
variable (P : Program) (w : World) (K : PySem.W.Frag) (mg : Str → Option Value) (base : Heap)
/-- the def x of the module keeps sp at level k -/
structure Ca (CX : CXT) (k : Nat) (x : Str) (sp : Sp) : Prop where
  ex : ∃ (f : Addr) (fd : FuncData) (ps : List Str), FnOk P w K mg base CX k f fd ps sp ∧ mg x = some (.ref f) ∧ PySem.W.keepIn K (.ref f) = true ∧ Binds K fd ps []
/-- the method m of the class at C -/
structure Me (CX : CXT) (k : Nat) (C : Addr) (m : Str) (sp : Sp) (dvs : List V) : Prop where
  ex : ∃ (f : Addr) (fd : FuncData) (ps : List Str) (ds : List Value), Cls K C ∧ Meth K C m f ∧ FnOk P w K mg base CX k f fd ps sp ∧ Binds K fd ps ds ∧ Vals dvs ds
/-- the class x is made by its __init__ -/
structure Ma (CX : CXT) (k : Nat) (x : Str) (C : Addr) (sp : Sp) : Prop where
  ex : ∃ (f : Addr) (fd : FuncData) (ps : List Str), Mk K C f ∧ FnOk P w K mg base CX k f fd ps sp ∧ mg x = some (.ref C) ∧ Binds K fd ps []
end
section
variable {X : Cx} {CX : CXT} {k j : Nat} {C : Addr} {x m : Str} {sp : Sp} {dvs : List V} {p pos apos : Pos} {e o : Expr} {es : List Expr} {ta : TE} {t : TA}
theorem pe_ca (c : Ca X.prog X.w X.K X.mg X.base CX0 k x sp) (hr : Room j X.A) (hk : k ≤ j) (hg : Gl X x) (ha : PA X (e :: es) t)
    (hdb : (x == ("__debug__" : Str)) = false := by decide) (he : starEach (e :: es) X.env = (false, eval e X.env) :: starEach es X.env := by rfl) (hpl : (backTo pos (starEach es X.env)).any (·.1) = false := by rfl) :
    PE X (.Call (.Name x p) (e :: es) [] pos) (tCall sp [] E0 t) := by
  obtain ⟨f, fd, ps, F, hm, kp, b⟩ := c.ex
  exact pe_call F (hr.mono hk) hg hm kp b .nil pass0 ha hdb he hpl
/-- .. that may raise; E by the slots -/
theorem pe_caS {E : L2.St → XK} (c : Ca X.prog X.w X.K X.mg X.base (L2.CX X.prog X.w) k x sp) (hr : Room j X.A) (hk : k ≤ j) (hg : Gl X x) (hx : ∀ σ, PassesAt (L2.CX X.prog X.w) X σ (E σ)) (ha : PA X (e :: es) t)
    (hdb : (x == ("__debug__" : Str)) = false := by decide) (he : starEach (e :: es) X.env = (false, eval e X.env) :: starEach es X.env := by rfl) (hpl : (backTo pos (starEach es X.env)).any (·.1) = false := by rfl) :
    PE X (.Call (.Name x p) (e :: es) [] pos) (tCallS sp E t) := by
  obtain ⟨f, fd, ps, F, hm, kp, b⟩ := c.ex
  exact pe_callS F (hr.mono hk) hg hm kp b hx ha hdb he hpl
theorem pe_ma (c : Ma X.prog X.w X.K X.mg X.base CX0 k x C sp) (hr : Room j X.A) (hk : k + 1 ≤ j) (hg : Gl X x) (ha : PA X (e :: es) t)
    (hdb : (x == ("__debug__" : Str)) = false := by decide) (he : starEach (e :: es) X.env = (false, eval e X.env) :: starEach es X.env := by rfl) (hpl : (backTo pos (starEach es X.env)).any (·.1) = false := by rfl) :
    PE X (.Call (.Name x p) (e :: es) [] pos) (tMake C sp [] E0 t) := by
  obtain ⟨f, fd, ps, M, F, hm, b⟩ := c.ex
  exact pe_make M F (hr.mono hk) hg hm b .nil pass0 ha hdb he hpl
theorem pe_me {pl : Sem Bool} (c : Me X.prog X.w X.K X.mg X.base CX0 k C m sp dvs) (hr : Room j X.A) (hk : k ≤ j) (he : PE X o ta) (ha : PA X (e :: es) t)
    (hst : starEach (e :: es) X.env = (false, eval e X.env) :: starEach es X.env := by rfl) (hpl : (backTo pos (starEach es X.env)).any (·.1) = false := by rfl)
    (ht : eval (.Call (.Attribute o m apos) (e :: es) [] pos) X.env = (do
      let ov ← eval o X.env
      standAt apos.atName
      let (f, first) ← holding [ov] (getMethod ov m pl)
      callWith pos f first (backTo pos (starEach (e :: es) X.env)) (backToKw pos (keywordEach [] X.env))) := by rfl) :
    PE X (.Call (.Attribute o m apos) (e :: es) [] pos) (tMeth C m sp dvs E0 ta t) := by
  obtain ⟨f, fd, ps, ds, hc, hm, F, b, d⟩ := c.ex
  exact pe_meth (pl := pl) he hc hm F (hr.mono hk) b d pass0 ha hst hpl ht
/-- .. that may raise what the def itself lets out -/
theorem pe_meX {pl : Sem Bool} {E : XK} (c : Me X.prog X.w X.K X.mg X.base (L2.CX X.prog X.w) k C m sp dvs) (hr : Room j X.A) (hk : k ≤ j) (hx : Passes (L2.CX X.prog X.w) X E) (he : PE X o ta) (ha : PA X (e :: es) t)
    (hst : starEach (e :: es) X.env = (false, eval e X.env) :: starEach es X.env := by rfl) (hpl : (backTo pos (starEach es X.env)).any (·.1) = false := by rfl)
    (ht : eval (.Call (.Attribute o m apos) (e :: es) [] pos) X.env = (do
      let ov ← eval o X.env
      standAt apos.atName
      let (f, first) ← holding [ov] (getMethod ov m pl)
      callWith pos f first (backTo pos (starEach (e :: es) X.env)) (backToKw pos (keywordEach [] X.env))) := by rfl) :
    PE X (.Call (.Attribute o m apos) (e :: es) [] pos) (tMeth C m sp dvs E ta t) := by
  obtain ⟨f, fd, ps, ds, hc, hm, F, b, d⟩ := c.ex
  exact pe_meth (pl := pl) he hc hm F (hr.mono hk) b d hx ha hst hpl ht
theorem pe_me0 {pl : Sem Bool} (c : Me X.prog X.w X.K X.mg X.base CX0 k C m sp dvs) (hr : Room j X.A) (hk : k ≤ j) (he : PE X o ta)
    (ht : eval (.Call (.Attribute o m apos) [] [] pos) X.env = (do
      let ov ← eval o X.env
      standAt apos.atName
      let (f, first) ← holding [ov] (getMethod ov m pl)
      callWith pos f first (backTo pos (starEach [] X.env)) (backToKw pos (keywordEach [] X.env))) := by rfl) :
    PE X (.Call (.Attribute o m apos) [] [] pos) (tMeth C m sp dvs E0 ta tNil) := by
  obtain ⟨f, fd, ps, ds, hc, hm, F, b, d⟩ := c.ex
  exact pe_meth0 (pl := pl) he hc hm F (hr.mono hk) b d pass0 ht
end
end K71

set_option maxHeartbeats 4000000
namespace K71
open PySem PySem.Spec PyProof.Rows L2
section
variable {P : Program} {w : World} {K : PySem.W.Frag} {mg : Str → Option Value} {base : Heap}
/-- THE RULE for a def of the module: its promise by its body's walk -/
theorem caOf {CX : CXT} {x qual : Str} {params : Arguments} {body : List Stmt} {scope : Scope} {kws : List (Str × V)} {f : Addr} {fd : FuncData} {N ps : List Str} {k : Nat} {sp : Sp} (F : FunD K x qual params body scope [] kws f fd) (S : FnScope N ps scope) (hm : mg x = some (.ref f)) (b : Binds K fd ps [])
    (len : ∀ vs H Q E, sp vs H Q E → vs.length = ps.length)
    (hbody : ∀ (cdv : Value) (A : Around) (outer : List Env) (s : Shared) (H : Hp) (vs : List V) (Q : VK) (E : XK), Room k (A.deeper (envOfC qual scope s.heap.objs.size f cdv)) → sp vs H Q E →
      ∃ t, PSs (cxOf CX P w K mg base N qual scope f cdv A outer s H E) body t ∧ t { nx := fun _ H' => Q .non H', rt := Q } (start N vs) H) : Ca P w K mg base CX (k + 1) x sp :=
  ⟨f, fd, ps, F.ok S len hbody, hm, F.kp, b⟩
theorem meOf {CX : CXT} {C : Addr} {x qual : Str} {params : Arguments} {body : List Stmt} {scope : Scope} {kws : List (Str × V)} {f : Addr} {fd : FuncData} {N ps : List Str} {k : Nat} {sp : Sp} (F : FunD K x qual params body scope [] kws f fd) (S : FnScope N ps scope) (c : Cls K C) {m : Str} (hm : Meth K C m f) (b : Binds K fd ps [])
    (len : ∀ vs H Q E, sp vs H Q E → vs.length = ps.length)
    (hbody : ∀ (cdv : Value) (A : Around) (outer : List Env) (s : Shared) (H : Hp) (vs : List V) (Q : VK) (E : XK), Room k (A.deeper (envOfC qual scope s.heap.objs.size f cdv)) → sp vs H Q E →
      ∃ t, PSs (cxOf CX P w K mg base N qual scope f cdv A outer s H E) body t ∧ t { nx := fun _ H' => Q .non H', rt := Q } (start N vs) H) : Me P w K mg base CX (k + 1) C m sp [] :=
  ⟨f, fd, ps, [], c, hm, F.ok S len hbody, b, .nil⟩
theorem maOf {CX : CXT} {C : Addr} {x y qual : Str} {params : Arguments} {body : List Stmt} {scope : Scope} {kws : List (Str × V)} {f : Addr} {fd : FuncData} {N ps : List Str} {k : Nat} {sp : Sp} (F : FunD K x qual params body scope [] kws f fd) (S : FnScope N ps scope) (M : Mk K C f) (hm : mg y = some (.ref C)) (b : Binds K fd ps [])
    (len : ∀ vs H Q E, sp vs H Q E → vs.length = ps.length)
    (hbody : ∀ (cdv : Value) (A : Around) (outer : List Env) (s : Shared) (H : Hp) (vs : List V) (Q : VK) (E : XK), Room k (A.deeper (envOfC qual scope s.heap.objs.size f cdv)) → sp vs H Q E →
      ∃ t, PSs (cxOf CX P w K mg base N qual scope f cdv A outer s H E) body t ∧ t { nx := fun _ H' => Q .non H', rt := Q } (start N vs) H) : Ma P w K mg base CX (k + 1) y C sp :=
  ⟨f, fd, ps, M, F.ok S len hbody, hm, b⟩
end
end K71

set_option maxHeartbeats 4000000
/-! K71Ev: more of what evaluates to what (Evl's Ev, EvT, EvA): a value of which something is known (EvP), calls, fields, dicts, texts. -/
namespace K71
open PySem PySem.Spec PyProof.Rows L2 Evl
section
variable {K : PySem.W.Frag} {σ : L2.St} {H H' : Hp} {ta tb tc te tx : TE} {t u : TT} {x y z v : V} {r r' : R2} {P P' : V → Hp → Prop} {D : Ends} {tu tw tz : TS} {g : TG}
/-- a value, a heap behind H, of which P holds -/
def EvP (te : TE) (σ : L2.St) (H : Hp) (P : V → Hp → Prop) : Prop := ∀ H1, Ex H H1 → ∀ Q : VK, (∀ v H2, Ex H1 H2 → P v H2 → Q v H2) → te σ H1 Q
def EaP (ta : TA) (σ : L2.St) (H : Hp) (P : List V → Hp → Prop) : Prop := ∀ H1, Ex H H1 → ∀ Q : List V → Hp → Prop, (∀ v H2, Ex H1 H2 → P v H2 → Q v H2) → ta σ H1 Q
def SpP (sp : Sp) (vs : List V) (H : Hp) (P : V → Hp → Prop) : Prop := ∀ H1, Ex H H1 → ∀ Q : VK, (∀ v H2, Ex H1 H2 → P v H2 → Q v H2) → ∀ E : XK, sp vs H1 Q E
theorem EvP.mono (e : Ex H H') (h : EvP te σ H P) : EvP te σ H' P := fun H1 a Q q => h H1 (e.trans a) Q q
theorem EvP.imp (h : EvP te σ H P) (k : ∀ v H2, Ex H H2 → P v H2 → P' v H2) : EvP te σ H P' := fun H1 a Q q => h H1 a Q fun v H2 e p => q v H2 e (k v H2 (a.trans e) p)
theorem Ev.toP (h : Ev te σ H v) (p : ∀ H2, Ex H H2 → P v H2) : EvP te σ H P := fun H1 a Q q => h H1 a Q fun H2 e => q v H2 e (p H2 (a.trans e))
theorem EvL.toP {xs : List V} (h : EvL te σ H xs) : EvP te σ H fun v H2 => ∃ p, v = .ref p ∧ H p = none ∧ H2 p = some (.lst xs) := fun H1 a Q q => h H1 a Q fun p H2 n e l => q _ H2 e ⟨p, rfl, fresh_back a n, l⟩
theorem EvU.toP {xs : List V} (h : EvU te σ H xs) : EvP te σ H fun v H2 => ∃ p, v = .ref p ∧ H p = none ∧ H2 p = some (.tup xs) := fun H1 a Q q => h H1 a Q fun p H2 n e l => q _ H2 e ⟨p, rfl, fresh_back a n, l⟩
theorem EvA.toP {ta : TA} {vs : List V} (h : EvA ta σ H vs) : EaP ta σ H fun ws _ => ws = vs := fun H1 a Q q => h H1 a Q fun H2 e => q vs H2 e rfl
theorem eap_nil : EaP tNil σ H fun vs _ => vs = [] := fun H1 _ _ q => q _ H1 (Ex.refl H1) rfl
/-- one more argument of which P holds; R: of the rest, told by its value -/
theorem eap_cons {tr : TA} {R : V → List V → Hp → Prop} {W : List V → Hp → Prop} (h : EvP te σ H P) (hr : ∀ v H1, Ex H H1 → P v H1 → EaP tr σ H1 (R v)) (k : ∀ v vs H1 H2, Ex H H1 → Ex H1 H2 → P v H1 → R v vs H2 → W (v :: vs) H2) : EaP (tCons te tr) σ H W := fun H1 a _ q =>
  h H1 a _ fun v H2 e p => hr v H2 (a.trans e) p H2 (Ex.refl H2) _ fun vs H3 e3 rr => q _ H3 (e.trans e3) (k v vs H2 H3 (a.trans e) e3 p rr)
/-- an assignment of such a value -/
theorem q_asgP {i : Nat} (h : EvP te σ H P) (k : ∀ v H1, Ex H H1 → P v H1 → tz D (σ.set i (some v)) H1) : tSeq (tAsg te (gName i)) tz D σ H := h H (Ex.refl H) _ fun v H1 e p => k v H1 e p
theorem s_asgP {i : Nat} (h : EvP te σ H P) (k : ∀ v H1, Ex H H1 → P v H1 → D.nx (σ.set i (some v)) H1) : tAsg te (gName i) D σ H := h H (Ex.refl H) _ fun v H1 e p => k v H1 e p
theorem s_retP (h : EvP te σ H P) (k : ∀ v H1, Ex H H1 → P v H1 → D.rt v H1) : tRet te D σ H := h H (Ex.refl H) _ fun v H1 e p => k v H1 e p
theorem q_dropP (h : EvP te σ H P) (k : ∀ v H1, Ex H H1 → P v H1 → tz D σ H1) : tSeq (tDrop te) tz D σ H := h H (Ex.refl H) _ fun v H1 e p => k v H1 e p
theorem q_dropV (h : Ev te σ H v) (k : ∀ H1, Ex H H1 → tz D σ H1) : tSeq (tDrop te) tz D σ H := h H (Ex.refl H) _ fun H1 e => k H1 e
/-- any target -/
theorem q_asgG {g : TG} (h : EvP te σ H P) (k : ∀ v H1, Ex H H1 → P v H1 → g v σ H1 (tz D)) : tSeq (tAsg te g) tz D σ H := h H (Ex.refl H) _ fun v H1 e p => k v H1 e p
theorem s_asgG {g : TG} (h : EvP te σ H P) (k : ∀ v H1, Ex H H1 → P v H1 → g v σ H1 D.nx) : tAsg te g D σ H := h H (Ex.refl H) _ fun v H1 e p => k v H1 e p

/-! ### calls -/
theorem evp_call {sp : Sp} {dvs vs : List V} {E : XK} {ta : TA} (h : EvA ta σ H vs) (hs : SpP sp (vs ++ dvs) H P) : EvP (tCall sp dvs E ta) σ H P := fun H1 a Q q => h H1 a _ fun H2 e => hs H2 (a.trans e) Q (fun v H3 e3 p => q v H3 (e.trans e3) p) E
/-- .. whose arguments are told by A -/
theorem evp_callP {sp : Sp} {dvs : List V} {E : XK} {ta : TA} {A : List V → Hp → Prop} (h : EaP ta σ H A) (hs : ∀ vs H1, Ex H H1 → A vs H1 → SpP sp (vs ++ dvs) H1 P) : EvP (tCall sp dvs E ta) σ H P := fun H1 a Q q => h H1 a _ fun vs H2 e p => hs vs H2 (a.trans e) p H2 (Ex.refl H2) Q (fun v H3 e3 p => q v H3 (e.trans e3) p) E
theorem evp_meth {C : Addr} {m : Str} {sp : Sp} {dvs vs : List V} {E : XK} {ta : TE} {t : TA} {a dx : Addr} {fs : List (Str × V)} (h : Ev ta σ H (.ref a)) (hH : H a = some (.ins C dx fs)) (hm : fs.lookup m = none) (ht : EvA t σ H vs) (hs : SpP sp (.ref a :: (vs ++ dvs)) H P) : EvP (tMeth C m sp dvs E ta t) σ H P := fun H1 e Q q =>
  h H1 e _ fun H2 e2 => ⟨a, dx, fs, rfl, (e.trans e2) a _ hH, hm, ht H2 (e.trans e2) _ fun H3 e3 => hs H3 ((e.trans e2).trans e3) Q (fun v H4 e4 p => q v H4 ((e2.trans e3).trans e4) p) E⟩
/-- .. of an object that is told by O -/
theorem evp_methP {C : Addr} {m : Str} {sp : Sp} {dvs vs : List V} {E : XK} {ta : TE} {t : TA} {O : V → Hp → Prop} (h : EvP ta σ H O) (hO : ∀ v H1, Ex H H1 → O v H1 → ∃ a dx fs, v = .ref a ∧ H1 a = some (.ins C dx fs) ∧ fs.lookup m = none ∧ EvA t σ H1 vs ∧ SpP sp (.ref a :: (vs ++ dvs)) H1 P) : EvP (tMeth C m sp dvs E ta t) σ H P := fun H1 e Q q =>
  h H1 e _ fun v H2 e2 o => by
    obtain ⟨a, dx, fs, rfl, hH, hm, ht, hs⟩ := hO v H2 (e.trans e2) o
    exact ⟨a, dx, fs, rfl, hH, hm, ht H2 (Ex.refl H2) _ fun H3 e3 => hs H3 e3 Q (fun v H4 e4 p => q v H4 ((e2.trans e3).trans e4) p) E⟩
theorem evp_is (h : EvP te σ H fun w _ => w = v) : Ev te σ H v := fun H1 e Q q => h H1 e Q fun w H2 e2 p => by
  subst p
  exact q H2 e2
theorem spp_v {sp : Sp} {vs : List V} (h : SpV sp vs H v) (p : ∀ H2, Ex H H2 → P v H2) : SpP sp vs H P := fun H1 e Q q E => h H1 e Q (fun H2 e2 => q v H2 e2 (p H2 (e.trans e2))) E
theorem ev_meth {C : Addr} {m : Str} {sp : Sp} {dvs vs : List V} {E : XK} {ta : TE} {t : TA} {a dx : Addr} {fs : List (Str × V)} (h : Ev ta σ H (.ref a)) (hH : H a = some (.ins C dx fs)) (hm : fs.lookup m = none) (ht : EvA t σ H vs) (hs : SpV sp (.ref a :: (vs ++ dvs)) H v) : Ev (tMeth C m sp dvs E ta t) σ H v :=
  evp_is (evp_meth h hH hm ht (spp_v hs fun _ _ => rfl))
theorem ev_fld {C : Addr} {f : Str} {ta : TE} {a dx : Addr} {fs : List (Str × V)} (h : Ev ta σ H (.ref a)) (hH : H a = some (.ins C dx fs)) (hc : Cls K C) (hn : NoAttr K C f) (hf : fs.lookup f = some v) : Ev (tFld K ta f) σ H v := fun H1 e _ q =>
  h H1 e _ fun H2 e2 => ⟨a, C, dx, fs, v, rfl, (e.trans e2) a _ hH, hc, hn, hf, q H2 e2⟩

/-! ### operators -/
theorem rc_lenS {s : Str} (h : s.length ≤ 100000) : RC (rLen K) [.str s] H (.int (s.length : Int)) := fun H1 _ _ q => ⟨.str s, s.length, rfl, ⟨sz_of h, rfl⟩, q H1 (Ex.refl H1)⟩
theorem rc_lenL {p : Addr} {xs : List V} (h : SqL K H p xs) : RC (rLen K) [.ref p] H (.int (xs.length : Int)) := fun H1 e _ q => ⟨.ref p, xs.length, rfl, .inl ⟨xs, ex_l e h, rfl⟩, q H1 (Ex.refl H1)⟩
theorem ev_lenS {s : Str} (ha : Ev ta σ H (.str s)) (h : s.length ≤ 100000) : Ev (tCB (rLen K) (tCons ta tNil)) σ H (.int (s.length : Int)) := ev_cb (ea_cons ha ea_nil) (rc_lenS h)
theorem ev_lenL {p : Addr} {xs : List V} (ha : Ev ta σ H (.ref p)) (h : SqL K H p xs) : Ev (tCB (rLen K) (tCons ta tNil)) σ H (.int (xs.length : Int)) := ev_cb (ea_cons ha ea_nil) (rc_lenL h)
def rAddS : R2 := fun x y H Q => ∃ i j, x = V.str i ∧ y = V.str j ∧ i.length + j.length ≤ sizeLine ∧ Q (V.str (i ++ j)) H
theorem rv_addS {a b : Str} (h : a.length + b.length ≤ 100000) : RV rAddS (.str a) (.str b) H (.str (a ++ b)) := fun H1 _ _ q => ⟨a, b, rfl, rfl, sz_of h, q H1 (Ex.refl H1)⟩
theorem ev_addS {a b : Str} (ha : Ev ta σ H (.str a)) (hb : Ev tb σ H (.str b)) (h : a.length + b.length ≤ 100000) : Ev (tOp rAddS ta tb) σ H (.str (a ++ b)) := ev_op ha hb (rv_addS h)
theorem ev_chain {a b : Bool} (ha : Ev ta σ H x) (hb : Ev tb σ H y) (h1 : RV r x y H (.bl a)) (h2 : a = true → Ev tc σ H z ∧ RV r' y z H (.bl b)) : Ev (tChain r r' ta tb tc) σ H (.bl (a && b)) := fun H1 e Q q =>
  ha H1 e _ fun H2 e2 => hb H2 (e.trans e2) _ fun H3 e3 => h1 H3 ((e.trans e2).trans e3) _ fun H4 e4 => ⟨a, rfl, by
    have E4 := ((e.trans e2).trans e3).trans e4
    cases a with
    | true =>
      show tc σ H4 _
      exact (h2 rfl).1 H4 E4 _ fun H5 e5 => (h2 rfl).2 H5 (E4.trans e5) Q fun H6 e6 => q H6 ((((e2.trans e3).trans e4).trans e5).trans e6)
    | false =>
      show Q (.bl false) H4
      exact q H4 ((e2.trans e3).trans e4)⟩
theorem rv_mod {g : Int → Int → V} {i j : Int} (h : 0 < j := by first | decide | omega) : RV (rI (fun _ j => 0 < j) g) (.int i) (.int j) H (g i j) := rv_I h
theorem rv_div {g : Int → Int → V} {i j : Int} (h : 0 < j ∧ j < 1073741824 := by first | decide | omega) : RV (rI CDiv g) (.int i) (.int j) H (g i j) := rv_I h
theorem rv_pow {g : Int → Int → V} {i j : Int} (h : 0 ≤ j ∧ j ≤ 1000000 ∧ i.natAbs < 18446744073709551616 := by first | decide | omega) : RV (rI CPow g) (.int i) (.int j) H (g i j) := rv_I h
theorem rv_mul1 {g : Int → Int → V} {i j : Int} (h : -18446744073709551616 < i ∧ i < 18446744073709551616 := by first | decide | omega) : RV (rI CMul g) (.int i) (.int j) H (g i j) := rv_I (.inl h)
theorem rv_mul2 {g : Int → Int → V} {i j : Int} (h : -18446744073709551616 < j ∧ j < 18446744073709551616 := by first | decide | omega) : RV (rI CMul g) (.int i) (.int j) H (g i j) := rv_I (.inr h)
theorem rv_shr {g : Int → Int → V} {i j : Int} (h : 0 ≤ j := by first | decide | omega) : RV (rI (fun _ j => 0 ≤ j) g) (.int i) (.int j) H (g i j) := rv_I h
theorem rv_isN : RV (fun x y H Q => y = V.non ∧ Q (V.bl (decide (x = V.non))) H) x .non H (.bl (decide (x = .non))) := fun H1 _ _ q => ⟨rfl, q H1 (Ex.refl H1)⟩
theorem rv_notN : RV (fun x y H Q => y = V.non ∧ Q (V.bl (!decide (x = V.non))) H) x .non H (.bl (!decide (x = .non))) := fun H1 _ _ q => ⟨rfl, q H1 (Ex.refl H1)⟩
theorem rc_abs {i : Int} : RC (fun xs H Q => ∃ i, xs = [V.int i] ∧ Q (V.int (if i < 0 then -i else i)) H) [.int i] H (.int (if i < 0 then -i else i)) := fun H1 _ _ q => ⟨i, rfl, q H1 (Ex.refl H1)⟩
theorem rc_max {i j : Int} : RC (fun xs H Q => ∃ i j, xs = [V.int i, V.int j] ∧ Q (V.int (if j > i then j else i)) H) [.int i, .int j] H (.int (if j > i then j else i)) := fun H1 _ _ q => ⟨i, j, rfl, q H1 (Ex.refl H1)⟩
theorem rc_min {i j : Int} : RC (fun xs H Q => ∃ i j, xs = [V.int i, V.int j] ∧ Q (V.int (if j < i then j else i)) H) [.int i, .int j] H (.int (if j < i then j else i)) := fun H1 _ _ q => ⟨i, j, rfl, q H1 (Ex.refl H1)⟩
theorem rc_str {i : Int} (h : i.natAbs.log2 < 1920) : RC (fun xs H Q => ∃ i, xs = [V.int i] ∧ i.natAbs.log2 < 1920 ∧ Q (V.str (Str.ofString (toString i))) H) [.int i] H (.str (Str.ofString (toString i))) := fun H1 _ _ q => ⟨i, rfl, h, q H1 (Ex.refl H1)⟩
theorem rc_sum {p : Addr} {ns : List Int} (h : SqL K H p (ns.map V.int)) : RC (rSum K) [.ref p] H (.int ns.sum) := fun H1 e _ q => ⟨p, ns, rfl, ex_l e h, q H1 (Ex.refl H1)⟩
theorem rc_all {p : Addr} {bs : List Bool} (h : SqL K H p (bs.map V.bl)) : RC (rAll K) [.ref p] H (.bl (bs.all id)) := fun H1 e _ q => ⟨p, bs, rfl, ex_l e h, q H1 (Ex.refl H1)⟩
/-- all([..]), the list made on the way -/
theorem ev_allN {bs : List Bool} (h : EvL te σ H (bs.map V.bl)) : Ev (tCB (rAll K) (tCons te tNil)) σ H (.bl (bs.all id)) := fun H1 e Q q =>
  h H1 e _ fun p H2 _ e2 hp => ⟨p, bs, rfl, sq_of hp, q H2 e2⟩
theorem ev_sumN {ns : List Int} (h : EvL te σ H (ns.map V.int)) : Ev (tCB (rSum K) (tCons te tNil)) σ H (.int ns.sum) := fun H1 e Q q =>
  h H1 e _ fun p H2 _ e2 hp => ⟨p, ns, rfl, sq_of hp, q H2 e2⟩

/-! ### types of values -/
/-- what isinstance may be asked of here: None, a truth, an int, a text, a list -/
def SimV (K : PySem.W.Frag) (H : Hp) : V → Prop
  | .non => True
  | .bl _ => True
  | .int _ => True
  | .str _ => True
  | .ref a => ∃ xs, H a = some (.lst xs)
  | _ => False
theorem SimV.mono {e : Ex H H'} : ∀ {v : V}, SimV K H v → SimV K H' v
  | .non, _ => True.intro
  | .bl _, _ => True.intro
  | .int _, _ => True.intro
  | .str _, _ => True.intro
  | .ref a, h => let ⟨xs, h⟩ := h; ⟨xs, e a _ h⟩
  | .byt _, h => h.elim
  | .flt _, h => h.elim
  | .ty _, h => h.elim
def isInt : V → Bool
  | .int _ => true
  | .bl _ => true
  | _ => false
def isBool : V → Bool
  | .bl _ => true
  | _ => false
def isStr : V → Bool
  | .str _ => true
  | _ => false
def isLst : V → Bool
  | .ref _ => true
  | _ => false
/-- the type's name -/
def tyN : V → String
  | .non => "NoneType"
  | .bl _ => "bool"
  | .int _ => "int"
  | .str _ => "str"
  | _ => "list"
theorem SimV.ty : ∀ {v : V}, SimV K H v → TyX K H v (.type (tyN v))
  | .non, _ => .base .non
  | .bl b, _ => .base (.bl b)
  | .int i, _ => .base (.int i)
  | .str s, _ => .base (.str s)
  | .ref a, h => let ⟨_, h⟩ := h; .base (.lst h)
  | .byt _, h => h.elim
  | .flt _, h => h.elim
  | .ty _, h => h.elim
theorem rc_isi_of {n : String} {b : Bool} (hs : SimV K H v) (hk : PySem.W.kitOne K (.type (tyN v)) (.type n) = some b) : RC (rIsi K) [v, .ty n] H (.bl b) := fun H1 e _ q =>
  ⟨v, .ty n, _, _, b, rfl, .ty n, (hs.mono (e := e)).ty, hk, q H1 (Ex.refl H1)⟩
theorem rc_int (hs : SimV K H v) : RC (rIsi K) [v, .ty "int"] H (.bl (isInt v)) := rc_isi_of hs (by
  cases v with
  | non => exact kit_ty (a := "NoneType") (b := "int") (r := false) (by decide +kernel)
  | bl b => exact kit_ty (a := "bool") (b := "int") (r := true) (by decide +kernel)
  | int i => exact kit_ty (a := "int") (b := "int") (r := true) (by decide +kernel)
  | str s => exact kit_ty (a := "str") (b := "int") (r := false) (by decide +kernel)
  | ref a => exact kit_ty (a := "list") (b := "int") (r := false) (by decide +kernel)
  | byt b => exact hs.elim
  | flt b => exact hs.elim
  | ty n => exact hs.elim)
theorem rc_bool (hs : SimV K H v) : RC (rIsi K) [v, .ty "bool"] H (.bl (isBool v)) := rc_isi_of hs (by
  cases v with
  | non => exact kit_ty (a := "NoneType") (b := "bool") (r := false) (by decide +kernel)
  | bl b => exact kit_ty (a := "bool") (b := "bool") (r := true) (by decide +kernel)
  | int i => exact kit_ty (a := "int") (b := "bool") (r := false) (by decide +kernel)
  | str s => exact kit_ty (a := "str") (b := "bool") (r := false) (by decide +kernel)
  | ref a => exact kit_ty (a := "list") (b := "bool") (r := false) (by decide +kernel)
  | byt b => exact hs.elim
  | flt b => exact hs.elim
  | ty n => exact hs.elim)
theorem rc_isStr (hs : SimV K H v) : RC (rIsi K) [v, .ty "str"] H (.bl (isStr v)) := rc_isi_of hs (by
  cases v with
  | non => exact kit_ty (a := "NoneType") (b := "str") (r := false) (by decide +kernel)
  | bl b => exact kit_ty (a := "bool") (b := "str") (r := false) (by decide +kernel)
  | int i => exact kit_ty (a := "int") (b := "str") (r := false) (by decide +kernel)
  | str s => exact kit_ty (a := "str") (b := "str") (r := true) (by decide +kernel)
  | ref a => exact kit_ty (a := "list") (b := "str") (r := false) (by decide +kernel)
  | byt b => exact hs.elim
  | flt b => exact hs.elim
  | ty n => exact hs.elim)
theorem rc_isLst (hs : SimV K H v) : RC (rIsi K) [v, .ty "list"] H (.bl (isLst v)) := rc_isi_of hs (by
  cases v with
  | non => exact kit_ty (a := "NoneType") (b := "list") (r := false) (by decide +kernel)
  | bl b => exact kit_ty (a := "bool") (b := "list") (r := false) (by decide +kernel)
  | int i => exact kit_ty (a := "int") (b := "list") (r := false) (by decide +kernel)
  | str s => exact kit_ty (a := "str") (b := "list") (r := false) (by decide +kernel)
  | ref a => exact kit_ty (a := "list") (b := "list") (r := true) (by decide +kernel)
  | byt b => exact hs.elim
  | flt b => exact hs.elim
  | ty n => exact hs.elim)
theorem ev_isi {n : String} {b : Bool} (h : Ev te σ H v) (hr : RC (rIsi K) [v, .ty n] H (.bl b)) : Ev (tCB (rIsi K) (tCons te (tCons (tC (.ty n)) tNil))) σ H (.bl b) := ev_cb (ea_cons h (ea_cons ev_c ea_nil)) hr

/-! ### dicts -/
theorem dget_ex {a : Addr} {o : Option V} (e : Ex H H') (g : DGet H a y o) : DGet H' a y o := by
  rcases g with ⟨kvs, k, h, e1, e2⟩ | ⟨kvs, k, b, h, e1, hb, e2⟩
  · exact .inl ⟨kvs, k, ex_rd e h, e1, e2⟩
  · exact .inr ⟨kvs, k, b, ex_rd e h, e1, e b _ hb, e2⟩
theorem ev_dget {a : Addr} {td : TE} {ty : TE} (h : Ev td σ H (.ref a)) (hy : Ev ty σ H y) (g : DGet H a y (some v)) : Ev (tDGet td ty) σ H v := fun H1 e _ q =>
  h H1 e _ fun H2 e2 => hy H2 (e.trans e2) _ fun H3 e3 => ⟨a, v, rfl, dget_ex ((e.trans e2).trans e3) g, q H3 (e2.trans e3)⟩
/-- the key a tuple that is made on the way -/
theorem ev_dgetU {a : Addr} {td : TE} {ty : TE} {kvs : List (List Key × V)} {k : List Key} (h : Ev td σ H (.ref a)) (hy : EvU ty σ H (k.map kV)) (hd : Rd H a (.dT kvs)) (hv : valV kvs k = some v) : Ev (tDGet td ty) σ H v := fun H1 e _ q =>
  h H1 e _ fun H2 e2 => hy H2 (e.trans e2) _ fun p H3 _ e3 hp => ⟨a, v, rfl, .inr ⟨kvs, k, p, ex_rd ((e.trans e2).trans e3) hd, rfl, hp, hv.symm⟩, q H3 (e2.trans e3)⟩
theorem ev_din {a : Addr} {td : TE} {ty : TE} {o : Option V} (hy : Ev ty σ H y) (h : Ev td σ H (.ref a)) (g : DGet H a y o) : Ev (tDIn ty td) σ H (.bl o.isSome) := fun H1 e _ q =>
  hy H1 e _ fun H2 e2 => h H2 (e.trans e2) _ fun H3 e3 => ⟨a, o, rfl, dget_ex ((e.trans e2).trans e3) g, q H3 (e2.trans e3)⟩
theorem ev_dnotin {a : Addr} {td : TE} {ty : TE} {o : Option V} (hy : Ev ty σ H y) (h : Ev td σ H (.ref a)) (g : DGet H a y o) : Ev (tDNotIn ty td) σ H (.bl (!o.isSome)) := fun H1 e _ q =>
  hy H1 e _ fun H2 e2 => h H2 (e.trans e2) _ fun H3 e3 => ⟨a, o, rfl, dget_ex ((e.trans e2).trans e3) g, q H3 (e2.trans e3)⟩
theorem ev_dinU {a : Addr} {td : TE} {ty : TE} {kvs : List (List Key × V)} {k : List Key} (hy : EvU ty σ H (k.map kV)) (h : Ev td σ H (.ref a)) (hd : Rd H a (.dT kvs)) : Ev (tDIn ty td) σ H (.bl (valV kvs k).isSome) := fun H1 e _ q =>
  hy H1 e _ fun p H2 _ e2 hp => h H2 (e.trans e2) _ fun H3 e3 => ⟨a, valV kvs k, rfl, .inr ⟨kvs, k, p, ex_rd ((e.trans e2).trans e3) hd, rfl, e3 p _ hp, rfl⟩, q H3 (e2.trans e3)⟩
theorem ev_dget1U {a : Addr} {td : TE} {ty : TE} {kvs : List (List Key × V)} {k : List Key} (h : Ev td σ H (.ref a)) (hy : EvU ty σ H (k.map kV)) (hd : Rd H a (.dT kvs)) : Ev (tDGet1 td ty) σ H ((valV kvs k).getD .non) := fun H1 e _ q =>
  h H1 e _ fun H2 e2 => ⟨a, rfl, .inr ⟨kvs, ex_rd (e.trans e2) hd⟩, hy H2 (e.trans e2) _ fun p H3 _ e3 hp => ⟨valV kvs k, .inr ⟨kvs, k, p, ex_rd ((e.trans e2).trans e3) hd, rfl, hp, rfl⟩, q H3 (e2.trans e3)⟩⟩
theorem dg_k {a : Addr} {kvs : List (Key × V)} {k : Key} {o : Option V} (h : Rd H a (.dK kvs)) (hv : valV kvs k = o) : DGet H a (kV k) o := .inl ⟨kvs, k, h, rfl, hv.symm⟩

/-! ### targets -/
theorem g_tup {n : Nat} {t : TGs} {a : Addr} {xs : List V} {Q : L2.St → Hp → Prop} (h : SqT K H a xs) (hl : xs.length = n) (k : t xs σ H Q) : gTup K n t (.ref a) σ H Q := ⟨a, xs, rfl, h, hl, k⟩
theorem g_cons {i : Nat} {u : TGs} {xs : List V} {Q : L2.St → Hp → Prop} (k : u xs (σ.set i (some v)) H Q) : gCons (gName i) u (v :: xs) σ H Q := ⟨v, xs, rfl, k⟩
theorem g_nil {Q : L2.St → Hp → Prop} (k : Q σ H) : gNil [] σ H Q := ⟨rfl, k⟩

/-! ### for i, x in enumerate(..) -/
theorem for_enum {a : Addr} {xs : List V} {n i j : Nat} (hn : (2 : Nat) = n) (Pv : Nat → L2.St → Hp → Prop) (h0 : Pv 0 σ H) (hl : ∀ k σ' H', k ≤ xs.length → Pv k σ' H' → SqL K H' a xs)
    (hs : ∀ (k : Nat) x σ' H' H2, xs[k]? = some x → Pv k σ' H' → Ex H' H2 → tu { D with nx := Pv (k + 1), ct := Pv (k + 1), bk := D.nx } ((σ'.set i (some (.int (k : Int)))).set j (some x)) H2) (hd : ∀ σ' H', Pv xs.length σ' H' → D.nx σ' H') :
    ∃ W : Nat → Nat → L2.St → Hp → Prop, (∃ m, W 0 m σ H) ∧ ∀ k m σ H, W k m σ H →
      ((Ite K a).stop k H ∧ D.nx σ H) ∨ ((Ite K a).go k H ∧ ∃ N : L2.St → Hp → Prop, (∀ σ' H', N σ' H' → ∃ m', m' < m ∧ W (k + 1) m' σ' H') ∧ ∀ v H', (Ite K a).yld k H v H' → gTup K n (gCons (gName i) (gCons (gName j) gNil)) v σ H' fun σ2 H2 => tu { D with nx := N, ct := N, bk := D.nx } σ2 H2) := by
  refine ⟨fun k m σ H => m = xs.length - k ∧ k ≤ xs.length ∧ Pv k σ H, ⟨xs.length, rfl, Nat.zero_le _, h0⟩, ?_⟩
  rintro k m σ H ⟨rfl, hi, p⟩
  have q := hl k σ H hi p
  by_cases hlt : k < xs.length
  · refine .inr ⟨⟨xs, xs[k], q, List.getElem?_eq_getElem hlt⟩, Pv (k + 1), fun σ' H' p' => ⟨xs.length - (k + 1), by omega, rfl, hlt, p'⟩, fun v H' y => ?_⟩
    obtain ⟨T, x, rfl, hT, rfl, f⟩ := y
    exact g_tup (st_of upd_same) hn (g_cons (g_cons (g_nil (hs k x σ H _ (f xs q) p (Ex.new hT)))))
  · have e : k = xs.length := by omega
    subst e
    exact .inl ⟨⟨xs, q, Nat.le_refl _⟩, hd σ H p⟩
theorem q_forEnumN {xs : List V} {n i j : Nat} (hn : (2 : Nat) = n) (h : EvL te σ H xs) (Pv : Addr → Nat → L2.St → Hp → Prop) (h0 : ∀ p H1, H p = none → Ex H H1 → H1 p = some (.lst xs) → Pv p 0 σ H1) (hl : ∀ p k σ' H', Pv p k σ' H' → SqL K H' p xs)
    (hs : ∀ p (k : Nat) x σ' H' H2, xs[k]? = some x → Pv p k σ' H' → Ex H' H2 → tu { D with nx := Pv p (k + 1), ct := Pv p (k + 1), bk := tz D } ((σ'.set i (some (.int (k : Int)))).set j (some x)) H2) (hd : ∀ p σ' H', Pv p xs.length σ' H' → tz D σ' H') :
    tSeq (tFor (iEnum K (tCons te tNil)) (gTup K n (gCons (gName i) (gCons (gName j) gNil))) tu) tz D σ H :=
  h H (Ex.refl H) _ fun p H1 hp e h1 => ⟨p, xs, rfl, sq_of h1, for_enum (D := { D with nx := tz D }) hn (Pv p) (h0 p H1 hp e h1) (fun k σ' H' _ q => hl p k σ' H' q) (hs p) (hd p)⟩
theorem q_forEnum {a : Addr} {xs : List V} {n i j : Nat} (hn : (2 : Nat) = n) (h : Ev te σ H (.ref a)) (hx : SqL K H a xs) (Pv : Nat → L2.St → Hp → Prop) (h0 : ∀ H1, Ex H H1 → Pv 0 σ H1) (hl : ∀ k σ' H', Pv k σ' H' → SqL K H' a xs)
    (hs : ∀ (k : Nat) x σ' H' H2, xs[k]? = some x → Pv k σ' H' → Ex H' H2 → tu { D with nx := Pv (k + 1), ct := Pv (k + 1), bk := tz D } ((σ'.set i (some (.int (k : Int)))).set j (some x)) H2) (hd : ∀ σ' H', Pv xs.length σ' H' → tz D σ' H') :
    tSeq (tFor (iEnum K (tCons te tNil)) (gTup K n (gCons (gName i) (gCons (gName j) gNil))) tu) tz D σ H :=
  h H (Ex.refl H) _ fun H1 e => ⟨a, xs, rfl, ex_l e hx, for_enum (D := { D with nx := tz D }) hn Pv (h0 H1 e) (fun k σ' H' _ q => hl k σ' H' q) hs hd⟩
/-- {} -/
theorem q_dictK {i : Nat} (k : ∀ p H1, H p = none → Ex H H1 → H1 p = some (.dK []) → tz D (σ.set i (some (.ref p))) H1) : tSeq (tAsg tDNewK (gName i)) tz D σ H := fun p hp => k p _ hp (Ex.new hp) upd_same
theorem q_dictT {i : Nat} (k : ∀ p H1, H p = none → Ex H H1 → H1 p = some (.dT []) → tz D (σ.set i (some (.ref p))) H1) : tSeq (tAsg tDNewT (gName i)) tz D σ H := fun p hp => k p _ hp (Ex.new hp) upd_same
/-- d[k] = e, k a text -/
theorem q_dputK {d : Addr} {kvs : List (Key × V)} {ky : Key} {td ty : TE} {P : V → Hp → Prop} (hd : H d = some (.dK kvs)) (hz : kvs.length < 100000) (h : EvP te σ H P) (h1 : Ev td σ H (.ref d)) (h2 : Ev ty σ H (kV ky)) (k : ∀ v H1, Ex H H1 → (∃ H0, Ex H0 H1 ∧ Ex H H0 ∧ P v H0) → tz D σ (upd H1 d (.dK (putK kvs ky v)))) : tSeq (sDPut td ty te) tz D σ H :=
  h H (Ex.refl H) _ fun v H1 e p => h1 H1 e _ fun H2 e2 => h2 H2 (e.trans e2) _ fun H3 e3 => ⟨d, _, rfl, .inl ⟨kvs, ky, (e.trans (e2.trans e3)) d _ hd, rfl, sz_lt hz, rfl⟩, k v H3 (e.trans (e2.trans e3)) ⟨H1, e2.trans e3, e, p⟩⟩
theorem s_dputK {d : Addr} {kvs : List (Key × V)} {ky : Key} {td ty : TE} {P : V → Hp → Prop} (hd : H d = some (.dK kvs)) (hz : kvs.length < 100000) (h : EvP te σ H P) (h1 : Ev td σ H (.ref d)) (h2 : Ev ty σ H (kV ky)) (k : ∀ v H1, Ex H H1 → (∃ H0, Ex H0 H1 ∧ Ex H H0 ∧ P v H0) → D.nx σ (upd H1 d (.dK (putK kvs ky v)))) : sDPut td ty te D σ H :=
  h H (Ex.refl H) _ fun v H1 e p => h1 H1 e _ fun H2 e2 => h2 H2 (e.trans e2) _ fun H3 e3 => ⟨d, _, rfl, .inl ⟨kvs, ky, (e.trans (e2.trans e3)) d _ hd, rfl, sz_lt hz, rfl⟩, k v H3 (e.trans (e2.trans e3)) ⟨H1, e2.trans e3, e, p⟩⟩

/-! ### texts -/
theorem ev_slS {s : Str} {tl th : TO} {lo hi : Option Int} (h : Ev te σ H (.str s)) (h1 : EvO tl σ H lo) (h2 : EvO th σ H hi) (hs : s.length ≤ 100000) : Ev (tSl rSlS te tl th) σ H (.str (cutS s lo hi)) := fun H1 e _ q =>
  h H1 e _ fun H2 e2 => h1 H2 (e.trans e2) _ fun H3 e3 => h2 H3 ((e.trans e2).trans e3) _ fun H4 e4 => ⟨s, rfl, sz_of hs, q H4 ((e2.trans e3).trans e4)⟩
def rJoin (K : PySem.W.Frag) : V → List V → Hp → VK → Prop := fun x xs H_1 Q => ∃ a p ys, x = V.str a ∧ xs = [V.ref p] ∧ (SqL K H_1 p (List.map V.str ys) ∨ SqT K H_1 p (List.map V.str ys)) ∧ (List.map (fun x : Str => x.length) ys).sum + ys.length * a.length ≤ 16777216 ∧ Q (V.str (Txt.join a ys)) H_1
/-- s.join(a new list) -/
theorem ev_joinN {s : Str} {ys : List Str} (h : Ev ta σ H (.str s)) (hl : EvL te σ H (ys.map V.str)) (hz : (ys.map fun x : Str => x.length).sum + ys.length * s.length ≤ 16777216) : Ev (tM1 (rJoin K) ta te) σ H (.str (Txt.join s ys)) := fun H1 e _ q =>
  h H1 e _ fun H2 e2 => ⟨⟨s, rfl⟩, hl H2 (e.trans e2) _ fun p H3 _ e3 hp => ⟨s, p, ys, rfl, rfl, .inl (sq_of hp), hz, q H3 (e2.trans e3)⟩⟩
theorem el_rev {p : Addr} {xs : List V} (h : Ev te σ H (.ref p)) (hp : SqL K H p xs) : EvL (tListRev K te) σ H xs.reverse := fun H1 e _ q =>
  h H1 e _ fun H2 e2 => ⟨p, xs, rfl, ex_l (e.trans e2) hp, fun l hl => q l _ (fresh_back e2 hl) (e2.trans (Ex.new hl)) upd_same⟩
theorem ev_plain {C : Addr} : EvP (tPlain C) σ H fun v H2 => ∃ a dx, v = .ref a ∧ H2 a = some (.ins C dx []) := fun H1 _ _ q x dx nx nd ne => q _ _ (fun a o h => by
  rw [upd_ne (ne_of_none h nx), upd_ne (ne_of_none h nd)]
  exact h) ⟨x, dx, rfl, upd_same⟩
end
/-! ### a list's item for +=  -/
section
variable {X : Cx}
theorem get_list : PGet X (rIxL X.K) := by
  intro pins s σ H x y v u Q I rx ry h
  obtain ⟨p, xs, i, z, rfl, rfl, hq, he, q⟩ := h
  cases rx
  obtain ⟨t, rfl⟩ := ry
  obtain ⟨its, r, pl, hz⟩ := I.list hq
  obtain ⟨j, h1, h2, h3, h4, h5⟩ := atI_get he
  obtain ⟨w, ew, rw'⟩ := r.get h2
  have hl := r.length
  have hn := line63
  have fin : EP X pins σ Q w s := ⟨z, H, I, rw', q⟩
  by_cases h0 : 0 ≤ i
  · have hj : i.toNat = j := by
      rw [seqIndex_of h0 h5] at h1
      exact Option.some.inj h1
    exact wpAny_getItem_list pl.isList h0 (by omega) (x := w) (by rw [hj]; simpa using ew) fin
  · have hj : (i + (its.toArray.size : Int)).toNat = j := by
      rw [seqIndex_neg (by omega) h4] at h1
      rw [List.size_toArray, ← hl]
      exact Option.some.inj h1
    exact wpAny_getItem_list_neg pl.isList (by omega) (by rw [List.size_toArray] <;> omega) (by omega) (x := w) (by rw [hj]; simpa using ew) fin
end
end K71

set_option maxHeartbeats 4000000
/-! K71Pl: plain helpers: items by place, words, membership and equality of lists of flat values. -/
namespace K71
open PySem PySem.Spec PyProof.Rows L2 Evl
theorem at_of {α : Type} {xs : List α} {i : Int} (h0 : 0 ≤ i) (h1 : i < (xs.length : Int)) : ∃ v, v ∈ xs ∧ xs[i.toNat]? = some v ∧ atI xs i = some v := by
  have hl : i.toNat < xs.length := by omega
  refine ⟨xs[i.toNat], List.getElem_mem hl, List.getElem?_eq_getElem hl, ?_⟩
  have e := atI_nat (xs := xs) (j := i.toNat) (v := xs[i.toNat]) (List.getElem?_eq_getElem hl)
  rwa [Int.toNat_of_nonneg h0] at e
theorem at_mod {α : Type} {xs : List α} (c : Int) (h : 0 < xs.length) : ∃ v, v ∈ xs ∧ xs[(c % (xs.length : Int)).toNat]? = some v ∧ atI xs (c % (xs.length : Int)) = some v :=
  at_of (Int.emod_nonneg _ (by omega)) (Int.emod_lt_of_pos _ (by omega))
theorem at_modm {α : Type} {xs : List α} {m : Int} (c : Int) (hm : (xs.length : Int) = m) (h : 0 < m) : ∃ v, v ∈ xs ∧ atI xs (c % m) = some v := by
  obtain ⟨v, h1, _, h2⟩ := at_mod (xs := xs) c (by omega)
  exact ⟨v, h1, by rw [← hm]; exact h2⟩
theorem at_neg {α : Type} {xs : List α} (h : xs ≠ []) : atI xs (-1) = some (xs.getLast h) := by
  obtain ⟨ys, z, rfl⟩ : ∃ ys z, xs = ys ++ [z] := ⟨xs.dropLast, xs.getLast h, (List.dropLast_concat_getLast h).symm⟩
  rw [atI_last]
  simp
/-- a text of few plain signs -/
def Ok (x : Str) : Prop := x.length ≤ 20 ∧ ∀ c ∈ x.cps.toList, c < 128
theorem Ok.str {x : Str} (h : Ok x) : PyData.strOk x = true := by
  unfold PyData.strOk
  rw [← Array.all_toList, List.all_eq_true]
  intro c hc
  have := h.2 c hc
  exact decide_eq_true (by omega)
/-- a flat value, its texts plain -/
def okV : V → Prop
  | .non => True
  | .bl _ => True
  | .int _ => True
  | .str x => PyData.strOk x = true
  | _ => False
theorem okV.flat : ∀ {v : V}, okV v → flatV v = true
  | .non, _ => rfl
  | .bl _, _ => rfl
  | .int _, _ => rfl
  | .str _, _ => rfl
  | .byt _, h => h.elim
  | .flt _, h => h.elim
  | .ref _, h => h.elim
  | .ty _, h => h.elim
theorem all_flat {xs : List V} (h : ∀ v ∈ xs, okV v) : xs.all flatV = true := List.all_eq_true.mpr fun v hv => (h v hv).flat
def dOf : V → PyData
  | .bl b => .bool b
  | .int i => .int i
  | .str s => .str s
  | _ => .none
theorem dp_of {K : PySem.W.Frag} {H : Hp} : ∀ {v : V}, okV v → Dp K H v (dOf v)
  | .non, _ => .non
  | .bl b, _ => .bl b
  | .int i, _ => .int i
  | .str x, _ => .str x
  | .byt _, h => h.elim
  | .flt _, h => h.elim
  | .ref _, h => h.elim
  | .ty _, h => h.elim
theorem dpAll_of {K : PySem.W.Frag} {H : Hp} : ∀ {xs : List V}, (∀ v ∈ xs, okV v) → DpAll K H xs (xs.map dOf)
  | [], _ => .nil
  | v :: xs, h => .cons (dp_of (h v (List.mem_cons_self ..))) (dpAll_of fun w hw => h w (List.mem_cons_of_mem _ hw))
theorem can_of : ∀ {v : V}, okV v → (dOf v).canLay0 = true ∧ (dOf v).depth = 0
  | .non, _ => ⟨rfl, rfl⟩
  | .bl b, _ => ⟨by simp [dOf, PyData.canLay0], by simp [dOf, PyData.depth]⟩
  | .int i, _ => ⟨by simp [dOf, PyData.canLay0], by simp [dOf, PyData.depth]⟩
  | .str x, h => ⟨by simp only [dOf, PyData.canLay0]; exact h, by simp [dOf, PyData.depth]⟩
  | .byt _, h => h.elim
  | .flt _, h => h.elim
  | .ref _, h => h.elim
  | .ty _, h => h.elim
theorem canAll_of : ∀ {xs : List V}, (∀ v ∈ xs, okV v) → PyData.canLayAll0 (xs.map dOf) = true ∧ PyData.depthAll (xs.map dOf) = 0
  | [], _ => ⟨by simp [PyData.canLayAll0], by simp [PyData.depthAll]⟩
  | v :: xs, h => by
    have h1 := can_of (h v (List.mem_cons_self ..))
    have h2 := canAll_of (xs := xs) fun w hw => h w (List.mem_cons_of_mem _ hw)
    refine ⟨?_, ?_⟩
    · rw [List.map_cons, PyData.canLayAll0, h1.1, h2.1]; rfl
    · rw [List.map_cons, PyData.depthAll, h1.2, h2.2]; rfl
theorem shaped_of {xs : List V} (h : ∀ v ∈ xs, okV v) : SeqAt.shaped (.list (xs.map dOf)) = true := by
  have h2 := canAll_of h
  unfold SeqAt.shaped
  rw [Bool.and_eq_true]
  refine ⟨?_, decide_eq_true ?_⟩
  · rw [PyData.canLay0]; exact h2.1
  · rw [PyData.depth, h2.2]; decide
theorem eqv_nil (xs : List V) : PyData.eqv (.list (xs.map dOf)) (.list []) = xs.isEmpty := by
  cases xs with
  | nil => rw [List.map_nil, PyData.eqv, PyData.eqvAll]; rfl
  | cons v vs => rw [List.map_cons, PyData.eqv, PyData.eqvAll]; rfl
section
variable {K : PySem.W.Frag} {σ : L2.St} {H : Hp} {ta tb : TE}
theorem dp_list {p : Addr} {xs : List V} (h : SqL K H p xs) (ho : ∀ v ∈ xs, okV v) : Dp K H (.ref p) (.list (xs.map dOf)) := .lst h (dpAll_of ho)
/-- xs == [] -/
theorem ev_eqNil {p : Addr} {xs : List V} (ha : Ev ta σ H (.ref p)) (h : SqL K H p xs) (ho : ∀ v ∈ xs, okV v) : Ev (tOp (rEqD K) ta (tLst tNil)) σ H (.bl xs.isEmpty) :=
  ev_opL ha (el_lst ea_nil (by decide)) fun q H1 hq e H2 e2 Q k => ⟨_, _, dp_list (ex_l (e.trans e2) h) ho, .lst (sq_of (e2 q _ hq)) .nil, shaped_of ho, shaped_of (xs := []) (fun _ z => nomatch z), by rw [eqv_nil]; exact k H2 (Ex.refl H2)⟩
/-- a new list == [], != [] -/
theorem ev_eqNilN {xs : List V} (ha : EvL ta σ H xs) (ho : ∀ v ∈ xs, okV v) : Ev (tOp (rEqD K) ta (tLst tNil)) σ H (.bl xs.isEmpty) :=
  ev_opLL ha (el_lst ea_nil (by decide)) fun p q H1 hp hq e H2 e2 Q k => ⟨_, _, dp_list (sq_of (e2 p _ hp)) ho, .lst (sq_of (e2 q _ hq)) .nil, shaped_of ho, shaped_of (xs := []) (fun _ z => nomatch z), by rw [eqv_nil]; exact k H2 (Ex.refl H2)⟩
theorem ev_neNilN {xs : List V} (ha : EvL ta σ H xs) (ho : ∀ v ∈ xs, okV v) : Ev (tOp (rNeD K) ta (tLst tNil)) σ H (.bl (!xs.isEmpty)) :=
  ev_opLL ha (el_lst ea_nil (by decide)) fun p q H1 hp hq e H2 e2 Q k => ⟨_, _, dp_list (sq_of (e2 p _ hp)) ho, .lst (sq_of (e2 q _ hq)) .nil, shaped_of ho, shaped_of (xs := []) (fun _ z => nomatch z), by rw [eqv_nil]; exact k H2 (Ex.refl H2)⟩
end
theorem ok_strs {ws : List Str} (h : ∀ x ∈ ws, Ok x) : ∀ v ∈ ws.map V.str, okV v := fun v hv => by
  obtain ⟨x, hx, rfl⟩ := List.mem_map.mp hv
  exact (h x hx).str
theorem flat_strs (ws : List Str) : (ws.map V.str).all flatV = true := List.all_eq_true.mpr fun v hv => by
  obtain ⟨x, hx, rfl⟩ := List.mem_map.mp hv
  rfl
/-- a text in a list of texts -/
theorem inV_str (x : Str) : ∀ ws : List Str, inV (.str x) (ws.map V.str) = decide (x ∈ ws)
  | [] => rfl
  | y :: ws => by
    have ih := inV_str x ws
    unfold inV at ih ⊢
    rw [List.map_cons, List.any_cons, ih]
    have e : eqV (.str y) (.str x) = decide (x = y) := by
      show (y == x) = _
      by_cases h : y = x
      · subst h; simp
      · have h' : ¬ x = y := fun z => h z.symm
        rw [decide_eq_false h', beq_eq_false_iff_ne.mpr h]
    rw [e, ← Bool.decide_or]
    congr 1
    rw [List.mem_cons]
/-- drawn words: some, apart, plain -/
structure Words (ws : List Str) (m : Nat) : Prop where
  ne : ws ≠ []
  nd : ws.Nodup
  le : ws.length ≤ m
  ok : ∀ x ∈ ws, Ok x ∧ x.length ≤ 6
theorem len_cat (a b : Str) : (a ++ b).length = a.length + b.length := by
  have e := congrArg List.length (TL.tl_append a b)
  rw [List.length_append] at e
  simpa [TL.tl, Str.length] using e
theorem tl_len (a : Str) : a.cps.toList.length = a.length := by simp [Str.length]
end K71

set_option maxHeartbeats 4000000
/-! K71W1: the law's own small defs, and the plan. -/
namespace K71
open PySem PySem.Spec PyProof.Rows L2 Evl
section
variable {P : Program} {w : World} {K : PySem.W.Frag} {mg : Str → Option Value} {base : Heap}
/-! ### is_whole, _law_whole -/
def whole (v : V) : Bool := isInt v && !isBool v
def sp_whole (K : PySem.W.Frag) : Sp := fun vs H Q _ => ∃ v, vs = [v] ∧ SimV K H v ∧ ∀ H2, Ex H H2 → Q (.bl (whole v)) H2
theorem spv_whole {v : V} {H : Hp} (h : SimV K H v) : SpV (sp_whole K) [v] H (.bl (whole v)) := fun H1 e Q q E => ⟨v, rfl, h.mono (e := e), fun H2 e2 => q H2 e2⟩
theorem sc_is_whole : FnScope ["value"] ["value"] (defScope s_is_whole) := ⟨rfl, rfl, rfl, by decide +kernel, rfl, by decide +kernel, by decide +kernel⟩
theorem ca_is_whole (T : Ctx K mg) : Ca P w K mg base CX0 1 "is_whole" (sp_whole K) := by
  obtain ⟨fd, F⟩ := T.fd_is_whole
  refine caOf F sc_is_whole T.g_is_whole (F.bindsN fun _ _ _ _ _ _ us hl => match us, hl with | [_], _ => rfl) (fun vs H Q E h => ?_) (fun cdv A outer s H vs Q E hr h => ⟨_, PSs.nox (pss_one (ps_ret (pe_and (pe_callB (r := rIsi K) call_isi (by rfl) T.f_isinstance (by decide +kernel) (pa_cons (pv 0) (pa_cons (pe_bltn (v := .ty "int") (by rfl) T.f_int (by decide +kernel) rfl) pa_nil))) (pe_one (pe_not (pe_callB (r := rIsi K) call_isi (by rfl) T.f_isinstance (by decide +kernel) (pa_cons (pv 0) (pa_cons (pe_bltn (v := .ty "bool") (by rfl) T.f_bool (by decide +kernel) rfl) pa_nil)))))))), ?_⟩)
  · obtain ⟨v, rfl, _⟩ := h; rfl
  · obtain ⟨v, rfl, h, q⟩ := h
    exact s_ret (ev_andV (ev_isi (ev_var rfl) (rc_int h)) fun _ => (ev_notV (ev_isi (ev_var rfl) (rc_bool h)))) q
theorem sc__law_whole : FnScope ["_law_found"] ["_law_found"] (defScope s__law_whole) := ⟨rfl, rfl, rfl, by decide +kernel, rfl, by decide +kernel, by decide +kernel⟩
theorem ca__law_whole (T : Ctx K mg) : Ca P w K mg base CX0 1 "_law_whole" (sp_whole K) := by
  obtain ⟨fd, F⟩ := T.fd__law_whole
  refine caOf F sc__law_whole T.g__law_whole (F.bindsN fun _ _ _ _ _ _ us hl => match us, hl with | [_], _ => rfl) (fun vs H Q E h => ?_) (fun cdv A outer s H vs Q E hr h => ⟨_, PSs.nox (pss_one (ps_ret (pe_and (pe_callB (r := rIsi K) call_isi (by rfl) T.f_isinstance (by decide +kernel) (pa_cons (pv 0) (pa_cons (pe_bltn (v := .ty "int") (by rfl) T.f_int (by decide +kernel) rfl) pa_nil))) (pe_one (pe_not (pe_callB (r := rIsi K) call_isi (by rfl) T.f_isinstance (by decide +kernel) (pa_cons (pv 0) (pa_cons (pe_bltn (v := .ty "bool") (by rfl) T.f_bool (by decide +kernel) rfl) pa_nil)))))))), ?_⟩)
  · obtain ⟨v, rfl, _⟩ := h; rfl
  · obtain ⟨v, rfl, h, q⟩ := h
    exact s_ret (ev_andV (ev_isi (ev_var rfl) (rc_int h)) fun _ => (ev_notV (ev_isi (ev_var rfl) (rc_bool h)))) q
/-! ### _law_cell_at -/
def sp_cell (K : PySem.W.Frag) : Sp := fun vs H Q _ => ∃ (a : Addr) (ns : List Int) (k : Int), vs = [.ref a, .int k] ∧ SqL K H a (ns.map V.int) ∧ 0 ≤ k ∧ ∀ v H2, Ex H H2 → (∃ i, v = .int i) → Q v H2
theorem spp_cell {a : Addr} {ns : List Int} {k : Int} {H : Hp} (h : SqL K H a (ns.map V.int)) (hk : 0 ≤ k) : SpP (sp_cell K) [.ref a, .int k] H fun v _ => ∃ i, v = .int i := fun H1 e Q q E => ⟨a, ns, k, rfl, ex_l e h, hk, fun v H2 e2 p => q v H2 e2 p⟩
theorem sc__law_cell_at : FnScope ["_law_script", "_law_k"] ["_law_script", "_law_k"] (defScope s__law_cell_at) := ⟨rfl, rfl, rfl, by decide +kernel, rfl, by decide +kernel, by decide +kernel⟩
theorem ca__law_cell_at (T : Ctx K mg) : Ca P w K mg base CX0 1 "_law_cell_at" (sp_cell K) := by
  obtain ⟨fd, F⟩ := T.fd__law_cell_at
  refine caOf F sc__law_cell_at T.g__law_cell_at (F.bindsN fun _ _ _ _ _ _ us hl => match us, hl with | [_, _], _ => rfl) (fun vs H Q E h => ?_) (fun cdv A outer s H vs Q E hr h => ⟨_, PSs.nox (pss_cons (ps_if (pt_cmpR op_lt (pv 1) (pe_callB (r := rLen K) call_len (by rfl) T.f_len (by decide +kernel) (pa_cons (pv 0) pa_nil)) (nomark _)) (pss_one (ps_ret (pe_ix (r := rIxL K) ix_list (pv 0) (pv 1) (fun _ _ => rfl)))) pss_nil)
      (pss_one (ps_ret pe_int))), ?_⟩)
  · obtain ⟨a, ns, k, rfl, _⟩ := h; rfl
  · obtain ⟨a, ns, k, rfl, hS, hk, q⟩ := h
    refine q_when (et_test (ev_op (ev_var rfl) (ev_lenL (ev_var rfl) hS) rv_I0)) (fun hb H1 e1 => ?_) (fun hb H1 e1 => ?_)
    · obtain ⟨v, hv, _, ha⟩ := at_of hk (of_decide_eq_true hb)
      obtain ⟨i, _, rfl⟩ := List.mem_map.mp hv
      exact s_ret (ev_op (ev_var rfl) (ev_var rfl) (rv_ixL (ex_l e1 hS) ha)) fun H2 e2 => q _ H2 (e1.trans e2) ⟨i, rfl⟩
    · exact s_ret ev_c fun H2 e2 => q _ H2 (e1.trans e2) ⟨0, rfl⟩
/-! ### _law_signs -/
def sp_signs : Sp := fun vs H Q _ => ∃ (c m : Int) (z : Str), vs = [.int c, .int m, .str z] ∧ 0 ≤ m ∧ m ≤ 10 ∧ 0 < z.length ∧ z.length ≤ 100 ∧ ∀ v H2, Ex H H2 → (∃ r, v = .str r ∧ r.length = m.toNat ∧ ∀ x ∈ r.cps.toList, x ∈ z.cps.toList) → Q v H2
theorem spp_signs {c m : Int} {z : Str} {H : Hp} (h1 : 0 ≤ m ∧ m ≤ 10) (h2 : 0 < z.length ∧ z.length ≤ 100) : SpP sp_signs [.int c, .int m, .str z] H fun v _ => ∃ r, v = .str r ∧ r.length = m.toNat ∧ ∀ x ∈ r.cps.toList, x ∈ z.cps.toList :=
  fun H1 e Q q E => ⟨c, m, z, rfl, h1.1, h1.2, h2.1, h2.2, fun v H2 e2 p => q v H2 e2 p⟩
theorem sc__law_signs : FnScope ["_law_cell", "_law_many", "_law_signs_here", "_law_found", "_law_k"] ["_law_cell", "_law_many", "_law_signs_here"] (defScope s__law_signs) := ⟨rfl, rfl, rfl, by decide +kernel, rfl, by decide +kernel, by decide +kernel⟩
theorem ca__law_signs (T : Ctx K mg) : Ca P w K mg base CX0 1 "_law_signs" sp_signs := by
  obtain ⟨fd, F⟩ := T.fd__law_signs
  refine caOf F sc__law_signs T.g__law_signs (F.bindsN fun _ _ _ _ _ _ us hl => match us, hl with | [_, _, _], _ => rfl) (fun vs H Q E h => ?_) (fun cdv A outer s H vs Q E hr h => ⟨_, PSs.nox (pss_cons (ps_set (i := 3) sc__law_signs.nd rfl (.inl rfl) pe_str)
      (pss_cons (ps_for PassesOwn.never rfl (pi_range1 (by rfl) T.f_range (pa_cons (pv 1) pa_nil)) (pg_name (i := 4) sc__law_signs.nd rfl (.inl rfl)) (pss_cons (ps_set (i := 3) sc__law_signs.nd rfl (.inl rfl) (pe_op op_add_str (pv 3) (pe_ix (r := rIxS) ix_str (pv 2) (pe_op op_mod (pv 0) (pe_callB (r := rLen K) call_len (by rfl) T.f_len (by decide +kernel) (pa_cons (pv 2) pa_nil))) (fun _ _ => rfl))))
      (pss_one (ps_set (i := 0) sc__law_signs.nd rfl (.inl rfl) (pe_op op_fdiv (pv 0) (pe_callB (r := rLen K) call_len (by rfl) T.f_len (by decide +kernel) (pa_cons (pv 2) pa_nil)))))))
      (pss_one (ps_ret (pv 3))))), ?_⟩)
  · obtain ⟨c, m, z, rfl, _⟩ := h; rfl
  · obtain ⟨c, m, z, rfl, m0, m1, z0, z1, q⟩ := h
    refine q_asg ev_c fun H1 e1 => ?_
    refine q_forR1 (ea_cons (ev_var rfl) ea_nil) ⟨m0, by omega⟩ (fun i σ' H' => ∃ (c' : Int) (r : Str) (v4 : Option V), σ' = [some (.int c'), some (.int m), some (.str z), some (.str r), v4] ∧ Ex H H' ∧ r.length = i ∧ ∀ x ∈ r.cps.toList, x ∈ z.cps.toList)
      (fun H2 e2 => ⟨c, "", none, rfl, e1.trans e2, rfl, fun x hx => by cases hx⟩) ?_ ?_
    · rintro i σ' H' hi ⟨c', r, v4, rfl, e, hl, hr⟩
      obtain ⟨k, hk, _, ha⟩ := at_mod (xs := z.cps.toList) c' (by rw [tl_len]; exact z0)
      have hz : ((z.cps.toList.length : Nat) : Int) = (z.length : Int) := by rw [tl_len]
      rw [hz] at ha
      refine q_asg (ev_addS (ev_var rfl) (ev_op (ev_var rfl) (ev_op (ev_var rfl) (ev_lenS (ev_var rfl) (by omega)) rv_mod) (rv_ixS (by omega) ha)) ?_) fun H2 e2 => ?_
      · show r.length + 1 ≤ 100000
        omega
      · refine s_asg (ev_op (ev_var rfl) (ev_lenS (ev_var rfl) (by omega)) rv_div) fun H3 e3 => ?_
        refine ⟨_, r ++ ⟨#[k]⟩, some (.int i), rfl, (e.trans e2).trans e3, ?_, fun x hx => ?_⟩
        · rw [len_cat, hl]; rfl
        · have hx' : x ∈ TL.tl (r ++ ⟨#[k]⟩) := hx
          rw [TL.tl_append, List.mem_append] at hx'
          rcases hx' with hx' | hx'
          · exact hr x hx'
          · have : x = k := by simpa [TL.tl] using hx'
            subst this
            exact hk
    · rintro σ' H' ⟨c', r, v4, rfl, e, hl, hr⟩
      exact s_ret (ev_var rfl) fun H2 e2 => q _ H2 (e.trans e2) ⟨r, rfl, hl, hr⟩
end
end K71

set_option maxHeartbeats 4000000
/-! K71W2: _law_words, _law_plan. -/
namespace K71
open PySem PySem.Spec PyProof.Rows L2 Evl
section
variable {P : Program} {w : World} {K : PySem.W.Frag} {mg : Str → Option Value} {base : Heap}
/-- a new list of drawn words -/
def WordsAt (m : Nat) (v : V) (H : Hp) : Prop := ∃ p ws, v = .ref p ∧ H p = some (.lst (ws.map V.str)) ∧ Words ws m
theorem WordsAt.mono {m : Nat} {v : V} {H H' : Hp} (e : Ex H H') (h : WordsAt m v H) : WordsAt m v H' := let ⟨p, ws, h1, h2, h3⟩ := h; ⟨p, ws, h1, e p _ h2, h3⟩
def sp_words : Sp := fun vs H Q _ => ∃ (c m : Int), vs = [.int c, .int m] ∧ 1 ≤ m ∧ m ≤ 10 ∧ ∀ v H2, Ex H H2 → WordsAt m.toNat v H2 → Q v H2
theorem spp_words {c m : Int} {H : Hp} (h1 : 1 ≤ m ∧ m ≤ 10) : SpP sp_words [.int c, .int m] H fun v H2 => WordsAt m.toNat v H2 :=
  fun H1 e Q q E => ⟨c, m, rfl, h1.1, h1.2, fun v H2 e2 p => q v H2 e2 p⟩
theorem abc_ok : ∀ x ∈ ("abcdefghijklmnopqrstuvwxyz" : Str).cps.toList, x < 128 := by decide +kernel
theorem sc__law_words : FnScope ["_law_cell", "_law_many", "_law_number", "_law_found", "_law_k", "_law_word"] ["_law_cell", "_law_many"] (defScope s__law_words) := ⟨rfl, rfl, rfl, by decide +kernel, rfl, by decide +kernel, by decide +kernel⟩
theorem ca__law_words (T : Ctx K mg) (c__law_signs : Ca P w K mg base CX0 1 "_law_signs" sp_signs) : Ca P w K mg base CX0 2 "_law_words" sp_words := by
  obtain ⟨fd, F⟩ := T.fd__law_words
  refine caOf F sc__law_words T.g__law_words (F.bindsN fun _ _ _ _ _ _ us hl => match us, hl with | [_, _], _ => rfl) (fun vs H Q E h => ?_) (fun cdv A outer s H vs Q E hr h => ⟨_, PSs.nox (pss_cons (ps_set (i := 2) sc__law_words.nd rfl (.inl rfl) (pe_op op_mod (pv 0) (pe_op op_pow pe_int pe_int)))
      (pss_cons (ps_set (i := 3) sc__law_words.nd rfl (.inl rfl) (pe_lst pa_nil))
      (pss_cons (ps_for PassesOwn.never rfl (pi_range1 (by rfl) T.f_range (pa_cons (pe_op op_mul pe_int (pv 1)) pa_nil)) (pg_name (i := 4) sc__law_words.nd rfl (.inl rfl)) (pss_cons (ps_set (i := 2) sc__law_words.nd rfl (.inl rfl) (pe_op op_mod (pe_op op_add (pe_op op_add (pe_op op_mul (pv 2) pe_int) pe_int) (pe_op op_mul (pv 4) (pv 4))) (pe_op op_pow pe_int pe_int)))
      (pss_cons (ps_set (i := 5) sc__law_words.nd rfl (.inl rfl) (pe_ca c__law_signs hr (by decide) (by rfl) (pa_cons (pe_op op_fdivW (pv 2) (pe_op op_pow pe_int pe_int)) (pa_cons (pe_op op_add pe_int (pe_op op_mod (pe_op op_fdivW (pv 2) (pe_op op_pow pe_int pe_int)) pe_int)) (pa_cons pe_str pa_nil)))))
      (pss_one (ps_if (PW.pt (pw_and (pt_cmpR (r := rIn K true) op_notIn_seq (pv 5) (pv 3) (by rfl)) (pw_and (pt_cmpR op_ne (pv 5) pe_str (nomark _)) (pw_and1 (pt_cmpR op_lt (pe_callB (r := rLen K) call_len (by rfl) T.f_len (by decide +kernel) (pa_cons (pv 3) pa_nil)) (pv 1) (nomark _)))))) (pss_one (ps_expr (pe_bm PySem.F.plainAttrs_list PySem.F.slot_list_append PySem.F.type_list_append mt_append (pv 3) (pa_cons (pv 5) pa_nil)))) pss_nil)))))
      (pss_cons (ps_if (pt_cmpR (r := rEqD K) (op_eqD hr.units) (pv 3) (pe_lst pa_nil) (nomark _)) (pss_one (ps_ret (pe_lst (pa_cons pe_str pa_nil)))) pss_nil)
      (pss_one (ps_ret (pv 3))))))), ?_⟩)
  · obtain ⟨c, m, rfl, _⟩ := h; rfl
  · obtain ⟨c, m, rfl, m0, m1, q⟩ := h
    refine q_asg (ev_op (ev_var rfl) (ev_op ev_c ev_c rv_pow) rv_mod) fun H1 e1 => ?_
    refine q_asgL (el_lst ea_nil (by decide)) fun l H2 hl e2 h2 => ?_
    have hl0 : H l = none := fresh_back e1 hl
    refine q_forR1 (ea_cons (ev_op ev_c (ev_var rfl) rv_mul1) ea_nil) ⟨by omega, by omega⟩ (fun i σ' H' => ∃ (n : Int) (ws : List Str) (v4 v5 : Option V), σ' = [some (.int c), some (.int m), some (.int n), some (.ref l), v4, v5] ∧ Ex H H' ∧ H' l = some (.lst (ws.map V.str)) ∧ ws.Nodup ∧ ws.length ≤ m.toNat ∧ ∀ x ∈ ws, Ok x ∧ x.length ≤ 6)
      (fun H3 e3 => ⟨_, [], none, none, rfl, (e1.trans e2).trans e3, e3 l _ h2, List.nodup_nil, Nat.zero_le _, fun x hx => nomatch hx⟩) ?_ ?_
    · rintro i σ' H' hi ⟨n, ws, v4, v5, rfl, e, hL, nd, le, ok⟩
      refine q_asg (ev_op (ev_op (ev_op (ev_op (ev_var rfl) ev_c rv_mul2) ev_c rv_I0) (ev_op (ev_var rfl) (ev_var rfl) rv_mul1) rv_I0) (ev_op ev_c ev_c rv_pow) rv_mod) fun H3 e3 => ?_
      refine q_asgP (evp_call (ea_cons (ev_op (ev_var rfl) (ev_op ev_c ev_c rv_pow) (rv_I (wide_div (by decide) (b := 44) (by decide) (by decide) (by decide)))) (ea_cons (ev_op ev_c (ev_op (ev_op (ev_var rfl) (ev_op ev_c ev_c rv_pow) (rv_I (wide_div (by decide) (b := 44) (by decide) (by decide) (by decide)))) ev_c rv_mod) rv_I0) (ea_cons ev_c ea_nil)))
        (spp_signs ⟨by omega, by omega⟩ (by decide))) fun v H4 e4 hv => ?_
      obtain ⟨r, rfl, rl, rc⟩ := hv
      have hr : Ok r ∧ r.length ≤ 6 := ⟨⟨by omega, fun x hx => abc_ok x (rc x hx)⟩, by omega⟩
      have hL4 : H4 l = some (.lst (ws.map V.str)) := e4 l _ (e3 l _ hL)
      refine s_when (et_and (et_test (ev_op (ev_var rfl) (ev_var rfl) (rv_niL (sq_of hL4) rfl (flat_strs ws)))) fun _ => (et_and (et_test (ev_op (ev_var rfl) ev_c (rv_ne rfl))) fun _ => (et_test (ev_op (ev_lenL (ev_var rfl) (sq_of hL4)) (ev_var rfl) rv_I0)))) (fun hb H5 e5 => ?_) (fun hb H5 e5 => ?_)
      · rw [Bool.and_eq_true, Bool.and_eq_true, inV_str, List.length_map] at hb
        obtain ⟨b1, b2, b3⟩ := hb
        have hn : r ∉ ws := by simpa using b1
        have hlen : ((ws.length : Nat) : Int) < m := of_decide_eq_true b3
        refine s_app (e5 l _ hL4) (ev_var rfl) (ev_var rfl) (by rw [List.length_map]; omega) fun H6 e6 => ?_
        refine ⟨_, ws ++ [r], _, _, rfl, ((((e.trans e3).trans e4).trans e5).trans e6).mut hl0, ?_, ?_, ?_, ?_⟩
        · rw [upd_same, List.map_append]; rfl
        · rw [List.nodup_append]
          exact ⟨nd, by simp, fun a ha b hb => by
            have : b = r := by simpa using hb
            subst this
            intro z; subst z; exact hn ha⟩
        · rw [List.length_append]; simp only [List.length_cons, List.length_nil]; omega
        · intro x hx
          rcases List.mem_append.mp hx with hx | hx
          · exact ok x hx
          · have : x = r := by simpa using hx
            subst this
            exact hr
      · exact ⟨_, ws, _, _, rfl, ((e.trans e3).trans e4).trans e5, e5 l _ hL4, nd, le, ok⟩
    · rintro σ' H' ⟨n, ws, v4, v5, rfl, e, hL, nd, le, ok⟩
      refine q_when (et_test (ev_eqNil (ev_var rfl) (sq_of hL) (ok_strs fun x hx => (ok x hx).1))) (fun hb H3 e3 => ?_) (fun hb H3 e3 => ?_)
      · refine s_retL (el_lst (ea_cons ev_c ea_nil) (by decide)) fun p H4 hp e4 h4 => ?_
        refine q _ H4 ((e.trans e3).trans e4) ⟨p, ["b"], rfl, h4, by simp, by simp, by simp only [List.length_cons, List.length_nil]; omega, fun x hx => ?_⟩
        have : x = "b" := by simpa using hx
        subst this
        exact ⟨⟨by decide, by decide +kernel⟩, by decide⟩
      · refine s_ret (ev_var rfl) fun H4 e4 => ?_
        refine q _ H4 ((e.trans e3).trans e4) ⟨l, ws, rfl, e4 l _ (e3 l _ hL), fun z => ?_, nd, le, ok⟩
        rw [z] at hb
        cases hb
end
end K71

set_option maxHeartbeats 4000000
/-! K71W3: _law_plan. -/
namespace K71
open PySem PySem.Spec PyProof.Rows L2 Evl
section
variable {P : Program} {w : World} {K : PySem.W.Frag} {mg : Str → Option Value} {base : Heap}
/-- the plan's rows, by name, with the most words of each -/
def rowsOf : List (Str × Nat) := [("kinds", 3), ("ranks", 3), ("things", 4), ("names", 2), ("keys", 3), ("gaps", 4), ("ways", 3)]
def RowAt (H : Hp) (r : Str × Nat) (kv : Key × V) : Prop := kv.1 = .inr r.1 ∧ WordsAt r.2 kv.2 H
structure Plan where
  kinds : List Str
  ranks : List Str
  things : List Str
  names : List Str
  keys : List Str
  gaps : List Str
  ways : List Str
structure PlanOk (p : Plan) : Prop where
  kinds : Words p.kinds 3
  ranks : Words p.ranks 3
  things : Words p.things 4
  names : Words p.names 2
  keys : Words p.keys 3
  gaps : Words p.gaps 4
  ways : Words p.ways 3
/-- the plan's row of that name -/
def rowHas (K : PySem.W.Frag) (H : Hp) (d : Addr) (x : Str) (ws : List Str) : Prop := ∃ a, DGet H d (.str x) (some (.ref a)) ∧ SqL K H a (ws.map V.str)
theorem rowHas.mono {H H' : Hp} {d : Addr} {x : Str} {ws : List Str} (e : Ex H H') (h : rowHas K H d x ws) : rowHas K H' d x ws := let ⟨a, h1, h2⟩ := h; ⟨a, dget_ex e h1, ex_l e h2⟩
structure PlanAt (K : PySem.W.Frag) (H : Hp) (d : Addr) (p : Plan) : Prop where
  kinds : rowHas K H d "kinds" p.kinds
  ranks : rowHas K H d "ranks" p.ranks
  things : rowHas K H d "things" p.things
  names : rowHas K H d "names" p.names
  keys : rowHas K H d "keys" p.keys
  gaps : rowHas K H d "gaps" p.gaps
  ways : rowHas K H d "ways" p.ways
theorem PlanAt.mono {H H' : Hp} {d : Addr} {p : Plan} (e : Ex H H') (h : PlanAt K H d p) : PlanAt K H' d p :=
  ⟨h.kinds.mono e, h.ranks.mono e, h.things.mono e, h.names.mono e, h.keys.mono e, h.gaps.mono e, h.ways.mono e⟩
def PlanV (K : PySem.W.Frag) (v : V) (H : Hp) : Prop := ∃ d p, v = .ref d ∧ PlanAt K H d p ∧ PlanOk p
def sp_plan (K : PySem.W.Frag) : Sp := fun vs H Q _ => ∃ (a : Addr) (ns : List Int), vs = [.ref a] ∧ SqL K H a (ns.map V.int) ∧ ∀ v H2, Ex H H2 → PlanV K v H2 → Q v H2
theorem spp_plan {a : Addr} {ns : List Int} {H : Hp} (h : SqL K H a (ns.map V.int)) : SpP (sp_plan K) [.ref a] H (PlanV K) := fun H1 e Q q E => ⟨a, ns, rfl, ex_l e h, q⟩
theorem rows_get : ∀ {kvs : List (Key × V)} {H : Hp} {d : Addr}, H d = some (.dK kvs) → Paired (RowAt H) rowsOf kvs → ∃ p, PlanAt K H d p ∧ PlanOk p := by
  intro kvs H d hd h
  cases h with | @cons _ q1 _ _ h1 h =>
  cases h with | @cons _ q2 _ _ h2 h =>
  cases h with | @cons _ q3 _ _ h3 h =>
  cases h with | @cons _ q4 _ _ h4 h =>
  cases h with | @cons _ q5 _ _ h5 h =>
  cases h with | @cons _ q6 _ _ h6 h =>
  cases h with | @cons _ q7 _ _ h7 h =>
  cases h with | nil =>
  obtain ⟨k1, v1⟩ := q1; obtain ⟨k2, v2⟩ := q2; obtain ⟨k3, v3⟩ := q3; obtain ⟨k4, v4⟩ := q4; obtain ⟨k5, v5⟩ := q5; obtain ⟨k6, v6⟩ := q6; obtain ⟨k7, v7⟩ := q7
  obtain ⟨e1, a1, w1, f1, m1, o1⟩ := h1; obtain ⟨e2, a2, w2, f2, m2, o2⟩ := h2; obtain ⟨e3, a3, w3, f3, m3, o3⟩ := h3; obtain ⟨e4, a4, w4, f4, m4, o4⟩ := h4
  obtain ⟨e5, a5, w5, f5, m5, o5⟩ := h5; obtain ⟨e6, a6, w6, f6, m6, o6⟩ := h6; obtain ⟨e7, a7, w7, f7, m7, o7⟩ := h7
  simp only at e1 e2 e3 e4 e5 e6 e7 f1 f2 f3 f4 f5 f6 f7
  subst e1 e2 e3 e4 e5 e6 e7 f1 f2 f3 f4 f5 f6 f7
  have n : ∀ {x y : Str}, x ≠ y → ¬ (Sum.inr x : Key) = Sum.inr y := fun h z => h (Sum.inr.inj z)
  refine ⟨⟨w1, w2, w3, w4, w5, w6, w7⟩, ⟨⟨a1, dg_k (k := .inr "kinds") (.inl hd) (valV_pos rfl), sq_of m1⟩, ⟨a2, dg_k (k := .inr "ranks") (.inl hd) ?_, sq_of m2⟩, ⟨a3, dg_k (k := .inr "things") (.inl hd) ?_, sq_of m3⟩, ⟨a4, dg_k (k := .inr "names") (.inl hd) ?_, sq_of m4⟩, ⟨a5, dg_k (k := .inr "keys") (.inl hd) ?_, sq_of m5⟩, ⟨a6, dg_k (k := .inr "gaps") (.inl hd) ?_, sq_of m6⟩, ⟨a7, dg_k (k := .inr "ways") (.inl hd) ?_, sq_of m7⟩⟩, ⟨o1, o2, o3, o4, o5, o6, o7⟩⟩
  · exact (valV_neg (n (by decide))).trans (valV_pos rfl)
  · exact (valV_neg (n (by decide))).trans ((valV_neg (n (by decide))).trans (valV_pos rfl))
  · exact (valV_neg (n (by decide))).trans ((valV_neg (n (by decide))).trans ((valV_neg (n (by decide))).trans (valV_pos rfl)))
  · exact (valV_neg (n (by decide))).trans ((valV_neg (n (by decide))).trans ((valV_neg (n (by decide))).trans ((valV_neg (n (by decide))).trans (valV_pos rfl))))
  · exact (valV_neg (n (by decide))).trans ((valV_neg (n (by decide))).trans ((valV_neg (n (by decide))).trans ((valV_neg (n (by decide))).trans ((valV_neg (n (by decide))).trans (valV_pos rfl)))))
  · exact (valV_neg (n (by decide))).trans ((valV_neg (n (by decide))).trans ((valV_neg (n (by decide))).trans ((valV_neg (n (by decide))).trans ((valV_neg (n (by decide))).trans ((valV_neg (n (by decide))).trans (valV_pos rfl))))))
theorem take_more {α : Type} : ∀ {l : List α} {i : Nat} {x : α}, l[i]? = some x → l.take (i + 1) = l.take i ++ [x]
  | [], i, x, h => by simp at h
  | a :: l, 0, x, h => by
    have e : a = x := Option.some.inj h
    subst e
    rfl
  | a :: l, i + 1, x, h => by
    have ih := take_more (l := l) (i := i) (x := x) h
    show a :: l.take (i + 1) = a :: l.take i ++ [x]
    rw [ih]
    rfl
theorem paired_snoc {α β : Type} {R : α → β → Prop} : ∀ {l : List α} {m : List β} {a : α} {b : β}, Paired R l m → R a b → Paired R (l ++ [a]) (m ++ [b])
  | _, _, _, _, .nil, h => .cons h .nil
  | _, _, _, _, .cons r t, h => .cons r (paired_snoc t h)
theorem RowAt.mono {H H' : Hp} {r : Str × Nat} {kv : Key × V} (e : Ex H H') (h : RowAt H r kv) : RowAt H' r kv := ⟨h.1, h.2.mono e⟩
/-- a key that is none of them -/
theorem val_none_of {H : Hp} : ∀ {rs : List (Str × Nat)} {kvs : List (Key × V)} {x : Str}, Paired (RowAt H) rs kvs → x ∉ rs.map (·.1) → valV kvs (.inr x) = none
  | _, _, _, .nil, _ => rfl
  | r :: rs, kv :: kvs, x, .cons h t, n => by
    rw [List.map_cons, List.mem_cons, not_or] at n
    rw [valV_neg (by rw [h.1]; exact fun z => n.1 (Sum.inr.inj z).symm)]
    exact val_none_of t n.2
theorem sc__law_plan : FnScope ["_law_script", "_law_sizes", "_law_found", "_law_k", "_law_what", "_law_most"] ["_law_script"] (defScope s__law_plan) := ⟨rfl, rfl, rfl, by decide +kernel, rfl, by decide +kernel, by decide +kernel⟩
theorem ca__law_plan (T : Ctx K mg) (c__law_cell_at : Ca P w K mg base CX0 1 "_law_cell_at" (sp_cell K)) (c__law_words : Ca P w K mg base CX0 2 "_law_words" sp_words) : Ca P w K mg base CX0 3 "_law_plan" (sp_plan K) := by
  obtain ⟨fd, F⟩ := T.fd__law_plan
  refine caOf F sc__law_plan T.g__law_plan (F.bindsN fun _ _ _ _ _ _ us hl => match us, hl with | [_], _ => rfl) (fun vs H Q E h => ?_) (fun cdv A outer s H vs Q E hr h => ⟨_, PSs.nox (pss_cons (ps_set (i := 1) sc__law_plan.nd rfl (.inl rfl) (pe_ca c__law_cell_at hr (by decide) (by rfl) (pa_cons (pv 0) (pa_cons pe_int pa_nil))))
      (pss_cons (ps_set (i := 2) sc__law_plan.nd rfl (.inl rfl) pe_dnewK)
      (pss_cons (ps_for PassesOwn.never rfl (pi_enum (by rfl) T.f_enumerate (pa_cons (pe_lst (pa_cons pe_str (pa_cons pe_str (pa_cons pe_str (pa_cons pe_str (pa_cons pe_str (pa_cons pe_str (pa_cons pe_str pa_nil)))))))) pa_nil)) (pg_tup rfl (pgs_cons (pg_name (i := 3) sc__law_plan.nd rfl (.inl rfl)) (pgs_cons (pg_name (i := 4) sc__law_plan.nd rfl (.inl rfl)) pgs_nil))) (pss_cons (ps_set (i := 5) sc__law_plan.nd rfl (.inl rfl) (pe_ix (r := rIxL K) ix_list (pe_lst (pa_cons pe_int (pa_cons pe_int (pa_cons pe_int (pa_cons pe_int (pa_cons pe_int (pa_cons pe_int (pa_cons pe_int pa_nil)))))))) (pv 3) (fun _ _ => rfl)))
      (pss_cons (ps_dput (hu_of hr) (pv 2) (pv 4) (pe_ca c__law_words hr (by decide) (by rfl) (pa_cons (pe_op op_add (pe_ca c__law_cell_at hr (by decide) (by rfl) (pa_cons (pv 0) (pa_cons (pe_op op_mod (pv 3) pe_int) pa_nil))) (pv 3)) (pa_cons (pe_op op_add pe_int (pe_op op_mod (pv 1) (pv 5))) pa_nil))) rfl)
      (pss_one (ps_set (i := 1) sc__law_plan.nd rfl (.inl rfl) (pe_op op_fdiv (pv 1) (pv 5)))))))
      (pss_one (ps_ret (pv 2)))))), ?_⟩)
  · obtain ⟨a, ns, rfl, _⟩ := h; rfl
  · obtain ⟨a, ns, rfl, hS, q⟩ := h
    refine q_asgP (evp_call (ea_cons (ev_var rfl) (ea_cons ev_c ea_nil)) (spp_cell hS (by decide))) fun v H1 e1 hv => ?_
    obtain ⟨sz, rfl⟩ := hv
    refine q_dictK fun d H2 hd e2 h2 => ?_
    have hd0 : H d = none := fresh_back e1 hd
    refine q_forEnumN rfl (el_lst (ea_cons ev_c (ea_cons ev_c (ea_cons ev_c (ea_cons ev_c (ea_cons ev_c (ea_cons ev_c (ea_cons ev_c ea_nil))))))) (by decide))
      (fun p i σ' H' => ∃ (sz : Int) (v3 v4 v5 : Option V) (kvs : List (Key × V)), σ' = [some (.ref a), some (.int sz), some (.ref d), v3, v4, v5] ∧ Ex H H' ∧ H' p = some (.lst (rowsOf.map fun r => .str r.1)) ∧ H' d = some (.dK kvs) ∧ Paired (RowAt H') (rowsOf.take i) kvs)
      (fun p H3 hp e3 h3 => ⟨sz, none, none, none, [], rfl, (e1.trans e2).trans e3, h3, e3 d _ h2, .nil⟩) (fun p i σ' H' h => ?_) ?_ ?_
    · obtain ⟨_, _, _, _, _, _, _, h3, _⟩ := h
      exact sq_of h3
    · rintro p i x σ' H' H3 hi ⟨sz, v3, v4, v5, kvs, rfl, e, hp, hD, pr⟩ e3
      have hr : ∃ r, rowsOf[i]? = some r ∧ x = .str r.1 := by
        have hi' : (rowsOf.map fun r => V.str r.1)[i]? = some x := hi
        rw [List.getElem?_map] at hi'
        cases hq : rowsOf[i]? with
        | none => rw [hq] at hi'; cases hi'
        | some r => rw [hq] at hi'; exact ⟨r, rfl, (Option.some.inj hi').symm⟩
      obtain ⟨r, hri, rfl⟩ := hr
      have hlt : i < 7 := (List.getElem?_eq_some_iff.mp hri).1
      have hrow : ((rowsOf.map fun r => V.int (r.2 : Int)))[i]? = some (.int (r.2 : Int)) := by rw [List.getElem?_map, hri]; rfl
      have hr2 : 1 ≤ r.2 ∧ r.2 ≤ 4 := by
        have : ∀ r ∈ rowsOf, 1 ≤ r.2 ∧ r.2 ≤ 4 := by decide
        exact this r (List.mem_of_getElem? hri)
      refine q_asg (ev_opL1 (el_lst (ea_cons ev_c (ea_cons ev_c (ea_cons ev_c (ea_cons ev_c (ea_cons ev_c (ea_cons ev_c (ea_cons ev_c ea_nil))))))) (by decide)) (fun _ _ => ev_var rfl) (fun p H4 h4 _ => rv_ixL (sq_of h4) (atI_nat hrow))) fun H4 e4 => ?_
      have hm1 : 0 ≤ sz % (r.2 : Int) := Int.emod_nonneg _ (by omega)
      have hm2 : sz % (r.2 : Int) < (r.2 : Int) := Int.emod_lt_of_pos _ (by omega)
      refine q_dputK (ky := .inr r.1) (P := fun v H2 => WordsAt r.2 v H2) (e4 d _ (e3 d _ hD)) ?_ (evp_callP (A := fun vs H2 => ∃ c : Int, vs = [.int c, .int (1 + sz % (r.2 : Int))]) ?_ ?_) (ev_var rfl) (ev_var rfl) fun v H5 e5 hv => ?_
      · have := pr.length
        rw [List.length_take] at this
        omega
      · refine eap_cons (P := fun v _ => ∃ c : Int, v = .int c) (R := fun _ vs _ => vs = [.int (1 + sz % (r.2 : Int))]) ?_ (fun v H1 e1 hv => EvA.toP (ea_cons (ev_op ev_c (ev_op (ev_var rfl) (ev_var rfl) rv_mod) rv_I0) ea_nil)) (fun v vs H1 H2 _ _ hv hvs => ?_)
        · intro H5 e5 Q q
          refine evp_call (ea_cons (ev_var rfl) (ea_cons (ev_op (ev_var rfl) ev_c rv_mod) ea_nil)) (spp_cell (ex_l (e.trans (e3.trans e4)) hS) (by omega)) H5 e5 _ fun v H6 e6 hv => ?_
          obtain ⟨c, rfl⟩ := hv
          exact ⟨_, rfl, _, _, rfl, rfl, q _ H6 e6 ⟨_, rfl⟩⟩
        · obtain ⟨c, rfl⟩ := hv
          subst hvs
          exact ⟨c, rfl⟩
      · rintro vs H5 e5 ⟨c, rfl⟩
        intro H6 e6 Q q E
        refine spp_words (by omega) H6 (Ex.refl H6) Q (fun v H7 e7 hv => q v H7 e7 ?_) E
        obtain ⟨pp, ws, h1, h2, h3⟩ := hv
        exact ⟨pp, ws, h1, h2, h3.ne, h3.nd, Nat.le_trans h3.le (by omega), h3.ok⟩
      · obtain ⟨H0, e01, e00, hv⟩ := hv
        refine s_asg (ev_op (ev_var rfl) (ev_var rfl) rv_div) fun H6 e6 => ?_
        have E5 := e.trans ((e3.trans e4).trans e5)
        have hne : p ≠ d := fun z => by
          rw [z, hD] at hp
          cases hp
        have keep : ∀ {b : Addr} {ws : List Str}, H5 b = some (.lst (ws.map V.str)) → upd H5 d (.dK (putK kvs (.inr r.1) v)) b = some (.lst (ws.map V.str)) := fun {b ws} hb => by
          rw [upd_ne (fun z => by
            rw [z, e5 d _ (e4 d _ (e3 d _ hD))] at hb
            cases hb)]
          exact hb
        have mv : ∀ {r : Str × Nat} {kv : Key × V}, RowAt H5 r kv → RowAt (upd H5 d (.dK (putK kvs (.inr r.1) v))) r kv ∨ True := fun _ => .inr trivial
        have hnone : valV kvs (.inr r.1) = none := by
          refine val_none_of pr fun hm => ?_
          obtain ⟨y, hy, hy2⟩ := List.mem_map.mp hm
          obtain ⟨j, hj⟩ := List.getElem?_of_mem hy
          have hji : j < i := by
            have := (List.getElem?_eq_some_iff.mp hj).1
            rw [List.length_take] at this
            omega
          rw [List.getElem?_take, if_pos hji] at hj
          have nd : (rowsOf.map (·.1)).Nodup := by decide +kernel
          have h1 : (rowsOf.map (·.1))[j]? = some r.1 := by rw [List.getElem?_map, hj]; exact congrArg some hy2
          have h2 : (rowsOf.map (·.1))[i]? = some r.1 := by rw [List.getElem?_map, hri]; rfl
          have := (List.getElem?_inj (by rw [List.length_map]; exact Nat.lt_trans hji hlt) nd).mp (h1.trans h2.symm)
          omega
        refine ⟨_, _, _, _, putK kvs (.inr r.1) v, rfl, (E5.mut hd0).trans e6, e6 p _ ?_, e6 d _ upd_same, ?_⟩
        · rw [upd_ne hne]
          exact e5 p _ (e4 p _ (e3 p _ hp))
        · rw [putK_new v hnone, take_more hri]
          have up : ∀ (q : Str × Nat) (kv : Key × V), RowAt H5 q kv → RowAt H6 q kv := fun q kv ⟨h1, b, ws, h2, h3, h4⟩ => ⟨h1, b, ws, h2, e6 b _ (keep h3), h4⟩
          exact paired_snoc (Paired.mapP pr fun q kv h => up q kv (h.mono ((e3.trans e4).trans e5))) (up r (.inr r.1, v) ⟨rfl, hv.mono e01⟩)
    · rintro p σ' H' ⟨sz, v3, v4, v5, kvs, rfl, e, hp, hD, pr⟩
      refine s_ret (ev_var rfl) fun H3 e3 => ?_
      obtain ⟨pl, h1, h2⟩ := rows_get (K := K) hD pr
      exact q _ H3 (e.trans e3) ⟨d, pl, rfl, h1.mono e3, h2⟩
end
end K71

set_option maxHeartbeats 4000000
/-! K71W4: the drawn values: _law_value, _law_odd; _law_is_value. -/
namespace K71
open PySem PySem.Spec PyProof.Rows L2 Evl
/-- the six kinds -/
inductive Kd where
  | count | number | thing | list | day | rank
  deriving DecidableEq
def Kd.s : Kd → Str
  | .count => "count"
  | .number => "number"
  | .thing => "thing"
  | .list => "list"
  | .day => "day"
  | .rank => "rank"
theorem Kd.inj {a b : Kd} (h : a.s = b.s) : a = b := by
  cases a <;> cases b <;> first | rfl | exact absurd h (by decide +kernel)
/-- a value apart from the heap: a flat one, a list of flat ones -/
inductive AV where
  | one (x : V) | lst (xs : List V)
def AVAt (H : Hp) (v : V) : AV → Prop
  | .one x => v = x ∧ okV x
  | .lst xs => ∃ a, v = .ref a ∧ H a = some (.lst xs) ∧ ∀ x ∈ xs, okV x
theorem AVAt.mono {H H' : Hp} {v : V} (e : Ex H H') : ∀ {av : AV}, AVAt H v av → AVAt H' v av
  | .one _, h => h
  | .lst _, ⟨a, h1, h2, h3⟩ => ⟨a, h1, e a _ h2, h3⟩
theorem okV.sim {K : PySem.W.Frag} {H : Hp} : ∀ {v : V}, okV v → SimV K H v
  | .non, _ => trivial
  | .bl _, _ => trivial
  | .int _, _ => trivial
  | .str _, _ => trivial
  | .byt _, h => h.elim
  | .flt _, h => h.elim
  | .ref _, h => h.elim
  | .ty _, h => h.elim
theorem AVAt.sim {K : PySem.W.Frag} {H : Hp} {v : V} : ∀ {av : AV}, AVAt H v av → SimV K H v
  | .one _, h => by rw [h.1]; exact h.2.sim
  | .lst xs, ⟨a, h1, h2, _⟩ => by subst h1; exact ⟨xs, h2⟩
/-- what is drawn as a value of the kind -/
def ValOk (pl : Plan) : Kd → AV → Prop
  | .count, .one (.int i) => 0 ≤ i ∧ i < 10 ^ 60
  | .day, .one (.int i) => 0 ≤ i ∧ i < 10 ^ 60
  | .number, .one (.int i) => -10 ^ 60 < i ∧ i < 10 ^ 60
  | .thing, .one (.str x) => x ∈ pl.things
  | .rank, .one (.str x) => x ∈ pl.ranks
  | .list, .lst xs => ∃ ws : List Str, xs = ws.map V.str ∧ ws.length ≤ 8 ∧ ∀ x ∈ ws, x ∈ pl.things
  | _, _ => False
def strIn (v : V) (ws : List Str) : Bool := isStr v && inV v (ws.map V.str)
/-- is it one of the kind -/
def isVal (pl : Plan) : Kd → AV → Bool
  | .thing, .one v => strIn v pl.things
  | .rank, .one v => strIn v pl.ranks
  | .list, .lst xs => decide (xs.length ≤ 8) && xs.all fun x => strIn x pl.things
  | .count, .one (.int i) => decide (0 ≤ i) && decide (i < 10 ^ 60)
  | .day, .one (.int i) => decide (0 ≤ i) && decide (i < 10 ^ 60)
  | .number, .one (.int i) => decide ((if i < 0 then -i else i) < 10 ^ 60)
  | _, _ => false
section
variable {P : Program} {w : World} {K : PySem.W.Frag} {mg : Str → Option Value} {base : Heap}
/-! ### _law_value -/
def ValV (pl : Plan) (k : Kd) (v : V) (H : Hp) : Prop := ∃ av, AVAt H v av ∧ ValOk pl k av
def sp_value (K : PySem.W.Frag) : Sp := fun vs H Q _ => ∃ (c : Int) (k : Kd) (d : Addr) (pl : Plan), vs = [.int c, .str k.s, .ref d] ∧ PlanAt K H d pl ∧ PlanOk pl ∧ ∀ v H2, Ex H H2 → ValV pl k v H2 → Q v H2
theorem spp_value {c : Int} {k : Kd} {d : Addr} {pl : Plan} {H : Hp} (h : PlanAt K H d pl) (o : PlanOk pl) : SpP (sp_value K) [.int c, .str k.s, .ref d] H (ValV pl k) := fun H1 e Q q E => ⟨c, k, d, pl, rfl, h.mono e, o, q⟩
theorem Words.pos {ws : List Str} {m : Nat} (h : Words ws m) : 0 < ws.length := List.length_pos_iff.mpr h.ne
theorem emod_rng (c : Int) {m : Int} (h : 0 < m) : 0 ≤ c % m ∧ c % m < m := ⟨Int.emod_nonneg _ (by omega), Int.emod_lt_of_pos _ h⟩
theorem p60 : (10 : Int) ^ (60 : Int).toNat = 10 ^ 60 := rfl
theorem sc__law_value : FnScope ["_law_cell", "_law_kind", "_law_plan_here", "_law_found", "_law_k"] ["_law_cell", "_law_kind", "_law_plan_here"] (defScope s__law_value) := ⟨rfl, rfl, rfl, by decide +kernel, rfl, by decide +kernel, by decide +kernel⟩
theorem ca__law_value (T : Ctx K mg) : Ca P w K mg base CX0 1 "_law_value" (sp_value K) := by
  obtain ⟨fd, F⟩ := T.fd__law_value
  refine caOf F sc__law_value T.g__law_value (F.bindsN fun _ _ _ _ _ _ us hl => match us, hl with | [_, _, _], _ => rfl) (fun vs H Q E h => ?_) (fun cdv A outer s H vs Q E hr h => ⟨_, PSs.nox (pss_cons (ps_if (pt_cmpR op_eq (pv 1) pe_str (nomark _)) (pss_one (ps_ret (pe_ix (r := rIxL K) ix_list (pe_lst (pa_cons (pe_op op_mod (pe_op op_fdiv (pv 0) pe_int) pe_int) (pa_cons (pe_op op_mod (pe_op op_fdiv (pv 0) pe_int) (pe_op op_pow pe_int pe_int)) (pa_cons (pe_op op_add (pe_op op_pow pe_int pe_int) (pe_op op_mod (pe_op op_fdiv (pv 0) pe_int) (pe_op op_pow pe_int pe_int))) pa_nil)))) (pe_op op_mod (pv 0) pe_int) (fun _ _ => rfl)))) pss_nil)
      (pss_cons (ps_if (pt_cmpR op_eq (pv 1) pe_str (nomark _)) (pss_one (ps_ret (pe_ix (r := rIxL K) ix_list (pe_lst (pa_cons (pe_op op_sub (pe_op op_mod (pe_op op_fdiv (pv 0) pe_int) pe_int) pe_int) (pa_cons (pe_op op_mod (pe_op op_fdiv (pv 0) pe_int) (pe_op op_pow pe_int pe_int)) (pa_cons (pe_op op_sub pe_int (pe_op op_mod (pe_op op_fdiv (pv 0) pe_int) (pe_op op_pow pe_int pe_int))) pa_nil)))) (pe_op op_mod (pv 0) pe_int) (fun _ _ => rfl)))) pss_nil)
      (pss_cons (ps_if (pt_cmpR op_eq (pv 1) pe_str (nomark _)) (pss_one (ps_ret (pe_ix (r := rIxL K) ix_list (pe_lst (pa_cons (pe_op op_mod (pe_op op_fdiv (pv 0) pe_int) pe_int) (pa_cons (pe_op op_mod (pe_op op_fdiv (pv 0) pe_int) (pe_op op_pow pe_int pe_int)) pa_nil))) (pe_op op_mod (pv 0) pe_int) (fun _ _ => rfl)))) pss_nil)
      (pss_cons (ps_if (pt_cmpR (r := rIn K false) op_in_seq (pv 1) (pe_tup (pa_cons pe_str (pa_cons pe_str pa_nil))) (by rfl)) (pss_one (ps_ret (pe_ix (r := rIxL K) ix_list (pe_dget (hu_of hr) (pv 2) (pe_op op_add_str (pv 1) pe_str) (fun _ _ => rfl)) (pe_op op_mod (pv 0) (pe_callB (r := rLen K) call_len (by rfl) T.f_len (by decide +kernel) (pa_cons (pe_dget (hu_of hr) (pv 2) (pe_op op_add_str (pv 1) pe_str) (fun _ _ => rfl)) pa_nil))) (fun _ _ => rfl)))) pss_nil)
      (pss_cons (ps_set (i := 3) sc__law_value.nd rfl (.inl rfl) (pe_lst pa_nil))
      (pss_cons (ps_for PassesOwn.never rfl (pi_range1 (by rfl) T.f_range (pa_cons (pe_op op_mod (pv 0) pe_int) pa_nil)) (pg_name (i := 4) sc__law_value.nd rfl (.inl rfl)) (pss_cons (ps_set (i := 0) sc__law_value.nd rfl (.inl rfl) (pe_op op_fdiv (pv 0) pe_int))
      (pss_one (ps_expr (pe_bm PySem.F.plainAttrs_list PySem.F.slot_list_append PySem.F.type_list_append mt_append (pv 3) (pa_cons (pe_ix (r := rIxL K) ix_list (pe_dget (hu_of hr) (pv 2) pe_str (fun _ _ => rfl)) (pe_op op_mod (pv 0) (pe_callB (r := rLen K) call_len (by rfl) T.f_len (by decide +kernel) (pa_cons (pe_dget (hu_of hr) (pv 2) pe_str (fun _ _ => rfl)) pa_nil))) (fun _ _ => rfl)) pa_nil))))))
      (pss_one (ps_ret (pv 3))))))))), ?_⟩)
  · obtain ⟨c, k, d, pl, rfl, _⟩ := h; rfl
  · obtain ⟨c, k, d, pl, rfl, hP, oP, q⟩ := h
    refine q_when (et_test (ev_op (ev_var rfl) ev_c (rv_eq rfl))) (fun hb H1 e1 => ?_) (fun hb H1 e1 => ?_)
    · obtain rfl : k = .count := Kd.inj (V.str.inj (of_decide_eq_true hb))
      obtain ⟨v, hv, ha⟩ := at_modm (xs := [V.int (c / 3 % 25), .int (c / 3 % 10 ^ 60), .int (10 ^ 59 + c / 3 % 10 ^ 59)]) c (m := 3) rfl (by decide)
      refine s_ret (ev_opL1 (el_lst (ea_cons (ev_op (ev_op (ev_var rfl) ev_c rv_div) ev_c rv_mod) (ea_cons (ev_op (ev_op (ev_var rfl) ev_c rv_div) (ev_op ev_c ev_c rv_pow) rv_mod) (ea_cons (ev_op (ev_op ev_c ev_c rv_pow) (ev_op (ev_op (ev_var rfl) ev_c rv_div) (ev_op ev_c ev_c rv_pow) rv_mod) rv_I0) ea_nil))) (Nat.le_of_ble_eq_true rfl)) (fun _ _ => ev_op (ev_var rfl) ev_c rv_mod) (fun p H2 h2 _ => rv_ixL (sq_of h2) ha)) fun H2 e2 => q _ H2 (e1.trans e2) ?_
      have h1 := emod_rng (c / 3) (m := 25) (by decide)
      have h2 := emod_rng (c / 3) (m := 10 ^ 60) (by decide)
      have h3 := emod_rng (c / 3) (m := 10 ^ 59) (by decide)
      have h4 : (10 : Int) ^ 59 + 10 ^ 59 ≤ 10 ^ 60 := by decide
      have h5 : (25 : Int) ≤ 10 ^ 60 := by decide
      have h6 : (0 : Int) < 10 ^ 59 := by decide
      simp only [List.mem_cons, List.not_mem_nil, or_false] at hv
      rcases hv with rfl | rfl | rfl
      · exact ⟨.one _, ⟨rfl, trivial⟩, h1.1, Int.lt_of_lt_of_le h1.2 h5⟩
      · exact ⟨.one _, ⟨rfl, trivial⟩, h2⟩
      · exact ⟨.one _, ⟨rfl, trivial⟩, Int.add_nonneg (Int.le_of_lt h6) h3.1, Int.lt_of_lt_of_le (Int.add_lt_add_left h3.2 _) h4⟩
    refine q_when (et_test (ev_op (ev_var rfl) ev_c (rv_eq rfl))) (fun hb2 H2 e2 => ?_) (fun hb2 H2 e2 => ?_)
    · obtain rfl : k = .number := Kd.inj (V.str.inj (of_decide_eq_true hb2))
      obtain ⟨v, hv, ha⟩ := at_modm (xs := [V.int (c / 3 % 2000 - 1000), .int (c / 3 % 10 ^ 60), .int (0 - c / 3 % 10 ^ 60)]) c (m := 3) rfl (by decide)
      refine s_ret (ev_opL1 (el_lst (ea_cons (ev_op (ev_op (ev_op (ev_var rfl) ev_c rv_div) ev_c rv_mod) ev_c rv_I0) (ea_cons (ev_op (ev_op (ev_var rfl) ev_c rv_div) (ev_op ev_c ev_c rv_pow) rv_mod) (ea_cons (ev_op ev_c (ev_op (ev_op (ev_var rfl) ev_c rv_div) (ev_op ev_c ev_c rv_pow) rv_mod) rv_I0) ea_nil))) (Nat.le_of_ble_eq_true rfl)) (fun _ _ => ev_op (ev_var rfl) ev_c rv_mod) (fun p H2 h2 _ => rv_ixL (sq_of h2) ha)) fun H3 e3 => q _ H3 ((e1.trans e2).trans e3) ?_
      have h1 := emod_rng (c / 3) (m := 2000) (by decide)
      have h2 := emod_rng (c / 3) (m := 10 ^ 60) (by decide)
      have h5 : (2000 : Int) ≤ 10 ^ 60 := by decide
      simp only [List.mem_cons, List.not_mem_nil, or_false] at hv
      rcases hv with rfl | rfl | rfl
      · exact ⟨.one _, ⟨rfl, trivial⟩, by omega, by omega⟩
      · exact ⟨.one _, ⟨rfl, trivial⟩, by omega, by omega⟩
      · exact ⟨.one _, ⟨rfl, trivial⟩, by omega, by omega⟩
    refine q_when (et_test (ev_op (ev_var rfl) ev_c (rv_eq rfl))) (fun hb3 H3 e3 => ?_) (fun hb3 H3 e3 => ?_)
    · obtain rfl : k = .day := Kd.inj (V.str.inj (of_decide_eq_true hb3))
      obtain ⟨v, hv, ha⟩ := at_modm (xs := [V.int (c / 2 % 3000), .int (c / 2 % 10 ^ 60)]) c (m := 2) rfl (by decide)
      refine s_ret (ev_opL1 (el_lst (ea_cons (ev_op (ev_op (ev_var rfl) ev_c rv_div) ev_c rv_mod) (ea_cons (ev_op (ev_op (ev_var rfl) ev_c rv_div) (ev_op ev_c ev_c rv_pow) rv_mod) ea_nil)) (Nat.le_of_ble_eq_true rfl)) (fun _ _ => ev_op (ev_var rfl) ev_c rv_mod) (fun p H2 h2 _ => rv_ixL (sq_of h2) ha)) fun H4 e4 => q _ H4 (((e1.trans e2).trans e3).trans e4) ?_
      have h1 := emod_rng (c / 2) (m := 3000) (by decide)
      have h2 := emod_rng (c / 2) (m := 10 ^ 60) (by decide)
      have h5 : (3000 : Int) ≤ 10 ^ 60 := by decide
      simp only [List.mem_cons, List.not_mem_nil, or_false] at hv
      rcases hv with rfl | rfl
      · exact ⟨.one _, ⟨rfl, trivial⟩, h1.1, Int.lt_of_lt_of_le h1.2 h5⟩
      · exact ⟨.one _, ⟨rfl, trivial⟩, h2⟩
    have hk : k = .thing ∨ k = .rank ∨ k = .list := by
      cases k with
      | count => exact absurd hb (by decide +kernel)
      | number => exact absurd hb2 (by decide +kernel)
      | day => exact absurd hb3 (by decide +kernel)
      | thing => exact .inl rfl
      | rank => exact .inr (.inl rfl)
      | list => exact .inr (.inr rfl)
    have hP3 := hP.mono ((e1.trans e2).trans e3)
    refine q_when (et_test (ev_inU (ev_var rfl) (eu_tup (ea_cons ev_c (ea_cons ev_c ea_nil)) (by decide)) rfl rfl)) (fun hb4 H4 e4 => ?_) (fun hb4 H4 e4 => ?_)
    · have fin : ∀ {x : Str} {ws : List Str} {m : Nat}, k.s ++ "s" = x → rowHas K H4 d x ws → Words ws m → (∀ y ∈ ws, ValOk pl k (.one (.str y))) → tRet (tOp (rIxL K) (tDGet (tVar 2) (tOp rAddS (tVar 1) (tC (.str "s")))) (tOp (rI (fun _ j => 0 < j) fun i j => .int (i % j)) (tVar 0) (tCB (rLen K) (tCons (tDGet (tVar 2) (tOp rAddS (tVar 1) (tC (.str "s")))) tNil))))
          { nx := fun _ H' => Q .non H', rt := Q } [some (.int c), some (.str k.s), some (.ref d), none, none] H4 := by
        intro x ws m hx hrow hw hall
        obtain ⟨a, hd, hs⟩ := hrow
        have hlk : (k.s).length + ("s" : Str).length ≤ 100000 := by rw [← len_cat, hx]; cases k <;> (subst hx; decide +kernel)
        have hd' : DGet H4 d (.str (k.s ++ "s")) (some (.ref a)) := by rw [hx]; exact hd
        obtain ⟨v, hv, _, ha⟩ := at_mod (xs := ws.map V.str) c (by rw [List.length_map]; exact hw.pos)
        have hpos : 0 < (ws.map V.str).length := by rw [List.length_map]; exact hw.pos
        refine s_ret (ev_op (ev_dget (ev_var rfl) (ev_addS (ev_var rfl) ev_c hlk) hd') (ev_op (ev_var rfl) (ev_lenL (ev_dget (ev_var rfl) (ev_addS (ev_var rfl) ev_c hlk) hd') hs) (rv_mod (by omega))) (rv_ixL hs ha)) fun H5 e5 => q _ H5 ((((e1.trans e2).trans e3).trans e4).trans e5) ?_
        obtain ⟨y, hy, rfl⟩ := List.mem_map.mp hv
        exact ⟨.one _, ⟨rfl, (hw.ok y hy).1.str⟩, hall y hy⟩
      rcases hk with rfl | rfl | rfl
      · exact fin (by decide +kernel) (hP3.mono e4).things oP.things fun y hy => hy
      · exact fin (by decide +kernel) (hP3.mono e4).ranks oP.ranks fun y hy => hy
      · exact absurd hb4 (by decide +kernel)
    obtain rfl : k = .list := by
      rcases hk with rfl | rfl | rfl
      · exact absurd hb4 (by decide +kernel)
      · exact absurd hb4 (by decide +kernel)
      · rfl
    refine q_asgL (el_lst ea_nil (by decide)) fun l H5 hl e5 h5 => ?_
    have E5 := ((e1.trans e2).trans e3).trans (e4.trans e5)
    have hl0 : H l = none := fresh_back (((e1.trans e2).trans e3).trans e4) hl
    have hc9 := emod_rng c (m := 9) (by decide)
    refine q_forR1 (ea_cons (ev_op (ev_var rfl) ev_c rv_mod) ea_nil) ⟨hc9.1, by omega⟩ (fun i σ' H' => ∃ (c' : Int) (ws : List Str) (v4 : Option V), σ' = [some (.int c'), some (.str Kd.list.s), some (.ref d), some (.ref l), v4] ∧ Ex H H' ∧ H' l = some (.lst (ws.map V.str)) ∧ ws.length = i ∧ ∀ x ∈ ws, x ∈ pl.things)
      (fun H6 e6 => ⟨c, [], none, rfl, E5.trans e6, e6 l _ h5, rfl, fun x hx => nomatch hx⟩) ?_ ?_
    · rintro i σ' H' hi ⟨c', ws, v4, rfl, e, hL, hlen, hall⟩
      refine q_asg (ev_op (ev_var rfl) ev_c rv_div) fun H6 e6 => ?_
      obtain ⟨a, hd, hs⟩ := (hP.mono (e.trans e6)).things
      have hpos : 0 < (pl.things.map V.str).length := by rw [List.length_map]; exact oP.things.pos
      obtain ⟨v, hv, _, ha⟩ := at_mod (xs := pl.things.map V.str) (c' / 9) hpos
      obtain ⟨y, hy, rfl⟩ := List.mem_map.mp hv
      refine s_app (e6 l _ hL) (ev_var rfl) (ev_op (ev_dget (ev_var rfl) ev_c hd) (ev_op (ev_var rfl) (ev_lenL (ev_dget (ev_var rfl) ev_c hd) hs) (rv_mod (by omega))) (rv_ixL hs ha)) (by rw [List.length_map]; omega) fun H7 e7 => ?_
      refine ⟨_, ws ++ [y], _, rfl, ((e.trans e6).trans e7).mut hl0, ?_, ?_, ?_⟩
      · rw [upd_same, List.map_append]; rfl
      · rw [List.length_append, hlen]; rfl
      · intro x hx
        rcases List.mem_append.mp hx with hx | hx
        · exact hall x hx
        · have : x = y := by simpa using hx
          subst this
          exact hy
    · rintro σ' H' ⟨c', ws, v4, rfl, e, hL, hlen, hall⟩
      refine s_ret (ev_var rfl) fun H6 e6 => q _ H6 (e.trans e6) ⟨.lst (ws.map V.str), ⟨l, rfl, e6 l _ hL, ok_strs fun x hx => (oP.things.ok x (hall x hx)).1⟩, ws, rfl, by omega, hall⟩
end
end K71

set_option maxHeartbeats 4000000
/-! K71W5: _law_odd; _law_is_value. -/
namespace K71
open PySem PySem.Spec PyProof.Rows L2 Evl
section
variable {P : Program} {w : World} {K : PySem.W.Frag} {mg : Str → Option Value} {base : Heap} {σ : L2.St} {H : Hp} {ta tb te : TE}
/-- lists made one behind another -/
def Lsts (xss : List (List V)) (vs : List V) (H : Hp) : Prop := Paired (fun xs v => ∃ p, v = V.ref p ∧ H p = some (.lst xs)) xss vs
theorem Lsts.mono {H H' : Hp} (e : Ex H H') {xss : List (List V)} {vs : List V} (h : Lsts xss vs H) : Lsts xss vs H' := Paired.mapP h fun _ _ ⟨p, h1, h2⟩ => ⟨p, h1, e p _ h2⟩
theorem lsts_nil : EaP tNil σ H (Lsts []) := fun H1 _ _ q => q [] H1 (Ex.refl H1) .nil
theorem EaP.mono {ta : TA} {H H' : Hp} {W : List V → Hp → Prop} (e : Ex H H') (h : EaP ta σ H W) : EaP ta σ H' W := fun H1 a Q q => h H1 (e.trans a) Q q
theorem lsts_cons {tr : TA} {xs : List V} {xss : List (List V)} (h : EvL te σ H xs) (hr : EaP tr σ H (Lsts xss)) : EaP (tCons te tr) σ H (Lsts (xs :: xss)) := fun H1 a _ q =>
  h H1 a _ fun p H2 _ e hp => hr H2 (a.trans e) _ fun vs H3 e3 hvs => q _ H3 (e.trans e3) (.cons ⟨p, rfl, e3 p _ hp⟩ hvs)
/-- xs + a new list that is told by R -/
theorem evp_cat {l : Addr} {xs : List V} {R : List V → Hp → Prop} (ha : Ev ta σ H (.ref l)) (hl : H l = some (.lst xs)) (hb : EvP tb σ H fun v H2 => ∃ p ys, v = .ref p ∧ H2 p = some (.lst ys) ∧ xs.length + ys.length ≤ 100000 ∧ R ys H2) (hR : ∀ ys H1 H2, Ex H1 H2 → R ys H1 → R ys H2) :
    EvP (tOp rCat ta tb) σ H fun v H2 => ∃ p ys, v = .ref p ∧ H p = none ∧ H2 p = some (.lst (xs ++ ys)) ∧ R ys H2 := fun H1 e _ q =>
  ha H1 e _ fun H2 e2 => hb H2 (e.trans e2) _ fun v H3 e3 hv => by
    obtain ⟨p, ys, rfl, hp, hz, hr⟩ := hv
    exact ⟨l, p, xs, ys, rfl, rfl, (e.trans (e2.trans e3)) l _ hl, hp, sz_of hz, fun d hd => q _ _ ((e2.trans e3).trans (Ex.new hd)) ⟨d, ys, rfl, fresh_back (e.trans (e2.trans e3)) hd, upd_same, hR _ _ _ (Ex.new hd) hr⟩⟩
theorem el_cat {l : Addr} {xs ys : List V} (ha : Ev ta σ H (.ref l)) (hl : H l = some (.lst xs)) (hb : EvL tb σ H ys) (hz : xs.length + ys.length ≤ 100000) : EvL (tOp rCat ta tb) σ H (xs ++ ys) := fun H1 e _ q =>
  ha H1 e _ fun H2 e2 => hb H2 (e.trans e2) _ fun p H3 _ e3 hp => ⟨l, p, xs, ys, rfl, rfl, (e.trans (e2.trans e3)) l _ hl, hp, sz_of hz, fun d hd => q d _ (fresh_back (e2.trans e3) hd) ((e2.trans e3).trans (Ex.new hd)) upd_same⟩
/-- a new list + a list -/
theorem el_catN {l : Addr} {xs ys : List V} (ha : EvL ta σ H xs) (hb : Ev tb σ H (.ref l)) (hl : H l = some (.lst ys)) (hz : xs.length + ys.length ≤ 100000) : EvL (tOp rCat ta tb) σ H (xs ++ ys) := fun H1 e _ q =>
  ha H1 e _ fun p H2 _ e2 hp => hb H2 (e.trans e2) _ fun H3 e3 => ⟨p, l, xs, ys, rfl, rfl, e3 p _ hp, (e.trans (e2.trans e3)) l _ hl, sz_of hz, fun d hd => q d _ (fresh_back (e2.trans e3) hd) ((e2.trans e3).trans (Ex.new hd)) upd_same⟩
theorem el_rep {xs : List V} {k : Int} (ha : EvL ta σ H xs) (hb : Ev tb σ H (.int k)) (h : -(2 ^ 63) ≤ k ∧ k < 2 ^ 63) (hz : xs.length * k.toNat ≤ 100000) : EvL (tOp rRep ta tb) σ H (List.replicate k.toNat xs).flatten := fun H1 e _ q =>
  ha H1 e _ fun p H2 _ e2 hp => hb H2 (e.trans e2) _ fun H3 e3 => ⟨p, k, xs, rfl, rfl, e3 p _ hp, h.1, h.2, sz_of hz, fun d hd => q d _ (fresh_back (e2.trans e3) hd) ((e2.trans e3).trans (Ex.new hd)) upd_same⟩
theorem evp_lst {ta : TA} {W : List V → Hp → Prop} (h : EaP ta σ H W) (hl : ∀ vs H1, W vs H1 → vs.length ≤ 100000) (hW : ∀ vs H1 H2, Ex H1 H2 → W vs H1 → W vs H2) : EvP (tLst ta) σ H fun v H2 => ∃ p vs, v = .ref p ∧ H p = none ∧ H2 p = some (.lst vs) ∧ W vs H2 := fun H1 e _ q =>
  h H1 e _ fun vs H2 e2 hw => ⟨sz_of (hl _ _ hw), fun p hp => q _ _ (e2.trans (Ex.new hp)) ⟨p, vs, rfl, fresh_back (e.trans e2) hp, upd_same, hW _ _ _ (Ex.new hp) hw⟩⟩
theorem evp_tup {ta : TA} {W : List V → Hp → Prop} (h : EaP ta σ H W) (hl : ∀ vs H1, W vs H1 → vs.length ≤ 100000) (hW : ∀ vs H1 H2, Ex H1 H2 → W vs H1 → W vs H2) : EvP (tTup ta) σ H fun v H2 => ∃ p vs, v = .ref p ∧ H p = none ∧ H2 p = some (.tup vs) ∧ W vs H2 := fun H1 e _ q =>
  h H1 e _ fun vs H2 e2 hw => ⟨sz_of (hl _ _ hw), fun p hp => q _ _ (e2.trans (Ex.new hp)) ⟨p, vs, rfl, fresh_back (e.trans e2) hp, upd_same, hW _ _ _ (Ex.new hp) hw⟩⟩
/-! ### _law_odd -/
def OddV (v : V) (H : Hp) : Prop := ∃ av, AVAt H v av
def sp_odd (K : PySem.W.Frag) : Sp := fun vs H Q _ => ∃ (c : Int) (d : Addr) (pl : Plan), vs = [.int c, .ref d] ∧ PlanAt K H d pl ∧ PlanOk pl ∧ ∀ v H2, Ex H H2 → OddV v H2 → Q v H2
theorem spp_odd {c : Int} {d : Addr} {pl : Plan} {H : Hp} (h : PlanAt K H d pl) (o : PlanOk pl) : SpP (sp_odd K) [.int c, .ref d] H OddV := fun H1 e Q q E => ⟨c, d, pl, rfl, h.mono e, o, q⟩
theorem num_ok (n : Nat) : PyData.strOk (Str.ofString (toString ((n : Nat) : Int))) = true := by
  unfold PyData.strOk
  rw [← Array.all_toList, List.all_eq_true]
  intro c hc
  have e := TL.tl_num n
  have hc' : c ∈ TL.numL n := by rw [← e]; exact hc
  have d := TL.numL_digits n
  by_cases h : c < 48 ∨ 57 < c
  · exact absurd hc' (TL.numL_free h)
  · exact decide_eq_true (by omega)
theorem sc__law_odd : FnScope ["_law_cell", "_law_plan_here", "_law_thing", "_law_rank", "_law_some"] ["_law_cell", "_law_plan_here"] (defScope s__law_odd) := ⟨rfl, rfl, rfl, by decide +kernel, rfl, by decide +kernel, by decide +kernel⟩
theorem ca__law_odd (T : Ctx K mg) : Ca P w K mg base CX0 1 "_law_odd" (sp_odd K) := by
  obtain ⟨fd, F⟩ := T.fd__law_odd
  refine caOf F sc__law_odd T.g__law_odd (F.bindsN fun _ _ _ _ _ _ us hl => match us, hl with | [_, _], _ => rfl) (fun vs H Q E h => ?_) (fun cdv A outer s H vs Q E hr h => ⟨_, PSs.nox (pss_cons (ps_set (i := 2) sc__law_odd.nd rfl (.inl rfl) (pe_ix (r := rIxL K) ix_list (pe_dget (hu_of hr) (pv 1) pe_str (fun _ _ => rfl)) (pe_op op_mod (pe_op op_fdiv (pv 0) pe_int) (pe_callB (r := rLen K) call_len (by rfl) T.f_len (by decide +kernel) (pa_cons (pe_dget (hu_of hr) (pv 1) pe_str (fun _ _ => rfl)) pa_nil))) (fun _ _ => rfl)))
      (pss_cons (ps_set (i := 3) sc__law_odd.nd rfl (.inl rfl) (pe_ix (r := rIxL K) ix_list (pe_dget (hu_of hr) (pv 1) pe_str (fun _ _ => rfl)) (pe_op op_mod (pe_op op_fdiv (pv 0) pe_int) (pe_callB (r := rLen K) call_len (by rfl) T.f_len (by decide +kernel) (pa_cons (pe_dget (hu_of hr) (pv 1) pe_str (fun _ _ => rfl)) pa_nil))) (fun _ _ => rfl)))
      (pss_cons (ps_set (i := 4) sc__law_odd.nd rfl (.inl rfl) (pe_lst (pa_cons pe_bl (pa_cons pe_bl (pa_cons pe_non (pa_cons pe_str (pa_cons (pv 2) (pa_cons (pv 3) (pa_cons (pe_op op_add_str (pv 2) pe_str) (pa_cons pe_int (pa_cons (pe_un un_neg pe_int) (pa_cons (pe_op op_sub (pe_op op_pow pe_int pe_int) pe_int) (pa_cons (pe_op op_pow pe_int pe_int) (pa_cons (pe_op op_sub pe_int (pe_op op_pow pe_int pe_int)) (pa_cons (pe_un un_neg (pe_op op_pow pe_int pe_int)) pa_nil)))))))))))))))
      (pss_cons (ps_set (i := 4) sc__law_odd.nd rfl (.inl rfl) (pe_op op_cat (pv 4) (pe_lst (pa_cons (pe_lst pa_nil) (pa_cons (pe_lst (pa_cons (pv 2) pa_nil)) (pa_cons (pe_op op_rep (pe_lst (pa_cons (pv 2) pa_nil)) pe_int) (pa_cons (pe_op op_rep (pe_lst (pa_cons (pv 2) pa_nil)) pe_int) (pa_cons (pe_lst (pa_cons (pv 3) pa_nil)) (pa_cons (pe_lst (pa_cons (pv 2) (pa_cons pe_non pa_nil))) (pa_cons (pe_lst (pa_cons pe_bl pa_nil)) (pa_cons (pe_lst (pa_cons pe_int pa_nil)) (pa_cons (pe_lst (pa_cons pe_str pa_nil)) pa_nil))))))))))))
      (pss_cons (ps_set (i := 4) sc__law_odd.nd rfl (.inl rfl) (pe_op op_cat (pv 4) (pe_lst (pa_cons (pe_callTy call_str_int (by rfl) T.f_str (by decide +kernel) (pa_cons (pe_op op_mod (pe_op op_fdiv (pv 0) pe_int) pe_int) pa_nil)) (pa_cons (pe_op op_mod (pe_op op_fdiv (pv 0) pe_int) (pe_op op_pow pe_int pe_int)) (pa_cons (pe_op op_sub pe_int (pe_op op_mod (pe_op op_fdiv (pv 0) pe_int) (pe_op op_pow pe_int pe_int))) pa_nil))))))
      (pss_one (ps_ret (pe_ix (r := rIxL K) ix_list (pv 4) (pe_op op_mod (pv 0) (pe_callB (r := rLen K) call_len (by rfl) T.f_len (by decide +kernel) (pa_cons (pv 4) pa_nil))) (fun _ _ => rfl))))))))), ?_⟩)
  · obtain ⟨c, d, pl, rfl, _⟩ := h; rfl
  · obtain ⟨c, d, pl, rfl, hP, oP, q⟩ := h
    obtain ⟨at', hdt, hst⟩ := hP.things
    obtain ⟨vt, hvt, _, hat⟩ := at_mod (xs := pl.things.map V.str) (c / 32) (by rw [List.length_map]; exact oP.things.pos)
    have hpt : 0 < (pl.things.map V.str).length := by rw [List.length_map]; exact oP.things.pos
    obtain ⟨th, hth, rfl⟩ := List.mem_map.mp hvt
    refine q_asg (ev_op (ev_dget (ev_var rfl) ev_c hdt) (ev_op (ev_op (ev_var rfl) ev_c rv_div) (ev_lenL (ev_dget (ev_var rfl) ev_c hdt) hst) (rv_mod (by omega))) (rv_ixL hst hat)) fun H1 e1 => ?_
    obtain ⟨ar, hdr, hsr⟩ := (hP.mono e1).ranks
    obtain ⟨vr, hvr, _, har⟩ := at_mod (xs := pl.ranks.map V.str) (c / 32) (by rw [List.length_map]; exact oP.ranks.pos)
    have hpr : 0 < (pl.ranks.map V.str).length := by rw [List.length_map]; exact oP.ranks.pos
    obtain ⟨rk, hrk, rfl⟩ := List.mem_map.mp hvr
    refine q_asg (ev_op (ev_dget (ev_var rfl) ev_c hdr) (ev_op (ev_op (ev_var rfl) ev_c rv_div) (ev_lenL (ev_dget (ev_var rfl) ev_c hdr) hsr) (rv_mod (by omega))) (rv_ixL hsr har)) fun H2 e2 => ?_
    have ot := oP.things.ok th hth
    have or' := oP.ranks.ok rk hrk
    have okt : okV (.str th) := ot.1.str
    have okr : okV (.str rk) := or'.1.str
    have hx1 : th.length + ("x" : Str).length ≤ 100000 := by
      have : ("x" : Str).length = 1 := rfl
      omega
    have okx : okV (.str (th ++ "x")) := by
      refine Ok.str ⟨?_, fun y hy => ?_⟩
      · rw [len_cat]
        have : ("x" : Str).length = 1 := rfl
        omega
      · have hy' : y ∈ TL.tl (th ++ "x") := hy
        rw [TL.tl_append, List.mem_append] at hy'
        rcases hy' with hy' | hy'
        · exact ot.1.2 y hy'
        · exact (show ∀ y ∈ TL.tl ("x" : Str), y < 128 from by decide +kernel) y hy'
    refine q_asgL (el_lst (ea_cons ev_c (ea_cons ev_c (ea_cons ev_c (ea_cons ev_c (ea_cons (ev_var rfl) (ea_cons (ev_var rfl) (ea_cons (ev_addS (ev_var rfl) ev_c hx1) (ea_cons ev_c (ea_cons (ev_un ev_c ru_neg) (ea_cons (ev_op (ev_op ev_c ev_c rv_pow) ev_c rv_I0) (ea_cons (ev_op ev_c ev_c rv_pow) (ea_cons (ev_op ev_c (ev_op ev_c ev_c rv_pow) rv_I0) (ea_cons (ev_un (ev_op ev_c ev_c rv_pow) ru_neg) ea_nil))))))))))))) (Nat.le_of_ble_eq_true rfl)) fun p3 H3 n3 e3 h3 => ?_
    refine q_asgP (evp_cat (R := Lsts [[], [.str th], (List.replicate (8 : Int).toNat [.str th]).flatten, (List.replicate (9 : Int).toNat [.str th]).flatten, [.str rk], [.str th, .non], [.bl true], [.int 0], [.str "else"]]) (ev_var rfl) h3
      (EvP.imp (evp_lst (lsts_cons (el_lst ea_nil (Nat.le_of_ble_eq_true rfl)) (lsts_cons (el_lst (ea_cons (ev_var rfl) ea_nil) (Nat.le_of_ble_eq_true rfl)) (lsts_cons (el_rep (el_lst (ea_cons (ev_var rfl) ea_nil) (Nat.le_of_ble_eq_true rfl)) ev_c (by decide) (Nat.le_of_ble_eq_true rfl)) (lsts_cons (el_rep (el_lst (ea_cons (ev_var rfl) ea_nil) (Nat.le_of_ble_eq_true rfl)) ev_c (by decide) (Nat.le_of_ble_eq_true rfl))
        (lsts_cons (el_lst (ea_cons (ev_var rfl) ea_nil) (Nat.le_of_ble_eq_true rfl)) (lsts_cons (el_lst (ea_cons (ev_var rfl) (ea_cons ev_c ea_nil)) (Nat.le_of_ble_eq_true rfl)) (lsts_cons (el_lst (ea_cons ev_c ea_nil) (Nat.le_of_ble_eq_true rfl)) (lsts_cons (el_lst (ea_cons ev_c ea_nil) (Nat.le_of_ble_eq_true rfl)) (lsts_cons (el_lst (ea_cons ev_c ea_nil) (Nat.le_of_ble_eq_true rfl)) lsts_nil)))))))))
        (fun vs H1 h => by rw [← h.length]; exact Nat.le_of_ble_eq_true rfl) (fun vs H1 H2 e h => h.mono e)) (fun v H4 e4 ⟨p, vs, h1, _, h2, h3⟩ => ⟨p, vs, h1, h2, by rw [← h3.length]; exact Nat.le_of_ble_eq_true rfl, h3⟩)) (fun ys H1 H2 e h => h.mono e)) fun v4 H4 e4 h4 => ?_
    obtain ⟨p4, ys, rfl, n4, h4, l4⟩ := h4
    refine q_asgL (el_cat (ev_var rfl) h4 (el_lst (ea_cons (ev_cb (ea_cons (ev_op (ev_op (ev_var rfl) ev_c rv_div) ev_c rv_mod) ea_nil) (rc_str ?_)) (ea_cons (ev_op (ev_op (ev_var rfl) ev_c rv_div) (ev_op ev_c ev_c rv_pow) rv_mod) (ea_cons (ev_op ev_c (ev_op (ev_op (ev_var rfl) ev_c rv_div) (ev_op ev_c ev_c rv_pow) rv_mod) rv_I0) ea_nil))) (Nat.le_of_ble_eq_true rfl)) ?_) fun p5 H5 n5 e5 h5 => ?_
    · have h1 := emod_rng (c / 32) (m := 100) (by decide)
      have h2 : (c / 32 % 100).natAbs < 2 ^ 7 := by omega
      have h3 : (c / 32 % 100).natAbs.log2 < 7 := PySem.Flt.log2_lt_of (by decide) h2
      omega
    · rw [List.length_append, ← l4.length]; exact Nat.le_of_ble_eq_true rfl
    · have l5 := l4.mono e5
      generalize hxs : ([.bl true, .bl false, .non, .str "", .str th, .str rk, .str (th ++ "x"), .int 0, .int (-1), .int (10 ^ (60 : Int).toNat - 1), .int (10 ^ (60 : Int).toNat), .int (1 - 10 ^ (60 : Int).toNat), .int (-10 ^ (60 : Int).toNat)] : List V) = xs at h3 h4 h5 ⊢
      generalize hzs : ([V.str (Str.ofString (toString (c / 32 % 100))), V.int (c / 32 % 10 ^ Int.toNat 60), V.int (0 - c / 32 % 10 ^ Int.toNat 60)] : List V) = zs at h5 ⊢
      have hall : ∀ v ∈ xs ++ ys ++ zs, OddV v H5 := by
        intro v hv
        rcases List.mem_append.mp hv with hv | hv
        · rcases List.mem_append.mp hv with hv | hv
          · subst hxs
            simp only [List.mem_cons, List.not_mem_nil, or_false] at hv
            rcases hv with rfl | rfl | rfl | rfl | rfl | rfl | rfl | rfl | rfl | rfl | rfl | rfl | rfl
            all_goals first
              | exact ⟨.one _, rfl, trivial⟩
              | exact ⟨.one _, rfl, okt⟩
              | exact ⟨.one _, rfl, okr⟩
              | exact ⟨.one _, rfl, okx⟩
              | exact ⟨.one _, rfl, (show PyData.strOk _ = true from by decide +kernel)⟩
          · obtain ⟨j, hj⟩ := List.getElem?_of_mem hv
            have gen : ∀ {xss : List (List V)} {vs : List V} {j : Nat} {v : V}, Lsts xss vs H5 → vs[j]? = some v → ∃ xs ∈ xss, ∃ p, v = .ref p ∧ H5 p = some (.lst xs) := by
              intro xss vs j v h
              induction h generalizing j with
              | nil => intro z; simp at z
              | @cons a b as bs h1 h2 ih =>
                intro z
                cases j with
                | zero =>
                  have : b = v := by simpa using z
                  subst this
                  exact ⟨a, List.mem_cons_self .., h1⟩
                | succ j =>
                  obtain ⟨x, hx, hh⟩ := ih (j := j) (by simpa using z)
                  exact ⟨x, List.mem_cons_of_mem _ hx, hh⟩
            obtain ⟨zs', hzs', p, rfl, hp⟩ := gen l5 hj
            refine ⟨.lst zs', p, rfl, hp, ?_⟩
            have els : okV (.str "else") := (show PyData.strOk _ = true from by decide +kernel)
            have r8 : (List.replicate (8 : Int).toNat [V.str th]).flatten = List.replicate 8 (V.str th) := rfl
            have r9 : (List.replicate (9 : Int).toNat [V.str th]).flatten = List.replicate 9 (V.str th) := rfl
            rw [r8, r9] at hzs'
            simp only [List.mem_cons, List.not_mem_nil, or_false] at hzs'
            rcases hzs' with rfl | rfl | rfl | rfl | rfl | rfl | rfl | rfl | rfl <;> intro y hy
            · exact nomatch hy
            · have : y = _ := List.mem_singleton.mp hy
              subst this; exact okt
            · have := List.eq_of_mem_replicate hy
              subst this; exact okt
            · have := List.eq_of_mem_replicate hy
              subst this; exact okt
            · have : y = _ := List.mem_singleton.mp hy
              subst this; exact okr
            · simp only [List.mem_cons, List.not_mem_nil, or_false] at hy
              rcases hy with rfl | rfl
              · exact okt
              · trivial
            · have : y = _ := List.mem_singleton.mp hy
              subst this; trivial
            · have : y = _ := List.mem_singleton.mp hy
              subst this; trivial
            · have : y = _ := List.mem_singleton.mp hy
              subst this; exact els
        · subst hzs
          simp only [List.mem_cons, List.not_mem_nil, or_false] at hv
          rcases hv with rfl | rfl | rfl
          · refine ⟨.one _, rfl, ?_⟩
            have h1 := emod_rng (c / 32) (m := 100) (by decide)
            obtain ⟨n, hn⟩ := Int.eq_ofNat_of_zero_le h1.1
            show PyData.strOk _ = true
            rw [hn]
            exact num_ok n
          · exact ⟨.one _, rfl, trivial⟩
          · exact ⟨.one _, rfl, trivial⟩
      have hne : 0 < (xs ++ ys ++ zs).length := by rw [← hxs]; simp
      obtain ⟨v, hv, _, ha⟩ := at_mod (xs := xs ++ ys ++ zs) c hne
      refine s_ret (ev_op (ev_var rfl) (ev_op (ev_var rfl) (ev_lenL (ev_var rfl) (sq_of h5)) (rv_mod (by omega))) (rv_ixL (sq_of h5) ha)) fun H6 e6 => q _ H6 ((e1.trans e2).trans ((e3.trans e4).trans (e5.trans e6))) ?_
      obtain ⟨av, hav⟩ := hall v hv
      exact ⟨av, hav.mono e6⟩
end
end K71

set_option maxHeartbeats 4000000
/-! K71W6: _law_is_value. -/
namespace K71
open PySem PySem.Spec PyProof.Rows L2 Evl
theorem given_empty (p : V → Bool) (d : V) (v : Nat → V) (xs : List V) : (given xs.length (fun i => !p (xs.getD i d)) v).isEmpty = xs.all p := by
  unfold given
  rw [Bool.eq_iff_iff, List.isEmpty_iff, List.map_eq_nil_iff, List.filter_eq_nil_iff, List.all_eq_true]
  refine ⟨fun h x hx => ?_, fun h i hi => ?_⟩
  · obtain ⟨j, hj⟩ := List.getElem?_of_mem hx
    have hl := (List.getElem?_eq_some_iff.mp hj).1
    have := h j (List.mem_range.mpr hl)
    rw [List.getD_eq_getElem?_getD, hj] at this
    simpa using this
  · have hl := List.mem_range.mp hi
    rw [List.getD_eq_getElem?_getD, List.getElem?_eq_getElem hl]
    have := h xs[i] (List.getElem_mem hl)
    simpa using this
theorem given_mem {xs : List V} {f : Nat → Bool} {d : V} {x : V} (h : x ∈ given xs.length f fun i => xs.getD i d) : x ∈ xs := by
  unfold given at h
  obtain ⟨i, hi, rfl⟩ := List.mem_map.mp h
  have hl := List.mem_range.mp (List.mem_filter.mp hi).1
  rw [List.getD_eq_getElem?_getD, List.getElem?_eq_getElem hl]
  exact List.getElem_mem hl
theorem okV.noRef {a : Addr} (h : okV (.ref a)) : False := h
theorem whole_int {H : Hp} {v : V} {av : AV} (h : AVAt H v av) (hw : whole v = true) : ∃ i, v = .int i ∧ av = .one (.int i) := by
  cases av with
  | one x =>
    obtain ⟨rfl, ok⟩ := h
    cases v with
    | int i => exact ⟨i, rfl, rfl⟩
    | bl b => exact absurd hw Bool.false_ne_true
    | non => exact absurd hw (by decide)
    | str s => exact absurd hw Bool.false_ne_true
    | byt b => exact ok.elim
    | flt b => exact ok.elim
    | ref b => exact ok.elim
    | ty b => exact ok.elim
  | lst xs =>
    obtain ⟨a, rfl, _⟩ := h
    exact absurd hw Bool.false_ne_true
theorem isVal_int {H : Hp} {v : V} {av : AV} {pl : Plan} {k : Kd} (h : AVAt H v av) (hk : k = .count ∨ k = .number ∨ k = .day) (hw : whole v = false) : isVal pl k av = false := by
  cases av with
  | lst xs => rcases hk with rfl | rfl | rfl <;> rfl
  | one x =>
    obtain ⟨rfl, ok⟩ := h
    cases v with
    | int i => exact absurd (show true = false from hw) Bool.false_ne_true.symm
    | bl b => rcases hk with rfl | rfl | rfl <;> rfl
    | non => rcases hk with rfl | rfl | rfl <;> rfl
    | str s => rcases hk with rfl | rfl | rfl <;> rfl
    | byt b => exact ok.elim
    | flt b => exact ok.elim
    | ref b => exact ok.elim
    | ty b => exact ok.elim
theorem isVal_str {H : Hp} {v : V} {av : AV} {pl : Plan} (h : AVAt H v av) : (isStr v && inV v (pl.things.map V.str)) = isVal pl .thing av ∧ (isStr v && inV v (pl.ranks.map V.str)) = isVal pl .rank av := by
  cases av with
  | one x =>
    obtain ⟨rfl, ok⟩ := h
    exact ⟨rfl, rfl⟩
  | lst xs =>
    obtain ⟨a, rfl, _⟩ := h
    exact ⟨rfl, rfl⟩
theorem str_flat {v : V} (h : isStr v = true) : flatV v = true := by
  cases v with
  | str s => rfl
  | _ => exact absurd h Bool.false_ne_true
section
variable {P : Program} {w : World} {K : PySem.W.Frag} {mg : Str → Option Value} {base : Heap}
def sp_isv (L : Bool) (K : PySem.W.Frag) : Sp := fun vs H Q _ => ∃ (k : Kd) (v : V) (av : AV) (d : Addr) (pl : Plan), vs = [.str k.s, v, .ref d] ∧ (k = .list → L = true) ∧ PlanAt K H d pl ∧ AVAt H v av ∧ ∀ H2, Ex H H2 → Q (.bl (isVal pl k av)) H2
theorem spv_isv {L : Bool} {k : Kd} {v : V} {av : AV} {d : Addr} {pl : Plan} {H : Hp} (hk : k = .list → L = true) (h : PlanAt K H d pl) (hv : AVAt H v av) : SpV (sp_isv L K) [.str k.s, v, .ref d] H (.bl (isVal pl k av)) := fun H1 e Q q E => ⟨k, v, av, d, pl, rfl, hk, h.mono e, hv.mono e, fun H2 e2 => q H2 e2⟩
theorem sc__law_is_value : FnScope ["_law_kind", "_law_value_here", "_law_plan_here", "_law_one"] ["_law_kind", "_law_value_here", "_law_plan_here"] (defScope s__law_is_value) := ⟨rfl, rfl, rfl, by decide +kernel, rfl, by decide +kernel, by decide +kernel⟩
theorem ca_isv_gen (T : Ctx K mg) (L : Bool) {j : Nat} {sp0 : Sp} (c__law_whole : Ca P w K mg base CX0 1 "_law_whole" (sp_whole K)) (c__law_is_value : Ca P w K mg base CX0 (j + 1) "_law_is_value" sp0)
    (self : L = true → ∀ {x : V} {d : Addr} {pl : Plan} {H : Hp}, okV x → PlanAt K H d pl → SpV sp0 [.str "thing", x, .ref d] H (.bl (isVal pl .thing (.one x)))) : Ca P w K mg base CX0 (j + 2) "_law_is_value" (sp_isv L K) := by
  obtain ⟨fd, F⟩ := T.fd__law_is_value
  refine caOf F sc__law_is_value T.g__law_is_value (F.bindsN fun _ _ _ _ _ _ us hl => match us, hl with | [_, _, _], _ => rfl) (fun vs H Q E h => ?_) (fun cdv A outer s H vs Q E hr h => ⟨_, PSs.nox (pss_cons (ps_if (pt_cmpR (r := rIn K false) op_in_seq (pv 0) (pe_tup (pa_cons pe_str (pa_cons pe_str pa_nil))) (by rfl)) (pss_one (ps_ret (pe_and (pe_callB (r := rIsi K) call_isi (by rfl) T.f_isinstance (by decide +kernel) (pa_cons (pv 1) (pa_cons (pe_bltn (v := .ty "str") (by rfl) T.f_str (by decide +kernel) rfl) pa_nil))) (pe_one (pe_cmpR (r := rIn K false) op_in_seq (pv 1) (pe_dget (hu_of hr) (pv 2) (pe_op op_add_str (pv 0) pe_str) (fun _ _ => rfl)) (by rfl)))))) pss_nil)
      (pss_cons (ps_if (pt_cmpR op_eq (pv 0) pe_str (nomark _)) (pss_cons (ps_if (PW.pt (pw_or (pt_not (pt_val (pe_callB (r := rIsi K) call_isi (by rfl) T.f_isinstance (by decide +kernel) (pa_cons (pv 1) (pa_cons (pe_bltn (v := .ty "list") (by rfl) T.f_list (by decide +kernel) rfl) pa_nil))))) (pw_or1 (pt_cmpR op_gt (pe_callB (r := rLen K) call_len (by rfl) T.f_len (by decide +kernel) (pa_cons (pv 1) pa_nil)) pe_int (nomark _))))) (pss_one (ps_ret pe_bl)) pss_nil)
      (pss_one (ps_ret (pe_cmpR (r := rEqD K) (op_eqD hr.units) (pe_lc (own := [("_law_one", 3)]) (g := gName 3) rfl sc__law_is_value.nd (pi_list (pv 1)) (blkOk_by (own := [("_law_one", 3)]) (N := ["_law_kind", "_law_value_here", "_law_plan_here", "_law_one"]) (sc := defScope s__law_is_value) (by decide +kernel)) (fun _ _ _ _ _ => pg_name (i := 3) sc__law_is_value.nd rfl (.inl rfl)) (fun _ _ _ _ _ => pts_one (pt_not (pt_val (pe_ca c__law_is_value hr (by first | decide | omega) (by rfl) (pa_cons pe_str (pa_cons (pv 3) (pa_cons (pv 2) pa_nil))))))) (fun _ _ _ _ _ => (pv 3))) (pe_lst pa_nil) (nomark _))))) pss_nil)
      (pss_cons (ps_if (PW.pt (pw_or (pt_not (pt_val (pe_ca c__law_whole hr (by first | decide | omega) (by rfl) (pa_cons (pv 1) pa_nil)))) (pw_or1 (pt_cmpR op_ge (pe_callB call_abs (by rfl) T.f_abs (by decide +kernel) (pa_cons (pv 1) pa_nil)) (pe_op op_pow pe_int pe_int) (nomark _))))) (pss_one (ps_ret pe_bl)) pss_nil)
      (pss_one (ps_ret (pe_or (pe_cmpR op_eq (pv 0) pe_str (nomark _)) (pe_one (pe_cmpR op_ge (pv 1) pe_int (nomark _))))))))), ?_⟩)
  · obtain ⟨k, v, av, d, pl, rfl, _⟩ := h; rfl
  · obtain ⟨k, v, av, d, pl, rfl, hL, hP, hv, q⟩ := h
    refine q_when (et_test (ev_inU (ev_var rfl) (eu_tup (ea_cons ev_c (ea_cons ev_c ea_nil)) (Nat.le_of_ble_eq_true rfl)) rfl rfl)) (fun hb H1 e1 => ?_) (fun hb H1 e1 => ?_)
    · have fin : ∀ {x : Str} {ws : List Str}, k.s ++ "s" = x → (k.s).length + ("s" : Str).length ≤ 100000 → rowHas K H1 d x ws → (isStr v && inV v (ws.map V.str)) = isVal pl k av →
          tRet (tAndV (tCB (rIsi K) (tCons (tVar 1) (tCons (tC (V.ty "str")) tNil))) (tOp (rIn K false) (tVar 1) (tDGet (tVar 2) (tOp rAddS (tVar 0) (tC (.str "s")))))) { nx := fun _ H' => Q .non H', rt := Q } [some (.str k.s), some v, some (.ref d), none] H1 := by
        intro x ws hx hlk hrow he
        obtain ⟨a, hd, hs⟩ := hrow
        have hd' : DGet H1 d (.str (k.s ++ "s")) (some (.ref a)) := by rw [hx]; exact hd
        refine s_ret (ev_andV (ev_isi (ev_var rfl) (rc_isStr (hv.mono e1).sim)) fun h1 => (ev_op (ev_var rfl) (ev_dget (ev_var rfl) (ev_addS (ev_var rfl) ev_c hlk) hd') (rv_isL hs (str_flat h1) (flat_strs ws)))) fun H2 e2 => ?_
        rw [he]
        exact q H2 (e1.trans e2)
      cases k with
      | count => exact absurd hb (by decide +kernel)
      | number => exact absurd hb (by decide +kernel)
      | list => exact absurd hb (by decide +kernel)
      | day => exact absurd hb (by decide +kernel)
      | thing => exact fin (by decide +kernel) (by decide +kernel) (hP.mono e1).things (isVal_str hv).1
      | rank => exact fin (by decide +kernel) (by decide +kernel) (hP.mono e1).ranks (isVal_str hv).2
    refine q_when (et_test (ev_op (ev_var rfl) ev_c (rv_eq rfl))) (fun hb2 H2 e2 => ?_) (fun hb2 H2 e2 => ?_)
    · obtain rfl : k = .list := Kd.inj (V.str.inj (of_decide_eq_true hb2))
      have E2 := e1.trans e2
      cases av with
      | one x =>
        obtain ⟨rfl, ok⟩ := hv
        have nl : isLst v = false := by
          cases v with
          | ref a => exact ok.elim
          | _ => rfl
        refine q_when (b := true) (et_is (et_or (b := false) (et_not (et_B (ev_isi (ev_var rfl) (rc_isLst ok.sim)))) fun h => by
          rw [nl] at h
          cases h) (by rw [nl]; rfl)) (fun _ H3 e3 => ?_) (fun h => by cases h)
        exact s_ret ev_c fun H4 e4 => q H4 ((E2.trans e3).trans e4)
      | lst xs =>
        obtain ⟨a, rfl, ha, ok⟩ := hv
        refine q_when (b := decide ((8 : Int) < (xs.length : Int))) (et_is (et_or (et_not (et_B (ev_isi (ev_var rfl) (rc_isLst ⟨xs, E2 a _ ha⟩)))) fun _ => (et_test (ev_op (ev_lenL (ev_var rfl) (sq_of (E2 a _ ha))) ev_c rv_I0))) (by rfl)) (fun h3 H3 e3 => ?_) (fun h3 H3 e3 => ?_)
        · have h4 : (8 : Int) < (xs.length : Int) := of_decide_eq_true h3
          have e : isVal pl .list (.lst xs) = false := by
            show (decide (xs.length ≤ 8) && _) = false
            rw [decide_eq_false (by omega)]; rfl
          rw [e] at q
          exact s_ret ev_c fun H4 e4 => q H4 ((E2.trans e3).trans e4)
        · have h4 : ¬ (8 : Int) < (xs.length : Int) := of_decide_eq_false h3
          have E3 := E2.trans e3
          refine s_ret (ev_eqNilN (el_lcL (xs := xs) (fun i => !strIn (xs.getD i .non) pl.things) (fun i => xs.getD i .non) (ev_var rfl) (sq_of (E3 a _ ha)) (by omega) (fun _ => rfl) (fun i x H4 e4 hi => ?_) (fun i x H4 e4 hi _ => ?_)) (fun x hx => ok x (given_mem hx))) fun H4 e4 => ?_
          · have hx : xs.getD i .non = x := by rw [List.getD_eq_getElem?_getD, hi]; rfl
            rw [hx]
            exact et_not (et_B (ev_call (ea_cons ev_c (ea_cons (ev_var rfl) (ea_cons (ev_var rfl) ea_nil))) (self (hL rfl) (ok x (List.mem_of_getElem? hi)) (hP.mono (E3.trans e4)))))
          · have hx : xs.getD i .non = x := by rw [List.getD_eq_getElem?_getD, hi]; rfl
            rw [hx]
            exact ev_var rfl
          · rw [given_empty (fun x => strIn x pl.things)]
            have e : isVal pl .list (.lst xs) = xs.all fun x => strIn x pl.things := by
              show (decide (xs.length ≤ 8) && _) = _
              rw [decide_eq_true (by omega)]; rfl
            rw [e] at q
            exact q H4 (E3.trans e4)
    have hk : k = .count ∨ k = .number ∨ k = .day := by
      cases k with
      | count => exact .inl rfl
      | number => exact .inr (.inl rfl)
      | day => exact .inr (.inr rfl)
      | thing => exact absurd hb (by decide +kernel)
      | rank => exact absurd hb (by decide +kernel)
      | list => exact absurd hb2 (by decide +kernel)
    have E2 := e1.trans e2
    cases hw : whole v with
    | false =>
      refine q_when (b := true) (et_is (et_or (b := false) (et_not (et_B (ev_call (ea_cons (ev_var rfl) ea_nil) (spv_whole (hv.mono E2).sim)))) fun h => by
        rw [hw] at h
        cases h) (by rw [hw]; rfl)) (fun _ H3 e3 => ?_) (fun h => by cases h)
      rw [isVal_int hv hk hw] at q
      exact s_ret ev_c fun H4 e4 => q H4 ((E2.trans e3).trans e4)
    | true =>
      obtain ⟨i, rfl, rfl⟩ := whole_int hv hw
      refine q_when (b := decide ((10 : Int) ^ 60 ≤ if i < 0 then -i else i)) (et_is (et_or (et_not (et_B (ev_call (ea_cons (ev_var rfl) ea_nil) (spv_whole (v := .int i) trivial)))) fun _ => (et_test (ev_op (ev_cb (ea_cons (ev_var rfl) ea_nil) rc_abs) (ev_op ev_c ev_c rv_pow) rv_I0))) (by rfl)) (fun h3 H3 e3 => ?_) (fun h3 H3 e3 => ?_)
      · have h4 : (10 : Int) ^ 60 ≤ if i < 0 then -i else i := of_decide_eq_true h3
        have e : isVal pl k (.one (.int i)) = false := by
          rcases hk with rfl | rfl | rfl
          · show (decide (0 ≤ i) && decide (i < 10 ^ 60)) = false
            rw [Bool.and_eq_false_iff, decide_eq_false_iff_not, decide_eq_false_iff_not]
            split at h4 <;> omega
          · exact decide_eq_false (Int.not_lt.mpr h4)
          · show (decide (0 ≤ i) && decide (i < 10 ^ 60)) = false
            rw [Bool.and_eq_false_iff, decide_eq_false_iff_not, decide_eq_false_iff_not]
            split at h4 <;> omega
        rw [e] at q
        exact s_ret ev_c fun H4 e4 => q H4 ((E2.trans e3).trans e4)
      · have h4 : ¬ (10 : Int) ^ 60 ≤ if i < 0 then -i else i := of_decide_eq_false h3
        refine s_ret (ev_orV (ev_op (ev_var rfl) ev_c (rv_eq rfl)) fun _ => (ev_op (ev_var rfl) ev_c rv_I0)) fun H4 e4 => ?_
        have e : isVal pl k (.one (.int i)) = (decide (V.str k.s = V.str "number") || decide (0 ≤ i)) := by
          rcases hk with rfl | rfl | rfl
          · show (decide (0 ≤ i) && decide (i < 10 ^ 60)) = _
            rw [decide_eq_false (p := V.str Kd.count.s = V.str "number") (by decide +kernel), Bool.false_or]
            by_cases h0 : 0 ≤ i
            · rw [decide_eq_true h0, decide_eq_true]; rfl
              split at h4 <;> omega
            · rw [decide_eq_false h0]; rfl
          · rw [decide_eq_true (p := V.str Kd.number.s = V.str "number") rfl, Bool.true_or]
            exact decide_eq_true (Int.not_le.mp h4)
          · show (decide (0 ≤ i) && decide (i < 10 ^ 60)) = _
            rw [decide_eq_false (p := V.str Kd.day.s = V.str "number") (by decide +kernel), Bool.false_or]
            by_cases h0 : 0 ≤ i
            · rw [decide_eq_true h0, decide_eq_true]; rfl
              split at h4 <;> omega
            · rw [decide_eq_false h0]; rfl
        rw [e] at q
        exact q H4 ((E2.trans e3).trans e4)
/-- a promise that is never asked -/
theorem ca_none (T : Ctx K mg) : Ca P w K mg base CX0 1 "_law_is_value" (fun _ _ _ _ => False) := by
  obtain ⟨fd, F⟩ := T.fd__law_is_value
  exact ⟨_, fd, ["_law_kind", "_law_value_here", "_law_plan_here"], ⟨fun _ _ _ _ h => h.elim, fun _ _ _ _ _ _ _ _ _ _ _ _ _ h => h.elim⟩, T.g__law_is_value, F.kp, F.bindsN fun _ _ _ _ _ _ us hl => match us, hl with | [_, _, _], _ => rfl⟩
theorem ca__law_is_value (T : Ctx K mg) (c__law_whole : Ca P w K mg base CX0 1 "_law_whole" (sp_whole K)) : Ca P w K mg base CX0 3 "_law_is_value" (sp_isv true K) :=
  ca_isv_gen T true c__law_whole (ca_isv_gen T false c__law_whole (ca_none T) (fun h => by cases h)) fun _ {x d pl H} ok hP => spv_isv (k := .thing) (fun h => by cases h) hP (av := .one x) ⟨rfl, ok⟩
end
end K71

set_option maxHeartbeats 4000000
/-! K71W7: a method by the class that stands there; the house and its tongues as they lie in the heap; what the house tells. -/
namespace K71
open PySem PySem.Spec PyProof.Rows L2 Evl
/-! ### o.m(..), o of one of several classes -/
def tMethD {ι : Type} (C : ι → Addr) (m : Str) (sp : ι → Sp) (E : XK) (ta : TE) (t : TA) : TE := fun σ H Q => ta σ H fun x H1 => ∃ i a dx fs, x = .ref a ∧ H1 a = some (.ins (C i) dx fs) ∧ fs.lookup m = none ∧ t σ H1 fun vs H2 => sp i (x :: vs) H2 Q E
theorem pe_meD {ι : Type} {X : Cx} {CX : CXT} {k j : Nat} {C : ι → Addr} {m : Str} {sp : ι → Sp} {E : XK} {pos apos : Pos} {e o : Expr} {es : List Expr} {ta : TE} {t : TA} {pl : Sem Bool} (c : ∀ i, Me X.prog X.w X.K X.mg X.base CX k (C i) m (sp i) []) (hr : Room j X.A) (hk : k ≤ j) (hx : Passes CX X E) (he : PE X o ta) (ha : PA X (e :: es) t)
    (hst : starEach (e :: es) X.env = (false, eval e X.env) :: starEach es X.env := by rfl) (hpl : (backTo pos (starEach es X.env)).any (·.1) = false := by rfl)
    (ht : eval (.Call (.Attribute o m apos) (e :: es) [] pos) X.env = (do
      let ov ← eval o X.env
      standAt apos.atName
      let (f, first) ← holding [ov] (getMethod ov m pl)
      callWith pos f first (backTo pos (starEach (e :: es) X.env)) (backToKw pos (keywordEach [] X.env))) := by rfl) :
    PE X (.Call (.Attribute o m apos) (e :: es) [] pos) (tMethD C m sp E ta t) := by
  refine ⟨fun pins s σ H Q I h => ?_⟩
  refine PySem.W.methodCall_KW (pl := pl) (thn (he.run pins s σ H _ I h) fun u s1 ⟨x, H1, I1, rx, i, a, dx, fs, ex, ea, l, q⟩ => ?_) ht
  subst ex
  obtain rfl : u = Value.ref a := rx
  obtain ⟨f, fd, ps, ds, hc, hm, F, hb, hd⟩ := (c i).ex
  refine getmeth_ok I1 ea hc hm l ?_
  refine PySem.W.callWith_K (first := [.ref a]) (h₀ := X.base) I.ok.mod.kin hm.kp (thn (ha.run pos pins s1 σ H1 _ I1 q) fun us s2 ⟨vs, H2, I2, r, q2⟩ => ⟨I2.kIn, ?_⟩) hst hpl
  exact run_fn (us := .ref a :: us) (vs := .ref a :: vs) F (hr.mono hk) hb hd hx I2 (.cons rfl r) (by rw [List.append_nil]; exact q2)
/-- what lets nothing out keeps its promise in a wider context too -/
theorem FnOk.up {P : Program} {w : World} {K : PySem.W.Frag} {mg : Str → Option Value} {base : Heap} {CX : CXT} {k : Nat} {f : Addr} {fd : FuncData} {ps : List Str} {sp : Sp} (F : FnOk P w K mg base CX0 k f fd ps sp) : FnOk P w K mg base CX k f fd ps sp :=
  ⟨F.len, fun A outer s H args us vs Q E hr he hb hv hs => codeAny_mono (F.run A outer s H args us vs Q E hr he hb hv hs) fun r s' q => by
    cases r with
    | error e => exact (show False from q).elim
    | ok fl => cases fl <;> exact q⟩
theorem Me.up {P : Program} {w : World} {K : PySem.W.Frag} {mg : Str → Option Value} {base : Heap} {CX : CXT} {k : Nat} {C : Addr} {m : Str} {sp : Sp} {dvs : List V} (c : Me P w K mg base CX0 k C m sp dvs) : Me P w K mg base CX k C m sp dvs := by
  obtain ⟨f, fd, ps, ds, hc, hm, F, hb, hd⟩ := c.ex
  exact ⟨f, fd, ps, ds, hc, hm, FnOk.up F, hb, hd⟩
theorem Me.mono {P : Program} {w : World} {K : PySem.W.Frag} {mg : Str → Option Value} {base : Heap} {CX : CXT} {k j : Nat} {C : Addr} {m : Str} {sp : Sp} {dvs : List V} (c : Me P w K mg base CX k C m sp dvs) (h : k ≤ j) : Me P w K mg base CX j C m sp dvs := by
  obtain ⟨f, fd, ps, ds, hc, hm, F, hb, hd⟩ := c.ex
  exact ⟨f, fd, ps, ds, hc, hm, F.mono h, hb, hd⟩
section
variable {σ : L2.St} {H : Hp} {P : V → Hp → Prop}
theorem evp_methD {ι : Type} {C : ι → Addr} {m : Str} {sp : ι → Sp} {vs : List V} {E : XK} {ta : TE} {t : TA} {O : V → Hp → Prop} (i : ι) (h : EvP ta σ H O) (hO : ∀ v H1, Ex H H1 → O v H1 → ∃ a dx fs, v = .ref a ∧ H1 a = some (.ins (C i) dx fs) ∧ fs.lookup m = none ∧ EvA t σ H1 vs ∧ SpP (sp i) (.ref a :: vs) H1 P) : EvP (tMethD C m sp E ta t) σ H P := fun H1 e Q q =>
  h H1 e _ fun v H2 e2 o => by
    obtain ⟨a, dx, fs, rfl, hH, hm, ht, hs⟩ := hO v H2 (e.trans e2) o
    exact ⟨i, a, dx, fs, rfl, hH, hm, ht H2 (Ex.refl H2) _ fun H3 e3 => hs H3 e3 Q (fun v H4 e4 p => q v H4 ((e2.trans e3).trans e4) p) E⟩
end
/-! ### what stands but for the dicts -/
def isD : HO → Bool
  | .dK _ => true
  | .dT _ => true
  | .frz _ (.dT _) => true
  | _ => false
/-- all but dicts stands -/
def ExI (H H' : Hp) : Prop := ∀ a o, isD o = false → H a = some o → H' a = some o
theorem ExI.of {H H' : Hp} (e : Ex H H') : ExI H H' := fun a o _ h => e a o h
theorem ExI.trans {H H1 H2 : Hp} (a : ExI H H1) (b : ExI H1 H2) : ExI H H2 := fun x o d h => b x o d (a x o d h)
theorem ExI.put {H : Hp} {p : Addr} {o o' : HO} (h : H p = some o) (d : isD o = true) : ExI H (upd H p o') := fun a u du e => by
  rw [upd_ne (fun z => by
    subst z
    rw [h] at e
    cases e
    rw [d] at du
    cases du)]
  exact e
section
variable {K : PySem.W.Frag} {H H' : Hp}
theorem exi_rdL {a : Addr} {xs : List V} (e : ExI H H') (h : Rd H a (.lst xs)) : Rd H' a (.lst xs) := by
  rcases h with h | ⟨o, h⟩
  · exact .inl (e a _ rfl h)
  · exact .inr ⟨o, e a _ rfl h⟩
theorem exi_rdT {a : Addr} {xs : List V} (e : ExI H H') (h : Rd H a (.tup xs)) : Rd H' a (.tup xs) := by
  rcases h with h | ⟨o, h⟩
  · exact .inl (e a _ rfl h)
  · exact .inr ⟨o, e a _ rfl h⟩
theorem exi_l {a : Addr} {xs : List V} (e : ExI H H') (h : SqL K H a xs) : SqL K H' a xs := h.elim (fun h => .inl (exi_rdL e h)) .inr
theorem exi_t {a : Addr} {xs : List V} (e : ExI H H') (h : SqT K H a xs) : SqT K H' a xs := h.elim (fun h => .inl (exi_rdT e h)) .inr
/-! ### a tongue -/
/-- a tongue's figures: the further groups, the sign between them, the ten signs -/
structure Fig where
  g : Int
  sg : Str
  sx : Str
structure FigOk (f : Fig) : Prop where
  g : f.g = 1 ∨ f.g = 2 ∨ f.g = 3
  sg : f.sg = "" ∨ f.sg = "," ∨ f.sg = "."
  sx : f.sx = "0123456789" ∨ f.sx = "9876543210"
def FigAt (K : PySem.W.Frag) (H : Hp) (a : Addr) (f : Fig) : Prop := SqT K H a [.int 3, .int f.g, .str f.sg, .str "-", .str f.sx] ∧ FigOk f
/-- the joiners -/
def JoOk (j : List Str) : Prop := j = (["", " ", " ", " "] : List Str) ∨ j = (["none", " and ", ", ", " and "] : List Str)
def JoAt (K : PySem.W.Frag) (H : Hp) (a : Addr) (j : List Str) : Prop := SqT K H a (j.map V.str) ∧ JoOk j
/-- the calendar: the second month's days -/
def CalAt (K : PySem.W.Frag) (H : Hp) (a : Addr) (c : Int) : Prop := ∃ al ay, SqT K H a [.ref al, .int 2, .ref ay] ∧ SqL K H al ([31, c].map V.int) ∧ SqT K H ay [.str "rest", .int 4, .int 0, .int 0] ∧ 1 ≤ c ∧ c ≤ 30
/-- the dayform: the order, has the month a name -/
structure Frm where
  ord : Str
  nam : Bool
def FrmAt (K : PySem.W.Frag) (H : Hp) (a : Addr) (f : Frm) : Prop := ∃ nv, SqT K H a [.str f.ord, .str "/", nv] ∧ (f.ord = "dmy" ∨ f.ord = "ymd") ∧ ((f.nam = false ∧ nv = .non) ∨ (f.nam = true ∧ ∃ an, nv = .ref an ∧ SqL K H an ([("Jan" : Str), "F"].map V.str)))
structure Tg where
  name : Str
  falls : List Str
  jo : List Str
  fig : Fig
  cal : Int
  frm : Frm
def tgF (n : V) (al : Addr) (rv : V) (aj af ac ad : Addr) : List (Str × V) := [("name", n), ("falls", .ref al), ("rules", rv), ("joiners", .ref aj), ("figures", .ref af), ("calendar", .ref ac), ("dayform", .ref ad)]
def TgAt (K : PySem.W.Frag) (H : Hp) (b : Addr) (t : Tg) : Prop := ∃ dx al rv aj af ac ad, H b = some (.ins (He.ga K "Tongue") dx (tgF (.str t.name) al rv aj af ac ad)) ∧ H al = some (.lst (t.falls.map V.str)) ∧ JoAt K H aj t.jo ∧ FigAt K H af t.fig ∧ CalAt K H ac t.cal ∧ FrmAt K H ad t.frm
theorem FigAt.mono {a : Addr} {f : Fig} (e : ExI H H') (h : FigAt K H a f) : FigAt K H' a f := ⟨exi_t e h.1, h.2⟩
theorem JoAt.mono {a : Addr} {f : List Str} (e : ExI H H') (h : JoAt K H a f) : JoAt K H' a f := ⟨exi_t e h.1, h.2⟩
theorem CalAt.mono {a : Addr} {c : Int} (e : ExI H H') (h : CalAt K H a c) : CalAt K H' a c := let ⟨al, ay, h1, h2, h3, h4⟩ := h; ⟨al, ay, exi_t e h1, exi_l e h2, exi_t e h3, h4⟩
theorem FrmAt.mono {a : Addr} {c : Frm} (e : ExI H H') (h : FrmAt K H a c) : FrmAt K H' a c := by
  obtain ⟨nv, h1, h2, h3⟩ := h
  refine ⟨nv, exi_t e h1, h2, ?_⟩
  rcases h3 with h3 | ⟨h3, an, h4, h5⟩
  · exact .inl h3
  · exact .inr ⟨h3, an, h4, exi_l e h5⟩
theorem TgAt.mono {b : Addr} {t : Tg} (e : ExI H H') (h : TgAt K H b t) : TgAt K H' b t := by
  obtain ⟨dx, al, rv, aj, af, ac, ad, h1, h2, h3, h4, h5, h6⟩ := h
  exact ⟨dx, al, rv, aj, af, ac, ad, e b _ rfl h1, e al _ rfl h2, h3.mono e, h4.mono e, h5.mono e, h6.mono e⟩
/-! ### the texts, the house -/
/-- (tongue, thing): text, kind -/
abbrev Tab := List ((Str × Str) × (Str × Str))
def keyT (q : Str × Str) : List Key := [.inr q.1, .inr q.2]
def EntAt (H : Hp) (q : (Str × Str) × (Str × Str)) (kv : List Key × V) : Prop := kv.1 = keyT q.1 ∧ ∃ t, kv.2 = .ref t ∧ H t = some (.tup [.str q.2.1, .str q.2.2])
def TabKv (H : Hp) (tab : Tab) (kvs : List (List Key × V)) : Prop := Paired (EntAt H) tab kvs
def TabAt (H : Hp) (d : Addr) (tab : Tab) : Prop := ∃ kvs, Rd H d (.dT kvs) ∧ TabKv H tab kvs
theorem TabKv.mono {tab : Tab} {kvs : List (List Key × V)} (e : ExI H H') (h : TabKv H tab kvs) : TabKv H' tab kvs := Paired.mapP h fun _ _ ⟨h1, t, h2, h3⟩ => ⟨h1, t, h2, e t _ rfl h3⟩
theorem TabAt.mono {d : Addr} {tab : Tab} (e : Ex H H') (h : TabAt H d tab) : TabAt H' d tab := let ⟨kvs, h1, h2⟩ := h; ⟨kvs, ex_rd e h1, h2.mono (ExI.of e)⟩
def hF (ak ar ah ab ax ad ap : Addr) : List (Str × V) := [("kind_row", .ref ak), ("rank_row", .ref ar), ("thing_row", .ref ah), ("by_name", .ref ab), ("thing_texts", .ref ax), ("declared", .ref ad), ("pieces_here", .ref ap)]
def TgKv (K : PySem.W.Frag) (H : Hp) (ts : List Tg) (kvs : List (Key × V)) : Prop := Paired (fun t kv => kv.1 = Sum.inr t.name ∧ ∃ b, kv.2 = .ref b ∧ TgAt K H b t) ts kvs
theorem TgKv.mono {ts : List Tg} {kvs : List (Key × V)} (e : ExI H H') (h : TgKv K H ts kvs) : TgKv K H' ts kvs := Paired.mapP h fun _ _ ⟨h1, t, h2, h3⟩ => ⟨h1, t, h2, h3.mono e⟩
/-- the house at a: its rows, tongues, texts, declared keys -/
structure HouseD where
  dx : Addr
  ak : Addr
  ar : Addr
  ah : Addr
  ab : Addr
  ax : Addr
  ad : Addr
  ap : Addr
structure HouseW (K : PySem.W.Frag) (H : Hp) (a : Addr) (z : HouseD) (pl : Plan) : Prop where
  at_ : H a = some (.ins (He.ga K "House") z.dx (hF z.ak z.ar z.ah z.ab z.ax z.ad z.ap))
  kinds : SqL K H z.ak (pl.kinds.map V.str)
  ranks : SqL K H z.ar (pl.ranks.map V.str)
  things : SqL K H z.ah (pl.things.map V.str)
theorem HouseW.mono {a : Addr} {z : HouseD} {pl : Plan} (e : ExI H H') (h : HouseW K H a z pl) : HouseW K H' a z pl := ⟨e a _ rfl h.at_, exi_l e h.kinds, exi_l e h.ranks, exi_l e h.things⟩
structure HouseAt (K : PySem.W.Frag) (H : Hp) (a : Addr) (pl : Plan) (ts : List Tg) (tab : Tab) : Prop where
  ex : ∃ z, HouseW K H a z pl ∧ (∃ kvs, Rd H z.ab (.dK kvs) ∧ TgKv K H ts kvs) ∧ TabAt H z.ax tab
theorem HouseAt.mono {a : Addr} {pl : Plan} {ts : List Tg} {tab : Tab} (e : Ex H H') (h : HouseAt K H a pl ts tab) : HouseAt K H' a pl ts tab := by
  obtain ⟨z, h1, ⟨kvs, h2, h3⟩, h4⟩ := h.ex
  exact ⟨z, h1.mono (ExI.of e), ⟨kvs, ex_rd e h2, h3.mono (ExI.of e)⟩, h4.mono e⟩
end
/-! ### fields by name -/
theorem lk_here {k : Str} {v : V} {r : List (Str × V)} : List.lookup k ((k, v) :: r) = some v := by
  have e : (k == k) = true := beq_self_eq_true k
  simp only [List.lookup, e]
theorem lk_past {k g : Str} {v : V} {r : List (Str × V)} (h : (k == g) = false) : List.lookup k ((g, v) :: r) = List.lookup k r := by
  simp only [List.lookup, h]
section
variable {ak ar ah ab ax ad ap al aj af ac : Addr} {n rv : V}
theorem hF_kind : (hF ak ar ah ab ax ad ap).lookup ("kind_row" : Str) = some (.ref ak) := lk_here
theorem hF_rank : (hF ak ar ah ab ax ad ap).lookup ("rank_row" : Str) = some (.ref ar) := (lk_past (by decide +kernel)).trans lk_here
theorem hF_thing : (hF ak ar ah ab ax ad ap).lookup ("thing_row" : Str) = some (.ref ah) := (lk_past (by decide +kernel)).trans ((lk_past (by decide +kernel)).trans lk_here)
theorem hF_name : (hF ak ar ah ab ax ad ap).lookup ("by_name" : Str) = some (.ref ab) := (lk_past (by decide +kernel)).trans ((lk_past (by decide +kernel)).trans ((lk_past (by decide +kernel)).trans lk_here))
theorem hF_text : (hF ak ar ah ab ax ad ap).lookup ("thing_texts" : Str) = some (.ref ax) := (lk_past (by decide +kernel)).trans ((lk_past (by decide +kernel)).trans ((lk_past (by decide +kernel)).trans ((lk_past (by decide +kernel)).trans lk_here)))
theorem hF_decl : (hF ak ar ah ab ax ad ap).lookup ("declared" : Str) = some (.ref ad) := (lk_past (by decide +kernel)).trans ((lk_past (by decide +kernel)).trans ((lk_past (by decide +kernel)).trans ((lk_past (by decide +kernel)).trans ((lk_past (by decide +kernel)).trans lk_here))))
theorem hF_no {m : Str} (h : ∀ x ∈ (["kind_row", "rank_row", "thing_row", "by_name", "thing_texts", "declared", "pieces_here"] : List Str), (m == x) = false) : (hF ak ar ah ab ax ad ap).lookup m = none := by
  unfold hF
  rw [lk_past (h _ (by simp)), lk_past (h _ (by simp)), lk_past (h _ (by simp)), lk_past (h _ (by simp)), lk_past (h _ (by simp)), lk_past (h _ (by simp)), lk_past (h _ (by simp))]
  rfl
theorem tgF_name : (tgF n al rv aj af ac ad).lookup ("name" : Str) = some n := lk_here
theorem tgF_falls : (tgF n al rv aj af ac ad).lookup ("falls" : Str) = some (.ref al) := (lk_past (by decide +kernel)).trans lk_here
theorem tgF_jo : (tgF n al rv aj af ac ad).lookup ("joiners" : Str) = some (.ref aj) := (lk_past (by decide +kernel)).trans ((lk_past (by decide +kernel)).trans ((lk_past (by decide +kernel)).trans lk_here))
theorem tgF_fig : (tgF n al rv aj af ac ad).lookup ("figures" : Str) = some (.ref af) := (lk_past (by decide +kernel)).trans ((lk_past (by decide +kernel)).trans ((lk_past (by decide +kernel)).trans ((lk_past (by decide +kernel)).trans lk_here)))
theorem tgF_cal : (tgF n al rv aj af ac ad).lookup ("calendar" : Str) = some (.ref ac) := (lk_past (by decide +kernel)).trans ((lk_past (by decide +kernel)).trans ((lk_past (by decide +kernel)).trans ((lk_past (by decide +kernel)).trans ((lk_past (by decide +kernel)).trans lk_here))))
theorem tgF_frm : (tgF n al rv aj af ac ad).lookup ("dayform" : Str) = some (.ref ad) := (lk_past (by decide +kernel)).trans ((lk_past (by decide +kernel)).trans ((lk_past (by decide +kernel)).trans ((lk_past (by decide +kernel)).trans ((lk_past (by decide +kernel)).trans ((lk_past (by decide +kernel)).trans lk_here)))))
end
end K71

set_option maxHeartbeats 4000000
/-! K71W8: the house's reading methods, the kinds' has, is_value. -/
namespace K71
open PySem PySem.Spec PyProof.Rows L2 Evl
section
variable {P : Program} {w : World} {K : PySem.W.Frag} {mg : Str → Option Value} {base : Heap} {σ : L2.St} {H : Hp} {te : TE}
theorem el_listOf {p : Addr} {xs : List V} (h : Ev te σ H (.ref p)) (hx : SqL K H p xs) : EvL (tCB (fun xs H_1 Q => ∃ p ys, xs = [V.ref p] ∧ (SqL K H_1 p ys ∨ SqT K H_1 p ys) ∧ ∀ (l : Addr), H_1 l = none → Q (V.ref l) (upd H_1 l (HO.lst ys))) (tCons te tNil)) σ H xs := fun H1 e _ q =>
  h H1 e _ fun H2 e2 => ⟨p, xs, rfl, .inl (ex_l (e.trans e2) hx), fun l hl => q l _ (fresh_back e2 hl) (e2.trans (Ex.new hl)) upd_same⟩
/-! ### ranks, things -/
def NewL (xs : List V) (H : Hp) (v : V) (H2 : Hp) : Prop := ∃ p, v = .ref p ∧ H p = none ∧ H2 p = some (.lst xs)
def sp_ranks (K : PySem.W.Frag) : Sp := fun vs H Q _ => ∃ a z pl, vs = [.ref a] ∧ HouseW K H a z pl ∧ ∀ v H2, Ex H H2 → NewL (pl.ranks.map V.str) H v H2 → Q v H2
theorem spp_ranks {a : Addr} {z : HouseD} {pl : Plan} {H : Hp} (h : HouseW K H a z pl) : SpP (sp_ranks K) [.ref a] H fun v H2 => NewL (pl.ranks.map V.str) H v H2 := fun H1 e Q q E => ⟨a, z, pl, rfl, h.mono (ExI.of e), fun v H2 e2 ⟨p, h1, h2, h3⟩ => q v H2 e2 ⟨p, h1, fresh_back e h2, h3⟩⟩
theorem sc_House_ranks : FnScope ["self"] ["self"] (defScope s_House_ranks) := ⟨rfl, rfl, rfl, by decide +kernel, rfl, by decide +kernel, by decide +kernel⟩
theorem me_ranks (T : Ctx K mg) : Me P w K mg base CX0 1 (He.ga K "House") "ranks" (sp_ranks K) [] := by
  obtain ⟨fd, F⟩ := T.fd_House_ranks
  refine meOf F sc_House_ranks T.cl_House T.me_House_ranks (F.bindsN fun _ _ _ _ _ _ us hl => match us, hl with | [_], _ => rfl) (fun vs H Q E h => ?_) (fun cdv A outer s H vs Q E hr h => ⟨_, PSs.nox (pss_one (ps_ret (pe_callTy call_list_of (by rfl) T.f_list (by decide +kernel) (pa_cons (pe_fld (pv 0) rfl) pa_nil)))), ?_⟩)
  · obtain ⟨a, z, pl, rfl, _⟩ := h; rfl
  · obtain ⟨a, z, pl, rfl, h, q⟩ := h
    exact s_retL (el_listOf (ev_fld (ev_var rfl) h.at_ T.cl_House T.na_House_rank_row hF_rank) h.ranks) fun p H1 n e hp => q _ H1 e ⟨p, rfl, n, hp⟩
def sp_things (K : PySem.W.Frag) : Sp := fun vs H Q _ => ∃ a z pl, vs = [.ref a] ∧ HouseW K H a z pl ∧ ∀ v H2, Ex H H2 → NewL (pl.things.map V.str) H v H2 → Q v H2
theorem spp_things {a : Addr} {z : HouseD} {pl : Plan} {H : Hp} (h : HouseW K H a z pl) : SpP (sp_things K) [.ref a] H fun v H2 => NewL (pl.things.map V.str) H v H2 := fun H1 e Q q E => ⟨a, z, pl, rfl, h.mono (ExI.of e), fun v H2 e2 ⟨p, h1, h2, h3⟩ => q v H2 e2 ⟨p, h1, fresh_back e h2, h3⟩⟩
theorem sc_House_things : FnScope ["self"] ["self"] (defScope s_House_things) := ⟨rfl, rfl, rfl, by decide +kernel, rfl, by decide +kernel, by decide +kernel⟩
theorem me_things (T : Ctx K mg) : Me P w K mg base CX0 1 (He.ga K "House") "things" (sp_things K) [] := by
  obtain ⟨fd, F⟩ := T.fd_House_things
  refine meOf F sc_House_things T.cl_House T.me_House_things (F.bindsN fun _ _ _ _ _ _ us hl => match us, hl with | [_], _ => rfl) (fun vs H Q E h => ?_) (fun cdv A outer s H vs Q E hr h => ⟨_, PSs.nox (pss_one (ps_ret (pe_callTy call_list_of (by rfl) T.f_list (by decide +kernel) (pa_cons (pe_fld (pv 0) rfl) pa_nil)))), ?_⟩)
  · obtain ⟨a, z, pl, rfl, _⟩ := h; rfl
  · obtain ⟨a, z, pl, rfl, h, q⟩ := h
    exact s_retL (el_listOf (ev_fld (ev_var rfl) h.at_ T.cl_House T.na_House_thing_row hF_thing) h.things) fun p H1 n e hp => q _ H1 e ⟨p, rfl, n, hp⟩
/-! ### row -/
def sp_row (th : Bool) (K : PySem.W.Frag) : Sp := fun vs H Q _ => ∃ v a z pl, vs = [v, .ref a] ∧ HouseW K H a z pl ∧ ∀ v H2, Ex H H2 → NewL ((if th then pl.things else pl.ranks).map V.str) H v H2 → Q v H2
theorem spp_row {th : Bool} {v : V} {a : Addr} {z : HouseD} {pl : Plan} {H : Hp} (h : HouseW K H a z pl) : SpP (sp_row th K) [v, .ref a] H fun v H2 => NewL ((if th then pl.things else pl.ranks).map V.str) H v H2 := fun H1 e Q q E => ⟨v, a, z, pl, rfl, h.mono (ExI.of e), fun v H2 e2 ⟨p, h1, h2, h3⟩ => q v H2 e2 ⟨p, h1, fresh_back e h2, h3⟩⟩
theorem sc_RankKind_row : FnScope ["self", "house"] ["self", "house"] (defScope s_RankKind_row) := ⟨rfl, rfl, rfl, by decide +kernel, rfl, by decide +kernel, by decide +kernel⟩
theorem me_RankKind_row (T : Ctx K mg) (c_ranks : Me P w K mg base CX0 1 (He.ga K "House") "ranks" (sp_ranks K) []) : Me P w K mg base CX0 2 (He.ga K "RankKind") "row" (sp_row false K) [] := by
  obtain ⟨fd, F⟩ := T.fd_RankKind_row
  refine meOf F sc_RankKind_row T.cl_RankKind T.me_RankKind_row (F.bindsN fun _ _ _ _ _ _ us hl => match us, hl with | [_, _], _ => rfl) (fun vs H Q E h => ?_) (fun cdv A outer s H vs Q E hr h => ⟨_, PSs.nox (pss_one (ps_ret (pe_me0 c_ranks hr (by first | decide | omega) (pv 1)))), ?_⟩)
  · obtain ⟨v, a, z, pl, rfl, _⟩ := h; rfl
  · obtain ⟨v, a, z, pl, rfl, h, q⟩ := h
    exact s_retP (evp_meth (ev_var rfl) h.at_ (hF_no (by decide +kernel)) ea_nil (spp_ranks h)) q
theorem sc_ThingKind_row : FnScope ["self", "house"] ["self", "house"] (defScope s_ThingKind_row) := ⟨rfl, rfl, rfl, by decide +kernel, rfl, by decide +kernel, by decide +kernel⟩
theorem me_ThingKind_row (T : Ctx K mg) (c_things : Me P w K mg base CX0 1 (He.ga K "House") "things" (sp_things K) []) : Me P w K mg base CX0 2 (He.ga K "ThingKind") "row" (sp_row true K) [] := by
  obtain ⟨fd, F⟩ := T.fd_ThingKind_row
  refine meOf F sc_ThingKind_row T.cl_ThingKind T.me_ThingKind_row (F.bindsN fun _ _ _ _ _ _ us hl => match us, hl with | [_, _], _ => rfl) (fun vs H Q E h => ?_) (fun cdv A outer s H vs Q E hr h => ⟨_, PSs.nox (pss_one (ps_ret (pe_me0 c_things hr (by first | decide | omega) (pv 1)))), ?_⟩)
  · obtain ⟨v, a, z, pl, rfl, _⟩ := h; rfl
  · obtain ⟨v, a, z, pl, rfl, h, q⟩ := h
    exact s_retP (evp_meth (ev_var rfl) h.at_ (hF_no (by decide +kernel)) ea_nil (spp_things h)) q
/-! ### has -/
def Kd.cls : Kd → Str
  | .count => "CountKind"
  | .number => "NumberKind"
  | .thing => "ThingKind"
  | .list => "ListKind"
  | .day => "DayKind"
  | .rank => "RankKind"
def sp_has (K : PySem.W.Frag) (k : Kd) : Sp := fun vs H Q _ => ∃ (b dx a : Addr) (v : V) (av : AV) (z : HouseD) (pl : Plan), vs = [.ref b, .ref a, v] ∧ H b = some (.ins (He.ga K k.cls) dx []) ∧ HouseW K H a z pl ∧ AVAt H v av ∧ ∀ H2, Ex H H2 → Q (.bl (isVal pl k av)) H2
theorem spv_has {k : Kd} {b dx a : Addr} {v : V} {av : AV} {z : HouseD} {pl : Plan} {H : Hp} (hb : H b = some (.ins (He.ga K k.cls) dx [])) (h : HouseW K H a z pl) (hv : AVAt H v av) : SpV (sp_has K k) [.ref b, .ref a, v] H (.bl (isVal pl k av)) := fun H1 e Q q E => ⟨b, dx, a, v, av, z, pl, rfl, e b _ hb, h.mono (ExI.of e), hv.mono e, fun H2 e2 => q H2 e2⟩
theorem isVal_num {H : Hp} {v : V} {av : AV} {pl : Plan} (h : AVAt H v av) : ∀ {b : Bool}, (whole v = true → ∀ i, v = .int i → b = decide ((if i < 0 then -i else i) < 10 ^ 60)) → (whole v && b) = isVal pl .number av := by
  intro b hb
  cases hw : whole v with
  | false => rw [isVal_int h (.inr (.inl rfl)) hw]; rfl
  | true =>
    obtain ⟨i, rfl, rfl⟩ := whole_int h hw
    rw [hb hw i rfl]; rfl
theorem isVal_cnt {H : Hp} {v : V} {av : AV} {pl : Plan} {k : Kd} (hk : k = .count ∨ k = .day) (h : AVAt H v av) : ∀ {b : Bool}, (whole v = true → ∀ i, v = .int i → b = (decide (0 ≤ i) && decide (i < 10 ^ 60))) → (whole v && b) = isVal pl k av := by
  intro b hb
  cases hw : whole v with
  | false => rw [isVal_int h (by rcases hk with rfl | rfl; exact .inl rfl; exact .inr (.inr rfl)) hw]; rfl
  | true =>
    obtain ⟨i, rfl, rfl⟩ := whole_int h hw
    rw [hb hw i rfl]
    rcases hk with rfl | rfl <;> rfl
def intOf : V → Int
  | .int i => i
  | _ => 0
theorem whole_is {H : Hp} {v : V} {av : AV} (h : AVAt H v av) (hw : whole v = true) : v = .int (intOf v) := by
  obtain ⟨i, rfl, _⟩ := whole_int h hw
  rfl
theorem sc_NumberKind_has : FnScope ["self", "house", "value"] ["self", "house", "value"] (defScope s_NumberKind_has) := ⟨rfl, rfl, rfl, by decide +kernel, rfl, by decide +kernel, by decide +kernel⟩
theorem me_NumberKind_has (T : Ctx K mg) (c_is_whole : Ca P w K mg base CX0 1 "is_whole" (sp_whole K)) : Me P w K mg base CX0 2 (He.ga K "NumberKind") "has" (sp_has K .number) [] := by
  obtain ⟨fd, F⟩ := T.fd_NumberKind_has
  refine meOf F sc_NumberKind_has T.cl_NumberKind T.me_NumberKind_has (F.bindsN fun _ _ _ _ _ _ us hl => match us, hl with | [_, _, _], _ => rfl) (fun vs H Q E h => ?_) (fun cdv A outer s H vs Q E hr h => ⟨_, PSs.nox (pss_one (ps_ret (pe_and (pe_ca c_is_whole hr (by first | decide | omega) (by rfl) (pa_cons (pv 2) pa_nil)) (pe_one (pe_cmpR op_lt (pe_callB call_abs (by rfl) T.f_abs (by decide +kernel) (pa_cons (pv 2) pa_nil)) (pe_op op_pow pe_int pe_int) (nomark _)))))), ?_⟩)
  · obtain ⟨b, dx, a, v, av, z, pl, rfl, _⟩ := h; rfl
  · obtain ⟨b, dx, a, v, av, z, pl, rfl, hb, h, hv, q⟩ := h
    refine s_ret (ev_is (ev_andV (b := decide ((if intOf v < 0 then -intOf v else intOf v) < 10 ^ 60)) (ev_call (ea_cons (ev_var rfl) ea_nil) (spv_whole hv.sim)) fun hw => (ev_op (ev_cb (ea_cons (ev_is (ev_var rfl) (whole_is hv hw)) ea_nil) rc_abs) (ev_op ev_c ev_c rv_pow) rv_I0)) ?_) q
    rw [isVal_num hv fun hw i hi => by subst hi; rfl]
theorem sc_CountKind_has : FnScope ["self", "house", "value"] ["self", "house", "value"] (defScope s_CountKind_has) := ⟨rfl, rfl, rfl, by decide +kernel, rfl, by decide +kernel, by decide +kernel⟩
theorem me_CountKind_has (T : Ctx K mg) (c_is_whole : Ca P w K mg base CX0 1 "is_whole" (sp_whole K)) : Me P w K mg base CX0 2 (He.ga K "CountKind") "has" (sp_has K .count) [] := by
  obtain ⟨fd, F⟩ := T.fd_CountKind_has
  refine meOf F sc_CountKind_has T.cl_CountKind T.me_CountKind_has (F.bindsN fun _ _ _ _ _ _ us hl => match us, hl with | [_, _, _], _ => rfl) (fun vs H Q E h => ?_) (fun cdv A outer s H vs Q E hr h => ⟨_, PSs.nox (pss_one (ps_ret (pe_and (pe_ca c_is_whole hr (by first | decide | omega) (by rfl) (pa_cons (pv 2) pa_nil)) (pe_one (pe_chain op_le op_lt pe_int (pv 2) (pe_op op_pow pe_int pe_int)))))), ?_⟩)
  · obtain ⟨b, dx, a, v, av, z, pl, rfl, _⟩ := h; rfl
  · obtain ⟨b, dx, a, v, av, z, pl, rfl, hb, h, hv, q⟩ := h
    refine s_ret (ev_is (ev_andV (b := decide (0 ≤ intOf v) && decide (intOf v < 10 ^ 60)) (ev_call (ea_cons (ev_var rfl) ea_nil) (spv_whole hv.sim)) fun hw => (ev_chain ev_c (ev_is (ev_var rfl) (whole_is hv hw)) rv_I0 fun _ => ⟨(ev_op ev_c ev_c rv_pow), rv_I0⟩)) ?_) q
    rw [isVal_cnt (.inl rfl) hv fun hw i hi => by subst hi; rfl]
theorem sc_DayKind_has : FnScope ["self", "house", "value"] ["self", "house", "value"] (defScope s_DayKind_has) := ⟨rfl, rfl, rfl, by decide +kernel, rfl, by decide +kernel, by decide +kernel⟩
theorem me_DayKind_has (T : Ctx K mg) (c_is_whole : Ca P w K mg base CX0 1 "is_whole" (sp_whole K)) : Me P w K mg base CX0 2 (He.ga K "DayKind") "has" (sp_has K .day) [] := by
  obtain ⟨fd, F⟩ := T.fd_DayKind_has
  refine meOf F sc_DayKind_has T.cl_DayKind T.me_DayKind_has (F.bindsN fun _ _ _ _ _ _ us hl => match us, hl with | [_, _, _], _ => rfl) (fun vs H Q E h => ?_) (fun cdv A outer s H vs Q E hr h => ⟨_, PSs.nox (pss_one (ps_ret (pe_and (pe_ca c_is_whole hr (by first | decide | omega) (by rfl) (pa_cons (pv 2) pa_nil)) (pe_one (pe_chain op_le op_lt pe_int (pv 2) (pe_op op_pow pe_int pe_int)))))), ?_⟩)
  · obtain ⟨b, dx, a, v, av, z, pl, rfl, _⟩ := h; rfl
  · obtain ⟨b, dx, a, v, av, z, pl, rfl, hb, h, hv, q⟩ := h
    refine s_ret (ev_is (ev_andV (b := decide (0 ≤ intOf v) && decide (intOf v < 10 ^ 60)) (ev_call (ea_cons (ev_var rfl) ea_nil) (spv_whole hv.sim)) fun hw => (ev_chain ev_c (ev_is (ev_var rfl) (whole_is hv hw)) rv_I0 fun _ => ⟨(ev_op ev_c ev_c rv_pow), rv_I0⟩)) ?_) q
    rw [isVal_cnt (.inr rfl) hv fun hw i hi => by subst hi; rfl]
/-- x in a new list -/
theorem ev_inN {ta tb : TE} {x : V} {xs : List V} (ha : Ev ta σ H x) (hb : EvP tb σ H fun v H2 => ∃ p, v = .ref p ∧ H2 p = some (.lst xs)) (hx : flatV x = true) (hf : xs.all flatV = true) : Ev (tOp (rIn K false) ta tb) σ H (.bl (inV x xs)) := fun H1 e Q q =>
  ha H1 e _ fun H2 e2 => hb H2 (e.trans e2) _ fun v H3 e3 ⟨p, hv, hp⟩ => by
    subst hv
    exact rv_isL (sq_of hp) hx hf H3 (Ex.refl H3) Q fun H4 e4 => q H4 ((e2.trans e3).trans e4)
theorem sc_RankKind_has : FnScope ["self", "house", "value"] ["self", "house", "value"] (defScope s_RankKind_has) := ⟨rfl, rfl, rfl, by decide +kernel, rfl, by decide +kernel, by decide +kernel⟩
theorem me_RankKind_has (T : Ctx K mg) (c_row : Me P w K mg base CX0 2 (He.ga K "RankKind") "row" (sp_row false K) []) : Me P w K mg base CX0 3 (He.ga K "RankKind") "has" (sp_has K .rank) [] := by
  obtain ⟨fd, F⟩ := T.fd_RankKind_has
  refine meOf F sc_RankKind_has T.cl_RankKind T.me_RankKind_has (F.bindsN fun _ _ _ _ _ _ us hl => match us, hl with | [_, _, _], _ => rfl) (fun vs H Q E h => ?_) (fun cdv A outer s H vs Q E hr h => ⟨_, PSs.nox (pss_one (ps_ret (pe_and (pe_callB (r := rIsi K) call_isi (by rfl) T.f_isinstance (by decide +kernel) (pa_cons (pv 2) (pa_cons (pe_bltn (v := .ty "str") (by rfl) T.f_str (by decide +kernel) rfl) pa_nil))) (pe_one (pe_cmpR (r := rIn K false) op_in_seq (pv 2) (pe_me c_row hr (by first | decide | omega) (pv 0) (pa_cons (pv 1) pa_nil)) (by rfl)))))), ?_⟩)
  · obtain ⟨b, dx, a, v, av, z, pl, rfl, _⟩ := h; rfl
  · obtain ⟨b, dx, a, v, av, z, pl, rfl, hb, h, hv, q⟩ := h
    refine s_ret (ev_is (ev_andV (ev_isi (ev_var rfl) (rc_isStr hv.sim)) fun hs => (ev_inN (ev_var rfl) ((evp_meth (ev_var rfl) hb rfl (ea_cons (ev_var rfl) ea_nil) (spp_row h)).imp fun v H2 e ⟨p, h1, _, h3⟩ => ⟨p, h1, h3⟩) (str_flat hs) (flat_strs pl.ranks))) ?_) q
    exact congrArg V.bl (isVal_str hv).2
theorem me_ThingKind_has (T : Ctx K mg) (c_row : Me P w K mg base CX0 2 (He.ga K "ThingKind") "row" (sp_row true K) []) : Me P w K mg base CX0 3 (He.ga K "ThingKind") "has" (sp_has K .thing) [] := by
  obtain ⟨fd, F⟩ := T.fd_ThingKind_has
  refine meOf F sc_RankKind_has T.cl_ThingKind T.me_ThingKind_has (F.bindsN fun _ _ _ _ _ _ us hl => match us, hl with | [_, _, _], _ => rfl) (fun vs H Q E h => ?_) (fun cdv A outer s H vs Q E hr h => ⟨_, PSs.nox (pss_one (ps_ret (pe_and (pe_callB (r := rIsi K) call_isi (by rfl) T.f_isinstance (by decide +kernel) (pa_cons (pv 2) (pa_cons (pe_bltn (v := .ty "str") (by rfl) T.f_str (by decide +kernel) rfl) pa_nil))) (pe_one (pe_cmpR (r := rIn K false) op_in_seq (pv 2) (pe_me c_row hr (by first | decide | omega) (pv 0) (pa_cons (pv 1) pa_nil)) (by rfl)))))), ?_⟩)
  · obtain ⟨b, dx, a, v, av, z, pl, rfl, _⟩ := h; rfl
  · obtain ⟨b, dx, a, v, av, z, pl, rfl, hb, h, hv, q⟩ := h
    refine s_ret (ev_is (ev_andV (ev_isi (ev_var rfl) (rc_isStr hv.sim)) fun hs => (ev_inN (ev_var rfl) ((evp_meth (ev_var rfl) hb rfl (ea_cons (ev_var rfl) ea_nil) (spp_row h)).imp fun v H2 e ⟨p, h1, _, h3⟩ => ⟨p, h1, h3⟩) (str_flat hs) (flat_strs pl.things))) ?_) q
    exact congrArg V.bl (isVal_str hv).1
theorem given_all {xs : List V} {f : V → V} {d : V} : given xs.length (fun _ => true) (fun i => f (xs.getD i d)) = xs.map f := by
  unfold given
  rw [List.filter_eq_self.mpr fun _ _ => rfl]
  apply List.ext_getElem?
  intro i
  rw [List.getElem?_map, List.getElem?_map]
  by_cases h : i < xs.length
  · rw [List.getElem?_range h, List.getElem?_eq_getElem h, Option.map_some, Option.map_some, List.getD_eq_getElem?_getD, List.getElem?_eq_getElem h]; rfl
  · rw [List.getElem?_eq_none (by rw [List.length_range]; omega), List.getElem?_eq_none (by omega)]; rfl
theorem sc_ListKind_has : FnScope ["self", "house", "value", "one"] ["self", "house", "value"] (defScope s_ListKind_has) := ⟨rfl, rfl, rfl, by decide +kernel, rfl, by decide +kernel, by decide +kernel⟩
theorem me_ListKind_has (T : Ctx K mg) (c_has : Me P w K mg base CX0 3 (He.ga K "ThingKind") "has" (sp_has K .thing) []) : Me P w K mg base CX0 4 (He.ga K "ListKind") "has" (sp_has K .list) [] := by
  obtain ⟨fd, F⟩ := T.fd_ListKind_has
  refine meOf F sc_ListKind_has T.cl_ListKind T.me_ListKind_has (F.bindsN fun _ _ _ _ _ _ us hl => match us, hl with | [_, _, _], _ => rfl) (fun vs H Q E h => ?_) (fun cdv A outer s H vs Q E hr h => ⟨_, PSs.nox (pss_cons (ps_if (PW.pt (pw_or (pt_not (pt_val (pe_callB (r := rIsi K) call_isi (by rfl) T.f_isinstance (by decide +kernel) (pa_cons (pv 2) (pa_cons (pe_bltn (v := .ty "list") (by rfl) T.f_list (by decide +kernel) rfl) pa_nil))))) (pw_or1 (pt_cmpR op_gt (pe_callB (r := rLen K) call_len (by rfl) T.f_len (by decide +kernel) (pa_cons (pv 2) pa_nil)) (C8.pe_gc (by rfl) T.c_MOST_IN_LIST) (nomark _))))) (pss_one (ps_ret pe_bl)) pss_nil)
      (pss_one (ps_ret (pe_callB (r := rAll K) (cr_all rfl) (by rfl) T.f_all (by decide +kernel) (pa_cons (pe_lc (own := [("one", 3)]) (g := gName 3) (tt := tYes) rfl sc_ListKind_has.nd (pi_list (pv 2)) (blkOk_by (own := [("one", 3)]) (N := ["self", "house", "value", "one"]) (sc := defScope s_ListKind_has) (by decide +kernel)) (fun _ _ _ _ _ => pg_name (i := 3) sc_ListKind_has.nd rfl (.inl rfl)) (fun _ _ _ _ _ => pts_nil) (fun _ _ _ _ _ => (pe_me c_has hr (by first | decide | omega) (pe_plain T.pl_ThingKind (by rfl) T.g_ThingKind) (pa_cons (pv 1) (pa_cons (pv 3) pa_nil))))) pa_nil))))), ?_⟩)
  · obtain ⟨b, dx, a, v, av, z, pl, rfl, _⟩ := h; rfl
  · obtain ⟨b, dx, a, v, av, z, pl, rfl, hb, h, hv, q⟩ := h
    cases av with
    | one x =>
      obtain ⟨rfl, ok⟩ := hv
      have nl : isLst v = false := by
        cases v with
        | ref a => exact ok.elim
        | _ => rfl
      refine q_when (b := true) (et_is (et_or (b := false) (et_not (et_B (ev_isi (ev_var rfl) (rc_isLst ok.sim)))) fun h => by
        rw [nl] at h
        cases h) (by rw [nl]; rfl)) (fun _ H3 e3 => ?_) (fun h => by cases h)
      exact s_ret ev_c fun H4 e4 => q H4 (e3.trans e4)
    | lst xs =>
      obtain ⟨l, rfl, ha, ok⟩ := hv
      refine q_when (b := decide ((8 : Int) < (xs.length : Int))) (et_is (et_or (et_not (et_B (ev_isi (ev_var rfl) (rc_isLst ⟨xs, ha⟩)))) fun _ => (et_test (ev_op (ev_lenL (ev_var rfl) (sq_of ha)) ev_c rv_I0))) (by rfl)) (fun h3 H3 e3 => ?_) (fun h3 H3 e3 => ?_)
      · have h4 : (8 : Int) < (xs.length : Int) := of_decide_eq_true h3
        have e : isVal pl .list (.lst xs) = false := by
          show (decide (xs.length ≤ 8) && _) = false
          rw [decide_eq_false (by omega)]; rfl
        rw [e] at q
        exact s_ret ev_c fun H4 e4 => q H4 (e3.trans e4)
      · have h4 : ¬ (8 : Int) < (xs.length : Int) := of_decide_eq_false h3
        have el := el_lcL (K := K) (σ := [some (.ref b), some (.ref a), some (.ref l), none]) (H := H3) (t := tYes) (te := tMeth (He.ga K "ThingKind") "has" (sp_has K .thing) [] E0 (tPlain (He.ga K "ThingKind")) (tCons (tVar 1) (tCons (tVar 3) tNil))) (tl := tVar 2) (j := 3) (vs := [3]) (xs := xs) (fun _ => true) (fun i => .bl (strIn (xs.getD i .non) pl.things)) (ev_var rfl) (sq_of (e3 l _ ha)) (by omega) (fun _ => rfl) (fun i x H4 e4 hi => fun H1 e Q q => q H1 (Ex.refl H1)) (fun i x H4 e4 hi _ => by
          have hx : xs.getD i .non = x := by rw [List.getD_eq_getElem?_getD, hi]; rfl
          rw [hx]
          have okx := ok x (List.mem_of_getElem? hi)
          exact evp_is (evp_methP ev_plain fun v H5 e5 hv => by
            obtain ⟨o, ox, rfl, ho⟩ := hv
            exact ⟨o, ox, [], rfl, ho, rfl, ea_cons (ev_var rfl) (ea_cons (ev_var rfl) ea_nil), spp_v (spv_has (k := .thing) ho (h.mono (ExI.of (e3.trans (e4.trans e5)))) (av := .one x) ⟨rfl, okx⟩) fun _ _ => rfl⟩))
        rw [given_all (f := fun x => .bl (strIn x pl.things))] at el
        have em : (xs.map fun x => V.bl (strIn x pl.things)) = (xs.map fun x => strIn x pl.things).map V.bl := by rw [List.map_map]; rfl
        rw [em] at el
        refine s_ret (ev_allN el) fun H4 e4 => ?_
        have e : isVal pl .list (.lst xs) = (xs.map fun x => strIn x pl.things).all id := by
          show (decide (xs.length ≤ 8) && _) = _
          rw [decide_eq_true (by omega), List.all_map]; rfl
        rw [e] at q
        exact q H4 (e3.trans e4)
/-! ### kind_named, is_value -/
def KindV (K : PySem.W.Frag) (k : Kd) (v : V) (H : Hp) : Prop := ∃ a dx, v = .ref a ∧ H a = some (.ins (He.ga K k.cls) dx [])
def sp_kind_named (K : PySem.W.Frag) : Sp := fun vs H Q _ => ∃ k : Kd, vs = [.str k.s] ∧ ∀ v H2, Ex H H2 → KindV K k v H2 → Q v H2
theorem spp_kind_named {k : Kd} {H : Hp} : SpP (sp_kind_named K) [.str k.s] H (KindV K k) := fun H1 e Q q E => ⟨k, rfl, q⟩
theorem sc_kind_named : FnScope ["kind"] ["kind"] (defScope s_kind_named) := ⟨rfl, rfl, rfl, by decide +kernel, rfl, by decide +kernel, by decide +kernel⟩
theorem ca_kind_named (T : Ctx K mg) : Ca P w K mg base CX0 1 "kind_named" (sp_kind_named K) := by
  obtain ⟨fd, F⟩ := T.fd_kind_named
  refine caOf F sc_kind_named T.g_kind_named (F.bindsN fun _ _ _ _ _ _ us hl => match us, hl with | [_], _ => rfl) (fun vs H Q E h => ?_) (fun cdv A outer s H vs Q E hr h => ⟨_, PSs.nox (pss_cons (ps_if (pt_cmpR op_eq (pv 0) pe_str (nomark _)) (pss_one (ps_ret (pe_plain T.pl_CountKind (by rfl) T.g_CountKind))) pss_nil)
      (pss_cons (ps_if (pt_cmpR op_eq (pv 0) pe_str (nomark _)) (pss_one (ps_ret (pe_plain T.pl_NumberKind (by rfl) T.g_NumberKind))) pss_nil)
      (pss_cons (ps_if (pt_cmpR op_eq (pv 0) pe_str (nomark _)) (pss_one (ps_ret (pe_plain T.pl_ThingKind (by rfl) T.g_ThingKind))) pss_nil)
      (pss_cons (ps_if (pt_cmpR op_eq (pv 0) pe_str (nomark _)) (pss_one (ps_ret (pe_plain T.pl_ListKind (by rfl) T.g_ListKind))) pss_nil)
      (pss_cons (ps_if (pt_cmpR op_eq (pv 0) pe_str (nomark _)) (pss_one (ps_ret (pe_plain T.pl_DayKind (by rfl) T.g_DayKind))) pss_nil)
      (pss_one (ps_ret (pe_plain T.pl_RankKind (by rfl) T.g_RankKind)))))))), ?_⟩)
  · obtain ⟨k, rfl, _⟩ := h; rfl
  · obtain ⟨k, rfl, q⟩ := h
    refine q_when (et_test (ev_op (ev_var rfl) ev_c (rv_eq rfl))) (fun hb H1 e1 => ?_) (fun hb H1 e1 => ?_)
    · obtain rfl : k = .count := Kd.inj (V.str.inj (of_decide_eq_true hb))
      exact s_retP ev_plain fun v H2 e2 h2 => q _ H2 (e1.trans e2) h2
    refine q_when (et_test (ev_op (ev_var rfl) ev_c (rv_eq rfl))) (fun hb2 H2 e2 => ?_) (fun hb2 H2 e2 => ?_)
    · obtain rfl : k = .number := Kd.inj (V.str.inj (of_decide_eq_true hb2))
      exact s_retP ev_plain fun v H3 e3 h3 => q _ H3 ((e1.trans e2).trans e3) h3
    refine q_when (et_test (ev_op (ev_var rfl) ev_c (rv_eq rfl))) (fun hb3 H3 e3 => ?_) (fun hb3 H3 e3 => ?_)
    · obtain rfl : k = .thing := Kd.inj (V.str.inj (of_decide_eq_true hb3))
      exact s_retP ev_plain fun v H4 e4 h4 => q _ H4 ((e1.trans e2).trans (e3.trans e4)) h4
    refine q_when (et_test (ev_op (ev_var rfl) ev_c (rv_eq rfl))) (fun hb4 H4 e4 => ?_) (fun hb4 H4 e4 => ?_)
    · obtain rfl : k = .list := Kd.inj (V.str.inj (of_decide_eq_true hb4))
      exact s_retP ev_plain fun v H5 e5 h5 => q _ H5 ((e1.trans e2).trans (e3.trans (e4.trans e5))) h5
    refine q_when (et_test (ev_op (ev_var rfl) ev_c (rv_eq rfl))) (fun hb5 H5 e5 => ?_) (fun hb5 H5 e5 => ?_)
    · obtain rfl : k = .day := Kd.inj (V.str.inj (of_decide_eq_true hb5))
      exact s_retP ev_plain fun v H6 e6 h6 => q _ H6 ((e1.trans e2).trans (e3.trans (e4.trans (e5.trans e6)))) h6
    obtain rfl : k = .rank := by
      cases k with
      | count => exact absurd hb (by decide +kernel)
      | number => exact absurd hb2 (by decide +kernel)
      | thing => exact absurd hb3 (by decide +kernel)
      | list => exact absurd hb4 (by decide +kernel)
      | day => exact absurd hb5 (by decide +kernel)
      | rank => rfl
    exact s_retP ev_plain fun v H6 e6 h6 => q _ H6 ((e1.trans e2).trans (e3.trans (e4.trans (e5.trans e6)))) h6
def sp_is_value (K : PySem.W.Frag) : Sp := fun vs H Q _ => ∃ (k : Kd) (a : Addr) (v : V) (av : AV) (z : HouseD) (pl : Plan), vs = [.ref a, .str k.s, v] ∧ HouseW K H a z pl ∧ AVAt H v av ∧ ∀ H2, Ex H H2 → Q (.bl (isVal pl k av)) H2
theorem spv_is_value {k : Kd} {a : Addr} {v : V} {av : AV} {z : HouseD} {pl : Plan} {H : Hp} (h : HouseW K H a z pl) (hv : AVAt H v av) : SpV (sp_is_value K) [.ref a, .str k.s, v] H (.bl (isVal pl k av)) := fun H1 e Q q E => ⟨k, a, v, av, z, pl, rfl, h.mono (ExI.of e), hv.mono e, fun H2 e2 => q H2 e2⟩
theorem sc_is_value : FnScope ["house", "kind", "value"] ["house", "kind", "value"] (defScope s_is_value) := ⟨rfl, rfl, rfl, by decide +kernel, rfl, by decide +kernel, by decide +kernel⟩
theorem ca_is_value (T : Ctx K mg) (c_kind_named : Ca P w K mg base CX0 1 "kind_named" (sp_kind_named K)) (c_has : ∀ k : Kd, Me P w K mg base CX0 4 (He.ga K k.cls) "has" (sp_has K k) []) : Ca P w K mg base CX0 5 "is_value" (sp_is_value K) := by
  obtain ⟨fd, F⟩ := T.fd_is_value
  refine caOf F sc_is_value T.g_is_value (F.bindsN fun _ _ _ _ _ _ us hl => match us, hl with | [_, _, _], _ => rfl) (fun vs H Q E h => ?_) (fun cdv A outer s H vs Q E hr h => ⟨_, PSs.nox (pss_one (ps_ret (pe_meD (fun k => c_has k) hr (by decide) pass0 (pe_ca c_kind_named hr (by first | decide | omega) (by rfl) (pa_cons (pv 1) pa_nil)) (pa_cons (pv 0) (pa_cons (pv 2) pa_nil))))), ?_⟩)
  · obtain ⟨k, a, v, av, z, pl, rfl, _⟩ := h; rfl
  · obtain ⟨k, a, v, av, z, pl, rfl, h, hv, q⟩ := h
    refine s_ret (evp_is (evp_methD (vs := [.ref a, v]) k (evp_call (ea_cons (ev_var rfl) ea_nil) spp_kind_named) fun v1 H1 e1 h1 => ?_)) q
    obtain ⟨o, ox, rfl, ho⟩ := h1
    exact ⟨o, ox, [], rfl, ho, rfl, ea_cons (ev_var rfl) (ea_cons (ev_var rfl) ea_nil), spp_v (spv_has ho (h.mono (ExI.of e1)) (hv.mono e1)) fun _ _ => rfl⟩
end
end K71

set_option maxHeartbeats 4000000
/-! K71W9: the road, the word of a thing. -/
namespace K71
open PySem PySem.Spec PyProof.Rows L2 Evl
/-! ### plain -/
def tabGet (tab : Tab) (q : Str × Str) : Option (Str × Str) := (tab.find? fun e => decide (e.1 = q)).map (·.2)
theorem tabGet_pos {e : (Str × Str) × (Str × Str)} {r : Tab} {q : Str × Str} (h : e.1 = q) : tabGet (e :: r) q = some e.2 := by simp [tabGet, List.find?_cons, h]
theorem tabGet_neg {e : (Str × Str) × (Str × Str)} {r : Tab} {q : Str × Str} (h : ¬ e.1 = q) : tabGet (e :: r) q = tabGet r q := by simp [tabGet, List.find?_cons, h]
theorem keyT_inj {a b : Str × Str} (h : keyT a = keyT b) : a = b := by
  obtain ⟨a1, a2⟩ := a
  obtain ⟨b1, b2⟩ := b
  unfold keyT at h
  injection h with h1 h2
  injection h2 with h2 _
  have e1 : a1 = b1 := Sum.inr.inj h1
  have e2 : a2 = b2 := Sum.inr.inj h2
  rw [e1, e2]
theorem TabKv.get {H : Hp} : ∀ {tab : Tab} {kvs : List (List Key × V)}, TabKv H tab kvs → ∀ q : Str × Str, (tabGet tab q = none ∧ valV kvs (keyT q) = none) ∨ ∃ x t, tabGet tab q = some x ∧ valV kvs (keyT q) = some (.ref t) ∧ H t = some (.tup [.str x.1, .str x.2])
  | _, _, .nil, q => .inl ⟨rfl, rfl⟩
  | e :: tab, kv :: kvs, .cons ⟨h1, t, h2, h3⟩ r, q => by
    by_cases h : e.1 = q
    · exact .inr ⟨e.2, t, tabGet_pos h, by rw [valV_pos (by rw [h1, h]), h2], h3⟩
    · have hk : ¬ kv.1 = keyT q := fun z => h (keyT_inj (h1.symm.trans z))
      rw [tabGet_neg h, valV_neg hk]
      exact TabKv.get r q
/-- tongues apart; each falls to none or to the other one -/
structure TsOk (ts : List Tg) : Prop where
  nd : (ts.map Tg.name).Nodup
  le : ts.length ≤ 2
  falls : ∀ t ∈ ts, t.falls = [] ∨ ∃ u ∈ ts, u.name ≠ t.name ∧ t.falls = [u.name]
theorem TsOk.eq {ts : List Tg} (h : TsOk ts) {t u : Tg} (ht : t ∈ ts) (hu : u ∈ ts) (e : t.name = u.name) : t = u := by
  obtain ⟨i, hi⟩ := List.getElem?_of_mem ht
  obtain ⟨j, hj⟩ := List.getElem?_of_mem hu
  have hl := (List.getElem?_eq_some_iff.mp hi).1
  have h1 : (ts.map Tg.name)[i]? = some t.name := by rw [List.getElem?_map, hi]; rfl
  have h2 : (ts.map Tg.name)[j]? = some t.name := by rw [List.getElem?_map, hj, e]; rfl
  have := (List.getElem?_inj (by rw [List.length_map]; exact hl) h.nd).mp (h1.trans h2.symm)
  subst this
  rw [hi] at hj
  exact Option.some.inj hj
theorem TsOk.two {ts : List Tg} (h : TsOk ts) {t u v : Tg} (ht : t ∈ ts) (hu : u ∈ ts) (hv : v ∈ ts) (h1 : u.name ≠ t.name) (h2 : v.name ≠ u.name) : v.name = t.name := by
  have l := h.le
  rcases ts with _ | ⟨a, _ | ⟨b, _ | ⟨c, r⟩⟩⟩
  · cases ht
  · have e1 : t = a := by simpa using ht
    have e2 : u = a := by simpa using hu
    rw [e1, e2] at h1
    exact absurd rfl h1
  · simp only [List.mem_cons, List.not_mem_nil, or_false] at ht hu hv
    rcases ht with rfl | rfl <;> rcases hu with rfl | rfl <;> rcases hv with rfl | rfl <;> first | rfl | exact absurd rfl h1 | exact absurd rfl h2
  · simp only [List.length_cons] at l
    omega
/-- the first of them that has a text -/
def firstIn (tab : Tab) (x : Str) : List Str → Option (Str × (Str × Str))
  | [] => none
  | o :: r => match tabGet tab (o, x) with
    | some y => some (o, y)
    | none => firstIn tab x r
theorem firstIn_some {tab : Tab} {x o : Str} {r : List Str} {y : Str × Str} (h : tabGet tab (o, x) = some y) : firstIn tab x (o :: r) = some (o, y) := by simp [firstIn, h]
theorem firstIn_none {tab : Tab} {x o : Str} {r : List Str} (h : tabGet tab (o, x) = none) : firstIn tab x (o :: r) = firstIn tab x r := by simp [firstIn, h]
theorem firstIn_get {tab : Tab} {x : Str} : ∀ {l : List Str} {o : Str} {y : Str × Str}, firstIn tab x l = some (o, y) → tabGet tab (o, x) = some y
  | [], _, _, h => by cases h
  | a :: l, o, y, h => by
    cases e : tabGet tab (a, x) with
    | some z =>
      rw [firstIn_some e] at h
      cases h
      exact e
    | none =>
      rw [firstIn_none e] at h
      exact firstIn_get h
/-- nothing ahead of i -/
theorem firstIn_drop {tab : Tab} {x : Str} : ∀ {l : List Str} {i : Nat}, (∀ j o, j < i → l[j]? = some o → tabGet tab (o, x) = none) → firstIn tab x l = firstIn tab x (l.drop i)
  | l, 0, _ => rfl
  | [], i + 1, _ => rfl
  | a :: l, i + 1, h => by
    rw [firstIn_none (h 0 a (Nat.succ_pos _) rfl), List.drop_succ_cons]
    exact firstIn_drop fun j o hj e => h (j + 1) o (Nat.succ_lt_succ hj) e
section
variable {P : Program} {w : World} {K : PySem.W.Frag} {mg : Str → Option Value} {base : Heap} {σ : L2.St} {H : Hp} {te : TE}
theorem TgKv.get {H : Hp} : ∀ {ts : List Tg} {kvs : List (Key × V)}, TgKv K H ts kvs → (ts.map Tg.name).Nodup → ∀ {t : Tg}, t ∈ ts → ∃ b, valV kvs (.inr t.name) = some (.ref b) ∧ TgAt K H b t
  | _, _, .nil, _, _, h => by cases h
  | a :: ts, kv :: kvs, .cons ⟨h1, b, h2, h3⟩ r, nd, t, h => by
    rw [List.map_cons, List.nodup_cons] at nd
    rcases List.mem_cons.mp h with rfl | h
    · exact ⟨b, by rw [valV_pos h1, h2], h3⟩
    · have hk : ¬ kv.1 = Sum.inr t.name := fun z => nd.1 (by
        have := Sum.inr.inj (h1.symm.trans z)
        rw [this]
        exact List.mem_map_of_mem h)
      rw [valV_neg hk]
      exact TgKv.get r nd.2 h
theorem TgKv.keys {H : Hp} : ∀ {ts : List Tg} {kvs : List (Key × V)}, TgKv K H ts kvs → kvs.map (·.1) = (ts.map Tg.name).map Sum.inr
  | _, _, .nil => rfl
  | a :: ts, kv :: kvs, .cons ⟨h1, _⟩ r => by rw [List.map_cons, List.map_cons, List.map_cons, h1, TgKv.keys r]
theorem strs_inj : ∀ {a b : List Str}, a.map V.str = b.map V.str → a = b
  | [], [], _ => rfl
  | [], _ :: _, h => by cases h
  | _ :: _, [], h => by cases h
  | x :: a, y :: b, h => by
    rw [List.map_cons, List.map_cons] at h
    injection h with h1 h2
    rw [V.str.inj h1, strs_inj h2]
/-- a list that stands elsewhere -/
theorem ex_rdm {H H' : Hp} {a l : Addr} {xs : List V} {o o' : HO} (e : Ex H H') (hl : H l = some o) (h : Rd H a (.lst xs)) (hne : a ≠ l) : Rd (upd H' l o') a (.lst xs) := by
  rcases h with h | ⟨u, h⟩
  · exact .inl (by rw [upd_ne hne]; exact e a _ h)
  · exact .inr ⟨u, by rw [upd_ne hne]; exact e a _ h⟩
/-! ### tongue_named, tongues, own_word -/
def TgV (K : PySem.W.Frag) (t : Tg) (v : V) (H : Hp) : Prop := ∃ b, v = .ref b ∧ TgAt K H b t
def sp_tn (K : PySem.W.Frag) : Sp := fun vs H Q _ => ∃ a pl ts tab t, vs = [.ref a, .str t.name] ∧ HouseAt K H a pl ts tab ∧ TsOk ts ∧ t ∈ ts ∧ ∀ v H2, Ex H H2 → TgV K t v H2 → Q v H2
theorem spp_tn {a : Addr} {pl : Plan} {ts : List Tg} {tab : Tab} {t : Tg} {H : Hp} (h : HouseAt K H a pl ts tab) (o : TsOk ts) (m : t ∈ ts) : SpP (sp_tn K) [.ref a, .str t.name] H (TgV K t) := fun H1 e Q q E => ⟨a, pl, ts, tab, t, rfl, h.mono e, o, m, q⟩
theorem sc_House_tongue_named : FnScope ["self", "name"] ["self", "name"] (defScope s_House_tongue_named) := ⟨rfl, rfl, rfl, by decide +kernel, rfl, by decide +kernel, by decide +kernel⟩
theorem me_tongue_named (T : Ctx K mg) : Me P w K mg base CX0 1 (He.ga K "House") "tongue_named" (sp_tn K) [] := by
  obtain ⟨fd, F⟩ := T.fd_House_tongue_named
  refine meOf F sc_House_tongue_named T.cl_House T.me_House_tongue_named (F.bindsN fun _ _ _ _ _ _ us hl => match us, hl with | [_, _], _ => rfl) (fun vs H Q E h => ?_) (fun cdv A outer s H vs Q E hr h => ⟨_, PSs.nox (pss_cons (ps_if (pt_cmp (pc_dnotin (hu_of hr) (pv 1) (pe_fld (pv 0) rfl))) (pss_one ps_never) pss_nil)
      (pss_one (ps_ret (pe_dget (hu_of hr) (pe_fld (pv 0) rfl) (pv 1) (fun _ _ => rfl))))), ?_⟩)
  · obtain ⟨a, pl, ts, tab, t, rfl, _⟩ := h; rfl
  · obtain ⟨a, pl, ts, tab, t, rfl, h, o, m, q⟩ := h
    obtain ⟨z, hw, ⟨kvs, hd, hk⟩, ht⟩ := h.ex
    obtain ⟨b, hv, hb⟩ := hk.get o.nd m
    have g : DGet H z.ab (.str t.name) (some (.ref b)) := dg_k (k := .inr t.name) hd hv
    refine q_when (et_B (ev_dnotin (ev_var rfl) (ev_fld (ev_var rfl) hw.at_ T.cl_House T.na_House_by_name hF_name) g)) (fun hb H1 e1 => ?_) (fun _ H1 e1 => ?_)
    · cases hb
    · exact s_ret (ev_dget (ev_fld (ev_var rfl) (hw.mono (ExI.of e1)).at_ T.cl_House T.na_House_by_name hF_name) (ev_var rfl) (dget_ex e1 g)) fun H2 e2 => q _ H2 (e1.trans e2) ⟨b, rfl, hb.mono (ExI.of (e1.trans e2))⟩
def SortL (ws : List Str) (v : V) (H : Hp) : Prop := ∃ (p : Addr) (ys : List Str), v = .ref p ∧ H p = some (.lst (ys.map V.str)) ∧ ys.Perm ws
def sp_tongues (K : PySem.W.Frag) : Sp := fun vs H Q _ => ∃ a pl ts tab, vs = [.ref a] ∧ HouseAt K H a pl ts tab ∧ TsOk ts ∧ ∀ v H2, Ex H H2 → SortL (ts.map Tg.name) v H2 → Q v H2
theorem spp_tongues {a : Addr} {pl : Plan} {ts : List Tg} {tab : Tab} {H : Hp} (h : HouseAt K H a pl ts tab) (o : TsOk ts) : SpP (sp_tongues K) [.ref a] H (SortL (ts.map Tg.name)) := fun H1 e Q q E => ⟨a, pl, ts, tab, rfl, h.mono e, o, q⟩
theorem sc_House_tongues : FnScope ["self"] ["self"] (defScope s_House_tongues) := ⟨rfl, rfl, rfl, by decide +kernel, rfl, by decide +kernel, by decide +kernel⟩
theorem me_tongues (T : Ctx K mg) : Me P w K mg base CX0 1 (He.ga K "House") "tongues" (sp_tongues K) [] := by
  obtain ⟨fd, F⟩ := T.fd_House_tongues
  refine meOf F sc_House_tongues T.cl_House T.me_House_tongues (F.bindsN fun _ _ _ _ _ _ us hl => match us, hl with | [_], _ => rfl) (fun vs H Q E h => ?_) (fun cdv A outer s H vs Q E hr h => ⟨_, PSs.nox (pss_one (ps_ret (pe_callB (call_sortedD rfl) (by rfl) T.f_sorted (by decide +kernel) (pa_cons (pe_fld (pv 0) rfl) pa_nil)))), ?_⟩)
  · obtain ⟨a, pl, ts, tab, rfl, _⟩ := h; rfl
  · obtain ⟨a, pl, ts, tab, rfl, h, o, q⟩ := h
    obtain ⟨z, hw, ⟨kvs, hd, hk⟩, ht⟩ := h.ex
    have l := o.le
    exact (ev_fld (ev_var rfl) hw.at_ T.cl_House T.na_House_by_name hF_name) H (Ex.refl H) _ fun H1 e1 => ⟨z.ab, kvs, ts.map Tg.name, rfl, ex_rd e1 hd, hk.keys, by rw [List.length_map]; omega, fun ys p hp _ hn => q _ _ (e1.trans (Ex.new hn)) ⟨p, ys, rfl, upd_same, hp⟩⟩
/-- what is told of a thing's text -/
def OwnV (o : Option (Str × Str)) (v : V) (H : Hp) : Prop := match o with
  | none => v = .non
  | some x => ∃ t, v = .ref t ∧ H t = some (.tup [.str x.1, .str x.2])
theorem OwnV.mono {o : Option (Str × Str)} {v : V} {H H' : Hp} (e : Ex H H') (h : OwnV o v H) : OwnV o v H' := by
  cases o with
  | none => exact h
  | some x =>
    obtain ⟨t, h1, h2⟩ := h
    exact ⟨t, h1, e t _ h2⟩
def sp_own (K : PySem.W.Frag) : Sp := fun vs H Q _ => ∃ a pl ts tab n x, vs = [.ref a, .str n, .str x] ∧ HouseAt K H a pl ts tab ∧ ∀ v H2, Ex H H2 → OwnV (tabGet tab (n, x)) v H2 → Q v H2
theorem spp_own {a : Addr} {pl : Plan} {ts : List Tg} {tab : Tab} {n x : Str} {H : Hp} (h : HouseAt K H a pl ts tab) : SpP (sp_own K) [.ref a, .str n, .str x] H (OwnV (tabGet tab (n, x))) := fun H1 e Q q E => ⟨a, pl, ts, tab, n, x, rfl, h.mono e, q⟩
theorem sc_House_own_word : FnScope ["self", "tongue", "thing"] ["self", "tongue", "thing"] (defScope s_House_own_word) := ⟨rfl, rfl, rfl, by decide +kernel, rfl, by decide +kernel, by decide +kernel⟩
theorem me_own_word (T : Ctx K mg) : Me P w K mg base CX0 1 (He.ga K "House") "own_word" (sp_own K) [] := by
  obtain ⟨fd, F⟩ := T.fd_House_own_word
  refine meOf F sc_House_own_word T.cl_House T.me_House_own_word (F.bindsN fun _ _ _ _ _ _ us hl => match us, hl with | [_, _, _], _ => rfl) (fun vs H Q E h => ?_) (fun cdv A outer s H vs Q E hr h => ⟨_, PSs.nox (pss_one (ps_ret (pe_dget1 (hu_of hr) (pe_fld (pv 0) rfl) (pe_tup (pa_cons (pv 1) (pa_cons (pv 2) pa_nil))) ⟨rfl, rfl, rfl, rfl⟩))), ?_⟩)
  · obtain ⟨a, pl, ts, tab, n, x, rfl, _⟩ := h; rfl
  · obtain ⟨a, pl, ts, tab, n, x, rfl, h, q⟩ := h
    obtain ⟨z, hw, _, kvs, hd, hk⟩ := h.ex
    refine s_ret (ev_dget1U (k := keyT (n, x)) (ev_fld (ev_var rfl) hw.at_ T.cl_House T.na_House_thing_texts hF_text) (eu_tup (ea_cons (ev_var rfl) (ea_cons (ev_var rfl) ea_nil)) (Nat.le_of_ble_eq_true rfl)) hd) fun H1 e1 => q _ H1 e1 ?_
    rcases hk.get (n, x) with ⟨h1, h2⟩ | ⟨y, t, h1, h2, h3⟩
    · rw [h1, h2]; rfl
    · rw [h1, h2]; exact ⟨t, rfl, e1 t _ h3⟩
/-! ### road -/
def sp_road (K : PySem.W.Frag) : Sp := fun vs H Q _ => ∃ a pl ts tab t, vs = [.ref a, .str t.name] ∧ HouseAt K H a pl ts tab ∧ TsOk ts ∧ t ∈ ts ∧ ∀ p H2, H p = none → Ex H H2 → H2 p = some (.lst ((t.name :: t.falls).map V.str)) → Q (.ref p) H2
theorem spl_road {a : Addr} {pl : Plan} {ts : List Tg} {tab : Tab} {t : Tg} {H : Hp} (h : HouseAt K H a pl ts tab) (o : TsOk ts) (m : t ∈ ts) : SpL (sp_road K) [.ref a, .str t.name] H ((t.name :: t.falls).map V.str) := fun H1 e Q q E => ⟨a, pl, ts, tab, t, rfl, h.mono e, o, m, q⟩
/-- what is found behind `here` tongues were asked -/
def roadAt (t : Tg) : Nat → List Str
  | 0 => [t.name]
  | _ + 1 => t.name :: t.falls
theorem sc_road : FnScope ["house", "tongue", "there", "found", "here", "name"] ["house", "tongue"] (defScope s_road) := ⟨rfl, rfl, rfl, by decide +kernel, rfl, by decide +kernel, by decide +kernel⟩
theorem ca_road (T : Ctx K mg) (c_tongue_named : Me P w K mg base CX0 1 (He.ga K "House") "tongue_named" (sp_tn K) []) (c_tongues : Me P w K mg base CX0 1 (He.ga K "House") "tongues" (sp_tongues K) []) : Ca P w K mg base CX0 2 "road" (sp_road K) := by
  obtain ⟨fd, F⟩ := T.fd_road
  refine caOf F sc_road T.g_road (F.bindsN fun _ _ _ _ _ _ us hl => match us, hl with | [_, _], _ => rfl) (fun vs H Q E h => ?_) (fun cdv A outer s H vs Q E hr h => ⟨_, PSs.nox (pss_cons (ps_expr (pe_me c_tongue_named hr (by first | decide | omega) (pv 0) (pa_cons (pv 1) pa_nil)))
      (pss_cons (ps_set (i := 2) sc_road.nd rfl (.inl rfl) (pe_me0 c_tongues hr (by first | decide | omega) (pv 0)))
      (pss_cons (ps_set (i := 3) sc_road.nd rfl (.inl rfl) (pe_lst (pa_cons (pv 1) pa_nil)))
      (pss_cons (ps_set (i := 4) sc_road.nd rfl (.inl rfl) pe_int)
      (pss_cons (ps_while PassesOwn.never (pt_cmpR op_lt (pv 4) (pe_callB (r := rLen K) call_len (by rfl) T.f_len (by decide +kernel) (pa_cons (pv 3) pa_nil)) (nomark _)) (pss_cons (ps_for PassesOwn.never rfl (pi_list (pe_fld (pe_me c_tongue_named hr (by first | decide | omega) (pv 0) (pa_cons (pe_ix (r := rIxL K) ix_list (pv 3) (pv 4) (fun _ _ => rfl)) pa_nil)) rfl)) (pg_name (i := 5) sc_road.nd rfl (.inl rfl)) (pss_one (ps_if (PW.pt (pw_and (pt_cmpR (r := rIn K false) op_in_seq (pv 5) (pv 2) (by rfl)) (pw_and1 (pt_cmpR (r := rIn K true) op_notIn_seq (pv 5) (pv 3) (by rfl))))) (pss_one (ps_expr (pe_bm PySem.F.plainAttrs_list PySem.F.slot_list_append PySem.F.type_list_append mt_append (pv 3) (pa_cons (pv 5) pa_nil)))) pss_nil)))
      (pss_one (ps_aug (i := 4) sc_road.nd rfl (.inl rfl) pe_int ip_add))))
      (pss_one (ps_ret (pv 3)))))))), ?_⟩)
  · obtain ⟨a, pl, ts, tab, t, rfl, _⟩ := h; rfl
  · obtain ⟨a, pl, ts, tab, t, rfl, h, o, m, q⟩ := h
    obtain ⟨z, hw, _⟩ := h.ex
    have hno : ∀ {ak ar ah ab ax ad ap : Addr}, (hF ak ar ah ab ax ad ap).lookup ("tongue_named" : Str) = none := hF_no (by decide +kernel)
    have hno2 : ∀ {ak ar ah ab ax ad ap : Addr}, (hF ak ar ah ab ax ad ap).lookup ("tongues" : Str) = none := hF_no (by decide +kernel)
    refine q_dropP (evp_meth (ev_var rfl) hw.at_ hno (ea_cons (ev_var rfl) ea_nil) (spp_tn h o m)) fun _ H1 e1 _ => ?_
    refine q_asgP (evp_meth (ev_var rfl) (hw.mono (ExI.of e1)).at_ hno2 ea_nil (spp_tongues (h.mono e1) o)) fun v H2 e2 hv => ?_
    obtain ⟨p2, ys, rfl, hp2, hys⟩ := hv
    refine q_asgL (el_lst (ea_cons (ev_var rfl) ea_nil) (Nat.le_of_ble_eq_true rfl)) fun l H3 hl e3 h3 => ?_
    have hl0 : H2 l = none := hl
    refine q_asg ev_c fun H4 e4 => ?_
    have E2 := e1.trans e2
    -- the loop: m counts down from 3
    refine q_while (fun mm σ' H' => ∃ (i : Nat) (v5 : Option V), i + mm = 3 ∧ i ≤ 1 + t.falls.length ∧ σ' = [some (.ref a), some (.str t.name), some (.ref p2), some (.ref l), some (.int (i : Int)), v5] ∧ Ex H2 H' ∧ H' l = some (.lst ((roadAt t i).map V.str))) 3 ⟨0, none, rfl, by omega, rfl, e3.trans e4, e4 l _ h3⟩ ?_
    rintro mm σ' H' ⟨i, v5, him, hile, rfl, e, hL⟩
    have E := E2.trans e
    refine ⟨_, et_test (ev_op (ev_var rfl) (ev_lenL (ev_var rfl) (sq_of hL)) rv_I0), fun hb H5 e5 => ?_, fun hb H5 e5 => ?_⟩
    · have hlt : i < (roadAt t i).length := by
        have := of_decide_eq_true hb
        rw [List.length_map] at this
        omega
      -- the tongue that is asked now
      have hcur : ∃ u ∈ ts, (roadAt t i)[i]? = some u.name ∧ (u.falls = [] ∧ roadAt t (i + 1) = roadAt t i ∨ ∃ y ∈ ts, u.falls = [y.name] ∧ (y.name ∉ roadAt t i ∧ roadAt t (i + 1) = roadAt t i ++ [y.name] ∨ y.name ∈ roadAt t i ∧ roadAt t (i + 1) = roadAt t i)) := by
        cases i with
        | zero =>
          refine ⟨t, m, rfl, ?_⟩
          rcases o.falls t m with hf | ⟨u, hu, hne, hf⟩
          · left; exact ⟨hf, by show t.name :: t.falls = [t.name]; rw [hf]⟩
          · right
            refine ⟨u, hu, hf, .inl ⟨?_, by show t.name :: t.falls = [t.name] ++ [u.name]; rw [hf]; rfl⟩⟩
            show u.name ∉ [t.name]
            simpa using hne
        | succ i =>
          rcases o.falls t m with hf | ⟨u, hu, hne, hf⟩
          · have : (roadAt t (i + 1)).length = 1 := by show (t.name :: t.falls).length = 1; rw [hf]; rfl
            omega
          · have hr2 : roadAt t (i + 1) = [t.name, u.name] := by show t.name :: t.falls = _; rw [hf]
            have hi0 : i = 0 := by
              rw [hr2] at hlt
              simp only [List.length_cons, List.length_nil] at hlt
              omega
            subst hi0
            refine ⟨u, hu, by rw [hr2]; rfl, ?_⟩
            rcases o.falls u hu with hg | ⟨y, hy, hyne, hg⟩
            · left; exact ⟨hg, rfl⟩
            · right
              refine ⟨y, hy, hg, .inr ⟨?_, rfl⟩⟩
              rw [hr2, o.two m hu hy hne hyne]
              simp
      obtain ⟨u, hu, hui, hcase⟩ := hcur
      have hat : atI ((roadAt t i).map V.str) (i : Int) = some (.str u.name) := atI_nat (by rw [List.getElem?_map, hui]; rfl)
      have E5 := E.trans e5
      refine ⟨fun σ2 H2' => ∃ v5, σ2 = [some (.ref a), some (.str t.name), some (.ref p2), some (.ref l), some (.int ((i + 1 : Nat) : Int)), v5] ∧ Ex H2 H2' ∧ H2' l = some (.lst ((roadAt t (i + 1)).map V.str)), ?_, ?_⟩
      · rintro σ2 H2' ⟨v5, rfl, ee, hl2⟩
        refine ⟨mm - 1, ?_, i + 1, v5, ?_, ?_, rfl, ee, hl2⟩
        · cases i with
          | zero => omega
          | succ i =>
            have : (roadAt t (i + 1)).length = 1 + t.falls.length := by show (t.name :: t.falls).length = _; rw [List.length_cons, Nat.add_comm]
            rcases o.falls t m with hf | ⟨u, _, _, hf⟩ <;> rw [hf] at this hile <;> simp only [List.length_cons, List.length_nil] at this hile <;> omega
        · cases i with
          | zero => omega
          | succ i =>
            have : (roadAt t (i + 1)).length = 1 + t.falls.length := by show (t.name :: t.falls).length = _; rw [List.length_cons, Nat.add_comm]
            rcases o.falls t m with hf | ⟨u, _, _, hf⟩ <;> rw [hf] at this hile <;> simp only [List.length_cons, List.length_nil] at this hile <;> omega
        · cases i with
          | zero => omega
          | succ i =>
            have : (roadAt t (i + 1)).length = 1 + t.falls.length := by show (t.name :: t.falls).length = _; rw [List.length_cons, Nat.add_comm]
            omega
      · -- for name in the tongue's falls
        have hfl : ∀ H6, Ex H5 H6 → EvP (tFld K (tMeth (He.ga K "House") "tongue_named" (sp_tn K) [] E0 (tVar 0) (tCons (tOp (rIxL K) (tVar 3) (tVar 4)) tNil)) "falls") [some (.ref a), some (.str t.name), some (.ref p2), some (.ref l), some (.int (i : Int)), v5] H6 fun v H7 => ∃ al, v = .ref al ∧ SqL K H7 al (u.falls.map V.str) := by
          intro H6 e6 H7 e7 Q q
          have E7 := E5.trans (e6.trans e7)
          refine evp_meth (ev_var rfl) (hw.mono (ExI.of (E.trans (e5.trans e6)))).at_ hno (ea_cons (ev_op (ev_var rfl) (ev_var rfl) (rv_ixL (sq_of ((e5.trans e6) l _ hL)) hat)) ea_nil) (spp_tn (h.mono (E.trans (e5.trans e6))) o hu) H7 e7 _ fun v H8 e8 hv => ?_
          obtain ⟨b, rfl, dx, al, rv, aj, af, ac, ad, h1, h2, _⟩ := hv
          exact ⟨b, _, dx, _, .ref al, rfl, h1, T.cl_Tongue, T.na_Tongue_falls, tgF_falls, q _ H8 e8 ⟨al, rfl, sq_of h2⟩⟩
        refine hfl H5 (Ex.refl H5) H5 (Ex.refl H5) _ fun v H6 e6 hv => ?_
        obtain ⟨al, rfl, hal⟩ := hv
        have E6 := e.trans (e5.trans e6)
        have hL6 := (e5.trans e6) l _ hL
        refine ⟨al, rfl, ⟨_, hal⟩, for_list (xs := u.falls.map V.str) (fun j σ'' H'' => ∃ v5, σ'' = [some (.ref a), some (.str t.name), some (.ref p2), some (.ref l), some (.int (i : Int)), v5] ∧ Ex H2 H'' ∧ H'' l = some (.lst ((if j = 0 then roadAt t i else roadAt t (i + 1)).map V.str)) ∧ SqL K H'' al (u.falls.map V.str)) ⟨v5, rfl, E6, hL6, hal⟩ (fun j σ'' H'' _ ⟨_, _, _, _, hs⟩ => hs) ?_ ?_⟩
        · rintro j x σ'' H'' hj ⟨v6, rfl, e7, hL7, hs7⟩
          rcases hcase with ⟨hf, _⟩ | ⟨y, hy, hf, hyy⟩
          · rw [hf] at hj; simp at hj
          · have hj0 : j = 0 ∧ x = .str y.name := by
              rw [hf] at hj
              cases j with
              | zero => exact ⟨rfl, (Option.some.inj hj).symm⟩
              | succ j => simp at hj
            obtain ⟨rfl, rfl⟩ := hj0
            rw [if_pos rfl] at hL7
            have hthere : y.name ∈ ys := hys.mem_iff.mpr (List.mem_map_of_mem hy)
            refine s_when (et_and (et_test (ev_op (ev_var rfl) (ev_var rfl) (rv_isL (sq_of (e7 p2 _ hp2)) rfl (flat_strs ys)))) fun _ => (et_test (ev_op (ev_var rfl) (ev_var rfl) (rv_niL (sq_of hL7) rfl (flat_strs _))))) (fun hb2 H8 e8 => ?_) (fun hb2 H8 e8 => ?_)
            · rw [inV_str, inV_str, decide_eq_true hthere, Bool.true_and] at hb2
              rcases hyy with ⟨hn, hr2⟩ | ⟨hn, hr2⟩
              · refine s_app (e8 l _ hL7) (ev_var rfl) (ev_var rfl) (by rw [List.length_map]; cases i with
                  | zero => exact Nat.le_of_ble_eq_true rfl
                  | succ i =>
                    show (t.name :: t.falls).length < 100000
                    rcases o.falls t m with hf | ⟨u, _, _, hf⟩ <;> rw [hf] <;> exact Nat.le_of_ble_eq_true rfl) fun H9 e9 => ?_
                refine ⟨_, rfl, ((e7.trans e8).trans e9).mut hl0, ?_, ?_⟩
                · rw [upd_same, if_neg (by omega), hr2, List.map_append]; rfl
                · exact hs7.elim (fun z => .inl (ex_rdm (e8.trans e9) hL7 z (fun zz => by
                    subst zz
                    rcases z with z | ⟨_, z⟩
                    · rw [hL7] at z
                      have := HO.lst.inj (Option.some.inj z)
                      have l2 := strs_inj this
                      rw [hf] at l2
                      exact hn (by rw [l2]; simp)
                    · rw [hL7] at z; cases z))) .inr
              · rw [decide_eq_true hn] at hb2
                cases hb2
            · rw [inV_str, inV_str, decide_eq_true hthere, Bool.true_and] at hb2
              rcases hyy with ⟨hn, hr2⟩ | ⟨hn, hr2⟩
              · rw [decide_eq_false hn] at hb2
                cases hb2
              · refine ⟨_, rfl, e7.trans e8, ?_, ex_l e8 hs7⟩
                rw [if_neg (by omega), hr2]
                exact e8 l _ hL7
        · rintro σ'' H'' ⟨v6, rfl, e7, hL7, hs7⟩
          refine s_aug rfl ev_c fun H8 e8 => ⟨v6, rfl, e7.trans e8, ?_⟩
          rcases hcase with ⟨hf, hr2⟩ | ⟨y, hy, hf, hyy⟩
          · rw [hr2]
            rw [hf, if_pos (by rfl)] at hL7
            exact e8 l _ hL7
          · rw [hf, if_neg (by simp)] at hL7
            exact e8 l _ hL7
    · have hge : ¬ (i : Int) < ((roadAt t i).length : Int) := by
        have := of_decide_eq_false hb
        rwa [List.length_map] at this
      have hr : roadAt t i = t.name :: t.falls := by
        cases i with
        | zero => exact absurd (by show (0 : Int) < 1; decide) hge
        | succ i => rfl
      rw [hr] at hL
      exact s_ret (ev_var rfl) fun H6 e6 => q l H6 (fresh_back E2 hl0) ((E.trans e5).trans e6) ((e5.trans e6) l _ hL)
end
end K71

set_option maxHeartbeats 4000000
/-! K71W10: word_of, named, _law_first. -/
namespace K71
open PySem PySem.Spec PyProof.Rows L2 Evl
section
variable {P : Program} {w : World} {K : PySem.W.Frag} {mg : Str → Option Value} {base : Heap} {σ : L2.St} {H : Hp} {te : TE}
def WordV (o : Option (Str × (Str × Str))) (v : V) (H : Hp) : Prop := match o with
  | none => v = .non
  | some x => ∃ t, v = .ref t ∧ H t = some (.tup [.str x.1, .str x.2.1, .str x.2.2])
def sp_word_of (K : PySem.W.Frag) : Sp := fun vs H Q _ => ∃ a pl ts tab t x, vs = [.ref a, .str t.name, .str x] ∧ HouseAt K H a pl ts tab ∧ TsOk ts ∧ t ∈ ts ∧ ∀ v H2, Ex H H2 → WordV (firstIn tab x (t.name :: t.falls)) v H2 → Q v H2
theorem spp_word_of {a : Addr} {pl : Plan} {ts : List Tg} {tab : Tab} {t : Tg} {x : Str} {H : Hp} (h : HouseAt K H a pl ts tab) (o : TsOk ts) (m : t ∈ ts) : SpP (sp_word_of K) [.ref a, .str t.name, .str x] H (WordV (firstIn tab x (t.name :: t.falls))) := fun H1 e Q q E => ⟨a, pl, ts, tab, t, x, rfl, h.mono e, o, m, q⟩
theorem drop_here {α : Type} {l : List α} {i : Nat} {x : α} (h : l[i]? = some x) : l.drop i = x :: l.drop (i + 1) := by
  have hl := (List.getElem?_eq_some_iff.mp h).1
  have e : l[i] = x := (List.getElem?_eq_some_iff.mp h).2
  rw [List.drop_eq_getElem_cons hl, e]
theorem sc_word_of : FnScope ["house", "tongue", "thing", "name", "own"] ["house", "tongue", "thing"] (defScope s_word_of) := ⟨rfl, rfl, rfl, by decide +kernel, rfl, by decide +kernel, by decide +kernel⟩
theorem ca_word_of (T : Ctx K mg) (c_road : Ca P w K mg base CX0 2 "road" (sp_road K)) (c_own_word : Me P w K mg base CX0 1 (He.ga K "House") "own_word" (sp_own K) []) : Ca P w K mg base CX0 3 "word_of" (sp_word_of K) := by
  obtain ⟨fd, F⟩ := T.fd_word_of
  refine caOf F sc_word_of T.g_word_of (F.bindsN fun _ _ _ _ _ _ us hl => match us, hl with | [_, _, _], _ => rfl) (fun vs H Q E h => ?_) (fun cdv A outer s H vs Q E hr h => ⟨_, PSs.nox (pss_cons (ps_for PassesOwn.never rfl (pi_list (pe_ca c_road hr (by first | decide | omega) (by rfl) (pa_cons (pv 0) (pa_cons (pv 1) pa_nil)))) (pg_name (i := 3) sc_word_of.nd rfl (.inl rfl)) (pss_cons (ps_set (i := 4) sc_word_of.nd rfl (.inl rfl) (pe_me c_own_word hr (by first | decide | omega) (pv 0) (pa_cons (pv 3) (pa_cons (pv 2) pa_nil))))
      (pss_one (ps_if (pt_cmpR op_notN (pv 4) pe_non (nomark _)) (pss_one (ps_ret (pe_tup (pa_cons (pv 3) (pa_cons (pe_ix (r := rIxT K) ix_tup (pv 4) pe_int (fun _ _ => rfl)) (pa_cons (pe_ix (r := rIxT K) ix_tup (pv 4) pe_int (fun _ _ => rfl)) pa_nil)))))) pss_nil))))
      (pss_one (ps_ret pe_non))), ?_⟩)
  · obtain ⟨a, pl, ts, tab, t, x, rfl, _⟩ := h; rfl
  · obtain ⟨a, pl, ts, tab, t, x, rfl, h, o, m, q⟩ := h
    obtain ⟨z, hw, _⟩ := h.ex
    refine q_forNLn (el_call (ea_cons (ev_var rfl) (ea_cons (ev_var rfl) ea_nil)) (spl_road h o m)) (fun p i σ' H' => ∃ v3 v4, σ' = [some (.ref a), some (.str t.name), some (.str x), v3, v4] ∧ Ex H H' ∧ H' p = some (.lst ((t.name :: t.falls).map V.str)) ∧ ∀ j n, j < i → (t.name :: t.falls)[j]? = some n → tabGet tab (n, x) = none)
      (fun p H1 hp e1 h1 => ⟨none, none, rfl, e1, h1, fun j n hj => by omega⟩) (fun p i σ' H' _ ⟨_, _, _, _, hs, _⟩ => sq_of hs) ?_ ?_
    · rintro p i y σ' H' hi ⟨v3, v4, rfl, e, hp, hno⟩
      rw [List.getElem?_map] at hi
      obtain ⟨n, hn, rfl⟩ : ∃ n, (t.name :: t.falls)[i]? = some n ∧ y = .str n := by
        cases hq : (t.name :: t.falls)[i]? with
        | none => rw [hq] at hi; cases hi
        | some n => rw [hq] at hi; exact ⟨n, rfl, (Option.some.inj hi).symm⟩
      refine q_asgP (evp_meth (ev_var rfl) (hw.mono (ExI.of e)).at_ (hF_no (by decide +kernel)) (ea_cons (ev_var rfl) (ea_cons (ev_var rfl) ea_nil)) (spp_own (n := n) (x := x) (h.mono e))) fun v H1 e1 hv => ?_
      cases hg : tabGet tab (n, x) with
      | none =>
        rw [hg] at hv
        have hv' : v = .non := hv
        subst hv'
        refine s_when (et_test (ev_op (ev_var rfl) ev_c rv_notN)) (fun hb => by cases hb) (fun _ H2 e2 => ?_)
        refine ⟨_, _, rfl, (e.trans e1).trans e2, e2 p _ (e1 p _ hp), fun j n' hj hn' => ?_⟩
        by_cases hji : j = i
        · subst hji
          rw [hn] at hn'
          cases hn'
          exact hg
        · exact hno j n' (by omega) hn'
      | some xy =>
        rw [hg] at hv
        obtain ⟨t2, rfl, ht2⟩ := hv
        refine s_when (et_test (ev_op (ev_var rfl) ev_c rv_notN)) (fun _ H2 e2 => ?_) (fun hb => by cases hb)
        have a0 : atI [V.str xy.1, V.str xy.2] 0 = some (.str xy.1) := atI_nat (j := 0) rfl
        have a1 : atI [V.str xy.1, V.str xy.2] 1 = some (.str xy.2) := atI_nat (j := 1) rfl
        refine s_retU (eu_tup (ea_cons (ev_var rfl) (ea_cons (ev_op (ev_var rfl) ev_c (rv_ixT (st_of (e2 t2 _ ht2)) a0)) (ea_cons (ev_op (ev_var rfl) ev_c (rv_ixT (st_of (e2 t2 _ ht2)) a1)) ea_nil))) (Nat.le_of_ble_eq_true rfl)) fun p3 H3 _ e3 hp3 => q _ H3 (((e.trans e1).trans e2).trans e3) ?_
        have : firstIn tab x (t.name :: t.falls) = some (n, xy) := by
          rw [firstIn_drop hno, drop_here hn, firstIn_some hg]
        rw [this]
        exact ⟨p3, rfl, hp3⟩
    · rintro p σ' H' ⟨v3, v4, rfl, e, hp, hno⟩
      refine s_ret ev_c fun H1 e1 => q _ H1 (e.trans e1) ?_
      have : firstIn tab x (t.name :: t.falls) = none := by
        rw [firstIn_drop hno, List.length_map, List.drop_length]; rfl
      rw [this]; rfl
/-! ### named -/
def sp_named (K : PySem.W.Frag) : Sp := fun vs H Q E => ∃ a pl ts tab t x, vs = [.ref a, .str t.name, .str x] ∧ HouseAt K H a pl ts tab ∧ TsOk ts ∧ t ∈ ts ∧
  (firstIn tab x (t.name :: t.falls) = none → ∀ H2, Ex H H2 → E (.ref (He.ga K "NoThing")) none H2) ∧ (∀ y, firstIn tab x (t.name :: t.falls) = some y → ∀ v H2, Ex H H2 → WordV (some y) v H2 → Q v H2)
theorem sc_named : FnScope ["house", "tongue", "thing", "found"] ["house", "tongue", "thing"] (defScope s_named) := ⟨rfl, rfl, rfl, by decide +kernel, rfl, by decide +kernel, by decide +kernel⟩
theorem ca_named (T : Ctx K mg) (c_word_of : Ca P w K mg base CX0 3 "word_of" (sp_word_of K)) : Ca P w K mg base (L2.CX P w) 4 "named" (sp_named K) := by
  obtain ⟨fd, F⟩ := T.fd_named
  refine caOf F sc_named T.g_named (F.bindsN fun _ _ _ _ _ _ us hl => match us, hl with | [_, _, _], _ => rfl) (fun vs H Q E h => ?_) (fun cdv A outer s H vs Q E hr h => ⟨_, (pss_cons (ps_set (i := 3) sc_named.nd rfl (.inl rfl) (pe_ca c_word_of hr (by first | decide | omega) (by rfl) (pa_cons (pv 0) (pa_cons (pv 1) (pa_cons (pv 2) pa_nil)))))
      (pss_cons (ps_if (pt_cmpR op_isN (pv 3) pe_non (nomark _)) (pss_one (ps_raise rfl (takes_of rfl rfl rfl rfl) (pmk_own PySem.F.excBase_ValueError T.ex_NoThing.1 T.g_NoThing T.ex_NoThing.2.1 (raises_own T.ex_NoThing.2.2.1 T.ex_NoThing.2.2.2) (by exact rfl)))) pss_nil)
      (pss_one (ps_ret (pv 3))))), ?_⟩)
  · obtain ⟨a, pl, ts, tab, t, x, rfl, _⟩ := h; rfl
  · obtain ⟨a, pl, ts, tab, t, x, rfl, h, o, m, kN, kS⟩ := h
    refine q_asgP (evp_call (ea_cons (ev_var rfl) (ea_cons (ev_var rfl) (ea_cons (ev_var rfl) ea_nil))) (spp_word_of h o m)) fun v H1 e1 hv => ?_
    cases hf : firstIn tab x (t.name :: t.falls) with
    | none =>
      rw [hf] at hv
      have hv' : v = .non := hv
      subst hv'
      refine q_when (et_test (ev_op (ev_var rfl) ev_c rv_isN)) (fun _ H2 e2 => ?_) (fun hb => by cases hb)
      exact kN hf H2 (e1.trans e2)
    | some y =>
      rw [hf] at hv
      obtain ⟨t2, rfl, ht2⟩ := hv
      refine q_when (et_test (ev_op (ev_var rfl) ev_c rv_isN)) (fun hb => by cases hb) (fun _ H2 e2 => ?_)
      exact s_ret (ev_var rfl) fun H3 e3 => kS y hf _ H3 ((e1.trans e2).trans e3) ⟨t2, rfl, e3 t2 _ (e2 t2 _ ht2)⟩
/-! ### _law_first -/
def FirstV (o : Option (Str × (Str × Str))) : V := match o with
  | none => .non
  | some x => .str x.1
def sp_first (K : PySem.W.Frag) : Sp := fun vs H Q _ => ∃ a pl ts tab tab2 d t x, vs = [.ref a, .str t.name, .ref d, .str x] ∧ HouseAt K H a pl ts tab2 ∧ TsOk ts ∧ t ∈ ts ∧ TabAt H d tab ∧ ∀ H2, Ex H H2 → Q (FirstV (firstIn tab x (t.name :: t.falls))) H2
theorem spv_first {a d : Addr} {pl : Plan} {ts : List Tg} {tab tab2 : Tab} {t : Tg} {x : Str} {H : Hp} (h : HouseAt K H a pl ts tab2) (o : TsOk ts) (m : t ∈ ts) (hd : TabAt H d tab) : SpV (sp_first K) [.ref a, .str t.name, .ref d, .str x] H (FirstV (firstIn tab x (t.name :: t.falls))) := fun H1 e Q q E => ⟨a, pl, ts, tab, tab2, d, t, x, rfl, h.mono e, o, m, hd.mono e, fun H2 e2 => q H2 e2⟩
theorem sc__law_first : FnScope ["_law_house_here", "_law_name", "_law_table", "_law_what", "_law_other"] ["_law_house_here", "_law_name", "_law_table", "_law_what"] (defScope s__law_first) := ⟨rfl, rfl, rfl, by decide +kernel, rfl, by decide +kernel, by decide +kernel⟩
theorem ca__law_first (T : Ctx K mg) (c_tongue_named : Me P w K mg base CX0 1 (He.ga K "House") "tongue_named" (sp_tn K) []) : Ca P w K mg base CX0 2 "_law_first" (sp_first K) := by
  obtain ⟨fd, F⟩ := T.fd__law_first
  refine caOf F sc__law_first T.g__law_first (F.bindsN fun _ _ _ _ _ _ us hl => match us, hl with | [_, _, _, _], _ => rfl) (fun vs H Q E h => ?_) (fun cdv A outer s H vs Q E hr h => ⟨_, PSs.nox (pss_cons (ps_for PassesOwn.never rfl (pi_list (pe_op op_cat (pe_lst (pa_cons (pv 1) pa_nil)) (pe_fld (pe_me c_tongue_named hr (by first | decide | omega) (pv 0) (pa_cons (pv 1) pa_nil)) rfl))) (pg_name (i := 4) sc__law_first.nd rfl (.inl rfl)) (pss_one (ps_if (pt_cmp (pc_din (hu_of hr) (pe_tup (pa_cons (pv 4) (pa_cons (pv 3) pa_nil))) (pv 2))) (pss_one (ps_ret (pv 4))) pss_nil)))
      (pss_one (ps_ret pe_non))), ?_⟩)
  · obtain ⟨a, pl, ts, tab, tab2, d, t, x, rfl, _⟩ := h; rfl
  · obtain ⟨a, pl, ts, tab, tab2, d, t, x, rfl, h, o, m, ⟨kvs, hd, hk⟩, q⟩ := h
    obtain ⟨z, hw, _⟩ := h.ex
    -- [name] + the tongue's falls
    have hl : EvL (tOp rCat (tLst (tCons (tVar 1) tNil)) (tFld K (tMeth (He.ga K "House") "tongue_named" (sp_tn K) [] E0 (tVar 0) (tCons (tVar 1) tNil)) "falls")) (start ["_law_house_here", "_law_name", "_law_table", "_law_what", "_law_other"] [.ref a, .str t.name, .ref d, .str x]) H ((t.name :: t.falls).map V.str) := by
      intro H1 e1 Q2 q2
      refine (el_lst (ea_cons (ev_var rfl) ea_nil) (Nat.le_of_ble_eq_true rfl)) H1 e1 _ fun p H2 n2 e2 h2 => ?_
      have E2 := e1.trans e2
      refine evp_meth (ev_var rfl) (hw.mono (ExI.of E2)).at_ (hF_no (by decide +kernel)) (ea_cons (ev_var rfl) ea_nil) (spp_tn (h.mono E2) o m) H2 (Ex.refl H2) _ fun v H3 e3 hv => ?_
      obtain ⟨b, rfl, dx, al, rv, aj, af, ac, ad, h3, h4, _⟩ := hv
      refine ⟨b, _, dx, _, .ref al, rfl, h3, T.cl_Tongue, T.na_Tongue_falls, tgF_falls, ?_⟩
      exact ⟨p, al, _, _, rfl, rfl, e3 p _ h2, h4, sz_of (by
        rw [List.length_map]
        rcases o.falls t m with hf | ⟨u, _, _, hf⟩ <;> rw [hf] <;> exact Nat.le_of_ble_eq_true rfl), fun l hl => q2 l _ (fresh_back (e2.trans e3) hl) ((e2.trans e3).trans (Ex.new hl)) upd_same⟩
    refine q_forNLn hl (fun p i σ' H' => ∃ v4, σ' = [some (.ref a), some (.str t.name), some (.ref d), some (.str x), v4] ∧ Ex H H' ∧ H' p = some (.lst ((t.name :: t.falls).map V.str)) ∧ ∀ j n, j < i → (t.name :: t.falls)[j]? = some n → tabGet tab (n, x) = none)
      (fun p H1 hp e1 h1 => ⟨none, rfl, e1, h1, fun j n hj => by omega⟩) (fun p i σ' H' _ ⟨_, _, _, hs, _⟩ => sq_of hs) ?_ ?_
    · rintro p i y σ' H' hi ⟨v4, rfl, e, hp, hno⟩
      rw [List.getElem?_map] at hi
      obtain ⟨n, hn, rfl⟩ : ∃ n, (t.name :: t.falls)[i]? = some n ∧ y = .str n := by
        cases hq : (t.name :: t.falls)[i]? with
        | none => rw [hq] at hi; cases hi
        | some n => rw [hq] at hi; exact ⟨n, rfl, (Option.some.inj hi).symm⟩
      refine s_when (et_B (ev_dinU (k := keyT (n, x)) (eu_tup (ea_cons (ev_var rfl) (ea_cons (ev_var rfl) ea_nil)) (Nat.le_of_ble_eq_true rfl)) (ev_var rfl) (ex_rd e hd))) (fun hb H1 e1 => ?_) (fun hb H1 e1 => ?_)
      · rcases hk.get (n, x) with ⟨h1, h2⟩ | ⟨xy, t2, h1, h2, h3⟩
        · rw [h2] at hb; cases hb
        · have : firstIn tab x (t.name :: t.falls) = some (n, xy) := by rw [firstIn_drop hno, drop_here hn, firstIn_some h1]
          rw [this] at q
          exact s_ret (ev_var rfl) fun H2 e2 => q H2 ((e.trans e1).trans e2)
      · refine ⟨_, rfl, e.trans e1, e1 p _ hp, fun j n' hj hn' => ?_⟩
        by_cases hji : j = i
        · subst hji
          rw [hn] at hn'
          cases hn'
          rcases hk.get (n, x) with ⟨h1, h2⟩ | ⟨xy, t2, h1, h2, h3⟩
          · exact h1
          · rw [h2] at hb; cases hb
        · exact hno j n' (by omega) hn'
    · rintro p σ' H' ⟨v4, rfl, e, hp, hno⟩
      have : firstIn tab x (t.name :: t.falls) = none := by
        rw [firstIn_drop hno, List.length_map, List.drop_length]; rfl
      rw [this] at q
      exact s_ret ev_c fun H1 e1 => q H1 (e.trans e1)
end
end K71

set_option maxHeartbeats 4000000
/-! K71Num: a number's text, in plain Lean: digits, signs, groups. -/
namespace K71
open PySem PySem.Spec PyProof.Rows L2 Evl
/-- the digits, the last first -/
def digs (n : Nat) : List Nat := if h : n < 10 then [n] else n % 10 :: digs (n / 10)
termination_by n
decreasing_by omega
theorem digs_lt {n : Nat} (h : n < 10) : digs n = [n] := by rw [digs, dif_pos h]
theorem digs_step {n : Nat} (h : 10 ≤ n) : digs n = n % 10 :: digs (n / 10) := by rw [digs, dif_neg (by omega)]
theorem digs_rec {C : Nat → Prop} (h1 : ∀ n, n < 10 → C n) (h2 : ∀ n, 10 ≤ n → C (n / 10) → C n) (n : Nat) : C n := by
  induction n using Nat.strongRecOn with
  | _ n ih =>
    by_cases h : n < 10
    · exact h1 n h
    · exact h2 n (by omega) (ih (n / 10) (by omega))
theorem numL_digs (n : Nat) : TL.numL n = ((digs n).map (48 + ·)).reverse := by
  induction n using digs_rec with
  | h1 n h => rw [digs_lt h, TL.numL_lt h]; rfl
  | h2 n h ih => rw [digs_step h, TL.numL_step h, ih, List.map_cons, List.reverse_cons]
theorem digs_dig (n : Nat) : ∀ d ∈ digs n, d < 10 := by
  induction n using digs_rec with
  | h1 n h =>
    rw [digs_lt h]
    intro d hd
    have : d = n := by simpa using hd
    omega
  | h2 n h ih =>
    rw [digs_step h]
    intro d hd
    rcases List.mem_cons.mp hd with rfl | hd
    · exact Nat.mod_lt _ (by decide)
    · exact ih d hd
theorem digs_pos (n : Nat) : 0 < (digs n).length := by
  induction n using digs_rec with
  | h1 n h => rw [digs_lt h]; exact Nat.succ_pos _
  | h2 n h ih => rw [digs_step h]; exact Nat.succ_pos _
theorem digs_len {n k : Nat} (hk : 0 < k) (h : n < 10 ^ k) : (digs n).length ≤ k := by
  have e := TL.numL_len hk h
  rw [numL_digs, List.length_reverse, List.length_map] at e
  exact e
/-- is there a sign ahead of the k-th figure from the end -/
def cond (g k : Nat) : Bool := decide (k = 3) || (decide (3 < k) && decide ((k - 3) % g = 0))
/-- the text behind k figures from the end -/
def bld (g : Nat) (sg rs : List Nat) : Nat → List Nat
  | 0 => []
  | k + 1 => rs.getD k 0 :: ((if cond g k = true then sg else []) ++ bld g sg rs k)
theorem take_snoc {rs : List Nat} {k : Nat} (h : k < rs.length) : rs.take (k + 1) = rs.take k ++ [rs.getD k 0] := by
  rw [List.getD_eq_getElem?_getD, List.getElem?_eq_getElem h]
  exact take_more (List.getElem?_eq_getElem h)
theorem bld_none {g : Nat} {rs : List Nat} : ∀ {k : Nat}, k ≤ rs.length → bld g [] rs k = (rs.take k).reverse
  | 0, _ => rfl
  | k + 1, h => by
    rw [bld, bld_none (Nat.le_of_succ_le h), take_snoc h, List.reverse_append]
    split <;> rfl
theorem bld_first {g : Nat} {sg rs : List Nat} : ∀ {k : Nat}, k ≤ 3 → k ≤ rs.length → bld g sg rs k = (rs.take k).reverse
  | 0, _, _ => rfl
  | k + 1, h3, h => by
    rw [bld, bld_first (by omega) (by omega), take_snoc h, List.reverse_append, if_neg (by
      unfold cond
      rw [decide_eq_false (by omega), decide_eq_false (by omega)]
      exact Bool.false_ne_true)]
    rfl
theorem bld_chunk {g : Nat} {sg rs : List Nat} {m : Nat} (hc : cond g m = true) : ∀ {j : Nat}, m + (j + 1) ≤ rs.length → (∀ k, m < k → k < m + (j + 1) → cond g k = false) → bld g sg rs (m + (j + 1)) = ((rs.drop m).take (j + 1)).reverse ++ (sg ++ bld g sg rs m)
  | 0, h, _ => by
    have hm : m < rs.length := by omega
    have e : (rs.drop m).take 1 = [rs.getD m 0] := by
      rw [take_snoc (by rw [List.length_drop]; omega), List.take_zero, List.nil_append, List.getD_eq_getElem?_getD, List.getD_eq_getElem?_getD, List.getElem?_drop, Nat.add_zero]
    rw [e]
    show bld g sg rs (m + 1) = _
    rw [bld, if_pos hc]
    rfl
  | j + 1, h, hn => by
    have ih := bld_chunk (rs := rs) (sg := sg) hc (j := j) (by omega) fun k h1 h2 => hn k h1 (by omega)
    show bld g sg rs (m + (j + 1) + 1) = _
    rw [bld, ih, if_neg (by rw [hn (m + (j + 1)) (by omega) (by omega)]; exact Bool.false_ne_true), take_snoc (rs := rs.drop m) (k := j + 1) (by rw [List.length_drop]; omega), List.reverse_append]
    have e : (rs.drop m).getD (j + 1) 0 = rs.getD (m + (j + 1)) 0 := by rw [List.getD_eq_getElem?_getD, List.getD_eq_getElem?_getD, List.getElem?_drop]
    rw [e]
    rfl
/-- one group more -/
theorem bld_group {g i : Nat} {sg rs : List Nat} (hg : 0 < g) (hm : 3 + g * i < rs.length) : bld g sg rs (min (3 + g * (i + 1)) rs.length) = ((rs.drop (3 + g * i)).take (min g (rs.length - (3 + g * i)))).reverse ++ (sg ++ bld g sg rs (3 + g * i)) := by
  have e1 : 3 + g * (i + 1) = 3 + g * i + g := by rw [Nat.mul_succ, Nat.add_assoc]
  generalize hM : 3 + g * i = m at *
  obtain ⟨j, hj⟩ : ∃ j, min g (rs.length - m) = j + 1 := ⟨min g (rs.length - m) - 1, by omega⟩
  have e2 : min (3 + g * (i + 1)) rs.length = m + (j + 1) := by omega
  rw [e2, hj]
  refine bld_chunk ?_ (by omega) fun k h1 h2 => ?_
  · unfold cond
    rw [← hM]
    cases i with
    | zero => rfl
    | succ i =>
      have h3 : (3 + g * (i + 1) - 3) % g = 0 := by rw [Nat.add_sub_cancel_left, Nat.mul_mod_right]
      have h4 : 0 < g * (i + 1) := Nat.mul_pos hg (Nat.succ_pos _)
      rw [h3, decide_eq_true (show 3 < 3 + g * (i + 1) by omega), Bool.or_eq_true]
      exact .inr rfl
  · unfold cond
    have h3 : k - 3 = g * i + (k - m) := by omega
    have h4 : (k - 3) % g = k - m := by rw [h3, Nat.mul_add_mod, Nat.mod_eq_of_lt (by omega)]
    rw [decide_eq_false (show ¬ k = 3 by omega), h4, decide_eq_false (show ¬ k - m = 0 by omega), Bool.and_false]
    rfl
theorem cut_front {rs : List Nat} {m : Nat} (h : m ≤ rs.length) : rs.reverse.take (rs.length - m) = (rs.drop m).reverse := by
  rw [List.take_reverse]
  congr 2
  omega
/-- the last g of what is left, the rest of it -/
theorem cut_group {rs : List Nat} {m g : Nat} (h : m ≤ rs.length) : (rs.reverse.take (rs.length - m)).drop (rs.length - m - g) = ((rs.drop m).take (min g (rs.length - m))).reverse ∧ (rs.reverse.take (rs.length - m)).take (rs.length - m - g) = rs.reverse.take (rs.length - (m + g)) := by
  refine ⟨?_, ?_⟩
  · rw [cut_front h, List.drop_reverse, List.length_drop]
    congr 2
    omega
  · rw [List.take_take]
    congr 1
    omega
/-- the whole text -/
def numT (f : Fig) (n : Int) : Str := SX.S ((if n < 0 then [45] else []) ++ bld f.g.toNat f.sg.cps.toList ((digs n.natAbs).map fun d => f.sx.cps.toList.getD d 0) (digs n.natAbs).length)
/-! slices counted from the end -/
theorem sl_back {a : List Nat} {i : Int} (h : 0 < i) : cutS (SX.S a) (some (-i)) none = SX.S (a.drop (a.length - i.toNat)) := by
  have hl : (SX.S a).length = a.length := SX.S_len a
  unfold cutS
  rw [hl]
  have e1 : HT.sIx a.length 0 (some (-i)) = a.length - i.toNat := by
    show (if -i < 0 then (-i + (a.length : Int)).toNat else _) = _
    rw [if_pos (by omega)]
    omega
  have e2 : HT.sIx a.length a.length none = a.length := rfl
  rw [e1, e2]
  congr 1
  congr 1
  show ((a.drop _).take _) = _
  exact List.take_of_length_le (by rw [List.length_drop]; omega)
theorem sl_front {a : List Nat} {i : Int} (h : 0 < i) : cutS (SX.S a) none (some (-i)) = SX.S (a.take (a.length - i.toNat)) := by
  have hl : (SX.S a).length = a.length := SX.S_len a
  unfold cutS
  rw [hl]
  have e1 : HT.sIx a.length a.length (some (-i)) = a.length - i.toNat := by
    show (if -i < 0 then (-i + (a.length : Int)).toNat else _) = _
    rw [if_pos (by omega)]
    omega
  have e2 : HT.sIx a.length 0 none = 0 := rfl
  rw [e1, e2]
  rfl
theorem join_snoc (sg : List Nat) (c : List Nat) {G : List (List Nat)} (h : G ≠ []) : TL.joinL sg (G ++ [c]).reverse = c ++ (sg ++ TL.joinL sg G.reverse) := by
  rw [List.reverse_append]
  cases hG : G.reverse with
  | nil => exact absurd (List.reverse_eq_nil_iff.mp hG) h
  | cons p r => rfl
end K71

set_option maxHeartbeats 4000000
/-! K71W11: figures_of, grouped, shown_number; _law_number_text. -/
namespace K71
open PySem PySem.Spec PyProof.Rows L2 Evl
section
variable {P : Program} {w : World} {K : PySem.W.Frag} {mg : Str → Option Value} {base : Heap} {σ : L2.St} {H : Hp} {te ta tb : TE}
theorem eu_divmod {i j : Int} (ha : Ev ta σ H (.int i)) (hb : Ev tb σ H (.int j)) (h : CDiv i j) : EvU (tCB (fun xs H Q => ∃ i j, xs = [V.int i, V.int j] ∧ CDiv i j ∧ ∀ (p : Addr), H p = none → Q (V.ref p) (upd H p (HO.tup [V.int (i / j), V.int (i % j)]))) (tCons ta (tCons tb tNil))) σ H [.int (i / j), .int (i % j)] := fun H1 e _ q =>
  ha H1 e _ fun H2 e2 => hb H2 (e.trans e2) _ fun H3 e3 => ⟨i, j, rfl, h, fun p hp => q p _ (fresh_back (e2.trans e3) hp) ((e2.trans e3).trans (Ex.new hp)) upd_same⟩
theorem rc_intS {a : Str} {n : Int} (h : PySem.intText? a = some n) (hl : a.length ≤ 640) : RC (fun xs H Q => ∃ a n, xs = [V.str a] ∧ PySem.intText? a = some n ∧ a.length ≤ 640 ∧ Q (V.int n) H) [.str a] H (.int n) := fun H1 _ _ q => ⟨a, n, rfl, h, hl, q H1 (Ex.refl H1)⟩
/-! ### figures_of -/
def nI (d : Nat) : V := .int (d : Int)
def sp_figures_of : Sp := fun vs H Q _ => ∃ n : Nat, vs = [.int (n : Int)] ∧ n < 10 ^ 60 ∧ ∀ p H2, H p = none → Ex H H2 → H2 p = some (.lst ((digs n).reverse.map nI)) → Q (.ref p) H2
theorem spl_figures_of {n : Nat} {H : Hp} (h : n < 10 ^ 60) : SpL sp_figures_of [.int (n : Int)] H ((digs n).reverse.map nI) := fun H1 e Q q E => ⟨n, rfl, h, q⟩
theorem sc_figures_of : FnScope ["number", "found", "left", "last"] ["number"] (defScope s_figures_of) := ⟨rfl, rfl, rfl, by decide +kernel, rfl, by decide +kernel, by decide +kernel⟩
theorem ca_figures_of (T : Ctx K mg) : Ca P w K mg base CX0 1 "figures_of" sp_figures_of := by
  obtain ⟨fd, F⟩ := T.fd_figures_of
  refine caOf F sc_figures_of T.g_figures_of (F.bindsN fun _ _ _ _ _ _ us hl => match us, hl with | [_], _ => rfl) (fun vs H Q E h => ?_) (fun cdv A outer s H vs Q E hr h => ⟨_, PSs.nox (pss_cons (ps_set (i := 1) sc_figures_of.nd rfl (.inl rfl) (pe_lst pa_nil))
      (pss_cons (ps_set (i := 2) sc_figures_of.nd rfl (.inl rfl) (pv 0))
      (pss_cons (ps_while PassesOwn.never (pt_cmpR op_ge (pv 2) pe_int (nomark _)) (pss_cons (ps_asg (pe_callB call_divmod (by rfl) T.f_divmod (by decide +kernel) (pa_cons (pv 2) (pa_cons pe_int pa_nil))) (pg_tup rfl (pgs_cons (pg_name (i := 2) sc_figures_of.nd rfl (.inl rfl)) (pgs_cons (pg_name (i := 3) sc_figures_of.nd rfl (.inl rfl)) pgs_nil))))
      (pss_one (ps_expr (pe_bm PySem.F.plainAttrs_list PySem.F.slot_list_append PySem.F.type_list_append mt_append (pv 1) (pa_cons (pv 3) pa_nil))))))
      (pss_cons (ps_expr (pe_bm PySem.F.plainAttrs_list PySem.F.slot_list_append PySem.F.type_list_append mt_append (pv 1) (pa_cons (pv 2) pa_nil)))
      (pss_one (ps_ret (pe_listRev rfl (by rfl) T.f_list (by rfl) T.f_reversed (pv 1)))))))), ?_⟩)
  · obtain ⟨n, rfl, _⟩ := h; rfl
  · obtain ⟨n, rfl, hn, q⟩ := h
    have hlen := digs_len (by decide) hn
    refine q_asgL (el_lst ea_nil (Nat.le_of_ble_eq_true rfl)) fun l H1 hl e1 h1 => ?_
    refine q_asg (ev_var rfl) fun H2 e2 => ?_
    refine q_while (fun mm σ' H' => ∃ (m : Nat) (acc : List Nat) (v3 : Option V), mm = m ∧ σ' = [some (.int (n : Int)), some (.ref l), some (.int (m : Int)), v3] ∧ Ex H H' ∧ H' l = some (.lst (acc.map nI)) ∧ acc ++ digs m = digs n) n ⟨n, [], none, rfl, rfl, e1.trans e2, e2 l _ h1, rfl⟩ ?_
    rintro mm σ' H' ⟨m, acc, v3, rfl, rfl, e, hL, hd⟩
    have hal : acc.length ≤ 60 := by
      have := congrArg List.length hd
      rw [List.length_append] at this
      omega
    refine ⟨_, et_test (ev_op (ev_var rfl) ev_c rv_I0), fun hb H3 e3 => ?_, fun hb H3 e3 => ?_⟩
    · have h10 : 10 ≤ mm := by
        have := of_decide_eq_true hb
        omega
      refine ⟨fun σ2 H2' => ∃ v3, σ2 = [some (.int (n : Int)), some (.ref l), some (.int ((mm / 10 : Nat) : Int)), v3] ∧ Ex H H2' ∧ H2' l = some (.lst ((acc ++ [mm % 10]).map nI)), ?_, ?_⟩
      · rintro σ2 H2' ⟨v3, rfl, e4, h4⟩
        refine ⟨mm / 10, by omega, mm / 10, acc ++ [mm % 10], v3, rfl, rfl, e4, h4, ?_⟩
        rw [← hd, digs_step h10, List.append_assoc]
        rfl
      · refine q_asgG (EvU.toP (eu_divmod (ev_var rfl) ev_c ⟨by decide, by decide⟩)) fun v H4 e4 ⟨p, hv, hn4, hp⟩ => ?_
        subst hv
        refine g_tup (st_of hp) rfl (g_cons (g_cons (g_nil ?_)))
        have hL4 := (e3.trans e4) l _ hL
        refine s_app hL4 (ev_var rfl) (ev_var rfl) (by rw [List.length_map]; omega) fun H5 e5 => ?_
        refine ⟨_, rfl, ((e.trans (e3.trans e4)).trans e5).mut hl, ?_⟩
        rw [upd_same, List.map_append]
        rfl
    · have h10 : mm < 10 := by
        have := of_decide_eq_false hb
        omega
      refine q_app (e3 l _ hL) (ev_var rfl) (ev_var rfl) (by rw [List.length_map]; omega) fun H4 e4 => ?_
      have hL5 : upd H4 l (.lst ((acc.map nI) ++ [nI mm])) l = some (.lst ((digs n).map nI)) := by
        rw [upd_same, ← hd, digs_lt h10, List.map_append]
        rfl
      refine s_retL (el_rev (ev_var rfl) (sq_of hL5)) fun p H6 hp e6 h6 => q p H6 (fresh_back (((e.trans e3).trans e4).mut hl) hp) ((((e.trans e3).trans e4).mut hl).trans e6) ?_
      rw [List.map_reverse]
      exact h6
/-! ### grouped -/
def sp_grouped : Sp := fun vs H Q _ => ∃ (rs : List Nat) (g : Int) (sg : List Nat), vs = [.str (SX.S rs.reverse), .int 3, .int g, .str (SX.S sg)] ∧ 1 ≤ g ∧ g ≤ 3 ∧ rs.length ≤ 100 ∧ sg.length ≤ 10 ∧ ∀ H2, Ex H H2 → Q (.str (SX.S (bld g.toNat sg rs rs.length))) H2
theorem spv_grouped {rs : List Nat} {g : Int} {sg : List Nat} {H : Hp} (h1 : 1 ≤ g) (h2 : g ≤ 3) (h3 : rs.length ≤ 100) (h4 : sg.length ≤ 10) : SpV sp_grouped [.str (SX.S rs.reverse), .int 3, .int g, .str (SX.S sg)] H (.str (SX.S (bld g.toNat sg rs rs.length))) := fun H1 e Q q E => ⟨rs, g, sg, rfl, h1, h2, h3, h4, fun H2 e2 => q H2 e2⟩
theorem sc_grouped : FnScope ["row", "first", "further", "sign", "groups", "left"] ["row", "first", "further", "sign"] (defScope s_grouped) := ⟨rfl, rfl, rfl, by decide +kernel, rfl, by decide +kernel, by decide +kernel⟩
theorem ca_grouped (T : Ctx K mg) : Ca P w K mg base CX0 1 "grouped" sp_grouped := by
  obtain ⟨fd, F⟩ := T.fd_grouped
  refine caOf F sc_grouped T.g_grouped (F.bindsN fun _ _ _ _ _ _ us hl => match us, hl with | [_, _, _, _], _ => rfl) (fun vs H Q E h => ?_) (fun cdv A outer s H vs Q E hr h => ⟨_, PSs.nox (pss_cons (ps_set (i := 4) sc_grouped.nd rfl (.inl rfl) (pe_lst (pa_cons (pe_slice (r := rSlS) sl_str (pv 0) (po_some (pe_un un_neg (pv 1))) po_none) pa_nil)))
      (pss_cons (ps_set (i := 5) sc_grouped.nd rfl (.inl rfl) (pe_slice (r := rSlS) sl_str (pv 0) po_none (po_some (pe_un un_neg (pv 1)))))
      (pss_cons (ps_while PassesOwn.never (pt_cmpR op_ne (pv 5) pe_str (nomark _)) (pss_cons (ps_expr (pe_bm PySem.F.plainAttrs_list PySem.F.slot_list_append PySem.F.type_list_append mt_append (pv 4) (pa_cons (pe_slice (r := rSlS) sl_str (pv 5) (po_some (pe_un un_neg (pv 2))) po_none) pa_nil)))
      (pss_one (ps_set (i := 5) sc_grouped.nd rfl (.inl rfl) (pe_slice (r := rSlS) sl_str (pv 5) po_none (po_some (pe_un un_neg (pv 2))))))))
      (pss_one (ps_ret (pe_join (pv 3) (pe_listRev rfl (by rfl) T.f_list (by rfl) T.f_reversed (pv 4)))))))), ?_⟩)
  · obtain ⟨rs, g, sg, rfl, _⟩ := h; rfl
  · obtain ⟨rs, g, sg, rfl, g1, g3, hl1, hl2, q⟩ := h
    have hS : (SX.S rs.reverse).length = rs.length := by rw [SX.S_len, List.length_reverse]
    have hg0 : 0 < g.toNat := by omega
    refine q_asgL (el_lst (ea_cons (ev_slS (ev_var rfl) (eo_some (ev_un (ev_var rfl) ru_neg)) eo_none (by omega)) ea_nil) (Nat.le_of_ble_eq_true rfl)) fun l H1 hl e1 h1 => ?_
    refine q_asg (ev_slS (ev_var rfl) eo_none (eo_some (ev_un (ev_var rfl) ru_neg)) (by omega)) fun H2 e2 => ?_
    rw [sl_back (by decide), List.length_reverse] at h1
    rw [sl_front (by decide), List.length_reverse]
    have c3 := cut_group (rs := rs) (m := 0) (g := 3) (Nat.zero_le _)
    have h3 : (3 : Int).toNat = 3 := rfl
    rw [h3] at h1 ⊢
    have e0 : rs.reverse.take (rs.length - 0) = rs.reverse := List.take_of_length_le (by rw [List.length_reverse]; omega)
    rw [e0, Nat.sub_zero, List.drop_zero] at c3
    refine q_while (fun mm σ' H' => ∃ (i : Nat) (G : List (List Nat)), i + mm = 200 ∧ G ≠ [] ∧ G.length ≤ i + 1 ∧ (G.map List.length).sum ≤ rs.length ∧ (i ≤ rs.length) ∧ σ' = [some (.str (SX.S rs.reverse)), some (.int 3), some (.int g), some (.str (SX.S sg)), some (.ref l), some (.str (SX.S (rs.reverse.take (rs.length - (3 + g.toNat * i)))))] ∧ Ex H H' ∧
      H' l = some (.lst (G.map fun c => .str (SX.S c))) ∧ TL.joinL sg G.reverse = bld g.toNat sg rs (min (3 + g.toNat * i) rs.length) ∧ (G.map List.length).sum = min (3 + g.toNat * i) rs.length) 200
      ⟨0, [rs.reverse.drop (rs.length - 3)], rfl, List.cons_ne_nil _ _, Nat.le_refl _, ?_, Nat.zero_le _, ?_, e1.trans e2, e2 l _ h1, ?_, ?_⟩ ?_
    · rw [c3.1]
      simp only [List.map_cons, List.map_nil, List.sum_cons, List.sum_nil, List.length_reverse, List.length_take]
      omega
    · rw [Nat.mul_zero, Nat.add_zero]; rfl
    · rw [c3.1, Nat.mul_zero, Nat.add_zero]
      show (rs.take (min 3 rs.length)).reverse = _
      rw [bld_first (by omega) (by omega)]
    · rw [c3.1, Nat.mul_zero, Nat.add_zero]
      simp only [List.map_cons, List.map_nil, List.sum_cons, List.sum_nil, List.length_reverse, List.length_take]
      omega
    rintro mm σ' H' ⟨i, G, him, hG, hGl, hsum, hil, rfl, e, hL, hj, hs⟩
    refine ⟨_, et_test (ev_op (ev_var rfl) ev_c (rv_ne rfl)), fun hb H3 e3 => ?_, fun hb H3 e3 => ?_⟩
    · have hne : 3 + g.toNat * i < rs.length := by
        by_cases h : 3 + g.toNat * i < rs.length
        · exact h
        · rw [show rs.length - (3 + g.toNat * i) = 0 by omega, List.take_zero] at hb
          exact absurd hb (by decide +kernel)
      have hi2 : i ≤ g.toNat * i := Nat.le_mul_of_pos_left i hg0
      have hleft : (SX.S (rs.reverse.take (rs.length - (3 + g.toNat * i)))).length = rs.length - (3 + g.toNat * i) := by rw [SX.S_len, List.length_take, List.length_reverse]; omega
      have cg := cut_group (rs := rs) (m := 3 + g.toNat * i) (g := g.toNat) (by omega)
      have e4 : 3 + g.toNat * i + g.toNat = 3 + g.toNat * (i + 1) := by rw [Nat.mul_succ, Nat.add_assoc]
      have el : (rs.reverse.take (rs.length - (3 + g.toNat * i))).length = rs.length - (3 + g.toNat * i) := by rw [List.length_take, List.length_reverse]; omega
      refine ⟨fun σ2 H2' => σ2 = [some (.str (SX.S rs.reverse)), some (.int 3), some (.int g), some (.str (SX.S sg)), some (.ref l), some (.str (SX.S (rs.reverse.take (rs.length - (3 + g.toNat * (i + 1))))))] ∧ Ex H H2' ∧ H2' l = some (.lst ((G ++ [((rs.drop (3 + g.toNat * i)).take (min g.toNat (rs.length - (3 + g.toNat * i)))).reverse]).map fun c => .str (SX.S c))), ?_, ?_⟩
      · rintro σ2 H2' ⟨rfl, ee, hl2⟩
        refine ⟨mm - 1, by omega, i + 1, _, by omega, ?_, ?_, ?_, by omega, rfl, ee, hl2, ?_, ?_⟩
        · exact List.append_ne_nil_of_right_ne_nil _ (List.cons_ne_nil _ _)
        · rw [List.length_append]; simp only [List.length_cons, List.length_nil]; omega
        · rw [List.map_append, List.sum_append, hs]
          simp only [List.map_cons, List.map_nil, List.sum_cons, List.sum_nil, List.length_reverse, List.length_take, List.length_drop]
          omega
        · rw [join_snoc sg _ hG, hj, bld_group hg0 hne, Nat.min_eq_left (Nat.le_of_lt hne)]
        · rw [List.map_append, List.sum_append, hs, ← e4]
          simp only [List.map_cons, List.map_nil, List.sum_cons, List.sum_nil, List.length_reverse, List.length_take, List.length_drop]
          omega
      · refine q_app (e3 l _ hL) (ev_var rfl) (ev_slS (ev_var rfl) (eo_some (ev_un (ev_var rfl) ru_neg)) eo_none (by omega)) (by rw [List.length_map]; omega) fun H4 e4' => ?_
        refine s_asg (ev_slS (ev_var rfl) eo_none (eo_some (ev_un (ev_var rfl) ru_neg)) (by omega)) fun H5 e5 => ?_
        refine ⟨?_, (((e.trans e3).trans e4').mut hl).trans e5, e5 l _ ?_⟩
        · rw [sl_front (by omega), el, cg.2, e4]; rfl
        · rw [upd_same, sl_back (by omega), el, cg.1, List.map_append]; rfl
    · have hge : rs.length ≤ 3 + g.toNat * i := by
        by_cases h : 3 + g.toNat * i < rs.length
        · exfalso
          have h0 : rs.reverse.take (rs.length - (3 + g.toNat * i)) ≠ [] := fun z => by
            have := congrArg List.length z
            rw [List.length_take, List.length_reverse] at this
            simp only [List.length_nil] at this
            omega
          have h1 : decide (V.str (SX.S (rs.reverse.take (rs.length - (3 + g.toNat * i)))) = V.str "") = true := by simpa using hb
          have h2 : SX.S (rs.reverse.take (rs.length - (3 + g.toNat * i))) = SX.S [] := V.str.inj (of_decide_eq_true h1)
          exact h0 (SX.S_inj h2)
        · omega
      have er : (G.map fun c => V.str (SX.S c)).reverse = (G.reverse.map SX.S).map V.str := by rw [← List.map_reverse, List.map_map]; rfl
      have el := el_rev (K := K) (te := tVar 4) (σ := [some (.str (SX.S rs.reverse)), some (.int 3), some (.int g), some (.str (SX.S sg)), some (.ref l), some (.str (SX.S (rs.reverse.take (rs.length - (3 + g.toNat * i)))))]) (H := H3) (ev_var rfl) (sq_of (e3 l _ hL))
      rw [er] at el
      refine s_ret (ev_joinN (ev_var rfl) el ?_) fun H4 e4 => ?_
      · have h1 : ((G.reverse.map SX.S).map fun x : Str => x.length).sum = (G.map List.length).sum := by
          rw [List.map_map, List.map_reverse, List.sum_reverse]
          congr 1
        rw [h1, List.length_map, List.length_reverse, SX.S_len]
        have h2 : G.length * sg.length ≤ 101 * 10 := Nat.mul_le_mul (by omega) hl2
        omega
      · rw [SX.join_S, hj, Nat.min_eq_right hge]
        exact q H4 ((e.trans e3).trans e4)
/-! ### shown_number -/
theorem bld_len (g : Nat) (sg rs : List Nat) : ∀ k, (bld g sg rs k).length ≤ k * (1 + sg.length)
  | 0 => Nat.zero_le _
  | k + 1 => by
    have ih := bld_len g sg rs k
    rw [bld, List.length_cons, List.length_append, Nat.succ_mul]
    split
    · omega
    · simp only [List.length_nil]; omega
theorem joinL_one : ∀ l : List Nat, TL.joinL [] (l.map fun c => [c]) = l
  | [] => rfl
  | [_] => rfl
  | a :: b :: l => by
    have ih := joinL_one (b :: l)
    show [a] ++ ([] ++ TL.joinL [] ((b :: l).map fun c => [c])) = _
    rw [ih]; rfl
theorem FigOk.sgl {f : Fig} (h : FigOk f) : f.sg.cps.toList.length ≤ 1 := by rcases h.sg with e | e | e <;> rw [e] <;> decide +kernel
theorem FigOk.sxl {f : Fig} (h : FigOk f) : f.sx.cps.toList.length = 10 := by rcases h.sx with e | e <;> rw [e] <;> decide +kernel
theorem abs_nat (n : Int) : (if n < 0 then -n else n) = ((n.natAbs : Nat) : Int) := by split <;> omega
theorem natAbs_lt {n : Int} (h : -10 ^ 60 < n ∧ n < 10 ^ 60) : n.natAbs < 10 ^ 60 := by omega
def figRow (f : Fig) (n : Nat) : List Nat := (digs n).map fun d => f.sx.cps.toList.getD d 0
def sp_number (K : PySem.W.Frag) : Sp := fun vs H Q _ => ∃ (a : Addr) (f : Fig) (n : Int), vs = [.ref a, .int n] ∧ FigAt K H a f ∧ -10 ^ 60 < n ∧ n < 10 ^ 60 ∧ ∀ H2, Ex H H2 → Q (.str (numT f n)) H2
theorem spv_number {a : Addr} {f : Fig} {n : Int} {H : Hp} (h : FigAt K H a f) (hn : -10 ^ 60 < n ∧ n < 10 ^ 60) : SpV (sp_number K) [.ref a, .int n] H (.str (numT f n)) := fun H1 e Q q E => ⟨a, f, n, rfl, h.mono (ExI.of e), hn.1, hn.2, fun H2 e2 => q H2 e2⟩
theorem numT_eq (f : Fig) (n : Int) : numT f n = SX.S ((if n < 0 then [45] else []) ++ bld f.g.toNat f.sg.cps.toList (figRow f n.natAbs) (figRow f n.natAbs).length) := by
  unfold numT figRow
  rw [List.length_map]
theorem sc_shown_number : FnScope ["figures", "number", "first", "further", "sign", "minus", "signs", "row", "figure"] ["figures", "number"] (defScope s_shown_number) := ⟨rfl, rfl, rfl, by decide +kernel, rfl, by decide +kernel, by decide +kernel⟩
theorem ca_shown_number (T : Ctx K mg) (c_figures_of : Ca P w K mg base CX0 1 "figures_of" sp_figures_of) (c_grouped : Ca P w K mg base CX0 1 "grouped" sp_grouped) : Ca P w K mg base CX0 2 "shown_number" (sp_number K) := by
  obtain ⟨fd, F⟩ := T.fd_shown_number
  refine caOf F sc_shown_number T.g_shown_number (F.bindsN fun _ _ _ _ _ _ us hl => match us, hl with | [_, _], _ => rfl) (fun vs H Q E h => ?_) (fun cdv A outer s H vs Q E hr h => ⟨_, PSs.nox (pss_cons (ps_asg (pv 0) (pg_tup rfl (pgs_cons (pg_name (i := 2) sc_shown_number.nd rfl (.inl rfl)) (pgs_cons (pg_name (i := 3) sc_shown_number.nd rfl (.inl rfl)) (pgs_cons (pg_name (i := 4) sc_shown_number.nd rfl (.inl rfl)) (pgs_cons (pg_name (i := 5) sc_shown_number.nd rfl (.inl rfl)) (pgs_cons (pg_name (i := 6) sc_shown_number.nd rfl (.inr rfl)) pgs_nil)))))))
      (pss_cons (ps_set (i := 7) sc_shown_number.nd rfl (.inl rfl) (pe_join pe_str (pe_lc (own := [("figure", 8)]) (g := gName 8) (tt := tYes) rfl sc_shown_number.nd (pi_list (pe_ca c_figures_of hr (by first | decide | omega) (by rfl) (pa_cons (pe_callB call_abs (by rfl) T.f_abs (by decide +kernel) (pa_cons (pv 1) pa_nil)) pa_nil))) (blkOk_by (own := [("figure", 8)]) (N := ["figures", "number", "first", "further", "sign", "minus", "signs", "row", "figure"]) (sc := defScope s_shown_number) (by decide +kernel)) (fun _ _ _ _ _ => pg_name (i := 8) sc_shown_number.nd rfl (.inl rfl)) (fun _ _ _ _ _ => pts_nil) (fun _ _ _ _ _ => (pe_ix (r := rIxS) ix_str (pv 6) (pv 8) (fun _ _ => rfl))))))
      (pss_cons (ps_if (pt_cmpR op_ne (pv 4) pe_str (nomark _)) (pss_one (ps_set (i := 7) sc_shown_number.nd rfl (.inl rfl) (pe_ca c_grouped hr (by first | decide | omega) (by rfl) (pa_cons (pv 7) (pa_cons (pv 2) (pa_cons (pv 3) (pa_cons (pv 4) pa_nil))))))) pss_nil)
      (pss_cons (ps_if (pt_cmpR op_lt (pv 1) pe_int (nomark _)) (pss_one (ps_ret (pe_op op_add_str (pv 5) (pv 7)))) pss_nil)
      (pss_one (ps_ret (pv 7))))))), ?_⟩)
  · obtain ⟨a, f, n, rfl, _⟩ := h; rfl
  · obtain ⟨a, f, n, rfl, ⟨hF, ok⟩, n1, n2, q⟩ := h
    rw [numT_eq] at q
    have hn := natAbs_lt ⟨n1, n2⟩
    have hlen : (figRow f n.natAbs).length ≤ 60 := by
      unfold figRow
      rw [List.length_map]
      exact digs_len (by decide) hn
    have hsx := ok.sxl
    have hsg := ok.sgl
    have hsxS : f.sx = SX.S f.sx.cps.toList := rfl
    have hsgS : f.sg = SX.S f.sg.cps.toList := rfl
    refine q_asgG (P := fun v _ => v = .ref a) (Ev.toP (ev_var rfl) fun _ _ => rfl) fun v H1 e1 hv => ?_
    subst hv
    refine g_tup (exi_t (ExI.of e1) hF) rfl (g_cons (g_cons (g_cons (g_cons (g_cons (g_nil ?_))))))
    -- the row of signs
    have hel : EvL (tLc (iList K (tCall sp_figures_of [] E0 (tCons (tCB (fun xs H Q => ∃ i, xs = [V.int i] ∧ Q (V.int (if i < 0 then -i else i)) H) (tCons (tVar 1) tNil)) tNil))) (gName 8) tYes (tOp rIxS (tVar 6) (tVar 8)) [8]) [some (.ref a), some (.int n), some (.int 3), some (.int f.g), some (.str f.sg), some (.str "-"), some (.str f.sx), none, none] H1
        ((((figRow f n.natAbs).reverse.map fun c => [c]).map SX.S).map V.str) := by
      have el := el_lcNL (K := K) (σ := [some (.ref a), some (.int n), some (.int 3), some (.int f.g), some (.str f.sg), some (.str "-"), some (.str f.sx), none, none]) (H := H1) (t := tYes) (te := tOp rIxS (tVar 6) (tVar 8)) (tl := tCall sp_figures_of [] E0 (tCons (tCB (fun xs H Q => ∃ i, xs = [V.int i] ∧ Q (V.int (if i < 0 then -i else i)) H) (tCons (tVar 1) tNil)) tNil)) (j := 8) (vs := [8]) (xs := (digs n.natAbs).reverse.map nI) (fun _ => true) (fun i => .str (SX.S [f.sx.cps.toList.getD (intOf (((digs n.natAbs).reverse.map nI).getD i .non)).toNat 0]))
        (el_call (ea_cons (ev_is (ev_cb (ea_cons (ev_var rfl) ea_nil) rc_abs) (congrArg V.int (abs_nat n))) ea_nil) (spl_figures_of hn)) (by rw [List.length_map, List.length_reverse]; have := digs_len (by decide) hn; omega) (fun _ => rfl) (fun i x H4 e4 hi => fun H1 e Q q => q H1 (Ex.refl H1)) (fun i x H4 e4 hi _ => by
          have hx : ((digs n.natAbs).reverse.map nI).getD i .non = x := by rw [List.getD_eq_getElem?_getD, hi]; rfl
          rw [hx]
          obtain ⟨d, hd, rfl⟩ := List.mem_map.mp (List.mem_of_getElem? hi)
          have hd10 := digs_dig _ d (List.mem_reverse.mp hd)
          refine ev_op (ev_var rfl) (ev_var rfl) (rv_ixS (by show f.sx.length ≤ 100000; rw [← tl_len, hsx]; decide) ?_)
          refine atI_nat (j := d) ?_
          show f.sx.cps.toList[d]? = some (f.sx.cps.toList.getD d 0)
          rw [List.getD_eq_getElem?_getD, List.getElem?_eq_getElem (by omega)]; rfl)
      rw [given_all (f := fun x => .str (SX.S [f.sx.cps.toList.getD (intOf x).toNat 0])), List.map_map] at el
      have e2 : (digs n.natAbs).reverse.map ((fun x => V.str (SX.S [f.sx.cps.toList.getD (intOf x).toNat 0])) ∘ nI) = (((figRow f n.natAbs).reverse.map fun c => [c]).map SX.S).map V.str := by
        unfold figRow
        rw [← List.map_reverse, List.map_map, List.map_map, List.map_map]
        rfl
      rw [e2] at el
      exact el
    refine q_asg (ev_joinN ev_c hel ?_) fun H2 e2 => ?_
    · have h0 : ("" : Str).length = 0 := rfl
      rw [h0, Nat.mul_zero, Nat.add_zero, List.map_map]
      have : ∀ l : List Nat, (((l.map fun c => [c]).map ((fun x : Str => x.length) ∘ SX.S))).sum = l.length := by
        intro l
        induction l with
        | nil => rfl
        | cons a l ih =>
          rw [List.map_cons, List.map_cons, List.sum_cons, ih, List.length_cons]
          show 1 + l.length = l.length + 1
          omega
      rw [this, List.length_reverse]
      omega
    have ej : Txt.join "" (((figRow f n.natAbs).reverse.map fun c => [c]).map SX.S) = SX.S (figRow f n.natAbs).reverse := by
      have : ("" : Str) = SX.S [] := rfl
      rw [this, SX.join_S, joinL_one]
    rw [ej]
    have fin : ∀ H3, Ex H2 H3 → ∀ r : List Nat, r = bld f.g.toNat f.sg.cps.toList (figRow f n.natAbs) (figRow f n.natAbs).length → tSeq (tIfS (tTest (tOp (rI0 fun i j => V.bl (decide (i < j))) (tVar 1) (tC (V.int 0)))) (tRet (tOp rAddS (tVar 5) (tVar 7))) tNext) (tRet (tVar 7)) { nx := fun x H' => Q V.non H', rt := Q } [some (.ref a), some (.int n), some (.int 3), some (.int f.g), some (.str f.sg), some (.str "-"), some (.str f.sx), some (.str (SX.S r)), none] H3 := by
      intro H3 e3 r hr
      subst hr
      have hb := bld_len f.g.toNat f.sg.cps.toList (figRow f n.natAbs) (figRow f n.natAbs).length
      have hb2 : (figRow f n.natAbs).length * (1 + f.sg.cps.toList.length) ≤ 60 * 2 := Nat.mul_le_mul hlen (by omega)
      refine q_when (et_test (ev_op (ev_var rfl) ev_c rv_I0)) (fun hb3 H4 e4 => ?_) (fun hb3 H4 e4 => ?_)
      · rw [if_pos (of_decide_eq_true hb3), ← SX.S_cat] at q
        exact s_ret (ev_addS (ev_var rfl) (ev_var rfl) (by have := SX.S_len (bld f.g.toNat f.sg.cps.toList (figRow f n.natAbs) (figRow f n.natAbs).length); have : ("-" : Str).length = 1 := rfl; omega)) fun H5 e5 => q H5 ((e1.trans e2).trans (e3.trans (e4.trans e5)))
      · rw [if_neg (of_decide_eq_false hb3), List.nil_append] at q
        exact s_ret (ev_var rfl) fun H5 e5 => q H5 ((e1.trans e2).trans (e3.trans (e4.trans e5)))
    have hg13 : 1 ≤ f.g ∧ f.g ≤ 3 := by rcases ok.g with e | e | e <;> omega
    refine q_when (et_test (ev_op (ev_var rfl) ev_c (rv_ne rfl))) (fun hb H3 e3 => ?_) (fun hb H3 e3 => ?_)
    · refine s_asg (ev_call (ea_cons (ev_var rfl) (ea_cons (ev_var rfl) (ea_cons (ev_var rfl) (ea_cons (ev_var rfl) ea_nil)))) (spv_grouped (sg := f.sg.cps.toList) hg13.1 hg13.2 (by omega) (by omega))) fun H4 e4 => ?_
      exact fin H4 (e3.trans e4) _ rfl
    · have h1 : decide (V.str f.sg = V.str "") = true := by simpa using hb
      have h2 : f.sg = "" := V.str.inj (of_decide_eq_true h1)
      refine fin H3 e3 _ ?_
      rw [h2]
      show _ = bld f.g.toNat [] (figRow f n.natAbs) (figRow f n.natAbs).length
      rw [bld_none (Nat.le_refl _), List.take_length]
/-! ### _law_number_text -/
theorem int_sign : ∀ d, d < 10 → PySem.intText? (SX.S [48 + d]) = some (d : Int) := by
  intro d hd
  have h : ∀ d : Fin 10, PySem.intText? (SX.S [48 + d.1]) = some ((d.1 : Nat) : Int) := by decide +kernel
  exact h ⟨d, hd⟩
theorem log_lt {n : Int} (h : n.natAbs < 10 ^ 60) : n.natAbs.log2 < 1920 := by
  have h2 : n.natAbs.log2 < 200 := PySem.Flt.log2_lt_of (by decide) (Nat.lt_of_lt_of_le h (by decide))
  omega
theorem sc__law_number_text : FnScope ["_law_figures", "_law_number", "_law_first_here", "_law_further", "_law_sign", "_law_minus", "_law_signs_here", "_law_row", "_law_found", "_law_k"] ["_law_figures", "_law_number"] (defScope s__law_number_text) := ⟨rfl, rfl, rfl, by decide +kernel, rfl, by decide +kernel, by decide +kernel⟩
theorem ca__law_number_text (T : Ctx K mg) : Ca P w K mg base CX0 1 "_law_number_text" (sp_number K) := by
  obtain ⟨fd, F⟩ := T.fd__law_number_text
  refine caOf F sc__law_number_text T.g__law_number_text (F.bindsN fun _ _ _ _ _ _ us hl => match us, hl with | [_, _], _ => rfl) (fun vs H Q E h => ?_) (fun cdv A outer s H vs Q E hr h => ⟨_, PSs.nox (pss_cons (ps_asg (pv 0) (pg_tup rfl (pgs_cons (pg_name (i := 2) sc__law_number_text.nd rfl (.inl rfl)) (pgs_cons (pg_name (i := 3) sc__law_number_text.nd rfl (.inl rfl)) (pgs_cons (pg_name (i := 4) sc__law_number_text.nd rfl (.inl rfl)) (pgs_cons (pg_name (i := 5) sc__law_number_text.nd rfl (.inl rfl)) (pgs_cons (pg_name (i := 6) sc__law_number_text.nd rfl (.inl rfl)) pgs_nil)))))))
      (pss_cons (ps_set (i := 7) sc__law_number_text.nd rfl (.inl rfl) (pe_callTy call_str_int (by rfl) T.f_str (by decide +kernel) (pa_cons (pe_callB call_abs (by rfl) T.f_abs (by decide +kernel) (pa_cons (pv 1) pa_nil)) pa_nil)))
      (pss_cons (ps_set (i := 8) sc__law_number_text.nd rfl (.inl rfl) pe_str)
      (pss_cons (ps_for PassesOwn.never rfl (pi_range1 (by rfl) T.f_range (pa_cons (pe_callB (r := rLen K) call_len (by rfl) T.f_len (by decide +kernel) (pa_cons (pv 7) pa_nil)) pa_nil)) (pg_name (i := 9) sc__law_number_text.nd rfl (.inl rfl)) (pss_cons (ps_if (PW.pt (pw_or (pt_cmpR op_eq (pv 9) (pv 2) (nomark _)) (pw_or1 (PW.pt (pw_and (pt_cmpR op_gt (pv 9) (pv 2) (nomark _)) (pw_and1 (pt_cmpR op_eq (pe_op op_mod (pe_op op_sub (pv 9) (pv 2)) (pv 3)) pe_int (nomark _)))))))) (pss_one (ps_set (i := 8) sc__law_number_text.nd rfl (.inl rfl) (pe_op op_add_str (pv 4) (pv 8)))) pss_nil)
      (pss_one (ps_set (i := 8) sc__law_number_text.nd rfl (.inl rfl) (pe_op op_add_str (pe_ix (r := rIxS) ix_str (pv 6) (pe_callTy call_int_str (by rfl) T.f_int (by decide +kernel) (pa_cons (pe_ix (r := rIxS) ix_str (pv 7) (pe_op op_sub (pe_op op_sub (pe_callB (r := rLen K) call_len (by rfl) T.f_len (by decide +kernel) (pa_cons (pv 7) pa_nil)) pe_int) (pv 9)) (fun _ _ => rfl)) pa_nil)) (fun _ _ => rfl)) (pv 8))))))
      (pss_cons (ps_if (pt_cmpR op_lt (pv 1) pe_int (nomark _)) (pss_one (ps_ret (pe_op op_add_str (pv 5) (pv 8)))) pss_nil)
      (pss_one (ps_ret (pv 8)))))))), ?_⟩)
  · obtain ⟨a, f, n, rfl, _⟩ := h; rfl
  · obtain ⟨a, f, n, rfl, ⟨hF, ok⟩, n1, n2, q⟩ := h
    rw [numT_eq] at q
    have hn := natAbs_lt ⟨n1, n2⟩
    have hdl := digs_len (by decide) hn
    have hfl : (figRow f n.natAbs).length = (digs n.natAbs).length := by unfold figRow; rw [List.length_map]
    have hsx := ok.sxl
    have hsg := ok.sgl
    have hg13 : 1 ≤ f.g ∧ f.g ≤ 3 := by rcases ok.g with e | e | e <;> omega
    refine q_asgG (P := fun v _ => v = .ref a) (Ev.toP (ev_var rfl) fun _ _ => rfl) fun v H1 e1 hv => ?_
    subst hv
    refine g_tup (exi_t (ExI.of e1) hF) rfl (g_cons (g_cons (g_cons (g_cons (g_cons (g_nil ?_))))))
    refine q_asg (ev_cb (ea_cons (ev_is (ev_cb (ea_cons (ev_var rfl) ea_nil) rc_abs) (congrArg V.int (abs_nat n))) ea_nil) (rc_str (log_lt (by omega)))) fun H2 e2 => ?_
    rw [SX.num_S, numL_digs]
    have hrl : (SX.S (((digs n.natAbs).map (48 + ·)).reverse)).length = (digs n.natAbs).length := by rw [SX.S_len, List.length_reverse, List.length_map]
    refine q_asg ev_c fun H3 e3 => ?_
    refine q_forR1 (ea_cons (ev_lenS (ev_var rfl) (by omega)) ea_nil) ⟨by omega, by omega⟩ (fun i σ' H' => ∃ v9, σ' = [some (.ref a), some (.int n), some (.int 3), some (.int f.g), some (.str f.sg), some (.str "-"), some (.str f.sx), some (.str (SX.S (((digs n.natAbs).map (48 + ·)).reverse))), some (.str (SX.S (bld f.g.toNat f.sg.cps.toList (figRow f n.natAbs) i))), v9] ∧ Ex H H')
      (fun H4 e4 => ⟨none, rfl, (e1.trans e2).trans (e3.trans e4)⟩) ?_ ?_
    · rintro i σ' H' hi ⟨v9, rfl, e⟩
      rw [hrl] at hi
      have hil : i < (digs n.natAbs).length := by omega
      have hb := bld_len f.g.toNat f.sg.cps.toList (figRow f n.natAbs) i
      have hb2 : i * (1 + f.sg.cps.toList.length) ≤ 60 * 2 := Nat.mul_le_mul (by omega) (by omega)
      have hsgl : f.sg.length ≤ 1 := by rw [← tl_len]; exact hsg
      have hcond : (decide (V.int (i : Int) = V.int 3) || (decide ((3 : Int) < (i : Int)) && decide (V.int (((i : Int) - 3) % f.g) = V.int 0))) = cond f.g.toNat i := by
        unfold cond
        have a1 : decide (V.int (i : Int) = V.int 3) = decide (i = 3) := decide_eq_decide.mpr ⟨fun h => by have := V.int.inj h; omega, fun h => by rw [h]; rfl⟩
        have a2 : decide ((3 : Int) < (i : Int)) = decide (3 < i) := decide_eq_decide.mpr (by omega)
        rw [a1, a2]
        by_cases h3 : 3 < i
        · have a3 : ((i : Int) - 3) % f.g = (((i - 3) % f.g.toNat : Nat) : Int) := by
            rw [Int.natCast_emod, Int.toNat_of_nonneg (by omega)]
            congr 1
            omega
          have a4 : decide (V.int (((i : Int) - 3) % f.g) = V.int 0) = decide ((i - 3) % f.g.toNat = 0) := decide_eq_decide.mpr ⟨fun h => by have := V.int.inj h; rw [a3] at this; omega, fun h => by rw [a3, h]; rfl⟩
          rw [a4]
        · rw [decide_eq_false h3, Bool.false_and, Bool.false_and]
      -- the sign, if one is due
      have hstep : ∀ H4, Ex H' H4 → ∀ m : List Nat, m = (if cond f.g.toNat i = true then f.sg.cps.toList else []) ++ bld f.g.toNat f.sg.cps.toList (figRow f n.natAbs) i → tAsg (tOp rAddS (tOp rIxS (tVar 6) (tCB (fun xs H Q => ∃ a n, xs = [V.str a] ∧ intText? a = some n ∧ a.length ≤ 640 ∧ Q (V.int n) H) (tCons (tOp rIxS (tVar 7) (tOp (rI0 fun i j => V.int (i - j)) (tOp (rI0 fun i j => V.int (i - j)) (tCB (rLen K) (tCons (tVar 7) tNil)) (tC (V.int 1))) (tVar 9))) tNil))) (tVar 8)) (gName 8)
          { nx := fun σ' H' => ∃ v9, σ' = [some (.ref a), some (.int n), some (.int 3), some (.int f.g), some (.str f.sg), some (.str "-"), some (.str f.sx), some (.str (SX.S (((digs n.natAbs).map (48 + ·)).reverse))), some (.str (SX.S (bld f.g.toNat f.sg.cps.toList (figRow f n.natAbs) (i + 1)))), v9] ∧ Ex H H', rt := Q, bk := fun _ _ => False, ct := fun _ _ => False } [some (.ref a), some (.int n), some (.int 3), some (.int f.g), some (.str f.sg), some (.str "-"), some (.str f.sx), some (.str (SX.S (((digs n.natAbs).map (48 + ·)).reverse))), some (.str (SX.S m)), some (.int (i : Int))] H4 := by
        intro H4 e4 m hm
        have hd10 := digs_dig n.natAbs ((digs n.natAbs)[i]) (List.getElem_mem hil)
        have hat : atI (((digs n.natAbs).map (48 + ·)).reverse) ((digs n.natAbs).length - 1 - (i : Int)) = some (48 + (digs n.natAbs)[i]) := by
          have e0 : ((digs n.natAbs).length : Int) - 1 - (i : Int) = (((digs n.natAbs).length - 1 - i : Nat) : Int) := by omega
          rw [e0]
          refine atI_nat ?_
          rw [List.getElem?_reverse (by rw [List.length_map]; omega), List.length_map, show (digs n.natAbs).length - 1 - ((digs n.natAbs).length - 1 - i) = i by omega, List.getElem?_map, List.getElem?_eq_getElem hil]; rfl
        have hat2 : atI f.sx.cps.toList (((digs n.natAbs)[i] : Nat) : Int) = some (f.sx.cps.toList.getD (digs n.natAbs)[i] 0) := by
          refine atI_nat ?_
          rw [List.getD_eq_getElem?_getD, List.getElem?_eq_getElem (by omega)]; rfl
        refine s_asg (ev_addS (ev_op (ev_var rfl) (ev_cb (ea_cons (ev_op (ev_var rfl) (ev_op (ev_op (ev_is (ev_lenS (ev_var rfl) (by omega)) (congrArg (fun z : Nat => V.int (z : Int)) hrl)) ev_c rv_I0) (ev_var rfl) rv_I0) (rv_ixS (by omega) hat)) ea_nil) (rc_intS (int_sign _ hd10) (by show 1 ≤ 640; decide))) (rv_ixS (by rw [← tl_len, hsx]; decide) hat2)) (ev_var rfl) ?_) fun H5 e5 => ⟨some (.int (i : Int)), ?_, (e.trans e4).trans e5⟩
        · show 1 + (SX.S m).length ≤ 100000
          rw [SX.S_len, hm, List.length_append]
          split
          · omega
          · simp only [List.length_nil]; omega
        · have e6 : (⟨#[f.sx.cps.toList.getD (digs n.natAbs)[i] 0]⟩ : Str) ++ SX.S m = SX.S (bld f.g.toNat f.sg.cps.toList (figRow f n.natAbs) (i + 1)) := by
            have e7 : (figRow f n.natAbs).getD i 0 = f.sx.cps.toList.getD (digs n.natAbs)[i] 0 := by
              unfold figRow
              rw [List.getD_eq_getElem?_getD, List.getElem?_map, List.getElem?_eq_getElem hil]; rfl
            show SX.S [_] ++ SX.S m = _
            rw [SX.S_cat, bld, e7, hm]; rfl
          show [some (.ref a), some (.int n), some (.int 3), some (.int f.g), some (.str f.sg), some (.str "-"), some (.str f.sx), _, some (V.str (⟨#[f.sx.cps.toList.getD (digs n.natAbs)[i] 0]⟩ ++ SX.S m)), some (.int (i : Int))] = _
          rw [e6]
      refine q_when (et_is (et_or (et_test (ev_op (ev_var rfl) (ev_var rfl) (rv_eq rfl))) fun _ => (et_and (et_test (ev_op (ev_var rfl) (ev_var rfl) rv_I0)) fun _ => (et_test (ev_op (ev_op (ev_op (ev_var rfl) (ev_var rfl) rv_I0) (ev_var rfl) (rv_mod (by omega))) ev_c (rv_eq rfl))))) hcond) (fun hb3 H4 e4 => ?_) (fun hb3 H4 e4 => ?_)
      · refine s_asg (ev_addS (ev_var rfl) (ev_var rfl) (by have := SX.S_len (bld f.g.toNat f.sg.cps.toList (figRow f n.natAbs) i); omega)) fun H5 e5 => ?_
        have e6 : f.sg ++ SX.S (bld f.g.toNat f.sg.cps.toList (figRow f n.natAbs) i) = SX.S (f.sg.cps.toList ++ bld f.g.toNat f.sg.cps.toList (figRow f n.natAbs) i) := SX.S_cat f.sg.cps.toList _
        have hs := hstep H5 (e4.trans e5) (f.sg.cps.toList ++ bld f.g.toNat f.sg.cps.toList (figRow f n.natAbs) i) (by rw [if_pos hb3])
        rw [← e6] at hs
        exact hs
      · exact hstep H4 e4 _ (by rw [if_neg (by rw [hb3]; exact Bool.false_ne_true)]; rfl)
    · rintro σ' H' ⟨v9, rfl, e⟩
      rw [hrl, Int.toNat_natCast]
      rw [hfl] at q
      have hb := bld_len f.g.toNat f.sg.cps.toList (figRow f n.natAbs) (digs n.natAbs).length
      have hb2 : (digs n.natAbs).length * (1 + f.sg.cps.toList.length) ≤ 60 * 2 := Nat.mul_le_mul hdl (by omega)
      refine q_when (et_test (ev_op (ev_var rfl) ev_c rv_I0)) (fun hb3 H4 e4 => ?_) (fun hb3 H4 e4 => ?_)
      · rw [if_pos (of_decide_eq_true hb3), ← SX.S_cat] at q
        exact s_ret (ev_addS (ev_var rfl) (ev_var rfl) (by have := SX.S_len (bld f.g.toNat f.sg.cps.toList (figRow f n.natAbs) (digs n.natAbs).length); have : ("-" : Str).length = 1 := rfl; omega)) fun H5 e5 => q H5 (e.trans (e4.trans e5))
      · rw [if_neg (of_decide_eq_false hb3), List.nil_append] at q
        exact s_ret (ev_var rfl) fun H5 e5 => q H5 (e.trans (e4.trans e5))
end
end K71

set_option maxHeartbeats 4000000
/-! K71W12: laid, _law_laid. -/
namespace K71
open PySem PySem.Spec PyProof.Rows L2 Evl
theorem jl_snoc (m x : List Nat) : ∀ {l : List (List Nat)}, l ≠ [] → TL.joinL m (l ++ [x]) = TL.joinL m l ++ (m ++ x)
  | [], h => absurd rfl h
  | [a], _ => rfl
  | a :: b :: l, _ => by
    have ih := jl_snoc m x (l := b :: l) (List.cons_ne_nil _ _)
    show a ++ (m ++ TL.joinL m ((b :: l) ++ [x])) = a ++ (m ++ TL.joinL m (b :: l)) ++ (m ++ x)
    rw [ih]
    simp only [List.append_assoc]
def laidL (j0 j1 j2 j3 : List Nat) (ts : List (List Nat)) : List Nat :=
  if ts.length = 0 then j0 else if ts.length = 1 then ts.getD 0 [] else if ts.length = 2 then ts.getD 0 [] ++ (j1 ++ ts.getD 1 []) else TL.joinL j2 (ts.take (ts.length - 1)) ++ (j3 ++ ts.getD (ts.length - 1) [])
def laidT (j : List Str) (ts : List Str) : Str := SX.S (laidL (TL.tl (j.getD 0 "")) (TL.tl (j.getD 1 "")) (TL.tl (j.getD 2 "")) (TL.tl (j.getD 3 "")) (ts.map TL.tl))
/-- the law's text behind k of them -/
def lawL (j0 j1 j2 j3 : List Nat) (ts : List (List Nat)) (k : Nat) : List Nat := if k < ts.length then TL.joinL j2 (ts.take k) else laidL j0 j1 j2 j3 ts
theorem take_snocD {α : Type} {l : List α} {d : α} {k : Nat} (h : k < l.length) : l.take (k + 1) = l.take k ++ [l.getD k d] := by
  rw [List.getD_eq_getElem?_getD, List.getElem?_eq_getElem h]
  exact take_more (List.getElem?_eq_getElem h)
theorem lawL_one {j0 j1 j2 j3 : List Nat} {ts : List (List Nat)} (h : 0 < ts.length) : lawL j0 j1 j2 j3 ts 1 = ts.getD 0 [] := by
  unfold lawL laidL
  by_cases h1 : 1 < ts.length
  · rw [if_pos h1, take_snocD (k := 0) (d := []) h]; rfl
  · rw [if_neg h1, if_neg (by omega), if_pos (by omega)]
theorem lawL_step {j0 j1 j2 j3 : List Nat} {ts : List (List Nat)} {k : Nat} (h0 : 0 < k) (h : k < ts.length) :
    lawL j0 j1 j2 j3 ts (k + 1) = lawL j0 j1 j2 j3 ts k ++ ((if ts.length = 2 then j1 else if k = ts.length - 1 then j3 else j2) ++ ts.getD k []) := by
  have hk : lawL j0 j1 j2 j3 ts k = TL.joinL j2 (ts.take k) := if_pos h
  rw [hk]
  unfold lawL
  by_cases h1 : k + 1 < ts.length
  · rw [if_pos h1, if_neg (by omega), if_neg (by omega), take_snocD (d := []) h, jl_snoc]
    intro z
    have := congrArg List.length z
    rw [List.length_take] at this
    simp only [List.length_nil] at this
    omega
  · rw [if_neg h1]
    unfold laidL
    rw [if_neg (by omega), if_neg (by omega)]
    by_cases h2 : ts.length = 2
    · have hk1 : k = 1 := by omega
      subst hk1
      rw [if_pos h2, if_pos h2, take_snocD (k := 0) (d := []) (by omega)]
      rfl
    · rw [if_neg h2, if_neg h2, if_pos (show k = ts.length - 1 by omega), show ts.length - 1 = k by omega]
theorem joinL_len (m : List Nat) : ∀ l : List (List Nat), (TL.joinL m l).length ≤ (l.map List.length).sum + l.length * m.length
  | [] => Nat.zero_le _
  | [a] => by
    show a.length ≤ _
    simp only [List.map_cons, List.map_nil, List.sum_cons, List.sum_nil]
    omega
  | a :: b :: l => by
    have ih := joinL_len m (b :: l)
    have e : TL.joinL m (a :: b :: l) = a ++ (m ++ TL.joinL m (b :: l)) := rfl
    rw [e, List.length_append, List.length_append, List.map_cons, List.sum_cons, List.length_cons, Nat.succ_mul]
    omega
theorem sum_len {l : List Str} {n : Nat} (h : ∀ x ∈ l, x.length ≤ n) : (l.map fun x : Str => x.length).sum ≤ l.length * n := by
  induction l with
  | nil => exact Nat.zero_le _
  | cons a l ih =>
    have h1 := h a (List.mem_cons_self ..)
    have h2 := ih fun x hx => h x (List.mem_cons_of_mem _ hx)
    rw [List.map_cons, List.sum_cons, List.length_cons, Nat.succ_mul]
    omega
theorem sum_tl (l : List Str) : ((l.map TL.tl).map List.length).sum = (l.map fun x : Str => x.length).sum := by
  rw [List.map_map]
  congr 1
theorem JoOk.four {j : List Str} (h : JoOk j) : ∃ j0 j1 j2 j3 : Str, j = [j0, j1, j2, j3] ∧ j0.length ≤ 10 ∧ j1.length ≤ 10 ∧ j2.length ≤ 10 ∧ j3.length ≤ 10 := by
  rcases h with rfl | rfl
  · exact ⟨"", " ", " ", " ", rfl, by decide, by decide, by decide, by decide⟩
  · exact ⟨"none", " and ", ", ", " and ", rfl, by decide, by decide, by decide, by decide⟩
theorem mapS_tl (l : List Str) : (l.map TL.tl).map SX.S = l := by
  rw [List.map_map]
  conv => rhs; rw [← List.map_id l]
  refine List.map_congr_left fun x _ => rfl
section
variable {P : Program} {w : World} {K : PySem.W.Frag} {mg : Str → Option Value} {base : Heap} {σ : L2.St} {H : Hp} {te ta tb : TE}
theorem cutV_last {xs : List V} : cutV xs none (some (-1)) = xs.take (xs.length - 1) := by
  unfold cutV
  have e1 : HT.sIx xs.length 0 none = 0 := rfl
  have e2 : HT.sIx xs.length xs.length (some (-1)) = xs.length - 1 := by
    show (if (-1 : Int) < 0 then (-1 + (xs.length : Int)).toNat else min (-1 : Int).toNat xs.length) = xs.length - 1
    rw [if_pos (by decide)]
    omega
  rw [e1, e2]
  rfl
def sp_laid (K : PySem.W.Frag) : Sp := fun vs H Q _ => ∃ (a b : Addr) (j ts : List Str), vs = [.ref a, .ref b] ∧ JoAt K H a j ∧ SqL K H b (ts.map V.str) ∧ ts.length ≤ 8 ∧ (∀ x ∈ ts, Ok x) ∧ ∀ H2, Ex H H2 → Q (.str (laidT j ts)) H2
theorem spv_laid {a b : Addr} {j ts : List Str} {H : Hp} (h1 : JoAt K H a j) (h2 : SqL K H b (ts.map V.str)) (h3 : ts.length ≤ 8) (h4 : ∀ x ∈ ts, Ok x) : SpV (sp_laid K) [.ref a, .ref b] H (.str (laidT j ts)) := fun H1 e Q q E => ⟨a, b, j, ts, rfl, h1.mono (ExI.of e), ex_l e h2, h3, h4, fun H2 e2 => q H2 e2⟩
theorem at_getD {ts : List Str} {k : Nat} (h : k < ts.length) : atI (ts.map V.str) (k : Int) = some (.str (ts.getD k "")) := atI_nat (by rw [List.getElem?_map, List.getD_eq_getElem?_getD, List.getElem?_eq_getElem h]; rfl)
theorem tl_getD (ts : List Str) (k : Nat) : (ts.map TL.tl).getD k [] = TL.tl (ts.getD k "") := by
  rw [List.getD_eq_getElem?_getD, List.getD_eq_getElem?_getD, List.getElem?_map]
  cases ts[k]? <;> rfl
theorem ok_getD {ts : List Str} (h : ∀ x ∈ ts, Ok x) (k : Nat) : (ts.getD k "").length ≤ 20 := by
  rw [List.getD_eq_getElem?_getD]
  cases e : ts[k]? with
  | none => exact Nat.zero_le _
  | some x => exact (h x (List.mem_of_getElem? e)).1
theorem cat3 (a b c : Str) : a ++ b ++ c = SX.S (TL.tl a ++ (TL.tl b ++ TL.tl c)) := TL.ext_tl (by rw [TL.tl_append, TL.tl_append, List.append_assoc])
theorem sc_laid : FnScope ["joiners", "texts", "none", "two", "middle", "last"] ["joiners", "texts"] (defScope s_laid) := ⟨rfl, rfl, rfl, by decide +kernel, rfl, by decide +kernel, by decide +kernel⟩
theorem ca_laid (T : Ctx K mg) : Ca P w K mg base CX0 1 "laid" (sp_laid K) := by
  obtain ⟨fd, F⟩ := T.fd_laid
  refine caOf F sc_laid T.g_laid (F.bindsN fun _ _ _ _ _ _ us hl => match us, hl with | [_, _], _ => rfl) (fun vs H Q E h => ?_) (fun cdv A outer s H vs Q E hr h => ⟨_, PSs.nox (pss_cons (ps_asg (pv 0) (pg_tup rfl (pgs_cons (pg_name (i := 2) sc_laid.nd rfl (.inl rfl)) (pgs_cons (pg_name (i := 3) sc_laid.nd rfl (.inl rfl)) (pgs_cons (pg_name (i := 4) sc_laid.nd rfl (.inl rfl)) (pgs_cons (pg_name (i := 5) sc_laid.nd rfl (.inl rfl)) pgs_nil))))))
      (pss_cons (ps_if (pt_cmpR (r := rEqD K) (op_eqD hr.units) (pv 1) (pe_lst pa_nil) (nomark _)) (pss_one (ps_ret (pv 2))) pss_nil)
      (pss_cons (ps_if (pt_cmpR op_eq (pe_callB (r := rLen K) call_len (by rfl) T.f_len (by decide +kernel) (pa_cons (pv 1) pa_nil)) pe_int (nomark _)) (pss_one (ps_ret (pe_ix (r := rIxL K) ix_list (pv 1) pe_int (fun _ _ => rfl)))) pss_nil)
      (pss_cons (ps_if (pt_cmpR op_eq (pe_callB (r := rLen K) call_len (by rfl) T.f_len (by decide +kernel) (pa_cons (pv 1) pa_nil)) pe_int (nomark _)) (pss_one (ps_ret (pe_op op_add_str (pe_op op_add_str (pe_ix (r := rIxL K) ix_list (pv 1) pe_int (fun _ _ => rfl)) (pv 3)) (pe_ix (r := rIxL K) ix_list (pv 1) pe_int (fun _ _ => rfl))))) pss_nil)
      (pss_one (ps_ret (pe_op op_add_str (pe_op op_add_str (pe_join (pv 4) (pe_slice (r := rSlL K) sl_list (pv 1) po_none (po_some (pe_un un_neg pe_int)))) (pv 5)) (pe_ix (r := rIxL K) ix_list (pv 1) (pe_un un_neg pe_int) (fun _ _ => rfl))))))))), ?_⟩)
  · obtain ⟨a, b, j, ts, rfl, _⟩ := h; rfl
  · obtain ⟨a, b, j, ts, rfl, ⟨hj, jo⟩, hS, hlen, hok, q⟩ := h
    obtain ⟨j0, j1, j2, j3, rfl, l0, l1, l2, l3⟩ := jo.four
    refine q_asgG (P := fun v _ => v = .ref a) (Ev.toP (ev_var rfl) fun _ _ => rfl) fun v H1 e1 hv => ?_
    subst hv
    refine g_tup (exi_t (ExI.of e1) hj) rfl (g_cons (g_cons (g_cons (g_cons (g_nil ?_)))))
    have lm : (ts.map V.str).length = ts.length := List.length_map ..
    have lm2 : (ts.map TL.tl).length = ts.length := List.length_map ..
    refine q_when (et_test (ev_eqNil (ev_var rfl) (ex_l e1 hS) (ok_strs hok))) (fun hb H2 e2 => ?_) (fun hb H2 e2 => ?_)
    · have h0 : ts.length = 0 := by
        rw [List.isEmpty_iff] at hb
        rw [← lm, hb]; rfl
      have : laidT [j0, j1, j2, j3] ts = j0 := by
        unfold laidT laidL
        rw [lm2, if_pos h0]
        rfl
      rw [this] at q
      exact s_ret (ev_var rfl) fun H3 e3 => q H3 (e1.trans (e2.trans e3))
    have h0 : ts.length ≠ 0 := fun z => by
      have : (ts.map V.str) = [] := List.eq_nil_of_length_eq_zero (by rw [lm, z])
      rw [this] at hb
      cases hb
    have hS2 := ex_l (e1.trans e2) hS
    refine q_when (et_test (ev_op (ev_lenL (ev_var rfl) hS2) ev_c (rv_eq rfl))) (fun hb1 H3 e3 => ?_) (fun hb1 H3 e3 => ?_)
    · have h1 : ts.length = 1 := by
        have := V.int.inj (of_decide_eq_true hb1)
        rw [lm] at this
        omega
      have : laidT [j0, j1, j2, j3] ts = ts.getD 0 "" := by
        unfold laidT laidL
        rw [lm2, if_neg h0, if_pos h1, tl_getD]
      rw [this] at q
      exact s_ret (ev_op (ev_var rfl) ev_c (rv_ixL (ex_l e3 hS2) (at_getD (k := 0) (by omega)))) fun H4 e4 => q H4 (e1.trans (e2.trans (e3.trans e4)))
    have h1 : ts.length ≠ 1 := fun z => by
      have := of_decide_eq_false hb1
      rw [lm, z] at this
      exact this rfl
    have hS3 := ex_l e3 hS2
    refine q_when (et_test (ev_op (ev_lenL (ev_var rfl) hS3) ev_c (rv_eq rfl))) (fun hb2 H4 e4 => ?_) (fun hb2 H4 e4 => ?_)
    · have h2 : ts.length = 2 := by
        have := V.int.inj (of_decide_eq_true hb2)
        rw [lm] at this
        omega
      have : laidT [j0, j1, j2, j3] ts = ts.getD 0 "" ++ j1 ++ ts.getD 1 "" := by
        unfold laidT laidL
        rw [lm2, if_neg h0, if_neg h1, if_pos h2, tl_getD, tl_getD, cat3]
        rfl
      rw [this] at q
      have k0 := ok_getD hok 0
      have k1 := ok_getD hok 1
      exact s_ret (ev_addS (ev_addS (ev_op (ev_var rfl) ev_c (rv_ixL (ex_l e4 hS3) (at_getD (k := 0) (by omega)))) (ev_var rfl) (by omega)) (ev_op (ev_var rfl) ev_c (rv_ixL (ex_l e4 hS3) (at_getD (k := 1) (by omega)))) (by rw [len_cat]; omega)) fun H5 e5 => q H5 (e1.trans (e2.trans (e3.trans (e4.trans e5))))
    have h2 : ts.length ≠ 2 := fun z => by
      have := of_decide_eq_false hb2
      rw [lm, z] at this
      exact this rfl
    have hS4 := ex_l e4 hS3
    have : laidT [j0, j1, j2, j3] ts = Txt.join j2 (ts.take (ts.length - 1)) ++ j3 ++ ts.getD (ts.length - 1) "" := by
      unfold laidT laidL
      rw [lm2, if_neg h0, if_neg h1, if_neg h2, tl_getD, cat3]
      have e := SX.join_S (TL.tl j2) ((ts.take (ts.length - 1)).map TL.tl)
      rw [mapS_tl] at e
      have e2 : Txt.join j2 (ts.take (ts.length - 1)) = SX.S (TL.joinL (TL.tl j2) ((ts.take (ts.length - 1)).map TL.tl)) := e
      rw [e2, List.map_take]
      rfl
    rw [this] at q
    have el := el_sl (K := K) (te := tVar 1) (tl := tNoPart) (th := tPart (tUn (rU fun i => V.int (-i)) (tC (V.int 1)))) (σ := [some (.ref a), some (.ref b), some (.str j0), some (.str j1), some (.str j2), some (.str j3)]) (H := H4) (ev_var rfl) eo_none (eo_some (ev_un ev_c ru_neg)) hS4
    rw [cutV_last, lm, ← List.map_take] at el
    have hsum : ((ts.take (ts.length - 1)).map fun x : Str => x.length).sum ≤ 8 * 20 := Nat.le_trans (sum_len (n := 20) fun x hx => (hok x (List.mem_of_mem_take hx)).1) (Nat.mul_le_mul (by rw [List.length_take]; omega) (Nat.le_refl _))
    have hlt : (ts.take (ts.length - 1)).length * j2.length ≤ 8 * 10 := Nat.mul_le_mul (by rw [List.length_take]; omega) l2
    have hatl : atI (ts.map V.str) (-1) = some (.str (ts.getD (ts.length - 1) "")) := by
      have hne : ts.map V.str ≠ [] := fun z => h0 (by rw [← lm, z]; rfl)
      rw [at_neg hne, List.getLast_eq_getElem, List.getElem_map]
      congr 2
      rw [List.getD_eq_getElem?_getD, List.getElem?_eq_getElem (by omega)]
      simp only [List.length_map]
      rfl
    have hj2 : (Txt.join j2 (ts.take (ts.length - 1))).length ≤ 240 := by
      have e := SX.join_S (TL.tl j2) ((ts.take (ts.length - 1)).map TL.tl)
      rw [mapS_tl] at e
      have e2 : Txt.join j2 (ts.take (ts.length - 1)) = SX.S (TL.joinL (TL.tl j2) ((ts.take (ts.length - 1)).map TL.tl)) := e
      rw [e2, SX.S_len]
      refine Nat.le_trans (joinL_len _ _) ?_
      rw [sum_tl, List.length_map]
      have : (TL.tl j2).length = j2.length := tl_len j2
      rw [this]
      omega
    have kl := ok_getD hok (ts.length - 1)
    exact s_ret (ev_addS (ev_addS (ev_joinN (ev_var rfl) el (by omega)) (ev_var rfl) (by omega)) (ev_op (ev_var rfl) (ev_un ev_c ru_neg) (rv_ixL hS4 hatl)) (by rw [len_cat]; omega)) fun H5 e5 => q H5 (e1.trans (e2.trans (e3.trans (e4.trans e5))))
theorem sc__law_laid : FnScope ["_law_joiners", "_law_texts_here", "_law_found", "_law_k", "_law_joiner"] ["_law_joiners", "_law_texts_here"] (defScope s__law_laid) := ⟨rfl, rfl, rfl, by decide +kernel, rfl, by decide +kernel, by decide +kernel⟩
theorem ca__law_laid (T : Ctx K mg) : Ca P w K mg base CX0 1 "_law_laid" (sp_laid K) := by
  obtain ⟨fd, F⟩ := T.fd__law_laid
  refine caOf F sc__law_laid T.g__law_laid (F.bindsN fun _ _ _ _ _ _ us hl => match us, hl with | [_, _], _ => rfl) (fun vs H Q E h => ?_) (fun cdv A outer s H vs Q E hr h => ⟨_, PSs.nox (pss_cons (ps_if (pt_cmpR (r := rEqD K) (op_eqD hr.units) (pv 1) (pe_lst pa_nil) (nomark _)) (pss_one (ps_ret (pe_ix (r := rIxT K) ix_tup (pv 0) pe_int (fun _ _ => rfl)))) pss_nil)
      (pss_cons (ps_set (i := 2) sc__law_laid.nd rfl (.inl rfl) (pe_ix (r := rIxL K) ix_list (pv 1) pe_int (fun _ _ => rfl)))
      (pss_cons (ps_for PassesOwn.never rfl (pi_range2 (by rfl) T.f_range (pa_cons pe_int (pa_cons (pe_callB (r := rLen K) call_len (by rfl) T.f_len (by decide +kernel) (pa_cons (pv 1) pa_nil)) pa_nil))) (pg_name (i := 3) sc__law_laid.nd rfl (.inl rfl)) (pss_cons (ps_set (i := 4) sc__law_laid.nd rfl (.inl rfl) (pe_ix (r := rIxT K) ix_tup (pv 0) pe_int (fun _ _ => rfl)))
      (pss_cons (ps_if (pt_cmpR op_eq (pv 3) (pe_op op_sub (pe_callB (r := rLen K) call_len (by rfl) T.f_len (by decide +kernel) (pa_cons (pv 1) pa_nil)) pe_int) (nomark _)) (pss_one (ps_set (i := 4) sc__law_laid.nd rfl (.inl rfl) (pe_ix (r := rIxT K) ix_tup (pv 0) pe_int (fun _ _ => rfl)))) pss_nil)
      (pss_cons (ps_if (pt_cmpR op_eq (pe_callB (r := rLen K) call_len (by rfl) T.f_len (by decide +kernel) (pa_cons (pv 1) pa_nil)) pe_int (nomark _)) (pss_one (ps_set (i := 4) sc__law_laid.nd rfl (.inl rfl) (pe_ix (r := rIxT K) ix_tup (pv 0) pe_int (fun _ _ => rfl)))) pss_nil)
      (pss_one (ps_set (i := 2) sc__law_laid.nd rfl (.inl rfl) (pe_op op_add_str (pe_op op_add_str (pv 2) (pv 4)) (pe_ix (r := rIxL K) ix_list (pv 1) (pv 3) (fun _ _ => rfl)))))))))
      (pss_one (ps_ret (pv 2)))))), ?_⟩)
  · obtain ⟨a, b, j, ts, rfl, _⟩ := h; rfl
  · obtain ⟨a, b, j, ts, rfl, ⟨hj, jo⟩, hS, hlen, hok, q⟩ := h
    obtain ⟨j0, j1, j2, j3, rfl, l0, l1, l2, l3⟩ := jo.four
    have lm : (ts.map V.str).length = ts.length := List.length_map ..
    have lm2 : (ts.map TL.tl).length = ts.length := List.length_map ..
    have a0 : atI (([j0, j1, j2, j3] : List Str).map V.str) 0 = some (.str j0) := atI_nat (j := 0) rfl
    have a1 : atI (([j0, j1, j2, j3] : List Str).map V.str) 1 = some (.str j1) := atI_nat (j := 1) rfl
    have a2 : atI (([j0, j1, j2, j3] : List Str).map V.str) 2 = some (.str j2) := atI_nat (j := 2) rfl
    have a3 : atI (([j0, j1, j2, j3] : List Str).map V.str) 3 = some (.str j3) := atI_nat (j := 3) rfl
    refine q_when (et_test (ev_eqNil (ev_var rfl) hS (ok_strs hok))) (fun hb H2 e2 => ?_) (fun hb H2 e2 => ?_)
    · have h0 : ts.length = 0 := by
        rw [List.isEmpty_iff] at hb
        rw [← lm, hb]; rfl
      have : laidT [j0, j1, j2, j3] ts = j0 := by
        unfold laidT laidL
        rw [lm2, if_pos h0]
        rfl
      rw [this] at q
      exact s_ret (ev_op (ev_var rfl) ev_c (rv_ixT (ex_t e2 hj) a0)) fun H3 e3 => q H3 (e2.trans e3)
    have h0 : ts.length ≠ 0 := fun z => by
      have : (ts.map V.str) = [] := List.eq_nil_of_length_eq_zero (by rw [lm, z])
      rw [this] at hb
      cases hb
    refine q_asg (ev_op (ev_var rfl) ev_c (rv_ixL (ex_l e2 hS) (at_getD (k := 0) (by omega)))) fun H3 e3 => ?_
    have E3 := e2.trans e3
    have hf : ∀ k, (SX.S (lawL (TL.tl j0) (TL.tl j1) (TL.tl j2) (TL.tl j3) (ts.map TL.tl) k)).length ≤ 400 := by
      have hsum : (ts.map fun x : Str => x.length).sum ≤ 8 * 20 := Nat.le_trans (sum_len (n := 20) fun x hx => (hok x hx).1) (Nat.mul_le_mul hlen (Nat.le_refl _))
      have hj2 : (TL.tl j2).length = j2.length := tl_len j2
      have hj1 : (TL.tl j1).length = j1.length := tl_len j1
      have hj0 : (TL.tl j0).length = j0.length := tl_len j0
      have hj3 : (TL.tl j3).length = j3.length := tl_len j3
      have hjoin : ∀ k, (TL.joinL (TL.tl j2) ((ts.map TL.tl).take k)).length ≤ 240 := by
        intro k
        refine Nat.le_trans (joinL_len _ _) ?_
        rw [← List.map_take, sum_tl, List.length_map]
        have h1 : ((ts.take k).map fun x : Str => x.length).sum ≤ 8 * 20 := Nat.le_trans (sum_len (n := 20) fun x hx => (hok x (List.mem_of_mem_take hx)).1) (Nat.mul_le_mul (by rw [List.length_take]; omega) (Nat.le_refl _))
        have h2 : (ts.take k).length * (TL.tl j2).length ≤ 8 * 10 := Nat.mul_le_mul (by rw [List.length_take]; omega) (by omega)
        omega
      have hg : ∀ k, ((ts.map TL.tl).getD k []).length ≤ 20 := fun k => by
        rw [tl_getD]
        have := ok_getD hok k
        have e : (TL.tl (ts.getD k "")).length = (ts.getD k "").length := tl_len _
        omega
      intro k
      rw [SX.S_len]
      unfold lawL laidL
      have := hjoin k
      have := hjoin ((ts.map TL.tl).length - 1)
      have := hg 0
      have := hg 1
      have := hg ((ts.map TL.tl).length - 1)
      split
      · omega
      · split
        · omega
        · split
          · omega
          · split
            · simp only [List.length_append]; omega
            · simp only [List.length_append]; omega
    refine q_forR2 (ea_cons ev_c (ea_cons (ev_lenL (ev_var rfl) (ex_l E3 hS)) ea_nil)) ⟨by decide, by decide, by omega, by omega⟩ (fun i σ' H' => ∃ v3 v4, σ' = [some (.ref a), some (.ref b), some (.str (SX.S (lawL (TL.tl j0) (TL.tl j1) (TL.tl j2) (TL.tl j3) (ts.map TL.tl) (i + 1)))), v3, v4] ∧ Ex H H')
      (fun H4 e4 => ⟨none, none, ?_, E3.trans e4⟩) ?_ ?_
    · show _ = [some (V.ref a), some (V.ref b), some (V.str (SX.S (lawL (TL.tl j0) (TL.tl j1) (TL.tl j2) (TL.tl j3) (ts.map TL.tl) 1))), none, none]
      rw [lawL_one (by omega), tl_getD]; rfl
    · rintro i σ' H' hi ⟨v3, v4, rfl, e⟩
      rw [lm] at hi
      have hil : i + 1 < ts.length := by omega
      refine q_asg (ev_op (ev_var rfl) ev_c (rv_ixT (ex_t e hj) a2)) fun H4 e4 => ?_
      have E4 := e.trans e4
      have fin : ∀ H5, Ex H4 H5 → ∀ jn : Str, jn = (if ts.length = 2 then j1 else if i + 1 = ts.length - 1 then j3 else j2) → tAsg (tOp rAddS (tOp rAddS (tVar 2) (tVar 4)) (tOp (rIxL K) (tVar 1) (tVar 3))) (gName 2)
          { nx := fun σ' H' => ∃ v3 v4, σ' = [some (.ref a), some (.ref b), some (.str (SX.S (lawL (TL.tl j0) (TL.tl j1) (TL.tl j2) (TL.tl j3) (ts.map TL.tl) (i + 1 + 1)))), v3, v4] ∧ Ex H H', rt := Q, bk := fun _ _ => False, ct := fun _ _ => False }
          [some (.ref a), some (.ref b), some (.str (SX.S (lawL (TL.tl j0) (TL.tl j1) (TL.tl j2) (TL.tl j3) (ts.map TL.tl) (i + 1)))), some (.int (1 + (i : Int))), some (.str jn)] H5 := by
        intro H5 e5 jn hjn
        have hjl : jn.length ≤ 10 := by
          rw [hjn]
          split
          · exact l1
          · split
            · exact l3
            · exact l2
        have hat : atI (ts.map V.str) (1 + (i : Int)) = some (.str (ts.getD (i + 1) "")) := by
          have : 1 + (i : Int) = ((i + 1 : Nat) : Int) := by omega
          rw [this]
          exact at_getD hil
        have h1 := hf (i + 1)
        have h2 := ok_getD hok (i + 1)
        refine s_asg (ev_addS (ev_addS (ev_var rfl) (ev_var rfl) (by omega)) (ev_op (ev_var rfl) (ev_var rfl) (rv_ixL (ex_l (E4.trans e5) hS) hat)) (by rw [len_cat]; omega)) fun H6 e6 => ⟨some (.int (1 + (i : Int))), some (.str jn), ?_, (E4.trans e5).trans e6⟩
        rw [lawL_step (k := i + 1) (by omega) (by rw [lm2]; exact hil), lm2, tl_getD, cat3]
        have e7 : TL.tl jn = (if ts.length = 2 then TL.tl j1 else if i + 1 = ts.length - 1 then TL.tl j3 else TL.tl j2) := by
          rw [hjn]
          split
          · rfl
          · split <;> rfl
        rw [← e7]
        rfl
      refine q_when (b := decide (i + 1 = ts.length - 1)) (et_is (et_test (ev_op (ev_var rfl) (ev_op (ev_lenL (ev_var rfl) (ex_l E4 hS)) ev_c rv_I0) (rv_eq rfl))) ?_) (fun hb3 H5 e5 => ?_) (fun hb3 H5 e5 => ?_)
      · rw [lm]
        exact decide_eq_decide.mpr ⟨fun h => by have := V.int.inj h; omega, fun h => by congr 1; omega⟩
      · refine s_asg (ev_op (ev_var rfl) ev_c (rv_ixT (ex_t (E4.trans e5) hj) a3)) fun H6 e6 => ?_
        refine q_when (b := decide (ts.length = 2)) (et_is (et_test (ev_op (ev_lenL (ev_var rfl) (ex_l ((E4.trans e5).trans e6) hS)) ev_c (rv_eq rfl))) ?_) (fun hb4 H7 e7 => ?_) (fun hb4 H7 e7 => ?_)
        · rw [lm]
          exact decide_eq_decide.mpr ⟨fun h => by have := V.int.inj h; omega, fun h => by congr 1; omega⟩
        · refine s_asg (ev_op (ev_var rfl) ev_c (rv_ixT (ex_t (((E4.trans e5).trans e6).trans e7) hj) a1)) fun H8 e8 => ?_
          exact fin H8 (e5.trans (e6.trans (e7.trans e8))) j1 (by rw [if_pos (of_decide_eq_true hb4)])
        · exact fin H7 (e5.trans (e6.trans e7)) j3 (by rw [if_neg (of_decide_eq_false hb4), if_pos (of_decide_eq_true hb3)])
      · refine q_when (b := decide (ts.length = 2)) (et_is (et_test (ev_op (ev_lenL (ev_var rfl) (ex_l (E4.trans e5) hS)) ev_c (rv_eq rfl))) ?_) (fun hb4 H7 e7 => ?_) (fun hb4 H7 e7 => ?_)
        · rw [lm]
          exact decide_eq_decide.mpr ⟨fun h => by have := V.int.inj h; omega, fun h => by congr 1; omega⟩
        · refine s_asg (ev_op (ev_var rfl) ev_c (rv_ixT (ex_t ((E4.trans e5).trans e7) hj) a1)) fun H8 e8 => ?_
          exact fin H8 (e5.trans (e7.trans e8)) j1 (by rw [if_pos (of_decide_eq_true hb4)])
        · exact fin H7 (e5.trans e7) j2 (by rw [if_neg (of_decide_eq_false hb4), if_neg (of_decide_eq_false hb3)])
    · rintro σ' H' ⟨v3, v4, rfl, e⟩
      have hend : lawL (TL.tl j0) (TL.tl j1) (TL.tl j2) (TL.tl j3) (ts.map TL.tl) ((((ts.map V.str).length : Nat) : Int) - 1).toNat.succ = laidL (TL.tl j0) (TL.tl j1) (TL.tl j2) (TL.tl j3) (ts.map TL.tl) := by
        unfold lawL
        rw [if_neg (by rw [lm2, lm]; omega)]
      refine s_ret (ev_var rfl) fun H4 e4 => ?_
      have : SX.S (lawL (TL.tl j0) (TL.tl j1) (TL.tl j2) (TL.tl j3) (ts.map TL.tl) ((((ts.map V.str).length : Nat) : Int) - 1).toNat.succ) = laidT [j0, j1, j2, j3] ts := by
        rw [hend]; rfl
      show Q (.str (SX.S (lawL (TL.tl j0) (TL.tl j1) (TL.tl j2) (TL.tl j3) (ts.map TL.tl) ((((ts.map V.str).length : Nat) : Int) - 1).toNat.succ))) H4
      rw [this]
      exact q H4 (e.trans e4)
end
end K71

set_option maxHeartbeats 4000000
/-! K71W13: the set of leap years: RestOf(4, 0, 0), made, holds, below; months_of, first_of. -/
namespace K71
open PySem PySem.Spec PyProof.Rows L2 Evl
section
variable {P : Program} {w : World} {K : PySem.W.Frag} {mg : Str → Option Value} {base : Heap} {σ : L2.St} {H : Hp} {te ta tb : TE}
/-- C(..) by an __init__ that fills the fields -/
theorem evp_make {C : Addr} {sp : Sp} {vs : List V} {E : XK} {t : TA} {R : Addr → Hp → Prop} (ht : EvA t σ H vs) (hs : ∀ (x dx : Addr) (H1 : Hp) (Q : VK) (E : XK), Ex H H1 → H x = none → H1 x = some (.ins C dx []) → (∀ H2, (∀ b o, b ≠ x → H1 b = some o → H2 b = some o) → R x H2 → Q .non H2) → sp (.ref x :: (vs ++ [])) H1 Q E) :
    EvP (tMake C sp [] E t) σ H fun v H2 => ∃ x, v = .ref x ∧ H x = none ∧ R x H2 := fun H1 e Q q => ht H1 e _ fun H2 e2 x dx nx nd ne => by
  have E2 := e.trans e2
  have ex1 : Ex H2 (upd (upd H2 dx (.own x)) x (.ins C dx [])) := fun b o h => by
    rw [upd_ne (ne_of_none h nx), upd_ne (ne_of_none h nd)]
    exact h
  refine hs x dx _ _ E (E2.trans ex1) (fresh_back E2 nx) upd_same fun H3 k r => ⟨rfl, q _ H3 (fun b o h => k b o (ne_of_none (e2 b o h) nx) (ex1 b o (e2 b o h))) ⟨x, rfl, fresh_back E2 nx, r⟩⟩
/-! ### all_rests -/
def sp_all_rests : Sp := fun vs H Q _ => ∃ i : Int, vs = [.int i] ∧ 0 ≤ i ∧ i ≤ 1000 ∧ ∀ H2, Ex H H2 → Q (.int (1 * 2 ^ i.toNat - 1)) H2
theorem spv_all_rests {i : Int} {H : Hp} (h : 0 ≤ i ∧ i ≤ 1000) : SpV sp_all_rests [.int i] H (.int (1 * 2 ^ i.toNat - 1)) := fun H1 e Q q E => ⟨i, rfl, h.1, h.2, fun H2 e2 => q H2 e2⟩
theorem sc_all_rests : FnScope ["span"] ["span"] (defScope s_all_rests) := ⟨rfl, rfl, rfl, by decide +kernel, rfl, by decide +kernel, by decide +kernel⟩
theorem ca_all_rests (T : Ctx K mg) : Ca P w K mg base CX0 1 "all_rests" sp_all_rests := by
  obtain ⟨fd, F⟩ := T.fd_all_rests
  refine caOf F sc_all_rests T.g_all_rests (F.bindsN fun _ _ _ _ _ _ us hl => match us, hl with | [_], _ => rfl) (fun vs H Q E h => ?_) (fun cdv A outer s H vs Q E hr h => ⟨_, PSs.nox (pss_one (ps_ret (pe_op op_sub (pe_op op_shl pe_int (pv 0)) pe_int))), ?_⟩)
  · obtain ⟨i, rfl, _⟩ := h; rfl
  · obtain ⟨i, rfl, h0, h1, q⟩ := h
    exact s_ret (ev_op (ev_op ev_c (ev_var rfl) (rv_pow ⟨h0, by omega, by decide⟩)) ev_c rv_I0) q
/-! ### RestOf -/
def rF (b l h : Int) : List (Str × V) := [("by", .int b), ("low", .int l), ("high", .int h)]
theorem rF_by {b l h : Int} : (rF b l h).lookup ("by" : Str) = some (.int b) := lk_here
theorem rF_low {b l h : Int} : (rF b l h).lookup ("low" : Str) = some (.int l) := (lk_past (by decide +kernel)).trans lk_here
theorem rF_high {b l h : Int} : (rF b l h).lookup ("high" : Str) = some (.int h) := (lk_past (by decide +kernel)).trans ((lk_past (by decide +kernel)).trans lk_here)
theorem rF_no {m : Str} {b l h : Int} (q : ∀ x ∈ (["by", "low", "high"] : List Str), (m == x) = false) : (rF b l h).lookup m = none := by
  unfold rF
  rw [lk_past (q _ (by simp)), lk_past (q _ (by simp)), lk_past (q _ (by simp))]
  rfl
theorem put_past {f g : Str} {v x : V} {r : List (Str × V)} (h : ¬ g = f) : putF f v ((g, x) :: r) = (g, x) :: putF f v r := if_neg h
/-- the one of the leap years -/
def RestAt (K : PySem.W.Frag) (H : Hp) (a : Addr) : Prop := ∃ dx, H a = some (.ins (He.ga K "RestOf") dx (rF 4 0 0))
theorem RestAt.mono {H H' : Hp} {a : Addr} (e : Ex H H') (h : RestAt K H a) : RestAt K H' a := let ⟨dx, h⟩ := h; ⟨dx, e a _ h⟩
def sp_RestOf (K : PySem.W.Frag) : Sp := fun vs H Q _ => ∃ (x dx : Addr) (b l h : Int), vs = [.ref x, .int b, .int l, .int h] ∧ H x = some (.ins (He.ga K "RestOf") dx []) ∧ ∀ H2, (∀ b o, b ≠ x → H b = some o → H2 b = some o) → H2 x = some (.ins (He.ga K "RestOf") dx (rF b l h)) → Q .non H2
theorem sc_RestOf_init : FnScope ["self", "by", "low", "high"] ["self", "by", "low", "high"] (defScope s_RestOf_init) := ⟨rfl, rfl, rfl, by decide +kernel, rfl, by decide +kernel, by decide +kernel⟩
theorem ma_RestOf (T : Ctx K mg) : Ma P w K mg base CX0 1 "RestOf" (He.ga K "RestOf") (sp_RestOf K) := by
  obtain ⟨fd, F⟩ := T.fd_RestOf_init
  refine maOf F sc_RestOf_init T.mk_RestOf T.g_RestOf (F.bindsN fun _ _ _ _ _ _ us hl => match us, hl with | [_, _, _, _], _ => rfl) (fun vs H Q E h => ?_) (fun cdv A outer s H vs Q E hr h => ⟨_, PSs.nox (pss_cons (ps_fld (pv 0) (pv 1) rfl)
      (pss_cons (ps_fld (pv 0) (pv 2) rfl)
      (pss_one (ps_fld (pv 0) (pv 3) rfl)))), ?_⟩)
  · obtain ⟨x, dx, b, l, h, rfl, _⟩ := h; rfl
  · obtain ⟨x, dx, b, l, h, rfl, hx, q⟩ := h
    refine ⟨_, rfl, _, rfl, x, _, dx, _, rfl, hx, T.cl_RestOf, T.na_RestOf_by, (by show 0 < 1000; decide), ?_⟩
    refine ⟨_, rfl, _, rfl, x, _, dx, _, rfl, upd_same, T.cl_RestOf, T.na_RestOf_low, (by show 1 < 1000; decide), ?_⟩
    refine ⟨_, rfl, _, rfl, x, _, dx, _, rfl, upd_same, T.cl_RestOf, T.na_RestOf_high, (by show 2 < 1000; decide), ?_⟩
    refine q _ (fun c o hc e => ?_) ?_
    · rw [upd_ne hc, upd_ne hc, upd_ne hc]
      exact e
    · rw [upd_same]
      refine congrArg (fun f => some (HO.ins (He.ga K "RestOf") dx f)) ?_
      rw [show putF "by" (V.int b) [] = [(("by" : Str), V.int b)] from rfl, put_past (by decide +kernel), show putF "low" (V.int l) [] = [(("low" : Str), V.int l)] from rfl, put_past (by decide +kernel), put_past (by decide +kernel)]
      rfl
def sp_rholds (K : PySem.W.Frag) : Sp := fun vs H Q _ => ∃ (a : Addr) (n : Int), vs = [.ref a, .int n] ∧ RestAt K H a ∧ ∀ H2, Ex H H2 → Q (.bl (decide (n % 4 = 0))) H2
theorem spv_rholds {a : Addr} {n : Int} {H : Hp} (h : RestAt K H a) : SpV (sp_rholds K) [.ref a, .int n] H (.bl (decide (n % 4 = 0))) := fun H1 e Q q E => ⟨a, n, rfl, h.mono e, fun H2 e2 => q H2 e2⟩
theorem sc_RestOf_holds : FnScope ["self", "n"] ["self", "n"] (defScope s_RestOf_holds) := ⟨rfl, rfl, rfl, by decide +kernel, rfl, by decide +kernel, by decide +kernel⟩
theorem me_rholds (T : Ctx K mg) : Me P w K mg base CX0 1 (He.ga K "RestOf") "holds" (sp_rholds K) [] := by
  obtain ⟨fd, F⟩ := T.fd_RestOf_holds
  refine meOf F sc_RestOf_holds T.cl_RestOf T.me_RestOf_holds (F.bindsN fun _ _ _ _ _ _ us hl => match us, hl with | [_, _], _ => rfl) (fun vs H Q E h => ?_) (fun cdv A outer s H vs Q E hr h => ⟨_, PSs.nox (pss_one (ps_ret (pe_chain op_le op_le (pe_fld (pv 0) rfl) (pe_op op_mod (pv 1) (pe_fld (pv 0) rfl)) (pe_fld (pv 0) rfl)))), ?_⟩)
  · obtain ⟨a, n, rfl, _⟩ := h; rfl
  · obtain ⟨a, n, rfl, ⟨dx, ha⟩, q⟩ := h
    refine s_ret (ev_is (ev_chain (ev_fld (ev_var rfl) ha T.cl_RestOf T.na_RestOf_low rF_low) (ev_op (ev_var rfl) (ev_fld (ev_var rfl) ha T.cl_RestOf T.na_RestOf_by rF_by) rv_mod) rv_I0 fun _ => ⟨(ev_fld (ev_var rfl) ha T.cl_RestOf T.na_RestOf_high rF_high), rv_I0⟩) ?_) q
    have h0 := emod_rng n (m := 4) (by decide)
    rw [decide_eq_true h0.1, Bool.true_and]
    exact congrArg V.bl (decide_eq_decide.mpr (by omega))
def sp_rspan (K : PySem.W.Frag) : Sp := fun vs H Q _ => ∃ a : Addr, vs = [.ref a] ∧ RestAt K H a ∧ ∀ H2, Ex H H2 → Q (.int 4) H2
theorem spv_rspan {a : Addr} {H : Hp} (h : RestAt K H a) : SpV (sp_rspan K) [.ref a] H (.int 4) := fun H1 e Q q E => ⟨a, rfl, h.mono e, fun H2 e2 => q H2 e2⟩
theorem sc_RestOf_span : FnScope ["self"] ["self"] (defScope s_RestOf_span) := ⟨rfl, rfl, rfl, by decide +kernel, rfl, by decide +kernel, by decide +kernel⟩
theorem me_rspan (T : Ctx K mg) : Me P w K mg base CX0 1 (He.ga K "RestOf") "span" (sp_rspan K) [] := by
  obtain ⟨fd, F⟩ := T.fd_RestOf_span
  refine meOf F sc_RestOf_span T.cl_RestOf T.me_RestOf_span (F.bindsN fun _ _ _ _ _ _ us hl => match us, hl with | [_], _ => rfl) (fun vs H Q E h => ?_) (fun cdv A outer s H vs Q E hr h => ⟨_, PSs.nox (pss_one (ps_ret (pe_fld (pv 0) rfl))), ?_⟩)
  · obtain ⟨a, rfl, _⟩ := h; rfl
  · obtain ⟨a, rfl, ⟨dx, ha⟩, q⟩ := h
    exact s_ret (ev_fld (ev_var rfl) ha T.cl_RestOf T.na_RestOf_by rF_by) q
def StrV (v : V) (H : Hp) : Prop := ∃ p t, v = .ref p ∧ H p = some (.lst [.ref t]) ∧ H t = some (.tup [.int 0, .int 1])
def sp_rstr (K : PySem.W.Frag) : Sp := fun vs H Q _ => ∃ a : Addr, vs = [.ref a, .int 4] ∧ RestAt K H a ∧ ∀ v H2, Ex H H2 → StrV v H2 → Q v H2
theorem spp_rstr {a : Addr} {H : Hp} (h : RestAt K H a) : SpP (sp_rstr K) [.ref a, .int 4] H StrV := fun H1 e Q q E => ⟨a, rfl, h.mono e, q⟩
theorem sc_RestOf_stretches : FnScope ["self", "span", "part", "mask", "k"] ["self", "span"] (defScope s_RestOf_stretches) := ⟨rfl, rfl, rfl, by decide +kernel, rfl, by decide +kernel, by decide +kernel⟩
theorem me_rstr (T : Ctx K mg) (c_all_rests : Ca P w K mg base CX0 1 "all_rests" sp_all_rests) : Me P w K mg base CX0 2 (He.ga K "RestOf") "stretches" (sp_rstr K) [] := by
  obtain ⟨fd, F⟩ := T.fd_RestOf_stretches
  refine meOf F sc_RestOf_stretches T.cl_RestOf T.me_RestOf_stretches (F.bindsN fun _ _ _ _ _ _ us hl => match us, hl with | [_, _], _ => rfl) (fun vs H Q E h => ?_) (fun cdv A outer s H vs Q E hr h => ⟨_, PSs.nox (pss_cons (ps_set (i := 2) sc_RestOf_stretches.nd rfl (.inl rfl) (pe_op op_shl (pe_ca c_all_rests hr (by first | decide | omega) (by rfl) (pa_cons (pe_op op_add (pe_op op_sub (pe_fld (pv 0) rfl) (pe_fld (pv 0) rfl)) pe_int) pa_nil)) (pe_fld (pv 0) rfl)))
      (pss_cons (ps_set (i := 3) sc_RestOf_stretches.nd rfl (.inl rfl) pe_int)
      (pss_cons (ps_for PassesOwn.never rfl (pi_range1 (by rfl) T.f_range (pa_cons (pe_op op_fdiv (pv 1) (pe_fld (pv 0) rfl)) pa_nil)) (pg_name (i := 4) sc_RestOf_stretches.nd rfl (.inl rfl)) (pss_one (ps_set (i := 3) sc_RestOf_stretches.nd rfl (.inl rfl) (pe_op op_or (pv 3) (pe_op op_shl (pv 2) (pe_op op_mul (pv 4) (pe_fld (pv 0) rfl)))))))
      (pss_one (ps_ret (pe_lst (pa_cons (pe_tup (pa_cons pe_int (pa_cons (pv 3) pa_nil))) pa_nil))))))), ?_⟩)
  · obtain ⟨a, rfl, _⟩ := h; rfl
  · obtain ⟨a, rfl, ⟨dx, ha⟩, q⟩ := h
    refine q_asg (ev_op (ev_call (ea_cons (ev_op (ev_op (ev_fld (ev_var rfl) ha T.cl_RestOf T.na_RestOf_high rF_high) (ev_fld (ev_var rfl) ha T.cl_RestOf T.na_RestOf_low rF_low) rv_I0) ev_c rv_I0) ea_nil) (spv_all_rests (by decide))) (ev_fld (ev_var rfl) ha T.cl_RestOf T.na_RestOf_low rF_low) rv_pow) fun H1 e1 => ?_
    refine q_asg ev_c fun H2 e2 => ?_
    have E2 := e1.trans e2
    refine q_forR1 (ea_cons (ev_op (ev_var rfl) (ev_fld (ev_var rfl) (E2 a _ ha) T.cl_RestOf T.na_RestOf_by rF_by) rv_div) ea_nil) (by decide) (fun i σ' H' => ∃ v4, σ' = [some (.ref a), some (.int 4), some (.int 1), some (.int (if i = 0 then 0 else 1)), v4] ∧ Ex H H')
      (fun H3 e3 => ⟨none, rfl, E2.trans e3⟩) ?_ ?_
    · rintro i σ' H' hi ⟨v4, rfl, e⟩
      have hi0 : i = 0 := by omega
      subst hi0
      refine s_asg (ev_op (ev_var rfl) (ev_op (ev_var rfl) (ev_op (ev_var rfl) (ev_fld (ev_var rfl) (e a _ ha) T.cl_RestOf T.na_RestOf_by rF_by) rv_mul2) rv_pow) rv_I0) fun H3 e3 => ⟨some (.int ((0 : Nat) : Int)), ?_, e.trans e3⟩
      have : Builtin.bitOr (if (0 : Nat) = 0 then 0 else 1) (1 * 2 ^ ((((0 : Nat) : Int) * 4)).toNat) = 1 := by decide +kernel
      show [_, _, _, some (V.int (Builtin.bitOr (if (0 : Nat) = 0 then 0 else 1) (1 * 2 ^ ((((0 : Nat) : Int) * 4)).toNat))), _] = _
      rw [this]
      rfl
    · rintro σ' H' ⟨v4, rfl, e⟩
      refine s_retP (evp_lst (W := fun vs H1 => ∃ t, vs = [.ref t] ∧ H1 t = some (.tup [.int 0, .int 1])) ?_ (fun vs H1 ⟨t, h, _⟩ => by rw [h]; exact Nat.le_of_ble_eq_true rfl) (fun vs H1 H2 e ⟨t, h1, h2⟩ => ⟨t, h1, e t _ h2⟩)) fun v H3 e3 h3 => ?_
      · refine eap_cons (EvU.toP (eu_tup (ea_cons ev_c (ea_cons (ev_var rfl) ea_nil)) (Nat.le_of_ble_eq_true rfl))) (fun v H1 e1 hv => eap_nil) (fun v vs H1 H2 _ e2 hv hvs => ?_)
        obtain ⟨t, rfl, _, ht⟩ := hv
        subst hvs
        exact ⟨t, rfl, e2 t _ ht⟩
      · obtain ⟨p, vs, rfl, _, hp, t, rfl, ht⟩ := h3
        exact q _ H3 (e.trans e3) ⟨p, t, rfl, hp, ht⟩
/-! ### made, holds -/
def CondAt (K : PySem.W.Frag) (H : Hp) (a : Addr) : Prop := SqT K H a [.str "rest", .int 4, .int 0, .int 0]
def sp_made (K : PySem.W.Frag) : Sp := fun vs H Q _ => ∃ a : Addr, vs = [.ref a] ∧ CondAt K H a ∧ ∀ v H2, Ex H H2 → (∃ x, v = .ref x ∧ RestAt K H2 x) → Q v H2
theorem spp_made {a : Addr} {H : Hp} (h : CondAt K H a) : SpP (sp_made K) [.ref a] H fun v H2 => ∃ x, v = .ref x ∧ RestAt K H2 x := fun H1 e Q q E => ⟨a, rfl, ex_t e h, q⟩
theorem sc_made : FnScope ["condition", "how", "inner", "one"] ["condition"] (defScope s_made) := ⟨rfl, rfl, rfl, by decide +kernel, rfl, by decide +kernel, by decide +kernel⟩
theorem ca_made (T : Ctx K mg) (c_RestOf : Ma P w K mg base CX0 1 "RestOf" (He.ga K "RestOf") (sp_RestOf K)) : Ca P w K mg base CX0 3 "made" (sp_made K) := by
  obtain ⟨fd, F⟩ := T.fd_made
  refine caOf F sc_made T.g_made (F.bindsN fun _ _ _ _ _ _ us hl => match us, hl with | [_], _ => rfl) (fun vs H Q E h => ?_) (fun cdv A outer s H vs Q E hr h => ⟨_, PSs.nox (pss_cons (ps_set (i := 1) sc_made.nd rfl (.inl rfl) (pe_ix (r := rIxT K) ix_tup (pv 0) pe_int (fun _ _ => rfl)))
      (pss_cons (ps_if (pt_cmpR op_eq (pv 1) pe_str (nomark _)) (pss_one (ps_ret (pe_ma c_RestOf hr (by first | decide | omega) (by rfl) (pa_cons (pe_ix (r := rIxT K) ix_tup (pv 0) pe_int (fun _ _ => rfl)) (pa_cons (pe_ix (r := rIxT K) ix_tup (pv 0) pe_int (fun _ _ => rfl)) (pa_cons (pe_ix (r := rIxT K) ix_tup (pv 0) pe_int (fun _ _ => rfl)) pa_nil)))))) pss_nil)
      (pss_cons ps_never (pss_cons ps_never (pss_cons ps_never (pss_cons ps_never (pss_one ps_never))))))), ?_⟩)
  · obtain ⟨a, rfl, _⟩ := h; rfl
  · obtain ⟨a, rfl, ha, q⟩ := h
    have t0 : atI [V.str "rest", .int 4, .int 0, .int 0] 0 = some (.str "rest") := atI_nat (j := 0) rfl
    have t1 : atI [V.str "rest", .int 4, .int 0, .int 0] 1 = some (.int 4) := atI_nat (j := 1) rfl
    have t2 : atI [V.str "rest", .int 4, .int 0, .int 0] 2 = some (.int 0) := atI_nat (j := 2) rfl
    have t3 : atI [V.str "rest", .int 4, .int 0, .int 0] 3 = some (.int 0) := atI_nat (j := 3) rfl
    refine q_asg (ev_op (ev_var rfl) ev_c (rv_ixT ha t0)) fun H1 e1 => ?_
    refine q_when (et_test (ev_op (ev_var rfl) ev_c (rv_eq rfl))) (fun hb H2 e2 => ?_) (fun hb H2 e2 => absurd hb (by decide +kernel))
    have ha2 := ex_t (e1.trans e2) ha
    refine s_retP (evp_make (R := fun x H2 => RestAt K H2 x) (ea_cons (ev_op (ev_var rfl) ev_c (rv_ixT ha2 t1)) (ea_cons (ev_op (ev_var rfl) ev_c (rv_ixT ha2 t2)) (ea_cons (ev_op (ev_var rfl) ev_c (rv_ixT ha2 t3)) ea_nil))) fun x dx H3 Q' E' e3 _ hx k => ?_) fun v H3 e3 ⟨x, hv, _, hr⟩ => q v H3 ((e1.trans e2).trans e3) ⟨x, hv, hr⟩
    exact ⟨x, dx, 4, 0, 0, rfl, hx, fun H4 k2 h4 => k H4 k2 ⟨dx, h4⟩⟩
def sp_holds (K : PySem.W.Frag) : Sp := fun vs H Q _ => ∃ (a : Addr) (n : Int), vs = [.ref a, .int n] ∧ CondAt K H a ∧ ∀ H2, Ex H H2 → Q (.bl (decide (n % 4 = 0))) H2
theorem spv_holds {a : Addr} {n : Int} {H : Hp} (h : CondAt K H a) : SpV (sp_holds K) [.ref a, .int n] H (.bl (decide (n % 4 = 0))) := fun H1 e Q q E => ⟨a, n, rfl, ex_t e h, fun H2 e2 => q H2 e2⟩
theorem sc_holds : FnScope ["condition", "n"] ["condition", "n"] (defScope s_holds) := ⟨rfl, rfl, rfl, by decide +kernel, rfl, by decide +kernel, by decide +kernel⟩
theorem ca_holds (T : Ctx K mg) (c_made : Ca P w K mg base CX0 3 "made" (sp_made K)) (c_holds : Me P w K mg base CX0 1 (He.ga K "RestOf") "holds" (sp_rholds K) []) : Ca P w K mg base CX0 4 "holds" (sp_holds K) := by
  obtain ⟨fd, F⟩ := T.fd_holds
  refine caOf F sc_holds T.g_holds (F.bindsN fun _ _ _ _ _ _ us hl => match us, hl with | [_, _], _ => rfl) (fun vs H Q E h => ?_) (fun cdv A outer s H vs Q E hr h => ⟨_, PSs.nox (pss_one (ps_ret (pe_me c_holds hr (by first | decide | omega) (pe_ca c_made hr (by first | decide | omega) (by rfl) (pa_cons (pv 0) pa_nil)) (pa_cons (pv 1) pa_nil)))), ?_⟩)
  · obtain ⟨a, n, rfl, _⟩ := h; rfl
  · obtain ⟨a, n, rfl, ha, q⟩ := h
    refine s_ret (evp_is (evp_methP (vs := [.int n]) (evp_call (ea_cons (ev_var rfl) ea_nil) (spp_made ha)) fun v H1 e1 ⟨x, hv, dx, hx⟩ => ?_)) q
    exact ⟨x, dx, _, hv, hx, rF_no (by decide +kernel), ea_cons (ev_var rfl) ea_nil, spp_v (spv_rholds ⟨dx, hx⟩) fun _ _ => rfl⟩
/-! ### turned, bits_in, below -/
def sp_turned : Sp := fun vs H Q _ => vs = [.int 1, .int 4, .int 0] ∧ ∀ H2, Ex H H2 → Q (.int 1) H2
theorem spv_turned {H : Hp} : SpV sp_turned [.int 1, .int 4, .int 0] H (.int 1) := fun H1 e Q q E => ⟨rfl, fun H2 e2 => q H2 e2⟩
theorem sc_turned : FnScope ["mask", "span", "begin", "rest"] ["mask", "span", "begin"] (defScope s_turned) := ⟨rfl, rfl, rfl, by decide +kernel, rfl, by decide +kernel, by decide +kernel⟩
theorem ca_turned (T : Ctx K mg) (c_all_rests : Ca P w K mg base CX0 1 "all_rests" sp_all_rests) : Ca P w K mg base CX0 2 "turned" sp_turned := by
  obtain ⟨fd, F⟩ := T.fd_turned
  refine caOf F sc_turned T.g_turned (F.bindsN fun _ _ _ _ _ _ us hl => match us, hl with | [_, _, _], _ => rfl) (fun vs H Q E h => ?_) (fun cdv A outer s H vs Q E hr h => ⟨_, PSs.nox (pss_cons (ps_set (i := 3) sc_turned.nd rfl (.inl rfl) (pe_op op_mod (pv 2) (pv 1)))
      (pss_one (ps_ret (pe_op op_and (pe_op op_or (pe_op op_shr (pv 0) (pv 3)) (pe_op op_shl (pv 0) (pe_op op_sub (pv 1) (pv 3)))) (pe_ca c_all_rests hr (by first | decide | omega) (by rfl) (pa_cons (pv 1) pa_nil)))))), ?_⟩)
  · obtain ⟨rfl, _⟩ := h; rfl
  · obtain ⟨rfl, q⟩ := h
    refine q_asg (ev_op (ev_var rfl) (ev_var rfl) rv_mod) fun H1 e1 => ?_
    refine s_ret (ev_is (ev_op (ev_op (ev_op (ev_var rfl) (ev_var rfl) rv_shr) (ev_op (ev_var rfl) (ev_op (ev_var rfl) (ev_var rfl) rv_I0) rv_pow) rv_I0) (ev_call (ea_cons (ev_var rfl) ea_nil) (spv_all_rests (by decide))) rv_I0) ?_) fun H2 e2 => q H2 (e1.trans e2)
    decide +kernel
def sp_bits : Sp := fun vs H Q _ => ∃ b : Nat, vs = [.int (b : Int)] ∧ b < 2 ∧ ∀ H2, Ex H H2 → Q (.int (b : Int)) H2
theorem spv_bits {b : Nat} {H : Hp} (h : b < 2) : SpV sp_bits [.int (b : Int)] H (.int (b : Int)) := fun H1 e Q q E => ⟨b, rfl, h, fun H2 e2 => q H2 e2⟩
theorem bits_step : ∀ i : Fin 9, ∀ b : Fin 2, Builtin.bitAnd (b.1 : Int) ((1 * 2 ^ (512 : Int).toNat - 1) / (1 * 2 ^ ((2 : Int) ^ i.1).toNat + 1)) + Builtin.bitAnd ((b.1 : Int) / 2 ^ ((2 : Int) ^ i.1).toNat) ((1 * 2 ^ (512 : Int).toNat - 1) / (1 * 2 ^ ((2 : Int) ^ i.1).toNat + 1)) = (b.1 : Int) := by decide +kernel
theorem bits_div : ∀ i : Fin 9, (0 : Int) < 1 * 2 ^ ((2 : Int) ^ i.1).toNat + 1 ∧ ((1 : Int) * 2 ^ ((2 : Int) ^ i.1).toNat + 1).natAbs < 2 ^ 300 := by decide +kernel
theorem bits_rng : ∀ i : Fin 10, 0 ≤ (2 : Int) ^ i.1 ∧ (2 : Int) ^ i.1 ≤ 512 ∧ ((2 : Int) ^ i.1 < 512 ↔ i.1 < 9) := by decide +kernel
theorem sc_bits_in : FnScope ["mask", "step", "some"] ["mask"] (defScope s_bits_in) := ⟨rfl, rfl, rfl, by decide +kernel, rfl, by decide +kernel, by decide +kernel⟩
theorem ca_bits_in (T : Ctx K mg) (c_all_rests : Ca P w K mg base CX0 1 "all_rests" sp_all_rests) : Ca P w K mg base CX0 2 "bits_in" sp_bits := by
  obtain ⟨fd, F⟩ := T.fd_bits_in
  refine caOf F sc_bits_in T.g_bits_in (F.bindsN fun _ _ _ _ _ _ us hl => match us, hl with | [_], _ => rfl) (fun vs H Q E h => ?_) (fun cdv A outer s H vs Q E hr h => ⟨_, PSs.nox (pss_cons (ps_set (i := 1) sc_bits_in.nd rfl (.inl rfl) pe_int)
      (pss_cons (ps_while PassesOwn.never (pt_cmpR op_lt (pv 1) pe_int (nomark _)) (pss_cons (ps_set (i := 2) sc_bits_in.nd rfl (.inl rfl) (pe_op op_fdivW (pe_ca c_all_rests hr (by first | decide | omega) (by rfl) (pa_cons pe_int pa_nil)) (pe_op op_add (pe_op op_shl pe_int (pv 1)) pe_int)))
      (pss_cons (ps_set (i := 0) sc_bits_in.nd rfl (.inl rfl) (pe_op op_add (pe_op op_and (pv 0) (pv 2)) (pe_op op_and (pe_op op_shr (pv 0) (pv 1)) (pv 2))))
      (pss_one (ps_set (i := 1) sc_bits_in.nd rfl (.inl rfl) (pe_op op_mul pe_int (pv 1)))))))
      (pss_one (ps_ret (pv 0))))), ?_⟩)
  · obtain ⟨b, rfl, _⟩ := h; rfl
  · obtain ⟨b, rfl, hb2, q⟩ := h
    refine q_asg ev_c fun H1 e1 => ?_
    refine q_while (fun mm σ' H' => ∃ (i : Nat) (v2 : Option V), i + mm = 9 ∧ σ' = [some (.int (b : Int)), some (.int (2 ^ i)), v2] ∧ Ex H H') 9 ⟨0, none, rfl, rfl, e1⟩ ?_
    rintro mm σ' H' ⟨i, v2, him, rfl, e⟩
    have hr10 : 0 ≤ (2 : Int) ^ i ∧ (2 : Int) ^ i ≤ 512 ∧ ((2 : Int) ^ i < 512 ↔ i < 9) := bits_rng ⟨i, by omega⟩
    refine ⟨_, et_test (ev_op (ev_var rfl) ev_c rv_I0), fun hb H3 e3 => ?_, fun hb H3 e3 => ?_⟩
    · have hi : i < 9 := hr10.2.2.mp (of_decide_eq_true hb)
      have hd := bits_div ⟨i, hi⟩
      have hs := bits_step ⟨i, hi⟩ ⟨b, hb2⟩
      refine ⟨fun σ2 H2' => ∃ v2, σ2 = [some (.int (b : Int)), some (.int (2 ^ (i + 1))), v2] ∧ Ex H H2', ?_, ?_⟩
      · rintro σ2 H2' ⟨v2, rfl, ee⟩
        exact ⟨mm - 1, by omega, i + 1, v2, by omega, rfl, ee⟩
      · refine q_asg (ev_op (ev_call (ea_cons ev_c ea_nil) (spv_all_rests (by decide))) (ev_op (ev_op ev_c (ev_var rfl) (rv_pow ⟨hr10.1, by omega, by decide⟩)) ev_c rv_I0) (rv_I (wide_div hd.1 hd.2 (by decide) (by decide)))) fun H4 e4 => ?_
        refine q_asg (ev_op (ev_op (ev_var rfl) (ev_var rfl) rv_I0) (ev_op (ev_op (ev_var rfl) (ev_var rfl) (rv_shr hr10.1)) (ev_var rfl) rv_I0) rv_I0) fun H5 e5 => ?_
        refine s_asg (ev_op ev_c (ev_var rfl) rv_mul1) fun H6 e6 => ⟨some (.int ((1 * 2 ^ (512 : Int).toNat - 1) / (1 * 2 ^ ((2 : Int) ^ i).toNat + 1))), ?_, e.trans ((e3.trans e4).trans (e5.trans e6))⟩
        have h2 : (2 : Int) * 2 ^ i = 2 ^ (i + 1) := by rw [Int.pow_succ, Int.mul_comm]
        rw [← h2]
        show [some (V.int (Builtin.bitAnd (b : Int) ((1 * 2 ^ (512 : Int).toNat - 1) / (1 * 2 ^ ((2 : Int) ^ i).toNat + 1)) + Builtin.bitAnd ((b : Int) / 2 ^ ((2 : Int) ^ i).toNat) ((1 * 2 ^ (512 : Int).toNat - 1) / (1 * 2 ^ ((2 : Int) ^ i).toNat + 1)))), _, _] = _
        rw [hs]
    · exact s_ret (ev_var rfl) fun H4 e4 => q H4 ((e.trans e3).trans e4)
def lp (n : Int) : Int := (n + 3) / 4
def sp_below (K : PySem.W.Frag) : Sp := fun vs H Q _ => ∃ (a : Addr) (n : Int), vs = [.ref a, .int n] ∧ CondAt K H a ∧ 0 ≤ n ∧ ∀ H2, Ex H H2 → Q (.int (lp n)) H2
theorem spv_below {a : Addr} {n : Int} {H : Hp} (h : CondAt K H a) (hn : 0 ≤ n) : SpV (sp_below K) [.ref a, .int n] H (.int (lp n)) := fun H1 e Q q E => ⟨a, n, rfl, ex_t e h, hn, fun H2 e2 => q H2 e2⟩
theorem sc_below : FnScope ["condition", "n", "whole", "span", "rows", "found", "k", "row", "end", "many", "rest", "seen"] ["condition", "n"] (defScope s_below) := ⟨rfl, rfl, rfl, by decide +kernel, rfl, by decide +kernel, by decide +kernel⟩
theorem ca_below (T : Ctx K mg) (c_made : Ca P w K mg base CX0 3 "made" (sp_made K)) (c_span : Me P w K mg base CX0 1 (He.ga K "RestOf") "span" (sp_rspan K) []) (c_stretches : Me P w K mg base CX0 2 (He.ga K "RestOf") "stretches" (sp_rstr K) []) (c_turned : Ca P w K mg base CX0 2 "turned" sp_turned) (c_bits_in : Ca P w K mg base CX0 2 "bits_in" sp_bits) (c_all_rests : Ca P w K mg base CX0 1 "all_rests" sp_all_rests) : Ca P w K mg base CX0 4 "below" (sp_below K) := by
  obtain ⟨fd, F⟩ := T.fd_below
  refine caOf F sc_below T.g_below (F.bindsN fun _ _ _ _ _ _ us hl => match us, hl with | [_, _], _ => rfl) (fun vs H Q E h => ?_) (fun cdv A outer s H vs Q E hr h => ⟨_, PSs.nox (pss_cons (ps_set (i := 2) sc_below.nd rfl (.inl rfl) (pe_ca c_made hr (by first | decide | omega) (by rfl) (pa_cons (pv 0) pa_nil)))
      (pss_cons (ps_set (i := 3) sc_below.nd rfl (.inl rfl) (pe_me0 c_span hr (by first | decide | omega) (pv 2)))
      (pss_cons (ps_set (i := 4) sc_below.nd rfl (.inl rfl) (pe_me c_stretches hr (by first | decide | omega) (pv 2) (pa_cons (pv 3) pa_nil)))
      (pss_cons (ps_set (i := 5) sc_below.nd rfl (.inl rfl) pe_int)
      (pss_cons (ps_for PassesOwn.never rfl (pi_enum (by rfl) T.f_enumerate (pa_cons (pv 4) pa_nil)) (pg_tup rfl (pgs_cons (pg_name (i := 6) sc_below.nd rfl (.inl rfl)) (pgs_cons (pg_name (i := 7) sc_below.nd rfl (.inl rfl)) pgs_nil))) (pss_cons (ps_set (i := 8) sc_below.nd rfl (.inl rfl) (pv 1))
      (pss_cons (ps_if (pt_cmpR op_lt (pe_op op_add (pv 6) pe_int) (pe_callB (r := rLen K) call_len (by rfl) T.f_len (by decide +kernel) (pa_cons (pv 4) pa_nil)) (nomark _)) (pss_one (ps_set (i := 8) sc_below.nd rfl (.inl rfl) (pe_callB (call_min2 rfl) (by rfl) T.f_min (by decide +kernel) (pa_cons (pv 1) (pa_cons (pe_ix (r := rIxT K) ix_tup (pe_ix (r := rIxL K) ix_list (pv 4) (pe_op op_add (pv 6) pe_int) (fun _ _ => rfl)) pe_int (fun _ _ => rfl)) pa_nil))))) pss_nil)
      (pss_one (ps_if (pt_cmpR op_lt (pe_ix (r := rIxT K) ix_tup (pv 7) pe_int (fun _ _ => rfl)) (pv 8) (nomark _)) (pss_cons (ps_asg (pe_callB call_divmod (by rfl) T.f_divmod (by decide +kernel) (pa_cons (pe_op op_sub (pv 8) (pe_ix (r := rIxT K) ix_tup (pv 7) pe_int (fun _ _ => rfl))) (pa_cons (pv 3) pa_nil))) (pg_tup rfl (pgs_cons (pg_name (i := 9) sc_below.nd rfl (.inl rfl)) (pgs_cons (pg_name (i := 10) sc_below.nd rfl (.inl rfl)) pgs_nil))))
      (pss_cons (ps_set (i := 11) sc_below.nd rfl (.inl rfl) (pe_ca c_turned hr (by first | decide | omega) (by rfl) (pa_cons (pe_ix (r := rIxT K) ix_tup (pv 7) pe_int (fun _ _ => rfl)) (pa_cons (pv 3) (pa_cons (pe_ix (r := rIxT K) ix_tup (pv 7) pe_int (fun _ _ => rfl)) pa_nil)))))
      (pss_one (ps_aug (i := 5) sc_below.nd rfl (.inl rfl) (pe_op op_add (pe_op op_mul (pv 9) (pe_ca c_bits_in hr (by first | decide | omega) (by rfl) (pa_cons (pv 11) pa_nil))) (pe_ca c_bits_in hr (by first | decide | omega) (by rfl) (pa_cons (pe_op op_and (pv 11) (pe_ca c_all_rests hr (by first | decide | omega) (by rfl) (pa_cons (pv 10) pa_nil))) pa_nil))) ip_add)))) pss_nil)))))
      (pss_one (ps_ret (pv 5)))))))), ?_⟩)
  · obtain ⟨a, n, rfl, _⟩ := h; rfl
  · obtain ⟨a, n, rfl, ha, hn, q⟩ := h
    refine q_asgP (evp_call (ea_cons (ev_var rfl) ea_nil) (spp_made ha)) fun v H1 e1 ⟨x, hv, dx, hx⟩ => ?_
    subst hv
    refine q_asg (ev_meth (ev_var rfl) hx (rF_no (by decide +kernel)) ea_nil (spv_rspan ⟨dx, hx⟩)) fun H2 e2 => ?_
    refine q_asgP (evp_meth (ev_var rfl) (e2 x _ hx) (rF_no (by decide +kernel)) (ea_cons (ev_var rfl) ea_nil) (spp_rstr ⟨dx, e2 x _ hx⟩)) fun v H3 e3 ⟨p, t, hv, hp, ht⟩ => ?_
    subst hv
    refine q_asg ev_c fun H4 e4 => ?_
    have E4 := (e1.trans e2).trans (e3.trans e4)
    refine q_forEnum (xs := [.ref t]) rfl (ev_var rfl) (sq_of (e4 p _ hp)) (fun i σ' H' => ∃ v6 v7 v8 v9 v10 v11, σ' = [some (.ref a), some (.int n), some (.ref x), some (.int 4), some (.ref p), some (.int (if i = 0 then 0 else lp n)), v6, v7, v8, v9, v10, v11] ∧ Ex H4 H') (fun H5 e5 => ⟨none, none, none, none, none, none, rfl, e5⟩) (fun i σ' H' ⟨_, _, _, _, _, _, _, e5⟩ => sq_of (e5 p _ (e4 p _ hp))) ?_ ?_
    · rintro i y σ' H' H5 hi ⟨v6, v7, v8, v9, v10, v11, rfl, e⟩ e5
      have hi0 : i = 0 ∧ y = .ref t := by
        cases i with
        | zero => exact ⟨rfl, (Option.some.inj hi).symm⟩
        | succ i => simp at hi
      obtain ⟨rfl, rfl⟩ := hi0
      have E5 := e4.trans (e.trans e5)
      refine q_asg (ev_var rfl) fun H6 e6 => ?_
      refine q_when (et_test (ev_op (ev_op (ev_var rfl) ev_c rv_I0) (ev_lenL (ev_var rfl) (sq_of ((E5.trans e6) p _ hp))) rv_I0)) (fun hb H7 e7 => absurd (of_decide_eq_true hb) (by show ¬ ((0 : Nat) : Int) + 1 < ((1 : Nat) : Int); decide)) (fun hb H7 e7 => ?_)
      have E7 := E5.trans (e6.trans e7)
      have r0 : atI [V.int 0, .int 1] 0 = some (.int 0) := atI_nat (j := 0) rfl
      have r1 : atI [V.int 0, .int 1] 1 = some (.int 1) := atI_nat (j := 1) rfl
      refine s_when (et_test (ev_op (ev_op (ev_var rfl) ev_c (rv_ixT (st_of (E7 t _ ht)) r0)) (ev_var rfl) rv_I0)) (fun hb8 H8 e8 => ?_) (fun hb8 H8 e8 => ?_)
      · have E8 := E7.trans e8
        refine q_asgG (EvU.toP (eu_divmod (ev_op (ev_var rfl) (ev_op (ev_var rfl) ev_c (rv_ixT (st_of (E8 t _ ht)) r0)) rv_I0) (ev_var rfl) ⟨by decide, by decide⟩)) fun v H9 e9 ⟨d, hv, _, hd⟩ => ?_
        subst hv
        refine g_tup (st_of hd) rfl (g_cons (g_cons (g_nil ?_)))
        have E9 := E8.trans e9
        refine q_asg (ev_call (ea_cons (ev_op (ev_var rfl) ev_c (rv_ixT (st_of (E9 t _ ht)) r1)) (ea_cons (ev_var rfl) (ea_cons (ev_op (ev_var rfl) ev_c (rv_ixT (st_of (E9 t _ ht)) r0)) ea_nil))) spv_turned) fun H10 e10 => ?_
        have hm := emod_rng (n - 0) (m := 4) (by decide)
        have hbit : Builtin.bitAnd 1 (1 * 2 ^ ((n - 0) % 4).toNat - 1) = (((if n % 4 = 0 then 0 else 1) : Nat) : Int) := by
          have h4 : (n - 0) % 4 = 0 ∨ (n - 0) % 4 = 1 ∨ (n - 0) % 4 = 2 ∨ (n - 0) % 4 = 3 := by omega
          have h5 : n - 0 = n := by omega
          rw [h5] at h4 ⊢
          rcases h4 with h | h | h | h <;> rw [h] <;> decide +kernel
        refine s_aug rfl (ev_op (ev_op (ev_var rfl) (ev_call (ea_cons (ev_var rfl) ea_nil) (spv_bits (b := 1) (by decide))) rv_mul2) (ev_call (ea_cons (ev_is (ev_op (ev_var rfl) (ev_call (ea_cons (ev_var rfl) ea_nil) (spv_all_rests ⟨hm.1, by omega⟩)) rv_I0) (congrArg V.int hbit)) ea_nil) (spv_bits (by split <;> decide))) rv_I0) fun H11 e11 => ?_
        refine ⟨some (.int 0), some (.ref t), some (.int n), some (.int ((n - 0) / 4)), some (.int ((n - 0) % 4)), some (.int 1), ?_, (e.trans e5).trans ((e6.trans e7).trans ((e8.trans e9).trans (e10.trans e11)))⟩
        have hfin : (0 : Int) + ((n - 0) / 4 * ((1 : Nat) : Int) + (((if n % 4 = 0 then 0 else 1) : Nat) : Int)) = lp n := by
          unfold lp
          split <;> omega
        show [_, _, _, _, _, some (V.int ((0 : Int) + ((n - 0) / 4 * ((1 : Nat) : Int) + (((if n % 4 = 0 then 0 else 1) : Nat) : Int)))), _, _, _, _, _, _] = _
        rw [hfin]
        rfl
      · have hn0 : n = 0 := by
          have := of_decide_eq_false hb8
          omega
        subst hn0
        exact ⟨some (.int 0), some (.ref t), some (.int 0), v9, v10, v11, rfl, (e.trans e5).trans ((e6.trans e7).trans e8)⟩
    · rintro σ' H' ⟨v6, v7, v8, v9, v10, v11, rfl, e⟩
      exact s_ret (ev_var rfl) fun H5 e5 => q H5 (E4.trans (e.trans e5))
end
end K71

set_option maxHeartbeats 4000000
/-! K71W14: the calendar: months_of, first_of, whole_turns, year_and_rest, date_of, shown_day. -/
namespace K71
open PySem PySem.Spec PyProof.Rows L2 Evl
/-! ### plain -/
/-- days ahead of the year y -/
def fst (c y : Int) : Int := y * ([31, c] : List Int).sum + lp y
def lenM (c y : Int) : List Int := [31, if y % 4 = 0 then c + 1 else c]
theorem sum31 (c : Int) : ([31, c] : List Int).sum = 31 + c := by simp only [List.sum_cons, List.sum_nil]; omega
theorem fst_add (c y t : Int) : fst c (y + t) - fst c y = t * (31 + c) + (lp (y + t) - lp y) := by
  unfold fst
  rw [sum31, Int.add_mul]
  omega
theorem fst_len (c y : Int) : fst c (y + 1) - fst c y = (lenM c y).sum := by
  rw [fst_add, Int.one_mul]
  unfold lenM lp
  rw [sum31]
  split <;> omega
theorem fst_mono {c y s t : Int} (hc : 0 ≤ 31 + c) (h : s ≤ t) : fst c (y + s) ≤ fst c (y + t) := by
  have h1 := fst_add c y s
  have h2 := fst_add c y t
  have h3 : s * (31 + c) ≤ t * (31 + c) := Int.mul_le_mul_of_nonneg_right h hc
  have h4 : lp (y + s) ≤ lp (y + t) := by unfold lp; omega
  omega
theorem fst_ge {c y : Int} (hc : 1 ≤ c) (hy : 0 ≤ y) : y ≤ fst c y := by
  unfold fst
  rw [sum31]
  have h1 : y * 1 ≤ y * (31 + c) := Int.mul_le_mul_of_nonneg_left (by omega) hy
  have h2 : 0 ≤ lp y := by unfold lp; omega
  omega
theorem fst_turn (c y : Int) : fst c (y + 300) - fst c y = 300 * (31 + c) + 75 := by
  rw [fst_add]
  have : lp (y + 300) = lp y + 75 := by unfold lp; omega
  omega
theorem fst_turns (c y k : Int) : fst c (y + k * 300) - fst c y = k * (300 * (31 + c) + 75) := by
  rw [fst_add]
  have : lp (y + k * 300) = lp y + 75 * k := by unfold lp; omega
  have h1 : k * 300 * (31 + c) = k * (300 * (31 + c)) := Int.mul_assoc ..
  have h2 : k * (300 * (31 + c) + 75) = k * (300 * (31 + c)) + k * 75 := Int.mul_add ..
  rw [this, h1, h2]
  generalize k * (300 * (31 + c)) = M
  omega
structure IsYR (c day y r : Int) : Prop where
  y0 : 0 ≤ y
  eq : fst c y + r = day
  r0 : 0 ≤ r
  rl : r < (lenM c y).sum
theorem IsYR.uniq {c day y r y' r' : Int} (hc : 1 ≤ c) (h : IsYR c day y r) (h' : IsYR c day y' r') : y = y' ∧ r = r' := by
  have key : ∀ {y r y' r' : Int}, IsYR c day y r → IsYR c day y' r' → ¬ y < y' := fun {y r y' r'} h h' hlt => by
    have h1 := fst_len c y
    have h2 : fst c (y + 1) ≤ fst c (y + (y' - y)) := fst_mono (by omega) (by omega)
    have h3 : y + (y' - y) = y' := by omega
    rw [h3] at h2
    have := h.eq
    have := h.rl
    have := h'.eq
    have := h'.r0
    omega
  have e : y = y' := by
    have := key h h'
    have := key h' h
    omega
  subst e
  have := h.eq
  have := h'.eq
  exact ⟨rfl, by omega⟩
def mon (r : Int) : Int := if r < 31 then 1 else 2
def dom (r : Int) : Int := if r < 31 then r + 1 else r - 31 + 1
def strI (i : Int) : Str := Str.ofString (toString i)
def part (f : Frm) (y r : Int) (ch : Nat) : Str := if ch = 121 then strI y else if ch = 109 then (if f.nam = true then (if r < 31 then "Jan" else "F") else strI (mon r)) else strI (dom r)
def dayT (f : Frm) (y r : Int) : Str := Txt.join "/" ((TL.tl f.ord).map (part f y r))
open Classical in
noncomputable def dayOf (c : Int) (f : Frm) (day : Int) : Str := if h : ∃ z : Str, ∃ y r, IsYR c day y r ∧ z = dayT f y r then Classical.choose h else ""
theorem dayOf_eq {c day y r : Int} (hc : 1 ≤ c) (f : Frm) (h : IsYR c day y r) : dayOf c f day = dayT f y r := by
  have hx : ∃ z : Str, ∃ y r, IsYR c day y r ∧ z = dayT f y r := ⟨_, y, r, h, rfl⟩
  unfold dayOf
  rw [dif_pos hx]
  obtain ⟨y', r', h', e⟩ := Classical.choose_spec hx
  rw [e]
  obtain ⟨rfl, rfl⟩ := h.uniq hc h'
  rfl
theorem given_allA {α : Type} {xs : List α} {f : α → V} {d : α} : given xs.length (fun _ => true) (fun i => f (xs.getD i d)) = xs.map f := by
  unfold given
  rw [List.filter_eq_self.mpr fun _ _ => rfl]
  apply List.ext_getElem?
  intro i
  rw [List.getElem?_map, List.getElem?_map]
  by_cases h : i < xs.length
  · rw [List.getElem?_range h, List.getElem?_eq_getElem h, Option.map_some, Option.map_some, List.getD_eq_getElem?_getD, List.getElem?_eq_getElem h]; rfl
  · rw [List.getElem?_eq_none (by rw [List.length_range]; omega), List.getElem?_eq_none (by omega)]; rfl
section
variable {P : Program} {w : World} {K : PySem.W.Frag} {mg : Str → Option Value} {base : Heap} {σ : L2.St} {H : Hp} {te ta tb : TE}
/-- [.. for c in s] -/
theorem el_lcStr {z : Str} {tl : TE} {t : TT} {j : Nat} {vs : List Nat} (f : Nat → Bool) (v : Nat → V) (h : Ev tl σ H (.str z)) (hz : z.length ≤ 40000) (hw : ∀ x, wipe ((wipe σ vs).set j (some x)) vs = wipe σ vs)
    (ht : ∀ (i : Nat) (x : Nat) H1, Ex H H1 → z.cps.toList[i]? = some x → EvT t ((wipe σ vs).set j (some (.str ⟨#[x]⟩))) H1 (f i)) (he : ∀ (i : Nat) (x : Nat) H1, Ex H H1 → z.cps.toList[i]? = some x → f i = true → Ev te ((wipe σ vs).set j (some (.str ⟨#[x]⟩))) H1 (v i)) :
    EvL (tLc (iStr tl) (gName j) t te vs) σ H (given z.length f v) := fun H0 e Q q => h H0 e _ fun H1 e1 => ⟨z, rfl, fun Dl hD => by
  refine ⟨fun i m H' => m = z.length - i ∧ i ≤ z.length ∧ Cw H1 f v Dl i H', ⟨z.length, rfl, Nat.zero_le _, hD, Ex.new hD, upd_same⟩, ?_⟩
  rintro i m H' ⟨rfl, hi, p⟩
  by_cases hlt : i < z.length
  · refine .inr ⟨hlt, Cw H1 f v Dl (i + 1), fun H2 p2 => ⟨z.length - (i + 1), by omega, rfl, hlt, p2⟩, fun x H2 y => ?_⟩
    obtain ⟨rfl, c, hc, rfl⟩ := y
    have hc' : z.cps.toList[i]? = some c := by rw [Array.getElem?_toList]; exact hc
    exact ⟨hw _, cw_turn p (by omega) (ht i c H1 (e.trans e1) hc') (fun hf => he i c H1 (e.trans e1) hc' hf)⟩
  · have ei : i = z.length := by omega
    subst ei
    exact .inl ⟨Nat.le_refl _, q Dl H' (fresh_back e1 p.1) (e1.trans p.2.1) p.2.2⟩⟩
theorem evp_maxP {i : Int} {R : Int → Prop} (ha : Ev ta σ H (.int i)) (hb : EvP tb σ H fun v _ => ∃ j, v = .int j ∧ R j) : EvP (tCB (fun xs H Q => ∃ i j, xs = [V.int i, V.int j] ∧ Q (V.int (if j > i then j else i)) H) (tCons ta (tCons tb tNil))) σ H fun v _ => ∃ j, v = .int (if j > i then j else i) ∧ R j := fun H1 e _ q =>
  ha H1 e _ fun H2 e2 => hb H2 (e.trans e2) _ fun v H3 e3 ⟨j, hv, hr⟩ => by
    subst hv
    exact ⟨i, j, rfl, q _ H3 (e2.trans e3) ⟨j, rfl, hr⟩⟩
/-! ### months_of, first_of -/
def sp_months_of (K : PySem.W.Frag) : Sp := fun vs H Q _ => ∃ (a : Addr) (c y : Int), vs = [.ref a, .int y] ∧ CalAt K H a c ∧ ∀ p H2, H p = none → Ex H H2 → H2 p = some (.lst ((lenM c y).map V.int)) → Q (.ref p) H2
theorem spl_months_of {a : Addr} {c y : Int} {H : Hp} (h : CalAt K H a c) : SpL (sp_months_of K) [.ref a, .int y] H ((lenM c y).map V.int) := fun H1 e Q q E => ⟨a, c, y, rfl, h.mono (ExI.of e), q⟩
theorem sc_months_of : FnScope ["calendar", "year", "lengths", "longer", "years", "found"] ["calendar", "year"] (defScope s_months_of) := ⟨rfl, rfl, rfl, by decide +kernel, rfl, by decide +kernel, by decide +kernel⟩
theorem ca_months_of (T : Ctx K mg) (c_holds : Ca P w K mg base CX0 4 "holds" (sp_holds K)) : Ca P w K mg base CX0 5 "months_of" (sp_months_of K) := by
  obtain ⟨fd, F⟩ := T.fd_months_of
  refine caOf F sc_months_of T.g_months_of (F.bindsN fun _ _ _ _ _ _ us hl => match us, hl with | [_, _], _ => rfl) (fun vs H Q E h => ?_) (fun cdv A outer s H vs Q E hr h => ⟨_, PSs.nox (pss_cons (ps_asg (pv 0) (pg_tup rfl (pgs_cons (pg_name (i := 2) sc_months_of.nd rfl (.inl rfl)) (pgs_cons (pg_name (i := 3) sc_months_of.nd rfl (.inl rfl)) (pgs_cons (pg_name (i := 4) sc_months_of.nd rfl (.inl rfl)) pgs_nil)))))
      (pss_cons (ps_set (i := 5) sc_months_of.nd rfl (.inl rfl) (pe_callTy call_list_of (by rfl) T.f_list (by decide +kernel) (pa_cons (pv 2) pa_nil)))
      (pss_cons (ps_if (pt_val (pe_ca c_holds hr (by first | decide | omega) (by rfl) (pa_cons (pv 4) (pa_cons (pv 1) pa_nil)))) (pss_one (ps_augS (pv 5) (pe_op op_sub (pv 3) pe_int) get_list pe_int ip_add set_list)) pss_nil)
      (pss_one (ps_ret (pv 5)))))), ?_⟩)
  · obtain ⟨a, c, y, rfl, _⟩ := h; rfl
  · obtain ⟨a, c, y, rfl, ⟨al, ay, h1, h2, h3, h4, h5⟩, q⟩ := h
    refine q_asgG (P := fun v _ => v = .ref a) (Ev.toP (ev_var rfl) fun _ _ => rfl) fun v H1 e1 hv => ?_
    subst hv
    refine g_tup (ex_t e1 h1) rfl (g_cons (g_cons (g_cons (g_nil ?_))))
    refine q_asgL (el_listOf (ev_var rfl) (ex_l e1 h2)) fun l H2 hl e2 hl2 => ?_
    have E2 := e1.trans e2
    have hl0 : H l = none := fresh_back e1 hl
    have a1 : atI (([31, c] : List Int).map V.int) (2 - 1) = some (.int c) := atI_nat (j := 1) rfl
    refine q_when (et_B (ev_call (ea_cons (ev_var rfl) (ea_cons (ev_var rfl) ea_nil)) (spv_holds (ex_t E2 h3)))) (fun hb H3 e3 => ?_) (fun hb H3 e3 => ?_)
    · refine (ev_var rfl) H3 (Ex.refl H3) _ fun H4 e4 => (ev_op (ev_var rfl) ev_c rv_I0) H4 (Ex.refl H4) _ fun H5 e5 => ?_
      refine ⟨l, _, 2 - 1, .int c, rfl, rfl, sq_of ((e3.trans (e4.trans e5)) l _ hl2), a1, ?_⟩
      refine ⟨c, 1, rfl, rfl, ?_⟩
      refine ⟨l, _, 2 - 1, 1, rfl, rfl, (e3.trans (e4.trans e5)) l _ hl2, by rfl, ?_⟩
      refine s_ret (ev_var rfl) fun H6 e6 => q l H6 hl0 (((E2.trans (e3.trans (e4.trans e5))).mut hl0).trans e6) (e6 l _ ?_)
      rw [upd_same]
      unfold lenM
      rw [if_pos (of_decide_eq_true hb)]
      rfl
    · refine s_ret (ev_var rfl) fun H4 e4 => q l H4 hl0 (E2.trans (e3.trans e4)) ((e3.trans e4) l _ ?_)
      unfold lenM
      rw [if_neg (of_decide_eq_false hb)]
      exact hl2
def sp_first_of (K : PySem.W.Frag) : Sp := fun vs H Q _ => ∃ (a : Addr) (c y : Int), vs = [.ref a, .int y] ∧ CalAt K H a c ∧ 0 ≤ y ∧ ∀ H2, Ex H H2 → Q (.int (fst c y)) H2
theorem spv_first_of {a : Addr} {c y : Int} {H : Hp} (h : CalAt K H a c) (hy : 0 ≤ y) : SpV (sp_first_of K) [.ref a, .int y] H (.int (fst c y)) := fun H1 e Q q E => ⟨a, c, y, rfl, h.mono (ExI.of e), hy, fun H2 e2 => q H2 e2⟩
theorem sc_first_of : FnScope ["calendar", "year"] ["calendar", "year"] (defScope s_first_of) := ⟨rfl, rfl, rfl, by decide +kernel, rfl, by decide +kernel, by decide +kernel⟩
theorem ca_first_of (T : Ctx K mg) (c_below : Ca P w K mg base CX0 4 "below" (sp_below K)) : Ca P w K mg base CX0 5 "first_of" (sp_first_of K) := by
  obtain ⟨fd, F⟩ := T.fd_first_of
  refine caOf F sc_first_of T.g_first_of (F.bindsN fun _ _ _ _ _ _ us hl => match us, hl with | [_, _], _ => rfl) (fun vs H Q E h => ?_) (fun cdv A outer s H vs Q E hr h => ⟨_, PSs.nox (pss_one (ps_ret (pe_op op_add (pe_op op_mul (pv 1) (pe_callB (r := rSum K) (cr_sum rfl) (by rfl) T.f_sum (by decide +kernel) (pa_cons (pe_ix (r := rIxT K) ix_tup (pv 0) pe_int (fun _ _ => rfl)) pa_nil))) (pe_ca c_below hr (by first | decide | omega) (by rfl) (pa_cons (pe_ix (r := rIxT K) ix_tup (pv 0) pe_int (fun _ _ => rfl)) (pa_cons (pv 1) pa_nil)))))), ?_⟩)
  · obtain ⟨a, c, y, rfl, _⟩ := h; rfl
  · obtain ⟨a, c, y, rfl, ⟨al, ay, h1, h2, h3, h4, h5⟩, hy, q⟩ := h
    have t0 : atI [V.ref al, .int 2, .ref ay] 0 = some (.ref al) := atI_nat (j := 0) rfl
    have t2 : atI [V.ref al, .int 2, .ref ay] 2 = some (.ref ay) := atI_nat (j := 2) rfl
    have hs := sum31 c
    exact s_ret (ev_op (ev_op (ev_var rfl) (ev_cb (ea_cons (ev_op (ev_var rfl) ev_c (rv_ixT h1 t0)) ea_nil) (rc_sum h2)) (rv_mul2 (by omega))) (ev_call (ea_cons (ev_op (ev_var rfl) ev_c (rv_ixT h1 t2)) (ea_cons (ev_var rfl) ea_nil)) (spv_below h3 hy)) rv_I0) q
/-! ### whole_turns -/
def sp_wt (K : PySem.W.Frag) : Sp := fun vs H Q _ => ∃ (a : Addr) (c y r : Int), vs = [.ref a, .int y, .int r] ∧ CalAt K H a c ∧ 0 ≤ y ∧ y ≤ 10 ^ 60 ∧ 0 ≤ r ∧ ∀ v H2, Ex H H2 → (∃ t, v = .int t ∧ fst c (y + t) - fst c y ≤ r) → Q v H2
theorem spp_wt {a : Addr} {c y r : Int} {H : Hp} (h : CalAt K H a c) (hy : 0 ≤ y) (hy2 : y ≤ 10 ^ 60) (hr : 0 ≤ r) : SpP (sp_wt K) [.ref a, .int y, .int r] H fun v _ => ∃ t, v = .int t ∧ fst c (y + t) - fst c y ≤ r := fun H1 e Q q E => ⟨a, c, y, r, rfl, h.mono (ExI.of e), hy, hy2, hr, q⟩
theorem sc_whole_turns : FnScope ["calendar", "year", "rest", "begin", "turn", "turns", "gone"] ["calendar", "year", "rest"] (defScope s_whole_turns) := ⟨rfl, rfl, rfl, by decide +kernel, rfl, by decide +kernel, by decide +kernel⟩
theorem ca_whole_turns (T : Ctx K mg) (c_first_of : Ca P w K mg base CX0 5 "first_of" (sp_first_of K)) : Ca P w K mg base CX0 6 "whole_turns" (sp_wt K) := by
  obtain ⟨fd, F⟩ := T.fd_whole_turns
  refine caOf F sc_whole_turns T.g_whole_turns (F.bindsN fun _ _ _ _ _ _ us hl => match us, hl with | [_, _, _], _ => rfl) (fun vs H Q E h => ?_) (fun cdv A outer s H vs Q E hr h => ⟨_, PSs.nox (pss_cons (ps_set (i := 3) sc_whole_turns.nd rfl (.inl rfl) (pe_ca c_first_of hr (by first | decide | omega) (by rfl) (pa_cons (pv 0) (pa_cons (pv 1) pa_nil))))
      (pss_cons (ps_set (i := 4) sc_whole_turns.nd rfl (.inl rfl) (pe_op op_sub (pe_ca c_first_of hr (by first | decide | omega) (by rfl) (pa_cons (pv 0) (pa_cons (pe_op op_add (pv 1) (C8.pe_gc (by rfl) T.c_TURN)) pa_nil))) (pv 3)))
      (pss_cons (ps_set (i := 5) sc_whole_turns.nd rfl (.inl rfl) (pe_callB (call_min2 rfl) (by rfl) T.f_min (by decide +kernel) (pa_cons (pe_op op_sub (C8.pe_gc (by rfl) T.c_END) (pv 1)) (pa_cons (pe_op op_mul (pe_op op_fdiv (pv 2) (pv 4)) (C8.pe_gc (by rfl) T.c_TURN)) pa_nil))))
      (pss_cons (ps_set (i := 6) sc_whole_turns.nd rfl (.inl rfl) (pe_op op_sub (pe_ca c_first_of hr (by first | decide | omega) (by rfl) (pa_cons (pv 0) (pa_cons (pe_op op_add (pv 1) (pv 5)) pa_nil))) (pv 3)))
      (pss_cons (ps_if (pt_cmpR op_gt (pv 6) (pv 2) (nomark _)) (pss_cons (ps_set (i := 5) sc_whole_turns.nd rfl (.inl rfl) (pe_op op_fdiv (pe_op op_mul (pv 5) (pv 2)) (pv 6)))
      (pss_one (ps_set (i := 6) sc_whole_turns.nd rfl (.inl rfl) (pe_op op_sub (pe_ca c_first_of hr (by first | decide | omega) (by rfl) (pa_cons (pv 0) (pa_cons (pe_op op_add (pv 1) (pv 5)) pa_nil))) (pv 3))))) pss_nil)
      (pss_cons (ps_if (pt_cmpR op_gt (pv 6) (pv 2) (nomark _)) (pss_one (ps_ret pe_int)) pss_nil)
      (pss_one (ps_ret (pv 5))))))))), ?_⟩)
  · obtain ⟨a, c, y, r, rfl, _⟩ := h; rfl
  · obtain ⟨a, c, y, r, rfl, hC, hy, hy2, hr0, q⟩ := h
    have hc : 1 ≤ c ∧ c ≤ 30 := by obtain ⟨_, _, _, _, _, h⟩ := hC; exact h
    have ht := fst_turn c y
    refine q_asg (ev_call (ea_cons (ev_var rfl) (ea_cons (ev_var rfl) ea_nil)) (spv_first_of hC hy)) fun H1 e1 => ?_
    refine q_asg (ev_op (ev_call (ea_cons (ev_var rfl) (ea_cons (ev_op (ev_var rfl) ev_c rv_I0) ea_nil)) (spv_first_of (hC.mono (ExI.of e1)) (by omega))) (ev_var rfl) rv_I0) fun H2 e2 => ?_
    refine q_asg (ev_cb (ea_cons (ev_op ev_c (ev_var rfl) rv_I0) (ea_cons (ev_op (ev_op (ev_var rfl) (ev_var rfl) (rv_div (by omega))) ev_c rv_mul2) ea_nil)) rc_min) fun H3 e3 => ?_
    have hk0 : 0 ≤ r / (fst c (y + 300) - fst c y) := Int.ediv_nonneg hr0 (by omega)
    have hkl : r / (fst c (y + 300) - fst c y) * (fst c (y + 300) - fst c y) ≤ r := Int.ediv_mul_le r (by omega)
    obtain ⟨t, ht2, ht0, htl⟩ : ∃ t, (if r / (fst c (y + 300) - fst c y) * 300 < 10 ^ 60 - y then r / (fst c (y + 300) - fst c y) * 300 else 10 ^ 60 - y) = t ∧ 0 ≤ t ∧ t ≤ r / (fst c (y + 300) - fst c y) * 300 := ⟨_, rfl, by split <;> omega, by split <;> omega⟩
    rw [ht2]
    have hgone : fst c (y + t) - fst c y ≤ r := by
      have h1 := fst_mono (c := c) (y := y) (by omega) htl
      have h2 := fst_turns c y (r / (fst c (y + 300) - fst c y))
      rw [← ht] at h2
      omega
    have hC3 := hC.mono (ExI.of (e1.trans (e2.trans e3)))
    refine q_asg (ev_op (ev_call (ea_cons (ev_var rfl) (ea_cons (ev_op (ev_var rfl) (ev_var rfl) rv_I0) ea_nil)) (spv_first_of hC3 (by omega))) (ev_var rfl) rv_I0) fun H4 e4 => ?_
    refine q_when (et_test (ev_op (ev_var rfl) (ev_var rfl) rv_I0)) (fun hb H5 e5 => ?_) (fun hb H5 e5 => ?_)
    · have := of_decide_eq_true hb
      omega
    refine q_when (et_test (ev_op (ev_var rfl) (ev_var rfl) rv_I0)) (fun hb H6 e6 => ?_) (fun hb H6 e6 => ?_)
    · have := of_decide_eq_true hb
      omega
    exact s_ret (ev_var rfl) fun H7 e7 => q _ H7 ((e1.trans (e2.trans e3)).trans ((e4.trans e5).trans (e6.trans e7))) ⟨t, rfl, hgone⟩
/-! ### year_and_rest -/
def YrV (c day : Int) (v : V) (H : Hp) : Prop := ∃ p y r, v = .ref p ∧ H p = some (.tup [.int y, .int r]) ∧ IsYR c day y r
def sp_yr (K : PySem.W.Frag) : Sp := fun vs H Q _ => ∃ (a : Addr) (c day : Int), vs = [.ref a, .int day] ∧ CalAt K H a c ∧ 0 ≤ day ∧ day < 10 ^ 60 ∧ ∀ v H2, Ex H H2 → YrV c day v H2 → Q v H2
theorem spp_yr {a : Addr} {c day : Int} {H : Hp} (h : CalAt K H a c) (h0 : 0 ≤ day) (h1 : day < 10 ^ 60) : SpP (sp_yr K) [.ref a, .int day] H (YrV c day) := fun H1 e Q q E => ⟨a, c, day, rfl, h.mono (ExI.of e), h0, h1, q⟩
theorem sc_year_and_rest : FnScope ["calendar", "day", "most", "year", "rest", "ahead"] ["calendar", "day"] (defScope s_year_and_rest) := ⟨rfl, rfl, rfl, by decide +kernel, rfl, by decide +kernel, by decide +kernel⟩
theorem ca_year_and_rest (T : Ctx K mg) (c_first_of : Ca P w K mg base CX0 5 "first_of" (sp_first_of K)) (c_months_of : Ca P w K mg base CX0 5 "months_of" (sp_months_of K)) (c_whole_turns : Ca P w K mg base CX0 6 "whole_turns" (sp_wt K)) : Ca P w K mg base CX0 7 "year_and_rest" (sp_yr K) := by
  obtain ⟨fd, F⟩ := T.fd_year_and_rest
  refine caOf F sc_year_and_rest T.g_year_and_rest (F.bindsN fun _ _ _ _ _ _ us hl => match us, hl with | [_, _], _ => rfl) (fun vs H Q E h => ?_) (fun cdv A outer s H vs Q E hr h => ⟨_, PSs.nox (pss_cons (ps_set (i := 2) sc_year_and_rest.nd rfl (.inl rfl) (pe_op op_add (pe_callB (r := rSum K) (cr_sum rfl) (by rfl) T.f_sum (by decide +kernel) (pa_cons (pe_ix (r := rIxT K) ix_tup (pv 0) pe_int (fun _ _ => rfl)) pa_nil)) pe_int))
      (pss_cons (ps_set (i := 3) sc_year_and_rest.nd rfl (.inl rfl) (pe_op op_fdiv (pv 1) (pv 2)))
      (pss_cons (ps_set (i := 4) sc_year_and_rest.nd rfl (.inl rfl) (pe_op op_sub (pv 1) (pe_ca c_first_of hr (by first | decide | omega) (by rfl) (pa_cons (pv 0) (pa_cons (pv 3) pa_nil)))))
      (pss_cons (ps_while PassesOwn.never (pt_cmpR op_ge (pv 4) (pe_callB (r := rSum K) (cr_sum rfl) (by rfl) T.f_sum (by decide +kernel) (pa_cons (pe_ca c_months_of hr (by first | decide | omega) (by rfl) (pa_cons (pv 0) (pa_cons (pv 3) pa_nil))) pa_nil)) (nomark _)) (pss_cons (ps_set (i := 5) sc_year_and_rest.nd rfl (.inl rfl) (pe_callB (call_max2 rfl) (by rfl) T.f_max (by decide +kernel) (pa_cons pe_int (pa_cons (pe_op op_fdiv (pv 4) (pv 2)) pa_nil))))
      (pss_cons (ps_if (pt_cmpR op_ge (pv 4) (pe_op op_mul (C8.pe_gc (by rfl) T.c_TURN) (pv 2)) (nomark _)) (pss_one (ps_set (i := 5) sc_year_and_rest.nd rfl (.inl rfl) (pe_callB (call_max2 rfl) (by rfl) T.f_max (by decide +kernel) (pa_cons (pv 5) (pa_cons (pe_ca c_whole_turns hr (by first | decide | omega) (by rfl) (pa_cons (pv 0) (pa_cons (pv 3) (pa_cons (pv 4) pa_nil)))) pa_nil))))) pss_nil)
      (pss_cons (ps_aug (i := 3) sc_year_and_rest.nd rfl (.inl rfl) (pv 5) ip_add)
      (pss_one (ps_set (i := 4) sc_year_and_rest.nd rfl (.inl rfl) (pe_op op_sub (pv 1) (pe_ca c_first_of hr (by first | decide | omega) (by rfl) (pa_cons (pv 0) (pa_cons (pv 3) pa_nil))))))))))
      (pss_one (ps_ret (pe_tup (pa_cons (pv 3) (pa_cons (pv 4) pa_nil))))))))), ?_⟩)
  · obtain ⟨a, c, y, rfl, _⟩ := h; rfl
  · obtain ⟨a, c, day, rfl, hC, d0, d1, q⟩ := h
    obtain ⟨al, ay, h1, h2, h3, c1, c2⟩ := id hC
    have hs := sum31 c
    have t0 : atI [V.ref al, .int 2, .ref ay] 0 = some (.ref al) := atI_nat (j := 0) rfl
    refine q_asg (ev_op (ev_cb (ea_cons (ev_op (ev_var rfl) ev_c (rv_ixT h1 t0)) ea_nil) (rc_sum h2)) ev_c rv_I0) fun H1 e1 => ?_
    refine q_asg (ev_op (ev_var rfl) (ev_var rfl) (rv_div (by omega))) fun H2 e2 => ?_
    have y0 : 0 ≤ day / (([31, c] : List Int).sum + 1) := Int.ediv_nonneg d0 (by omega)
    have hC2 := hC.mono (ExI.of (e1.trans e2))
    refine q_asg (ev_op (ev_var rfl) (ev_call (ea_cons (ev_var rfl) (ea_cons (ev_var rfl) ea_nil)) (spv_first_of hC2 y0)) rv_I0) fun H3 e3 => ?_
    have E3 := (e1.trans e2).trans e3
    have hstart : 0 ≤ day - fst c (day / (([31, c] : List Int).sum + 1)) := by
      have hm : day / (([31, c] : List Int).sum + 1) * (([31, c] : List Int).sum + 1) ≤ day := Int.ediv_mul_le day (by omega)
      generalize day / (([31, c] : List Int).sum + 1) = y at *
      unfold fst
      rw [Int.mul_add, Int.mul_one] at hm
      have : lp y ≤ y := by unfold lp; omega
      omega
    refine q_while (fun mm σ' H' => ∃ (y : Int) (v5 : Option V), mm = (day - fst c y).toNat ∧ 0 ≤ y ∧ 0 ≤ day - fst c y ∧ σ' = [some (.ref a), some (.int day), some (.int (([31, c] : List Int).sum + 1)), some (.int y), some (.int (day - fst c y)), v5] ∧ Ex H H') _ ⟨_, none, rfl, y0, hstart, rfl, E3⟩ ?_
    rintro mm σ' H' ⟨y, v5, rfl, hy, hr0, rfl, e⟩
    have hCe := hC.mono (ExI.of e)
    have hyd := fst_ge c1 hy
    refine ⟨_, et_test (ev_op (ev_var rfl) (ev_sumN (el_call (ea_cons (ev_var rfl) (ea_cons (ev_var rfl) ea_nil)) (spl_months_of hCe))) rv_I0), fun hb H4 e4 => ?_, fun hb H4 e4 => ?_⟩
    · have hlen : (lenM c y).sum ≤ day - fst c y := of_decide_eq_true hb
      have hL1 := fst_len c y
      refine ⟨fun σ2 H2' => ∃ (t : Int) (v5 : Option V), 1 ≤ t ∧ fst c (y + t) - fst c y ≤ day - fst c y ∧ σ2 = [some (.ref a), some (.int day), some (.int (([31, c] : List Int).sum + 1)), some (.int (y + t)), some (.int (day - fst c (y + t))), v5] ∧ Ex H H2', ?_, ?_⟩
      · rintro σ2 H2' ⟨t, v5, t1, tl, rfl, ee⟩
        refine ⟨_, ?_, y + t, v5, rfl, by omega, by omega, rfl, ee⟩
        have h6 := fst_mono (c := c) (y := y) (by omega) t1
        have h7 : 31 ≤ (lenM c y).sum := by unfold lenM; rw [sum31]; split <;> omega
        omega
      · refine q_asg (ev_cb (ea_cons ev_c (ea_cons (ev_op (ev_var rfl) (ev_var rfl) (rv_div (by omega))) ea_nil)) rc_max) fun H5 e5 => ?_
        have E5 := e.trans (e4.trans e5)
        obtain ⟨t, ht, t1, tl⟩ : ∃ t, (if (day - fst c y) / (([31, c] : List Int).sum + 1) > 1 then (day - fst c y) / (([31, c] : List Int).sum + 1) else 1) = t ∧ 1 ≤ t ∧ fst c (y + t) - fst c y ≤ day - fst c y := by
          refine ⟨_, rfl, ?_⟩
          split
          · rename_i hgt
            have hm : (day - fst c y) / (([31, c] : List Int).sum + 1) * (([31, c] : List Int).sum + 1) ≤ day - fst c y := Int.ediv_mul_le _ (by omega)
            generalize (day - fst c y) / (([31, c] : List Int).sum + 1) = k at *
            refine ⟨by omega, ?_⟩
            have h8 := fst_add c y k
            rw [hs, Int.mul_add, Int.mul_one] at hm
            have : lp (y + k) - lp y ≤ k := by unfold lp; omega
            omega
          · exact ⟨by omega, by omega⟩
        rw [ht]
        have fin : ∀ H6 t, Ex H5 H6 → 1 ≤ t → fst c (y + t) - fst c y ≤ day - fst c y → tSeq (tAug 3 (tVar 5) (ipI fun i j => i + j)) (tAsg (tOp (rI0 fun i j => V.int (i - j)) (tVar 1) (tCall (sp_first_of K) [] E0 (tCons (tVar 0) (tCons (tVar 3) tNil)))) (gName 4))
            { nx := fun σ2 H2' => ∃ (t : Int) (v5 : Option V), 1 ≤ t ∧ fst c (y + t) - fst c y ≤ day - fst c y ∧ σ2 = [some (.ref a), some (.int day), some (.int (([31, c] : List Int).sum + 1)), some (.int (y + t)), some (.int (day - fst c (y + t))), v5] ∧ Ex H H2', rt := Q, bk := fun _ _ => False, ct := fun _ _ => False }
            [some (.ref a), some (.int day), some (.int (([31, c] : List Int).sum + 1)), some (.int y), some (.int (day - fst c y)), some (.int t)] H6 := by
          intro H6 t e6 t1 tl
          refine q_aug rfl (ev_var rfl) fun H7 e7 => ?_
          refine s_asg (ev_op (ev_var rfl) (ev_call (ea_cons (ev_var rfl) (ea_cons (ev_var rfl) ea_nil)) (spv_first_of (hC.mono (ExI.of (E5.trans (e6.trans e7)))) (by omega))) rv_I0) fun H8 e8 => ⟨t, some (.int t), t1, tl, rfl, (E5.trans (e6.trans e7)).trans e8⟩
        refine q_when (et_test (ev_op (ev_var rfl) (ev_op ev_c (ev_var rfl) rv_mul1) rv_I0)) (fun hb6 H6 e6 => ?_) (fun hb6 H6 e6 => ?_)
        · refine s_asgP (evp_maxP (ev_var rfl) (evp_call (ea_cons (ev_var rfl) (ea_cons (ev_var rfl) (ea_cons (ev_var rfl) ea_nil))) (spp_wt (hC.mono (ExI.of (E5.trans e6))) hy (by omega) hr0))) fun v H7 e7 ⟨t2, hv, h9⟩ => ?_
          subst hv
          have h10 : 1 ≤ (if t2 > t then t2 else t) ∧ fst c (y + (if t2 > t then t2 else t)) - fst c y ≤ day - fst c y := by
            split
            · exact ⟨by omega, h9⟩
            · exact ⟨t1, tl⟩
          exact fin H7 _ (e6.trans e7) h10.1 h10.2
        · exact fin H6 t e6 t1 tl
    · have hlt : day - fst c y < (lenM c y).sum := Int.not_le.mp (of_decide_eq_false hb)
      refine s_retU (eu_tup (ea_cons (ev_var rfl) (ea_cons (ev_var rfl) ea_nil)) (Nat.le_of_ble_eq_true rfl)) fun p H5 _ e5 hp => q _ H5 (e.trans (e4.trans e5)) ⟨p, y, day - fst c y, rfl, hp, hy, by omega, hr0, hlt⟩
end
end K71

set_option maxHeartbeats 4000000
/-! K71W15: date_of, shown_day. -/
namespace K71
open PySem PySem.Spec PyProof.Rows L2 Evl
section
variable {P : Program} {w : World} {K : PySem.W.Frag} {mg : Str → Option Value} {base : Heap} {σ : L2.St} {H : Hp} {te ta tb : TE}
def DateV (c day : Int) (v : V) (H : Hp) : Prop := ∃ p y r, v = .ref p ∧ H p = some (.tup [.int y, .int (mon r), .int (dom r)]) ∧ IsYR c day y r
def sp_date (K : PySem.W.Frag) : Sp := fun vs H Q _ => ∃ (a : Addr) (c day : Int), vs = [.ref a, .int day] ∧ CalAt K H a c ∧ 0 ≤ day ∧ day < 10 ^ 60 ∧ ∀ v H2, Ex H H2 → DateV c day v H2 → Q v H2
theorem spp_date {a : Addr} {c day : Int} {H : Hp} (h : CalAt K H a c) (h0 : 0 ≤ day) (h1 : day < 10 ^ 60) : SpP (sp_date K) [.ref a, .int day] H (DateV c day) := fun H1 e Q q E => ⟨a, c, day, rfl, h.mono (ExI.of e), h0, h1, q⟩
theorem sc_date_of : FnScope ["calendar", "day", "year", "rest", "month", "length"] ["calendar", "day"] (defScope s_date_of) := ⟨rfl, rfl, rfl, by decide +kernel, rfl, by decide +kernel, by decide +kernel⟩
theorem ca_date_of (T : Ctx K mg) (c_year_and_rest : Ca P w K mg base CX0 7 "year_and_rest" (sp_yr K)) (c_months_of : Ca P w K mg base CX0 5 "months_of" (sp_months_of K)) : Ca P w K mg base CX0 8 "date_of" (sp_date K) := by
  obtain ⟨fd, F⟩ := T.fd_date_of
  refine caOf F sc_date_of T.g_date_of (F.bindsN fun _ _ _ _ _ _ us hl => match us, hl with | [_, _], _ => rfl) (fun vs H Q E h => ?_) (fun cdv A outer s H vs Q E hr h => ⟨_, PSs.nox (pss_cons (ps_asg (pe_ca c_year_and_rest hr (by first | decide | omega) (by rfl) (pa_cons (pv 0) (pa_cons (pv 1) pa_nil))) (pg_tup rfl (pgs_cons (pg_name (i := 2) sc_date_of.nd rfl (.inl rfl)) (pgs_cons (pg_name (i := 3) sc_date_of.nd rfl (.inl rfl)) pgs_nil))))
      (pss_cons (ps_set (i := 4) sc_date_of.nd rfl (.inl rfl) pe_int)
      (pss_cons (ps_for PassesOwn.never rfl (pi_list (pe_ca c_months_of hr (by first | decide | omega) (by rfl) (pa_cons (pv 0) (pa_cons (pv 2) pa_nil)))) (pg_name (i := 5) sc_date_of.nd rfl (.inl rfl)) (pss_cons (ps_if (pt_cmpR op_lt (pv 3) (pv 5) (nomark _)) (pss_one ps_break) pss_nil)
      (pss_cons (ps_aug (i := 3) sc_date_of.nd rfl (.inl rfl) (pv 5) ip_sub)
      (pss_one (ps_aug (i := 4) sc_date_of.nd rfl (.inl rfl) pe_int ip_add)))))
      (pss_one (ps_ret (pe_tup (pa_cons (pv 2) (pa_cons (pv 4) (pa_cons (pe_op op_add (pv 3) pe_int) pa_nil))))))))), ?_⟩)
  · obtain ⟨a, c, day, rfl, _⟩ := h; rfl
  · obtain ⟨a, c, day, rfl, hC, d0, d1, q⟩ := h
    refine q_asgG (evp_call (ea_cons (ev_var rfl) (ea_cons (ev_var rfl) ea_nil)) (spp_yr hC d0 d1)) fun v H1 e1 ⟨p, y, r, hv, hp, hy⟩ => ?_
    subst hv
    refine g_tup (st_of hp) rfl (g_cons (g_cons (g_nil ?_)))
    refine q_asg ev_c fun H2 e2 => ?_
    have E2 := e1.trans e2
    refine q_forNLn (el_call (ea_cons (ev_var rfl) (ea_cons (ev_var rfl) ea_nil)) (spl_months_of (hC.mono (ExI.of E2)))) (fun l i σ' H' => ∃ v5, σ' = [some (.ref a), some (.int day), some (.int y), some (.int (r - (if i = 0 then 0 else if i = 1 then 31 else (lenM c y).sum))), some (.int (1 + (i : Int))), v5] ∧ Ex H H' ∧ H' l = some (.lst ((lenM c y).map V.int)) ∧ (i = 0 ∨ (i = 1 ∧ 31 ≤ r)))
      (fun l H3 hl e3 h3 => ⟨none, by show _ = [_, _, _, some (V.int (r - 0)), _, _]; rw [Int.sub_zero]; rfl, E2.trans e3, h3, .inl rfl⟩) (fun l i σ' H' _ ⟨_, _, _, h, _⟩ => sq_of h) ?_ ?_
    · rintro l i x σ' H' hi ⟨v5, rfl, e, hl, hst⟩
      have fin : ∀ (m b : Int) (H3 : Hp), Ex H H3 → m = mon r → b + 1 = dom r → tRet (tTup (tCons (tVar 2) (tCons (tVar 4) (tCons (tOp (rI0 fun i j => V.int (i + j)) (tVar 3) (tC (V.int 1))) tNil)))) { nx := fun x H' => Q V.non H', rt := Q } [some (.ref a), some (.int day), some (.int y), some (.int b), some (.int m), some x] H3 := by
        intro m b H3 e3 hm hb
        refine s_retU (eu_tup (ea_cons (ev_var rfl) (ea_cons (ev_var rfl) (ea_cons (ev_op (ev_var rfl) ev_c rv_I0) ea_nil))) (Nat.le_of_ble_eq_true rfl)) fun p2 H4 _ e4 hp2 => q _ H4 (e3.trans e4) ⟨p2, y, r, rfl, ?_, hy⟩
        rw [hp2, hm, hb]
      rcases hst with rfl | ⟨rfl, h31⟩
      · have hx : x = .int 31 := (Option.some.inj hi).symm
        subst hx
        refine q_when (et_test (ev_op (ev_var rfl) (ev_var rfl) rv_I0)) (fun hb H3 e3 => ?_) (fun hb H3 e3 => ?_)
        · have hlt : r - 0 < 31 := of_decide_eq_true hb
          exact fin (1 + ((0 : Nat) : Int)) (r - 0) H3 (e.trans e3) (by unfold mon; rw [if_pos (by omega)]; rfl) (by unfold dom; rw [if_pos (by omega)]; omega)
        · have hge : ¬ r - 0 < 31 := of_decide_eq_false hb
          refine q_aug rfl (ev_var rfl) fun H4 e4 => ?_
          refine s_aug rfl ev_c fun H5 e5 => ⟨some (.int 31), ?_, (e.trans e3).trans (e4.trans e5), (e3.trans (e4.trans e5)) l _ hl, .inr ⟨rfl, by omega⟩⟩
          show [_, _, _, some (V.int (r - 0 - 31)), some (V.int (1 + ((0 : Nat) : Int) + 1)), _] = _
          rw [Int.sub_zero]
          rfl
      · have hx : x = .int (if y % 4 = 0 then c + 1 else c) := (Option.some.inj hi).symm
        subst hx
        have hl2 := hy.rl
        have hs : (lenM c y).sum = 31 + (if y % 4 = 0 then c + 1 else c) := by unfold lenM; rw [sum31]
        refine q_when (et_test (ev_op (ev_var rfl) (ev_var rfl) rv_I0)) (fun hb H3 e3 => ?_) (fun hb H3 e3 => ?_)
        · exact fin (1 + ((1 : Nat) : Int)) (r - 31) H3 (e.trans e3) (by unfold mon; rw [if_neg (by omega)]; rfl) (by unfold dom; rw [if_neg (by omega)])
        · have hge : ¬ r - 31 < (if y % 4 = 0 then c + 1 else c) := of_decide_eq_false hb
          omega
    · rintro l σ' H' ⟨v5, rfl, e, hl, hst⟩
      exfalso
      rcases hst with h | ⟨h, _⟩ <;> exact absurd h (by show ¬ 2 = _; decide)
/-! ### shown_day -/
theorem putK_val (kvs : List (Key × V)) (k : Str) (v : V) (j : Str) : valV (putK kvs (.inr k) v) (.inr j) = if j = k then some v else valV kvs (.inr j) := by
  rw [valV_put]
  by_cases h : j = k
  · rw [if_pos h, if_pos (by rw [h])]
  · rw [if_neg h, if_neg fun z => h (Sum.inr.inj z)]
def sp_day (K : PySem.W.Frag) : Sp := fun vs H Q _ => ∃ (a b : Addr) (c day : Int) (f : Frm), vs = [.ref a, .ref b, .int day] ∧ CalAt K H a c ∧ FrmAt K H b f ∧ 0 ≤ day ∧ day < 10 ^ 60 ∧ ∀ H2, Ex H H2 → Q (.str (dayOf c f day)) H2
theorem spv_day {a b : Addr} {c day : Int} {f : Frm} {H : Hp} (h : CalAt K H a c) (hf : FrmAt K H b f) (h0 : 0 ≤ day) (h1 : day < 10 ^ 60) : SpV (sp_day K) [.ref a, .ref b, .int day] H (.str (dayOf c f day)) := fun H1 e Q q E => ⟨a, b, c, day, f, rfl, h.mono (ExI.of e), hf.mono (ExI.of e), h0, h1, fun H2 e2 => q H2 e2⟩
theorem strI_len {i : Int} (h : 0 ≤ i) (h2 : i < 10 ^ 61) : (strI i).length ≤ 61 := by
  obtain ⟨n, rfl⟩ := Int.eq_ofNat_of_zero_le h
  unfold strI
  show (Str.ofString (toString ((n : Nat) : Int))).length ≤ 61
  rw [SX.num_S, SX.S_len]
  exact TL.numL_len (by decide) (by omega)
theorem log_small {i : Int} (h : 0 ≤ i) (h2 : i < 10 ^ 61) : i.natAbs.log2 < 1920 := by
  have h3 : i.natAbs < 10 ^ 61 := by omega
  have h4 : i.natAbs.log2 < 220 := PySem.Flt.log2_lt_of (by decide) (Nat.lt_of_lt_of_le h3 (by decide))
  omega
theorem sc_shown_day : FnScope ["calendar", "dayform", "day", "order", "joint", "names", "year", "month", "at", "shown", "letter"] ["calendar", "dayform", "day"] (defScope s_shown_day) := ⟨rfl, rfl, rfl, by decide +kernel, rfl, by decide +kernel, by decide +kernel⟩
theorem ca_shown_day (T : Ctx K mg) (c_date_of : Ca P w K mg base CX0 8 "date_of" (sp_date K)) : Ca P w K mg base CX0 9 "shown_day" (sp_day K) := by
  obtain ⟨fd, F⟩ := T.fd_shown_day
  refine caOf F sc_shown_day T.g_shown_day (F.bindsN fun _ _ _ _ _ _ us hl => match us, hl with | [_, _, _], _ => rfl) (fun vs H Q E h => ?_) (fun cdv A outer s H vs Q E hr h => ⟨_, PSs.nox (pss_cons (ps_asg (pv 1) (pg_tup rfl (pgs_cons (pg_name (i := 3) sc_shown_day.nd rfl (.inl rfl)) (pgs_cons (pg_name (i := 4) sc_shown_day.nd rfl (.inl rfl)) (pgs_cons (pg_name (i := 5) sc_shown_day.nd rfl (.inl rfl)) pgs_nil)))))
      (pss_cons (ps_asg (pe_ca c_date_of hr (by first | decide | omega) (by rfl) (pa_cons (pv 0) (pa_cons (pv 2) pa_nil))) (pg_tup rfl (pgs_cons (pg_name (i := 6) sc_shown_day.nd rfl (.inl rfl)) (pgs_cons (pg_name (i := 7) sc_shown_day.nd rfl (.inl rfl)) (pgs_cons (pg_name (i := 8) sc_shown_day.nd rfl (.inl rfl)) pgs_nil)))))
      (pss_cons (ps_set (i := 9) sc_shown_day.nd rfl (.inr rfl) (pe_disp (pps_cons pe_str (pe_callTy call_str_int (by rfl) T.f_str (by decide +kernel) (pa_cons (pv 6) pa_nil)) (pps_cons pe_str (pe_callTy call_str_int (by rfl) T.f_str (by decide +kernel) (pa_cons (pv 7) pa_nil)) (pps_cons pe_str (pe_callTy call_str_int (by rfl) T.f_str (by decide +kernel) (pa_cons (pv 8) pa_nil)) pps_nil))) (by rfl) (by rfl) (fun z => by cases z) (by decide)))
      (pss_cons (ps_if (pt_cmpR op_notN (pv 5) pe_non (nomark _)) (pss_one (ps_dput (hu_of hr) (pv 9) pe_str (pe_ix (r := rIxL K) ix_list (pv 5) (pe_op op_sub (pv 7) pe_int) (fun _ _ => rfl)) rfl)) pss_nil)
      (pss_one (ps_ret (pe_join (pv 4) (pe_lc (own := [("letter", 10)]) (g := gName 10) (tt := tYes) rfl sc_shown_day.nd (pi_str (pv 3)) (blkOk_by (own := [("letter", 10)]) (N := ["calendar", "dayform", "day", "order", "joint", "names", "year", "month", "at", "shown", "letter"]) (sc := defScope s_shown_day) (by decide +kernel)) (fun _ _ _ _ _ => pg_name (i := 10) sc_shown_day.nd rfl (.inl rfl)) (fun _ _ _ _ _ => pts_nil) (fun _ _ _ _ _ => (pe_dget (hu_of hr) (pv 9) (pv 10) (fun _ _ => rfl))))))))))), ?_⟩)
  · obtain ⟨a, b, c, day, f, rfl, _⟩ := h; rfl
  · obtain ⟨a, b, c, day, f, rfl, hC, ⟨nv, hf, ho, hn⟩, d0, d1, q⟩ := h
    have hc : 1 ≤ c ∧ c ≤ 30 := by obtain ⟨_, _, _, _, _, h⟩ := hC; exact h
    refine q_asgG (P := fun v _ => v = .ref b) (Ev.toP (ev_var rfl) fun _ _ => rfl) fun v H1 e1 hv => ?_
    subst hv
    refine g_tup (ex_t e1 hf) rfl (g_cons (g_cons (g_cons (g_nil ?_))))
    refine q_asgG (evp_call (ea_cons (ev_var rfl) (ea_cons (ev_var rfl) ea_nil)) (spp_date (hC.mono (ExI.of e1)) d0 d1)) fun v H2 e2 ⟨p, y, r, hv, hp, hy⟩ => ?_
    subst hv
    refine g_tup (st_of hp) rfl (g_cons (g_cons (g_cons (g_nil ?_))))
    rw [dayOf_eq hc.1 f hy] at q
    have hyy : y ≤ day := by
      have := fst_ge hc.1 hy.y0
      have := hy.eq
      have := hy.r0
      omega
    have hr31 : r < 100 := by
      have := hy.rl
      unfold lenM at this
      rw [sum31] at this
      split at this <;> omega
    have hr0 := hy.r0
    have hm2 : 1 ≤ mon r ∧ mon r ≤ 2 := by unfold mon; split <;> omega
    have hd2 : 0 ≤ dom r ∧ dom r < 200 := by unfold dom; split <;> omega
    have hy0 := hy.y0
    have E2 := e1.trans e2
    -- the dict
    intro d hd
    have ex3 : Ex H2 (upd H2 d (.dK [])) := Ex.new hd
    refine ev_c _ (Ex.refl _) _ fun H3 e3 => (ev_cb (ea_cons (ev_var rfl) ea_nil) (rc_str (log_small hy0 (by omega)))) H3 (Ex.refl _) _ fun H4 e4 => ?_
    refine ev_c _ (Ex.refl _) _ fun H5 e5 => (ev_cb (ea_cons (ev_var rfl) ea_nil) (rc_str (log_small (by omega) (by omega)))) H5 (Ex.refl _) _ fun H6 e6 => ?_
    refine ev_c _ (Ex.refl _) _ fun H7 e7 => (ev_cb (ea_cons (ev_var rfl) ea_nil) (rc_str (log_small hd2.1 (by omega)))) H7 (Ex.refl _) _ fun H8 e8 => ?_
    have E38 := (e3.trans e4).trans ((e5.trans e6).trans (e7.trans e8))
    have hd8 : H8 d = some (.dK []) := E38 d _ upd_same
    refine ⟨hd8, [(.inr "y", .str (strI y)), (.inr "m", .str (strI (mon r))), (.inr "d", .str (strI (dom r)))], rfl, Nat.le_of_ble_eq_true rfl, ?_⟩
    have hd1 : H1 d = none := fresh_back e2 hd
    have hd0 : H d = none := fresh_back e1 hd1
    have E8 : Ex H H8 := E2.trans (ex3.trans E38)
    -- what the dict gives
    have hval0 : ∀ j : Str, valV (mergeK [] [((.inr "y" : Key), V.str (strI y)), (.inr "m", .str (strI (mon r))), (.inr "d", .str (strI (dom r)))]) (.inr j) = if j = "d" then some (.str (strI (dom r))) else if j = "m" then some (.str (strI (mon r))) else if j = "y" then some (.str (strI y)) else none := by
      intro j
      show valV (putK (putK (putK [] (Sum.inr "y" : Key) (.str (strI y))) (Sum.inr "m") (.str (strI (mon r)))) (Sum.inr "d") (.str (strI (dom r)))) (.inr j) = _
      rw [putK_val, putK_val, putK_val]
      rfl
    generalize hK0 : mergeK [] [((.inr "y" : Key), V.str (strI y)), (.inr "m", .str (strI (mon r))), (.inr "d", .str (strI (dom r)))] = kv0 at hval0
    have hkl : kv0.length ≤ 3 := by
      subst hK0
      show (putK (putK (putK [] (Sum.inr "y" : Key) (.str (strI y))) (Sum.inr "m") (.str (strI (mon r)))) (Sum.inr "d") (.str (strI (dom r)))).length ≤ 3
      refine Nat.le_trans (length_putK _ _ _) (Nat.succ_le_succ (Nat.le_trans (length_putK _ _ _) (Nat.succ_le_succ (Nat.le_trans (length_putK _ _ _) (Nat.le_refl _)))))
    -- the end
    have fin : ∀ (kv : List (Key × V)) (H9 : Hp), Ex H H9 → H9 d = some (.dK kv) → (∀ j : Str, j = "y" ∨ j = "m" ∨ j = "d" → valV kv (.inr j) = some (.str (if j = "y" then strI y else if j = "m" then (if f.nam = true then (if r < 31 then "Jan" else "F") else strI (mon r)) else strI (dom r)))) →
        tRet (tM1 (rJoin K) (tVar 4) (tLc (iStr (tVar 3)) (gName 10) tYes (tDGet (tVar 9) (tVar 10)) [10])) { nx := fun x H' => Q V.non H', rt := Q } [some (.ref a), some (.ref b), some (.int day), some (.str f.ord), some (.str "/"), some nv, some (.int y), some (.int (mon r)), some (.int (dom r)), some (.ref d), none] H9 := by
      intro kv H9 e9 h9 hv9
      have hol : f.ord.length = 3 := by rcases ho with h | h <;> rw [h] <;> decide +kernel
      have hch : ∀ ch ∈ TL.tl f.ord, ch = 121 ∨ ch = 109 ∨ ch = 100 := by rcases ho with h | h <;> rw [h] <;> decide +kernel
      have el := el_lcStr (σ := [some (.ref a), some (.ref b), some (.int day), some (.str f.ord), some (.str "/"), some nv, some (.int y), some (.int (mon r)), some (.int (dom r)), some (.ref d), none]) (H := H9) (t := tYes) (te := tDGet (tVar 9) (tVar 10)) (tl := tVar 3) (j := 10) (vs := [10]) (z := f.ord) (fun _ => true) (fun i => .str (part f y r ((TL.tl f.ord).getD i 0))) (ev_var rfl) (by omega) (fun _ => rfl) (fun i x H4 e4 hi => fun H1 e Q q => q H1 (Ex.refl H1)) (fun i x H4 e4 hi _ => by
        have hx : (TL.tl f.ord).getD i 0 = x := by rw [List.getD_eq_getElem?_getD]; show (f.ord.cps.toList[i]?).getD 0 = x; rw [hi]; rfl
        rw [hx]
        refine ev_dget (ev_var rfl) (ev_var rfl) (dg_k (k := .inr ⟨#[x]⟩) (.inl (e4 d _ h9)) ?_)
        rcases hch x (List.mem_of_getElem? hi) with rfl | rfl | rfl
        · exact hv9 "y" (.inl rfl)
        · exact hv9 "m" (.inr (.inl rfl))
        · exact hv9 "d" (.inr (.inr rfl)))
      have e0 : given f.ord.length (fun _ => true) (fun i => V.str (part f y r ((TL.tl f.ord).getD i 0))) = ((TL.tl f.ord).map (part f y r)).map V.str := by
        have e1 := given_allA (xs := TL.tl f.ord) (f := fun ch => V.str (part f y r ch)) (d := 0)
        rw [show (TL.tl f.ord).length = f.ord.length from tl_len f.ord] at e1
        rw [e1, List.map_map]
        rfl
      rw [e0] at el
      have hpl : ∀ x ∈ (TL.tl f.ord).map (part f y r), x.length ≤ 61 := by
        intro x hx
        obtain ⟨ch, _, rfl⟩ := List.mem_map.mp hx
        unfold part
        split
        · exact strI_len hy0 (by omega)
        · split
          · split
            · split <;> decide
            · exact strI_len (by omega) (by omega)
          · exact strI_len hd2.1 (by omega)
      have hsum := sum_len hpl
      rw [List.length_map, show (TL.tl f.ord).length = f.ord.length from tl_len f.ord, hol] at hsum
      refine s_ret (ev_joinN (ev_var rfl) el ?_) fun H10 e10 => q H10 (e9.trans e10)
      rw [List.length_map, show (TL.tl f.ord).length = f.ord.length from tl_len f.ord, hol]
      have : ("/" : Str).length = 1 := rfl
      omega
    have hmut : Ex H (upd H8 d (.dK kv0)) := E8.mut hd0
    rcases hn with ⟨hnam, rfl⟩ | ⟨hnam, an, rfl, hna⟩
    · refine q_when (et_test (ev_op (ev_var rfl) ev_c rv_notN)) (fun hb => by cases hb) (fun hb H9 e9 => ?_)
      refine fin kv0 H9 (hmut.trans e9) (e9 d _ upd_same) fun j hj => ?_
      rw [hval0]
      rcases hj with rfl | rfl | rfl
      · rfl
      · rw [if_neg (by decide), if_pos rfl, if_neg (by decide), if_pos rfl, if_neg (by rw [hnam]; exact Bool.false_ne_true)]
      · rfl
    · refine q_when (et_test (ev_op (ev_var rfl) ev_c rv_notN)) (fun hb H9 e9 => ?_) (fun hb => by cases hb)
      have hat : atI (([("Jan" : Str), "F"] : List Str).map V.str) (mon r - 1) = some (.str (if r < 31 then "Jan" else "F")) := by
        unfold mon
        by_cases h : r < 31
        · rw [if_pos h, if_pos h]; exact atI_nat (j := 0) rfl
        · rw [if_neg h, if_neg h]; exact atI_nat (j := 1) rfl
      refine s_dputK (ky := .inr "m") (e9 d _ upd_same) (by omega) (Ev.toP (P := fun v _ => v = .str (if r < 31 then "Jan" else "F")) (ev_op (ev_var rfl) (ev_op (ev_var rfl) ev_c rv_I0) (rv_ixL (ex_l (hmut.trans e9) hna) hat)) fun _ _ => rfl) (ev_var rfl) ev_c fun v H10 e10 ⟨_, _, _, hv⟩ => ?_
      subst hv
      refine fin _ _ ((hmut.trans (e9.trans e10)).mut hd0) upd_same fun j hj => ?_
      rw [putK_val, hval0]
      rcases hj with rfl | rfl | rfl
      · rfl
      · rw [if_pos rfl, if_neg (show ¬ ("m" : Str) = "y" from by decide), if_pos rfl, if_pos hnam]
      · rfl
end
end K71

set_option maxHeartbeats 4000000
/-! K71W16: a value's text: the kinds' text_of, value_text, _law_told. -/
namespace K71
open PySem PySem.Spec PyProof.Rows L2 Evl
/-! ### plain -/
def txt1 (t : Tg) (tab : Tab) (x : Str) : Option Str := (firstIn tab x (t.name :: t.falls)).map fun o => o.2.1
def txts (F : Str → Option Str) : List Str → Option (List Str)
  | [] => some []
  | x :: r => match F x with
    | none => none
    | some z => (txts F r).map (z :: ·)
theorem txts_some {F : Str → Option Str} : ∀ {ws : List Str}, (∀ x ∈ ws, F x ≠ none) → txts F ws = some (ws.map fun x => (F x).getD "")
  | [], _ => rfl
  | x :: r, h => by
    have h1 := h x (List.mem_cons_self ..)
    have ih := txts_some (F := F) (ws := r) fun y hy => h y (List.mem_cons_of_mem _ hy)
    cases e : F x with
    | none => exact absurd e h1
    | some z =>
      rw [txts, e, ih, List.map_cons, e]
      rfl
theorem txts_none {F : Str → Option Str} : ∀ {ws : List Str} {x : Str}, x ∈ ws → F x = none → txts F ws = none
  | [], _, h, _ => by cases h
  | y :: r, x, h, e => by
    cases ey : F y with
    | none => rw [txts, ey]
    | some z =>
      rcases List.mem_cons.mp h with rfl | h
      · rw [e] at ey
        cases ey
      · rw [txts, ey, txts_none h e]
        rfl
def strOf : V → Str
  | .str x => x
  | _ => ""
theorem strOf_map (ws : List Str) : (ws.map V.str).map strOf = ws := by
  rw [List.map_map]
  conv => rhs; rw [← List.map_id ws]
  exact List.map_congr_left fun x _ => rfl
/-- the value's text in the tongue; none where a thing has none -/
noncomputable def txtOf (t : Tg) (tab : Tab) : Kd → AV → Option Str
  | .count, .one (.int i) => some (numT t.fig i)
  | .number, .one (.int i) => some (numT t.fig i)
  | .day, .one (.int i) => some (dayOf t.cal t.frm i)
  | .thing, .one (.str x) => txt1 t tab x
  | .list, .lst xs => (txts (txt1 t tab) (xs.map strOf)).map (laidT t.jo)
  | _, _ => none
def TabOk (tab : Tab) : Prop := ∀ e ∈ tab, Ok e.2.1
theorem TabOk.get {tab : Tab} (h : TabOk tab) {q : Str × Str} {y : Str × Str} (e : tabGet tab q = some y) : Ok y.1 := by
  unfold tabGet at e
  cases hf : tab.find? fun e => decide (e.1 = q) with
  | none => rw [hf] at e; cases e
  | some z =>
    rw [hf] at e
    cases e
    exact h z (List.mem_of_find?_eq_some hf)
theorem TabOk.txt {tab : Tab} (h : TabOk tab) {t : Tg} {x z : Str} (e : txt1 t tab x = some z) : Ok z := by
  unfold txt1 at e
  cases hf : firstIn tab x (t.name :: t.falls) with
  | none => rw [hf] at e; cases e
  | some o =>
    rw [hf] at e
    cases e
    exact h.get (firstIn_get (o := o.1) (y := o.2) hf)
/-- the kinds that have texts -/
abbrev Td := { k : Kd // k ≠ .rank }
section
variable {P : Program} {w : World} {K : PySem.W.Frag} {mg : Str → Option Value} {base : Heap} {σ : L2.St} {H : Hp} {te ta tb : TE}
def sp_text (K : PySem.W.Frag) (k : Td) : Sp := fun vs H Q E => ∃ (b dx a : Addr) (t : Tg) (v : V) (av : AV) (pl : Plan) (ts : List Tg) (tab : Tab), vs = [.ref b, .ref a, .str t.name, v] ∧ H b = some (.ins (He.ga K k.1.cls) dx []) ∧ HouseAt K H a pl ts tab ∧ TsOk ts ∧ t ∈ ts ∧ TabOk tab ∧ AVAt H v av ∧ ValOk pl k.1 av ∧
  (txtOf t tab k.1 av = none → ∀ H2, Ex H H2 → E (.ref (He.ga K "NoThing")) none H2) ∧ (∀ z, txtOf t tab k.1 av = some z → ∀ H2, Ex H H2 → Q (.str z) H2)
theorem val_int {pl : Plan} {k : Kd} {av : AV} {H : Hp} {v : V} (h : ValOk pl k av) (ha : AVAt H v av) (hk : k = .count ∨ k = .number ∨ k = .day) : ∃ i, v = .int i ∧ av = .one (.int i) ∧ -10 ^ 60 < i ∧ i < 10 ^ 60 ∧ (k = .day → 0 ≤ i) := by
  cases av with
  | lst xs => rcases hk with rfl | rfl | rfl <;> exact h.elim
  | one x =>
    obtain ⟨rfl, _⟩ := ha
    cases v with
    | int i =>
      rcases hk with rfl | rfl | rfl
      · have h1 : 0 ≤ i ∧ i < 10 ^ 60 := h
        exact ⟨i, rfl, rfl, by omega, h1.2, fun z => by cases z⟩
      · have h1 : -10 ^ 60 < i ∧ i < 10 ^ 60 := h
        exact ⟨i, rfl, rfl, h1.1, h1.2, fun z => by cases z⟩
      · have h1 : 0 ≤ i ∧ i < 10 ^ 60 := h
        exact ⟨i, rfl, rfl, by omega, h1.2, fun _ => h1.1⟩
    | _ => rcases hk with rfl | rfl | rfl <;> exact h.elim
theorem lookup_nil {m : Str} : ([] : List (Str × V)).lookup m = none := rfl
theorem sc_NumberKind_text_of : FnScope ["self", "house", "tongue", "value"] ["self", "house", "tongue", "value"] (defScope s_NumberKind_text_of) := ⟨rfl, rfl, rfl, by decide +kernel, rfl, by decide +kernel, by decide +kernel⟩
theorem me_num_text (T : Ctx K mg) (c_tongue_named : Me P w K mg base CX0 1 (He.ga K "House") "tongue_named" (sp_tn K) []) (c_shown_number : Ca P w K mg base CX0 2 "shown_number" (sp_number K)) (k : Td) (hk : k.1 = .count ∨ k.1 = .number)
    {f : Addr} {fd : FuncData} (F : FunD K "text_of" "NumberKind.text_of" (defArgs s_NumberKind_text_of) (defBody s_NumberKind_text_of) (defScope s_NumberKind_text_of) [] [] f fd) (hc : Cls K (He.ga K k.1.cls)) (hm : Meth K (He.ga K k.1.cls) "text_of" f) : Me P w K mg base CX0 3 (He.ga K k.1.cls) "text_of" (sp_text K k) [] := by
  refine meOf F sc_NumberKind_text_of hc hm (F.bindsN fun _ _ _ _ _ _ us hl => match us, hl with | [_, _, _, _], _ => rfl) (fun vs H Q E h => ?_) (fun cdv A outer s H vs Q E hr h => ⟨_, PSs.nox (pss_one (ps_ret (pe_ca c_shown_number hr (by first | decide | omega) (by rfl) (pa_cons (pe_fld (pe_me c_tongue_named hr (by first | decide | omega) (pv 1) (pa_cons (pv 2) pa_nil)) rfl) (pa_cons (pv 3) pa_nil))))), ?_⟩)
  · obtain ⟨b, dx, a, t, v, av, pl, ts, tab, rfl, _⟩ := h; rfl
  · obtain ⟨b, dx, a, t, v, av, pl, ts, tab, rfl, hb, h, o, m, tk, hv, vk, _, q⟩ := h
    obtain ⟨z, hw, _⟩ := h.ex
    obtain ⟨i, rfl, rfl, i1, i2, _⟩ := val_int vk hv (by rcases hk with h | h; exact .inl h; exact .inr (.inl h))
    have ht : txtOf t tab k.1 (.one (.int i)) = some (numT t.fig i) := by rcases hk with h | h <;> rw [h] <;> rfl
    refine s_ret (evp_is (evp_callP (A := fun vs H2 => ∃ af, vs = [.ref af, .int i] ∧ FigAt K H2 af t.fig) ?_ ?_)) (q _ ht)
    · refine eap_cons (P := fun v H2 => ∃ af, v = .ref af ∧ FigAt K H2 af t.fig) (R := fun _ vs _ => vs = [.int i]) ?_ (fun _ _ _ _ => EvA.toP (ea_cons (ev_var rfl) ea_nil)) (fun v vs H1 H2 _ e2 hv hvs => ?_)
      · intro H1 e1 Q2 q2
        refine evp_meth (ev_var rfl) (hw.mono (ExI.of e1)).at_ (hF_no (by decide +kernel)) (ea_cons (ev_var rfl) ea_nil) (spp_tn (h.mono e1) o m) H1 (Ex.refl _) _ fun v H2 e2 hv => ?_
        obtain ⟨b2, rfl, dx2, al, rv, aj, af, ac, ad, g1, g2, g3, g4, g5, g6⟩ := hv
        exact ⟨b2, _, dx2, _, .ref af, rfl, g1, T.cl_Tongue, T.na_Tongue_figures, tgF_fig, q2 _ H2 e2 ⟨af, rfl, g4⟩⟩
      · obtain ⟨af, rfl, hf⟩ := hv
        subst hvs
        exact ⟨af, rfl, hf.mono (ExI.of e2)⟩
    · rintro vs H1 e1 ⟨af, rfl, hf⟩
      exact spp_v (spv_number hf ⟨i1, i2⟩) fun _ _ => rfl
theorem sc_DayKind_text_of : FnScope ["self", "house", "tongue", "value", "own"] ["self", "house", "tongue", "value"] (defScope s_DayKind_text_of) := ⟨rfl, rfl, rfl, by decide +kernel, rfl, by decide +kernel, by decide +kernel⟩
theorem me_day_text (T : Ctx K mg) (c_tongue_named : Me P w K mg base CX0 1 (He.ga K "House") "tongue_named" (sp_tn K) []) (c_shown_day : Ca P w K mg base CX0 9 "shown_day" (sp_day K)) : Me P w K mg base CX0 10 (He.ga K "DayKind") "text_of" (sp_text K ⟨.day, by decide⟩) [] := by
  obtain ⟨fd, F⟩ := T.fd_DayKind_text_of
  refine meOf F sc_DayKind_text_of T.cl_DayKind T.me_DayKind_text_of (F.bindsN fun _ _ _ _ _ _ us hl => match us, hl with | [_, _, _, _], _ => rfl) (fun vs H Q E h => ?_) (fun cdv A outer s H vs Q E hr h => ⟨_, PSs.nox (pss_cons (ps_set (i := 4) sc_DayKind_text_of.nd rfl (.inl rfl) (pe_me c_tongue_named hr (by first | decide | omega) (pv 1) (pa_cons (pv 2) pa_nil)))
      (pss_one (ps_ret (pe_ca c_shown_day hr (by first | decide | omega) (by rfl) (pa_cons (pe_fld (pv 4) rfl) (pa_cons (pe_fld (pv 4) rfl) (pa_cons (pv 3) pa_nil))))))), ?_⟩)
  · obtain ⟨b, dx, a, t, v, av, pl, ts, tab, rfl, _⟩ := h; rfl
  · obtain ⟨b, dx, a, t, v, av, pl, ts, tab, rfl, hb, h, o, m, tk, hv, vk, _, q⟩ := h
    obtain ⟨z, hw, _⟩ := h.ex
    obtain ⟨i, rfl, rfl, i1, i2, i3⟩ := val_int vk hv (.inr (.inr rfl))
    refine q_asgP (evp_meth (ev_var rfl) hw.at_ (hF_no (by decide +kernel)) (ea_cons (ev_var rfl) ea_nil) (spp_tn h o m)) fun v H1 e1 hv => ?_
    obtain ⟨b2, rfl, dx2, al, rv, aj, af, ac, ad, g1, g2, g3, g4, g5, g6⟩ := hv
    exact s_ret (ev_call (ea_cons (ev_fld (ev_var rfl) g1 T.cl_Tongue T.na_Tongue_calendar tgF_cal) (ea_cons (ev_fld (ev_var rfl) g1 T.cl_Tongue T.na_Tongue_dayform tgF_frm) (ea_cons (ev_var rfl) ea_nil))) (spv_day g5 g6 (i3 rfl) i2)) fun H2 e2 => q _ rfl H2 (e1.trans e2)
/-! ### those that may raise -/
section
variable {X : Cx} {k j : Nat} {x : Str} {sp : Sp} {p pos : Pos} {e : Expr} {es : List Expr} {t : TA}
theorem pe_caX {E : XK} (c : Ca X.prog X.w X.K X.mg X.base (L2.CX X.prog X.w) k x sp) (hr : Room j X.A) (hk : k ≤ j) (hg : Gl X x) (hx : Passes (L2.CX X.prog X.w) X E) (ha : PA X (e :: es) t)
    (hdb : (x == ("__debug__" : Str)) = false := by decide) (he : starEach (e :: es) X.env = (false, eval e X.env) :: starEach es X.env := by rfl) (hpl : (backTo pos (starEach es X.env)).any (·.1) = false := by rfl) :
    PE X (.Call (.Name x p) (e :: es) [] pos) (tCall sp [] E t) := by
  obtain ⟨f, fd, ps, F, hm, kp, b⟩ := c.ex
  exact pe_call F (hr.mono hk) hg hm kp b .nil hx ha hdb he hpl
end
theorem sc_ThingKind_text_of : FnScope ["self", "house", "tongue", "value"] ["self", "house", "tongue", "value"] (defScope s_ThingKind_text_of) := ⟨rfl, rfl, rfl, by decide +kernel, rfl, by decide +kernel, by decide +kernel⟩
theorem me_thing_text (T : Ctx K mg) (c_named : Ca P w K mg base (L2.CX P w) 4 "named" (sp_named K)) : Me P w K mg base (L2.CX P w) 5 (He.ga K "ThingKind") "text_of" (sp_text K ⟨.thing, by decide⟩) [] := by
  obtain ⟨fd, F⟩ := T.fd_ThingKind_text_of
  refine meOf F sc_ThingKind_text_of T.cl_ThingKind T.me_ThingKind_text_of (F.bindsN fun _ _ _ _ _ _ us hl => match us, hl with | [_, _, _, _], _ => rfl) (fun vs H Q E h => ?_) (fun cdv A outer s H vs Q E hr h => ⟨_, (pss_one (ps_ret (pe_ix (r := rIxT K) ix_tup (pe_caX (E := E) c_named hr (by first | decide | omega) (by rfl) (passes_call (takes_of rfl rfl rfl rfl) fun _ _ _ _ h => h) (pa_cons (pv 1) (pa_cons (pv 2) (pa_cons (pv 3) pa_nil)))) pe_int (fun _ _ => rfl)))), ?_⟩)
  · obtain ⟨b, dx, a, t, v, av, pl, ts, tab, rfl, _⟩ := h; rfl
  · obtain ⟨b, dx, a, t, v, av, pl, ts, tab, rfl, hb, h, o, m, tk, hv, vk, kN, q⟩ := h
    obtain ⟨x, rfl, rfl⟩ : ∃ x, v = .str x ∧ av = .one (.str x) := by
      cases av with
      | lst xs => exact vk.elim
      | one y =>
        obtain ⟨rfl, _⟩ := hv
        cases v with
        | str x => exact ⟨x, rfl, rfl⟩
        | _ => exact vk.elim
    have htx : txtOf t tab Kd.thing (.one (.str x)) = (firstIn tab x (t.name :: t.falls)).map fun o => o.2.1 := rfl
    refine ⟨_, rfl, _, rfl, _, rfl, a, pl, ts, tab, t, x, rfl, h, o, m, fun hn H2 e2 => kN (by rw [htx, hn]; rfl) H2 e2, fun y hy v H2 e2 hw => ?_⟩
    obtain ⟨p, rfl, hp⟩ := hw
    refine ⟨p, _, 1, .str y.2.1, rfl, rfl, st_of hp, atI_nat (j := 1) rfl, q _ (by rw [htx, hy]; rfl) H2 e2⟩
theorem sc_ListKind_text_of : FnScope ["self", "house", "tongue", "value", "texts", "one"] ["self", "house", "tongue", "value"] (defScope s_ListKind_text_of) := ⟨rfl, rfl, rfl, by decide +kernel, rfl, by decide +kernel, by decide +kernel⟩
theorem me_list_text (T : Ctx K mg) (c_named : Ca P w K mg base (L2.CX P w) 4 "named" (sp_named K)) (c_laid : Ca P w K mg base CX0 1 "laid" (sp_laid K)) (c_tongue_named : Me P w K mg base CX0 1 (He.ga K "House") "tongue_named" (sp_tn K) []) : Me P w K mg base (L2.CX P w) 5 (He.ga K "ListKind") "text_of" (sp_text K ⟨.list, by decide⟩) [] := by
  obtain ⟨fd, F⟩ := T.fd_ListKind_text_of
  refine meOf F sc_ListKind_text_of T.cl_ListKind T.me_ListKind_text_of (F.bindsN fun _ _ _ _ _ _ us hl => match us, hl with | [_, _, _, _], _ => rfl) (fun vs H Q E h => ?_) (fun cdv A outer s H vs Q E hr h => ⟨_, (pss_cons (ps_setLcX (i := 4) (own := [("one", 5)]) (g := gName 5) (E0 := E) (te := tOp (rIxT K) (tCallS (sp_named K) (fun _ => E) (tCons (tVar 1) (tCons (tVar 2) (tCons (tVar 5) tNil)))) (tC (.int 1))) rfl rfl (takes_of rfl rfl rfl rfl) rfl sc_ListKind_text_of.nd rfl rfl (sw_true rfl rfl rfl (by decide +kernel)) (pi_list (pv 3)) (blkOk_by (own := [("one", 5)]) (N := ["self", "house", "tongue", "value", "texts", "one"]) (sc := defScope s_ListKind_text_of) (by decide +kernel)) (fun _ _ _ _ _ => pg_name (i := 5) sc_ListKind_text_of.nd rfl (.inl rfl))
      (fun _ _ _ _ _ _ hx => pe_ix (r := rIxT K) ix_tup (pe_caS c_named hr (by first | decide | omega) (by rfl) hx (pa_cons (pv 1) (pa_cons (pv 2) (pa_cons (pv 5) pa_nil)))) pe_int (fun _ _ => rfl)))
      (pss_one (ps_ret (pe_ca c_laid hr (by first | decide | omega) (by rfl) (pa_cons (pe_fld (pe_me c_tongue_named hr (by first | decide | omega) (pv 1) (pa_cons (pv 2) pa_nil)) rfl) (pa_cons (pv 4) pa_nil)))))), ?_⟩)
  · obtain ⟨b, dx, a, t, v, av, pl, ts, tab, rfl, _⟩ := h; rfl
  · obtain ⟨b, dx, a, t, v, av, pl, ts, tab, rfl, hb, h, o, m, tk, hv, vk, kN, q⟩ := h
    obtain ⟨z, hw, _⟩ := h.ex
    obtain ⟨ws, rfl, hws, hmem⟩ : ∃ ws : List Str, av = .lst (ws.map V.str) ∧ ws.length ≤ 8 ∧ ∀ x ∈ ws, x ∈ pl.things := by
      cases av with
      | one y => cases y <;> exact vk.elim
      | lst xs => obtain ⟨ws, rfl, h1, h2⟩ := vk; exact ⟨ws, rfl, h1, h2⟩
    obtain ⟨l, rfl, hl, _⟩ := hv
    have htx : txtOf t tab Kd.list (.lst (ws.map V.str)) = (txts (txt1 t tab) ws).map (laidT t.jo) := by
      show (txts (txt1 t tab) ((ws.map V.str).map strOf)).map (laidT t.jo) = _
      rw [strOf_map]
    -- the texts, one by one
    refine ⟨_, rfl, l, rfl, ⟨_, sq_of hl⟩, fun D hD => ?_⟩
    refine lc_list (K := K) (a := l) (xs := ws.map V.str) (fun i H' => Ex H H' ∧ H' D = some (.lst (((ws.take i).map fun x => (txt1 t tab x).getD "").map V.str)) ∧ ∀ x ∈ ws.take i, txt1 t tab x ≠ none) ⟨Ex.new hD, upd_same, fun x hx => by simp at hx⟩ (fun i H' _ ⟨e, _⟩ => sq_of (e l _ hl)) ?_ ?_
    · rintro i y H' hi ⟨e, hDl, hall⟩
      rw [List.getElem?_map] at hi
      obtain ⟨x, hx, rfl⟩ : ∃ x, ws[i]? = some x ∧ y = .str x := by
        cases hq : ws[i]? with
        | none => rw [hq] at hi; cases hi
        | some n => rw [hq] at hi; exact ⟨n, rfl, (Option.some.inj hi).symm⟩
      refine ⟨rfl, ?_⟩
      show tOp (rIxT K) (tCallS (sp_named K) (fun _ => E) (tCons (tVar 1) (tCons (tVar 2) (tCons (tVar 5) tNil)))) (tC (.int 1)) _ H' _
      refine ⟨_, rfl, _, rfl, _, rfl, a, pl, ts, tab, t, x, rfl, h.mono e, o, m, fun hn H2 e2 => kN ?_ H2 (e.trans e2), fun yy hy v H2 e2 hw2 => ?_⟩
      · rw [htx, txts_none (List.mem_of_getElem? hx) (by unfold txt1; rw [hn]; rfl)]; rfl
      · obtain ⟨p, rfl, hp⟩ := hw2
        have hone : txt1 t tab x = some yy.2.1 := by unfold txt1; rw [hy]; rfl
        refine ⟨p, _, 1, .str yy.2.1, rfl, rfl, st_of hp, atI_nat (j := 1) rfl, _, e2 D _ hDl, ?_, (e.trans e2).mut hD, ?_, fun x' hx' => ?_⟩
        · rw [List.length_map, List.length_map, List.length_take]
          exact sz_lt (by omega)
        · rw [upd_same, take_more hx, List.map_append, List.map_append]
          show _ = some (HO.lst (_ ++ [V.str ((txt1 t tab x).getD "")]))
          rw [hone]
          rfl
        · rw [take_more hx] at hx'
          rcases List.mem_append.mp hx' with hx' | hx'
          · exact hall x' hx'
          · have : x' = x := by simpa using hx'
            subst this
            rw [hone]
            exact Option.some_ne_none _
    · rintro H' ⟨e, hDl, hall⟩
      rw [List.length_map, List.take_length] at hDl hall
      have hsome := txts_some hall
      have q' := q _ (by rw [htx, hsome]; rfl)
      show tRet (tCall (sp_laid K) [] E0 (tCons (tFld K (tMeth (He.ga K "House") "tongue_named" (sp_tn K) [] E0 (tVar 1) (tCons (tVar 2) tNil)) "joiners") (tCons (tVar 4) tNil))) { nx := fun _ H' => Q .non H', rt := Q } [some (.ref b), some (.ref a), some (.str t.name), some (.ref l), some (.ref D), none] H'
      refine s_ret (evp_is (evp_callP (A := fun vs H2 => ∃ aj, vs = [.ref aj, .ref D] ∧ JoAt K H2 aj t.jo) ?_ ?_)) fun H2 e2 => q' H2 (e.trans e2)
      · refine eap_cons (P := fun v H2 => ∃ aj, v = .ref aj ∧ JoAt K H2 aj t.jo) (R := fun _ vs _ => vs = [.ref D]) ?_ (fun _ _ _ _ => EvA.toP (ea_cons (ev_var rfl) ea_nil)) (fun v vs H1 H2 _ e2 hv hvs => ?_)
        · intro H1 e1 Q2 q2
          refine evp_meth (ev_var rfl) (hw.mono (ExI.of (e.trans e1))).at_ (hF_no (by decide +kernel)) (ea_cons (ev_var rfl) ea_nil) (spp_tn (h.mono (e.trans e1)) o m) H1 (Ex.refl _) _ fun v H2 e2 hv => ?_
          obtain ⟨b2, rfl, dx2, al, rv, aj, af, ac, ad, g1, g2, g3, g4, g5, g6⟩ := hv
          exact ⟨b2, _, dx2, _, .ref aj, rfl, g1, T.cl_Tongue, T.na_Tongue_joiners, tgF_jo, q2 _ H2 e2 ⟨aj, rfl, g3⟩⟩
        · obtain ⟨af, rfl, hf⟩ := hv
          subst hvs
          exact ⟨af, rfl, hf.mono (ExI.of e2)⟩
      · rintro vs H1 e1 ⟨aj, rfl, hj⟩
        refine spp_v (spv_laid hj (sq_of (e1 D _ hDl)) (by rw [List.length_map]; exact hws) fun x hx => ?_) fun _ _ => rfl
        obtain ⟨y, hy, rfl⟩ := List.mem_map.mp hx
        cases hq : txt1 t tab y with
        | none => exact absurd hq (hall y hy)
        | some zz => exact tk.txt hq
/-! ### value_text, _law_told -/
def sp_vt (K : PySem.W.Frag) : Sp := fun vs H Q E => ∃ (k : Td) (a : Addr) (t : Tg) (v : V) (av : AV) (pl : Plan) (ts : List Tg) (tab : Tab), vs = [.ref a, .str t.name, .str k.1.s, v] ∧ HouseAt K H a pl ts tab ∧ TsOk ts ∧ t ∈ ts ∧ TabOk tab ∧ AVAt H v av ∧ ValOk pl k.1 av ∧
  (txtOf t tab k.1 av = none → ∀ H2, Ex H H2 → E (.ref (He.ga K "NoThing")) none H2) ∧ (∀ z, txtOf t tab k.1 av = some z → ∀ H2, Ex H H2 → Q (.str z) H2)
theorem sc_value_text : FnScope ["house", "tongue", "kind", "value"] ["house", "tongue", "kind", "value"] (defScope s_value_text) := ⟨rfl, rfl, rfl, by decide +kernel, rfl, by decide +kernel, by decide +kernel⟩
theorem ca_value_text (T : Ctx K mg) (c_kind_named : Ca P w K mg base CX0 1 "kind_named" (sp_kind_named K)) (c_text_of : ∀ k : Td, Me P w K mg base (L2.CX P w) 10 (He.ga K k.1.cls) "text_of" (sp_text K k) []) : Ca P w K mg base (L2.CX P w) 11 "value_text" (sp_vt K) := by
  obtain ⟨fd, F⟩ := T.fd_value_text
  refine caOf F sc_value_text T.g_value_text (F.bindsN fun _ _ _ _ _ _ us hl => match us, hl with | [_, _, _, _], _ => rfl) (fun vs H Q E h => ?_) (fun cdv A outer s H vs Q E hr h => ⟨_, (pss_one (ps_ret (pe_meD (E := E) (fun k : Td => c_text_of k) hr (by decide) (passes_call (takes_of rfl rfl rfl rfl) fun _ _ _ _ h => h) (pe_ca c_kind_named hr (by first | decide | omega) (by rfl) (pa_cons (pv 2) pa_nil)) (pa_cons (pv 0) (pa_cons (pv 1) (pa_cons (pv 3) pa_nil)))))), ?_⟩)
  · obtain ⟨k, a, t, v, av, pl, ts, tab, rfl, _⟩ := h; rfl
  · obtain ⟨k, a, t, v, av, pl, ts, tab, rfl, h, o, m, tk, hv, vk, kN, q⟩ := h
    refine (evp_call (ea_cons (ev_var rfl) ea_nil) (spp_kind_named (K := K) (k := k.1))) H (Ex.refl H) _ fun v1 H1 e1 ⟨b, dx, hv1, hb⟩ => ?_
    subst hv1
    exact ⟨k, b, dx, [], rfl, hb, rfl, _, rfl, _, rfl, _, rfl, b, dx, a, t, v, av, pl, ts, tab, rfl, hb, h.mono e1, o, m, tk, hv.mono e1, vk, fun hn H2 e2 => kN hn H2 (e1.trans e2), fun z hz H2 e2 => q z hz H2 (e1.trans e2)⟩
def textV : Option Str → V
  | none => .non
  | some z => .str z
end
end K71

set_option maxHeartbeats 4000000
/-! K71W17: _law_told, _law_due. -/
namespace K71
open PySem PySem.Spec PyProof.Rows L2 Evl
section
variable {P : Program} {w : World} {K : PySem.W.Frag} {mg : Str → Option Value} {base : Heap} {σ : L2.St} {H : Hp} {te ta tb : TE}
def sp_told (K : PySem.W.Frag) : Sp := fun vs H Q _ => ∃ (k : Td) (a : Addr) (t : Tg) (v : V) (av : AV) (pl : Plan) (ts : List Tg) (tab : Tab), vs = [.ref a, .str t.name, .str k.1.s, v] ∧ HouseAt K H a pl ts tab ∧ TsOk ts ∧ t ∈ ts ∧ TabOk tab ∧ AVAt H v av ∧ ValOk pl k.1 av ∧ ∀ H2, Ex H H2 → Q (textV (txtOf t tab k.1 av)) H2
theorem spv_told {k : Td} {a : Addr} {t : Tg} {v : V} {av : AV} {pl : Plan} {ts : List Tg} {tab : Tab} {H : Hp} (h : HouseAt K H a pl ts tab) (o : TsOk ts) (m : t ∈ ts) (tk : TabOk tab) (hv : AVAt H v av) (vk : ValOk pl k.1 av) : SpV (sp_told K) [.ref a, .str t.name, .str k.1.s, v] H (textV (txtOf t tab k.1 av)) :=
  fun H1 e Q q E => ⟨k, a, t, v, av, pl, ts, tab, rfl, h.mono e, o, m, tk, hv.mono e, vk, fun H2 e2 => q H2 e2⟩
theorem sc__law_told : FnScope ["_law_house_here", "_law_name", "_law_kind", "_law_value_here", "_law_found", "e"] ["_law_house_here", "_law_name", "_law_kind", "_law_value_here"] (defScope s__law_told) := ⟨rfl, rfl, rfl, by decide +kernel, rfl, by decide +kernel, by decide +kernel⟩
/-- the suite's reading where it is a NoThing -/
def toldSuite (K : PySem.W.Frag) (a : Addr) : TS := tSeq (tIfS (tAnd (tB (tCB (rIsE K (He.ga K "NoThing") a) (tCons (tVar 5) (tCons (tC (.ref (He.ga K "NoThing"))) tNil)))) (tAnd (tB (tCB (rIsE K (He.ga K "NoThing") a) (tCons (tVar 5) (tCons (tC (.ty "ValueError")) tNil)))) (tNot (tB (tCB (rIsE K (He.ga K "NoThing") a) (tCons (tVar 5) (tCons (tC (.ref (He.ga K "NoValue"))) tNil))))))) (tRet (tC .non)) tNext) (tRet (tC (.int 0)))
open Classical in
noncomputable def toldTs (K : PySem.W.Frag) (a : Addr) (cls : Value) (d : Option Addr) : TS := if cls = .ref (He.ga K "NoThing") ∧ d = none then toldSuite K a else tSeq tNever tNever
theorem ca__law_told (T : Ctx K mg) (c_value_text : Ca P w K mg base (L2.CX P w) 11 "value_text" (sp_vt K)) : Ca P w K mg base CX0 12 "_law_told" (sp_told K) := by
  obtain ⟨fd, F⟩ := T.fd__law_told
  refine caOf F sc__law_told T.g__law_told (F.bindsN fun _ _ _ _ _ _ us hl => match us, hl with | [_, _, _, _], _ => rfl) (fun vs H Q E h => ?_) (fun cdv A outer s H vs Q E hr h => ⟨_, PSs.nox (pss_cons (ps_try_as (i := 5) (tb := fun W => tAsg (tCallS (sp_vt K) (WE W) (tCons (tVar 0) (tCons (tVar 1) (tCons (tVar 2) (tCons (tVar 3) tNil))))) (gName 4)) (ts := toldTs K) (Wout := fun _ _ _ _ => False) rfl rfl sc__law_told.nd rfl rfl ⟨rfl, by decide, .inl T.g_SayError⟩ takes0
      (fun W pn xe tk _ => pss_one (ps_set (i := 4) sc__law_told.nd rfl (.inl rfl) (pe_caS c_value_text hr (by first | decide | omega) (by rfl) (fun σ => passAt tk σ) (pa_cons (pv 0) (pa_cons (pv 1) (pa_cons (pv 2) (pa_cons (pv 3) pa_nil)))))))
      (fun a oe cls d pn hz hf => by
        unfold toldTs
        by_cases hc : cls = .ref (He.ga K "NoThing") ∧ d = none
        · rw [if_pos hc]
          obtain ⟨rfl, rfl⟩ := hc
          have is1 : ∀ {pos : Pos} {v : V} {e : Expr} {t : TE}, True := trivial
          exact pss_cons (ps_if (PW.pt (pw_and (pt_val (pe_callB (r := rIsE K (He.ga K "NoThing") a) (call_isE T.kit.1 hz hf) (by rfl) T.f_isinstance (by decide +kernel) (pa_cons (pv 5) (pa_cons (pe_glob (v := .ref (He.ga K "NoThing")) (by rfl) T.g_NoThing rfl) pa_nil))))
            (pw_and (pt_val (pe_callB (r := rIsE K (He.ga K "NoThing") a) (call_isE T.kit.1 hz hf) (by rfl) T.f_isinstance (by decide +kernel) (pa_cons (pv 5) (pa_cons (pe_bltn (v := .ty "ValueError") (by rfl) T.f_ValueError (by decide +kernel) rfl) pa_nil))))
            (pw_and1 (pt_not (pt_val (pe_callB (r := rIsE K (He.ga K "NoThing") a) (call_isE T.kit.1 hz hf) (by rfl) T.f_isinstance (by decide +kernel) (pa_cons (pv 5) (pa_cons (pe_glob (v := .ref (He.ga K "NoValue")) (by rfl) T.g_NoValue rfl) pa_nil))))))))) (pss_one (ps_ret pe_non)) pss_nil) (pss_one (ps_ret pe_int))
        · rw [if_neg hc]
          exact pss_cons ps_never (pss_one ps_never)))
      (pss_one (ps_ret (pv 4)))), ?_⟩)
  · obtain ⟨k, a, t, v, av, pl, ts, tab, rfl, _⟩ := h; rfl
  · obtain ⟨k, a, t, v, av, pl, ts, tab, rfl, h, o, m, tk, hv, vk, q⟩ := h
    refine ⟨_, rfl, _, rfl, _, rfl, _, rfl, k, a, t, v, av, pl, ts, tab, rfl, h, o, m, tk, hv, vk, fun hn H2 e2 => ?_, fun z hz H2 e2 => ?_⟩
    · refine ⟨true, T.em_NoThing, fun _ x hx => ?_, fun z => by cases z⟩
      unfold toldTs
      rw [if_pos ⟨rfl, rfl⟩]
      rw [hn] at q
      refine ⟨_, rfl, _, .ref (He.ga K "NoThing"), true, rfl, fun u hu => hu, T.kit.2.1, true, rfl, ?_⟩
      refine ⟨_, rfl, _, .type "ValueError", true, rfl, fun u hu => hu, T.kit.2.2.1, true, rfl, ?_⟩
      refine ⟨_, rfl, _, .ref (He.ga K "NoValue"), false, rfl, fun u hu => hu, T.kit.2.2.2, false, rfl, ?_⟩
      exact q H2 e2
    · rw [hz] at q
      exact s_ret (ev_var rfl) fun H3 e3 => q H3 (e2.trans e3)
/-! ### _law_due -/
def sp_due (K : PySem.W.Frag) : Sp := fun vs H Q _ => ∃ (k : Td) (a d : Addr) (t : Tg) (v : V) (av : AV) (pl : Plan) (ts : List Tg) (tab tab2 : Tab), vs = [.ref a, .str t.name, .str k.1.s, v, .ref d] ∧ HouseAt K H a pl ts tab2 ∧ TsOk ts ∧ t ∈ ts ∧ TabAt H d tab ∧ TabOk tab ∧ AVAt H v av ∧ ValOk pl k.1 av ∧ ∀ H2, Ex H H2 → Q (textV (txtOf t tab k.1 av)) H2
theorem spv_due {k : Td} {a d : Addr} {t : Tg} {v : V} {av : AV} {pl : Plan} {ts : List Tg} {tab tab2 : Tab} {H : Hp} (h : HouseAt K H a pl ts tab2) (o : TsOk ts) (m : t ∈ ts) (hd : TabAt H d tab) (tk : TabOk tab) (hv : AVAt H v av) (vk : ValOk pl k.1 av) : SpV (sp_due K) [.ref a, .str t.name, .str k.1.s, v, .ref d] H (textV (txtOf t tab k.1 av)) :=
  fun H1 e Q q E => ⟨k, a, d, t, v, av, pl, ts, tab, tab2, rfl, h.mono e, o, m, hd.mono e, tk, hv.mono e, vk, fun H2 e2 => q H2 e2⟩
theorem firstV_non {o : Option (Str × (Str × Str))} : decide (FirstV o = .non) = !(o.map fun o => o.2.1).isSome := by
  cases o with
  | none => rfl
  | some x => rfl
theorem sc__law_due : FnScope ["_law_house_here", "_law_name", "_law_kind", "_law_value_here", "_law_texts_here", "_law_own", "_law_row", "_law_thing"] ["_law_house_here", "_law_name", "_law_kind", "_law_value_here", "_law_texts_here"] (defScope s__law_due) := ⟨rfl, rfl, rfl, by decide +kernel, rfl, by decide +kernel, by decide +kernel⟩
theorem ca__law_due (T : Ctx K mg) (c_tongue_named : Me P w K mg base CX0 1 (He.ga K "House") "tongue_named" (sp_tn K) []) (c__law_first : Ca P w K mg base CX0 2 "_law_first" (sp_first K)) (c__law_laid : Ca P w K mg base CX0 1 "_law_laid" (sp_laid K)) (c__law_number_text : Ca P w K mg base CX0 1 "_law_number_text" (sp_number K)) (c_shown_day : Ca P w K mg base CX0 9 "shown_day" (sp_day K)) : Ca P w K mg base CX0 10 "_law_due" (sp_due K) := by
  obtain ⟨fd, F⟩ := T.fd__law_due
  refine caOf F sc__law_due T.g__law_due (F.bindsN fun _ _ _ _ _ _ us hl => match us, hl with | [_, _, _, _, _], _ => rfl) (fun vs H Q E h => ?_) (fun cdv A outer s H vs Q E hr h => ⟨_, PSs.nox (pss_cons (ps_set (i := 5) sc__law_due.nd rfl (.inl rfl) (pe_me c_tongue_named hr (by first | decide | omega) (pv 0) (pa_cons (pv 1) pa_nil)))
      (pss_cons (ps_if (pt_cmpR (r := rIn K false) op_in_seq (pv 2) (pe_tup (pa_cons pe_str (pa_cons pe_str pa_nil))) (by rfl)) (pss_one (ps_ret (pe_ca c__law_number_text hr (by first | decide | omega) (by rfl) (pa_cons (pe_fld (pv 5) rfl) (pa_cons (pv 3) pa_nil))))) pss_nil)
      (pss_cons (ps_if (pt_cmpR op_eq (pv 2) pe_str (nomark _)) (pss_one (ps_ret (pe_ca c_shown_day hr (by first | decide | omega) (by rfl) (pa_cons (pe_fld (pv 5) rfl) (pa_cons (pe_fld (pv 5) rfl) (pa_cons (pv 3) pa_nil)))))) pss_nil)
      (pss_cons (ps_set (i := 6) sc__law_due.nd rfl (.inl rfl) (pe_lst (pa_cons (pv 3) pa_nil)))
      (pss_cons (ps_if (pt_cmpR op_eq (pv 2) pe_str (nomark _)) (pss_one (ps_set (i := 6) sc__law_due.nd rfl (.inl rfl) (pv 3))) pss_nil)
      (pss_cons (ps_if (pt_cmpR (r := rNeD K) (op_neD hr.units) (pe_lc (own := [("_law_thing", 7)]) (g := gName 7) rfl sc__law_due.nd (pi_list (pv 6)) (blkOk_by (own := [("_law_thing", 7)]) (N := ["_law_house_here", "_law_name", "_law_kind", "_law_value_here", "_law_texts_here", "_law_own", "_law_row", "_law_thing"]) (sc := defScope s__law_due) (by decide +kernel)) (fun _ _ _ _ _ => pg_name (i := 7) sc__law_due.nd rfl (.inl rfl)) (fun _ _ _ _ _ => pts_one (pt_cmpR op_isN (pe_ca c__law_first hr (by first | decide | omega) (by rfl) (pa_cons (pv 0) (pa_cons (pv 1) (pa_cons (pv 4) (pa_cons (pv 7) pa_nil))))) pe_non (nomark _))) (fun _ _ _ _ _ => (pv 7))) (pe_lst pa_nil) (nomark _)) (pss_one (ps_ret pe_non)) pss_nil)
      (pss_cons (ps_setLc (i := 6) (own := [("_law_thing", 7)]) (g := gName 7) (tt := tYes) rfl sc__law_due.nd rfl rfl (sw_true rfl rfl rfl (by decide +kernel)) (pi_list (pv 6)) (blkOk_by (own := [("_law_thing", 7)]) (N := ["_law_house_here", "_law_name", "_law_kind", "_law_value_here", "_law_texts_here", "_law_own", "_law_row", "_law_thing"]) (sc := defScope s__law_due) (by decide +kernel)) (fun _ _ _ _ _ => pg_name (i := 7) sc__law_due.nd rfl (.inl rfl)) (fun _ _ _ _ _ => pts_nil) (fun _ _ _ _ _ => (pe_ix (r := rIxT K) ix_tup (pe_dget (hu_of hr) (pv 4) (pe_tup (pa_cons (pe_ca c__law_first hr (by first | decide | omega) (by rfl) (pa_cons (pv 0) (pa_cons (pv 1) (pa_cons (pv 4) (pa_cons (pv 7) pa_nil))))) (pa_cons (pv 7) pa_nil))) (fun _ _ => rfl)) pe_int (fun _ _ => rfl))))
      (pss_cons (ps_if (pt_cmpR op_eq (pv 2) pe_str (nomark _)) (pss_one (ps_ret (pe_ix (r := rIxL K) ix_list (pv 6) pe_int (fun _ _ => rfl)))) pss_nil)
      (pss_one (ps_ret (pe_ca c__law_laid hr (by first | decide | omega) (by rfl) (pa_cons (pe_fld (pv 5) rfl) (pa_cons (pv 6) pa_nil))))))))))))), ?_⟩)
  · obtain ⟨k, a, d, t, v, av, pl, ts, tab, tab2, rfl, _⟩ := h; rfl
  · obtain ⟨⟨k, hkr⟩, a, d, t, v, av, pl, ts, tab, tab2, rfl, h, o, m, hd, tk, hv, vk, q⟩ := h
    obtain ⟨z, hw, _⟩ := h.ex
    refine q_asgP (evp_meth (ev_var rfl) hw.at_ (hF_no (by decide +kernel)) (ea_cons (ev_var rfl) ea_nil) (spp_tn h o m)) fun vo H1 e1 hvo => ?_
    obtain ⟨b2, rfl, dx2, al, rv, aj, af, ac, ad, g1, g2, g3, g4, g5, g6⟩ := hvo
    refine q_when (et_test (ev_inU (ev_var rfl) (eu_tup (ea_cons ev_c (ea_cons ev_c ea_nil)) (Nat.le_of_ble_eq_true rfl)) rfl rfl)) (fun hb H2 e2 => ?_) (fun hb H2 e2 => ?_)
    · have hk : k = .count ∨ k = .number := by
        cases k with
        | count => exact .inl rfl
        | number => exact .inr rfl
        | thing => exact absurd hb (show ¬ inV (V.str Kd.thing.s) [V.str "count", V.str "number"] = true from by decide +kernel)
        | list => exact absurd hb (show ¬ inV (V.str Kd.list.s) [V.str "count", V.str "number"] = true from by decide +kernel)
        | day => exact absurd hb (show ¬ inV (V.str Kd.day.s) [V.str "count", V.str "number"] = true from by decide +kernel)
        | rank => exact absurd rfl hkr
      obtain ⟨i, rfl, rfl, i1, i2, _⟩ := val_int vk hv (by rcases hk with h | h; exact .inl h; exact .inr (.inl h))
      have ht : txtOf t tab k (.one (.int i)) = some (numT t.fig i) := by rcases hk with h | h <;> rw [h] <;> rfl
      rw [show txtOf t tab (Subtype.val ⟨k, hkr⟩) (.one (.int i)) = some (numT t.fig i) from ht] at q
      exact s_ret (ev_call (ea_cons (ev_fld (ev_var rfl) (e2 b2 _ g1) T.cl_Tongue T.na_Tongue_figures tgF_fig) (ea_cons (ev_var rfl) ea_nil)) (spv_number (g4.mono (ExI.of e2)) ⟨i1, i2⟩)) fun H3 e3 => q H3 (e1.trans (e2.trans e3))
    refine q_when (et_test (ev_op (ev_var rfl) ev_c (rv_eq rfl))) (fun hb3 H3 e3 => ?_) (fun hb3 H3 e3 => ?_)
    · obtain rfl : k = .day := Kd.inj (V.str.inj (of_decide_eq_true hb3))
      obtain ⟨i, rfl, rfl, i1, i2, i3⟩ := val_int vk hv (.inr (.inr rfl))
      exact s_ret (ev_call (ea_cons (ev_fld (ev_var rfl) ((e2.trans e3) b2 _ g1) T.cl_Tongue T.na_Tongue_calendar tgF_cal) (ea_cons (ev_fld (ev_var rfl) ((e2.trans e3) b2 _ g1) T.cl_Tongue T.na_Tongue_dayform tgF_frm) (ea_cons (ev_var rfl) ea_nil))) (spv_day (g5.mono (ExI.of (e2.trans e3))) (g6.mono (ExI.of (e2.trans e3))) (i3 rfl) i2)) fun H4 e4 => q H4 (e1.trans ((e2.trans e3).trans e4))
    have hk : k = .thing ∨ k = .list := by
      cases k with
      | count => exact absurd hb (show ¬ inV (V.str Kd.count.s) [V.str "count", V.str "number"] = false from by decide +kernel)
      | number => exact absurd hb (show ¬ inV (V.str Kd.number.s) [V.str "count", V.str "number"] = false from by decide +kernel)
      | day => exact absurd hb3 (show ¬ decide (V.str Kd.day.s = V.str "day") = false from by decide +kernel)
      | thing => exact .inl rfl
      | list => exact .inr rfl
      | rank => exact absurd rfl hkr
    refine q_asgL (el_lst (ea_cons (ev_var rfl) ea_nil) (Nat.le_of_ble_eq_true rfl)) fun l0 H4 n4 e4 h4 => ?_
    have E4 := (e1.trans e2).trans (e3.trans e4)
    -- the row of things
    have fin : ∀ (l : Addr) (ws : List Str) (H5 : Hp), Ex H4 H5 → H5 l = some (.lst (ws.map V.str)) → ws.length ≤ 8 → (∀ x ∈ ws, okV (.str x)) → txtOf t tab k av = (txts (txt1 t tab) ws).map (fun zs => if k = .thing then zs.getD 0 "" else laidT t.jo zs) → (k = .thing → 0 < ws.length) →
        tSeq (tIfS (tTest (tOp (rNeD K) (tLc (iList K (tVar 6)) (gName 7) (tTest (tOp (fun x y H Q => y = V.non ∧ Q (V.bl (decide (x = V.non))) H) (tCall (sp_first K) [] E0 (tCons (tVar 0) (tCons (tVar 1) (tCons (tVar 4) (tCons (tVar 7) tNil))))) (tC V.non))) (tVar 7) [7]) (tLst tNil))) (tRet (tC V.non)) tNext)
          (tSeq (tAsg (tLc (iList K (tVar 6)) (gName 7) tYes (tOp (rIxT K) (tDGet (tVar 4) (tTup (tCons (tCall (sp_first K) [] E0 (tCons (tVar 0) (tCons (tVar 1) (tCons (tVar 4) (tCons (tVar 7) tNil))))) (tCons (tVar 7) tNil)))) (tC (V.int 0))) [7]) (gName 6))
          (tSeq (tIfS (tTest (tOp rEq (tVar 2) (tC (V.str "thing")))) (tRet (tOp (rIxL K) (tVar 6) (tC (V.int 0)))) tNext) (tRet (tCall (sp_laid K) [] E0 (tCons (tFld K (tVar 5) "joiners") (tCons (tVar 6) tNil)))))) { nx := fun x H' => Q V.non H', rt := Q }
          [some (.ref a), some (.str t.name), some (.str k.s), some v, some (.ref d), some (.ref b2), some (.ref l), none] H5 := by
      intro l ws H5 e5 hl hws hok htx hpos
      have E5 := E4.trans e5
      have lm : (ws.map V.str).length = ws.length := List.length_map ..
      have hx : ∀ {i : Nat} {x : V}, (ws.map V.str)[i]? = some x → (ws.map V.str).getD i .non = x ∧ ∃ y, y ∈ ws ∧ x = .str y := by
        intro i x hi
        refine ⟨by rw [List.getD_eq_getElem?_getD, hi]; rfl, ?_⟩
        obtain ⟨y, hy, rfl⟩ := List.mem_map.mp (List.mem_of_getElem? hi)
        exact ⟨y, hy, rfl⟩
      have hfirst : ∀ (H6 : Hp), Ex H5 H6 → ∀ x : Str, SpV (sp_first K) ([.ref a, .str t.name, .ref d, .str x] ++ []) H6 (FirstV (firstIn tab x (t.name :: t.falls))) := fun H6 e6 x => spv_first (h.mono (E5.trans e6)) o m (hd.mono (E5.trans e6))
      have el1 := el_lcL (K := K) (σ := [some (.ref a), some (.str t.name), some (.str k.s), some v, some (.ref d), some (.ref b2), some (.ref l), none]) (H := H5) (t := tTest (tOp (fun x y H Q => y = V.non ∧ Q (V.bl (decide (x = V.non))) H) (tCall (sp_first K) [] E0 (tCons (tVar 0) (tCons (tVar 1) (tCons (tVar 4) (tCons (tVar 7) tNil))))) (tC V.non))) (te := tVar 7) (tl := tVar 6) (j := 7) (vs := [7]) (xs := ws.map V.str)
        (fun i => !(txt1 t tab (strOf ((ws.map V.str).getD i .non))).isSome) (fun i => (ws.map V.str).getD i .non) (ev_var rfl) (sq_of hl) (by omega) (fun _ => rfl) (fun i x H6 e6 hi => by
          obtain ⟨h1, y, hy, rfl⟩ := hx hi
          rw [h1]
          exact et_is (et_test (ev_op (ev_call (ea_cons (ev_var rfl) (ea_cons (ev_var rfl) (ea_cons (ev_var rfl) (ea_cons (ev_var rfl) ea_nil)))) (hfirst H6 e6 y)) ev_c rv_isN)) firstV_non) (fun i x H6 e6 hi _ => by
          rw [(hx hi).1]
          exact ev_var rfl)
      have hokv : ∀ x ∈ given (ws.map V.str).length (fun i => !(txt1 t tab (strOf ((ws.map V.str).getD i .non))).isSome) (fun i => (ws.map V.str).getD i .non), okV x := fun x hx => by
        obtain ⟨y, hy, rfl⟩ := List.mem_map.mp (given_mem hx)
        exact hok y hy
      refine q_when (et_test (ev_neNilN el1 hokv)) (fun hb6 H6 e6 => ?_) (fun hb6 H6 e6 => ?_)
      · rw [given_empty (fun v => (txt1 t tab (strOf v)).isSome)] at hb6
        have hnone : ∃ x ∈ ws, txt1 t tab x = none := by
          have h1 : ((ws.map V.str).all fun v => (txt1 t tab (strOf v)).isSome) = false := by simpa using hb6
          rw [List.all_eq_false] at h1
          obtain ⟨y, hy, hn⟩ := h1
          obtain ⟨x, hx, rfl⟩ := List.mem_map.mp hy
          refine ⟨x, hx, ?_⟩
          cases hq : txt1 t tab x with
          | none => rfl
          | some z => exact absurd (show (txt1 t tab x).isSome = true by rw [hq]; rfl) hn
        obtain ⟨x, hx2, hn⟩ := hnone
        rw [show txtOf t tab (Subtype.val ⟨k, hkr⟩) av = none from by show txtOf t tab k av = none; rw [htx, txts_none hx2 hn]; rfl] at q
        exact s_ret ev_c fun H7 e7 => q H7 (E5.trans (e6.trans e7))
      rw [given_empty (fun v => (txt1 t tab (strOf v)).isSome)] at hb6
      have hall : ∀ x ∈ ws, txt1 t tab x ≠ none := by
        have h1 : ((ws.map V.str).all fun v => (txt1 t tab (strOf v)).isSome) = true := by simpa using hb6
        rw [List.all_eq_true] at h1
        intro x hx2 hn
        have := h1 (.str x) (List.mem_map_of_mem hx2)
        rw [show strOf (.str x) = x from rfl, hn] at this
        cases this
      have E6 := E5.trans e6
      have el2 := el_lcL (K := K) (σ := [some (.ref a), some (.str t.name), some (.str k.s), some v, some (.ref d), some (.ref b2), some (.ref l), none]) (H := H6) (t := tYes) (te := tOp (rIxT K) (tDGet (tVar 4) (tTup (tCons (tCall (sp_first K) [] E0 (tCons (tVar 0) (tCons (tVar 1) (tCons (tVar 4) (tCons (tVar 7) tNil))))) (tCons (tVar 7) tNil)))) (tC (V.int 0))) (tl := tVar 6) (j := 7) (vs := [7]) (xs := ws.map V.str)
        (fun _ => true) (fun i => .str ((txt1 t tab (strOf ((ws.map V.str).getD i .non))).getD "")) (ev_var rfl) (sq_of (e6 l _ hl)) (by omega) (fun _ => rfl) (fun i x H4 e4 hi => fun H1 e Q q => q H1 (Ex.refl H1)) (fun i x H7 e7 hi _ => by
          obtain ⟨h1, y, hy, rfl⟩ := hx hi
          rw [h1, show strOf (.str y) = y from rfl]
          cases hf : firstIn tab y (t.name :: t.falls) with
          | none => exact absurd (show txt1 t tab y = none by unfold txt1; rw [hf]; rfl) (hall y hy)
          | some w' =>
            have hone : txt1 t tab y = some w'.2.1 := by unfold txt1; rw [hf]; rfl
            rw [hone]
            obtain ⟨kvs, hdk, hkv⟩ := (hd.mono (E6.trans e7))
            have hget := firstIn_get (o := w'.1) (y := w'.2) hf
            rcases hkv.get (w'.1, y) with ⟨x1, x2⟩ | ⟨yy, tt, x1, x2, x3⟩
            · rw [hget] at x1; cases x1
            · rw [hget] at x1
              cases x1
              have hc := hfirst H7 (e6.trans e7) y
              rw [hf] at hc
              exact ev_op (ev_dgetU (k := keyT (w'.1, y)) (ev_var rfl) (eu_tup (ea_cons (ev_call (ea_cons (ev_var rfl) (ea_cons (ev_var rfl) (ea_cons (ev_var rfl) (ea_cons (ev_var rfl) ea_nil)))) hc) (ea_cons (ev_var rfl) ea_nil)) (Nat.le_of_ble_eq_true rfl)) hdk x2) ev_c (rv_ixT (st_of x3) (atI_nat (j := 0) rfl)))
      rw [given_all (f := fun v => .str ((txt1 t tab (strOf v)).getD "")), List.map_map] at el2
      have e8 : ws.map ((fun v => V.str ((txt1 t tab (strOf v)).getD "")) ∘ V.str) = (ws.map fun x => (txt1 t tab x).getD "").map V.str := by rw [List.map_map]; rfl
      rw [e8] at el2
      refine q_asgL el2 fun l2 H7 n7 e7 h7 => ?_
      have hsome := txts_some hall
      rw [hsome] at htx
      have q2 : ∀ H2, Ex H H2 → Q (.str (if k = .thing then (ws.map fun x => (txt1 t tab x).getD "").getD 0 "" else laidT t.jo (ws.map fun x => (txt1 t tab x).getD ""))) H2 := by
        intro H2 e2
        have := q H2 e2
        rw [show txtOf t tab (Subtype.val ⟨k, hkr⟩) av = _ from htx] at this
        exact this
      refine q_when (et_test (ev_op (ev_var rfl) ev_c (rv_eq rfl))) (fun hb8 H8 e8 => ?_) (fun hb8 H8 e8 => ?_)
      · have hkt : k = .thing := Kd.inj (V.str.inj (of_decide_eq_true hb8))
        rw [if_pos hkt] at q2
        exact s_ret (ev_op (ev_var rfl) ev_c (rv_ixL (sq_of (e8 l2 _ h7)) (at_getD (k := 0) (by rw [List.length_map]; exact hpos hkt)))) fun H9 e9 => q2 H9 (E6.trans (e7.trans (e8.trans e9)))
      · have hkt : k ≠ .thing := fun z => of_decide_eq_false hb8 (by rw [z]; rfl)
        rw [if_neg hkt] at q2
        have EE : Ex H1 H8 := (e2.trans (e3.trans e4)).trans (e5.trans (e6.trans (e7.trans e8)))
        exact s_ret (ev_call (ea_cons (ev_fld (ev_var rfl) (EE b2 _ g1) T.cl_Tongue T.na_Tongue_joiners tgF_jo) (ea_cons (ev_var rfl) ea_nil)) (spv_laid (g3.mono (ExI.of EE)) (sq_of (e8 l2 _ h7)) (by rw [List.length_map]; exact hws) fun x hx2 => by
          obtain ⟨y, hy, rfl⟩ := List.mem_map.mp hx2
          cases hq : txt1 t tab y with
          | none => exact absurd hq (hall y hy)
          | some zz => exact tk.txt hq)) fun H9 e9 => q2 H9 (E6.trans (e7.trans (e8.trans e9)))
    refine q_when (et_test (ev_op (ev_var rfl) ev_c (rv_eq rfl))) (fun hb5 H5 e5 => ?_) (fun hb5 H5 e5 => ?_)
    · obtain rfl : k = .list := Kd.inj (V.str.inj (of_decide_eq_true hb5))
      obtain ⟨ws, rfl, hws, hmem⟩ : ∃ ws : List Str, av = .lst (ws.map V.str) ∧ ws.length ≤ 8 ∧ ∀ x ∈ ws, x ∈ pl.things := by
        cases av with
        | one y => cases y <;> exact vk.elim
        | lst xs => obtain ⟨ws, rfl, h1, h2⟩ := vk; exact ⟨ws, rfl, h1, h2⟩
      obtain ⟨l, rfl, hl, hok⟩ := hv
      refine s_asg (ev_var rfl) fun H6 e6 => fin l ws H6 (e5.trans e6) ((E4.trans (e5.trans e6)) l _ hl) hws (fun x hx => hok _ (List.mem_map_of_mem hx)) ?_ (fun z => by cases z)
      show (txts (txt1 t tab) ((ws.map V.str).map strOf)).map (laidT t.jo) = _
      rw [strOf_map]
      congr 1
    · obtain rfl : k = .thing := by
        rcases hk with h | h
        · exact h
        · subst h
          exact absurd hb5 (show ¬ decide (V.str Kd.list.s = V.str "list") = false from by decide +kernel)
      obtain ⟨x, rfl, rfl⟩ : ∃ x, v = .str x ∧ av = .one (.str x) := by
        cases av with
        | lst xs => exact vk.elim
        | one y =>
          obtain ⟨rfl, _⟩ := hv
          cases v with
          | str x => exact ⟨x, rfl, rfl⟩
          | _ => exact vk.elim
      refine fin l0 [x] H5 e5 (e5 l0 _ h4) (Nat.le_of_ble_eq_true rfl) (fun y hy => ?_) ?_ (fun _ => Nat.succ_pos _)
      · have : y = x := by simpa using hy
        subst this
        exact hv.2
      · show txt1 t tab x = (txts (txt1 t tab) [x]).map _
        rw [txts]
        cases hq : txt1 t tab x with
        | none => rfl
        | some zz => rfl
end
end K71

set_option maxHeartbeats 4000000
/-! K71W18: is_thing_text, _law_texts, _law_marks, _law_rules. -/
namespace K71
open PySem PySem.Spec PyProof.Rows L2 Evl
section
variable {P : Program} {w : World} {K : PySem.W.Frag} {mg : Str → Option Value} {base : Heap} {σ : L2.St} {H : Hp} {te ta tb td ty : TE} {D : Ends} {tz : TS} {PP : V → Hp → Prop}
theorem s_appP {l : Addr} {xs : List V} (hl : H l = some (.lst xs)) (ha : Ev ta σ H (.ref l)) (h : EvP te σ H PP) (hz : xs.length < 100000) (k : ∀ v H1, Ex H H1 → PP v H1 → D.nx σ (upd H1 l (.lst (xs ++ [v])))) : tDrop (tBM K "list" rAppend ta (tCons te tNil)) D σ H := ha H (Ex.refl H) _ fun H1 e1 =>
  ⟨Or.inl ⟨rfl, xs, sq_of (e1 l _ hl)⟩, h H1 e1 _ fun v H2 e2 p => ⟨l, xs, v, rfl, rfl, e2 l _ (e1 l _ hl), sz_lt hz, k v H2 (e1.trans e2) p⟩⟩
theorem q_appP {l : Addr} {xs : List V} (hl : H l = some (.lst xs)) (ha : Ev ta σ H (.ref l)) (h : EvP te σ H PP) (hz : xs.length < 100000) (k : ∀ v H1, Ex H H1 → PP v H1 → tz D σ (upd H1 l (.lst (xs ++ [v])))) : tSeq (tDrop (tBM K "list" rAppend ta (tCons te tNil))) tz D σ H := s_appP (D := { D with nx := tz D }) hl ha h hz k
/-- d[a, b] = (x, y) -/
theorem s_dputT {d : Addr} {kvs : List (List Key × V)} {ky : List Key} {vals : List V} (hd : H d = some (.dT kvs)) (hz : kvs.length < 100000) (h : EvU te σ H vals) (h1 : Ev td σ H (.ref d)) (h2 : EvU ty σ H (ky.map kV)) (k : ∀ t H1, Ex H H1 → H1 t = some (.tup vals) → D.nx σ (upd H1 d (.dT (putK kvs ky (.ref t))))) : sDPut td ty te D σ H :=
  h H (Ex.refl H) _ fun t H1 _ e ht => h1 H1 e _ fun H2 e2 => h2 H2 (e.trans e2) _ fun p H3 _ e3 hp => ⟨d, _, rfl, .inr ⟨kvs, ky, p, (e.trans (e2.trans e3)) d _ hd, rfl, hp, sz_lt hz, rfl⟩, k t H3 (e.trans (e2.trans e3)) ((e2.trans e3) t _ ht)⟩
theorem rc_int1b {k : Bool} : RC (fun xs H Q => (∃ i, xs = [V.int i] ∧ Q (V.int i) H) ∨ ∃ k, xs = [V.bl k] ∧ Q (V.int (if k = true then 1 else 0)) H) [.bl k] H (.int (if k = true then 1 else 0)) := fun H1 _ _ q => .inr ⟨k, rfl, q H1 (Ex.refl H1)⟩
/-- so many arguments, whatever they are -/
def Len (n : Nat) (vs : List V) (_ : Hp) : Prop := vs.length = n
theorem eapn_nil : EaP tNil σ H (Len 0) := fun H1 _ _ q => q [] H1 (Ex.refl H1) rfl
theorem eapn_cons {tr : TA} {n : Nat} (h : EvP te σ H PP) (hr : EaP tr σ H (Len n)) : EaP (tCons te tr) σ H (Len (n + 1)) := eap_cons h (fun _ H1 e _ => hr.mono e) fun v vs H1 H2 _ _ _ hl => by
  show vs.length + 1 = n + 1
  rw [show vs.length = n from hl]
def Any (_ : V) (_ : Hp) : Prop := True
theorem Ev.any {v : V} (h : Ev te σ H v) : EvP te σ H Any := Ev.toP h fun _ _ => trivial
theorem EvP.any (h : EvP te σ H PP) : EvP te σ H Any := h.imp fun _ _ _ _ => trivial
theorem evp_tupN {t : TA} {n : Nat} (h : EaP t σ H (Len n)) (hn : n ≤ 1000) : EvP (tTup t) σ H Any := (evp_tup h (fun vs _ hl => by rw [show vs.length = n from hl]; omega) fun _ _ _ _ h => h).any
def LstN (n : Nat) (H : Hp) (v : V) (H2 : Hp) : Prop := ∃ p vs, v = .ref p ∧ H p = none ∧ H2 p = some (.lst vs) ∧ vs.length = n
theorem evp_lstN {t : TA} {n : Nat} (h : EaP t σ H (Len n)) (hn : n ≤ 1000) : EvP (tLst t) σ H (LstN n H) := (evp_lst h (fun vs _ hl => by rw [show vs.length = n from hl]; omega) fun _ _ _ _ h => h).imp fun v H2 _ ⟨p, vs, h1, h2, h3, h4⟩ => ⟨p, vs, h1, h2, h3, h4⟩
/-! ### is_thing_text -/
abbrev LET : Str := "abcdefghijklmnopqrstuvwxyzABCDEFGHIJKLMNOPQRSTUVWXYZ"
def TTxt (x : Str) : Prop := 0 < x.length ∧ x.length ≤ 5 ∧ ∀ c ∈ x.cps.toList, c ∈ LET.cps.toList
theorem TTxt.ok {x : Str} (h : TTxt x) : Ok x := ⟨Nat.le_trans h.2.1 (by decide), fun c hc => (show ∀ c ∈ LET.cps.toList, c < 128 from by decide +kernel) c (h.2.2 c hc)⟩
def sp_itt : Sp := fun vs H Q _ => ∃ x : Str, vs = [.str x] ∧ TTxt x ∧ ∀ H2, Ex H H2 → Q (.bl true) H2
theorem spv_itt {x : Str} {H : Hp} (h : TTxt x) : SpV sp_itt [.str x] H (.bl true) := fun H1 e Q q E => ⟨x, rfl, h, fun H2 e2 => q H2 e2⟩
theorem sc_is_thing_text : FnScope ["text", "sign"] ["text"] (defScope s_is_thing_text) := ⟨rfl, rfl, rfl, by decide +kernel, rfl, by decide +kernel, by decide +kernel⟩
theorem ca_is_thing_text (T : Ctx K mg) : Ca P w K mg base CX0 1 "is_thing_text" sp_itt := by
  obtain ⟨fd, F⟩ := T.fd_is_thing_text
  refine caOf F sc_is_thing_text T.g_is_thing_text (F.bindsN fun _ _ _ _ _ _ us hl => match us, hl with | [_], _ => rfl) (fun vs H Q E h => ?_) (fun cdv A outer s H vs Q E hr h => ⟨_, PSs.nox (pss_one (ps_ret (pe_and (pe_callB (r := rIsi K) call_isi (by rfl) T.f_isinstance (by decide +kernel) (pa_cons (pv 0) (pa_cons (pe_bltn (v := .ty "str") (by rfl) T.f_str (by decide +kernel) rfl) pa_nil))) (pe_and (pe_chain op_lt op_le pe_int (pe_callB (r := rLen K) call_len (by rfl) T.f_len (by decide +kernel) (pa_cons (pv 0) pa_nil)) pe_int) (pe_one (pe_callB (r := rAll K) (cr_all rfl) (by rfl) T.f_all (by decide +kernel) (pa_cons (pe_lc (own := [("sign", 1)]) (g := gName 1) (tt := tYes) rfl sc_is_thing_text.nd (pi_str (pv 0)) (blkOk_by (own := [("sign", 1)]) (N := ["text", "sign"]) (sc := defScope s_is_thing_text) (by decide +kernel)) (fun _ _ _ _ _ => pg_name (i := 1) sc_is_thing_text.nd rfl (.inl rfl)) (fun _ _ _ _ _ => pts_nil) (fun _ _ _ _ _ => (pe_cmpR op_in_sign (pv 1) (C8.pe_gc (by rfl) T.c_LETTERS) rfl))) pa_nil))))))), ?_⟩)
  · obtain ⟨x, rfl, _⟩ := h; rfl
  · obtain ⟨x, rfl, ⟨h0, h5, hc⟩, q⟩ := h
    have el := el_lcStr (σ := [some (.str x), none]) (H := H) (t := tYes) (te := tOp (fun x y H Q => ∃ c z, x = V.str { cps := #[c] } ∧ y = V.str z ∧ Q (V.bl (decide (c ∈ z.cps.toList))) H) (tVar 1) (tC (V.str LET))) (tl := tVar 0) (j := 1) (vs := [1]) (z := x) (fun _ => true) (fun i => .bl (decide (x.cps.toList.getD i 0 ∈ LET.cps.toList))) (ev_var rfl) (by omega) (fun _ => rfl) (fun i x H4 e4 hi => fun H1 e Q q => q H1 (Ex.refl H1)) (fun i c H4 e4 hi _ => by
      have hx : x.cps.toList.getD i 0 = c := by rw [List.getD_eq_getElem?_getD, hi]; rfl
      rw [hx]
      exact ev_op (ev_var rfl) ev_c fun H1 _ _ q => ⟨c, LET, rfl, rfl, q H1 (Ex.refl H1)⟩)
    have e0 := given_allA (xs := x.cps.toList) (f := fun c => V.bl (decide (c ∈ LET.cps.toList))) (d := 0)
    rw [tl_len] at e0
    rw [e0] at el
    have em : (x.cps.toList.map fun c => V.bl (decide (c ∈ LET.cps.toList))) = (x.cps.toList.map fun c => decide (c ∈ LET.cps.toList)).map V.bl := by rw [List.map_map]; rfl
    rw [em] at el
    have hall : (x.cps.toList.map fun c => decide (c ∈ LET.cps.toList)).all id = true := by
      rw [List.all_map, List.all_eq_true]
      exact fun c h => decide_eq_true (hc c h)
    refine s_ret (ev_is (ev_andV (ev_isi (ev_var rfl) (rc_isStr (v := .str x) trivial)) fun _ => (ev_andV (ev_chain ev_c (ev_lenS (ev_var rfl) (by omega)) rv_I0 fun _ => ⟨ev_c, rv_I0⟩) fun _ => ev_allN el)) ?_) q
    rw [hall, decide_eq_true (show (0 : Int) < (x.length : Int) by omega), decide_eq_true (show (x.length : Int) ≤ 12 by omega)]
    rfl
/-! ### _law_texts -/
structure TabMem (pl : Plan) (tab : Tab) : Prop where
  mem : ∀ e ∈ tab, e.1.1 ∈ pl.names ∧ e.1.2 ∈ pl.things ∧ e.2.2 ∈ pl.kinds ∧ TTxt e.2.1
  nd : (tab.map (·.1)).Nodup
  le : tab.length ≤ 8
theorem TabMem.ok {pl : Plan} {tab : Tab} (h : TabMem pl tab) : TabOk tab := fun e he => (h.mem e he).2.2.2.ok
theorem TabKv.none {H : Hp} : ∀ {tab : Tab} {kvs : List (List Key × V)} {q : Str × Str}, TabKv H tab kvs → q ∉ tab.map (·.1) → valV kvs (keyT q) = .none
  | _, _, _, .nil, _ => rfl
  | e :: tab, kv :: kvs, q, .cons h r, n => by
    rw [List.map_cons, List.mem_cons, not_or] at n
    rw [valV_neg (by rw [h.1]; exact fun z => n.1 (keyT_inj z).symm)]
    exact TabKv.none r n.2
def TextsV (pl : Plan) (v : V) (H : Hp) : Prop := ∃ d kvs tab, v = .ref d ∧ H d = some (.dT kvs) ∧ TabKv H tab kvs ∧ TabMem pl tab
def sp_texts (K : PySem.W.Frag) : Sp := fun vs H Q _ => ∃ (c : Int) (d : Addr) (pl : Plan), vs = [.int c, .ref d, .bl false] ∧ PlanAt K H d pl ∧ PlanOk pl ∧ ∀ v H2, Ex H H2 → TextsV pl v H2 → Q v H2
theorem spp_texts {c : Int} {d : Addr} {pl : Plan} {H : Hp} (h : PlanAt K H d pl) (o : PlanOk pl) : SpP (sp_texts K) [.int c, .ref d, .bl false] H (TextsV pl) := fun H1 e Q q E => ⟨c, d, pl, rfl, h.mono e, o, q⟩
/-- behind i names and j things of the next one -/
def At (pl : Plan) (i j : Nat) (e : (Str × Str) × (Str × Str)) : Prop := e.1.1 ∈ pl.names.take i ∨ (pl.names[i]? = some e.1.1 ∧ e.1.2 ∈ pl.things.take j)
theorem nd_take {l : List Str} (h : l.Nodup) {i : Nat} {x : Str} (hi : l[i]? = some x) : x ∉ l.take i := fun hm => by
  obtain ⟨j, hj⟩ := List.getElem?_of_mem hm
  have hji : j < i := by
    have := (List.getElem?_eq_some_iff.mp hj).1
    rw [List.length_take] at this
    omega
  rw [List.getElem?_take, if_pos hji] at hj
  have hl := (List.getElem?_eq_some_iff.mp hj).1
  have := (List.getElem?_inj hl h).mp (hj.trans hi.symm)
  omega
theorem sc__law_texts : FnScope ["_law_cell", "_law_plan_here", "_law_sure", "_law_letters", "_law_found", "_law_name", "_law_thing", "_law_text"] ["_law_cell", "_law_plan_here", "_law_sure"] (defScope s__law_texts) := ⟨rfl, rfl, rfl, by decide +kernel, rfl, by decide +kernel, by decide +kernel⟩
theorem ca__law_texts (T : Ctx K mg) (c__law_signs : Ca P w K mg base CX0 1 "_law_signs" sp_signs) : Ca P w K mg base CX0 2 "_law_texts" (sp_texts K) := by
  obtain ⟨fd, F⟩ := T.fd__law_texts
  refine caOf F sc__law_texts T.g__law_texts (F.bindsN fun _ _ _ _ _ _ us hl => match us, hl with | [_, _, _], _ => rfl) (fun vs H Q E h => ?_) (fun cdv A outer s H vs Q E hr h => ⟨_, PSs.nox (pss_cons (ps_set (i := 3) sc__law_texts.nd rfl (.inl rfl) pe_str)
      (pss_cons (ps_set (i := 4) sc__law_texts.nd rfl (.inl rfl) pe_dnewT)
      (pss_cons (ps_for PassesOwn.never rfl (pi_list (pe_dget (hu_of hr) (pv 1) pe_str (fun _ _ => rfl))) (pg_name (i := 5) sc__law_texts.nd rfl (.inl rfl)) (pss_one (ps_for PassesOwn.never rfl (pi_list (pe_dget (hu_of hr) (pv 1) pe_str (fun _ _ => rfl))) (pg_name (i := 6) sc__law_texts.nd rfl (.inl rfl)) (pss_cons (ps_set (i := 7) sc__law_texts.nd rfl (.inl rfl) (pe_ix (r := rIxL K) ix_list (pe_lst (pa_cons (pe_ca c__law_signs hr (by first | decide | omega) (by rfl) (pa_cons (pe_op op_fdiv (pv 0) pe_int) (pa_cons (pe_op op_add pe_int (pe_op op_mod (pv 0) pe_int)) (pa_cons (pv 3) pa_nil)))) (pa_cons pe_str pa_nil))) (pe_callTy call_int1 (by rfl) T.f_int (by decide +kernel) (pa_cons (pe_cmpR op_eq (pe_op op_mod (pv 0) pe_int) pe_int (nomark _)) pa_nil)) (fun _ _ => rfl)))
      (pss_cons (ps_if (PW.pt (pw_or (pt_val (pv 2)) (pw_or1 (pt_cmpR op_gt (pe_op op_mod (pe_op op_fdiv (pv 0) pe_int) pe_int) pe_int (nomark _))))) (pss_one (ps_dput (hu_of hr) (pv 4) (pe_tup (pa_cons (pv 5) (pa_cons (pv 6) pa_nil))) (pe_tup (pa_cons (pv 7) (pa_cons (pe_ix (r := rIxL K) ix_list (pe_dget (hu_of hr) (pv 1) pe_str (fun _ _ => rfl)) (pe_op op_mod (pe_op op_fdiv (pv 0) pe_int) (pe_callB (r := rLen K) call_len (by rfl) T.f_len (by decide +kernel) (pa_cons (pe_dget (hu_of hr) (pv 1) pe_str (fun _ _ => rfl)) pa_nil))) (fun _ _ => rfl)) pa_nil))) rfl)) pss_nil)
      (pss_one (ps_set (i := 0) sc__law_texts.nd rfl (.inl rfl) (pe_op op_add (pe_op op_fdiv (pv 0) pe_int) (pe_op op_mod (pe_op op_mul (pv 0) pe_int) pe_int)))))))))
      (pss_one (ps_ret (pv 4)))))), ?_⟩)
  · obtain ⟨c, d, pl, rfl, _⟩ := h; rfl
  · obtain ⟨c, d, pl, rfl, hP, oP, q⟩ := h
    refine q_asg ev_c fun H1 e1 => ?_
    refine q_dictT fun f H2 hf e2 h2 => ?_
    have hf0 : H f = none := fresh_back e1 hf
    have E2 := e1.trans e2
    obtain ⟨an, hdn, hsn⟩ := (hP.mono E2).names
    refine q_forLn (ev_dget (ev_var rfl) ev_c hdn) hsn (fun i σ' H' => ∃ (c' : Int) (v5 v6 v7 : Option V) (kvs : List (List Key × V)) (tab : Tab), σ' = [some (.int c'), some (.ref d), some (.bl false), some (.str LET), some (.ref f), v5, v6, v7] ∧ Ex H H' ∧ H' f = some (.dT kvs) ∧ TabKv H' tab kvs ∧ (∀ e ∈ tab, e.1.1 ∈ pl.names ∧ e.1.2 ∈ pl.things ∧ e.2.2 ∈ pl.kinds ∧ TTxt e.2.1) ∧ (tab.map (·.1)).Nodup ∧ tab.length ≤ i * 4 ∧ (∀ e ∈ tab, At pl i 0 e) ∧ SqL K H' an (pl.names.map V.str))
      (fun H3 e3 => ⟨c, none, none, none, [], [], rfl, E2.trans e3, e3 f _ h2, .nil, (fun e he => nomatch he), List.nodup_nil, Nat.zero_le _, (fun e he => nomatch he), ex_l e3 hsn⟩) (fun i σ' H' _ ⟨_, _, _, _, _, _, _, _, _, _, _, _, _, _, hs⟩ => hs) ?_ ?_
    · rintro i y σ' H' hi ⟨c', v5, v6, v7, kvs, tab, rfl, e, hfd, hkv, hmem, hnd, hle, hat, hsn'⟩
      rw [List.getElem?_map] at hi
      obtain ⟨nm, hnm, rfl⟩ : ∃ x, pl.names[i]? = some x ∧ y = .str x := by
        cases hq : pl.names[i]? with
        | none => rw [hq] at hi; cases hi
        | some n => rw [hq] at hi; exact ⟨n, rfl, (Option.some.inj hi).symm⟩
      obtain ⟨at', hdt, hst⟩ := (hP.mono e).things
      refine s_forLn (ev_dget (ev_var rfl) ev_c hdt) hst (fun j σ'' H'' => ∃ (c' : Int) (v6 v7 : Option V) (kvs : List (List Key × V)) (tab : Tab), σ'' = [some (.int c'), some (.ref d), some (.bl false), some (.str LET), some (.ref f), some (.str nm), v6, v7] ∧ Ex H H'' ∧ H'' f = some (.dT kvs) ∧ TabKv H'' tab kvs ∧ (∀ e ∈ tab, e.1.1 ∈ pl.names ∧ e.1.2 ∈ pl.things ∧ e.2.2 ∈ pl.kinds ∧ TTxt e.2.1) ∧ (tab.map (·.1)).Nodup ∧ tab.length ≤ i * 4 + j ∧ (∀ e ∈ tab, At pl i j e) ∧ SqL K H'' an (pl.names.map V.str) ∧ SqL K H'' at' (pl.things.map V.str))
        (fun H3 e3 => ⟨c', v6, v7, kvs, tab, rfl, e.trans e3, e3 f _ hfd, hkv.mono (ExI.of e3), hmem, hnd, hle, hat, ex_l e3 hsn', ex_l e3 hst⟩) (fun j σ'' H'' _ ⟨_, _, _, _, _, _, _, _, _, _, _, _, _, _, hs⟩ => hs) ?_ ?_
      · rintro j y σ'' H'' hj ⟨c'', v6, v7, kvs, tab, rfl, e, hfd, hkv, hmem, hnd, hle, hat, hsn', hst'⟩
        rw [List.getElem?_map] at hj
        obtain ⟨th, hth, rfl⟩ : ∃ x, pl.things[j]? = some x ∧ y = .str x := by
          cases hq : pl.things[j]? with
          | none => rw [hq] at hj; cases hj
          | some n => rw [hq] at hj; exact ⟨n, rfl, (Option.some.inj hj).symm⟩
        have h5 := emod_rng c'' (m := 5) (by decide)
        -- the text
        refine q_asgP (P := fun v _ => ∃ z, v = .str z ∧ TTxt z) ?_ fun v H3 e3 ⟨z, hv, hz⟩ => ?_
        · intro H3 e3 Q3 q3
          refine evp_call (ea_cons (ev_op (ev_var rfl) ev_c rv_div) (ea_cons (ev_op ev_c (ev_op (ev_var rfl) ev_c rv_mod) rv_I0) (ea_cons (ev_var rfl) ea_nil))) (spp_signs ⟨by omega, by omega⟩ (by decide +kernel)) H3 e3 _ fun v H4 e4 ⟨r, hv, hr1, hr2⟩ => ?_
          subst hv
          refine ⟨by show 2 ≤ sizeLine; decide, fun p hp => ?_⟩
          refine (ev_cb (ea_cons (ev_op (ev_op (ev_var rfl) ev_c rv_mod) ev_c (rv_eq rfl)) ea_nil) rc_int1b) (upd H4 p _) (Ex.refl _) _ fun H5 e5 => ?_
          have hp5 := e5 p _ upd_same
          by_cases h7 : decide (V.int (c'' % 7) = V.int 0) = true
          · exact ⟨p, _, _, .str "Ab", rfl, rfl, sq_of hp5, by rw [if_pos h7]; exact atI_nat (j := 1) rfl, q3 _ H5 (e4.trans ((Ex.new hp).trans e5)) ⟨"Ab", rfl, by decide, by decide, by decide +kernel⟩⟩
          · exact ⟨p, _, _, .str r, rfl, rfl, sq_of hp5, by rw [if_neg h7]; exact atI_nat (j := 0) rfl, q3 _ H5 (e4.trans ((Ex.new hp).trans e5)) ⟨r, rfl, by omega, by omega, hr2⟩⟩
        · subst hv
          have E3 := e.trans e3
          obtain ⟨ak, hdk, hsk⟩ := (hP.mono E3).kinds
          -- the turn's end: the next cell
          have fin : ∀ (kvs : List (List Key × V)) (tab : Tab) (H4 : Hp), Ex H H4 → H4 f = some (.dT kvs) → TabKv H4 tab kvs → (∀ e ∈ tab, e.1.1 ∈ pl.names ∧ e.1.2 ∈ pl.things ∧ e.2.2 ∈ pl.kinds ∧ TTxt e.2.1) → (tab.map (·.1)).Nodup → tab.length ≤ i * 4 + (j + 1) → (∀ e ∈ tab, At pl i (j + 1) e) → SqL K H4 an (pl.names.map V.str) → SqL K H4 at' (pl.things.map V.str) →
              tAsg (tOp (rI0 fun i j => V.int (i + j)) (tOp (rI CDiv fun i j => V.int (i / j)) (tVar 0) (tC (V.int 37))) (tOp (rI (fun x j => 0 < j) fun i j => V.int (i % j)) (tOp (rI CMul fun i j => V.int (i * j)) (tVar 0) (tC (V.int 48271))) (tC (V.int 2147483647)))) (gName 0)
              { nx := fun σ'' H'' => ∃ (c' : Int) (v6 v7 : Option V) (kvs : List (List Key × V)) (tab : Tab), σ'' = [some (.int c'), some (.ref d), some (.bl false), some (.str LET), some (.ref f), some (.str nm), v6, v7] ∧ Ex H H'' ∧ H'' f = some (.dT kvs) ∧ TabKv H'' tab kvs ∧ (∀ e ∈ tab, e.1.1 ∈ pl.names ∧ e.1.2 ∈ pl.things ∧ e.2.2 ∈ pl.kinds ∧ TTxt e.2.1) ∧ (tab.map (·.1)).Nodup ∧ tab.length ≤ i * 4 + (j + 1) ∧ (∀ e ∈ tab, At pl i (j + 1) e) ∧ SqL K H'' an (pl.names.map V.str) ∧ SqL K H'' at' (pl.things.map V.str), rt := Q, bk := fun _ _ => False, ct := fun _ _ => False }
              [some (.int c''), some (.ref d), some (.bl false), some (.str LET), some (.ref f), some (.str nm), some (.str th), some (.str z)] H4 := by
            intro kvs tab H4 e4 hfd hkv hmem hnd hle hat hsn' hst'
            exact s_asg (ev_op (ev_op (ev_var rfl) ev_c rv_div) (ev_op (ev_op (ev_var rfl) ev_c rv_mul2) ev_c rv_mod) rv_I0) fun H5 e5 => ⟨_, some (.str th), some (.str z), kvs, tab, rfl, e4.trans e5, e5 f _ hfd, hkv.mono (ExI.of e5), hmem, hnd, hle, hat, ex_l e5 hsn', ex_l e5 hst'⟩
          have hat' : ∀ e ∈ tab, At pl i (j + 1) e := fun e he => by
            rcases hat e he with h | ⟨h1, h2⟩
            · exact .inl h
            · exact .inr ⟨h1, by rw [take_more hth]; exact List.mem_append_left _ h2⟩
          refine q_when (et_or (et_B (ev_var rfl)) fun _ => (et_test (ev_op (ev_op (ev_op (ev_var rfl) ev_c rv_div) ev_c rv_mod) ev_c rv_I0))) (fun hb H4 e4 => ?_) (fun hb H4 e4 => ?_)
          · have E4 := E3.trans e4
            have hpk : 0 < (pl.kinds.map V.str).length := by rw [List.length_map]; exact oP.kinds.pos
            obtain ⟨vk, hvk, _, hak⟩ := at_mod (xs := pl.kinds.map V.str) (c'' / 3) hpk
            obtain ⟨kd, hkd, rfl⟩ := List.mem_map.mp hvk
            have hfd4 := (e3.trans e4) f _ hfd
            have hkl : kvs.length = tab.length := hkv.length.symm
            have hil : i < 2 := Nat.lt_of_lt_of_le (List.getElem?_eq_some_iff.mp hnm).1 oP.names.le
            have hjl : j < 4 := Nat.lt_of_lt_of_le (List.getElem?_eq_some_iff.mp hth).1 oP.things.le
            refine s_dputT (ky := keyT (nm, th)) hfd4 (by omega) (eu_tup (ea_cons (ev_var rfl) (ea_cons (ev_op (ev_dget (ev_var rfl) ev_c (dget_ex e4 hdk)) (ev_op (ev_op (ev_var rfl) ev_c rv_div) (ev_lenL (ev_dget (ev_var rfl) ev_c (dget_ex e4 hdk)) (ex_l e4 hsk)) (rv_mod (by omega))) (rv_ixL (ex_l e4 hsk) hak)) ea_nil)) (Nat.le_of_ble_eq_true rfl)) (ev_var rfl) (eu_tup (ea_cons (ev_var rfl) (ea_cons (ev_var rfl) ea_nil)) (Nat.le_of_ble_eq_true rfl)) fun t H5 e5 ht => ?_
            have hnew : (nm, th) ∉ tab.map (·.1) := fun hm => by
              obtain ⟨e, he, h1⟩ := List.mem_map.mp hm
              rcases hat e he with h | ⟨_, h2⟩
              · rw [h1] at h
                exact nd_take oP.names.nd hnm h
              · rw [h1] at h2
                exact nd_take oP.things.nd hth h2
            have hkv5 := (hkv.mono (ExI.of (e3.trans (e4.trans e5))))
            have hput : ExI H5 (upd H5 f (.dT (kvs ++ [(keyT (nm, th), .ref t)]))) := ExI.put (e5 f _ hfd4) rfl
            rw [putK_new (V.ref t) (TabKv.none hkv hnew)]
            refine fin (kvs ++ [(keyT (nm, th), .ref t)]) (tab ++ [((nm, th), (z, kd))]) _ ((E4.trans e5).mut hf0) upd_same ?_ (fun e he => ?_) ?_ ?_ (fun e he => ?_) (exi_l hput (ex_l (e3.trans (e4.trans e5)) hsn')) (exi_l hput (ex_l (e3.trans (e4.trans e5)) hst'))
            · exact paired_snoc (hkv5.mono hput) ⟨rfl, t, rfl, hput t _ rfl ht⟩
            · rcases List.mem_append.mp he with he | he
              · exact hmem e he
              · have := List.mem_singleton.mp he
                subst this
                exact ⟨List.mem_of_getElem? hnm, List.mem_of_getElem? hth, hkd, hz⟩
            · rw [List.map_append, List.nodup_append]
              refine ⟨hnd, by simp, fun a ha b hb => ?_⟩
              have : b = (nm, th) := by simpa using hb
              subst this
              intro zz; subst zz; exact hnew ha
            · rw [List.length_append]
              simp only [List.length_cons, List.length_nil]
              omega
            · rcases List.mem_append.mp he with he | he
              · exact hat' e he
              · have := List.mem_singleton.mp he
                subst this
                exact .inr ⟨hnm, by rw [take_more hth]; simp⟩
          · exact fin kvs tab H4 (E3.trans e4) ((e3.trans e4) f _ hfd) (hkv.mono (ExI.of (e3.trans e4))) hmem hnd (by omega) hat' (ex_l (e3.trans e4) hsn') (ex_l (e3.trans e4) hst')
      · rintro σ'' H'' ⟨c'', v6, v7, kvs, tab, rfl, e, hfd, hkv, hmem, hnd, hle, hat, hsn', hst'⟩
        refine ⟨c'', some (.str nm), v6, v7, kvs, tab, rfl, e, hfd, hkv, hmem, hnd, ?_, fun e he => ?_, hsn'⟩
        · rw [List.length_map] at hle
          have := oP.things.le
          omega
        · left
          rw [take_more hnm]
          rcases hat e he with h | ⟨h1, _⟩
          · exact List.mem_append_left _ h
          · rw [hnm] at h1
            rw [← Option.some.inj h1]
            simp
    · rintro σ' H' ⟨c', v5, v6, v7, kvs, tab, rfl, e, hfd, hkv, hmem, hnd, hle, hat, hsn'⟩
      refine s_ret (ev_var rfl) fun H3 e3 => q _ H3 (e.trans e3) ⟨f, kvs, tab, rfl, e3 f _ hfd, hkv.mono (ExI.of e3), hmem, hnd, ?_⟩
      rw [List.length_map] at hle
      have := oP.names.le
      omega
end
end K71

set_option maxHeartbeats 4000000
/-! K71W19: _law_marks, _law_rules. -/
namespace K71
open PySem PySem.Spec PyProof.Rows L2 Evl
section
variable {P : Program} {w : World} {K : PySem.W.Frag} {mg : Str → Option Value} {base : Heap} {σ : L2.St} {H : Hp} {te ta tb td ty : TE} {D : Ends} {tz : TS} {PP : V → Hp → Prop}
/-! ### _law_marks -/
def MarkKv (H : Hp) (kvs : List (Key × V)) (x : Str) : Prop := ∃ l xs, valV kvs (.inr x) = some (.ref l) ∧ H l = some (.lst xs)
theorem MarkKv.mono {H H' : Hp} {kvs : List (Key × V)} {x : Str} (e : ExI H H') (h : MarkKv H kvs x) : MarkKv H' kvs x := let ⟨l, xs, h1, h2⟩ := h; ⟨l, xs, h1, e l _ rfl h2⟩
def MarksAt (H : Hp) (d : Addr) (pl : Plan) : Prop := ∃ kvs, Rd H d (.dK kvs) ∧ ∀ x ∈ pl.keys, MarkKv H kvs x
theorem MarksAt.mono {H H' : Hp} {d : Addr} {pl : Plan} (e : Ex H H') (h : MarksAt H d pl) : MarksAt H' d pl := let ⟨kvs, h1, h2⟩ := h; ⟨kvs, ex_rd e h1, fun x hx => (h2 x hx).mono (ExI.of e)⟩
def sp_marks (K : PySem.W.Frag) : Sp := fun vs H Q _ => ∃ (c : Int) (d : Addr) (pl : Plan), vs = [.int c, .ref d] ∧ PlanAt K H d pl ∧ PlanOk pl ∧ ∀ v H2, Ex H H2 → (∃ m, v = .ref m ∧ MarksAt H2 m pl) → Q v H2
theorem spp_marks {c : Int} {d : Addr} {pl : Plan} {H : Hp} (h : PlanAt K H d pl) (o : PlanOk pl) : SpP (sp_marks K) [.int c, .ref d] H fun v H2 => ∃ m, v = .ref m ∧ MarksAt H2 m pl := fun H1 e Q q E => ⟨c, d, pl, rfl, h.mono e, o, q⟩
theorem cut_to {xs : List V} {i : Int} (h : 0 ≤ i) : (cutV xs none (some i)).length ≤ i.toNat := by
  unfold cutV
  have e1 : HT.sIx xs.length 0 none = 0 := rfl
  have e2 : HT.sIx xs.length xs.length (some i) = min i.toNat xs.length := by
    show (if i < 0 then (i + (xs.length : Int)).toNat else min i.toNat xs.length) = _
    rw [if_neg (by omega)]
  rw [e1, e2, List.drop_zero, List.length_take]
  omega
theorem sc__law_marks : FnScope ["_law_cell", "_law_plan_here", "_law_kinds", "_law_found", "_law_key", "_law_row", "_law_gap"] ["_law_cell", "_law_plan_here"] (defScope s__law_marks) := ⟨rfl, rfl, rfl, by decide +kernel, rfl, by decide +kernel, by decide +kernel⟩
theorem ca__law_marks (T : Ctx K mg) : Ca P w K mg base CX0 1 "_law_marks" (sp_marks K) := by
  obtain ⟨fd, F⟩ := T.fd__law_marks
  refine caOf F sc__law_marks T.g__law_marks (F.bindsN fun _ _ _ _ _ _ us hl => match us, hl with | [_, _], _ => rfl) (fun vs H Q E h => ?_) (fun cdv A outer s H vs Q E hr h => ⟨_, PSs.nox (pss_cons (ps_set (i := 2) sc__law_marks.nd rfl (.inl rfl) (pe_lst (pa_cons pe_str (pa_cons pe_str (pa_cons pe_str (pa_cons pe_str (pa_cons pe_str (pa_cons pe_str pa_nil))))))))
      (pss_cons (ps_set (i := 3) sc__law_marks.nd rfl (.inl rfl) pe_dnewK)
      (pss_cons (ps_for PassesOwn.never rfl (pi_list (pe_dget (hu_of hr) (pv 1) pe_str (fun _ _ => rfl))) (pg_name (i := 4) sc__law_marks.nd rfl (.inl rfl)) (pss_cons (ps_set (i := 5) sc__law_marks.nd rfl (.inl rfl) (pe_lst pa_nil))
      (pss_cons (ps_for PassesOwn.never rfl (pi_list (pe_slice (r := rSlL K) sl_list (pe_dget (hu_of hr) (pv 1) pe_str (fun _ _ => rfl)) po_none (po_some (pe_op op_mod (pv 0) pe_int)))) (pg_name (i := 6) sc__law_marks.nd rfl (.inl rfl)) (pss_cons (ps_set (i := 0) sc__law_marks.nd rfl (.inl rfl) (pe_op op_fdiv (pv 0) pe_int))
      (pss_one (ps_expr (pe_bm PySem.F.plainAttrs_list PySem.F.slot_list_append PySem.F.type_list_append mt_append (pv 5) (pa_cons (pe_tup (pa_cons (pv 6) (pa_cons (pe_ix (r := rIxL K) ix_list (pv 2) (pe_op op_mod (pv 0) pe_int) (fun _ _ => rfl)) pa_nil))) pa_nil))))))
      (pss_cons (ps_dput (hu_of hr) (pv 3) (pv 4) (pv 5) rfl)
      (pss_one (ps_set (i := 0) sc__law_marks.nd rfl (.inl rfl) (pe_op op_fdiv (pv 0) pe_int)))))))
      (pss_one (ps_ret (pv 3)))))), ?_⟩)
  · obtain ⟨c, d, pl, rfl, _⟩ := h; rfl
  · obtain ⟨c, d, pl, rfl, hP, oP, q⟩ := h
    refine q_asgL (el_lst (ea_cons ev_c (ea_cons ev_c (ea_cons ev_c (ea_cons ev_c (ea_cons ev_c (ea_cons ev_c ea_nil)))))) (Nat.le_of_ble_eq_true rfl)) fun kl H1 _ e1 h1 => ?_
    refine q_dictK fun f H2 hf e2 h2 => ?_
    have hf0 : H f = none := fresh_back e1 hf
    have hf1 : H1 f = none := hf
    have E2 := e1.trans e2
    obtain ⟨ak, hdk, hsk⟩ := (hP.mono E2).keys
    refine q_forLn (ev_dget (ev_var rfl) ev_c hdk) hsk (fun i σ' H' => ∃ (c' : Int) (v4 v5 v6 : Option V) (kvs : List (Key × V)), σ' = [some (.int c'), some (.ref d), some (.ref kl), some (.ref f), v4, v5, v6] ∧ Ex H1 H' ∧ H' f = some (.dK kvs) ∧ kvs.length ≤ i ∧ (∀ x ∈ pl.keys.take i, MarkKv H' kvs x) ∧ SqL K H' ak (pl.keys.map V.str))
      (fun H3 e3 => ⟨c, none, none, none, [], rfl, e2.trans e3, e3 f _ h2, Nat.zero_le _, (fun x hx => nomatch hx), ex_l e3 hsk⟩) (fun i σ' H' _ ⟨_, _, _, _, _, _, _, _, _, _, hs⟩ => hs) ?_ ?_
    · rintro i y σ' H' hi ⟨c', v4, v5, v6, kvs, rfl, e, hfd, hkl, hmk, hsk'⟩
      rw [List.getElem?_map] at hi
      obtain ⟨ky, hky, rfl⟩ : ∃ x, pl.keys[i]? = some x ∧ y = .str x := by
        cases hq : pl.keys[i]? with
        | none => rw [hq] at hi; cases hi
        | some n => rw [hq] at hi; exact ⟨n, rfl, (Option.some.inj hi).symm⟩
      refine q_asgL (el_lst ea_nil (Nat.le_of_ble_eq_true rfl)) fun l H3 hl e3 h3 => ?_
      have hl0 : H' l = none := hl
      have E3 := (e1.trans e).trans e3
      obtain ⟨ag, hdg, hsg⟩ := (hP.mono E3).gaps
      have h4 := emod_rng c' (m := 4) (by decide)
      refine q_forNLn (el_sl (ev_dget (ev_var rfl) ev_c hdg) eo_none (eo_some (ev_op (ev_var rfl) ev_c rv_mod)) hsg) (fun p j σ'' H'' => ∃ (c'' : Int) (v6 : Option V) (xs : List V), σ'' = [some (.int c''), some (.ref d), some (.ref kl), some (.ref f), some (.str ky), some (.ref l), v6] ∧ Ex H' H'' ∧ H'' l = some (.lst xs) ∧ xs.length ≤ j ∧ H'' p = some (.lst (cutV (pl.gaps.map V.str) none (some (c' % 4)))) ∧ p ≠ l)
        (fun p H4 hp e4 h4 => ⟨c', v6, [], rfl, e3.trans e4, e4 l _ h3, Nat.zero_le _, h4, fun z => by rw [z, h3] at hp; cases hp⟩) (fun p j σ'' H'' _ ⟨_, _, _, _, _, _, _, hs, _⟩ => sq_of hs) ?_ ?_
      · rintro p j x σ'' H'' hj ⟨c'', v6, xs, rfl, e4, hL, hxl, hp, hpl⟩
        have hcl := cut_to (xs := pl.gaps.map V.str) h4.1
        have hjl := (List.getElem?_eq_some_iff.mp hj).1
        refine q_asg (ev_op (ev_var rfl) ev_c rv_div) fun H5 e5 => ?_
        obtain ⟨vk, _, hvk⟩ := at_modm (xs := ([.str "count", .str "thing", .str "list", .str "rank", .str "number", .str "day"] : List V)) (c'' / 5) (m := 6) rfl (by decide)
        have hkl5 : H5 kl = some (.lst [.str "count", .str "thing", .str "list", .str "rank", .str "number", .str "day"]) := (e.trans (e4.trans e5)) kl _ h1
        refine s_appP (e5 l _ hL) (ev_var rfl) (evp_tupN (eapn_cons (Ev.any (ev_var rfl)) (eapn_cons (Ev.any (ev_op (ev_var rfl) (ev_op (ev_var rfl) ev_c rv_mod) (rv_ixL (sq_of hkl5) hvk))) eapn_nil)) (by decide)) (by omega) fun v H6 e6 _ => ?_
        refine ⟨_, _, xs ++ [v], rfl, ((e4.trans e5).trans e6).mut hl0, upd_same, by rw [List.length_append]; simp only [List.length_cons, List.length_nil]; omega, ?_, hpl⟩
        rw [upd_ne hpl]
        exact (e5.trans e6) p _ hp
      · rintro p σ'' H'' ⟨c'', v6, xs, rfl, e4, hL, hxl, hp, hpl⟩
        have hcl := cut_to (xs := pl.gaps.map V.str) h4.1
        have hkk : i < 3 := Nat.lt_of_lt_of_le (List.getElem?_eq_some_iff.mp hky).1 oP.keys.le
        refine q_dputK (ky := .inr ky) (e4 f _ hfd) (by omega) (Ev.toP (P := fun v _ => v = .ref l) (ev_var rfl) fun _ _ => rfl) (ev_var rfl) (ev_var rfl) fun v H5 e5 ⟨_, _, _, hv⟩ => ?_
        subst hv
        have hput : ExI H5 (upd H5 f (.dK (putK kvs (.inr ky) (.ref l)))) := ExI.put ((e4.trans e5) f _ hfd) rfl
        refine s_asg (ev_op (ev_var rfl) ev_c rv_div) fun H6 e6 => ?_
        have hI := hput.trans (ExI.of e6)
        refine ⟨_, _, _, _, putK kvs (.inr ky) (.ref l), rfl, (((e.trans (e4.trans e5))).mut hf1).trans e6, e6 f _ upd_same, Nat.le_trans (length_putK _ _ _) (by omega), fun x hx => ?_, exi_l hI (ex_l (e4.trans e5) hsk')⟩
        by_cases hxk : x = ky
        · subst hxk
          exact ⟨l, xs, by rw [putK_val, if_pos rfl], hI l _ rfl (e5 l _ hL)⟩
        · rw [take_more hky] at hx
          rcases List.mem_append.mp hx with hx | hx
          · obtain ⟨l', xs', h1', h2'⟩ := (hmk x hx).mono (ExI.of (e4.trans e5))
            exact ⟨l', xs', by rw [putK_val, if_neg hxk]; exact h1', hI l' _ rfl h2'⟩
          · exact absurd (List.mem_singleton.mp hx) hxk
    · rintro σ' H' ⟨c', v4, v5, v6, kvs, rfl, e, hfd, hkl, hmk, hsk'⟩
      refine s_ret (ev_var rfl) fun H3 e3 => q _ H3 ((e1.trans e).trans e3) ⟨f, rfl, kvs, .inl (e3 f _ hfd), fun x hx => ?_⟩
      rw [List.length_map, List.take_length] at hmk
      exact (hmk x hx).mono (ExI.of e3)
/-! ### _law_rules -/
def sp_rules (K : PySem.W.Frag) : Sp := fun vs H Q _ => ∃ (c : Int) (a : Addr) (ws : List Str), vs = [.int c, .ref a] ∧ SqL K H a (ws.map V.str) ∧ ws ≠ [] ∧ ws.length ≤ 10 ∧ ∀ v H2, Ex H H2 → Q v H2
theorem spp_rules {c : Int} {a : Addr} {ws : List Str} {H : Hp} (h : SqL K H a (ws.map V.str)) (o : ws ≠ []) (l : ws.length ≤ 10) : SpP (sp_rules K) [.int c, .ref a] H Any := fun H1 e Q q E => ⟨c, a, ws, rfl, ex_l e h, o, l, fun v H2 e2 => q v H2 e2 trivial⟩
theorem sc__law_rules : FnScope ["_law_cell", "_law_ways", "_law_found", "_law_word", "_law_low", "_law_some"] ["_law_cell", "_law_ways"] (defScope s__law_rules) := ⟨rfl, rfl, rfl, by decide +kernel, rfl, by decide +kernel, by decide +kernel⟩
theorem ca__law_rules (T : Ctx K mg) : Ca P w K mg base CX0 1 "_law_rules" (sp_rules K) := by
  obtain ⟨fd, F⟩ := T.fd__law_rules
  refine caOf F sc__law_rules T.g__law_rules (F.bindsN fun _ _ _ _ _ _ us hl => match us, hl with | [_, _], _ => rfl) (fun vs H Q E h => ?_) (fun cdv A outer s H vs Q E hr h => ⟨_, PSs.nox (pss_cons (ps_set (i := 2) sc__law_rules.nd rfl (.inl rfl) (pe_lst pa_nil))
      (pss_cons (ps_for PassesOwn.never rfl (pi_list (pe_slice (r := rSlL K) sl_list (pv 1) po_none (po_some (pe_un un_neg pe_int)))) (pg_name (i := 3) sc__law_rules.nd rfl (.inl rfl)) (pss_cons (ps_set (i := 4) sc__law_rules.nd rfl (.inl rfl) (pe_op op_mod (pe_op op_fdiv (pv 0) pe_int) pe_int))
      (pss_cons (ps_set (i := 5) sc__law_rules.nd rfl (.inl rfl) (pe_lst (pa_cons (pe_tup (pa_cons pe_str (pa_cons (pv 4) (pa_cons (pe_op op_add (pv 4) (pe_op op_mod (pe_op op_fdiv (pv 0) pe_int) pe_int)) pa_nil)))) (pa_cons (pe_tup (pa_cons pe_str (pa_cons pe_int (pa_cons (pe_op op_mod (pv 4) pe_int) (pa_cons pe_int pa_nil))))) (pa_cons (pe_tup (pa_cons pe_str (pa_cons pe_int (pa_cons (pe_op op_mod (pv 4) pe_int) (pa_cons (pe_op op_mod (pv 4) pe_int) pa_nil))))) pa_nil)))))
      (pss_cons (ps_expr (pe_bm PySem.F.plainAttrs_list PySem.F.slot_list_append PySem.F.type_list_append mt_append (pv 5) (pa_cons (pe_tup (pa_cons pe_str (pa_cons (pe_lst (pa_cons (pe_tup (pa_cons pe_str (pa_cons pe_int (pa_cons pe_int (pa_cons pe_int pa_nil))))) (pa_cons (pe_tup (pa_cons pe_str (pa_cons (pe_tup (pa_cons pe_str (pa_cons (pv 4) (pa_cons pe_non pa_nil)))) pa_nil))) pa_nil))) pa_nil))) pa_nil)))
      (pss_cons (ps_expr (pe_bm PySem.F.plainAttrs_list PySem.F.slot_list_append PySem.F.type_list_append mt_append (pv 2) (pa_cons (pe_tup (pa_cons (pv 3) (pa_cons (pe_ix (r := rIxL K) ix_list (pv 5) (pe_op op_mod (pv 0) pe_int) (fun _ _ => rfl)) pa_nil))) pa_nil)))
      (pss_one (ps_set (i := 0) sc__law_rules.nd rfl (.inl rfl) (pe_op op_fdiv (pv 0) pe_int))))))))
      (pss_one (ps_ret (pe_op op_cat (pv 2) (pe_lst (pa_cons (pe_tup (pa_cons (pe_ix (r := rIxL K) ix_list (pv 1) (pe_un un_neg pe_int) (fun _ _ => rfl)) (pa_cons pe_non pa_nil))) pa_nil))))))), ?_⟩)
  · obtain ⟨c, a, ws, rfl, _⟩ := h; rfl
  · obtain ⟨c, a, ws, rfl, hS, hne, hlen, q⟩ := h
    refine q_asgL (el_lst ea_nil (Nat.le_of_ble_eq_true rfl)) fun l H1 hl e1 h1 => ?_
    refine q_forNLn (el_sl (ev_var rfl) eo_none (eo_some (ev_un ev_c ru_neg)) (ex_l e1 hS)) (fun p i σ' H' => ∃ (c' : Int) (v3 v4 v5 : Option V) (xs : List V), σ' = [some (.int c'), some (.ref a), some (.ref l), v3, v4, v5] ∧ Ex H H' ∧ H' l = some (.lst xs) ∧ xs.length ≤ i ∧ H' p = some (.lst (cutV (ws.map V.str) none (some (-1)))) ∧ p ≠ l)
      (fun p H2 hp e2 h2 => ⟨c, none, none, none, [], rfl, e1.trans e2, e2 l _ h1, Nat.zero_le _, h2, fun z => by rw [z, h1] at hp; cases hp⟩) (fun p i σ' H' _ ⟨_, _, _, _, _, _, _, _, _, hs, _⟩ => sq_of hs) ?_ ?_
    · rintro p i x σ' H' hi ⟨c', v3, v4, v5, xs, rfl, e, hL, hxl, hp, hpl⟩
      have hil := (List.getElem?_eq_some_iff.mp hi).1
      rw [cutV_last, List.length_take, List.length_map] at hil
      refine q_asg (ev_op (ev_op (ev_var rfl) ev_c rv_div) ev_c rv_mod) fun H2 e2 => ?_
      refine q_asgP (evp_lstN (n := 3) (eapn_cons (evp_tupN (eapn_cons (Ev.any ev_c) (eapn_cons (Ev.any (ev_var rfl)) (eapn_cons (Ev.any (ev_op (ev_var rfl) (ev_op (ev_op (ev_var rfl) ev_c rv_div) ev_c rv_mod) rv_I0)) eapn_nil))) (by decide)) (eapn_cons (evp_tupN (eapn_cons (Ev.any ev_c) (eapn_cons (Ev.any ev_c) (eapn_cons (Ev.any (ev_op (ev_var rfl) ev_c rv_mod)) (eapn_cons (Ev.any ev_c) eapn_nil)))) (by decide)) (eapn_cons (evp_tupN (eapn_cons (Ev.any ev_c) (eapn_cons (Ev.any ev_c) (eapn_cons (Ev.any (ev_op (ev_var rfl) ev_c rv_mod)) (eapn_cons (Ev.any (ev_op (ev_var rfl) ev_c rv_mod)) eapn_nil)))) (by decide)) eapn_nil))) (by decide)) fun v H3 e3 ⟨s5, vs5, hv, hn5, h5, hl5⟩ => ?_
      subst hv
      have hls : l ≠ s5 := fun z => by rw [← z, e2 l _ hL] at hn5; cases hn5
      have hps : p ≠ s5 := fun z => by rw [← z, e2 p _ hp] at hn5; cases hn5
      refine q_appP h5 (ev_var rfl) (evp_tupN (n := 2) (eapn_cons (Ev.any ev_c) (eapn_cons (evp_lstN (n := 2) (eapn_cons (evp_tupN (eapn_cons (Ev.any ev_c) (eapn_cons (Ev.any ev_c) (eapn_cons (Ev.any ev_c) (eapn_cons (Ev.any ev_c) eapn_nil)))) (by decide)) (eapn_cons (evp_tupN (n := 2) (eapn_cons (Ev.any ev_c) (eapn_cons (evp_tupN (eapn_cons (Ev.any ev_c) (eapn_cons (Ev.any (ev_var rfl)) (eapn_cons (Ev.any ev_c) eapn_nil))) (by decide)) eapn_nil)) (by decide)) eapn_nil)) (by decide)) eapn_nil)) (by decide)) (by omega) fun v6 H4 e4 _ => ?_
      have E4 : Ex H2 (upd H4 s5 (.lst (vs5 ++ [v6]))) := ((e3.trans e4)).mut hn5
      have h6 : (upd H4 s5 (.lst (vs5 ++ [v6]))) s5 = some (.lst (vs5 ++ [v6])) := upd_same
      obtain ⟨vk, _, hvk⟩ := at_modm (xs := vs5 ++ [v6]) c' (m := 4) (by rw [List.length_append, hl5]; rfl) (by decide)
      have hL4 := E4 l _ (e2 l _ hL)
      refine q_appP hL4 (ev_var rfl) (evp_tupN (n := 2) (eapn_cons (Ev.any (ev_var rfl)) (eapn_cons (Ev.any (ev_op (ev_var rfl) (ev_op (ev_var rfl) ev_c rv_mod) (rv_ixL (sq_of h6) hvk))) eapn_nil)) (by decide)) (by omega) fun v7 H5 e5 _ => ?_
      refine s_asg (ev_op (ev_var rfl) ev_c rv_div) fun H6 e6 => ⟨_, _, _, _, xs ++ [v7], rfl, ((e.trans (e2.trans (E4.trans e5))).mut hl).trans e6, e6 l _ upd_same, by rw [List.length_append]; simp only [List.length_cons, List.length_nil]; omega, e6 p _ ?_, hpl⟩
      rw [upd_ne hpl]
      exact e5 p _ (E4 p _ (e2 p _ hp))
    · rintro p σ' H' ⟨c', v3, v4, v5, xs, rfl, e, hL, hxl, hp, hpl⟩
      have hne2 : ws.map V.str ≠ [] := fun z => hne (List.map_eq_nil_iff.mp z)
      have hcl : xs.length ≤ 100 := by
        have : (cutV (ws.map V.str) none (some (-1))).length ≤ 10 := by rw [cutV_last, List.length_take, List.length_map]; omega
        omega
      refine s_retP (evp_cat (R := fun _ _ => True) (ev_var rfl) hL ((evp_lstN (n := 1) (eapn_cons (evp_tupN (n := 2) (eapn_cons (Ev.any (ev_op (ev_var rfl) (ev_un ev_c ru_neg) (rv_ixL (ex_l e hS) (at_neg hne2)))) (eapn_cons (Ev.any ev_c) eapn_nil)) (by decide)) eapn_nil) (by decide)).imp fun v H2 _ ⟨p2, ys, h1, _, h3, h4⟩ => ⟨p2, ys, h1, h3, by omega, trivial⟩) fun _ _ _ _ _ => trivial) fun v H2 e2 _ => q v H2 (e.trans e2)
end
end K71

set_option maxHeartbeats 4000000
/-! K71W20: the house is built: House, Tongue by their __init__; add, word, declare. -/
namespace K71
open PySem PySem.Spec PyProof.Rows L2 Evl
/-- all but x stands -/
def ExN (x : Addr) (H H' : Hp) : Prop := ∀ b o, b ≠ x → H b = some o → H' b = some o
theorem ExN.of {x : Addr} {H H' : Hp} (e : Ex H H') : ExN x H H' := fun b o _ h => e b o h
theorem ExN.trans {x : Addr} {H H1 H2 : Hp} (a : ExN x H H1) (b : ExN x H1 H2) : ExN x H H2 := fun c o hc h => b c o hc (a c o hc h)
theorem ExN.put {x : Addr} {H : Hp} {o : HO} : ExN x H (upd H x o) := fun b u hb h => by
  rw [upd_ne hb]
  exact h
/-- new behind, new before -/
theorem ExN.back {x p : Addr} {H H' : Hp} {o : HO} (e : ExN x H H') (hx : H' x = some o) (hp : H' p = none) : H p = none := by
  cases h : H p with
  | none => rfl
  | some u =>
    by_cases hpx : p = x
    · rw [hpx, hx] at hp
      cases hp
    · rw [e p u hpx h] at hp
      cases hp
/-- where x is a dict -/
theorem ExN.exi {x : Addr} {H H' : Hp} {o : HO} (e : ExN x H H') (hx : H x = some o) (hd : isD o = true) : ExI H H' := fun b u du h => e b u (fun z => by
  subst z
  rw [hx] at h
  cases h
  rw [hd] at du
  cases du) h
/-- where x is new to H -/
theorem ExN.ex {x : Addr} {H0 H H' : Hp} (e : ExN x H H') (e0 : Ex H0 H) (hx : H0 x = none) : Ex H0 H' := fun b o h => e b o (ne_of_none h hx) (e0 b o h)
section
variable {P : Program} {w : World} {K : PySem.W.Frag} {mg : Str → Option Value} {base : Heap} {σ : L2.St} {H : Hp} {te ta tb td ty : TE} {D : Ends} {tz : TS} {PP : V → Hp → Prop}
theorem put_past2 {f g : Str} {v x : V} {r : List (Str × V)} (h : ¬ g = f) : putF f v ((g, x) :: r) = (g, x) :: putF f v r := if_neg h
theorem q_fldP {x C dx : Addr} {fs : List (Str × V)} {f : Str} (hx : H x = some (.ins C dx fs)) (hc : Cls K C) (hn : NoAttr K C f) (hl : fs.length < 1000) (h : EvP te σ H PP) (ho : Ev ta σ H (.ref x)) (k : ∀ v H1, Ex H H1 → (∃ H0, Ex H H0 ∧ Ex H0 H1 ∧ PP v H0) → tz D σ (upd H1 x (.ins C dx (putF f v fs)))) : tSeq (sFld K ta te f) tz D σ H :=
  h H (Ex.refl H) _ fun v H1 e p => ho H1 e _ fun H2 e2 => ⟨x, C, dx, fs, rfl, (e.trans e2) x _ hx, hc, hn, hl, k v H2 (e.trans e2) ⟨H1, e, e2, p⟩⟩
theorem s_fldP {x C dx : Addr} {fs : List (Str × V)} {f : Str} (hx : H x = some (.ins C dx fs)) (hc : Cls K C) (hn : NoAttr K C f) (hl : fs.length < 1000) (h : EvP te σ H PP) (ho : Ev ta σ H (.ref x)) (k : ∀ v H1, Ex H H1 → (∃ H0, Ex H H0 ∧ Ex H0 H1 ∧ PP v H0) → D.nx σ (upd H1 x (.ins C dx (putF f v fs)))) : sFld K ta te f D σ H :=
  h H (Ex.refl H) _ fun v H1 e p => ho H1 e _ fun H2 e2 => ⟨x, C, dx, fs, rfl, (e.trans e2) x _ hx, hc, hn, hl, k v H2 (e.trans e2) ⟨H1, e, e2, p⟩⟩
/-- a new list given to a field of x: all else stands -/
theorem q_fldL {x C dx : Addr} {fs : List (Str × V)} {f : Str} {xs : List V} (hx : H x = some (.ins C dx fs)) (hc : Cls K C) (hn : NoAttr K C f) (hl : fs.length < 1000) (h : EvL te σ H xs) (ho : Ev ta σ H (.ref x)) (k : ∀ p H2, H p = none → p ≠ x → ExN x H H2 → H2 x = some (.ins C dx (putF f (.ref p) fs)) → H2 p = some (.lst xs) → tz D σ H2) : tSeq (sFld K ta te f) tz D σ H :=
  q_fldP hx hc hn hl (K71.EvL.toP h) ho fun v H1 e ⟨H0, e0, e01, p, hv, np, hp⟩ => by
    subst hv
    have hpx : p ≠ x := fun z => by rw [z, hx] at np; cases np
    exact k p _ np hpx ((ExN.of e).trans ExN.put) upd_same (by rw [upd_ne hpx]; exact e01 p _ hp)
theorem q_fldV {x C dx : Addr} {fs : List (Str × V)} {f : Str} {v : V} (hx : H x = some (.ins C dx fs)) (hc : Cls K C) (hn : NoAttr K C f) (hl : fs.length < 1000) (h : Ev te σ H v) (ho : Ev ta σ H (.ref x)) (k : ∀ H2, ExN x H H2 → H2 x = some (.ins C dx (putF f v fs)) → tz D σ H2) : tSeq (sFld K ta te f) tz D σ H :=
  q_fldP (PP := fun u _ => u = v) hx hc hn hl (Ev.toP h fun _ _ => rfl) ho fun u H1 e ⟨_, _, _, hv⟩ => by
    subst hv
    exact k _ ((ExN.of e).trans ExN.put) upd_same
theorem s_fldV {x C dx : Addr} {fs : List (Str × V)} {f : Str} {v : V} (hx : H x = some (.ins C dx fs)) (hc : Cls K C) (hn : NoAttr K C f) (hl : fs.length < 1000) (h : Ev te σ H v) (ho : Ev ta σ H (.ref x)) (k : ∀ H2, ExN x H H2 → H2 x = some (.ins C dx (putF f v fs)) → D.nx σ H2) : sFld K ta te f D σ H :=
  s_fldP (PP := fun u _ => u = v) hx hc hn hl (Ev.toP h fun _ _ => rfl) ho fun u H1 e ⟨_, _, _, hv⟩ => by
    subst hv
    exact k _ ((ExN.of e).trans ExN.put) upd_same
theorem evp_dnewK : EvP tDNewK σ H fun v H2 => ∃ p, v = .ref p ∧ H p = none ∧ H2 p = some (.dK []) := fun H1 e _ q p hp => q _ _ (Ex.new hp) ⟨p, rfl, fresh_back e hp, upd_same⟩
theorem evp_dnewT : EvP tDNewT σ H fun v H2 => ∃ p, v = .ref p ∧ H p = none ∧ H2 p = some (.dT []) := fun H1 e _ q p hp => q _ _ (Ex.new hp) ⟨p, rfl, fresh_back e hp, upd_same⟩
theorem q_fldD {x C dx : Addr} {fs : List (Str × V)} {f : Str} {o : HO} (hx : H x = some (.ins C dx fs)) (hc : Cls K C) (hn : NoAttr K C f) (hl : fs.length < 1000) (h : EvP te σ H fun v H2 => ∃ p, v = .ref p ∧ H p = none ∧ H2 p = some o) (ho : Ev ta σ H (.ref x)) (k : ∀ p H2, H p = none → p ≠ x → ExN x H H2 → H2 x = some (.ins C dx (putF f (.ref p) fs)) → H2 p = some o → tz D σ H2) : tSeq (sFld K ta te f) tz D σ H :=
  q_fldP hx hc hn hl h ho fun v H1 e ⟨H0, e0, e01, p, hv, np, hp⟩ => by
    subst hv
    have hpx : p ≠ x := fun z => by rw [z, hx] at np; cases np
    exact k p _ np hpx ((ExN.of e).trans ExN.put) upd_same (by rw [upd_ne hpx]; exact e01 p _ hp)
theorem s_fldD {x C dx : Addr} {fs : List (Str × V)} {f : Str} {o : HO} (hx : H x = some (.ins C dx fs)) (hc : Cls K C) (hn : NoAttr K C f) (hl : fs.length < 1000) (h : EvP te σ H fun v H2 => ∃ p, v = .ref p ∧ H p = none ∧ H2 p = some o) (ho : Ev ta σ H (.ref x)) (k : ∀ p H2, H p = none → p ≠ x → ExN x H H2 → H2 x = some (.ins C dx (putF f (.ref p) fs)) → H2 p = some o → D.nx σ H2) : sFld K ta te f D σ H :=
  s_fldP hx hc hn hl h ho fun v H1 e ⟨H0, e0, e01, p, hv, np, hp⟩ => by
    subst hv
    have hpx : p ≠ x := fun z => by rw [z, hx] at np; cases np
    exact k p _ np hpx ((ExN.of e).trans ExN.put) upd_same (by rw [upd_ne hpx]; exact e01 p _ hp)
theorem exn_l {x a : Addr} {H H' : Hp} {xs : List V} {C dx : Addr} {fs : List (Str × V)} (e : ExN x H H') (hx : H x = some (.ins C dx fs)) (h : SqL K H a xs) : SqL K H' a xs := by
  rcases h with (h | ⟨o, h⟩) | h
  · exact .inl (.inl (e a _ (fun z => by rw [z, hx] at h; cases h) h))
  · exact .inl (.inr ⟨o, e a _ (fun z => by rw [z, hx] at h; cases h) h⟩)
  · exact .inr h
/-! ### House -/
/-- what a new house is: its rows; nothing in its dicts; G: what the dicts are new to -/
structure New0 (K : PySem.W.Frag) (G : Hp) (H : Hp) (x : Addr) (z : HouseD) (pl : Plan) : Prop where
  w : HouseW K H x z pl
  hab : H z.ab = some (.dK [])
  hax : H z.ax = some (.dT [])
  had : H z.ad = some (.dK [])
  ne : z.ab ≠ z.ad
  gab : G z.ab = none
  gax : G z.ax = none
  gad : G z.ad = none
def sp_House (K : PySem.W.Frag) : Sp := fun vs H Q _ => ∃ (x dx a b c : Addr) (pl : Plan), vs = [.ref x, .ref a, .ref b, .ref c] ∧ H x = some (.ins (He.ga K "House") dx []) ∧ SqL K H a (pl.kinds.map V.str) ∧ SqL K H b (pl.ranks.map V.str) ∧ SqL K H c (pl.things.map V.str) ∧ ∀ H2, ExN x H H2 → (∃ z, New0 K H H2 x z pl) → Q .non H2
theorem sc_House_init : FnScope ["self", "kinds", "ranks", "things"] ["self", "kinds", "ranks", "things"] (defScope s_House_init) := ⟨rfl, rfl, rfl, by decide +kernel, rfl, by decide +kernel, by decide +kernel⟩
theorem ma_House (T : Ctx K mg) : Ma P w K mg base CX0 1 "House" (He.ga K "House") (sp_House K) := by
  obtain ⟨fd, F⟩ := T.fd_House_init
  refine maOf F sc_House_init T.mk_House T.g_House (F.bindsN fun _ _ _ _ _ _ us hl => match us, hl with | [_, _, _, _], _ => rfl) (fun vs H Q E h => ?_) (fun cdv A outer s H vs Q E hr h => ⟨_, PSs.nox (pss_cons (ps_fld (pv 0) (pe_callTy call_list_of (by rfl) T.f_list (by decide +kernel) (pa_cons (pv 1) pa_nil)) rfl)
      (pss_cons (ps_fld (pv 0) (pe_callTy call_list_of (by rfl) T.f_list (by decide +kernel) (pa_cons (pv 2) pa_nil)) rfl)
      (pss_cons (ps_fld (pv 0) (pe_callTy call_list_of (by rfl) T.f_list (by decide +kernel) (pa_cons (pv 3) pa_nil)) rfl)
      (pss_cons (ps_fld (pv 0) pe_dnewK rfl)
      (pss_cons (ps_fld (pv 0) pe_dnewT rfl)
      (pss_cons (ps_fld (pv 0) pe_dnewK rfl)
      (pss_one (ps_fld (pv 0) pe_dnewT rfl)))))))), ?_⟩)
  · obtain ⟨x, dx, a, b, c, pl, rfl, _⟩ := h; rfl
  · obtain ⟨x, dx, a, b, c, pl, rfl, hx, ha, hb, hc, q⟩ := h
    refine q_fldL hx T.cl_House T.na_House_kind_row (by show 0 < 1000; decide) (el_listOf (ev_var rfl) ha) (ev_var rfl) fun p1 H1 n1 m1 e1 x1 l1 => ?_
    refine q_fldL x1 T.cl_House T.na_House_rank_row (by show 1 < 1000; decide) (el_listOf (ev_var rfl) (exn_l e1 hx hb)) (ev_var rfl) fun p2 H2 n2 m2 e2 x2 l2 => ?_
    refine q_fldL x2 T.cl_House T.na_House_thing_row (by show 2 < 1000; decide) (el_listOf (ev_var rfl) (exn_l (e1.trans e2) hx hc)) (ev_var rfl) fun p3 H3 n3 m3 e3 x3 l3 => ?_
    refine q_fldD x3 T.cl_House T.na_House_by_name (by show 3 < 1000; decide) evp_dnewK (ev_var rfl) fun p4 H4 n4 m4 e4 x4 l4 => ?_
    refine q_fldD x4 T.cl_House T.na_House_thing_texts (by show 4 < 1000; decide) evp_dnewT (ev_var rfl) fun p5 H5 n5 m5 e5 x5 l5 => ?_
    refine q_fldD x5 T.cl_House T.na_House_declared (by show 5 < 1000; decide) evp_dnewK (ev_var rfl) fun p6 H6 n6 m6 e6 x6 l6 => ?_
    refine s_fldD x6 T.cl_House T.na_House_pieces_here (by show 6 < 1000; decide) evp_dnewT (ev_var rfl) fun p7 H7 n7 m7 e7 x7 l7 => ?_
    have E3 := (e1.trans e2).trans e3
    have E4 := E3.trans e4
    have E5 := E4.trans e5
    have k4 := (e5.trans e6).trans e7
    have h46 : p4 ≠ p6 := fun z => by
      have := e5 p4 _ m4 l4
      rw [z, n6] at this
      cases this
    refine q H7 ((E5.trans e6).trans e7) ⟨⟨dx, p1, p2, p3, p4, p5, p6, p7⟩, ⟨?_, sq_of ?_, sq_of ?_, sq_of ?_⟩, k4 p4 _ m4 l4, (e6.trans e7) p5 _ m5 l5, e7 p6 _ m6 l6, h46, E3.back x3 n4, E4.back x4 n5, E5.back x5 n6⟩
    · rw [x7]
      refine congrArg (fun f => some (HO.ins (He.ga K "House") dx f)) ?_
      have d : ∀ {a b : Str}, (a == b) = false → ¬ a = b := fun h z => by rw [z] at h; simp at h
      simp only [putF, if_neg (show ¬ ("kind_row" : Str) = "rank_row" from by decide +kernel), if_neg (show ¬ ("kind_row" : Str) = "thing_row" from by decide +kernel), if_neg (show ¬ ("kind_row" : Str) = "by_name" from by decide +kernel), if_neg (show ¬ ("kind_row" : Str) = "thing_texts" from by decide +kernel), if_neg (show ¬ ("kind_row" : Str) = "declared" from by decide +kernel), if_neg (show ¬ ("kind_row" : Str) = "pieces_here" from by decide +kernel),
        if_neg (show ¬ ("rank_row" : Str) = "thing_row" from by decide +kernel), if_neg (show ¬ ("rank_row" : Str) = "by_name" from by decide +kernel), if_neg (show ¬ ("rank_row" : Str) = "thing_texts" from by decide +kernel), if_neg (show ¬ ("rank_row" : Str) = "declared" from by decide +kernel), if_neg (show ¬ ("rank_row" : Str) = "pieces_here" from by decide +kernel),
        if_neg (show ¬ ("thing_row" : Str) = "by_name" from by decide +kernel), if_neg (show ¬ ("thing_row" : Str) = "thing_texts" from by decide +kernel), if_neg (show ¬ ("thing_row" : Str) = "declared" from by decide +kernel), if_neg (show ¬ ("thing_row" : Str) = "pieces_here" from by decide +kernel),
        if_neg (show ¬ ("by_name" : Str) = "thing_texts" from by decide +kernel), if_neg (show ¬ ("by_name" : Str) = "declared" from by decide +kernel), if_neg (show ¬ ("by_name" : Str) = "pieces_here" from by decide +kernel),
        if_neg (show ¬ ("thing_texts" : Str) = "declared" from by decide +kernel), if_neg (show ¬ ("thing_texts" : Str) = "pieces_here" from by decide +kernel), if_neg (show ¬ ("declared" : Str) = "pieces_here" from by decide +kernel)]
      rfl
    · exact (((((e2.trans e3).trans e4).trans e5).trans e6).trans e7) p1 _ m1 l1
    · exact ((((e3.trans e4).trans e5).trans e6).trans e7) p2 _ m2 l2
    · exact (((e4.trans e5).trans e6).trans e7) p3 _ m3 l3
/-! ### Tongue -/
def sp_Tongue (K : PySem.W.Frag) : Sp := fun vs H Q _ => ∃ (x dx fl aj af ac ad : Addr) (rv : V) (t : Tg), vs = [.ref x, .str t.name, .ref fl, rv, .ref aj, .ref af, .ref ac, .ref ad] ∧ H x = some (.ins (He.ga K "Tongue") dx []) ∧ SqL K H fl (t.falls.map V.str) ∧ JoAt K H aj t.jo ∧ FigAt K H af t.fig ∧ CalAt K H ac t.cal ∧ FrmAt K H ad t.frm ∧ ∀ H2, ExN x H H2 → TgAt K H2 x t → Q .non H2
theorem exn_t {x a : Addr} {H H' : Hp} {xs : List V} {C dx : Addr} {fs : List (Str × V)} (e : ExN x H H') (hx : H x = some (.ins C dx fs)) (h : SqT K H a xs) : SqT K H' a xs := by
  rcases h with (h | ⟨o, h⟩) | h
  · exact .inl (.inl (e a _ (fun z => by rw [z, hx] at h; cases h) h))
  · exact .inl (.inr ⟨o, e a _ (fun z => by rw [z, hx] at h; cases h) h⟩)
  · exact .inr h
theorem sc_Tongue_init : FnScope ["self", "name", "falls", "rules", "joiners", "figures", "calendar", "dayform"] ["self", "name", "falls", "rules", "joiners", "figures", "calendar", "dayform"] (defScope s_Tongue_init) := ⟨rfl, rfl, rfl, by decide +kernel, rfl, by decide +kernel, by decide +kernel⟩
theorem ma_Tongue (T : Ctx K mg) : Ma P w K mg base CX0 1 "Tongue" (He.ga K "Tongue") (sp_Tongue K) := by
  obtain ⟨fd, F⟩ := T.fd_Tongue_init
  refine maOf F sc_Tongue_init T.mk_Tongue T.g_Tongue (F.bindsN fun _ _ _ _ _ _ us hl => match us, hl with | [_, _, _, _, _, _, _, _], _ => rfl) (fun vs H Q E h => ?_) (fun cdv A outer s H vs Q E hr h => ⟨_, PSs.nox (pss_cons (ps_fld (pv 0) (pv 1) rfl)
      (pss_cons (ps_fld (pv 0) (pe_callTy call_list_of (by rfl) T.f_list (by decide +kernel) (pa_cons (pv 2) pa_nil)) rfl)
      (pss_cons (ps_fld (pv 0) (pv 3) rfl)
      (pss_cons (ps_fld (pv 0) (pv 4) rfl)
      (pss_cons (ps_fld (pv 0) (pv 5) rfl)
      (pss_cons (ps_fld (pv 0) (pv 6) rfl)
      (pss_one (ps_fld (pv 0) (pv 7) rfl)))))))), ?_⟩)
  · obtain ⟨x, dx, fl, aj, af, ac, ad, rv, t, rfl, _⟩ := h; rfl
  · obtain ⟨x, dx, fl, aj, af, ac, ad, rv, t, rfl, hx, h1, ⟨h2, j2⟩, ⟨h3, f3⟩, ⟨al, ay, c1, c2, c3, c4⟩, ⟨nv, d1, d2, d3⟩, q⟩ := h
    refine q_fldV hx T.cl_Tongue T.na_Tongue_name (by show 0 < 1000; decide) (ev_var rfl) (ev_var rfl) fun H1 e1 x1 => ?_
    refine q_fldL x1 T.cl_Tongue T.na_Tongue_falls (by show 1 < 1000; decide) (el_listOf (ev_var rfl) (exn_l e1 hx h1)) (ev_var rfl) fun p2 H2 n2 m2 e2 x2 l2 => ?_
    refine q_fldV x2 T.cl_Tongue T.na_Tongue_rules (by show 2 < 1000; decide) (ev_var rfl) (ev_var rfl) fun H3 e3 x3 => ?_
    refine q_fldV x3 T.cl_Tongue T.na_Tongue_joiners (by show 3 < 1000; decide) (ev_var rfl) (ev_var rfl) fun H4 e4 x4 => ?_
    refine q_fldV x4 T.cl_Tongue T.na_Tongue_figures (by show 4 < 1000; decide) (ev_var rfl) (ev_var rfl) fun H5 e5 x5 => ?_
    refine q_fldV x5 T.cl_Tongue T.na_Tongue_calendar (by show 5 < 1000; decide) (ev_var rfl) (ev_var rfl) fun H6 e6 x6 => ?_
    refine s_fldV x6 T.cl_Tongue T.na_Tongue_dayform (by show 6 < 1000; decide) (ev_var rfl) (ev_var rfl) fun H7 e7 x7 => ?_
    have E27 := (((e3.trans e4).trans e5).trans e6).trans e7
    have E := (e1.trans e2).trans E27
    refine q H7 E ⟨dx, p2, rv, aj, af, ac, ad, ?_, E27 p2 _ m2 l2, ⟨exn_t E hx h2, j2⟩, ⟨exn_t E hx h3, f3⟩, ⟨al, ay, exn_t E hx c1, exn_l E hx c2, exn_t E hx c3, c4⟩, ⟨nv, exn_t E hx d1, d2, ?_⟩⟩
    · rw [x7]
      refine congrArg (fun f => some (HO.ins (He.ga K "Tongue") dx f)) ?_
      simp only [putF, if_neg (show ¬ ("name" : Str) = "falls" from by decide +kernel), if_neg (show ¬ ("name" : Str) = "rules" from by decide +kernel), if_neg (show ¬ ("name" : Str) = "joiners" from by decide +kernel), if_neg (show ¬ ("name" : Str) = "figures" from by decide +kernel), if_neg (show ¬ ("name" : Str) = "calendar" from by decide +kernel), if_neg (show ¬ ("name" : Str) = "dayform" from by decide +kernel),
        if_neg (show ¬ ("falls" : Str) = "rules" from by decide +kernel), if_neg (show ¬ ("falls" : Str) = "joiners" from by decide +kernel), if_neg (show ¬ ("falls" : Str) = "figures" from by decide +kernel), if_neg (show ¬ ("falls" : Str) = "calendar" from by decide +kernel), if_neg (show ¬ ("falls" : Str) = "dayform" from by decide +kernel),
        if_neg (show ¬ ("rules" : Str) = "joiners" from by decide +kernel), if_neg (show ¬ ("rules" : Str) = "figures" from by decide +kernel), if_neg (show ¬ ("rules" : Str) = "calendar" from by decide +kernel), if_neg (show ¬ ("rules" : Str) = "dayform" from by decide +kernel),
        if_neg (show ¬ ("joiners" : Str) = "figures" from by decide +kernel), if_neg (show ¬ ("joiners" : Str) = "calendar" from by decide +kernel), if_neg (show ¬ ("joiners" : Str) = "dayform" from by decide +kernel),
        if_neg (show ¬ ("figures" : Str) = "calendar" from by decide +kernel), if_neg (show ¬ ("figures" : Str) = "dayform" from by decide +kernel), if_neg (show ¬ ("calendar" : Str) = "dayform" from by decide +kernel)]
      rfl
    · rcases d3 with d3 | ⟨d4, an, d5, d6⟩
      · exact .inl d3
      · exact .inr ⟨d4, an, d5, exn_l E hx d6⟩
/-! ### add -/
def sp_add (K : PySem.W.Frag) : Sp := fun vs H Q _ => ∃ (a b : Addr) (z : HouseD) (pl : Plan) (kvs : List (Key × V)) (t : Tg), vs = [.ref a, .ref b] ∧ HouseW K H a z pl ∧ H z.ab = some (.dK kvs) ∧ TgAt K H b t ∧ valV kvs (.inr t.name) = none ∧ kvs.length < 100 ∧ ∀ H2, ExN z.ab H H2 → H2 z.ab = some (.dK (kvs ++ [(.inr t.name, .ref b)])) → Q .non H2
theorem sc_House_add : FnScope ["self", "tongue"] ["self", "tongue"] (defScope s_House_add) := ⟨rfl, rfl, rfl, by decide +kernel, rfl, by decide +kernel, by decide +kernel⟩
theorem me_add (T : Ctx K mg) : Me P w K mg base CX0 1 (He.ga K "House") "add" (sp_add K) [] := by
  obtain ⟨fd, F⟩ := T.fd_House_add
  refine meOf F sc_House_add T.cl_House T.me_House_add (F.bindsN fun _ _ _ _ _ _ us hl => match us, hl with | [_, _], _ => rfl) (fun vs H Q E h => ?_) (fun cdv A outer s H vs Q E hr h => ⟨_, PSs.nox (pss_cons (ps_if (pt_cmp (pc_din (hu_of hr) (pe_fld (pv 1) rfl) (pe_fld (pv 0) rfl))) (pss_one ps_never) pss_nil)
      (pss_one (ps_dput (hu_of hr) (pe_fld (pv 0) rfl) (pe_fld (pv 1) rfl) (pv 1) rfl))), ?_⟩)
  · obtain ⟨a, b, z, pl, kvs, t, rfl, _⟩ := h; rfl
  · obtain ⟨a, b, z, pl, kvs, t, rfl, hw, hab, ⟨dx, al, rv, aj, af, ac, ad, g1, _⟩, hn, hlen, q⟩ := h
    have hfn : ∀ H1, Ex H H1 → Ev (tFld K (tVar 1) "name") (start ["self", "tongue"] [.ref a, .ref b]) H1 (.str t.name) := fun H1 e1 => ev_fld (ev_var rfl) (e1 b _ g1) T.cl_Tongue T.na_Tongue_name tgF_name
    have hfb : ∀ H1, Ex H H1 → Ev (tFld K (tVar 0) "by_name") (start ["self", "tongue"] [.ref a, .ref b]) H1 (.ref z.ab) := fun H1 e1 => ev_fld (ev_var rfl) (hw.mono (ExI.of e1)).at_ T.cl_House T.na_House_by_name hF_name
    refine q_when (et_B (ev_din (hfn H (Ex.refl H)) (hfb H (Ex.refl H)) (dg_k (k := .inr t.name) (.inl hab) hn))) (fun hb => by cases hb) (fun _ H1 e1 => ?_)
    refine s_dputK (ky := .inr t.name) (e1 z.ab _ hab) (by omega) (Ev.toP (P := fun v _ => v = .ref b) (ev_var rfl) fun _ _ => rfl) (hfb H1 e1) (hfn H1 e1) fun v H2 e2 ⟨_, _, _, hv⟩ => ?_
    subst hv
    rw [putK_new _ hn]
    exact q _ ((ExN.of (e1.trans e2)).trans ExN.put) upd_same
/-! ### word -/
def sp_word (K : PySem.W.Frag) : Sp := fun vs H Q _ => ∃ (a : Addr) (z : HouseD) (pl : Plan) (ts : List Tg) (tab : Tab) (kvs : List (Key × V)) (kvx : List (List Key × V)) (t : Tg) (th tx kd : Str), vs = [.ref a, .str t.name, .str th, .str tx, .str kd] ∧ HouseW K H a z pl ∧ H z.ab = some (.dK kvs) ∧ TgKv K H ts kvs ∧ TsOk ts ∧ t ∈ ts ∧ H z.ax = some (.dT kvx) ∧ TabKv H tab kvx ∧ th ∈ pl.things ∧ kd ∈ pl.kinds ∧ TTxt tx ∧ (t.name, th) ∉ tab.map (·.1) ∧ kvx.length < 100 ∧
  ∀ H2 t2, ExN z.ax H H2 → H2 z.ax = some (.dT (kvx ++ [(keyT (t.name, th), .ref t2)])) → H2 t2 = some (.tup [.str tx, .str kd]) → Q .non H2
theorem sc_House_word : FnScope ["self", "tongue", "thing", "text", "kind"] ["self", "tongue", "thing", "text", "kind"] (defScope s_House_word) := ⟨rfl, rfl, rfl, by decide +kernel, rfl, by decide +kernel, by decide +kernel⟩
theorem me_word (T : Ctx K mg) (c_tongue_named : Me P w K mg base CX0 1 (He.ga K "House") "tongue_named" (sp_tn K) []) (c_is_thing_text : Ca P w K mg base CX0 1 "is_thing_text" sp_itt) : Me P w K mg base CX0 2 (He.ga K "House") "word" (sp_word K) [] := by
  obtain ⟨fd, F⟩ := T.fd_House_word
  refine meOf F sc_House_word T.cl_House T.me_House_word (F.bindsN fun _ _ _ _ _ _ us hl => match us, hl with | [_, _, _, _, _], _ => rfl) (fun vs H Q E h => ?_) (fun cdv A outer s H vs Q E hr h => ⟨_, PSs.nox (pss_cons (ps_expr (pe_me c_tongue_named hr (by first | decide | omega) (pv 0) (pa_cons (pv 1) pa_nil)))
      (pss_cons (ps_if (pt_cmpR (r := rIn K true) op_notIn_seq (pv 2) (pe_fld (pv 0) rfl) (by rfl)) (pss_one ps_never) pss_nil)
      (pss_cons (ps_if (PW.pt (pw_or (pt_cmpR (r := rIn K true) op_notIn_seq (pv 4) (pe_fld (pv 0) rfl) (by rfl)) (pw_or1 (pt_not (pt_val (pe_ca c_is_thing_text hr (by first | decide | omega) (by rfl) (pa_cons (pv 3) pa_nil))))))) (pss_one ps_never) pss_nil)
      (pss_one (ps_dput (hu_of hr) (pe_fld (pv 0) rfl) (pe_tup (pa_cons (pv 1) (pa_cons (pv 2) pa_nil))) (pe_tup (pa_cons (pv 3) (pa_cons (pv 4) pa_nil))) rfl))))), ?_⟩)
  · obtain ⟨a, z, pl, ts, tab, kvs, kvx, t, th, tx, kd, rfl, _⟩ := h; rfl
  · obtain ⟨a, z, pl, ts, tab, kvs, kvx, t, th, tx, kd, rfl, hw, hab, htg, o, m, hax, htab, hth, hkd, htx, hnew, hlen, q⟩ := h
    have hA : HouseAt K H a pl ts tab := ⟨z, hw, ⟨kvs, .inl hab, htg⟩, kvx, .inl hax, htab⟩
    refine q_dropP (evp_meth (ev_var rfl) hw.at_ (hF_no (by decide +kernel)) (ea_cons (ev_var rfl) ea_nil) (spp_tn hA o m)) fun _ H1 e1 _ => ?_
    have hw1 := hw.mono (ExI.of e1)
    refine q_when (et_test (ev_op (ev_var rfl) (ev_fld (ev_var rfl) hw1.at_ T.cl_House T.na_House_thing_row hF_thing) (rv_niL hw1.things rfl (flat_strs _)))) (fun hb => ?_) (fun _ H2 e2 => ?_)
    · rw [inV_str, decide_eq_true hth] at hb
      cases hb
    have hw2 := hw1.mono (ExI.of e2)
    refine q_when (et_or (et_test (ev_op (ev_var rfl) (ev_fld (ev_var rfl) hw2.at_ T.cl_House T.na_House_kind_row hF_kind) (rv_niL hw2.kinds rfl (flat_strs _)))) fun _ => (et_not (et_B (ev_call (ea_cons (ev_var rfl) ea_nil) (spv_itt htx))))) (fun hb => ?_) (fun _ H3 e3 => ?_)
    · rw [inV_str, decide_eq_true hkd] at hb
      cases hb
    have hw3 := hw2.mono (ExI.of e3)
    have E3 := (e1.trans e2).trans e3
    refine s_dputT (ky := keyT (t.name, th)) (E3 z.ax _ hax) (by omega) (eu_tup (ea_cons (ev_var rfl) (ea_cons (ev_var rfl) ea_nil)) (Nat.le_of_ble_eq_true rfl)) (ev_fld (ev_var rfl) hw3.at_ T.cl_House T.na_House_thing_texts hF_text) (eu_tup (ea_cons (ev_var rfl) (ea_cons (ev_var rfl) ea_nil)) (Nat.le_of_ble_eq_true rfl)) fun t2 H4 e4 ht2 => ?_
    rw [putK_new _ (TabKv.none htab hnew)]
    refine q _ t2 ((ExN.of (E3.trans e4)).trans ExN.put) upd_same ?_
    rw [upd_ne (fun zz => by rw [zz, (E3.trans e4) z.ax _ hax] at ht2; cases ht2)]
    exact ht2
/-! ### declare -/
def sp_declare (K : PySem.W.Frag) : Sp := fun vs H Q _ => ∃ (a l : Addr) (z : HouseD) (pl : Plan) (kvd : List (Key × V)) (ky : Str) (xs : List V), vs = [.ref a, .str ky, .ref l, .bl false] ∧ HouseW K H a z pl ∧ H z.ad = some (.dK kvd) ∧ valV kvd (.inr ky) = none ∧ kvd.length < 100 ∧ SqL K H l xs ∧ ∀ H2 v, ExN z.ad H H2 → H2 z.ad = some (.dK (kvd ++ [(.inr ky, v)])) → Q .non H2
theorem sc_House_declare : FnScope ["self", "key", "gaps", "whole"] ["self", "key", "gaps", "whole"] (defScope s_House_declare) := ⟨rfl, rfl, rfl, by decide +kernel, rfl, by decide +kernel, by decide +kernel⟩
theorem me_declare (T : Ctx K mg) : Me P w K mg base CX0 1 (He.ga K "House") "declare" (sp_declare K) [.bl false] := by
  obtain ⟨fd, F⟩ := T.fd_House_declare
  obtain ⟨ds, hv, hB⟩ := F.binds1 (ps := ["self", "key", "gaps", "whole"]) 3 0 (by simp) rfl fun _ _ _ _ _ _ _ us its hl hi => match us, hl, its, hi with | [_, _, _], _, [_], _ => ⟨_, rfl, rfl⟩
  refine ⟨_, fd, ["self", "key", "gaps", "whole"], ds, T.cl_House, T.me_House_declare, F.ok sc_House_declare (fun vs H Q E h => ?_) (fun cdv A outer s H vs Q E hr h => ⟨_, PSs.nox (pss_cons (ps_if (pt_cmp (pc_din (hu_of hr) (pv 1) (pe_fld (pv 0) rfl))) (pss_one ps_never) pss_nil)
      (pss_one (ps_dput (hu_of hr) (pe_fld (pv 0) rfl) (pv 1) (pe_tup (pa_cons (pe_callTy call_list_of (by rfl) T.f_list (by decide +kernel) (pa_cons (pv 2) pa_nil)) (pa_cons (pv 3) pa_nil))) rfl))), ?_⟩), hB, hv⟩
  · obtain ⟨a, l, z, pl, kvd, ky, xs, rfl, _⟩ := h; rfl
  · obtain ⟨a, l, z, pl, kvd, ky, xs, rfl, hw, had, hn, hlen, hl, q⟩ := h
    have hfb : ∀ H1, Ex H H1 → Ev (tFld K (tVar 0) "declared") (start ["self", "key", "gaps", "whole"] [.ref a, .str ky, .ref l, .bl false]) H1 (.ref z.ad) := fun H1 e1 => ev_fld (ev_var rfl) (hw.mono (ExI.of e1)).at_ T.cl_House T.na_House_declared hF_decl
    refine q_when (et_B (ev_din (ev_var rfl) (hfb H (Ex.refl H)) (dg_k (k := .inr ky) (.inl had) hn))) (fun hb => by cases hb) (fun _ H1 e1 => ?_)
    refine s_dputK (ky := .inr ky) (e1 z.ad _ had) (by omega) (evp_tupN (n := 2) (eapn_cons (EvP.any (K71.EvL.toP (el_listOf (ev_var rfl) (ex_l e1 hl)))) (eapn_cons (Ev.any (ev_var rfl)) eapn_nil)) (by decide)) (hfb H1 e1) (ev_var rfl) fun v H2 e2 _ => ?_
    rw [putK_new _ hn]
    exact q _ v ((ExN.of (e1.trans e2)).trans ExN.put) upd_same
end
end K71

set_option maxHeartbeats 4000000
/-! K71W21: _law_house. -/
namespace K71
open PySem PySem.Spec PyProof.Rows L2 Evl
/-! ### plain -/
theorem paired_get {α β : Type} {R : α → β → Prop} : ∀ {l : List α} {m : List β} {i : Nat} {b : β}, Paired R l m → m[i]? = some b → ∃ a, l[i]? = some a ∧ R a b
  | _, _, _, _, .nil, h => by simp at h
  | _, _, 0, _, .cons r _, h => by
    have := Option.some.inj h
    subst this
    exact ⟨_, rfl, r⟩
  | _, _, i + 1, _, .cons _ t, h => by
    obtain ⟨a, h1, h2⟩ := paired_get (i := i) t (by simpa using h)
    exact ⟨a, by simpa using h1, h2⟩
theorem tabGet_mem : ∀ {tab : Tab} {e : (Str × Str) × (Str × Str)}, e ∈ tab → (tab.map (·.1)).Nodup → tabGet tab e.1 = some e.2
  | a :: tab, e, h, nd => by
    rw [List.map_cons, List.nodup_cons] at nd
    rcases List.mem_cons.mp h with rfl | h
    · exact tabGet_pos rfl
    · rw [tabGet_neg fun z => nd.1 (by rw [z]; exact List.mem_map_of_mem h)]
      exact tabGet_mem h nd.2
theorem given_filter {xs : List V} {p : V → Bool} {d : V} : given xs.length (fun i => p (xs.getD i d)) (fun i => xs.getD i d) = xs.filter p := by
  have key : ∀ n, n ≤ xs.length → given n (fun i => p (xs.getD i d)) (fun i => xs.getD i d) = (xs.take n).filter p := by
    intro n
    induction n with
    | zero => intro _; rfl
    | succ n ih =>
      intro hn
      have hx : xs[n]? = some (xs.getD n d) := by rw [List.getD_eq_getElem?_getD, List.getElem?_eq_getElem (by omega)]; rfl
      rw [take_more hx, List.filter_append, ← ih (by omega)]
      cases hp : p (xs.getD n d) with
      | true => rw [given_yes (f := fun i => p (xs.getD i d)) hp, List.filter_cons, if_pos hp, List.filter_nil]
      | false => rw [given_no (f := fun i => p (xs.getD i d)) hp, List.filter_cons, if_neg (by rw [hp]; exact Bool.false_ne_true), List.filter_nil, List.append_nil]
  rw [key _ (Nat.le_refl _), List.take_length]
def FallOk (names : List Str) (t : Tg) : Prop := t.falls = [] ∨ ∃ u ∈ names, u ≠ t.name ∧ t.falls = [u]
/-- the other names, if any -/
theorem falls_ok {names : List Str} (h : names.length ≤ 2) {nm : Str} (hm : nm ∈ names) (p : Str → Bool) (hp : p nm = false) : names.filter p = [] ∨ ∃ u ∈ names, u ≠ nm ∧ names.filter p = [u] := by
  rcases names with _ | ⟨a, _ | ⟨b, _ | ⟨c, r⟩⟩⟩
  · exact .inl rfl
  · have : nm = a := by simpa using hm
    subst this
    left
    simp [hp]
  · simp only [List.mem_cons, List.not_mem_nil, or_false] at hm
    rcases hm with rfl | rfl
    · cases hb : p b with
      | false => left; simp [hp, hb]
      | true => right; exact ⟨b, by simp, (fun z => by rw [z, hp] at hb; cases hb), by simp [hp, hb]⟩
    · cases ha : p a with
      | false => left; simp [hp, ha]
      | true => right; exact ⟨a, by simp, (fun z => by rw [z, hp] at ha; cases ha), by simp [hp, ha]⟩
  · simp only [List.length_cons] at h
    omega
section
variable {P : Program} {w : World} {K : PySem.W.Frag} {mg : Str → Option Value} {base : Heap} {σ : L2.St} {H : Hp} {te ta tb td ty : TE} {D : Ends} {tz tu : TS} {PP : V → Hp → Prop}
theorem for_keysT {d : Addr} {o : Obj} {kvs : List (List Key × V)} {g : TG} (Pv : Nat → L2.St → Hp → Prop) (h0 : Pv 0 σ H) (hl : ∀ i σ' H', Pv i σ' H' → H' d = some (.frz o (.dT kvs)))
    (hs : ∀ i k v q σ' H', kvs[i]? = some (k, v) → H' q = some (.tup (k.map kV)) → Pv i σ' H' → g (.ref q) σ' H' fun σ2 H2 => tu { D with nx := Pv (i + 1), ct := Pv (i + 1), bk := D.nx } σ2 H2) (hd : ∀ σ' H', Pv kvs.length σ' H' → D.nx σ' H') :
    ∃ W : Nat → Nat → L2.St → Hp → Prop, (∃ m, W 0 m σ H) ∧ ∀ i m σ H, W i m σ H →
      ((Itkt d o kvs).stop i H ∧ D.nx σ H) ∨ ((Itkt d o kvs).go i H ∧ ∃ N : L2.St → Hp → Prop, (∀ σ' H', N σ' H' → ∃ m', m' < m ∧ W (i + 1) m' σ' H') ∧ ∀ x H', (Itkt d o kvs).yld i H x H' → g x σ H' fun σ2 H2 => tu { D with nx := N, ct := N, bk := D.nx } σ2 H2) := by
  refine ⟨fun i m σ H => m = kvs.length - i ∧ i ≤ kvs.length ∧ Pv i σ H, ⟨kvs.length, rfl, Nat.zero_le _, h0⟩, ?_⟩
  rintro i m σ H ⟨rfl, hi, p⟩
  have q := hl i σ H p
  by_cases hlt : i < kvs.length
  · refine .inr ⟨⟨q, hlt⟩, Pv (i + 1), fun σ' H' p' => ⟨kvs.length - (i + 1), by omega, rfl, hlt, p'⟩, fun x H' y => ?_⟩
    obtain ⟨rfl, k, v, q, h1, rfl, h2⟩ := y
    exact hs i k v q σ H' h1 h2 p
  · have e : i = kvs.length := by omega
    subst e
    exact .inl ⟨⟨q, Nat.le_refl _⟩, hd σ H p⟩
/-- an item of a new list -/
theorem evp_pick {t : TA} {ti : TE} {i : Int} {W : List V → Hp → Prop} (h : EaP t σ H W) (hl : ∀ vs H1, W vs H1 → vs.length ≤ 100000) (hW : ∀ vs H1 H2, Ex H1 H2 → W vs H1 → W vs H2) (hi : ∀ H1, Ex H H1 → Ev ti σ H1 (.int i)) (hp : ∀ vs H1, W vs H1 → ∃ v, atI vs i = some v ∧ PP v H1) :
    EvP (tOp (rIxL K) (tLst t) ti) σ H PP := fun H1 e _ q => evp_lst h hl hW H1 e _ fun v H2 e2 ⟨p, vs, hv, _, hp2, hw⟩ => by
  subst hv
  refine hi H2 (e.trans e2) H2 (Ex.refl H2) _ fun H3 e3 => ?_
  obtain ⟨v, ha, hpv⟩ := hp vs H3 (hW _ _ _ e3 hw)
  exact ⟨p, vs, i, v, rfl, rfl, sq_of (e3 p _ hp2), ha, q v H3 (e2.trans e3) hpv⟩
theorem evp_makeP {C : Addr} {sp : Sp} {E : XK} {t : TA} {A : List V → Prop} {R : Addr → Hp → Prop} (ht : EaP t σ H fun vs _ => A vs) (hs : ∀ (vs : List V) (x dx : Addr) (H1 : Hp) (Q : VK) (E : XK), A vs → Ex H H1 → H x = none → H1 x = some (.ins C dx []) → (∀ H2, (∀ b o, b ≠ x → H1 b = some o → H2 b = some o) → R x H2 → Q .non H2) → sp (.ref x :: (vs ++ [])) H1 Q E) :
    EvP (tMake C sp [] E t) σ H fun v H2 => ∃ x, v = .ref x ∧ H x = none ∧ R x H2 := fun H1 e Q q => ht H1 e _ fun vs H2 e2 hA x dx nx nd ne => by
  have E2 := e.trans e2
  have ex1 : Ex H2 (upd (upd H2 dx (.own x)) x (.ins C dx [])) := fun b o h => by
    rw [upd_ne (ne_of_none h nx), upd_ne (ne_of_none h nd)]
    exact h
  refine hs vs x dx _ _ E hA (E2.trans ex1) (fresh_back E2 nx) upd_same fun H3 k r => ⟨rfl, q _ H3 (fun b o h => k b o (ne_of_none (e2 b o h) nx) (ex1 b o (e2 b o h))) ⟨x, rfl, fresh_back E2 nx, r⟩⟩
/-! ### _law_house -/
def HouseV (K : PySem.W.Frag) (pl : Plan) (tab : Tab) (v : V) (H : Hp) : Prop := ∃ a ts, v = .ref a ∧ HouseAt K H a pl ts tab ∧ TsOk ts ∧ ts.map Tg.name = pl.names
def sp_house (K : PySem.W.Frag) : Sp := fun vs H Q _ => ∃ (pd md td : Addr) (c : Int) (pl : Plan) (tab : Tab) (kvt : List (List Key × V)), vs = [.ref pd, .ref md, .ref td, .int c] ∧ PlanAt K H pd pl ∧ PlanOk pl ∧ MarksAt H md pl ∧ H td = some (.dT kvt) ∧ TabKv H tab kvt ∧ TabMem pl tab ∧ ∀ v H2, Ex H H2 → HouseV K pl tab v H2 → Q v H2
theorem spp_house {pd md td : Addr} {c : Int} {pl : Plan} {tab : Tab} {kvt : List (List Key × V)} {H : Hp} (h : PlanAt K H pd pl) (o : PlanOk pl) (m : MarksAt H md pl) (ht : H td = some (.dT kvt)) (hk : TabKv H tab kvt) (tm : TabMem pl tab) : SpP (sp_house K) [.ref pd, .ref md, .ref td, .int c] H (HouseV K pl tab) := fun H1 e Q q E => ⟨pd, md, td, c, pl, tab, kvt, rfl, h.mono e, o, m.mono e, e td _ ht, hk.mono (ExI.of e), tm, q⟩
/-- a tongue's year, as it is drawn -/
theorem evp_year {i : Int} (h : Ev te σ H (.int i)) (hi : 1 ≤ i ∧ i ≤ 30) : EvP (tTup (tCons (tLst (tCons (tC (.int 31)) (tCons te tNil))) (tCons (tC (.int 2)) (tCons (tTup (tCons (tC (.str "rest")) (tCons (tC (.int 4)) (tCons (tC (.int 0)) (tCons (tC (.int 0)) tNil))))) tNil)))) σ H fun v H2 => ∃ ac, v = .ref ac ∧ CalAt K H2 ac i := by
  refine (evp_tup (W := fun vs H1 => ∃ al ay, vs = [.ref al, .int 2, .ref ay] ∧ H1 al = some (.lst ([31, i].map V.int)) ∧ H1 ay = some (.tup [.str "rest", .int 4, .int 0, .int 0])) ?_ (fun vs _ ⟨_, _, h, _⟩ => by rw [h]; exact Nat.le_of_ble_eq_true rfl) (fun vs H1 H2 e ⟨al, ay, h1, h2, h3⟩ => ⟨al, ay, h1, e al _ h2, e ay _ h3⟩)).imp fun v H2 e ⟨p, vs, hv, _, hp, al, ay, h1, h2, h3⟩ => ?_
  · intro H1 e1 Q q
    refine (el_lst (ea_cons ev_c (ea_cons h ea_nil)) (Nat.le_of_ble_eq_true rfl)) H1 e1 _ fun al H2 _ e2 h2 => ?_
    refine (ev_c : Ev (tC (.int 2)) σ H2 (.int 2)) H2 (Ex.refl H2) _ fun H2' e2' => ?_
    refine (eu_tup (σ := σ) (H := H2') (ea_cons ev_c (ea_cons ev_c (ea_cons ev_c (ea_cons ev_c ea_nil)))) (Nat.le_of_ble_eq_true rfl)) H2' (Ex.refl H2') _ fun ay H3 _ e3 h3 => ?_
    exact q _ H3 (e2.trans (e2'.trans e3)) ⟨al, ay, rfl, (e2'.trans e3) al _ h2, h3⟩
  · subst hv h1
    exact ⟨p, rfl, al, ay, st_of hp, sq_of h2, st_of h3, hi⟩
/-- joiners, as they are drawn -/
theorem evp_jo {i : Int} (hi : ∀ H1, Ex H H1 → Ev te σ H1 (.int i)) (h01 : i = 0 ∨ i = 1) : EvP (tOp (rIxL K) (tLst (tCons (tTup (tCons (tC (.str "")) (tCons (tC (.str " ")) (tCons (tC (.str " ")) (tCons (tC (.str " ")) tNil))))) (tCons (tTup (tCons (tC (.str "none")) (tCons (tC (.str " and ")) (tCons (tC (.str ", ")) (tCons (tC (.str " and ")) tNil))))) tNil))) te) σ H fun v H2 => ∃ aj j, v = .ref aj ∧ JoAt K H2 aj j := by
  refine evp_pick (W := fun vs H1 => ∃ t1 t2, vs = [.ref t1, .ref t2] ∧ H1 t1 = some (.tup ((["", " ", " ", " "] : List Str).map V.str)) ∧ H1 t2 = some (.tup ((["none", " and ", ", ", " and "] : List Str).map V.str))) ?_ (fun vs _ ⟨_, _, h, _⟩ => by rw [h]; exact Nat.le_of_ble_eq_true rfl) (fun vs H1 H2 e ⟨al, ay, h1, h2, h3⟩ => ⟨al, ay, h1, e al _ h2, e ay _ h3⟩) hi fun vs H1 ⟨t1, t2, hv, h1, h2⟩ => ?_
  · intro H1 e1 Q q
    refine (eu_tup (σ := σ) (H := H1) (ea_cons ev_c (ea_cons ev_c (ea_cons ev_c (ea_cons ev_c ea_nil)))) (Nat.le_of_ble_eq_true rfl)) H1 (Ex.refl H1) _ fun t1 H2 _ e2 h2 => ?_
    refine (eu_tup (σ := σ) (H := H2) (ea_cons ev_c (ea_cons ev_c (ea_cons ev_c (ea_cons ev_c ea_nil)))) (Nat.le_of_ble_eq_true rfl)) H2 (Ex.refl H2) _ fun t2 H3 _ e3 h3 => ?_
    exact q _ H3 (e2.trans e3) ⟨t1, t2, rfl, e3 t1 _ h2, h3⟩
  · subst hv
    rcases h01 with rfl | rfl
    · exact ⟨.ref t1, atI_nat (j := 0) rfl, t1, _, rfl, st_of h1, .inl rfl⟩
    · exact ⟨.ref t2, atI_nat (j := 1) rfl, t2, _, rfl, st_of h2, .inr rfl⟩
/-- the dayform, as it is drawn -/
theorem evp_frm {i j : Int} {ti tj : TE} (hi : ∀ H1, Ex H H1 → Ev ti σ H1 (.int i)) (hj : ∀ H1, Ex H H1 → Ev tj σ H1 (.int j)) (i01 : i = 0 ∨ i = 1) (j01 : j = 0 ∨ j = 1) :
    EvP (tTup (tCons (tOp (rIxL K) (tLst (tCons (tC (.str "dmy")) (tCons (tC (.str "ymd")) tNil))) ti) (tCons (tC (.str "/")) (tCons (tOp (rIxL K) (tLst (tCons (tC .non) (tCons (tLst (tCons (tC (.str "Jan")) (tCons (tC (.str "F")) tNil))) tNil))) tj) tNil)))) σ H fun v H2 => ∃ ad f, v = .ref ad ∧ FrmAt K H2 ad f := by
  refine (evp_tup (W := fun vs H1 => ∃ (f : Frm) (nv : V), vs = [.str f.ord, .str "/", nv] ∧ (f.ord = "dmy" ∨ f.ord = "ymd") ∧ ((f.nam = false ∧ nv = .non) ∨ (f.nam = true ∧ ∃ an, nv = .ref an ∧ H1 an = some (.lst ([("Jan" : Str), "F"].map V.str))))) ?_ (fun vs _ ⟨_, _, h, _⟩ => by rw [h]; exact Nat.le_of_ble_eq_true rfl) (fun vs H1 H2 e ⟨f, nv, h1, h2, h3⟩ => ⟨f, nv, h1, h2, h3.elim .inl fun ⟨h4, an, h5, h6⟩ => .inr ⟨h4, an, h5, e an _ h6⟩⟩)).imp fun v H2 e ⟨p, vs, hv, _, hp, f, nv, h1, h2, h3⟩ => ?_
  · intro H1 e1 Q q
    have hat : atI ([.str "dmy", .str "ymd"] : List V) i = some (.str (if i = 0 then "dmy" else "ymd")) := by
      rcases i01 with rfl | rfl
      · exact atI_nat (j := 0) rfl
      · exact atI_nat (j := 1) rfl
    refine (ev_opL1 (σ := σ) (H := H1) (el_lst (ea_cons ev_c (ea_cons ev_c ea_nil)) (Nat.le_of_ble_eq_true rfl)) (fun H2 e2 => hi H2 (e1.trans e2)) (fun p H2 h2 _ => rv_ixL (sq_of h2) hat)) H1 (Ex.refl H1) _ fun H2 e2 => ?_
    refine (ev_c : Ev (tC (.str "/")) σ H2 (.str "/")) H2 (Ex.refl H2) _ fun H3 e3 => ?_
    refine (evp_pick (σ := σ) (H := H3) (PP := fun nv H1 => (decide (j = 1) = false ∧ nv = .non) ∨ (decide (j = 1) = true ∧ ∃ an, nv = .ref an ∧ H1 an = some (.lst ([("Jan" : Str), "F"].map V.str)))) (W := fun vs H1 => ∃ an, vs = [.non, .ref an] ∧ H1 an = some (.lst ([("Jan" : Str), "F"].map V.str))) ?_ (fun vs _ ⟨_, h, _⟩ => by rw [h]; exact Nat.le_of_ble_eq_true rfl) (fun vs H1 H2 e ⟨an, h1, h2⟩ => ⟨an, h1, e an _ h2⟩) (fun H4 e4 => hj H4 (e1.trans (e2.trans (e3.trans e4)))) fun vs H4 ⟨an, hv, h4⟩ => ?_) H3 (Ex.refl H3) _ fun nv H4 e4 hnv => ?_
    · intro H4 e4 Q4 q4
      refine (ev_c : Ev (tC .non) σ H4 .non) H4 (Ex.refl H4) _ fun H5 e5 => ?_
      refine (el_lst (σ := σ) (H := H5) (ea_cons ev_c (ea_cons ev_c ea_nil)) (Nat.le_of_ble_eq_true rfl)) H5 (Ex.refl H5) _ fun an H6 _ e6 h6 => ?_
      exact q4 _ H6 (e5.trans e6) ⟨an, rfl, h6⟩
    · subst hv
      rcases j01 with rfl | rfl
      · exact ⟨.non, atI_nat (j := 0) rfl, .inl ⟨by decide, rfl⟩⟩
      · exact ⟨.ref an, atI_nat (j := 1) rfl, .inr ⟨by decide, an, rfl, h4⟩⟩
    · exact q _ H4 (e2.trans (e3.trans e4)) ⟨⟨if i = 0 then "dmy" else "ymd", decide (j = 1)⟩, nv, rfl, by show (if i = 0 then ("dmy" : Str) else "ymd") = "dmy" ∨ _; split; exact .inl rfl; exact .inr rfl, hnv⟩
  · subst hv h1
    exact ⟨p, f, rfl, nv, st_of hp, h2, h3.elim .inl fun ⟨h4, an, h5, h6⟩ => .inr ⟨h4, an, h5, sq_of h6⟩⟩
theorem m01 (c : Int) : c % 2 = 0 ∨ c % 2 = 1 := by omega
end
end K71

set_option maxHeartbeats 4000000
/-! K71W22: _law_house, whole. -/
namespace K71
open PySem PySem.Spec PyProof.Rows L2 Evl
section
variable {P : Program} {w : World} {K : PySem.W.Frag} {mg : Str → Option Value} {base : Heap} {σ : L2.St} {H : Hp} {te ta tb td ty : TE} {D : Ends} {tz tu : TS} {PP : V → Hp → Prop}
theorem sc__law_house : FnScope ["_law_plan_here", "_law_marks_here", "_law_texts_here", "_law_cell", "_law_house_here", "_law_name", "_law_falls", "_law_other", "_law_signs_here", "_law_figures", "_law_joiners", "_law_year", "_law_dates", "_law_thing", "_law_key"] ["_law_plan_here", "_law_marks_here", "_law_texts_here", "_law_cell"] (defScope s__law_house) := ⟨rfl, rfl, rfl, by decide +kernel, rfl, by decide +kernel, by decide +kernel⟩
theorem ca__law_house (T : Ctx K mg) (c_House : Ma P w K mg base CX0 1 "House" (He.ga K "House") (sp_House K)) (c_Tongue : Ma P w K mg base CX0 1 "Tongue" (He.ga K "Tongue") (sp_Tongue K)) (c__law_rules : Ca P w K mg base CX0 1 "_law_rules" (sp_rules K)) (c_add : Me P w K mg base CX0 1 (He.ga K "House") "add" (sp_add K) []) (c_word : Me P w K mg base CX0 2 (He.ga K "House") "word" (sp_word K) []) (c_declare : Me P w K mg base CX0 1 (He.ga K "House") "declare" (sp_declare K) [.bl false]) : Ca P w K mg base CX0 4 "_law_house" (sp_house K) := by
  obtain ⟨fd, F⟩ := T.fd__law_house
  refine caOf F sc__law_house T.g__law_house (F.bindsN fun _ _ _ _ _ _ us hl => match us, hl with | [_, _, _, _], _ => rfl) (fun vs H Q E h => ?_) (fun cdv A outer s H vs Q E hr h => ⟨_, PSs.nox (pss_cons (ps_set (i := 4) sc__law_house.nd rfl (.inl rfl) (pe_ma c_House hr (by first | decide | omega) (by rfl) (pa_cons (pe_dget (hu_of hr) (pv 0) pe_str (fun _ _ => rfl)) (pa_cons (pe_dget (hu_of hr) (pv 0) pe_str (fun _ _ => rfl)) (pa_cons (pe_dget (hu_of hr) (pv 0) pe_str (fun _ _ => rfl)) pa_nil)))))
      (pss_cons (ps_for PassesOwn.never rfl (pi_list (pe_dget (hu_of hr) (pv 0) pe_str (fun _ _ => rfl))) (pg_name (i := 5) sc__law_house.nd rfl (.inr rfl)) (pss_cons (ps_setLc (i := 6) (own := [("_law_other", 7)]) (g := gName 7) rfl sc__law_house.nd rfl rfl (sw_true rfl rfl rfl (by decide +kernel)) (pi_list (pe_dget (hu_of hr) (pv 0) pe_str (fun _ _ => rfl))) (blkOk_by (own := [("_law_other", 7)]) (N := ["_law_plan_here", "_law_marks_here", "_law_texts_here", "_law_cell", "_law_house_here", "_law_name", "_law_falls", "_law_other", "_law_signs_here", "_law_figures", "_law_joiners", "_law_year", "_law_dates", "_law_thing", "_law_key"]) (sc := defScope s__law_house) (by decide +kernel)) (fun _ _ _ _ _ => pg_name (i := 7) sc__law_house.nd rfl (.inl rfl)) (fun _ _ _ _ _ => pts_one (PW.pt (pw_and (pt_cmpR op_ne (pv 7) (pv 5) (nomark _)) (pw_and1 (pt_cmpR op_gt (pe_op op_mod (pv 3) pe_int) pe_int (nomark _)))))) (fun _ _ _ _ _ => (pv 7)))
      (pss_cons (ps_set (i := 8) sc__law_house.nd rfl (.inl rfl) (pe_ix (r := rIxL K) ix_list (pe_lst (pa_cons pe_str (pa_cons pe_str pa_nil))) (pe_op op_mod (pe_op op_fdiv (pv 3) pe_int) pe_int) (fun _ _ => rfl)))
      (pss_cons (ps_set (i := 9) sc__law_house.nd rfl (.inl rfl) (pe_tup (pa_cons pe_int (pa_cons (pe_op op_add pe_int (pe_op op_mod (pe_op op_fdiv (pv 3) pe_int) pe_int)) (pa_cons (pe_ix (r := rIxL K) ix_list (pe_lst (pa_cons pe_str (pa_cons pe_str (pa_cons pe_str pa_nil)))) (pe_op op_mod (pe_op op_fdiv (pv 3) pe_int) pe_int) (fun _ _ => rfl)) (pa_cons pe_str (pa_cons (pv 8) pa_nil)))))))
      (pss_cons (ps_set (i := 10) sc__law_house.nd rfl (.inl rfl) (pe_ix (r := rIxL K) ix_list (pe_lst (pa_cons (pe_tup (pa_cons pe_str (pa_cons pe_str (pa_cons pe_str (pa_cons pe_str pa_nil))))) (pa_cons (pe_tup (pa_cons pe_str (pa_cons pe_str (pa_cons pe_str (pa_cons pe_str pa_nil))))) pa_nil))) (pe_op op_mod (pe_op op_fdiv (pv 3) pe_int) pe_int) (fun _ _ => rfl)))
      (pss_cons (ps_set (i := 11) sc__law_house.nd rfl (.inl rfl) (pe_tup (pa_cons (pe_lst (pa_cons pe_int (pa_cons (pe_op op_add pe_int (pe_op op_mod (pe_op op_fdiv (pv 3) pe_int) pe_int)) pa_nil))) (pa_cons pe_int (pa_cons (pe_tup (pa_cons pe_str (pa_cons pe_int (pa_cons pe_int (pa_cons pe_int pa_nil))))) pa_nil)))))
      (pss_cons (ps_set (i := 12) sc__law_house.nd rfl (.inl rfl) (pe_tup (pa_cons (pe_ix (r := rIxL K) ix_list (pe_lst (pa_cons pe_str (pa_cons pe_str pa_nil))) (pe_op op_mod (pe_op op_fdiv (pv 3) pe_int) pe_int) (fun _ _ => rfl)) (pa_cons pe_str (pa_cons (pe_ix (r := rIxL K) ix_list (pe_lst (pa_cons pe_non (pa_cons (pe_lst (pa_cons pe_str (pa_cons pe_str pa_nil))) pa_nil))) (pe_op op_mod (pe_op op_fdiv (pv 3) pe_int) pe_int) (fun _ _ => rfl)) pa_nil)))))
      (pss_cons (ps_expr (pe_me c_add hr (by first | decide | omega) (pv 4) (pa_cons (pe_ma c_Tongue hr (by first | decide | omega) (by rfl) (pa_cons (pv 5) (pa_cons (pv 6) (pa_cons (pe_ca c__law_rules hr (by first | decide | omega) (by rfl) (pa_cons (pe_op op_fdiv (pv 3) pe_int) (pa_cons (pe_dget (hu_of hr) (pv 0) pe_str (fun _ _ => rfl)) pa_nil))) (pa_cons (pv 10) (pa_cons (pv 9) (pa_cons (pv 11) (pa_cons (pv 12) pa_nil)))))))) pa_nil)))
      (pss_one (ps_set (i := 3) sc__law_house.nd rfl (.inr rfl) (pe_op op_add (pe_op op_fdiv (pv 3) (pe_op op_pow pe_int pe_int)) (pe_op op_mod (pe_op op_mul (pv 3) pe_int) pe_int))))))))))))
      (pss_cons (ps_lock (ps_for PassesOwn.never rfl (pi_keys (pv 2)) (pg_tup rfl (pgs_cons (pg_name (i := 5) sc__law_house.nd rfl (.inr rfl)) (pgs_cons (pg_name (i := 13) sc__law_house.nd rfl (.inl rfl)) pgs_nil))) (pss_one (ps_expr (pe_me c_word hr (by first | decide | omega) (pv 4) (pa_cons (pv 5) (pa_cons (pv 13) (pa_cons (pe_ix (r := rIxT K) ix_tup (pe_dget (hu_of hr) (pv 2) (pe_tup (pa_cons (pv 5) (pa_cons (pv 13) pa_nil))) (fun _ _ => rfl)) pe_int (fun _ _ => rfl)) (pa_cons (pe_ix (r := rIxT K) ix_tup (pe_dget (hu_of hr) (pv 2) (pe_tup (pa_cons (pv 5) (pa_cons (pv 13) pa_nil))) (fun _ _ => rfl)) pe_int (fun _ _ => rfl)) pa_nil)))))))))
      (pss_cons (ps_for PassesOwn.never rfl (pi_list (pe_dget (hu_of hr) (pv 0) pe_str (fun _ _ => rfl))) (pg_name (i := 14) sc__law_house.nd rfl (.inl rfl)) (pss_one (ps_expr (pe_me c_declare hr (by first | decide | omega) (pv 4) (pa_cons (pv 14) (pa_cons (pe_dget (hu_of hr) (pv 1) (pv 14) (fun _ _ => rfl)) pa_nil))))))
      (pss_one (ps_ret (pv 4))))))), ?_⟩)
  · obtain ⟨pd, md, td, c, pl, tab, kvt, rfl, _⟩ := h; rfl
  · obtain ⟨pd, md, td, c, pl, tab, kvt, rfl, hP, oP, hM, htd, htk, tm, q⟩ := h
    obtain ⟨k1, dk1, sk1⟩ := hP.kinds
    obtain ⟨k2, dk2, sk2⟩ := hP.ranks
    obtain ⟨k3, dk3, sk3⟩ := hP.things
    -- the house, empty
    refine q_asgP (evp_make (R := fun x H2 => ∃ z, New0 K H H2 x z pl) (ea_cons (ev_dget (ev_var rfl) ev_c dk1) (ea_cons (ev_dget (ev_var rfl) ev_c dk2) (ea_cons (ev_dget (ev_var rfl) ev_c dk3) ea_nil))) fun x dx H1 Q' E' e1 _ hx k => ?_) fun v H1 e1 hv => ?_
    · exact ⟨x, dx, k1, k2, k3, pl, rfl, hx, ex_l e1 sk1, ex_l e1 sk2, ex_l e1 sk3, fun H2 en ⟨z, nz⟩ => k H2 en ⟨z, nz.w, nz.hab, nz.hax, nz.had, nz.ne, fresh_back e1 nz.gab, fresh_back e1 nz.gax, fresh_back e1 nz.gad⟩⟩
    obtain ⟨a, rfl, _, z, nz⟩ := hv
    have hno1 : ∀ {ak ar ah ab ax ad ap : Addr}, (hF ak ar ah ab ax ad ap).lookup ("add" : Str) = none := hF_no (by decide +kernel)
    have hno2 : ∀ {ak ar ah ab ax ad ap : Addr}, (hF ak ar ah ab ax ad ap).lookup ("word" : Str) = none := hF_no (by decide +kernel)
    have hno3 : ∀ {ak ar ah ab ax ad ap : Addr}, (hF ak ar ah ab ax ad ap).lookup ("declare" : Str) = none := hF_no (by decide +kernel)
    obtain ⟨an, hdn, hsn⟩ := (hP.mono e1).names
    -- the tongues
    refine q_forLn (ev_dget (ev_var rfl) ev_c hdn) hsn (fun i σ' H' => ∃ (c' : Int) (v5 v6 v7 v8 v9 v10 v11 v12 : Option V) (kvs : List (Key × V)) (ts : List Tg), σ' = [some (.ref pd), some (.ref md), some (.ref td), some (.int c'), some (.ref a), v5, v6, v7, v8, v9, v10, v11, v12, none, none] ∧ Ex H H' ∧ HouseW K H' a z pl ∧ H' z.ab = some (.dK kvs) ∧ TgKv K H' ts kvs ∧ ts.map Tg.name = pl.names.take i ∧ (∀ t ∈ ts, FallOk pl.names t) ∧ H' z.ax = some (.dT []) ∧ H' z.ad = some (.dK []) ∧ SqL K H' an (pl.names.map V.str))
      (fun H2 e2 => ⟨c, none, none, none, none, none, none, none, none, [], [], rfl, e1.trans e2, nz.w.mono (ExI.of e2), e2 _ _ nz.hab, .nil, rfl, (fun t ht => nomatch ht), e2 _ _ nz.hax, e2 _ _ nz.had, ex_l e2 hsn⟩) (fun i σ' H' _ ⟨_, _, _, _, _, _, _, _, _, _, _, _, _, _, _, _, _, _, _, _, hs⟩ => hs) ?_ ?_
    · rintro i y σ' H' hi ⟨c', v5, v6, v7, v8, v9, v10, v11, v12, kvs, ts, rfl, e, hw, hab, htg, hnames, hfall, hax, had, hsn'⟩
      rw [List.getElem?_map] at hi
      obtain ⟨nm, hnm, rfl⟩ : ∃ x, pl.names[i]? = some x ∧ y = .str x := by
        cases hq : pl.names[i]? with
        | none => rw [hq] at hi; cases hi
        | some n => rw [hq] at hi; exact ⟨n, rfl, (Option.some.inj hi).symm⟩
      have hil : i < 2 := Nat.lt_of_lt_of_le (List.getElem?_eq_some_iff.mp hnm).1 oP.names.le
      obtain ⟨an2, hdn2, hsn2⟩ := (hP.mono e).names
      -- the falls
      have el := el_lcL (K := K) (σ := [some (.ref pd), some (.ref md), some (.ref td), some (.int c'), some (.ref a), some (.str nm), v6, v7, v8, v9, v10, v11, v12, none, none]) (H := H') (t := tAnd (tTest (tOp rNe (tVar 7) (tVar 5))) (tTest (tOp (rI0 fun i j => V.bl (decide (j < i))) (tOp (rI (fun x j => 0 < j) fun i j => V.int (i % j)) (tVar 3) (tC (V.int 3))) (tC (V.int 0))))) (te := tVar 7) (tl := tDGet (tVar 0) (tC (.str "names"))) (j := 7) (vs := [7]) (xs := pl.names.map V.str)
        (fun i => (fun v => !decide (v = V.str nm) && decide (0 < c' % 3)) ((pl.names.map V.str).getD i .non)) (fun i => (pl.names.map V.str).getD i .non) (ev_dget (ev_var rfl) ev_c hdn2) hsn2 (by rw [List.length_map]; have := oP.names.le; omega) (fun _ => rfl) (fun i x H4 e4 hi => by
          have hx : (pl.names.map V.str).getD i .non = x := by rw [List.getD_eq_getElem?_getD, hi]; rfl
          rw [hx]
          obtain ⟨o, _, rfl⟩ := List.mem_map.mp (List.mem_of_getElem? hi)
          exact et_and (et_test (ev_op (ev_var rfl) (ev_var rfl) (rv_ne rfl))) fun _ => et_test (ev_op (ev_op (ev_var rfl) ev_c rv_mod) ev_c rv_I0)) (fun i x H4 e4 hi _ => by
          have hx : (pl.names.map V.str).getD i .non = x := by rw [List.getD_eq_getElem?_getD, hi]; rfl
          rw [hx]
          exact ev_var rfl)
      rw [given_filter (p := fun v => !decide (v = V.str nm) && decide (0 < c' % 3)), List.filter_map] at el
      generalize hfl : pl.names.filter ((fun v => !decide (v = V.str nm) && decide (0 < c' % 3)) ∘ V.str) = fls at el
      have hfok := falls_ok oP.names.le (List.mem_of_getElem? hnm) ((fun v => !decide (v = V.str nm) && decide (0 < c' % 3)) ∘ V.str) (by simp)
      rw [hfl] at hfok
      refine q_asgL el fun fl H2 _ e2 h2 => ?_
      -- the signs
      obtain ⟨sx, hsx, hasx⟩ := at_modm (xs := ([.str "0123456789", .str "9876543210"] : List V)) (c' / 27) (m := 2) rfl (by decide)
      obtain ⟨sxs, rfl, hsxo⟩ : ∃ x : Str, sx = .str x ∧ (x = "0123456789" ∨ x = "9876543210") := by
        simp only [List.mem_cons, List.not_mem_nil, or_false] at hsx
        rcases hsx with rfl | rfl
        · exact ⟨_, rfl, .inl rfl⟩
        · exact ⟨_, rfl, .inr rfl⟩
      refine q_asg (ev_opL1 (el_lst (ea_cons ev_c (ea_cons ev_c ea_nil)) (Nat.le_of_ble_eq_true rfl)) (fun _ _ => ev_op (ev_op (ev_var rfl) ev_c rv_div) ev_c rv_mod) (fun p H h _ => rv_ixL (sq_of h) hasx)) fun H3 e3 => ?_
      -- the figures
      obtain ⟨sg, hsg, hasg⟩ := at_modm (xs := ([.str "", .str ",", .str "."] : List V)) (c' / 9) (m := 3) rfl (by decide)
      obtain ⟨sgs, rfl, hsgo⟩ : ∃ x : Str, sg = .str x ∧ (x = "" ∨ x = "," ∨ x = ".") := by
        simp only [List.mem_cons, List.not_mem_nil, or_false] at hsg
        rcases hsg with rfl | rfl | rfl
        · exact ⟨_, rfl, .inl rfl⟩
        · exact ⟨_, rfl, .inr (.inl rfl)⟩
        · exact ⟨_, rfl, .inr (.inr rfl)⟩
      refine q_asgU (eu_tup (ea_cons ev_c (ea_cons (ev_op ev_c (ev_op (ev_op (ev_var rfl) ev_c rv_div) ev_c rv_mod) rv_I0) (ea_cons (ev_opL1 (el_lst (ea_cons ev_c (ea_cons ev_c (ea_cons ev_c ea_nil))) (Nat.le_of_ble_eq_true rfl)) (fun _ _ => ev_op (ev_op (ev_var rfl) ev_c rv_div) ev_c rv_mod) (fun p H h _ => rv_ixL (sq_of h) hasg)) (ea_cons ev_c (ea_cons (ev_var rfl) ea_nil))))) (Nat.le_of_ble_eq_true rfl)) fun af H4 _ e4 h4 => ?_
      -- the joiners, the year, the dates
      refine q_asgP (evp_jo (fun _ _ => ev_op (ev_op (ev_var rfl) ev_c rv_div) ev_c rv_mod) (m01 (c' / 54))) fun v H5 e5 hv => ?_
      obtain ⟨aj, jo, rfl, h5⟩ := hv
      have h30 := emod_rng (c' / 7) (m := 30) (by decide)
      refine q_asgP (evp_year (K := K) (ev_op ev_c (ev_op (ev_op (ev_var rfl) ev_c rv_div) ev_c rv_mod) rv_I0) ⟨by omega, by omega⟩) fun v H6 e6 hv => ?_
      obtain ⟨ac, rfl, h6⟩ := hv
      refine q_asgP (evp_frm (fun _ _ => ev_op (ev_op (ev_var rfl) ev_c rv_div) ev_c rv_mod) (fun _ _ => ev_op (ev_op (ev_var rfl) ev_c rv_div) ev_c rv_mod) (m01 (c' / 108)) (m01 (c' / 5))) fun v H7 e7 hv => ?_
      obtain ⟨ad, frm, rfl, h7⟩ := hv
      have E47 := e5.trans (e6.trans e7)
      have E7 := e2.trans (e3.trans (e4.trans E47))
      have hgg := emod_rng (c' / 3) (m := 3) (by decide)
      -- house.add(Tongue(..))
      obtain ⟨aw, hdw, hsw⟩ := (hP.mono (e.trans E7)).ways
      have hw7 := hw.mono (ExI.of E7)
      refine ⟨_, rfl, a, z.dx, _, rfl, hw7.at_, hno1, ?_⟩
      refine evp_makeP (A := fun vs => ∃ rv, vs = [.str nm, .ref fl, rv, .ref aj, .ref af, .ref ac, .ref ad]) (R := fun x H2 => TgAt K H2 x ⟨nm, fls, jo, ⟨1 + c' / 3 % 3, sgs, sxs⟩, 1 + c' / 7 % 30, frm⟩) ?_ (fun vs x dx H8 Q' E' hA e8 _ hx k => ?_) H7 (Ex.refl H7) _ fun v H8 e8 hv => ?_
      · intro H8 e8 Q8 q8
        refine (ev_var rfl) H8 (Ex.refl H8) _ fun H9 e9 => (ev_var rfl) H9 (Ex.refl H9) _ fun H10 e10 => ?_
        refine evp_call (ea_cons (ev_op (ev_var rfl) ev_c rv_div) (ea_cons (ev_dget (ev_var rfl) ev_c (dget_ex (e8.trans (e9.trans e10)) hdw)) ea_nil)) (spp_rules (ex_l (e8.trans (e9.trans e10)) hsw) oP.ways.ne (Nat.le_trans oP.ways.le (by decide))) H10 (Ex.refl H10) _ fun rv H11 e11 _ => ?_
        refine (ea_cons (ev_var rfl) (ea_cons (ev_var rfl) (ea_cons (ev_var rfl) (ea_cons (ev_var rfl) ea_nil)))) H11 (Ex.refl H11) _ fun H12 e12 => ?_
        exact q8 _ H12 (e9.trans (e10.trans (e11.trans e12))) ⟨rv, rfl⟩
      · obtain ⟨rv, rfl⟩ := hA
        refine ⟨x, dx, fl, aj, af, ac, ad, rv, ⟨nm, fls, jo, ⟨1 + c' / 3 % 3, sgs, sxs⟩, 1 + c' / 7 % 30, frm⟩, rfl, hx, sq_of ((e3.trans (e4.trans (E47.trans e8))) fl _ h2), h5.mono (ExI.of (e6.trans (e7.trans e8))), ⟨st_of ((E47.trans e8) af _ h4), ⟨?_, hsgo, hsxo⟩⟩, h6.mono (ExI.of (e7.trans e8)), h7.mono (ExI.of e8), fun H9 en ht => k H9 en ht⟩
        show 1 + c' / 3 % 3 = 1 ∨ 1 + c' / 3 % 3 = 2 ∨ 1 + c' / 3 % 3 = 3
        omega
      · obtain ⟨x, rfl, _, hx⟩ := hv
        have E8 := E7.trans e8
        have htl : ts.length = kvs.length := htg.length
        have htl2 : ts.length ≤ 2 := by
          have := congrArg List.length hnames
          rw [List.length_map, List.length_take] at this
          omega
        have hnew : valV kvs (.inr nm) = none := by
          have hk := htg.keys
          rw [hnames] at hk
          cases hq : valV kvs (.inr nm) with
          | none => rfl
          | some v =>
            exfalso
            have hm : (Sum.inr nm : Key) ∈ kvs.map (·.1) := by
              unfold valV at hq
              cases hf : kvs.find? fun kv => decide (kv.1 = Sum.inr nm) with
              | none => rw [hf] at hq; cases hq
              | some kv =>
                have h1 := List.find?_some hf
                have h2 := List.mem_of_find?_eq_some hf
                have h3 : kv.1 = Sum.inr nm := of_decide_eq_true h1
                rw [← h3]
                exact List.mem_map_of_mem h2
            rw [hk] at hm
            obtain ⟨y, hy, hy2⟩ := List.mem_map.mp hm
            have := Sum.inr.inj hy2
            subst this
            exact nd_take oP.names.nd hnm hy
        refine ⟨a, x, z, pl, kvs, ⟨nm, fls, jo, ⟨1 + c' / 3 % 3, sgs, sxs⟩, 1 + c' / 7 % 30, frm⟩, rfl, hw.mono (ExI.of E8), E8 _ _ hab, hx, hnew, by omega, fun H9 en hab9 => ?_⟩
        have hI : ExI H8 H9 := en.exi (E8 _ _ hab) rfl
        have hIE := (ExI.of E8).trans hI
        have neax : z.ax ≠ z.ab := fun zz => by rw [zz, hab] at hax; cases hax
        refine s_asg (ev_op (ev_op (ev_var rfl) (ev_op ev_c ev_c rv_pow) (rv_div (by decide))) (ev_op (ev_op (ev_var rfl) ev_c rv_mul2) ev_c rv_mod) rv_I0) fun H10 e10 => ?_
        have hI10 := hIE.trans (ExI.of e10)
        refine ⟨_, _, _, _, _, _, _, _, _, kvs ++ [(.inr nm, .ref x)], ts ++ [⟨nm, fls, jo, ⟨1 + c' / 3 % 3, sgs, sxs⟩, 1 + c' / 7 % 30, frm⟩], rfl, ((ExN.ex en (e.trans E8) nz.gab).trans e10), hw.mono hI10, e10 _ _ hab9, paired_snoc (htg.mono hI10) ⟨rfl, x, rfl, hx.mono (hI.trans (ExI.of e10))⟩, ?_, fun t ht => ?_, e10 _ _ (en _ _ neax (E8 _ _ hax)), e10 _ _ (en _ _ nz.ne.symm (E8 _ _ had)), exi_l hI10 hsn'⟩
        · rw [List.map_append, hnames, take_more hnm]; rfl
        · rcases List.mem_append.mp ht with ht | ht
          · exact hfall t ht
          · have := List.mem_singleton.mp ht
            subst this
            exact hfok
    · rintro σ' H' ⟨c', v5, v6, v7, v8, v9, v10, v11, v12, kvs, ts, rfl, e, hw, hab, htg, hnames, hfall, hax, had, hsn'⟩
      rw [List.length_map, List.take_length] at hnames
      have oT : TsOk ts := by
        refine ⟨by rw [hnames]; exact oP.names.nd, by have := congrArg List.length hnames; rw [List.length_map] at this; have := oP.names.le; omega, fun t ht => ?_⟩
        rcases hfall t ht with h | ⟨u, hu, h1, h2⟩
        · exact .inl h
        · rw [← hnames] at hu
          obtain ⟨u', hu', rfl⟩ := List.mem_map.mp hu
          exact .inr ⟨u', hu', h1, h2⟩
      have htd' := e td _ htd
      have neax : z.ax ≠ td := fun zz => by rw [← zz, nz.gax] at htd; cases htd
      have neab : z.ab ≠ td := fun zz => by rw [← zz, nz.gab] at htd; cases htd
      have nead : z.ad ≠ td := fun zz => by rw [← zz, nz.gad] at htd; cases htd
      have neabx : z.ab ≠ z.ax := fun zz => by rw [zz, hax] at hab; cases hab
      have neadx : z.ad ≠ z.ax := fun zz => by rw [zz, hax] at had; cases had
      -- the texts, under a lock
      refine ⟨td, .dT kvt, htd', trivial, fun od => ?_⟩
      have hI0 : ExI H' (upd H' td (.frz od (.dT kvt))) := ExI.put htd' rfl
      refine ⟨_, rfl, td, od, rfl, .inr ⟨kvt, upd_same, ?_⟩⟩
      refine for_keysT (fun i σ'' H'' => ∃ (v5 v13 : Option V) (kvx : List (List Key × V)), σ'' = [some (.ref pd), some (.ref md), some (.ref td), some (.int c'), some (.ref a), v5, v6, v7, v8, v9, v10, v11, v12, v13, none] ∧ ExN td H H'' ∧ H'' td = some (.frz od (.dT kvt)) ∧ HouseW K H'' a z pl ∧ H'' z.ab = some (.dK kvs) ∧ TgKv K H'' ts kvs ∧ H'' z.ax = some (.dT kvx) ∧ TabKv H'' (tab.take i) kvx ∧ H'' z.ad = some (.dK []) ∧ TabKv H'' tab kvt)
        ⟨v5, none, [], rfl, (ExN.of e).trans ExN.put, upd_same, hw.mono hI0, by rw [upd_ne neab]; exact hab, htg.mono hI0, by rw [upd_ne neax]; exact hax, .nil, by rw [upd_ne nead]; exact had, (htk.mono (ExI.of e)).mono hI0⟩ (fun i σ'' H'' ⟨_, _, _, _, _, h, _⟩ => h) ?_ ?_
      · rintro i ky v qa σ'' H'' hkv hqa ⟨v5, v13, kvx, rfl, eN, hlk, hw2, hab2, htg2, hax2, hkx, had2, htk2⟩
        obtain ⟨en, hen, hek, t1, rfl, ht1⟩ := paired_get htk2 hkv
        subst hek
        have hmem := tm.mem en (List.mem_of_getElem? hen)
        have hval := tabGet_mem (List.mem_of_getElem? hen) tm.nd
        have hvt : valV kvt (keyT en.1) = some (.ref t1) := by
          rcases htk2.get en.1 with ⟨h1, _⟩ | ⟨x, t', h1, h2, h3⟩
          · rw [hval] at h1; cases h1
          · obtain ⟨j, hj⟩ := List.getElem?_of_mem (List.mem_of_getElem? hkv)
            -- the entry found is this one: keys are apart
            have : ∀ {tab : Tab} {kvs : List (List Key × V)} {e : (Str × Str) × (Str × Str)} {kv : List Key × V} {i : Nat}, TabKv H'' tab kvs → (tab.map (·.1)).Nodup → tab[i]? = some e → kvs[i]? = some kv → valV kvs kv.1 = some kv.2 := by
              intro tab kvs e kv i hh
              induction hh generalizing i with
              | nil => intro _ h _; simp at h
              | @cons a b as bs h0 ht ih =>
                intro nd hi hk
                rw [List.map_cons, List.nodup_cons] at nd
                cases i with
                | zero =>
                  have h1 := Option.some.inj hk
                  subst h1
                  exact valV_pos rfl
                | succ i =>
                  have hi' : as[i]? = some e := by simpa using hi
                  have hk' : bs[i]? = some kv := by simpa using hk
                  obtain ⟨a', ha', hr'⟩ := paired_get ht hk'
                  rw [valV_neg, ih nd.2 hi' hk']
                  intro zz
                  rw [h0.1, hr'.1] at zz
                  have := keyT_inj zz
                  exact nd.1 (by rw [this]; exact List.mem_map_of_mem (List.mem_of_getElem? ha'))
            exact this htk2 tm.nd hen hkv
        refine g_tup (st_of hqa) rfl (g_cons (g_cons (g_nil ?_)))
        -- house.word(..)
        refine ⟨_, rfl, a, z.dx, _, rfl, hw2.at_, hno2, ?_⟩
        refine (ea_cons (ev_var rfl) (ea_cons (ev_var rfl) (ea_cons (ev_op (ev_dgetU (k := keyT en.1) (ev_var rfl) (eu_tup (ea_cons (ev_var rfl) (ea_cons (ev_var rfl) ea_nil)) (Nat.le_of_ble_eq_true rfl)) (.inr ⟨od, hlk⟩) hvt) ev_c (rv_ixT (st_of ht1) (atI_nat (j := 0) rfl))) (ea_cons (ev_op (ev_dgetU (k := keyT en.1) (ev_var rfl) (eu_tup (ea_cons (ev_var rfl) (ea_cons (ev_var rfl) ea_nil)) (Nat.le_of_ble_eq_true rfl)) (.inr ⟨od, hlk⟩) hvt) ev_c (rv_ixT (st_of ht1) (atI_nat (j := 1) rfl))) ea_nil)))) H'' (Ex.refl H'') _ fun H3 e3 => ?_
        obtain ⟨t, ht, htn⟩ : ∃ t ∈ ts, t.name = en.1.1 := by
          have h1 := hmem.1
          rw [← hnames] at h1
          obtain ⟨t, ht, h2⟩ := List.mem_map.mp h1
          exact ⟨t, ht, h2⟩
        have hI3 := ExI.of e3
        have hil : i < tab.length := (List.getElem?_eq_some_iff.mp hen).1
        have hkl : kvx.length ≤ 8 := by
          have := hkx.length
          rw [List.length_take] at this
          have := tm.le
          omega
        have hnew : (t.name, en.1.2) ∉ (tab.take i).map (·.1) := by
          rw [htn]
          intro hm
          obtain ⟨e', he', h1⟩ := List.mem_map.mp hm
          obtain ⟨j, hj⟩ := List.getElem?_of_mem he'
          have hji : j < i := by
            have := (List.getElem?_eq_some_iff.mp hj).1
            rw [List.length_take] at this
            omega
          rw [List.getElem?_take, if_pos hji] at hj
          have h2 : (tab.map (·.1))[j]? = some en.1 := by rw [List.getElem?_map, hj]; exact congrArg some h1
          have h3 : (tab.map (·.1))[i]? = some en.1 := by rw [List.getElem?_map, hen]; rfl
          have := (List.getElem?_inj (by rw [List.length_map]; omega) tm.nd).mp (h2.trans h3.symm)
          omega
        have hsp : sp_word K [.ref a, .str t.name, .str en.1.2, .str en.2.1, .str en.2.2] H3 (fun v H2 => ∃ (v5 v13 : Option V) (kvx : List (List Key × V)), [some (.ref pd), some (.ref md), some (.ref td), some (.int c'), some (.ref a), some (V.str en.1.1), v6, v7, v8, v9, v10, v11, v12, some (V.str en.1.2), none] = [some (.ref pd), some (.ref md), some (.ref td), some (.int c'), some (.ref a), v5, v6, v7, v8, v9, v10, v11, v12, v13, none] ∧ ExN td H H2 ∧ H2 td = some (.frz od (.dT kvt)) ∧ HouseW K H2 a z pl ∧ H2 z.ab = some (.dK kvs) ∧ TgKv K H2 ts kvs ∧ H2 z.ax = some (.dT kvx) ∧ TabKv H2 (tab.take (i + 1)) kvx ∧ H2 z.ad = some (.dK []) ∧ TabKv H2 tab kvt) E0 := by
          refine ⟨a, z, pl, ts, tab.take i, kvs, kvx, t, en.1.2, en.2.1, en.2.2, rfl, hw2.mono hI3, e3 _ _ hab2, htg2.mono hI3, oT, ht, e3 _ _ hax2, hkx.mono hI3, hmem.2.1, hmem.2.2.1, hmem.2.2.2, hnew, by omega, fun H4 t2 en4 hax4 ht2 => ?_⟩
          have hI4 : ExI H3 H4 := en4.exi (e3 _ _ hax2) rfl
          have hI := hI3.trans hI4
          refine ⟨_, _, _, rfl, fun b o hb hH => ?_, en4 _ _ neax.symm (e3 _ _ hlk), hw2.mono hI, en4 _ _ neabx (e3 _ _ hab2), htg2.mono hI, hax4, ?_, en4 _ _ neadx (e3 _ _ had2), htk2.mono hI⟩
          · exact en4 b o (fun zz => by rw [zz, nz.gax] at hH; cases hH) (e3 b o (eN b o hb hH))
          · rw [take_more hen]
            exact paired_snoc (hkx.mono hI) ⟨by rw [htn], t2, rfl, ht2⟩
        rw [htn] at hsp
        exact hsp
      · rintro σ'' H'' ⟨v5, v13, kvx, rfl, eN, hlk, hw2, hab2, htg2, hax2, hkx, had2, htk2⟩
        rw [← htk2.length, List.take_length] at hkx
        have hI1 : ExI H'' (upd H'' td (.dT kvt)) := ExI.put hlk rfl
        refine ⟨hlk, ?_⟩
        have E9 : Ex H (upd H'' td (.dT kvt)) := fun b o hH => by
          by_cases hb : b = td
          · subst hb
            rw [htd] at hH
            rw [← Option.some.inj hH]
            exact upd_same
          · rw [upd_ne hb]
            exact eN b o hb hH
        have hab3 : (upd H'' td (.dT kvt)) z.ab = some (.dK kvs) := by rw [upd_ne neab]; exact hab2
        have hax3 : (upd H'' td (.dT kvt)) z.ax = some (.dT kvx) := by rw [upd_ne neax]; exact hax2
        have had3 : (upd H'' td (.dT kvt)) z.ad = some (.dK []) := by rw [upd_ne nead]; exact had2
        have hw3 := hw2.mono hI1
        have htg3 := htg2.mono hI1
        have hkx3 := hkx.mono hI1
        generalize upd H'' td (.dT kvt) = G at *
        -- the messages
        obtain ⟨ak, hdk, hsk⟩ := (hP.mono E9).keys
        refine q_forLn (ev_dget (ev_var rfl) ev_c hdk) hsk (fun i σ' H' => ∃ (v14 : Option V) (kvd : List (Key × V)), σ' = [some (.ref pd), some (.ref md), some (.ref td), some (.int c'), some (.ref a), v5, v6, v7, v8, v9, v10, v11, v12, v13, v14] ∧ Ex H H' ∧ HouseW K H' a z pl ∧ H' z.ab = some (.dK kvs) ∧ TgKv K H' ts kvs ∧ H' z.ax = some (.dT kvx) ∧ TabKv H' tab kvx ∧ H' z.ad = some (.dK kvd) ∧ kvd.length ≤ i ∧ (∀ x, x ∉ pl.keys.take i → valV kvd (.inr x) = none) ∧ SqL K H' ak (pl.keys.map V.str))
          (fun H2 e2 => ⟨none, [], rfl, E9.trans e2, hw3.mono (ExI.of e2), e2 _ _ hab3, htg3.mono (ExI.of e2), e2 _ _ hax3, hkx3.mono (ExI.of e2), e2 _ _ had3, Nat.zero_le _, fun x _ => rfl, ex_l e2 hsk⟩) (fun i σ' H' _ ⟨_, _, _, _, _, _, _, _, _, _, _, _, hs⟩ => hs) ?_ ?_
        · rintro i y σ' H' hi ⟨v14, kvd, rfl, e, hw4, hab4, htg4, hax4, hkx4, had4, hkl, hkn, hsk4⟩
          rw [List.getElem?_map] at hi
          obtain ⟨ky, hky, rfl⟩ : ∃ x, pl.keys[i]? = some x ∧ y = .str x := by
            cases hq : pl.keys[i]? with
            | none => rw [hq] at hi; cases hi
            | some n => rw [hq] at hi; exact ⟨n, rfl, (Option.some.inj hi).symm⟩
          have hil : i < 3 := Nat.lt_of_lt_of_le (List.getElem?_eq_some_iff.mp hky).1 oP.keys.le
          obtain ⟨kvm, hmd, hmk⟩ := hM.mono e
          obtain ⟨lm, xs, hm1, hm2⟩ := hmk ky (List.mem_of_getElem? hky)
          have hnewk : valV kvd (.inr ky) = none := hkn ky (nd_take oP.keys.nd hky)
          refine ⟨_, rfl, a, z.dx, _, rfl, hw4.at_, hno3, ?_⟩
          refine (ea_cons (ev_var rfl) (ea_cons (ev_dget (ev_var rfl) (ev_var rfl) (dg_k (k := .inr ky) hmd hm1)) ea_nil)) H' (Ex.refl H') _ fun H3 e3 => ?_
          refine ⟨a, lm, z, pl, kvd, ky, xs, rfl, hw4.mono (ExI.of e3), e3 _ _ had4, hnewk, by omega, sq_of (e3 _ _ hm2), fun H4 v en4 had5 => ?_⟩
          have hI4 : ExI H3 H4 := en4.exi (e3 _ _ had4) rfl
          have hI := (ExI.of e3).trans hI4
          refine ⟨_, _, rfl, ExN.ex en4 (e.trans e3) nz.gad, hw4.mono hI, en4 _ _ nz.ne (e3 _ _ hab4), htg4.mono hI, en4 _ _ neadx.symm (e3 _ _ hax4), hkx4.mono hI, had5, by rw [List.length_append]; simp only [List.length_cons, List.length_nil]; omega, fun x hx => ?_, exi_l hI hsk4⟩
          rw [take_more hky, List.mem_append, not_or] at hx
          rw [valV_snoc _ _ _ _ hnewk, if_neg (fun zz => hx.2 (by rw [Sum.inr.inj zz]; simp))]
          exact hkn x hx.1
        · rintro σ' H' ⟨v14, kvd, rfl, e, hw4, hab4, htg4, hax4, hkx4, had4, hkl, hkn, hsk4⟩
          refine s_ret (ev_var rfl) fun H3 e3 => q _ H3 (e.trans e3) ⟨a, ts, rfl, ⟨z, hw4.mono (ExI.of e3), ⟨kvs, .inl (e3 _ _ hab4), htg4.mono (ExI.of e3)⟩, kvx, .inl (e3 _ _ hax4), hkx4.mono (ExI.of e3)⟩, oT, hnames⟩
end
end K71

set_option maxHeartbeats 4000000
/-! K71W23: the law's def, and all defs together. -/
namespace K71
open PySem PySem.Spec PyProof.Rows L2 Evl
/-- the law's promise: at a list of at most 63 ints True comes back -/
def spTrue (K : PySem.W.Frag) : Sp := fun vs H Q _ => ∃ (a : Addr) (ns : List Int), vs = [.ref a] ∧ SqL K H a (ns.map V.int) ∧ ns.length ≤ 63 ∧ ∀ H', Q (.bl true) H'
theorem cut_mem {xs : List V} {lo hi : Option Int} {x : V} (h : x ∈ cutV xs lo hi) : x ∈ xs := List.mem_of_mem_drop (List.mem_of_mem_take h)
theorem scal_text (o : Option Str) : scal (textV o) (textV o) = true := by cases o <;> rfl
theorem text_sim {K : PySem.W.Frag} {H : Hp} (o : Option Str) : SimV K H (textV o) := by cases o <;> trivial
theorem text_test (o : Option Str) : ((!decide (textV o = textV o)) || ((!decide (textV o = .non)) && !isStr (textV o))) = false := by
  cases o with
  | none => rfl
  | some z =>
    rw [decide_eq_true (p := textV (some z) = textV (some z)) rfl, decide_eq_false (p := textV (some z) = .non) (fun h => by cases h)]
    rfl
section
variable {P : Program} {w : World} {K : PySem.W.Frag} {mg : Str → Option Value} {base : Heap} {σ : L2.St} {H : Hp} {te ta tb td ty : TE} {D : Ends} {tz tu : TS} {PP : V → Hp → Prop}
theorem sc_law : FnScope ["_law_script", "_law_plan_here", "_law_texts_here", "_law_house_here", "_law_cell", "_law_kind", "_law_name", "_law_value_here", "_law_odd_here", "_law_one", "_law_here", "_law_due_here", "_law_found"] ["_law_script"] (defScope s_law) := ⟨rfl, rfl, rfl, by decide +kernel, rfl, by decide +kernel, by decide +kernel⟩
theorem fn_law (T : Ctx K mg) {fd : FuncData} (F : FunD K "law" "law" (defArgs s_law) (defBody s_law) (defScope s_law) [] [] (He.ga K "law") fd)
    (c__law_plan : Ca P w K mg base CX0 3 "_law_plan" (sp_plan K)) (c__law_texts : Ca P w K mg base CX0 2 "_law_texts" (sp_texts K)) (c__law_cell_at : Ca P w K mg base CX0 1 "_law_cell_at" (sp_cell K)) (c__law_house : Ca P w K mg base CX0 4 "_law_house" (sp_house K)) (c__law_marks : Ca P w K mg base CX0 1 "_law_marks" (sp_marks K))
    (c__law_value : Ca P w K mg base CX0 1 "_law_value" (sp_value K)) (c__law_odd : Ca P w K mg base CX0 1 "_law_odd" (sp_odd K)) (c_is_value : Ca P w K mg base CX0 5 "is_value" (sp_is_value K)) (c__law_is_value : Ca P w K mg base CX0 3 "_law_is_value" (sp_isv true K)) (c__law_due : Ca P w K mg base CX0 10 "_law_due" (sp_due K)) (c__law_told : Ca P w K mg base CX0 12 "_law_told" (sp_told K)) :
    FnOk P w K mg base CX0 13 (He.ga K "law") fd ["_law_script"] (spTrue K) := by
  refine F.ok sc_law (fun vs H Q E h => ?_) (fun cdv A outer s H vs Q E hr h => ⟨_, PSs.nox (pss_cons (ps_set (i := 1) sc_law.nd rfl (.inl rfl) (pe_ca c__law_plan hr (by first | decide | omega) (by rfl) (pa_cons (pv 0) pa_nil)))
      (pss_cons (ps_set (i := 2) sc_law.nd rfl (.inl rfl) (pe_ca c__law_texts hr (by first | decide | omega) (by rfl) (pa_cons (pe_ca c__law_cell_at hr (by first | decide | omega) (by rfl) (pa_cons (pv 0) (pa_cons pe_int pa_nil))) (pa_cons (pv 1) (pa_cons pe_bl pa_nil)))))
      (pss_cons (ps_set (i := 3) sc_law.nd rfl (.inl rfl) (pe_ca c__law_house hr (by first | decide | omega) (by rfl) (pa_cons (pv 1) (pa_cons (pe_ca c__law_marks hr (by first | decide | omega) (by rfl) (pa_cons (pe_ca c__law_cell_at hr (by first | decide | omega) (by rfl) (pa_cons (pv 0) (pa_cons pe_int pa_nil))) (pa_cons (pv 1) pa_nil))) (pa_cons (pv 2) (pa_cons (pe_ca c__law_cell_at hr (by first | decide | omega) (by rfl) (pa_cons (pv 0) (pa_cons pe_int pa_nil))) pa_nil))))))
      (pss_cons (ps_for PassesOwn.never rfl (pi_list (pe_slice (r := rSlL K) sl_list (pv 0) (po_some pe_int) (po_some pe_int))) (pg_name (i := 4) sc_law.nd rfl (.inl rfl)) (pss_cons (ps_set (i := 5) sc_law.nd rfl (.inl rfl) (pe_ix (r := rIxL K) ix_list (pe_lst (pa_cons pe_str (pa_cons pe_str (pa_cons pe_str (pa_cons pe_str (pa_cons pe_str (pa_cons pe_str pa_nil))))))) (pe_op op_mod (pv 4) pe_int) (fun _ _ => rfl)))
      (pss_cons (ps_set (i := 6) sc_law.nd rfl (.inl rfl) (pe_ix (r := rIxL K) ix_list (pe_dget (hu_of hr) (pv 1) pe_str (fun _ _ => rfl)) (pe_op op_mod (pe_op op_fdiv (pv 4) pe_int) (pe_callB (r := rLen K) call_len (by rfl) T.f_len (by decide +kernel) (pa_cons (pe_dget (hu_of hr) (pv 1) pe_str (fun _ _ => rfl)) pa_nil))) (fun _ _ => rfl)))
      (pss_cons (ps_set (i := 7) sc_law.nd rfl (.inl rfl) (pe_ca c__law_value hr (by first | decide | omega) (by rfl) (pa_cons (pe_op op_fdiv (pv 4) pe_int) (pa_cons (pv 5) (pa_cons (pv 1) pa_nil)))))
      (pss_cons (ps_set (i := 8) sc_law.nd rfl (.inl rfl) (pe_ca c__law_odd hr (by first | decide | omega) (by rfl) (pa_cons (pe_op op_fdiv (pv 4) pe_int) (pa_cons (pv 1) pa_nil))))
      (pss_cons (ps_for PassesOwn.never rfl (pi_list (pe_lst (pa_cons (pv 7) (pa_cons (pv 8) pa_nil)))) (pg_name (i := 9) sc_law.nd rfl (.inl rfl)) (pss_cons (ps_set (i := 10) sc_law.nd rfl (.inl rfl) (pe_ca c_is_value hr (by first | decide | omega) (by rfl) (pa_cons (pv 3) (pa_cons (pv 5) (pa_cons (pv 9) pa_nil)))))
      (pss_one (ps_if (PW.pt (pw_or (pt_not (pt_val (pe_callB (r := rIsi K) call_isi (by rfl) T.f_isinstance (by decide +kernel) (pa_cons (pv 10) (pa_cons (pe_bltn (v := .ty "bool") (by rfl) T.f_bool (by decide +kernel) rfl) pa_nil))))) (pw_or1 (pt_cmpR op_ne (pv 10) (pe_ca c__law_is_value hr (by first | decide | omega) (by rfl) (pa_cons (pv 5) (pa_cons (pv 9) (pa_cons (pv 1) pa_nil)))) (nomark _))))) (pss_one (ps_ret pe_bl)) pss_nil))))
      (pss_one (ps_if (pt_cmpR op_ne (pv 5) pe_str (nomark _)) (pss_cons (ps_set (i := 11) sc_law.nd rfl (.inl rfl) (pe_ca c__law_due hr (by first | decide | omega) (by rfl) (pa_cons (pv 3) (pa_cons (pv 6) (pa_cons (pv 5) (pa_cons (pv 7) (pa_cons (pv 2) pa_nil)))))))
      (pss_cons (ps_set (i := 12) sc_law.nd rfl (.inl rfl) (pe_ca c__law_told hr (by first | decide | omega) (by rfl) (pa_cons (pv 3) (pa_cons (pv 6) (pa_cons (pv 5) (pa_cons (pv 7) pa_nil))))))
      (pss_one (ps_if (PW.pt (pw_or (pt_cmpR op_ne (pv 12) (pv 11) (nomark _)) (pw_or1 (PW.pt (pw_and (pt_cmpR op_notN (pv 11) pe_non (nomark _)) (pw_and1 (pt_not (pt_val (pe_callB (r := rIsi K) call_isi (by rfl) T.f_isinstance (by decide +kernel) (pa_cons (pv 12) (pa_cons (pe_bltn (v := .ty "str") (by rfl) T.f_str (by decide +kernel) rfl) pa_nil))))))))))) (pss_one (ps_ret pe_bl)) pss_nil)))) pss_nil))))))))
      (pss_one (ps_ret pe_bl)))))), ?_⟩)
  · obtain ⟨a, ns, rfl, _⟩ := h; rfl
  · obtain ⟨a, ns, rfl, hS, hlen, q⟩ := h
    -- the plan
    refine q_asgP (evp_call (ea_cons (ev_var rfl) ea_nil) (spp_plan hS)) fun v H1 e1 hv => ?_
    obtain ⟨pd, pl, rfl, hP, oP⟩ := hv
    -- the texts
    refine q_asgP (evp_callP (A := fun vs _ => ∃ c : Int, vs = [.int c, .ref pd, .bl false]) ?_ (fun vs H2 e2 hv => by
      obtain ⟨c, rfl⟩ := hv
      exact spp_texts (hP.mono e2) oP)) fun v H2 e2 hv => ?_
    · refine eap_cons (R := fun _ vs _ => vs = [.ref pd, .bl false]) (evp_call (ea_cons (ev_var rfl) (ea_cons ev_c ea_nil)) (spp_cell (ex_l e1 hS) (by decide))) (fun _ _ _ _ => EvA.toP (ea_cons (ev_var rfl) (ea_cons ev_c ea_nil))) (fun v vs H1 H2 _ _ hv hvs => ?_)
      obtain ⟨c, rfl⟩ := hv
      subst hvs
      exact ⟨c, rfl⟩
    obtain ⟨td, kvt, tab, rfl, htd, htk, tm⟩ := hv
    have E2 := e1.trans e2
    have hP2 := hP.mono e2
    -- the house
    refine q_asgP (evp_callP (A := fun vs H3 => ∃ (m : Addr) (c : Int), vs = [.ref pd, .ref m, .ref td, .int c] ∧ MarksAt H3 m pl) ?_ (fun vs H3 e3 hv => by
      obtain ⟨m, c, rfl, hm⟩ := hv
      exact spp_house (hP2.mono e3) oP hm (e3 td _ htd) (htk.mono (ExI.of e3)) tm)) fun v H3 e3 hv => ?_
    · intro H3 e3 Q3 q3
      refine (ev_var rfl) H3 (Ex.refl H3) _ fun H4 e4 => ?_
      have E4 := e3.trans e4
      refine evp_callP (P := fun v H2 => ∃ m, v = .ref m ∧ MarksAt H2 m pl) (A := fun vs _ => ∃ c : Int, vs = [.int c, .ref pd]) ?_ (fun vs H5 e5 hv => by
        obtain ⟨c, rfl⟩ := hv
        exact spp_marks ((hP2.mono E4).mono e5) oP) H4 (Ex.refl H4) _ fun v H5 e5 ⟨m, hv, hm⟩ => ?_
      · refine eap_cons (R := fun _ vs _ => vs = [.ref pd]) (evp_call (ea_cons (ev_var rfl) (ea_cons ev_c ea_nil)) (spp_cell (ex_l (E2.trans E4) hS) (by decide))) (fun _ _ _ _ => EvA.toP (ea_cons (ev_var rfl) ea_nil)) (fun v vs H1 H2 _ _ hv hvs => ?_)
        obtain ⟨c, rfl⟩ := hv
        subst hvs
        exact ⟨c, rfl⟩
      · subst hv
        refine (ev_var rfl) H5 (Ex.refl H5) _ fun H6 e6 => ?_
        refine evp_call (ea_cons (ev_var rfl) (ea_cons ev_c ea_nil)) (spp_cell (ex_l (E2.trans (E4.trans (e5.trans e6))) hS) (by decide)) H6 (Ex.refl H6) _ fun v H7 e7 ⟨c, hv⟩ => ?_
        subst hv
        exact q3 _ H7 (e4.trans (e5.trans (e6.trans e7))) ⟨m, c, rfl, hm.mono (e6.trans e7)⟩
    obtain ⟨ha, ts, rfl, hA, oT, hnames⟩ := hv
    have hP3 := hP2.mono e3
    have hT3 : TabAt H3 td tab := ⟨kvt, .inl (e3 td _ htd), htk.mono (ExI.of e3)⟩
    have oTab := tm.ok
    have hS3 := ex_l (E2.trans e3) hS
    -- the script's numbers
    refine q_forNLn (el_sl (ev_var rfl) (eo_some ev_c) (eo_some ev_c) hS3) (fun p i σ' H' => ∃ (v4 v5 v6 v7 v8 v9 v10 v11 v12 : Option V), σ' = [some (.ref a), some (.ref pd), some (.ref td), some (.ref ha), v4, v5, v6, v7, v8, v9, v10, v11, v12] ∧ Ex H3 H' ∧ H' p = some (.lst (cutV (ns.map V.int) (some 10) (some 60))))
      (fun p H4 hp e4 h4 => ⟨none, none, none, none, none, none, none, none, none, rfl, e4, h4⟩) (fun p i σ' H' _ ⟨_, _, _, _, _, _, _, _, _, _, _, hs⟩ => sq_of hs) ?_ ?_
    · rintro p i y σ' H' hi ⟨v4, v5, v6, v7, v8, v9, v10, v11, v12, rfl, e, hp⟩
      obtain ⟨c, _, rfl⟩ := List.mem_map.mp (cut_mem (List.mem_of_getElem? hi))
      -- the kind
      obtain ⟨vk, hvk, hak⟩ := at_modm (xs := ([.str "count", .str "number", .str "thing", .str "list", .str "day", .str "rank"] : List V)) c (m := 6) rfl (by decide)
      obtain ⟨k, rfl⟩ : ∃ k : Kd, vk = .str k.s := by
        simp only [List.mem_cons, List.not_mem_nil, or_false] at hvk
        rcases hvk with rfl | rfl | rfl | rfl | rfl | rfl
        · exact ⟨.count, rfl⟩
        · exact ⟨.number, rfl⟩
        · exact ⟨.thing, rfl⟩
        · exact ⟨.list, rfl⟩
        · exact ⟨.day, rfl⟩
        · exact ⟨.rank, rfl⟩
      refine q_asg (ev_opL1 (el_lst (ea_cons ev_c (ea_cons ev_c (ea_cons ev_c (ea_cons ev_c (ea_cons ev_c (ea_cons ev_c ea_nil)))))) (Nat.le_of_ble_eq_true rfl)) (fun _ _ => ev_op (ev_var rfl) ev_c rv_mod) (fun p H h _ => rv_ixL (sq_of h) hak)) fun H4 e4 => ?_
      -- the tongue
      obtain ⟨an, hdn, hsn⟩ := (hP3.mono (e.trans e4)).names
      have hpn : 0 < (pl.names.map V.str).length := by rw [List.length_map]; exact oP.names.pos
      obtain ⟨vn, hvn, _, han⟩ := at_mod (xs := pl.names.map V.str) (c / 6) hpn
      obtain ⟨nm, hnm, rfl⟩ := List.mem_map.mp hvn
      obtain ⟨t, ht, rfl⟩ : ∃ t ∈ ts, t.name = nm := by
        rw [← hnames] at hnm
        obtain ⟨t, ht, h⟩ := List.mem_map.mp hnm
        exact ⟨t, ht, h⟩
      refine q_asg (ev_op (ev_dget (ev_var rfl) ev_c hdn) (ev_op (ev_op (ev_var rfl) ev_c rv_div) (ev_lenL (ev_dget (ev_var rfl) ev_c hdn) hsn) (rv_mod (by omega))) (rv_ixL hsn han)) fun H5 e5 => ?_
      have E5 := e.trans (e4.trans e5)
      -- the value, the other thing
      refine q_asgP (evp_call (ea_cons (ev_op (ev_var rfl) ev_c rv_div) (ea_cons (ev_var rfl) (ea_cons (ev_var rfl) ea_nil))) (spp_value (hP3.mono E5) oP)) fun v H6 e6 ⟨av, hav, vok⟩ => ?_
      refine q_asgP (evp_call (ea_cons (ev_op (ev_var rfl) ev_c rv_div) (ea_cons (ev_var rfl) ea_nil)) (spp_odd (hP3.mono (E5.trans e6)) oP)) fun v' H7 e7 ⟨av', hav'⟩ => ?_
      have E7 := E5.trans (e6.trans e7)
      have hav7 := hav.mono e7
      have hA7 := hA.mono E7
      obtain ⟨z, hw, _⟩ := id hA7
      -- is_value of both
      refine q_forNLn (el_lst (ea_cons (ev_var rfl) (ea_cons (ev_var rfl) ea_nil)) (Nat.le_of_ble_eq_true rfl)) (fun p2 j σ'' H'' => ∃ (v9 v10 : Option V), σ'' = [some (.ref a), some (.ref pd), some (.ref td), some (.ref ha), some (.int c), some (.str k.s), some (.str t.name), some v, some v', v9, v10, v11, v12] ∧ Ex H7 H'' ∧ H'' p2 = some (.lst [v, v']))
        (fun p2 H8 hp2 e8 h8 => ⟨v9, v10, rfl, e8, h8⟩) (fun p2 j σ'' H'' _ ⟨_, _, _, _, hs⟩ => sq_of hs) ?_ ?_
      · rintro p2 j x σ'' H'' hj ⟨v9, v10, rfl, e8, h8⟩
        obtain ⟨ax, hax⟩ : ∃ ax, AVAt H'' x ax := by
          have hm := List.mem_of_getElem? hj
          simp only [List.mem_cons, List.not_mem_nil, or_false] at hm
          rcases hm with rfl | rfl
          · exact ⟨av, hav7.mono e8⟩
          · exact ⟨av', hav'.mono e8⟩
        refine q_asg (ev_call (ea_cons (ev_var rfl) (ea_cons (ev_var rfl) (ea_cons (ev_var rfl) ea_nil))) (spv_is_value (hw.mono (ExI.of e8)) hax)) fun H9 e9 => ?_
        refine s_when (b := false) (et_is (et_or (et_not (et_B (ev_isi (ev_var rfl) (rc_bool (v := .bl (isVal pl k ax)) trivial)))) fun _ => (et_test (ev_op (ev_var rfl) (ev_call (ea_cons (ev_var rfl) (ea_cons (ev_var rfl) (ea_cons (ev_var rfl) ea_nil))) (spv_isv (L := true) (fun _ => rfl) (hP3.mono (E7.trans (e8.trans e9))) (hax.mono e9))) (rv_ne rfl)))) (by rw [decide_eq_true (p := V.bl (isVal pl k ax) = V.bl (isVal pl k ax)) rfl]; rfl)) (fun hb => by cases hb) (fun _ H10 e10 => ?_)
        exact ⟨_, _, rfl, e8.trans (e9.trans e10), (e9.trans e10) p2 _ h8⟩
      · rintro p2 σ'' H'' ⟨v9, v10, rfl, e8, h8⟩
        have E8 := E7.trans e8
        have hp8 := (e4.trans (e5.trans (e6.trans (e7.trans e8)))) p _ hp
        refine s_when (et_test (ev_op (ev_var rfl) ev_c (rv_ne rfl))) (fun hb H9 e9 => ?_) (fun _ H9 e9 => ⟨_, _, _, _, _, _, _, _, _, rfl, E8.trans e9, e9 p _ hp8⟩)
        have hkr : k ≠ .rank := fun zz => by
          subst zz
          exact absurd hb (by decide +kernel)
        have E9 := E8.trans e9
        refine q_asg (ev_call (ea_cons (ev_var rfl) (ea_cons (ev_var rfl) (ea_cons (ev_var rfl) (ea_cons (ev_var rfl) (ea_cons (ev_var rfl) ea_nil))))) (spv_due (k := ⟨k, hkr⟩) (hA.mono E9) oT ht (hT3.mono E9) oTab (hav7.mono (e8.trans e9)) vok)) fun H10 e10 => ?_
        refine q_asg (ev_call (ea_cons (ev_var rfl) (ea_cons (ev_var rfl) (ea_cons (ev_var rfl) (ea_cons (ev_var rfl) ea_nil)))) (spv_told (k := ⟨k, hkr⟩) (hA.mono (E9.trans e10)) oT ht oTab (hav7.mono (e8.trans (e9.trans e10))) vok)) fun H11 e11 => ?_
        refine s_when (b := false) (et_is (et_or (et_test (ev_op (ev_var rfl) (ev_var rfl) (rv_ne (scal_text _)))) fun _ => (et_and (et_test (ev_op (ev_var rfl) ev_c rv_notN)) fun _ => (et_not (et_B (ev_isi (ev_var rfl) (rc_isStr (text_sim _))))))) (text_test _)) (fun hb => by cases hb) (fun _ H12 e12 => ?_)
        exact ⟨_, _, _, _, _, _, _, _, _, rfl, E9.trans (e10.trans (e11.trans e12)), (e9.trans (e10.trans (e11.trans e12))) p _ hp8⟩
    · rintro p σ' H' ⟨v4, v5, v6, v7, v8, v9, v10, v11, v12, rfl, e, hp⟩
      exact s_ret ev_c fun H4 e4 => q H4
end
end K71

set_option maxHeartbeats 0
namespace K71
open PySem PySem.Spec PyProof.Rows L2
/-- the law's promise: at a list of at most 63 ints True comes back -/
def spLaw (K : PySem.W.Frag) : Sp := fun vs H Q _ => ∃ (a : Addr) (ns : List Int), vs = [.ref a] ∧ SqL K H a (ns.map V.int) ∧ ns.length ≤ 63 ∧ ∀ H', Q (.bl true) H'
/-- what the walk shows of the law's def -/
def LawDone (k : Nat) : Prop := ∀ {P : Program} {w : World} {K : PySem.W.Frag} {h : Heap} {mg : Str → Option Value} {f : Addr}, K.In h → h.Ns mainGlobals mg → mg ("law" : Str) = some (.ref f) → He.SaysD fa fn K → more K = true →
    ∃ fd : FuncData, (∀ (s : Shared) (v : Value), BindsTo s fd ⟨[v], []⟩ [("_law_script", v)]) ∧ ∀ base : Heap, K.In base → base.Ns mainGlobals mg → FnOk P w K mg base CX0 k f fd ["_law_script"] (spLaw K)
end K71
section
open PyProof.Rows PySem.Calls PySem.W PySem
theorem K71.holds_of (F : K71.LawDone 30) : PySem.Challenge.rw_saywell_k71_values_and_their_texts.Holds := by
  w_on; o_law
  refine HandSHeadRun.head_any (r := OpenLaw.row PySem.Challenge.rw_saywell_k71_values_and_their_texts) (q := view (OpenLaw.row PySem.Challenge.rw_saywell_k71_values_and_their_texts).prog [94]) (H := K71.hk) (ob := K71.ob) (M := 20000) (loose := K71.loose) (d := HandSHeadRun.topDef (OpenLaw.row PySem.Challenge.rw_saywell_k71_values_and_their_texts).prog 94) (kwd := []) K71.ob_eq
    (by kernel_rfl) (fun s => by kernel_rfl) K71.run (by kernel_rfl) (by kernel_rfl) (by kernel_rfl) (by rfl) (by first | assumption | decide +kernel) (by decide +kernel) ⟨rfl, rfl, rfl, rfl, rfl, by decide +kernel⟩ ?hw ?hc
  case hw => w_witness2
  case hc =>
    refine L2.walk_ofE (l := PySem.Challenge.rw_saywell_k71_values_and_their_texts) (n := 63) (k := 30) (x := "_law_script") (CX := L2.CX0) rfl (by decide) (by kernel_rfl) ⟨rfl, by decide, by decide⟩ ?F (fun _ _ _ _ z => z)
    intro w mg fa h Y G hmg0
    obtain ⟨K, KX, c, cm⟩ := Y
    have hmg : mg ("law" : PySem.Str) = some (.ref fa) := by
      have e : (HandSHeadRun.topDef (OpenLaw.row PySem.Challenge.rw_saywell_k71_values_and_their_texts).prog 94).name = ("law" : PySem.Str) := by kernel_rfl
      rw [← e]
      exact hmg0
    obtain ⟨fd, hb, hF⟩ := F (P := (PySem.Challenge.rw_saywell_k71_values_and_their_texts).prog) (w := w) KX G hmg c cm
    exact ⟨K, fd, K71.spLaw K, KX, hb, fun H a ns hl _ hS => ⟨a, ns, rfl, hS, hl, fun _ => rfl⟩, hF⟩

end
set_option maxHeartbeats 4000000
/-! K71W24: all defs together. -/
namespace K71
open PySem PySem.Spec PyProof.Rows L2 Evl
theorem lawDone : LawDone 30 := by
  intro P w K h mg f X G hf c m
  have T : Ctx K mg := ⟨⟨h, X, G⟩, c, m⟩
  obtain ⟨fd, F⟩ := T.fd_law
  have e : He.ga K "law" = f := by
    have h1 := T.g_law
    rw [hf] at h1
    injection h1 with h1
    injection h1 with h1
    exact h1.symm
  subst e
  refine ⟨fd, fun s v => F.bindsA (ps := ["_law_script"]) (fun _ _ _ _ _ _ us hl => match us, hl with | [_], _ => rfl) s [v] rfl, fun base _ _ => ?_⟩
  have signs := ca__law_signs (P := P) (w := w) (base := base) T
  have words := ca__law_words T signs
  have cell := ca__law_cell_at (P := P) (w := w) (base := base) T
  have plan := ca__law_plan T cell words
  have texts := ca__law_texts T signs
  have marks := ca__law_marks (P := P) (w := w) (base := base) T
  have rules := ca__law_rules (P := P) (w := w) (base := base) T
  have tn := me_tongue_named (P := P) (w := w) (base := base) T
  have tongues := me_tongues (P := P) (w := w) (base := base) T
  have own := me_own_word (P := P) (w := w) (base := base) T
  have itt := ca_is_thing_text (P := P) (w := w) (base := base) T
  have house := ca__law_house T (ma_House (P := P) (w := w) (base := base) T) (ma_Tongue T) rules (me_add T) (me_word T tn itt) (me_declare T)
  have kn := ca_kind_named (P := P) (w := w) (base := base) T
  have whole := ca_is_whole (P := P) (w := w) (base := base) T
  have hasT := me_ThingKind_has T (me_ThingKind_row T (me_things (P := P) (w := w) (base := base) T))
  have hasR := me_RankKind_has T (me_RankKind_row T (me_ranks (P := P) (w := w) (base := base) T))
  have has : ∀ k : Kd, Me P w K mg base CX0 4 (He.ga K k.cls) "has" (sp_has K k) [] := fun k => match k with
    | .count => Me.mono (me_CountKind_has T whole) (by decide)
    | .number => Me.mono (me_NumberKind_has T whole) (by decide)
    | .thing => Me.mono hasT (by decide)
    | .list => me_ListKind_has T hasT
    | .day => Me.mono (me_DayKind_has T whole) (by decide)
    | .rank => Me.mono hasR (by decide)
  have isv := ca_is_value T kn has
  have lisv := ca__law_is_value T (ca__law_whole (P := P) (w := w) (base := base) T)
  have ar := ca_all_rests (P := P) (w := w) (base := base) T
  have made := ca_made T (ma_RestOf (P := P) (w := w) (base := base) T)
  have holds := ca_holds T made (me_rholds T)
  have below := ca_below T made (me_rspan T) (me_rstr T ar) (ca_turned T ar) (ca_bits_in T ar) ar
  have months := ca_months_of T holds
  have first := ca_first_of T below
  have yr := ca_year_and_rest T first months (ca_whole_turns T first)
  have day := ca_shown_day T (ca_date_of T yr months)
  have sn := ca_shown_number T (ca_figures_of (P := P) (w := w) (base := base) T) (ca_grouped T)
  have named := ca_named T (ca_word_of T (ca_road T tn tongues) own)
  have text : ∀ k : Td, Me P w K mg base (L2.CX P w) 10 (He.ga K k.1.cls) "text_of" (sp_text K k) [] := fun k => match k with
    | ⟨.count, hk⟩ => by
      obtain ⟨fd, F⟩ := T.fd_CountKind_text_of
      exact Me.mono (Me.up (me_num_text T tn sn ⟨.count, hk⟩ (.inl rfl) F T.cl_CountKind T.me_CountKind_text_of)) (by decide)
    | ⟨.number, hk⟩ => by
      obtain ⟨fd, F⟩ := T.fd_NumberKind_text_of
      exact Me.mono (Me.up (me_num_text T tn sn ⟨.number, hk⟩ (.inr rfl) F T.cl_NumberKind T.me_NumberKind_text_of)) (by decide)
    | ⟨.thing, hk⟩ => Me.mono (me_thing_text T named) (by decide)
    | ⟨.list, hk⟩ => Me.mono (me_list_text T named (ca_laid T) tn) (by decide)
    | ⟨.day, hk⟩ => Me.up (me_day_text T tn day)
    | ⟨.rank, hk⟩ => absurd rfl hk
  have vt := ca_value_text T kn text
  have due := ca__law_due T tn (ca__law_first T tn) (ca__law_laid T) (ca__law_number_text T) day
  exact (fn_law T F plan texts cell house marks (ca__law_value T) (ca__law_odd T) isv lisv due (ca__law_told T vt)).mono (by decide)
end K71
theorem PySem.Challenge.cw_saywell_k71_values_and_their_texts_holds : PySem.Challenge.rw_saywell_k71_values_and_their_texts.Holds := by
  exact K71.holds_of K71.lawDone


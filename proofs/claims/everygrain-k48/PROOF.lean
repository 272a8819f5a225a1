import PyProof.Rows.All
import Wide.All
import OpenK.AllK
import Wide.FinOn
import KE.KStateDown
import Lean
import HandS.ForMost
import HandS.ExcField
import KE.KExcInit
import KE.KIsAll
import HandS.Head0
import HandS.Head1
import HandS.Head2
import HandS.HeadEnd
import HandS.HeadHook1
import HandS.HeadHook2
import PySem.Challenge.RW_everygrain_k48_whole_index_by_looking
import HandS.Evl
import HandS.IsInst
import HandS.FStr
import HandS.Star
import HandS.NoneIn
import HandS.Exc
import HandS.TryOnly
import HandS.TryMany
import HandS.WordsExc
import HandS.Style
import HandS.Walk
import HandS.Steps
import HandS.ExcInit
import KE.SortData
import HandS.SortRule
import KE.KDictKeyed
import KE.KDictCopyH
import KE.OsArith
import KE.BitLaws
import HandS.WordsDict
import HandS.DictComp
import HandS.SetFor
import HandS.SetKeys
import HandS.Strs
import PyProof.Rows.SortShellAny
import PyProof.StrLawsRepr
set_option Elab.async false
set_option linter.all false
set_option maxRecDepth 100000
set_option maxHeartbeats 4000000
/-! The program's text by places, and the facts that the top leaves (printed by gen_txt.py). -/
namespace Eg
open PySem PySem.Spec PyProof.Rows L2
def top (i : Nat) : Stmt := PySem.Challenge.pw_everygrain_k48_whole_index_by_looking.main.body.getD i (.Pass ⟨0, 0, 0, 0⟩)

abbrev s_InvalidName_init : Stmt := (inClass (top 4) 0)
abbrev s_InvalidSeries_init : Stmt := (inClass (top 6) 0)
abbrev s_InvalidSelection_init : Stmt := (inClass (top 8) 0)
abbrev s_InvalidWord_init : Stmt := (inClass (top 9) 0)
abbrev s_is_list : Stmt := (top 15)
abbrev s_is_file_name : Stmt := (top 16)
abbrev s_is_word : Stmt := (top 17)
abbrev s_is_name : Stmt := (top 18)
abbrev s_check_name : Stmt := (top 19)
abbrev s_parts_of : Stmt := (top 23)
abbrev s_Parts_init : Stmt := (inClass (top 24) 0)
abbrev s_Parts_head : Stmt := (inClass (top 24) 1)
abbrev s_Parts_take : Stmt := (inClass (top 24) 2)
abbrev s_Parts_took : Stmt := (inClass (top 24) 3)
abbrev s_Parts_must : Stmt := (inClass (top 24) 4)
abbrev s_Parts_read_name : Stmt := (inClass (top 24) 5)
abbrev s_Parts_must_end : Stmt := (inClass (top 24) 9)
abbrev s_pairs_of : Stmt := (top 28)
abbrev s_are_pairs : Stmt := (top 29)
abbrev s_Series_init : Stmt := (inClass (top 30) 0)
abbrev s_Series_text : Stmt := (inClass (top 30) 2)
abbrev s_read_series : Stmt := (top 31)
abbrev s_check_series : Stmt := (top 32)
abbrev s_check_series_list : Stmt := (top 33)
abbrev s_in_order : Stmt := (top 34)
abbrev s_word_of : Stmt := (top 35)
abbrev s_Test_init : Stmt := (inClass (top 42) 0)
abbrev s_Test_passes : Stmt := (inClass (top 42) 2)
abbrev s_read_test : Stmt := (top 43)
abbrev s_read_one : Stmt := (top 44)
abbrev s_read_each : Stmt := (top 45)
abbrev s_read_any : Stmt := (top 46)
abbrev s_means : Stmt := (top 48)
abbrev s_Selection_init : Stmt := (inClass (top 49) 0)
abbrev s_check_selection : Stmt := (top 50)
abbrev s_chosen : Stmt := (top 51)
abbrev s_marks_of : Stmt := (top 54)
abbrev s_Index_init : Stmt := (inClass (top 55) 0)
abbrev s_Index_put : Stmt := (inClass (top 55) 1)
abbrev s_Index_drop : Stmt := (inClass (top 55) 2)
abbrev s_Index_told : Stmt := (inClass (top 55) 3)
abbrev s_Index_meant : Stmt := (inClass (top 55) 4)
abbrev s_Index_series : Stmt := (inClass (top 55) 5)
abbrev s_Index_chosen : Stmt := (inClass (top 55) 6)
abbrev s_Index_of_tag : Stmt := (inClass (top 55) 7)
abbrev s_Index_words : Stmt := (inClass (top 55) 8)
abbrev s_law_cell : Stmt := (top 57)
abbrev s_law_box : Stmt := (top 58)
abbrev s_law_take : Stmt := (top 59)
abbrev s_law_mixed : Stmt := (top 60)
abbrev s_law_parts : Stmt := (top 61)
abbrev s_law_is_word : Stmt := (top 62)
abbrev s_law_split : Stmt := (top 63)
abbrev s_law_read : Stmt := (top 64)
abbrev s_law_word : Stmt := (top 66)
abbrev s_law_test : Stmt := (top 67)
abbrev s_law_written : Stmt := (top 68)
abbrev s_law_joined : Stmt := (top 69)
abbrev s_law_means : Stmt := (top 70)
abbrev s_law_shown : Stmt := (top 71)
abbrev s_law_pool : Stmt := (top 72)
abbrev s_law_series : Stmt := (top 73)
abbrev s_law_texts : Stmt := (top 74)
abbrev s_law_inside : Stmt := (top 75)
abbrev s_law_word_of : Stmt := (top 76)
abbrev s_law_dues : Stmt := (top 77)
abbrev s_law_told : Stmt := (top 78)
abbrev s_law_spoil : Stmt := (top 79)
abbrev s_law_asked_right : Stmt := (top 80)
abbrev s_law_do : Stmt := (top 81)
abbrev s_law_refused : Stmt := (top 82)
abbrev s_law_refused_right : Stmt := (top 83)
abbrev s_law_right : Stmt := (top 84)
abbrev s_law_many_right : Stmt := (top 85)
abbrev s_law : Stmt := (top 86)
def fa0 : List He.Fa := [.glo "is_list", .glo "is_file_name", .glo "is_word", .glo "is_name", .glo "check_name", .glo "parts_of", .glo "pairs_of", .glo "are_pairs", .glo "read_series", .glo "check_series", .glo "check_series_list", .glo "in_order", .glo "word_of", .glo "read_test", .glo "read_one", .glo "read_each", .glo "read_any", .glo "means", .glo "check_selection", .glo "chosen", .glo "marks_of", .glo "_law_cell", .glo "_law_box", .glo "_law_take", .glo "_law_mixed", .glo "_law_parts", .glo "_law_is_word", .glo "_law_split", .glo "_law_read", .glo "_law_word"]
def fa1 : List He.Fa := [.glo "_law_test", .glo "_law_written", .glo "_law_joined", .glo "_law_means", .glo "_law_shown", .glo "_law_pool", .glo "_law_series", .glo "_law_texts", .glo "_law_inside", .glo "_law_word_of", .glo "_law_dues", .glo "_law_told", .glo "_law_spoil", .glo "_law_asked_right", .glo "_law_do", .glo "_law_refused", .glo "_law_refused_right", .glo "_law_right", .glo "_law_many_right", .glo "law", .glo "InvalidName", .glo "InvalidSeries", .glo "InvalidSelection", .glo "InvalidWord", .glo "Parts", .glo "Series", .glo "Test", .glo "Selection", .glo "Index", .glo "GrainError"]
def fa2 : List He.Fa := [.free "len", .free "isinstance", .free "str", .free "list", .free "tuple", .free "dict", .free "all", .free "any", .free "sorted", .free "enumerate", .free "int", .free "abs", .free "sum", .free "range", .free "max", .free "min", .free "set", .free "repr", .str "LETTERS" "abcdefghijklmnopqrstuvwxyz", .str "SIGNS" "abcdefghijklmnopqrstuvwxyz0123456789-", .int "MOST_SIGNS" 24, .str "BLANK" " ", .str "END" "", .int "MOST_TAGS" 6, .str "NAME" "name", .int "MOST_PARTS" 40, .str "ALL" "all", .str "NOT" "!", .str "AND" "&", .str "OR" "|"]
def fa3 : List He.Fa := [.str "FREE" "", .cls "Parts", .noat "Parts" "row", .noat "Parts" "at", .mkr "Parts", .meth "Parts" "head", .meth "Parts" "take", .meth "Parts" "took", .meth "Parts" "must", .meth "Parts" "read_name", .meth "Parts" "must_end", .keep "Parts", .cls "Series", .noat "Series" "name", .noat "Series" "tags", .mkr "Series", .meth "Series" "text", .keep "Series", .cls "Test", .noat "Test" "key", .noat "Test" "word", .mkr "Test", .meth "Test" "passes", .keep "Test", .cls "Selection", .noat "Selection" "tree", .mkr "Selection", .keep "Selection", .cls "Index", .noat "Index" "_slots"]
def fa4 : List He.Fa := [.noat "Index" "_known", .noat "Index" "_bits", .noat "Index" "_all", .mkr "Index", .meth "Index" "put", .meth "Index" "drop", .meth "Index" "_told", .meth "Index" "_meant", .meth "Index" "series", .meth "Index" "chosen", .meth "Index" "of_tag", .meth "Index" "words", .keep "Index"]
def fa : List He.Fa := fa0 ++ (fa1 ++ (fa2 ++ (fa3 ++ (fa4))))
def d_InvalidName_init : He.DefD := ⟨("InvalidName", some "__init__"), "__init__", "InvalidName.__init__", defArgs s_InvalidName_init, defBody s_InvalidName_init, defScope s_InvalidName_init, [], []⟩
def d_InvalidSeries_init : He.DefD := ⟨("InvalidSeries", some "__init__"), "__init__", "InvalidSeries.__init__", defArgs s_InvalidSeries_init, defBody s_InvalidSeries_init, defScope s_InvalidSeries_init, [], []⟩
def d_InvalidSelection_init : He.DefD := ⟨("InvalidSelection", some "__init__"), "__init__", "InvalidSelection.__init__", defArgs s_InvalidSelection_init, defBody s_InvalidSelection_init, defScope s_InvalidSelection_init, [], []⟩
def d_InvalidWord_init : He.DefD := ⟨("InvalidWord", some "__init__"), "__init__", "InvalidWord.__init__", defArgs s_InvalidWord_init, defBody s_InvalidWord_init, defScope s_InvalidWord_init, [], []⟩
def d_is_list : He.DefD := ⟨("is_list", none), "is_list", "is_list", defArgs s_is_list, defBody s_is_list, defScope s_is_list, [], []⟩
def d_is_file_name : He.DefD := ⟨("is_file_name", none), "is_file_name", "is_file_name", defArgs s_is_file_name, defBody s_is_file_name, defScope s_is_file_name, [], []⟩
def d_is_word : He.DefD := ⟨("is_word", none), "is_word", "is_word", defArgs s_is_word, defBody s_is_word, defScope s_is_word, [], []⟩
def d_is_name : He.DefD := ⟨("is_name", none), "is_name", "is_name", defArgs s_is_name, defBody s_is_name, defScope s_is_name, [], []⟩
def d_check_name : He.DefD := ⟨("check_name", none), "check_name", "check_name", defArgs s_check_name, defBody s_check_name, defScope s_check_name, [], []⟩
def d_parts_of : He.DefD := ⟨("parts_of", none), "parts_of", "parts_of", defArgs s_parts_of, defBody s_parts_of, defScope s_parts_of, [], []⟩
def d_Parts_init : He.DefD := ⟨("Parts", some "__init__"), "__init__", "Parts.__init__", defArgs s_Parts_init, defBody s_Parts_init, defScope s_Parts_init, [], []⟩
def d_Parts_head : He.DefD := ⟨("Parts", some "head"), "head", "Parts.head", defArgs s_Parts_head, defBody s_Parts_head, defScope s_Parts_head, [], []⟩
def d_Parts_take : He.DefD := ⟨("Parts", some "take"), "take", "Parts.take", defArgs s_Parts_take, defBody s_Parts_take, defScope s_Parts_take, [], []⟩
def d_Parts_took : He.DefD := ⟨("Parts", some "took"), "took", "Parts.took", defArgs s_Parts_took, defBody s_Parts_took, defScope s_Parts_took, [], []⟩
def d_Parts_must : He.DefD := ⟨("Parts", some "must"), "must", "Parts.must", defArgs s_Parts_must, defBody s_Parts_must, defScope s_Parts_must, [], []⟩
def d_Parts_read_name : He.DefD := ⟨("Parts", some "read_name"), "read_name", "Parts.read_name", defArgs s_Parts_read_name, defBody s_Parts_read_name, defScope s_Parts_read_name, [], []⟩
def d_Parts_must_end : He.DefD := ⟨("Parts", some "must_end"), "must_end", "Parts.must_end", defArgs s_Parts_must_end, defBody s_Parts_must_end, defScope s_Parts_must_end, [], []⟩
def d_pairs_of : He.DefD := ⟨("pairs_of", none), "pairs_of", "pairs_of", defArgs s_pairs_of, defBody s_pairs_of, defScope s_pairs_of, [], []⟩
def d_are_pairs : He.DefD := ⟨("are_pairs", none), "are_pairs", "are_pairs", defArgs s_are_pairs, defBody s_are_pairs, defScope s_are_pairs, [], []⟩
def d_Series_init : He.DefD := ⟨("Series", some "__init__"), "__init__", "Series.__init__", defArgs s_Series_init, defBody s_Series_init, defScope s_Series_init, [.adr (He.dflAt ("Series", some "__init__") 0)], []⟩
def d_Series_text : He.DefD := ⟨("Series", some "text"), "text", "Series.text", defArgs s_Series_text, defBody s_Series_text, defScope s_Series_text, [], []⟩
def d_read_series : He.DefD := ⟨("read_series", none), "read_series", "read_series", defArgs s_read_series, defBody s_read_series, defScope s_read_series, [], []⟩
def d_check_series : He.DefD := ⟨("check_series", none), "check_series", "check_series", defArgs s_check_series, defBody s_check_series, defScope s_check_series, [], []⟩
def d_check_series_list : He.DefD := ⟨("check_series_list", none), "check_series_list", "check_series_list", defArgs s_check_series_list, defBody s_check_series_list, defScope s_check_series_list, [], []⟩
def d_in_order : He.DefD := ⟨("in_order", none), "in_order", "in_order", defArgs s_in_order, defBody s_in_order, defScope s_in_order, [], []⟩
def d_word_of : He.DefD := ⟨("word_of", none), "word_of", "word_of", defArgs s_word_of, defBody s_word_of, defScope s_word_of, [], []⟩
def d_Test_init : He.DefD := ⟨("Test", some "__init__"), "__init__", "Test.__init__", defArgs s_Test_init, defBody s_Test_init, defScope s_Test_init, [], []⟩
def d_Test_passes : He.DefD := ⟨("Test", some "passes"), "passes", "Test.passes", defArgs s_Test_passes, defBody s_Test_passes, defScope s_Test_passes, [], []⟩
def d_read_test : He.DefD := ⟨("read_test", none), "read_test", "read_test", defArgs s_read_test, defBody s_read_test, defScope s_read_test, [], []⟩
def d_read_one : He.DefD := ⟨("read_one", none), "read_one", "read_one", defArgs s_read_one, defBody s_read_one, defScope s_read_one, [], []⟩
def d_read_each : He.DefD := ⟨("read_each", none), "read_each", "read_each", defArgs s_read_each, defBody s_read_each, defScope s_read_each, [], []⟩
def d_read_any : He.DefD := ⟨("read_any", none), "read_any", "read_any", defArgs s_read_any, defBody s_read_any, defScope s_read_any, [], []⟩
def d_means : He.DefD := ⟨("means", none), "means", "means", defArgs s_means, defBody s_means, defScope s_means, [], []⟩
def d_Selection_init : He.DefD := ⟨("Selection", some "__init__"), "__init__", "Selection.__init__", defArgs s_Selection_init, defBody s_Selection_init, defScope s_Selection_init, [], []⟩
def d_check_selection : He.DefD := ⟨("check_selection", none), "check_selection", "check_selection", defArgs s_check_selection, defBody s_check_selection, defScope s_check_selection, [], []⟩
def d_chosen : He.DefD := ⟨("chosen", none), "chosen", "chosen", defArgs s_chosen, defBody s_chosen, defScope s_chosen, [], []⟩
def d_marks_of : He.DefD := ⟨("marks_of", none), "marks_of", "marks_of", defArgs s_marks_of, defBody s_marks_of, defScope s_marks_of, [], []⟩
def d_Index_init : He.DefD := ⟨("Index", some "__init__"), "__init__", "Index.__init__", defArgs s_Index_init, defBody s_Index_init, defScope s_Index_init, [], []⟩
def d_Index_put : He.DefD := ⟨("Index", some "put"), "put", "Index.put", defArgs s_Index_put, defBody s_Index_put, defScope s_Index_put, [], []⟩
def d_Index_drop : He.DefD := ⟨("Index", some "drop"), "drop", "Index.drop", defArgs s_Index_drop, defBody s_Index_drop, defScope s_Index_drop, [], []⟩
def d_Index_told : He.DefD := ⟨("Index", some "_told"), "_told", "Index._told", defArgs s_Index_told, defBody s_Index_told, defScope s_Index_told, [], []⟩
def d_Index_meant : He.DefD := ⟨("Index", some "_meant"), "_meant", "Index._meant", defArgs s_Index_meant, defBody s_Index_meant, defScope s_Index_meant, [], []⟩
def d_Index_series : He.DefD := ⟨("Index", some "series"), "series", "Index.series", defArgs s_Index_series, defBody s_Index_series, defScope s_Index_series, [], []⟩
def d_Index_chosen : He.DefD := ⟨("Index", some "chosen"), "chosen", "Index.chosen", defArgs s_Index_chosen, defBody s_Index_chosen, defScope s_Index_chosen, [], []⟩
def d_Index_of_tag : He.DefD := ⟨("Index", some "of_tag"), "of_tag", "Index.of_tag", defArgs s_Index_of_tag, defBody s_Index_of_tag, defScope s_Index_of_tag, [], []⟩
def d_Index_words : He.DefD := ⟨("Index", some "words"), "words", "Index.words", defArgs s_Index_words, defBody s_Index_words, defScope s_Index_words, [], []⟩
def d_law_cell : He.DefD := ⟨("_law_cell", none), "_law_cell", "_law_cell", defArgs s_law_cell, defBody s_law_cell, defScope s_law_cell, [], []⟩
def d_law_box : He.DefD := ⟨("_law_box", none), "_law_box", "_law_box", defArgs s_law_box, defBody s_law_box, defScope s_law_box, [], []⟩
def d_law_take : He.DefD := ⟨("_law_take", none), "_law_take", "_law_take", defArgs s_law_take, defBody s_law_take, defScope s_law_take, [], []⟩
def d_law_mixed : He.DefD := ⟨("_law_mixed", none), "_law_mixed", "_law_mixed", defArgs s_law_mixed, defBody s_law_mixed, defScope s_law_mixed, [], []⟩
def d_law_parts : He.DefD := ⟨("_law_parts", none), "_law_parts", "_law_parts", defArgs s_law_parts, defBody s_law_parts, defScope s_law_parts, [], []⟩
def d_law_is_word : He.DefD := ⟨("_law_is_word", none), "_law_is_word", "_law_is_word", defArgs s_law_is_word, defBody s_law_is_word, defScope s_law_is_word, [], []⟩
def d_law_split : He.DefD := ⟨("_law_split", none), "_law_split", "_law_split", defArgs s_law_split, defBody s_law_split, defScope s_law_split, [], []⟩
def d_law_read : He.DefD := ⟨("_law_read", none), "_law_read", "_law_read", defArgs s_law_read, defBody s_law_read, defScope s_law_read, [], []⟩
def d_law_word : He.DefD := ⟨("_law_word", none), "_law_word", "_law_word", defArgs s_law_word, defBody s_law_word, defScope s_law_word, [], []⟩
def d_law_test : He.DefD := ⟨("_law_test", none), "_law_test", "_law_test", defArgs s_law_test, defBody s_law_test, defScope s_law_test, [], []⟩
def d_law_written : He.DefD := ⟨("_law_written", none), "_law_written", "_law_written", defArgs s_law_written, defBody s_law_written, defScope s_law_written, [], []⟩
def d_law_joined : He.DefD := ⟨("_law_joined", none), "_law_joined", "_law_joined", defArgs s_law_joined, defBody s_law_joined, defScope s_law_joined, [], []⟩
def d_law_means : He.DefD := ⟨("_law_means", none), "_law_means", "_law_means", defArgs s_law_means, defBody s_law_means, defScope s_law_means, [], []⟩
def d_law_shown : He.DefD := ⟨("_law_shown", none), "_law_shown", "_law_shown", defArgs s_law_shown, defBody s_law_shown, defScope s_law_shown, [], []⟩
def d_law_pool : He.DefD := ⟨("_law_pool", none), "_law_pool", "_law_pool", defArgs s_law_pool, defBody s_law_pool, defScope s_law_pool, [], []⟩
def d_law_series : He.DefD := ⟨("_law_series", none), "_law_series", "_law_series", defArgs s_law_series, defBody s_law_series, defScope s_law_series, [], []⟩
def d_law_texts : He.DefD := ⟨("_law_texts", none), "_law_texts", "_law_texts", defArgs s_law_texts, defBody s_law_texts, defScope s_law_texts, [], []⟩
def d_law_inside : He.DefD := ⟨("_law_inside", none), "_law_inside", "_law_inside", defArgs s_law_inside, defBody s_law_inside, defScope s_law_inside, [], []⟩
def d_law_word_of : He.DefD := ⟨("_law_word_of", none), "_law_word_of", "_law_word_of", defArgs s_law_word_of, defBody s_law_word_of, defScope s_law_word_of, [], []⟩
def d_law_dues : He.DefD := ⟨("_law_dues", none), "_law_dues", "_law_dues", defArgs s_law_dues, defBody s_law_dues, defScope s_law_dues, [], []⟩
def d_law_told : He.DefD := ⟨("_law_told", none), "_law_told", "_law_told", defArgs s_law_told, defBody s_law_told, defScope s_law_told, [], []⟩
def d_law_spoil : He.DefD := ⟨("_law_spoil", none), "_law_spoil", "_law_spoil", defArgs s_law_spoil, defBody s_law_spoil, defScope s_law_spoil, [], []⟩
def d_law_asked_right : He.DefD := ⟨("_law_asked_right", none), "_law_asked_right", "_law_asked_right", defArgs s_law_asked_right, defBody s_law_asked_right, defScope s_law_asked_right, [], []⟩
def d_law_do : He.DefD := ⟨("_law_do", none), "_law_do", "_law_do", defArgs s_law_do, defBody s_law_do, defScope s_law_do, [], []⟩
def d_law_refused : He.DefD := ⟨("_law_refused", none), "_law_refused", "_law_refused", defArgs s_law_refused, defBody s_law_refused, defScope s_law_refused, [], []⟩
def d_law_refused_right : He.DefD := ⟨("_law_refused_right", none), "_law_refused_right", "_law_refused_right", defArgs s_law_refused_right, defBody s_law_refused_right, defScope s_law_refused_right, [], []⟩
def d_law_right : He.DefD := ⟨("_law_right", none), "_law_right", "_law_right", defArgs s_law_right, defBody s_law_right, defScope s_law_right, [], []⟩
def d_law_many_right : He.DefD := ⟨("_law_many_right", none), "_law_many_right", "_law_many_right", defArgs s_law_many_right, defBody s_law_many_right, defScope s_law_many_right, [], []⟩
def d_law : He.DefD := ⟨("law", none), "law", "law", defArgs s_law, defBody s_law, defScope s_law, [], []⟩
def fn0 : List He.DefD := [d_InvalidName_init, d_InvalidSeries_init, d_InvalidSelection_init, d_InvalidWord_init, d_is_list, d_is_file_name, d_is_word, d_is_name, d_check_name, d_parts_of, d_Parts_init, d_Parts_head, d_Parts_take, d_Parts_took, d_Parts_must, d_Parts_read_name, d_Parts_must_end, d_pairs_of, d_are_pairs, d_Series_init, d_Series_text, d_read_series, d_check_series, d_check_series_list, d_in_order, d_word_of, d_Test_init, d_Test_passes, d_read_test, d_read_one]
def fn1 : List He.DefD := [d_read_each, d_read_any, d_means, d_Selection_init, d_check_selection, d_chosen, d_marks_of, d_Index_init, d_Index_put, d_Index_drop, d_Index_told, d_Index_meant, d_Index_series, d_Index_chosen, d_Index_of_tag, d_Index_words, d_law_cell, d_law_box, d_law_take, d_law_mixed, d_law_parts, d_law_is_word, d_law_split, d_law_read, d_law_word, d_law_test, d_law_written, d_law_joined, d_law_means, d_law_shown]
def fn2 : List He.DefD := [d_law_pool, d_law_series, d_law_texts, d_law_inside, d_law_word_of, d_law_dues, d_law_told, d_law_spoil, d_law_asked_right, d_law_do, d_law_refused, d_law_refused_right, d_law_right, d_law_many_right, d_law]
def fn : List He.DefD := fn0 ++ (fn1 ++ (fn2))
/-! further facts: the exceptions, isinstance -/
abbrev exMro : List Value := [.type "Exception", .type "BaseException", .type "object"]
abbrev noM (K : PySem.W.Frag) (C : Addr) (m : Str) : Bool := decide (PySem.W.findIn K (.ref C) m = some none)
def excB (K : PySem.W.Frag) (x : Str) : List Bool := [PySem.W.excInitIn K (He.ga K x) exMro "Exception.__new__", PySem.W.excOver K (He.ga K x) exMro, noM K (He.ga K x) "given",
  decide (PySem.W.findIn K (.ref (He.ga K x)) "__setattr__" = some (some (.builtin "object.__setattr__"))), decide (PySem.W.subIn K (.ref (He.ga K x)) (.type "BaseException") = some true), decide (PySem.W.typeIn K (.ref (He.ga K x)) = some (.type "type")),
  PySem.W.keepIn K (.ref (He.ga K x)), PySem.W.hasDictIn K (He.ga K x), decide (PySem.W.findIn K (.ref (He.ga K x)) "__init__" = some (some (.ref (He.ma K (He.ga K x) "__init__")))),
  decide (PySem.W.typeIn K (.ref (He.ma K (He.ga K x) "__init__")) = some (.type "function")), xfB K (He.ga K x)]
def exmB (K : PySem.W.Frag) (x y : Str) (b : Bool) : Bool := decide (PySem.W.exmOne K (.ref (He.ga K x)) (.ref (He.ga K y)) = some b)
def isVal (v : Value) : Option PySem.W.CFound → Bool
  | some (.val u) => u == v
  | _ => false
def grB (K : PySem.W.Frag) : List Bool := [PySem.W.readsIn K (He.ga K "GrainError") (.type "type"), decide (PySem.W.specialIn K (.ref (He.ga K "GrainError")) "__getattribute__" = some (some (.builtin "type.__getattribute__"))),
  isVal (.builtin "Exception.__init__") (PySem.W.findCls K (.ref (He.ga K "GrainError")) (.type "type") "__init__")]
def kitF (K : PySem.W.Frag) (t : String) (x : Str) : Bool := decide (PySem.W.kitOne K (.type t) (.ref (He.ga K x)) = some false)
def insB (K : PySem.W.Frag) (x : Str) : List Bool := [decide (PySem.W.findIn K (.ref (He.ga K x)) "__class__" = some (some (.builtin "object.__class__"))), decide (PySem.W.mroIn K (He.ga K x) (.type "object") = some true)]
def clsB (K : PySem.W.Frag) : List Bool := [decide (PySem.W.specialIn K (.builtin "object.__class__") "__get__" = some (some (.builtin "getset_descriptor.__get__"))), decide (PySem.W.takesIn K (.builtin "object.__class__") = some true)]
def exc4 : List Str := ["InvalidName", "InvalidSeries", "InvalidSelection", "InvalidWord"]
def ins3 : List Str := ["Series", "Selection", "Test"]
def ty7 : List String := ["NoneType", "int", "str", "bool", "list", "dict", "tuple"]
def exAll (K : PySem.W.Frag) : List Bool := (exc4.flatMap (excB K)) ++ ((exc4.flatMap fun x => exc4.map fun y => exmB K x y (x == y)) ++ (grB K ++ ((ins3.flatMap (insB K)) ++ (clsB K ++ (ins3.flatMap fun x => ty7.map fun t => kitF K t x)))))
def exB (K : PySem.W.Frag) : Bool := (exAll K).all id
/-- what the walk leans on -/
structure Txt (K : PySem.W.Frag) (mg : Str → Option Value) : Prop where
  ex : ∃ h : Heap, K.In h ∧ h.Ns mainGlobals mg
  c : He.SaysD fa fn K
  x : exB K = true
section
variable {K : PySem.W.Frag} {mg : Str → Option Value}
theorem Txt.at_ (T : Txt K mg) {f : He.Fa} (i : Nat) (h : fa[i]? = some f := by rfl) : f.ok K = true := T.c.fact i h

theorem Txt.g_is_list (T : Txt K mg) : mg "is_list" = some (.ref (He.ga K "is_list")) := by
  obtain ⟨_, X, G⟩ := T.ex
  exact He.glo_ok X G (x := "is_list") (T.at_ 0)
theorem Txt.g_is_file_name (T : Txt K mg) : mg "is_file_name" = some (.ref (He.ga K "is_file_name")) := by
  obtain ⟨_, X, G⟩ := T.ex
  exact He.glo_ok X G (x := "is_file_name") (T.at_ 1)
theorem Txt.g_is_word (T : Txt K mg) : mg "is_word" = some (.ref (He.ga K "is_word")) := by
  obtain ⟨_, X, G⟩ := T.ex
  exact He.glo_ok X G (x := "is_word") (T.at_ 2)
theorem Txt.g_is_name (T : Txt K mg) : mg "is_name" = some (.ref (He.ga K "is_name")) := by
  obtain ⟨_, X, G⟩ := T.ex
  exact He.glo_ok X G (x := "is_name") (T.at_ 3)
theorem Txt.g_check_name (T : Txt K mg) : mg "check_name" = some (.ref (He.ga K "check_name")) := by
  obtain ⟨_, X, G⟩ := T.ex
  exact He.glo_ok X G (x := "check_name") (T.at_ 4)
theorem Txt.g_parts_of (T : Txt K mg) : mg "parts_of" = some (.ref (He.ga K "parts_of")) := by
  obtain ⟨_, X, G⟩ := T.ex
  exact He.glo_ok X G (x := "parts_of") (T.at_ 5)
theorem Txt.g_pairs_of (T : Txt K mg) : mg "pairs_of" = some (.ref (He.ga K "pairs_of")) := by
  obtain ⟨_, X, G⟩ := T.ex
  exact He.glo_ok X G (x := "pairs_of") (T.at_ 6)
theorem Txt.g_are_pairs (T : Txt K mg) : mg "are_pairs" = some (.ref (He.ga K "are_pairs")) := by
  obtain ⟨_, X, G⟩ := T.ex
  exact He.glo_ok X G (x := "are_pairs") (T.at_ 7)
theorem Txt.g_read_series (T : Txt K mg) : mg "read_series" = some (.ref (He.ga K "read_series")) := by
  obtain ⟨_, X, G⟩ := T.ex
  exact He.glo_ok X G (x := "read_series") (T.at_ 8)
theorem Txt.g_check_series (T : Txt K mg) : mg "check_series" = some (.ref (He.ga K "check_series")) := by
  obtain ⟨_, X, G⟩ := T.ex
  exact He.glo_ok X G (x := "check_series") (T.at_ 9)
theorem Txt.g_check_series_list (T : Txt K mg) : mg "check_series_list" = some (.ref (He.ga K "check_series_list")) := by
  obtain ⟨_, X, G⟩ := T.ex
  exact He.glo_ok X G (x := "check_series_list") (T.at_ 10)
theorem Txt.g_in_order (T : Txt K mg) : mg "in_order" = some (.ref (He.ga K "in_order")) := by
  obtain ⟨_, X, G⟩ := T.ex
  exact He.glo_ok X G (x := "in_order") (T.at_ 11)
theorem Txt.g_word_of (T : Txt K mg) : mg "word_of" = some (.ref (He.ga K "word_of")) := by
  obtain ⟨_, X, G⟩ := T.ex
  exact He.glo_ok X G (x := "word_of") (T.at_ 12)
theorem Txt.g_read_test (T : Txt K mg) : mg "read_test" = some (.ref (He.ga K "read_test")) := by
  obtain ⟨_, X, G⟩ := T.ex
  exact He.glo_ok X G (x := "read_test") (T.at_ 13)
theorem Txt.g_read_one (T : Txt K mg) : mg "read_one" = some (.ref (He.ga K "read_one")) := by
  obtain ⟨_, X, G⟩ := T.ex
  exact He.glo_ok X G (x := "read_one") (T.at_ 14)
theorem Txt.g_read_each (T : Txt K mg) : mg "read_each" = some (.ref (He.ga K "read_each")) := by
  obtain ⟨_, X, G⟩ := T.ex
  exact He.glo_ok X G (x := "read_each") (T.at_ 15)
theorem Txt.g_read_any (T : Txt K mg) : mg "read_any" = some (.ref (He.ga K "read_any")) := by
  obtain ⟨_, X, G⟩ := T.ex
  exact He.glo_ok X G (x := "read_any") (T.at_ 16)
theorem Txt.g_means (T : Txt K mg) : mg "means" = some (.ref (He.ga K "means")) := by
  obtain ⟨_, X, G⟩ := T.ex
  exact He.glo_ok X G (x := "means") (T.at_ 17)
theorem Txt.g_check_selection (T : Txt K mg) : mg "check_selection" = some (.ref (He.ga K "check_selection")) := by
  obtain ⟨_, X, G⟩ := T.ex
  exact He.glo_ok X G (x := "check_selection") (T.at_ 18)
theorem Txt.g_chosen (T : Txt K mg) : mg "chosen" = some (.ref (He.ga K "chosen")) := by
  obtain ⟨_, X, G⟩ := T.ex
  exact He.glo_ok X G (x := "chosen") (T.at_ 19)
theorem Txt.g_marks_of (T : Txt K mg) : mg "marks_of" = some (.ref (He.ga K "marks_of")) := by
  obtain ⟨_, X, G⟩ := T.ex
  exact He.glo_ok X G (x := "marks_of") (T.at_ 20)
theorem Txt.g_law_cell (T : Txt K mg) : mg "_law_cell" = some (.ref (He.ga K "_law_cell")) := by
  obtain ⟨_, X, G⟩ := T.ex
  exact He.glo_ok X G (x := "_law_cell") (T.at_ 21)
theorem Txt.g_law_box (T : Txt K mg) : mg "_law_box" = some (.ref (He.ga K "_law_box")) := by
  obtain ⟨_, X, G⟩ := T.ex
  exact He.glo_ok X G (x := "_law_box") (T.at_ 22)
theorem Txt.g_law_take (T : Txt K mg) : mg "_law_take" = some (.ref (He.ga K "_law_take")) := by
  obtain ⟨_, X, G⟩ := T.ex
  exact He.glo_ok X G (x := "_law_take") (T.at_ 23)
theorem Txt.g_law_mixed (T : Txt K mg) : mg "_law_mixed" = some (.ref (He.ga K "_law_mixed")) := by
  obtain ⟨_, X, G⟩ := T.ex
  exact He.glo_ok X G (x := "_law_mixed") (T.at_ 24)
theorem Txt.g_law_parts (T : Txt K mg) : mg "_law_parts" = some (.ref (He.ga K "_law_parts")) := by
  obtain ⟨_, X, G⟩ := T.ex
  exact He.glo_ok X G (x := "_law_parts") (T.at_ 25)
theorem Txt.g_law_is_word (T : Txt K mg) : mg "_law_is_word" = some (.ref (He.ga K "_law_is_word")) := by
  obtain ⟨_, X, G⟩ := T.ex
  exact He.glo_ok X G (x := "_law_is_word") (T.at_ 26)
theorem Txt.g_law_split (T : Txt K mg) : mg "_law_split" = some (.ref (He.ga K "_law_split")) := by
  obtain ⟨_, X, G⟩ := T.ex
  exact He.glo_ok X G (x := "_law_split") (T.at_ 27)
theorem Txt.g_law_read (T : Txt K mg) : mg "_law_read" = some (.ref (He.ga K "_law_read")) := by
  obtain ⟨_, X, G⟩ := T.ex
  exact He.glo_ok X G (x := "_law_read") (T.at_ 28)
theorem Txt.g_law_word (T : Txt K mg) : mg "_law_word" = some (.ref (He.ga K "_law_word")) := by
  obtain ⟨_, X, G⟩ := T.ex
  exact He.glo_ok X G (x := "_law_word") (T.at_ 29)
theorem Txt.g_law_test (T : Txt K mg) : mg "_law_test" = some (.ref (He.ga K "_law_test")) := by
  obtain ⟨_, X, G⟩ := T.ex
  exact He.glo_ok X G (x := "_law_test") (T.at_ 30)
theorem Txt.g_law_written (T : Txt K mg) : mg "_law_written" = some (.ref (He.ga K "_law_written")) := by
  obtain ⟨_, X, G⟩ := T.ex
  exact He.glo_ok X G (x := "_law_written") (T.at_ 31)
theorem Txt.g_law_joined (T : Txt K mg) : mg "_law_joined" = some (.ref (He.ga K "_law_joined")) := by
  obtain ⟨_, X, G⟩ := T.ex
  exact He.glo_ok X G (x := "_law_joined") (T.at_ 32)
theorem Txt.g_law_means (T : Txt K mg) : mg "_law_means" = some (.ref (He.ga K "_law_means")) := by
  obtain ⟨_, X, G⟩ := T.ex
  exact He.glo_ok X G (x := "_law_means") (T.at_ 33)
theorem Txt.g_law_shown (T : Txt K mg) : mg "_law_shown" = some (.ref (He.ga K "_law_shown")) := by
  obtain ⟨_, X, G⟩ := T.ex
  exact He.glo_ok X G (x := "_law_shown") (T.at_ 34)
theorem Txt.g_law_pool (T : Txt K mg) : mg "_law_pool" = some (.ref (He.ga K "_law_pool")) := by
  obtain ⟨_, X, G⟩ := T.ex
  exact He.glo_ok X G (x := "_law_pool") (T.at_ 35)
theorem Txt.g_law_series (T : Txt K mg) : mg "_law_series" = some (.ref (He.ga K "_law_series")) := by
  obtain ⟨_, X, G⟩ := T.ex
  exact He.glo_ok X G (x := "_law_series") (T.at_ 36)
theorem Txt.g_law_texts (T : Txt K mg) : mg "_law_texts" = some (.ref (He.ga K "_law_texts")) := by
  obtain ⟨_, X, G⟩ := T.ex
  exact He.glo_ok X G (x := "_law_texts") (T.at_ 37)
theorem Txt.g_law_inside (T : Txt K mg) : mg "_law_inside" = some (.ref (He.ga K "_law_inside")) := by
  obtain ⟨_, X, G⟩ := T.ex
  exact He.glo_ok X G (x := "_law_inside") (T.at_ 38)
theorem Txt.g_law_word_of (T : Txt K mg) : mg "_law_word_of" = some (.ref (He.ga K "_law_word_of")) := by
  obtain ⟨_, X, G⟩ := T.ex
  exact He.glo_ok X G (x := "_law_word_of") (T.at_ 39)
theorem Txt.g_law_dues (T : Txt K mg) : mg "_law_dues" = some (.ref (He.ga K "_law_dues")) := by
  obtain ⟨_, X, G⟩ := T.ex
  exact He.glo_ok X G (x := "_law_dues") (T.at_ 40)
theorem Txt.g_law_told (T : Txt K mg) : mg "_law_told" = some (.ref (He.ga K "_law_told")) := by
  obtain ⟨_, X, G⟩ := T.ex
  exact He.glo_ok X G (x := "_law_told") (T.at_ 41)
theorem Txt.g_law_spoil (T : Txt K mg) : mg "_law_spoil" = some (.ref (He.ga K "_law_spoil")) := by
  obtain ⟨_, X, G⟩ := T.ex
  exact He.glo_ok X G (x := "_law_spoil") (T.at_ 42)
theorem Txt.g_law_asked_right (T : Txt K mg) : mg "_law_asked_right" = some (.ref (He.ga K "_law_asked_right")) := by
  obtain ⟨_, X, G⟩ := T.ex
  exact He.glo_ok X G (x := "_law_asked_right") (T.at_ 43)
theorem Txt.g_law_do (T : Txt K mg) : mg "_law_do" = some (.ref (He.ga K "_law_do")) := by
  obtain ⟨_, X, G⟩ := T.ex
  exact He.glo_ok X G (x := "_law_do") (T.at_ 44)
theorem Txt.g_law_refused (T : Txt K mg) : mg "_law_refused" = some (.ref (He.ga K "_law_refused")) := by
  obtain ⟨_, X, G⟩ := T.ex
  exact He.glo_ok X G (x := "_law_refused") (T.at_ 45)
theorem Txt.g_law_refused_right (T : Txt K mg) : mg "_law_refused_right" = some (.ref (He.ga K "_law_refused_right")) := by
  obtain ⟨_, X, G⟩ := T.ex
  exact He.glo_ok X G (x := "_law_refused_right") (T.at_ 46)
theorem Txt.g_law_right (T : Txt K mg) : mg "_law_right" = some (.ref (He.ga K "_law_right")) := by
  obtain ⟨_, X, G⟩ := T.ex
  exact He.glo_ok X G (x := "_law_right") (T.at_ 47)
theorem Txt.g_law_many_right (T : Txt K mg) : mg "_law_many_right" = some (.ref (He.ga K "_law_many_right")) := by
  obtain ⟨_, X, G⟩ := T.ex
  exact He.glo_ok X G (x := "_law_many_right") (T.at_ 48)
theorem Txt.g_law (T : Txt K mg) : mg "law" = some (.ref (He.ga K "law")) := by
  obtain ⟨_, X, G⟩ := T.ex
  exact He.glo_ok X G (x := "law") (T.at_ 49)
theorem Txt.g_InvalidName (T : Txt K mg) : mg "InvalidName" = some (.ref (He.ga K "InvalidName")) := by
  obtain ⟨_, X, G⟩ := T.ex
  exact He.glo_ok X G (x := "InvalidName") (T.at_ 50)
theorem Txt.g_InvalidSeries (T : Txt K mg) : mg "InvalidSeries" = some (.ref (He.ga K "InvalidSeries")) := by
  obtain ⟨_, X, G⟩ := T.ex
  exact He.glo_ok X G (x := "InvalidSeries") (T.at_ 51)
theorem Txt.g_InvalidSelection (T : Txt K mg) : mg "InvalidSelection" = some (.ref (He.ga K "InvalidSelection")) := by
  obtain ⟨_, X, G⟩ := T.ex
  exact He.glo_ok X G (x := "InvalidSelection") (T.at_ 52)
theorem Txt.g_InvalidWord (T : Txt K mg) : mg "InvalidWord" = some (.ref (He.ga K "InvalidWord")) := by
  obtain ⟨_, X, G⟩ := T.ex
  exact He.glo_ok X G (x := "InvalidWord") (T.at_ 53)
theorem Txt.g_Parts (T : Txt K mg) : mg "Parts" = some (.ref (He.ga K "Parts")) := by
  obtain ⟨_, X, G⟩ := T.ex
  exact He.glo_ok X G (x := "Parts") (T.at_ 54)
theorem Txt.g_Series (T : Txt K mg) : mg "Series" = some (.ref (He.ga K "Series")) := by
  obtain ⟨_, X, G⟩ := T.ex
  exact He.glo_ok X G (x := "Series") (T.at_ 55)
theorem Txt.g_Test (T : Txt K mg) : mg "Test" = some (.ref (He.ga K "Test")) := by
  obtain ⟨_, X, G⟩ := T.ex
  exact He.glo_ok X G (x := "Test") (T.at_ 56)
theorem Txt.g_Selection (T : Txt K mg) : mg "Selection" = some (.ref (He.ga K "Selection")) := by
  obtain ⟨_, X, G⟩ := T.ex
  exact He.glo_ok X G (x := "Selection") (T.at_ 57)
theorem Txt.g_Index (T : Txt K mg) : mg "Index" = some (.ref (He.ga K "Index")) := by
  obtain ⟨_, X, G⟩ := T.ex
  exact He.glo_ok X G (x := "Index") (T.at_ 58)
theorem Txt.g_GrainError (T : Txt K mg) : mg "GrainError" = some (.ref (He.ga K "GrainError")) := by
  obtain ⟨_, X, G⟩ := T.ex
  exact He.glo_ok X G (x := "GrainError") (T.at_ 59)
theorem Txt.z_len (T : Txt K mg) : mg "len" = none := by
  obtain ⟨_, X, G⟩ := T.ex
  exact He.free_ok X G (x := "len") (T.at_ 60)
theorem Txt.z_isinstance (T : Txt K mg) : mg "isinstance" = none := by
  obtain ⟨_, X, G⟩ := T.ex
  exact He.free_ok X G (x := "isinstance") (T.at_ 61)
theorem Txt.z_str (T : Txt K mg) : mg "str" = none := by
  obtain ⟨_, X, G⟩ := T.ex
  exact He.free_ok X G (x := "str") (T.at_ 62)
theorem Txt.z_list (T : Txt K mg) : mg "list" = none := by
  obtain ⟨_, X, G⟩ := T.ex
  exact He.free_ok X G (x := "list") (T.at_ 63)
theorem Txt.z_tuple (T : Txt K mg) : mg "tuple" = none := by
  obtain ⟨_, X, G⟩ := T.ex
  exact He.free_ok X G (x := "tuple") (T.at_ 64)
theorem Txt.z_dict (T : Txt K mg) : mg "dict" = none := by
  obtain ⟨_, X, G⟩ := T.ex
  exact He.free_ok X G (x := "dict") (T.at_ 65)
theorem Txt.z_all (T : Txt K mg) : mg "all" = none := by
  obtain ⟨_, X, G⟩ := T.ex
  exact He.free_ok X G (x := "all") (T.at_ 66)
theorem Txt.z_any (T : Txt K mg) : mg "any" = none := by
  obtain ⟨_, X, G⟩ := T.ex
  exact He.free_ok X G (x := "any") (T.at_ 67)
theorem Txt.z_sorted (T : Txt K mg) : mg "sorted" = none := by
  obtain ⟨_, X, G⟩ := T.ex
  exact He.free_ok X G (x := "sorted") (T.at_ 68)
theorem Txt.z_enumerate (T : Txt K mg) : mg "enumerate" = none := by
  obtain ⟨_, X, G⟩ := T.ex
  exact He.free_ok X G (x := "enumerate") (T.at_ 69)
theorem Txt.z_int (T : Txt K mg) : mg "int" = none := by
  obtain ⟨_, X, G⟩ := T.ex
  exact He.free_ok X G (x := "int") (T.at_ 70)
theorem Txt.z_abs (T : Txt K mg) : mg "abs" = none := by
  obtain ⟨_, X, G⟩ := T.ex
  exact He.free_ok X G (x := "abs") (T.at_ 71)
theorem Txt.z_sum (T : Txt K mg) : mg "sum" = none := by
  obtain ⟨_, X, G⟩ := T.ex
  exact He.free_ok X G (x := "sum") (T.at_ 72)
theorem Txt.z_range (T : Txt K mg) : mg "range" = none := by
  obtain ⟨_, X, G⟩ := T.ex
  exact He.free_ok X G (x := "range") (T.at_ 73)
theorem Txt.z_max (T : Txt K mg) : mg "max" = none := by
  obtain ⟨_, X, G⟩ := T.ex
  exact He.free_ok X G (x := "max") (T.at_ 74)
theorem Txt.z_min (T : Txt K mg) : mg "min" = none := by
  obtain ⟨_, X, G⟩ := T.ex
  exact He.free_ok X G (x := "min") (T.at_ 75)
theorem Txt.z_set (T : Txt K mg) : mg "set" = none := by
  obtain ⟨_, X, G⟩ := T.ex
  exact He.free_ok X G (x := "set") (T.at_ 76)
theorem Txt.z_repr (T : Txt K mg) : mg "repr" = none := by
  obtain ⟨_, X, G⟩ := T.ex
  exact He.free_ok X G (x := "repr") (T.at_ 77)
theorem Txt.k_LETTERS (T : Txt K mg) : ∃ t, mg "LETTERS" = some (.str "abcdefghijklmnopqrstuvwxyz" t) := by
  obtain ⟨_, X, G⟩ := T.ex
  exact He.str_ok X G (x := "LETTERS") (T.at_ 78)
theorem Txt.k_SIGNS (T : Txt K mg) : ∃ t, mg "SIGNS" = some (.str "abcdefghijklmnopqrstuvwxyz0123456789-" t) := by
  obtain ⟨_, X, G⟩ := T.ex
  exact He.str_ok X G (x := "SIGNS") (T.at_ 79)
theorem Txt.k_MOST_SIGNS (T : Txt K mg) : ∃ t, mg "MOST_SIGNS" = some (.int 24 t) := by
  obtain ⟨_, X, G⟩ := T.ex
  exact He.int_ok X G (x := "MOST_SIGNS") (T.at_ 80)
theorem Txt.k_BLANK (T : Txt K mg) : ∃ t, mg "BLANK" = some (.str " " t) := by
  obtain ⟨_, X, G⟩ := T.ex
  exact He.str_ok X G (x := "BLANK") (T.at_ 81)
theorem Txt.k_END (T : Txt K mg) : ∃ t, mg "END" = some (.str "" t) := by
  obtain ⟨_, X, G⟩ := T.ex
  exact He.str_ok X G (x := "END") (T.at_ 82)
theorem Txt.k_MOST_TAGS (T : Txt K mg) : ∃ t, mg "MOST_TAGS" = some (.int 6 t) := by
  obtain ⟨_, X, G⟩ := T.ex
  exact He.int_ok X G (x := "MOST_TAGS") (T.at_ 83)
theorem Txt.k_NAME (T : Txt K mg) : ∃ t, mg "NAME" = some (.str "name" t) := by
  obtain ⟨_, X, G⟩ := T.ex
  exact He.str_ok X G (x := "NAME") (T.at_ 84)
theorem Txt.k_MOST_PARTS (T : Txt K mg) : ∃ t, mg "MOST_PARTS" = some (.int 40 t) := by
  obtain ⟨_, X, G⟩ := T.ex
  exact He.int_ok X G (x := "MOST_PARTS") (T.at_ 85)
theorem Txt.k_ALL (T : Txt K mg) : ∃ t, mg "ALL" = some (.str "all" t) := by
  obtain ⟨_, X, G⟩ := T.ex
  exact He.str_ok X G (x := "ALL") (T.at_ 86)
theorem Txt.k_NOT (T : Txt K mg) : ∃ t, mg "NOT" = some (.str "!" t) := by
  obtain ⟨_, X, G⟩ := T.ex
  exact He.str_ok X G (x := "NOT") (T.at_ 87)
theorem Txt.k_AND (T : Txt K mg) : ∃ t, mg "AND" = some (.str "&" t) := by
  obtain ⟨_, X, G⟩ := T.ex
  exact He.str_ok X G (x := "AND") (T.at_ 88)
theorem Txt.k_OR (T : Txt K mg) : ∃ t, mg "OR" = some (.str "|" t) := by
  obtain ⟨_, X, G⟩ := T.ex
  exact He.str_ok X G (x := "OR") (T.at_ 89)
theorem Txt.k_FREE (T : Txt K mg) : ∃ t, mg "FREE" = some (.str "" t) := by
  obtain ⟨_, X, G⟩ := T.ex
  exact He.str_ok X G (x := "FREE") (T.at_ 90)
theorem Txt.c_Parts (T : Txt K mg) : Cls K (He.ga K "Parts") := He.cls_ok (x := "Parts") (T.at_ 91)
theorem Txt.n_Parts_row (T : Txt K mg) : NoAttr K (He.ga K "Parts") "row" := He.noat_ok (x := "Parts") (T.at_ 92)
theorem Txt.n_Parts_at (T : Txt K mg) : NoAttr K (He.ga K "Parts") "at" := He.noat_ok (x := "Parts") (T.at_ 93)
theorem Txt.mk_Parts (T : Txt K mg) : Mk K (He.ga K "Parts") (He.ma K (He.ga K "Parts") "__init__") := He.mkr_ok (x := "Parts") (T.at_ 94)
theorem Txt.m_Parts_head (T : Txt K mg) : Meth K (He.ga K "Parts") "head" (He.ma K (He.ga K "Parts") "head") := He.meth_ok (x := "Parts") (T.at_ 95)
theorem Txt.m_Parts_take (T : Txt K mg) : Meth K (He.ga K "Parts") "take" (He.ma K (He.ga K "Parts") "take") := He.meth_ok (x := "Parts") (T.at_ 96)
theorem Txt.m_Parts_took (T : Txt K mg) : Meth K (He.ga K "Parts") "took" (He.ma K (He.ga K "Parts") "took") := He.meth_ok (x := "Parts") (T.at_ 97)
theorem Txt.m_Parts_must (T : Txt K mg) : Meth K (He.ga K "Parts") "must" (He.ma K (He.ga K "Parts") "must") := He.meth_ok (x := "Parts") (T.at_ 98)
theorem Txt.m_Parts_read_name (T : Txt K mg) : Meth K (He.ga K "Parts") "read_name" (He.ma K (He.ga K "Parts") "read_name") := He.meth_ok (x := "Parts") (T.at_ 99)
theorem Txt.m_Parts_must_end (T : Txt K mg) : Meth K (He.ga K "Parts") "must_end" (He.ma K (He.ga K "Parts") "must_end") := He.meth_ok (x := "Parts") (T.at_ 100)
theorem Txt.kp_Parts (T : Txt K mg) : PySem.W.keepIn K (.ref (He.ga K "Parts")) = true := He.keep_ok (x := "Parts") (T.at_ 101)
theorem Txt.c_Series (T : Txt K mg) : Cls K (He.ga K "Series") := He.cls_ok (x := "Series") (T.at_ 102)
theorem Txt.n_Series_name (T : Txt K mg) : NoAttr K (He.ga K "Series") "name" := He.noat_ok (x := "Series") (T.at_ 103)
theorem Txt.n_Series_tags (T : Txt K mg) : NoAttr K (He.ga K "Series") "tags" := He.noat_ok (x := "Series") (T.at_ 104)
theorem Txt.mk_Series (T : Txt K mg) : Mk K (He.ga K "Series") (He.ma K (He.ga K "Series") "__init__") := He.mkr_ok (x := "Series") (T.at_ 105)
theorem Txt.m_Series_text (T : Txt K mg) : Meth K (He.ga K "Series") "text" (He.ma K (He.ga K "Series") "text") := He.meth_ok (x := "Series") (T.at_ 106)
theorem Txt.kp_Series (T : Txt K mg) : PySem.W.keepIn K (.ref (He.ga K "Series")) = true := He.keep_ok (x := "Series") (T.at_ 107)
theorem Txt.c_Test (T : Txt K mg) : Cls K (He.ga K "Test") := He.cls_ok (x := "Test") (T.at_ 108)
theorem Txt.n_Test_key (T : Txt K mg) : NoAttr K (He.ga K "Test") "key" := He.noat_ok (x := "Test") (T.at_ 109)
theorem Txt.n_Test_word (T : Txt K mg) : NoAttr K (He.ga K "Test") "word" := He.noat_ok (x := "Test") (T.at_ 110)
theorem Txt.mk_Test (T : Txt K mg) : Mk K (He.ga K "Test") (He.ma K (He.ga K "Test") "__init__") := He.mkr_ok (x := "Test") (T.at_ 111)
theorem Txt.m_Test_passes (T : Txt K mg) : Meth K (He.ga K "Test") "passes" (He.ma K (He.ga K "Test") "passes") := He.meth_ok (x := "Test") (T.at_ 112)
theorem Txt.kp_Test (T : Txt K mg) : PySem.W.keepIn K (.ref (He.ga K "Test")) = true := He.keep_ok (x := "Test") (T.at_ 113)
theorem Txt.c_Selection (T : Txt K mg) : Cls K (He.ga K "Selection") := He.cls_ok (x := "Selection") (T.at_ 114)
theorem Txt.n_Selection_tree (T : Txt K mg) : NoAttr K (He.ga K "Selection") "tree" := He.noat_ok (x := "Selection") (T.at_ 115)
theorem Txt.mk_Selection (T : Txt K mg) : Mk K (He.ga K "Selection") (He.ma K (He.ga K "Selection") "__init__") := He.mkr_ok (x := "Selection") (T.at_ 116)
theorem Txt.kp_Selection (T : Txt K mg) : PySem.W.keepIn K (.ref (He.ga K "Selection")) = true := He.keep_ok (x := "Selection") (T.at_ 117)
theorem Txt.c_Index (T : Txt K mg) : Cls K (He.ga K "Index") := He.cls_ok (x := "Index") (T.at_ 118)
theorem Txt.n_Index_slots (T : Txt K mg) : NoAttr K (He.ga K "Index") "_slots" := He.noat_ok (x := "Index") (T.at_ 119)
theorem Txt.n_Index_known (T : Txt K mg) : NoAttr K (He.ga K "Index") "_known" := He.noat_ok (x := "Index") (T.at_ 120)
theorem Txt.n_Index_bits (T : Txt K mg) : NoAttr K (He.ga K "Index") "_bits" := He.noat_ok (x := "Index") (T.at_ 121)
theorem Txt.n_Index_all (T : Txt K mg) : NoAttr K (He.ga K "Index") "_all" := He.noat_ok (x := "Index") (T.at_ 122)
theorem Txt.mk_Index (T : Txt K mg) : Mk K (He.ga K "Index") (He.ma K (He.ga K "Index") "__init__") := He.mkr_ok (x := "Index") (T.at_ 123)
theorem Txt.m_Index_put (T : Txt K mg) : Meth K (He.ga K "Index") "put" (He.ma K (He.ga K "Index") "put") := He.meth_ok (x := "Index") (T.at_ 124)
theorem Txt.m_Index_drop (T : Txt K mg) : Meth K (He.ga K "Index") "drop" (He.ma K (He.ga K "Index") "drop") := He.meth_ok (x := "Index") (T.at_ 125)
theorem Txt.m_Index_told (T : Txt K mg) : Meth K (He.ga K "Index") "_told" (He.ma K (He.ga K "Index") "_told") := He.meth_ok (x := "Index") (T.at_ 126)
theorem Txt.m_Index_meant (T : Txt K mg) : Meth K (He.ga K "Index") "_meant" (He.ma K (He.ga K "Index") "_meant") := He.meth_ok (x := "Index") (T.at_ 127)
theorem Txt.m_Index_series (T : Txt K mg) : Meth K (He.ga K "Index") "series" (He.ma K (He.ga K "Index") "series") := He.meth_ok (x := "Index") (T.at_ 128)
theorem Txt.m_Index_chosen (T : Txt K mg) : Meth K (He.ga K "Index") "chosen" (He.ma K (He.ga K "Index") "chosen") := He.meth_ok (x := "Index") (T.at_ 129)
theorem Txt.m_Index_of_tag (T : Txt K mg) : Meth K (He.ga K "Index") "of_tag" (He.ma K (He.ga K "Index") "of_tag") := He.meth_ok (x := "Index") (T.at_ 130)
theorem Txt.m_Index_words (T : Txt K mg) : Meth K (He.ga K "Index") "words" (He.ma K (He.ga K "Index") "words") := He.meth_ok (x := "Index") (T.at_ 131)
theorem Txt.kp_Index (T : Txt K mg) : PySem.W.keepIn K (.ref (He.ga K "Index")) = true := He.keep_ok (x := "Index") (T.at_ 132)
theorem Txt.f_InvalidName_init (T : Txt K mg) : ∃ fd, FunD K "__init__" "InvalidName.__init__" (defArgs s_InvalidName_init) (defBody s_InvalidName_init) (defScope s_InvalidName_init) [] [] (He.ma K (He.ga K "InvalidName") "__init__") fd := T.c.def_ 0 (d := d_InvalidName_init)
theorem Txt.f_InvalidSeries_init (T : Txt K mg) : ∃ fd, FunD K "__init__" "InvalidSeries.__init__" (defArgs s_InvalidSeries_init) (defBody s_InvalidSeries_init) (defScope s_InvalidSeries_init) [] [] (He.ma K (He.ga K "InvalidSeries") "__init__") fd := T.c.def_ 1 (d := d_InvalidSeries_init)
theorem Txt.f_InvalidSelection_init (T : Txt K mg) : ∃ fd, FunD K "__init__" "InvalidSelection.__init__" (defArgs s_InvalidSelection_init) (defBody s_InvalidSelection_init) (defScope s_InvalidSelection_init) [] [] (He.ma K (He.ga K "InvalidSelection") "__init__") fd := T.c.def_ 2 (d := d_InvalidSelection_init)
theorem Txt.f_InvalidWord_init (T : Txt K mg) : ∃ fd, FunD K "__init__" "InvalidWord.__init__" (defArgs s_InvalidWord_init) (defBody s_InvalidWord_init) (defScope s_InvalidWord_init) [] [] (He.ma K (He.ga K "InvalidWord") "__init__") fd := T.c.def_ 3 (d := d_InvalidWord_init)
theorem Txt.f_is_list (T : Txt K mg) : ∃ fd, FunD K "is_list" "is_list" (defArgs s_is_list) (defBody s_is_list) (defScope s_is_list) [] [] (He.ga K "is_list") fd := T.c.def_ 4 (d := d_is_list)
theorem Txt.f_is_file_name (T : Txt K mg) : ∃ fd, FunD K "is_file_name" "is_file_name" (defArgs s_is_file_name) (defBody s_is_file_name) (defScope s_is_file_name) [] [] (He.ga K "is_file_name") fd := T.c.def_ 5 (d := d_is_file_name)
theorem Txt.f_is_word (T : Txt K mg) : ∃ fd, FunD K "is_word" "is_word" (defArgs s_is_word) (defBody s_is_word) (defScope s_is_word) [] [] (He.ga K "is_word") fd := T.c.def_ 6 (d := d_is_word)
theorem Txt.f_is_name (T : Txt K mg) : ∃ fd, FunD K "is_name" "is_name" (defArgs s_is_name) (defBody s_is_name) (defScope s_is_name) [] [] (He.ga K "is_name") fd := T.c.def_ 7 (d := d_is_name)
theorem Txt.f_check_name (T : Txt K mg) : ∃ fd, FunD K "check_name" "check_name" (defArgs s_check_name) (defBody s_check_name) (defScope s_check_name) [] [] (He.ga K "check_name") fd := T.c.def_ 8 (d := d_check_name)
theorem Txt.f_parts_of (T : Txt K mg) : ∃ fd, FunD K "parts_of" "parts_of" (defArgs s_parts_of) (defBody s_parts_of) (defScope s_parts_of) [] [] (He.ga K "parts_of") fd := T.c.def_ 9 (d := d_parts_of)
theorem Txt.f_Parts_init (T : Txt K mg) : ∃ fd, FunD K "__init__" "Parts.__init__" (defArgs s_Parts_init) (defBody s_Parts_init) (defScope s_Parts_init) [] [] (He.ma K (He.ga K "Parts") "__init__") fd := T.c.def_ 10 (d := d_Parts_init)
theorem Txt.f_Parts_head (T : Txt K mg) : ∃ fd, FunD K "head" "Parts.head" (defArgs s_Parts_head) (defBody s_Parts_head) (defScope s_Parts_head) [] [] (He.ma K (He.ga K "Parts") "head") fd := T.c.def_ 11 (d := d_Parts_head)
theorem Txt.f_Parts_take (T : Txt K mg) : ∃ fd, FunD K "take" "Parts.take" (defArgs s_Parts_take) (defBody s_Parts_take) (defScope s_Parts_take) [] [] (He.ma K (He.ga K "Parts") "take") fd := T.c.def_ 12 (d := d_Parts_take)
theorem Txt.f_Parts_took (T : Txt K mg) : ∃ fd, FunD K "took" "Parts.took" (defArgs s_Parts_took) (defBody s_Parts_took) (defScope s_Parts_took) [] [] (He.ma K (He.ga K "Parts") "took") fd := T.c.def_ 13 (d := d_Parts_took)
theorem Txt.f_Parts_must (T : Txt K mg) : ∃ fd, FunD K "must" "Parts.must" (defArgs s_Parts_must) (defBody s_Parts_must) (defScope s_Parts_must) [] [] (He.ma K (He.ga K "Parts") "must") fd := T.c.def_ 14 (d := d_Parts_must)
theorem Txt.f_Parts_read_name (T : Txt K mg) : ∃ fd, FunD K "read_name" "Parts.read_name" (defArgs s_Parts_read_name) (defBody s_Parts_read_name) (defScope s_Parts_read_name) [] [] (He.ma K (He.ga K "Parts") "read_name") fd := T.c.def_ 15 (d := d_Parts_read_name)
theorem Txt.f_Parts_must_end (T : Txt K mg) : ∃ fd, FunD K "must_end" "Parts.must_end" (defArgs s_Parts_must_end) (defBody s_Parts_must_end) (defScope s_Parts_must_end) [] [] (He.ma K (He.ga K "Parts") "must_end") fd := T.c.def_ 16 (d := d_Parts_must_end)
theorem Txt.f_pairs_of (T : Txt K mg) : ∃ fd, FunD K "pairs_of" "pairs_of" (defArgs s_pairs_of) (defBody s_pairs_of) (defScope s_pairs_of) [] [] (He.ga K "pairs_of") fd := T.c.def_ 17 (d := d_pairs_of)
theorem Txt.f_are_pairs (T : Txt K mg) : ∃ fd, FunD K "are_pairs" "are_pairs" (defArgs s_are_pairs) (defBody s_are_pairs) (defScope s_are_pairs) [] [] (He.ga K "are_pairs") fd := T.c.def_ 18 (d := d_are_pairs)
theorem Txt.f_Series_init (T : Txt K mg) : ∃ fd, FunD K "__init__" "Series.__init__" (defArgs s_Series_init) (defBody s_Series_init) (defScope s_Series_init) [.ref (He.dflAt ("Series", some "__init__") 0 K)] [] (He.ma K (He.ga K "Series") "__init__") fd := T.c.def_ 19 (d := d_Series_init)
theorem Txt.f_Series_text (T : Txt K mg) : ∃ fd, FunD K "text" "Series.text" (defArgs s_Series_text) (defBody s_Series_text) (defScope s_Series_text) [] [] (He.ma K (He.ga K "Series") "text") fd := T.c.def_ 20 (d := d_Series_text)
theorem Txt.f_read_series (T : Txt K mg) : ∃ fd, FunD K "read_series" "read_series" (defArgs s_read_series) (defBody s_read_series) (defScope s_read_series) [] [] (He.ga K "read_series") fd := T.c.def_ 21 (d := d_read_series)
theorem Txt.f_check_series (T : Txt K mg) : ∃ fd, FunD K "check_series" "check_series" (defArgs s_check_series) (defBody s_check_series) (defScope s_check_series) [] [] (He.ga K "check_series") fd := T.c.def_ 22 (d := d_check_series)
theorem Txt.f_check_series_list (T : Txt K mg) : ∃ fd, FunD K "check_series_list" "check_series_list" (defArgs s_check_series_list) (defBody s_check_series_list) (defScope s_check_series_list) [] [] (He.ga K "check_series_list") fd := T.c.def_ 23 (d := d_check_series_list)
theorem Txt.f_in_order (T : Txt K mg) : ∃ fd, FunD K "in_order" "in_order" (defArgs s_in_order) (defBody s_in_order) (defScope s_in_order) [] [] (He.ga K "in_order") fd := T.c.def_ 24 (d := d_in_order)
theorem Txt.f_word_of (T : Txt K mg) : ∃ fd, FunD K "word_of" "word_of" (defArgs s_word_of) (defBody s_word_of) (defScope s_word_of) [] [] (He.ga K "word_of") fd := T.c.def_ 25 (d := d_word_of)
theorem Txt.f_Test_init (T : Txt K mg) : ∃ fd, FunD K "__init__" "Test.__init__" (defArgs s_Test_init) (defBody s_Test_init) (defScope s_Test_init) [] [] (He.ma K (He.ga K "Test") "__init__") fd := T.c.def_ 26 (d := d_Test_init)
theorem Txt.f_Test_passes (T : Txt K mg) : ∃ fd, FunD K "passes" "Test.passes" (defArgs s_Test_passes) (defBody s_Test_passes) (defScope s_Test_passes) [] [] (He.ma K (He.ga K "Test") "passes") fd := T.c.def_ 27 (d := d_Test_passes)
theorem Txt.f_read_test (T : Txt K mg) : ∃ fd, FunD K "read_test" "read_test" (defArgs s_read_test) (defBody s_read_test) (defScope s_read_test) [] [] (He.ga K "read_test") fd := T.c.def_ 28 (d := d_read_test)
theorem Txt.f_read_one (T : Txt K mg) : ∃ fd, FunD K "read_one" "read_one" (defArgs s_read_one) (defBody s_read_one) (defScope s_read_one) [] [] (He.ga K "read_one") fd := T.c.def_ 29 (d := d_read_one)
theorem Txt.f_read_each (T : Txt K mg) : ∃ fd, FunD K "read_each" "read_each" (defArgs s_read_each) (defBody s_read_each) (defScope s_read_each) [] [] (He.ga K "read_each") fd := T.c.def_ 30 (d := d_read_each)
theorem Txt.f_read_any (T : Txt K mg) : ∃ fd, FunD K "read_any" "read_any" (defArgs s_read_any) (defBody s_read_any) (defScope s_read_any) [] [] (He.ga K "read_any") fd := T.c.def_ 31 (d := d_read_any)
theorem Txt.f_means (T : Txt K mg) : ∃ fd, FunD K "means" "means" (defArgs s_means) (defBody s_means) (defScope s_means) [] [] (He.ga K "means") fd := T.c.def_ 32 (d := d_means)
theorem Txt.f_Selection_init (T : Txt K mg) : ∃ fd, FunD K "__init__" "Selection.__init__" (defArgs s_Selection_init) (defBody s_Selection_init) (defScope s_Selection_init) [] [] (He.ma K (He.ga K "Selection") "__init__") fd := T.c.def_ 33 (d := d_Selection_init)
theorem Txt.f_check_selection (T : Txt K mg) : ∃ fd, FunD K "check_selection" "check_selection" (defArgs s_check_selection) (defBody s_check_selection) (defScope s_check_selection) [] [] (He.ga K "check_selection") fd := T.c.def_ 34 (d := d_check_selection)
theorem Txt.f_chosen (T : Txt K mg) : ∃ fd, FunD K "chosen" "chosen" (defArgs s_chosen) (defBody s_chosen) (defScope s_chosen) [] [] (He.ga K "chosen") fd := T.c.def_ 35 (d := d_chosen)
theorem Txt.f_marks_of (T : Txt K mg) : ∃ fd, FunD K "marks_of" "marks_of" (defArgs s_marks_of) (defBody s_marks_of) (defScope s_marks_of) [] [] (He.ga K "marks_of") fd := T.c.def_ 36 (d := d_marks_of)
theorem Txt.f_Index_init (T : Txt K mg) : ∃ fd, FunD K "__init__" "Index.__init__" (defArgs s_Index_init) (defBody s_Index_init) (defScope s_Index_init) [] [] (He.ma K (He.ga K "Index") "__init__") fd := T.c.def_ 37 (d := d_Index_init)
theorem Txt.f_Index_put (T : Txt K mg) : ∃ fd, FunD K "put" "Index.put" (defArgs s_Index_put) (defBody s_Index_put) (defScope s_Index_put) [] [] (He.ma K (He.ga K "Index") "put") fd := T.c.def_ 38 (d := d_Index_put)
theorem Txt.f_Index_drop (T : Txt K mg) : ∃ fd, FunD K "drop" "Index.drop" (defArgs s_Index_drop) (defBody s_Index_drop) (defScope s_Index_drop) [] [] (He.ma K (He.ga K "Index") "drop") fd := T.c.def_ 39 (d := d_Index_drop)
theorem Txt.f_Index_told (T : Txt K mg) : ∃ fd, FunD K "_told" "Index._told" (defArgs s_Index_told) (defBody s_Index_told) (defScope s_Index_told) [] [] (He.ma K (He.ga K "Index") "_told") fd := T.c.def_ 40 (d := d_Index_told)
theorem Txt.f_Index_meant (T : Txt K mg) : ∃ fd, FunD K "_meant" "Index._meant" (defArgs s_Index_meant) (defBody s_Index_meant) (defScope s_Index_meant) [] [] (He.ma K (He.ga K "Index") "_meant") fd := T.c.def_ 41 (d := d_Index_meant)
theorem Txt.f_Index_series (T : Txt K mg) : ∃ fd, FunD K "series" "Index.series" (defArgs s_Index_series) (defBody s_Index_series) (defScope s_Index_series) [] [] (He.ma K (He.ga K "Index") "series") fd := T.c.def_ 42 (d := d_Index_series)
theorem Txt.f_Index_chosen (T : Txt K mg) : ∃ fd, FunD K "chosen" "Index.chosen" (defArgs s_Index_chosen) (defBody s_Index_chosen) (defScope s_Index_chosen) [] [] (He.ma K (He.ga K "Index") "chosen") fd := T.c.def_ 43 (d := d_Index_chosen)
theorem Txt.f_Index_of_tag (T : Txt K mg) : ∃ fd, FunD K "of_tag" "Index.of_tag" (defArgs s_Index_of_tag) (defBody s_Index_of_tag) (defScope s_Index_of_tag) [] [] (He.ma K (He.ga K "Index") "of_tag") fd := T.c.def_ 44 (d := d_Index_of_tag)
theorem Txt.f_Index_words (T : Txt K mg) : ∃ fd, FunD K "words" "Index.words" (defArgs s_Index_words) (defBody s_Index_words) (defScope s_Index_words) [] [] (He.ma K (He.ga K "Index") "words") fd := T.c.def_ 45 (d := d_Index_words)
theorem Txt.f_law_cell (T : Txt K mg) : ∃ fd, FunD K "_law_cell" "_law_cell" (defArgs s_law_cell) (defBody s_law_cell) (defScope s_law_cell) [] [] (He.ga K "_law_cell") fd := T.c.def_ 46 (d := d_law_cell)
theorem Txt.f_law_box (T : Txt K mg) : ∃ fd, FunD K "_law_box" "_law_box" (defArgs s_law_box) (defBody s_law_box) (defScope s_law_box) [] [] (He.ga K "_law_box") fd := T.c.def_ 47 (d := d_law_box)
theorem Txt.f_law_take (T : Txt K mg) : ∃ fd, FunD K "_law_take" "_law_take" (defArgs s_law_take) (defBody s_law_take) (defScope s_law_take) [] [] (He.ga K "_law_take") fd := T.c.def_ 48 (d := d_law_take)
theorem Txt.f_law_mixed (T : Txt K mg) : ∃ fd, FunD K "_law_mixed" "_law_mixed" (defArgs s_law_mixed) (defBody s_law_mixed) (defScope s_law_mixed) [] [] (He.ga K "_law_mixed") fd := T.c.def_ 49 (d := d_law_mixed)
theorem Txt.f_law_parts (T : Txt K mg) : ∃ fd, FunD K "_law_parts" "_law_parts" (defArgs s_law_parts) (defBody s_law_parts) (defScope s_law_parts) [] [] (He.ga K "_law_parts") fd := T.c.def_ 50 (d := d_law_parts)
theorem Txt.f_law_is_word (T : Txt K mg) : ∃ fd, FunD K "_law_is_word" "_law_is_word" (defArgs s_law_is_word) (defBody s_law_is_word) (defScope s_law_is_word) [] [] (He.ga K "_law_is_word") fd := T.c.def_ 51 (d := d_law_is_word)
theorem Txt.f_law_split (T : Txt K mg) : ∃ fd, FunD K "_law_split" "_law_split" (defArgs s_law_split) (defBody s_law_split) (defScope s_law_split) [] [] (He.ga K "_law_split") fd := T.c.def_ 52 (d := d_law_split)
theorem Txt.f_law_read (T : Txt K mg) : ∃ fd, FunD K "_law_read" "_law_read" (defArgs s_law_read) (defBody s_law_read) (defScope s_law_read) [] [] (He.ga K "_law_read") fd := T.c.def_ 53 (d := d_law_read)
theorem Txt.f_law_word (T : Txt K mg) : ∃ fd, FunD K "_law_word" "_law_word" (defArgs s_law_word) (defBody s_law_word) (defScope s_law_word) [] [] (He.ga K "_law_word") fd := T.c.def_ 54 (d := d_law_word)
theorem Txt.f_law_test (T : Txt K mg) : ∃ fd, FunD K "_law_test" "_law_test" (defArgs s_law_test) (defBody s_law_test) (defScope s_law_test) [] [] (He.ga K "_law_test") fd := T.c.def_ 55 (d := d_law_test)
theorem Txt.f_law_written (T : Txt K mg) : ∃ fd, FunD K "_law_written" "_law_written" (defArgs s_law_written) (defBody s_law_written) (defScope s_law_written) [] [] (He.ga K "_law_written") fd := T.c.def_ 56 (d := d_law_written)
theorem Txt.f_law_joined (T : Txt K mg) : ∃ fd, FunD K "_law_joined" "_law_joined" (defArgs s_law_joined) (defBody s_law_joined) (defScope s_law_joined) [] [] (He.ga K "_law_joined") fd := T.c.def_ 57 (d := d_law_joined)
theorem Txt.f_law_means (T : Txt K mg) : ∃ fd, FunD K "_law_means" "_law_means" (defArgs s_law_means) (defBody s_law_means) (defScope s_law_means) [] [] (He.ga K "_law_means") fd := T.c.def_ 58 (d := d_law_means)
theorem Txt.f_law_shown (T : Txt K mg) : ∃ fd, FunD K "_law_shown" "_law_shown" (defArgs s_law_shown) (defBody s_law_shown) (defScope s_law_shown) [] [] (He.ga K "_law_shown") fd := T.c.def_ 59 (d := d_law_shown)
theorem Txt.f_law_pool (T : Txt K mg) : ∃ fd, FunD K "_law_pool" "_law_pool" (defArgs s_law_pool) (defBody s_law_pool) (defScope s_law_pool) [] [] (He.ga K "_law_pool") fd := T.c.def_ 60 (d := d_law_pool)
theorem Txt.f_law_series (T : Txt K mg) : ∃ fd, FunD K "_law_series" "_law_series" (defArgs s_law_series) (defBody s_law_series) (defScope s_law_series) [] [] (He.ga K "_law_series") fd := T.c.def_ 61 (d := d_law_series)
theorem Txt.f_law_texts (T : Txt K mg) : ∃ fd, FunD K "_law_texts" "_law_texts" (defArgs s_law_texts) (defBody s_law_texts) (defScope s_law_texts) [] [] (He.ga K "_law_texts") fd := T.c.def_ 62 (d := d_law_texts)
theorem Txt.f_law_inside (T : Txt K mg) : ∃ fd, FunD K "_law_inside" "_law_inside" (defArgs s_law_inside) (defBody s_law_inside) (defScope s_law_inside) [] [] (He.ga K "_law_inside") fd := T.c.def_ 63 (d := d_law_inside)
theorem Txt.f_law_word_of (T : Txt K mg) : ∃ fd, FunD K "_law_word_of" "_law_word_of" (defArgs s_law_word_of) (defBody s_law_word_of) (defScope s_law_word_of) [] [] (He.ga K "_law_word_of") fd := T.c.def_ 64 (d := d_law_word_of)
theorem Txt.f_law_dues (T : Txt K mg) : ∃ fd, FunD K "_law_dues" "_law_dues" (defArgs s_law_dues) (defBody s_law_dues) (defScope s_law_dues) [] [] (He.ga K "_law_dues") fd := T.c.def_ 65 (d := d_law_dues)
theorem Txt.f_law_told (T : Txt K mg) : ∃ fd, FunD K "_law_told" "_law_told" (defArgs s_law_told) (defBody s_law_told) (defScope s_law_told) [] [] (He.ga K "_law_told") fd := T.c.def_ 66 (d := d_law_told)
theorem Txt.f_law_spoil (T : Txt K mg) : ∃ fd, FunD K "_law_spoil" "_law_spoil" (defArgs s_law_spoil) (defBody s_law_spoil) (defScope s_law_spoil) [] [] (He.ga K "_law_spoil") fd := T.c.def_ 67 (d := d_law_spoil)
theorem Txt.f_law_asked_right (T : Txt K mg) : ∃ fd, FunD K "_law_asked_right" "_law_asked_right" (defArgs s_law_asked_right) (defBody s_law_asked_right) (defScope s_law_asked_right) [] [] (He.ga K "_law_asked_right") fd := T.c.def_ 68 (d := d_law_asked_right)
theorem Txt.f_law_do (T : Txt K mg) : ∃ fd, FunD K "_law_do" "_law_do" (defArgs s_law_do) (defBody s_law_do) (defScope s_law_do) [] [] (He.ga K "_law_do") fd := T.c.def_ 69 (d := d_law_do)
theorem Txt.f_law_refused (T : Txt K mg) : ∃ fd, FunD K "_law_refused" "_law_refused" (defArgs s_law_refused) (defBody s_law_refused) (defScope s_law_refused) [] [] (He.ga K "_law_refused") fd := T.c.def_ 70 (d := d_law_refused)
theorem Txt.f_law_refused_right (T : Txt K mg) : ∃ fd, FunD K "_law_refused_right" "_law_refused_right" (defArgs s_law_refused_right) (defBody s_law_refused_right) (defScope s_law_refused_right) [] [] (He.ga K "_law_refused_right") fd := T.c.def_ 71 (d := d_law_refused_right)
theorem Txt.f_law_right (T : Txt K mg) : ∃ fd, FunD K "_law_right" "_law_right" (defArgs s_law_right) (defBody s_law_right) (defScope s_law_right) [] [] (He.ga K "_law_right") fd := T.c.def_ 72 (d := d_law_right)
theorem Txt.f_law_many_right (T : Txt K mg) : ∃ fd, FunD K "_law_many_right" "_law_many_right" (defArgs s_law_many_right) (defBody s_law_many_right) (defScope s_law_many_right) [] [] (He.ga K "_law_many_right") fd := T.c.def_ 73 (d := d_law_many_right)
theorem Txt.f_law (T : Txt K mg) : ∃ fd, FunD K "law" "law" (defArgs s_law) (defBody s_law) (defScope s_law) [] [] (He.ga K "law") fd := T.c.def_ 74 (d := d_law)
end
end Eg
set_option Elab.async false
set_option linter.all false
set_option maxRecDepth 100000
set_option maxHeartbeats 0
namespace Eg
open PySem PySem.Spec PyProof.Rows L2

def loose0 : List PySem.Str := ["_wall", "GrainError", "InvalidText", "InvalidName", "InvalidTags", "InvalidSeries", "InvalidSeriesList", "InvalidSelection", "InvalidWord", "Malformed", "LETTERS", "SIGNS", "MOST_SIGNS", "is_list", "is_file_name", "is_word", "is_name", "check_name", "BLANK", "END", "parts_of", "Parts", "MOST_TAGS", "NAME", "pairs_of", "are_pairs", "Series", "read_series", "check_series", "check_series_list"]
def loose1 : List PySem.Str := ["in_order", "word_of", "MOST_PARTS", "ALL", "NOT", "AND", "OR", "Test", "read_test", "read_one", "read_each", "read_any", "told_within", "means", "Selection", "check_selection", "chosen", "FREE", "marks_of", "Index", "_law_cell", "_law_box", "_law_take", "_law_mixed", "_law_parts", "_law_is_word", "_law_split", "_law_read", "_law_plain", "_law_word"]
def loose2 : List PySem.Str := ["_law_test", "_law_written", "_law_joined", "_law_means", "_law_shown", "_law_pool", "_law_series", "_law_texts", "_law_inside", "_law_word_of", "_law_dues", "_law_told", "_law_spoil", "_law_asked_right", "_law_do", "_law_refused", "_law_refused_right", "_law_right", "_law_many_right"]
def loose : List PySem.Str := loose0 ++ loose1 ++ loose2
abbrev R : PySem.W.OpenRow := PySem.W.OpenLaw.row PySem.Challenge.rw_everygrain_k48_whole_index_by_looking
def as0 : List Addr := [2, 3, 31, 30, 51, 50, 70, 69, 89, 88, 108, 107, 127, 126, 146, 145, 165, 164, 184, 183, 306, 305, 353, 352, 419, 418, 492, 491, 580, 579, 21, 20, 193, 192, 198, 197, 205, 204, 212, 211, 219, 218, 226, 225, 315, 314, 322, 321, 364, 363, 371, 370, 376, 375, 381, 380, 388, 387, 430, 429, 437]
def as1 : List Addr := [436, 444, 443, 451, 450, 456, 455, 461, 460, 503, 502, 508, 507, 513, 512, 591, 590, 598, 597, 605, 604, 612, 611, 619, 618, 624, 623, 631, 630, 636, 635, 641, 640, 648, 647, 655, 654, 662, 661, 669, 668, 674, 673, 679, 678, 686, 685, 691, 690, 696, 695, 701, 700, 708, 707, 713, 712, 720, 719, 727]
def as2 : List Addr := [726, 734, 733, 739, 738, 746, 745, 751, 750, 756, 755, 761, 760, 768, 767, 48, 47, 67, 66, 86, 85, 105, 104, 124, 123, 143, 142, 162, 161, 181, 180, 240, 239, 247, 246, 254, 253, 261, 260, 268, 267, 275, 274, 282, 281, 289, 288, 296, 295, 303, 302, 338, 337, 345, 344, 350, 349, 402, 401, 409]
def as3 : List Addr := [408, 416, 415, 475, 474, 482, 481, 489, 488, 527, 526, 534, 533, 541, 540, 546, 545, 551, 550, 558, 557, 565, 564, 572, 571, 577, 576, 331]
def asL : List Addr := as0 ++ (as1 ++ (as2 ++ (as3)))
/-- what the top is seen to leave at these places -/
def obL (g : Addr → Option Obj) : He.AlD × Bool := (He.obsD fa fn (He.frG g asL), exB (He.frG g asL))
def hk : PySem.W.Hook where
  α := He.AlD × Bool
  obs := fun s => obL s.heap.get?
  val := fun _ => (He.valD fn, true)
  says := fun _ h => ∃ K : PySem.W.Frag, K.In h ∧ He.SaysD fa fn K ∧ exB K = true
  of := fun _ _ e => ⟨_, He.frG_in, congrArg Prod.fst e, congrArg Prod.snd e⟩
  keeps := fun _ _ _ ⟨K, hK, c⟩ k => ⟨K, PySem.W.Frag.In.keeps hK k, c⟩
def ob (s : PySem.W.SharedT) : He.AlD × Bool := obL (HandSHeadRun.getT s)
theorem ob_eq (s : PySem.W.SharedT) : ob s = hk.obs s.abs := by
  have e : HandSHeadRun.getT s = s.abs.heap.get? := funext (HandSHeadRun.getT_eq s)
  unfold ob
  rw [e]
  rfl
theorem run (w : World) : HandSHeadRun.RunEq R (PySem.W.view R.prog [86]) hk ob 6000 loose w := by
  intro os
  kernel_rfl
end Eg
set_option Elab.async false
set_option linter.all false
set_option maxRecDepth 100000
set_option maxHeartbeats 4000000
/-! The law from its call: what the head asks. -/
namespace Eg
open PySem PySem.W PySem.Calls PyProof.Rows
theorem law_plain : (HandSHeadRun.topDef R.prog 86).params.defaults = [] := by kernel_rfl
theorem law_name : (HandSHeadRun.topDef R.prog 86).name = ("law" : PySem.Str) := by kernel_rfl
theorem head_law (called : WalkO (view R.prog [86]) loose (XL (view R.prog [86]) []) hk.says R.toRowW (HandSHeadRun.topDef R.prog 86) [] fun f vs => PySem.call f vs) : PySem.Challenge.rw_everygrain_k48_whole_index_by_looking.Holds := by
  w_on; o_law
  refine HandSHeadRun.head_any (r := R) (q := view R.prog [86]) (H := hk) (ob := ob) (M := 6000) (loose := loose) (d := HandSHeadRun.topDef R.prog 86) (kwd := []) ob_eq
    (by kernel_rfl) (fun s => by kernel_rfl) run (by kernel_rfl) (by kernel_rfl) (by kernel_rfl) (by rfl) (by first | assumption | decide +kernel) (by decide +kernel) ⟨rfl, rfl, rfl, rfl, rfl, by decide +kernel⟩ ?hw called
  case hw => w_witness2
end Eg
namespace Eg
set_option Elab.async false
set_option linter.all false
set_option maxRecDepth 100000
set_option maxHeartbeats 4000000
/-! The frame of every def's proof: what a kept def is, its calls, heaps that grow. -/
section
open PySem PySem.Spec PyProof.Rows L2

/-! ### a def that keeps its promise -/
def StandsAt (K : PySem.W.Frag) (f : Addr) (fd : FuncData) : Prop := ∃ oc od osl, K.lookup f = some ⟨oc, od, .func fd, osl⟩
theorem StandsAt.one {K : PySem.W.Frag} {f : Addr} {fd fd' : FuncData} (a : StandsAt K f fd) (b : StandsAt K f fd') : fd = fd' := by
  obtain ⟨_, _, _, h⟩ := a
  obtain ⟨_, _, _, h'⟩ := b
  rw [h] at h'
  cases h'
  rfl
theorem stands_of {K : PySem.W.Frag} {x qual : Str} {params : Arguments} {body : List Stmt} {scope : Scope} {dvs : List V} {kws : List (Str × V)} {f : Addr} {fd : FuncData} (F : FunD K x qual params body scope dvs kws f fd) : StandsAt K f fd := by
  obtain ⟨oc, od, _, _, _, _, _, _, _, osl, _, lk, _⟩ := F.ex
  exact ⟨oc, od, osl, lk⟩
structure Good (P : Program) (w : World) (K : PySem.W.Frag) (mg : Str → Option Value) (base : Heap) (f : Addr) (k : Nat) (ps : List Str) (sp : Sp) : Prop where
  ex : ∃ fd, FnOk P w K mg base (L2.CX P w) k f fd ps sp ∧ Binds K fd ps [] ∧ StandsAt K f fd
  kp : PySem.W.keepIn K (.ref f) = true
section
variable {P : Program} {w : World} {K : PySem.W.Frag} {mg : Str → Option Value} {base : Heap} {f : Addr} {k : Nat} {ps : List Str} {sp : Sp}
theorem Good.mono {j : Nat} (G : Good P w K mg base f j ps sp) (h : j ≤ k) : Good P w K mg base f k ps sp := by
  obtain ⟨⟨fd, F, b, lk⟩, kp⟩ := G
  exact ⟨⟨fd, F.mono h, b, lk⟩, kp⟩
theorem Good.imp {sp' : Sp} (G : Good P w K mg base f k ps sp) (h : ∀ vs H Q E, sp' vs H Q E → sp vs H Q E) : Good P w K mg base f k ps sp' := by
  obtain ⟨⟨fd, F, b, lk⟩, kp⟩ := G
  exact ⟨⟨fd, F.imp h, b, lk⟩, kp⟩
/-- a def of the text, by its body -/
theorem good_of {x qual : Str} {st : Stmt} {fd : FuncData} {N : List Str} (F : FunD K x qual (defArgs st) (defBody st) (defScope st) [] [] f fd) (S : FnScope N ps (defScope st)) (len : ∀ vs H Q E, sp vs H Q E → vs.length = ps.length)
    (hb : ∀ (kV doc pm : Value) (an : Option Addr) (cdv ct : Value) (us : List Value), us.length = ps.length → bindArgs (PySem.W.fnOf x qual (defArgs st) (defBody st) (defScope st) .none kV doc pm an cdv ct) ⟨us, []⟩ = pure (ps.zip us))
    (hbody : ∀ (cdv : Value) (A : Around) (outer : List Env) (s : Shared) (H : Hp) (vs : List V) (Q : VK) (E : XK), Room k (A.deeper (envOfC qual (defScope st) s.heap.objs.size f cdv)) → sp vs H Q E →
      ∃ t, PSs (cxOf (L2.CX P w) P w K mg base N qual (defScope st) f cdv A outer s H E).nox (defBody st) t ∧ t { nx := fun _ H' => Q .non H', rt := Q } (start N vs) H) : Good P w K mg base f (k + 1) ps sp := by
  refine ⟨⟨fd, F.ok S len fun cdv A outer s H vs Q E hr hsp => ?_, F.bindsN hb, stands_of F⟩, F.kp⟩
  obtain ⟨t, ht, hq⟩ := hbody cdv A outer s H vs Q E hr hsp
  exact ⟨t, ht.nox, hq⟩
/-- .. one that may raise -/
theorem good_ofX {x qual : Str} {st : Stmt} {fd : FuncData} {N : List Str} (F : FunD K x qual (defArgs st) (defBody st) (defScope st) [] [] f fd) (S : FnScope N ps (defScope st)) (len : ∀ vs H Q E, sp vs H Q E → vs.length = ps.length)
    (hb : ∀ (kV doc pm : Value) (an : Option Addr) (cdv ct : Value) (us : List Value), us.length = ps.length → bindArgs (PySem.W.fnOf x qual (defArgs st) (defBody st) (defScope st) .none kV doc pm an cdv ct) ⟨us, []⟩ = pure (ps.zip us))
    (hbody : ∀ (cdv : Value) (A : Around) (outer : List Env) (s : Shared) (H : Hp) (vs : List V) (Q : VK) (E : XK), Room k (A.deeper (envOfC qual (defScope st) s.heap.objs.size f cdv)) → sp vs H Q E →
      ∃ t, PSs (cxOf (L2.CX P w) P w K mg base N qual (defScope st) f cdv A outer s H E) (defBody st) t ∧ t { nx := fun _ H' => Q .non H', rt := Q } (start N vs) H) : Good P w K mg base f (k + 1) ps sp :=
  ⟨⟨fd, F.ok S len fun cdv A outer s H vs Q E hr hsp => hbody cdv A outer s H vs Q E hr hsp, F.bindsN hb, stands_of F⟩, F.kp⟩
end

/-! ### calls -/
section
variable {X : Cx} {k j : Nat} {f C : Addr} {ps : List Str} {sp : Sp} {x m : Str} {p pos apos : Pos} {e o : Expr} {es : List Expr} {ta : TE} {t : TA}
theorem pcall (G : Good X.prog X.w X.K X.mg X.base f k ps sp) (hr : Room j X.A) (hm : X.mg x = some (.ref f)) (ha : PA X (e :: es) t) (hj : k ≤ j := by first | decide | omega) (hg : Gl X x := by rfl)
    (hdb : (x == ("__debug__" : Str)) = false := by decide) (he : starEach (e :: es) X.env = (false, eval e X.env) :: starEach es X.env := by rfl) (hpl : (backTo pos (starEach es X.env)).any (·.1) = false := by rfl) :
    PE X (.Call (.Name x p) (e :: es) [] pos) (tCall sp [] E0 t) := by
  obtain ⟨⟨fd, F, b, lk⟩, kp⟩ := G
  exact pe_call F (hr.mono hj) hg hm kp b .nil passL ha hdb he hpl
theorem pmake {fI : Addr} (M : Mk X.K C fI) (G : Good X.prog X.w X.K X.mg X.base fI k ps sp) (hr : Room (j + 1) X.A) (hm : X.mg x = some (.ref C)) (ha : PA X (e :: es) t) (hj : k ≤ j := by first | decide | omega) (hg : Gl X x := by rfl)
    (hdb : (x == ("__debug__" : Str)) = false := by decide) (he : starEach (e :: es) X.env = (false, eval e X.env) :: starEach es X.env := by rfl) (hpl : (backTo pos (starEach es X.env)).any (·.1) = false := by rfl) :
    PE X (.Call (.Name x p) (e :: es) [] pos) (tMake C sp [] E0 t) := by
  obtain ⟨⟨fd, F, b, lk⟩, kp⟩ := G
  exact pe_make M F (hr.mono (Nat.succ_le_succ hj)) hg hm b .nil passL ha hdb he hpl
theorem pmake0 {fI : Addr} (M : Mk X.K C fI) (G : Good X.prog X.w X.K X.mg X.base fI k ps sp) (hr : Room (j + 1) X.A) (hm : X.mg x = some (.ref C)) (hj : k ≤ j := by first | decide | omega) (hg : Gl X x := by rfl)
    (hdb : (x == ("__debug__" : Str)) = false := by decide) : PE X (.Call (.Name x p) [] [] pos) (tMake C sp [] E0 tNil) := by
  obtain ⟨⟨fd, F, b, lk⟩, kp⟩ := G
  exact pe_make0 M F (hr.mono (Nat.succ_le_succ hj)) hg hm b .nil passL hdb
end
section
variable {X : Cx} {k j : Nat} {f C : Addr} {ps : List Str} {sp : Sp} {m : Str} {pos apos : Pos} {e o : Expr} {es : List Expr} {kws : List Keyword} {ta : TE} {t tk : TA}
/-- what a method's call is, on one line -/
abbrev MCall (X : Cx) (o : Expr) (m : Str) (apos pos : Pos) (es : List Expr) (kws : List Keyword) (pl : Sem Bool) : Prop :=
  eval (.Call (.Attribute o m apos) es kws pos) X.env = (do let v ← eval o X.env; standAt apos.atName; let (g, fst) ← holding [v] (getMethod v m pl); callWith pos g fst (backTo pos (starEach es X.env)) (backToKw pos (keywordEach kws X.env)))
theorem pmeth {pl : Sem Bool} (he : PE X o ta) (c : Cls X.K C) (hm : Meth X.K C m f) (G : Good X.prog X.w X.K X.mg X.base f k ps sp) (hr : Room j X.A) (ha : PA X (e :: es) t) (hj : k ≤ j := by first | decide | omega)
    (hst : starEach (e :: es) X.env = (false, eval e X.env) :: starEach es X.env := by rfl) (hpl : (backTo pos (starEach es X.env)).any (·.1) = false := by rfl) (ht : MCall X o m apos pos (e :: es) [] pl := by rfl) :
    PE X (.Call (.Attribute o m apos) (e :: es) [] pos) (tMeth C m sp [] E0 ta t) := by
  obtain ⟨⟨fd, F, b, lk⟩, kp⟩ := G
  exact pe_meth (pl := pl) he c hm F (hr.mono hj) b .nil passL ha hst hpl ht
theorem pmeth0 {pl : Sem Bool} (he : PE X o ta) (c : Cls X.K C) (hm : Meth X.K C m f) (G : Good X.prog X.w X.K X.mg X.base f k ps sp) (hr : Room j X.A) (hj : k ≤ j := by first | decide | omega) (ht : MCall X o m apos pos [] [] pl := by rfl) :
    PE X (.Call (.Attribute o m apos) [] [] pos) (tMeth C m sp [] E0 ta tNil) := by
  obtain ⟨⟨fd, F, b, lk⟩, kp⟩ := G
  exact pe_meth0 (pl := pl) he c hm F (hr.mono hj) b .nil passL ht
end
/-- an int, a text of the module -/
theorem pe_kint {X : Cx} {x : Str} {i : Int} {pos : Pos} (h : ∃ t, X.mg x = some (.int i t)) (hg : Gl X x := by rfl) (hd : (x == ("__debug__" : Str)) = false := by decide) : PE X (.Name x pos) (tC (.int i)) := by
  obtain ⟨t, h⟩ := h
  exact pe_glob hg h ⟨t, rfl⟩ hd
theorem pe_kstr {X : Cx} {x z : Str} {pos : Pos} (h : ∃ t, X.mg x = some (.str z t)) (hg : Gl X x := by rfl) (hd : (x == ("__debug__" : Str)) = false := by decide) : PE X (.Name x pos) (tC (.str z)) := by
  obtain ⟨t, h⟩ := h
  exact pe_glob hg h ⟨t, rfl⟩ hd
theorem pe_ty {X : Cx} {x : Str} {n : String} {pos : Pos} (hm : X.mg x = none) (hv : bootBuiltins x = some (.type n)) (hg : Gl X x := by rfl) (hn : x ≠ "__name__" := by decide) (hd : (x == ("__debug__" : Str)) = false := by decide) : PE X (.Name x pos) (tC (.ty n)) :=
  pe_bltn hg hm hv rfl hn hd
end
set_option Elab.async false
set_option linter.all false
set_option maxRecDepth 100000
set_option maxHeartbeats 4000000
/-! Heaps that grow, comprehensions, texts. -/
section
open PySem PySem.Spec PyProof.Rows L2
open Evl (Ex given)

/-! ### heaps -/
/-- all that was tracked outside of S is as it was -/
def Exx (S : List Addr) (H H' : Hp) : Prop := ∀ a o, H a = some o → a ∉ S → H' a = some o
theorem Exx.refl (S : List Addr) (H : Hp) : Exx S H H := fun _ _ h _ => h
theorem Exx.trans {S : List Addr} {H H1 H2 : Hp} (a : Exx S H H1) (b : Exx S H1 H2) : Exx S H H2 := fun x o h n => b x o (a x o h n) n
theorem Exx.of {S : List Addr} {H H' : Hp} (e : Ex H H') : Exx S H H' := fun a o h _ => e a o h
theorem Exx.nil {H H' : Hp} (e : Exx [] H H') : Ex H H' := fun a o h => e a o h (by simp)
theorem Exx.mono {S S' : List Addr} {H H' : Hp} (e : Exx S H H') (h : ∀ a ∈ S, a ∈ S') : Exx S' H H' := fun a o q n => e a o q fun z => n (h a z)
theorem Exx.wr {S : List Addr} {H H' : Hp} {p : Addr} {o : HO} (e : Exx S H H') (hp : p ∈ S) : Exx S H (upd H' p o) := fun a u h n => by
  rw [upd_ne (fun z => n (by rw [z]; exact hp))]
  exact e a u h n
theorem Exx.add {S : List Addr} {H H' : Hp} {p : Addr} {o : HO} (e : Exx S H H') (hp : H p = none) : Exx S H (upd H' p o) := fun a u h n => by
  rw [upd_ne (ne_of_none h hp)]
  exact e a u h n
theorem ne_free {H : Hp} {a b : Addr} {o : HO} (h : H a = some o) (h' : H b = none) : b ≠ a := (ne_of_none h h').symm
theorem ex_upd {H H' : Hp} {p : Addr} {o : HO} (e : Ex H H') (h : H p = none) : Ex H (upd H' p o) := Ex.mut e h

/-! ### comprehensions that give values -/
theorem lc_val {J : It} {n : Nat} {G : Hp → Prop} {Y : Nat → Hp → V → Hp → Prop} (w : Walk J n G Y) {g : TG} {tt : TT} {te : TE} {vs : List Nat} {σ : L2.St} {H1 : Hp} {D : Addr} {Qd : Hp → Prop} (f : Nat → Bool) (v : Nat → V)
    (hD : H1 D = none) (hn : n ≤ 100000) (hG : ∀ H, Ex H1 H → G H)
    (hs : ∀ (N : Hp → Prop) (i : Nat) (x : V) (H H' : Hp), i < n → Ex H1 H → Y i H x H' → (f i = false → ∀ H2, Ex H H2 → N H2) →
      (f i = true → ∀ H2, Ex H H2 → ∃ acc, H2 D = some (.lst acc) ∧ acc.length < sizeLine ∧ N (upd H2 D (.lst (acc ++ [v i])))) →
      g x (wipe σ vs) H' fun σ2 H2 => wipe σ2 vs = wipe σ vs ∧ tt σ2 H2 fun b H3 =>
        if b = true then te σ2 H3 fun y H4 => ∃ acc, H4 D = some (.lst acc) ∧ acc.length < sizeLine ∧ N (upd H4 D (.lst (acc ++ [y]))) else N H3)
    (hd : ∀ H, Ex H1 H → H D = some (.lst (given n f v)) → Qd H) :
    ∃ W : Nat → Nat → Hp → Prop, (∃ m, W 0 m (upd H1 D (.lst []))) ∧ ∀ i m H, W i m H →
      (J.stop i H ∧ Qd H) ∨ (J.go i H ∧ ∃ Nx : Hp → Prop, (∀ H', Nx H' → ∃ m', m' < m ∧ W (i + 1) m' H') ∧ ∀ x H', J.yld i H x H' → g x (wipe σ vs) H' fun σ2 H2 => wipe σ2 vs = wipe σ vs ∧ tt σ2 H2 fun b H3 =>
        if b = true then te σ2 H3 fun y H4 => ∃ acc, H4 D = some (.lst acc) ∧ acc.length < sizeLine ∧ Nx (upd H4 D (.lst (acc ++ [y]))) else Nx H3) := by
  refine lc_it w (fun i H => Ex H1 H ∧ H D = some (.lst (given i f v))) ⟨Ex.new hD, upd_same⟩ (fun i H _ p => hG H p.1) (fun i x H H' hi p y => ?_) (fun H p => hd H p.1 p.2)
  refine hs _ i x H H' hi p.1 y (fun hf H2 e => ⟨p.1.trans e, ?_⟩) (fun hf H2 e => ⟨_, e D _ p.2, ?_, Ex.mut (p.1.trans e) hD, ?_⟩)
  · rw [Evl.given_no hf]
    exact e D _ p.2
  · have h1 := Evl.given_len i f v
    have h2 : (100000 : Nat) ≤ sizeLine := Evl.sz_of (Nat.le_refl _)
    omega
  · rw [Evl.given_yes hf]
    exact upd_same
theorem given_map {α : Type} (l : List α) (F : α → Bool) (G : α → V) (f : Nat → Bool) (v : Nat → V) (hf : ∀ i (h : i < l.length), f i = F l[i]) (hv : ∀ i (h : i < l.length), F l[i] = true → v i = G l[i]) :
    given l.length f v = (l.filter F).map G := by
  have key : ∀ n, n ≤ l.length → given n f v = ((l.take n).filter F).map G := by
    intro n
    induction n with
    | zero => intro _; rfl
    | succ n ih =>
      intro hn
      have hlt : n < l.length := hn
      have e1 : l.take (n + 1) = l.take n ++ [l[n]] := (List.take_append_getElem hlt).symm
      rw [e1, List.filter_append, List.map_append, ← ih (Nat.le_of_lt hlt)]
      cases hc : F l[n] with
      | true =>
        rw [Evl.given_yes (by rw [hf n hlt, hc]), hv n hlt hc]
        simp [hc]
      | false =>
        rw [Evl.given_no (by rw [hf n hlt, hc])]
        simp [hc]
  rw [key l.length (Nat.le_refl _), List.take_length]
theorem given_all {α : Type} (l : List α) (G : α → V) (v : Nat → V) (hv : ∀ i (h : i < l.length), v i = G l[i]) : given l.length (fun _ => true) v = l.map G := by
  rw [given_map l (fun _ => true) G _ _ (fun _ _ => rfl) fun i h _ => hv i h, List.filter_eq_self.mpr (fun _ _ => rfl)]

/-- no test -/
theorem yes_ {σ : L2.St} {H : Hp} {A B : Hp → Prop} (h : A H) : tYes σ H (fun b H3 => if b = true then A H3 else B H3) := (if_pos rfl : (if true = true then A H else B H) = A H).mpr h

/-! ### texts -/
abbrev tl (z : Str) : List Nat := z.cps.toList
def SIGNS : Str := "abcdefghijklmnopqrstuvwxyz0123456789-"
def LETTERS : Str := "abcdefghijklmnopqrstuvwxyz"
def isFile (z : Str) : Bool := decide (1 ≤ z.length) && (decide (z.length ≤ 24) && (tl z).all fun c => decide (c ∈ tl SIGNS))
def hd0 (z : Str) : Nat := (tl z).headD 0
def isWord (z : Str) : Bool := isFile z && decide (hd0 z ≠ 45)
def isName (z : Str) : Bool := isFile z && decide (hd0 z ∈ tl LETTERS)
theorem len_tl (z : Str) : z.length = (tl z).length := by simp [tl, Str.length]
theorem sz100k {n : Nat} (h : n ≤ 100000) : n ≤ sizeLine := Evl.sz_of h
theorem isFile_len {z : Str} (h : isFile z = true) : 1 ≤ z.length ∧ z.length ≤ 24 := by
  unfold isFile at h
  simp only [Bool.and_eq_true, decide_eq_true_eq] at h
  exact ⟨h.1, h.2.1⟩
theorem isWord_file {z : Str} (h : isWord z = true) : isFile z = true := by
  unfold isWord at h
  simp only [Bool.and_eq_true] at h
  exact h.1
theorem isName_file {z : Str} (h : isName z = true) : isFile z = true := by
  unfold isName at h
  simp only [Bool.and_eq_true] at h
  exact h.1
/-- a value that is no text -/
def NoStr (K : PySem.W.Frag) (H : Hp) (v : V) : Prop := ∃ n, TyX K H v (.type n) ∧ kitB n "str" = some false
end
set_option Elab.async false
set_option linter.all false
set_option maxRecDepth 100000
set_option maxHeartbeats 4000000
/-! Readings, one step a lemma. -/
section
open PySem PySem.Spec PyProof.Rows L2
open Evl (Ex given)
section
variable {K : PySem.W.Frag} {σ : L2.St} {H : Hp} {Q : VK} {QB : Bool → Hp → Prop} {QA : List V → Hp → Prop} {i : Nat} {v x y : V} {ta tb te tx : TE} {t u c : TT} {tr tr' : TA} {r : R2} {D : Ends} {ts tw : TS} {g : TG} {b : Bool}
theorem r_var (h : σ[i]? = some (some v)) (q : Q v H) : tVar i σ H Q := ⟨v, h, q⟩
theorem r_c (q : Q v H) : tC v σ H Q := q
theorem r_op (h : ta σ H fun x H1 => tb σ H1 fun y H2 => r x y H2 Q) : tOp r ta tb σ H Q := h
theorem r_un {r : V → Hp → VK → Prop} (h : ta σ H fun x H1 => r x H1 Q) : tUn r ta σ H Q := h
theorem r_neg {i : Int} (q : Q (.int (-i)) H) : rU (fun i => .int (-i)) (.int i) H Q := ⟨i, rfl, q⟩
theorem r_nil (q : QA [] H) : tNil σ H QA := q
theorem r_cons (h : ta σ H fun x H1 => tr σ H1 fun xs H2 => QA (x :: xs) H2) : tCons ta tr σ H QA := h
theorem r_cb {r : List V → Hp → VK → Prop} (h : tr σ H fun vs H1 => r vs H1 Q) : tCB r tr σ H Q := h
theorem r_call {sp : Sp} {E : XK} (h : tr σ H fun vs H1 => sp vs H1 Q E) : tCall sp [] E tr σ H Q := by
  have e : (fun (vs : List V) (H1 : Hp) => sp (vs ++ []) H1 Q E) = fun vs H1 => sp vs H1 Q E := by
    funext vs H1
    rw [List.append_nil]
  show tr σ H (fun vs H1 => sp (vs ++ []) H1 Q E)
  rw [e]
  exact h
/-- a method: where the object stands -/
def IsIns (C : Addr) (m : Str) (x : V) (H : Hp) : Prop := ∃ a dx fs, x = .ref a ∧ H a = some (.ins C dx fs) ∧ fs.lookup m = none
theorem is_ins {C a dx : Addr} {m : Str} {fs : List (Str × V)} (h : H a = some (.ins C dx fs)) (n : fs.lookup m = none) : IsIns C m (.ref a) H := ⟨a, dx, fs, rfl, h, n⟩
theorem r_meth {C : Addr} {m : Str} {sp : Sp} {E : XK} (h : ta σ H fun x H1 => IsIns C m x H1 ∧ tr σ H1 fun vs H2 => sp (x :: vs) H2 Q E) : tMeth C m sp [] E ta tr σ H Q := by
  have e : (fun (x : V) (H1 : Hp) => ∃ a dx fs, x = .ref a ∧ H1 a = some (.ins C dx fs) ∧ fs.lookup m = none ∧ tr σ H1 fun vs H2 => sp (x :: (vs ++ [])) H2 Q E) = fun x H1 => IsIns C m x H1 ∧ tr σ H1 fun vs H2 => sp (x :: vs) H2 Q E := by
    funext x H1
    have e1 : (fun (vs : List V) (H2 : Hp) => sp (x :: (vs ++ [])) H2 Q E) = fun vs H2 => sp (x :: vs) H2 Q E := by
      funext vs H2
      rw [List.append_nil]
    rw [e1]
    apply propext
    constructor
    · rintro ⟨a, dx, fs, h1, h2, h3, h4⟩
      exact ⟨⟨a, dx, fs, h1, h2, h3⟩, h4⟩
    · rintro ⟨⟨a, dx, fs, h1, h2, h3⟩, h4⟩
      exact ⟨a, dx, fs, h1, h2, h3, h4⟩
  show ta σ H (fun (x : V) (H1 : Hp) => ∃ a dx fs, x = .ref a ∧ H1 a = some (.ins C dx fs) ∧ fs.lookup m = none ∧ tr σ H1 fun vs H2 => sp (x :: (vs ++ [])) H2 Q E)
  rw [e]
  exact h
theorem r_make {C : Addr} {sp : Sp} {E : XK} (h : tr σ H fun vs H1 => ∀ x dx, H1 x = none → H1 dx = none → dx ≠ x → sp (.ref x :: vs) (upd (upd H1 dx (.own x)) x (.ins C dx [])) (fun v H2 => v = .non ∧ Q (.ref x) H2) E) : tMake C sp [] E tr σ H Q := by
  have e : (fun (vs : List V) (H1 : Hp) => ∀ x dx, H1 x = none → H1 dx = none → dx ≠ x → sp (.ref x :: (vs ++ [])) (upd (upd H1 dx (.own x)) x (.ins C dx [])) (fun v H2 => v = .non ∧ Q (.ref x) H2) E) =
      fun vs H1 => ∀ x dx, H1 x = none → H1 dx = none → dx ≠ x → sp (.ref x :: vs) (upd (upd H1 dx (.own x)) x (.ins C dx [])) (fun v H2 => v = .non ∧ Q (.ref x) H2) E := by
    funext vs H1
    rw [List.append_nil]
  show tr σ H (fun (vs : List V) (H1 : Hp) => ∀ x dx, H1 x = none → H1 dx = none → dx ≠ x → sp (.ref x :: (vs ++ [])) (upd (upd H1 dx (.own x)) x (.ins C dx [])) (fun v H2 => v = .non ∧ Q (.ref x) H2) E)
  rw [e]
  exact h
theorem r_tup (h : tr σ H fun xs H1 => xs.length ≤ sizeLine ∧ ∀ p, H1 p = none → Q (.ref p) (upd H1 p (.tup xs))) : tTup tr σ H Q := h
theorem r_lst (h : tr σ H fun xs H1 => xs.length ≤ sizeLine ∧ ∀ p, H1 p = none → Q (.ref p) (upd H1 p (.lst xs))) : tLst tr σ H Q := h
theorem r_dnew (h : ∀ p, H p = none → Q (.ref p) (upd H p (.dK []))) : tDNewK σ H Q := h
theorem r_I0 {gi : Int → Int → V} {i j : Int} (q : Q (gi i j) H) : rI0 gi (.int i) (.int j) H Q := ⟨i, j, rfl, rfl, q⟩
theorem r_I {C : Int → Int → Prop} {gi : Int → Int → V} {i j : Int} (hc : C i j) (q : Q (gi i j) H) : rI C gi (.int i) (.int j) H Q := ⟨i, j, rfl, rfl, hc, q⟩
theorem r_eq (h : scal x y = true) (q : Q (.bl (decide (x = y))) H) : rEq x y H Q := ⟨h, q⟩
theorem r_ne (h : scal x y = true) (q : Q (.bl (!decide (x = y))) H) : rNe x y H Q := ⟨h, q⟩
theorem r_ixL {p : Addr} {xs : List V} {i : Int} (h : SqL K H p xs) (ha : atI xs i = some v) (q : Q v H) : rIxL K (.ref p) (.int i) H Q := ⟨p, xs, i, v, rfl, rfl, h, ha, q⟩
theorem r_ixT {p : Addr} {xs : List V} {i : Int} (h : SqT K H p xs) (ha : atI xs i = some v) (q : Q v H) : rIxT K (.ref p) (.int i) H Q := ⟨p, xs, i, v, rfl, rfl, h, ha, q⟩
theorem r_ixS {z : Str} {i : Int} {ch : Nat} (hz : z.length ≤ 100000) (ha : atI z.cps.toList i = some ch) (q : Q (.str ⟨#[ch]⟩) H) : rIxS (.str z) (.int i) H Q := ⟨z, i, ch, rfl, rfl, sz100k hz, ha, q⟩
theorem r_fld {C : Addr} {f : Str} (h : ta σ H fun x H1 => ∃ a C dx fs v, x = .ref a ∧ H1 a = some (.ins C dx fs) ∧ Cls K C ∧ NoAttr K C f ∧ fs.lookup f = some v ∧ Q v H1) : tFld K ta f σ H Q := h
/-- an attribute, read -/
def AtF (K : PySem.W.Frag) (f : Str) (x : V) (H : Hp) (v : V) : Prop := ∃ a C dx fs, x = .ref a ∧ H a = some (.ins C dx fs) ∧ Cls K C ∧ NoAttr K C f ∧ fs.lookup f = some v
theorem at_f {a C dx : Addr} {f : Str} {fs : List (Str × V)} (h : H a = some (.ins C dx fs)) (c : Cls K C) (n : NoAttr K C f) (l : fs.lookup f = some v) : AtF K f (.ref a) H v := ⟨a, C, dx, fs, rfl, h, c, n, l⟩
theorem r_fldV {a : Addr} {f : Str} {v : V} (h1 : σ[i]? = some (some (.ref a))) (h : AtF K f (.ref a) H v) (q : Q v H) : tFld K (tVar i) f σ H Q := by
  obtain ⟨a', C, dx, fs, e, h2, h3, h4, h5⟩ := h
  exact ⟨_, h1, a', C, dx, fs, v, e, h2, h3, h4, h5, q⟩
theorem r_ifE (h : t σ H fun b H1 => if b = true then ta σ H1 Q else tb σ H1 Q) : tIf t ta tb σ H Q := h
theorem r_andV (h : ta σ H fun x H1 => ∃ c, x = .bl c ∧ if c = true then tb σ H1 Q else Q (.bl false) H1) : tAndV ta tb σ H Q := h
theorem r_orV (h : ta σ H fun x H1 => ∃ c, x = .bl c ∧ if c = true then Q (.bl true) H1 else tb σ H1 Q) : tOrV ta tb σ H Q := h
theorem r_notV (h : ta σ H fun x H1 => ∃ c, x = .bl c ∧ Q (.bl (!c)) H1) : tNotV ta σ H Q := h
theorem r_test (h : te σ H fun x H1 => ∃ k, x = .bl k ∧ QB k H1) : tTest te σ H QB := h
theorem r_B (h : te σ H fun x H1 => ∃ k, x = .bl k ∧ QB k H1) : tB te σ H QB := h
theorem r_and (h : t σ H fun c H1 => if c = true then u σ H1 QB else QB false H1) : tAnd t u σ H QB := h
theorem r_or (h : t σ H fun c H1 => if c = true then QB true H1 else u σ H1 QB) : tOr t u σ H QB := h
theorem r_not (h : t σ H fun c H1 => QB (!c) H1) : tNot t σ H QB := h
theorem r_yes (h : QB true H) : tYes σ H QB := h
theorem x_bl {R : Bool → Prop} (h : R b) : ∃ c, V.bl b = .bl c ∧ R c := ⟨b, rfl, h⟩
/-! statements -/
theorem r_seq (h : ts { D with nx := tw D } σ H) : tSeq ts tw D σ H := h
theorem r_next (h : D.nx σ H) : tNext D σ H := h
theorem r_cont (h : D.ct σ H) : tCont D σ H := h
theorem r_ret (h : te σ H D.rt) : tRet te D σ H := h
theorem r_retN (h : D.rt .non H) : tRetN D σ H := h
theorem r_asg (h : te σ H fun x H1 => g x σ H1 D.nx) : tAsg te g D σ H := h
theorem r_gname {q : L2.St → Hp → Prop} (h : q (σ.set i (some v)) H) : gName i v σ H q := h
theorem r_drop (h : te σ H fun _ H1 => D.nx σ H1) : tDrop te D σ H := h
theorem r_ifs (h : c σ H fun b H1 => if b = true then ts D σ H1 else tw D σ H1) : tIfS c ts tw D σ H := h
theorem r_par {i j : Nat} (h : tr σ H fun vs H1 => ∃ v w, vs = [v, w] ∧ D.nx ((σ.set i (some v)).set j (some w)) H1) : tPar i j tr D σ H := h
theorem x_two {a b : V} {R : V → V → Prop} (h : R a b) : ∃ v w, [a, b] = [v, w] ∧ R v w := ⟨a, b, rfl, h⟩
theorem r_sfld {f : Str} (h : tb σ H fun y H1 => ta σ H1 fun x H2 => ∃ a C dx fs, x = .ref a ∧ H2 a = some (.ins C dx fs) ∧ Cls K C ∧ NoAttr K C f ∧ fs.length < 1000 ∧ D.nx σ (upd H2 a (.ins C dx (putF f y fs)))) : sFld K ta tb f D σ H := h
theorem r_aug {j : Nat} {ti : TIp} (h1 : σ[j]? = some (some x)) (h : te σ H fun y H1 => ti x y H1 fun z H2 => D.nx (σ.set j (some z)) H2) : tAug j te ti D σ H := ⟨x, h1, h⟩
end
end
set_option Elab.async false
set_option linter.all false
set_option maxRecDepth 100000
set_option maxHeartbeats 4000000
/-! Further readings by name. -/
section
open PySem PySem.Spec PyProof.Rows L2
open Evl (Ex given)
section
variable {X : Cx} {K : PySem.W.Frag} {σ : L2.St} {H : Hp} {Q : VK} {QB : Bool → Hp → Prop} {QA : List V → Hp → Prop} {i : Nat} {v x y : V} {ta tb te tx : TE} {t u c : TT} {tr tr' : TA} {r : R2} {D : Ends} {ts tw : TS} {g : TG} {b : Bool}
/-- len -/
def nLen (K : PySem.W.Frag) : List V → Hp → VK → Prop := fun xs H Q => ∃ x n, xs = [x] ∧ LenV K x H n ∧ Q (.int n) H
theorem call_lenN : CallR X (.builtin "len") (nLen X.K) := call_len
theorem r_lenS {z : Str} (hz : z.length ≤ 100000) (q : Q (.int (z.length : Nat)) H) : nLen K [.str z] H Q := ⟨_, _, rfl, ⟨sz100k hz, rfl⟩, q⟩
theorem r_lenL {a : Addr} {xs : List V} (h : SqL K H a xs) (q : Q (.int (xs.length : Nat)) H) : nLen K [.ref a] H Q := ⟨_, _, rfl, .inl ⟨xs, h, rfl⟩, q⟩
theorem r_lenT {a : Addr} {xs : List V} (h : SqT K H a xs) (q : Q (.int (xs.length : Nat)) H) : nLen K [.ref a] H Q := ⟨_, _, rfl, .inr ⟨xs, h, rfl⟩, q⟩
/-- texts + -/
def nAddS : R2 := fun x y H Q => ∃ i j, x = .str i ∧ y = .str j ∧ i.length + j.length ≤ sizeLine ∧ Q (.str (i ++ j)) H
theorem op_addS : OpR X (binaryOp .Add) nAddS := op_add_str
theorem ip_addS : PIp X .Add nAddS := iop_add_str
theorem r_addS {z z' : Str} (h : z.length + z'.length ≤ 1000000) (q : Q (.str (z ++ z')) H) : nAddS (.str z) (.str z') H Q := ⟨z, z', rfl, rfl, Nat.le_trans h (by decide), q⟩
theorem r_inS {ch : Nat} {z : Str} (q : Q (.bl (decide (ch ∈ z.cps.toList))) H) : rInS (.str ⟨#[ch]⟩) (.str z) H Q := ⟨ch, z, rfl, rfl, q⟩
theorem r_ninS {ch : Nat} {z : Str} (q : Q (.bl (!decide (ch ∈ z.cps.toList))) H) : rNotInS (.str ⟨#[ch]⟩) (.str z) H Q := ⟨ch, z, rfl, rfl, q⟩
theorem r_isN (q : Q (.bl (decide (x = .non))) H) : rIsN x .non H Q := ⟨rfl, q⟩
theorem r_notN (q : Q (.bl (!decide (x = .non))) H) : rNotN x .non H Q := ⟨rfl, q⟩
/-- fields -/
theorem r_fldA {f : Str} (h : ta σ H fun x H1 => ∃ v, AtF K f x H1 v ∧ Q v H1) : tFld K ta f σ H Q := by
  have e : (fun (x : V) (H1 : Hp) => ∃ a C dx fs v, x = .ref a ∧ H1 a = some (.ins C dx fs) ∧ Cls K C ∧ NoAttr K C f ∧ fs.lookup f = some v ∧ Q v H1) = fun x H1 => ∃ v, AtF K f x H1 v ∧ Q v H1 := by
    funext x H1
    apply propext
    constructor
    · rintro ⟨a, C, dx, fs, v, h1, h2, h3, h4, h5, h6⟩
      exact ⟨v, ⟨a, C, dx, fs, h1, h2, h3, h4, h5⟩, h6⟩
    · rintro ⟨v, ⟨a, C, dx, fs, h1, h2, h3, h4, h5⟩, h6⟩
      exact ⟨a, C, dx, fs, v, h1, h2, h3, h4, h5, h6⟩
  show ta σ H (fun (x : V) (H1 : Hp) => ∃ a C dx fs v, x = .ref a ∧ H1 a = some (.ins C dx fs) ∧ Cls K C ∧ NoAttr K C f ∧ fs.lookup f = some v ∧ Q v H1)
  rw [e]
  exact h
theorem x_at {f : Str} {R : V → Prop} (h : AtF K f x H v) (q : R v) : ∃ v, AtF K f x H v ∧ R v := ⟨v, h, q⟩
/-- a method of a list, of a text -/
theorem r_bm {T : String} {r : V → List V → Hp → VK → Prop} (h : ta σ H fun x H1 => tyV K T x H1 ∧ tr σ H1 fun xs H2 => r x xs H2 Q) : tBM K T r ta tr σ H Q := h
theorem x_tyL {a : Addr} {xs : List V} {R : Prop} (h : SqL K H a xs) (q : R) : tyV K "list" (.ref a) H ∧ R := ⟨.inl ⟨rfl, xs, h⟩, q⟩
theorem r_append {l : Addr} {xs : List V} (h : H l = some (.lst xs)) (hz : xs.length < 100000) (q : Q .non (upd H l (.lst (xs ++ [y])))) : rAppend (.ref l) [y] H Q := ⟨l, xs, y, rfl, rfl, h, Evl.sz_lt hz, q⟩
theorem r_for {wi : TI} (h : wi σ H fun J H1 => ∃ W : Nat → Nat → L2.St → Hp → Prop, (∃ m, W 0 m σ H1) ∧ ∀ i m σ H, W i m σ H → (J.stop i H ∧ D.nx σ H) ∨ (J.go i H ∧ ∃ N : L2.St → Hp → Prop, (∀ σ' H', N σ' H' → ∃ m', m' < m ∧ W (i + 1) m' σ' H') ∧ ∀ x H', J.yld i H x H' → g x σ H' fun σ2 H2 => ts { D with nx := N, ct := N, bk := D.nx } σ2 H2)) : tFor wi g ts D σ H := h
theorem i_str {R : It → Hp → Prop} (h : te σ H fun v H1 => ∃ x, v = .str x ∧ R (Its x) H1) : iStr te σ H R := h
theorem x_str {z : Str} {R : Str → Prop} (h : R z) : ∃ x, V.str z = .str x ∧ R x := ⟨z, rfl, h⟩
theorem x_sz {n : Nat} {R : Prop} (h : n ≤ 100000) (q : R) : n ≤ sizeLine ∧ R := ⟨sz100k h, q⟩
/-- attributes by name -/
theorem lk_hd {f : Str} {v : V} {fs : List (Str × V)} : ((f, v) :: fs).lookup f = some v := by simp [List.lookup]
theorem lk_tl {f h : Str} {v : V} {fs : List (Str × V)} (n : (f == h) = false) : ((h, v) :: fs).lookup f = fs.lookup f := by simp [List.lookup, n]
theorem pf_nil {f : Str} {v : V} : putF f v [] = [(f, v)] := rfl
theorem pf_hd {f : Str} {v w : V} {fs : List (Str × V)} : putF f v ((f, w) :: fs) = (f, v) :: fs := by
  show (if f = f then _ else _) = _
  rw [if_pos rfl]
theorem pf_tl {f h : Str} {v w : V} {fs : List (Str × V)} (n : ¬ h = f) : putF f v ((h, w) :: fs) = (h, w) :: putF f v fs := by
  show (if h = f then _ else _) = _
  rw [if_neg n]
end
theorem ex_at {H H' : Hp} {a : Addr} {o : HO} (e : Ex H H') (h : H a = some o) : H' a = some o := e a o h
theorem iteNf {A B : Prop} (h : A) : if (!false) = true then A else B := iteT h
theorem iteNt {A B : Prop} (h : B) : if (!true) = true then A else B := iteF h
/-- a text of codes -/
def S (l : List Nat) : Str := ⟨l.toArray⟩
theorem tl_S (l : List Nat) : tl (S l) = l := rfl
theorem S_tl (z : Str) : S (tl z) = z := TL.mk_tl z
theorem S_inj {a b : List Nat} (h : S a = S b) : a = b := by
  have := congrArg tl h
  exact this
theorem S_app (a b : List Nat) : S a ++ S b = S (a ++ b) := TL.ext_tl (by rw [TL.tl_append]; rfl)
theorem S_len (l : List Nat) : (S l).length = l.length := len_tl _
end
set_option Elab.async false
set_option linter.all false
set_option maxRecDepth 100000
set_option maxHeartbeats 4000000
/-! shapes: names and words. -/
open PySem PySem.Spec PyProof.Rows L2
open Evl (Ex given)
local macro_rules | `(tactic| walk_at "ne") => `(tactic| first
  | assumption
  | exact Ne.symm (by assumption)
  | exact ne_of_none (by assumption) (by assumption)
  | exact Ne.symm (ne_of_none (by assumption) (by assumption))
  | exact ne_of (by assumption) (by assumption) (by intro z; cases z))
local macro_rules | `(tactic| walk_at "hp") => `(tactic| first
  | assumption
  | exact upd_same
  | ((with_reducible refine' Eq.trans (upd_ne ?hn) ?hr); (case hn => walk_at "ne"); (case hr => walk_at "hp"))
  | ((with_reducible refine' ex_at ?hn ?hr); (case hn => assumption); (case hr => walk_at "hp")))
local macro_rules | `(tactic| walk_at "sq") => `(tactic| first | assumption | ((with_reducible apply SqL.of); walk_at "hp") | ((with_reducible apply SqT.of); walk_at "hp"))
local macro_rules | `(tactic| walk_at "v1") => `(tactic| first
  | ((with_reducible refine' r_var ?hv ?_); (case hv => exact rfl))
  | (with_reducible refine r_c ?_) | (with_reducible refine r_op ?_) | (with_reducible refine r_cons ?_) | (with_reducible refine r_nil ?_) | (with_reducible refine r_cb ?_) | (with_reducible refine r_call ?_) | (with_reducible refine r_un ?_)
  | (with_reducible refine r_seq ?_) | (with_reducible refine r_asg ?_) | (with_reducible refine r_gname ?_) | (with_reducible refine r_ret ?_) | (with_reducible refine r_retN ?_) | (with_reducible refine r_next ?_) | (with_reducible refine r_cont ?_) | (with_reducible refine r_drop ?_) | (with_reducible refine r_ifs ?_) | (with_reducible refine r_par ?_) | (with_reducible refine x_two ?_)
  | (with_reducible refine r_I0 ?_) | (with_reducible refine r_neg ?_) | ((with_reducible refine r_eq ?hv ?_); (case hv => exact rfl)) | ((with_reducible refine r_ne ?hv ?_); (case hv => exact rfl))
  | (with_reducible refine r_test ?_) | (with_reducible refine r_B ?_) | (with_reducible refine r_and ?_) | (with_reducible refine r_or ?_) | (with_reducible refine r_not ?_) | (with_reducible refine r_yes ?_) | (with_reducible refine r_ifE ?_)
  | (with_reducible refine r_andV ?_) | (with_reducible refine r_orV ?_) | (with_reducible refine r_notV ?_) | (with_reducible refine x_bl ?_)
  | (with_reducible refine r_meth ?_) | (with_reducible refine r_make ?_) | (with_reducible refine r_tup ?_) | (with_reducible refine r_lst ?_) | (with_reducible refine r_dnew ?_) | (with_reducible refine r_sfld ?_) | (with_reducible refine r_fldA ?_) | (with_reducible refine iteT ?_) | (with_reducible refine iteF ?_) | (with_reducible refine iteNf ?_) | (with_reducible refine iteNt ?_)
  | ((with_reducible refine' x_at ?hv ?_); (case hv => assumption))
  | ((with_reducible refine' r_lenS ?hv ?_); (case hv => first | assumption | omega)) | ((with_reducible refine' r_lenL ?hv ?_); (case hv => walk_at "sq")) | ((with_reducible refine' r_lenT ?hv ?_); (case hv => walk_at "sq"))
  | (with_reducible refine r_inS ?_) | (with_reducible refine r_ninS ?_) | (with_reducible refine r_isN ?_) | (with_reducible refine r_notN ?_)
  | (with_reducible refine r_bm ?_) | ((with_reducible refine' x_tyL ?hv ?_); (case hv => walk_at "sq")) | (with_reducible refine r_for ?_) | (with_reducible refine i_str ?_) | (with_reducible refine x_str ?_)
  | ((with_reducible refine' x_sz ?hv ?_); (case hv => first | decide | omega | (simp only [List.length_cons, List.length_nil]; omega)))
  | ((with_reducible refine' r_addS ?hv ?_); (case hv => first | assumption | omega))
  | ((with_reducible refine' r_aug ?hv ?_); (case hv => exact rfl)))
local macro_rules | `(tactic| walk_at "v") => `(tactic| (repeat (walk_at "v1")))

section
variable {P : Program} {w : World} {K : PySem.W.Frag} {mg : Str → Option Value} {base : Heap}
abbrev GoodP (P : Program) (w : World) (K : PySem.W.Frag) (mg : Str → Option Value) (base : Heap) (x : Str) (k : Nat) (ps : List Str) (sp : Sp) : Prop := Good P w K mg base (He.ga K x) k ps sp

/-- is_file_name, is_word, is_name: of a text, of another value -/
def spOf (K : PySem.W.Frag) (f : Str → Bool) : Sp := fun vs H Q _ => ∃ v, vs = [v] ∧ ((∃ z, v = .str z ∧ z.length ≤ 100000 ∧ ∀ H', Ex H H' → Q (.bl (f z)) H') ∨ (NoStr K H v ∧ Q (.bl false) H))
theorem sc_is_file_name : FnScope ["value", "sign"] ["value"] (defScope s_is_file_name) := ⟨rfl, rfl, rfl, by decide +kernel, rfl, by decide +kernel, by decide +kernel⟩
theorem ok_is_file_name (T : Txt K mg) : GoodP P w K mg base "is_file_name" 1 ["value"] (spOf K isFile) := by
  obtain ⟨fd, F⟩ := T.f_is_file_name
  refine good_of F sc_is_file_name (fun vs H Q E h => ?_) (fun _ _ _ _ _ _ us hl => match us, hl with | [_], _ => rfl) (fun cdv A outer s H vs Q E hr h => ?_)
  · obtain ⟨v, rfl, _⟩ := h
    rfl
  · obtain ⟨v, rfl, h⟩ := h
    refine ⟨_, (pss_one (ps_ret (pe_and (pe_callB call_isi rfl T.z_isinstance (by decide +kernel) (pa_cons (pv 0) (pa_cons (pe_ty (n := "str") T.z_str (by decide +kernel)) pa_nil))) (pe_and (pe_chain op_le op_le pe_int (pe_callB call_lenN rfl T.z_len (by decide +kernel) (pa_cons (pv 0) pa_nil)) (pe_kint (T.k_MOST_SIGNS))) (pe_one (pe_callB (cr_all rfl) rfl T.z_all (by decide +kernel) (pa_cons (pe_lc (own := [("sign", 1)]) rfl sc_is_file_name.nd (pi_str (pv 0)) (blkOk_by (N := ["value", "sign"]) (sc := defScope s_is_file_name) (by decide +kernel)) (fun _ _ _ _ _ => (pg_name (i := 1) sc_is_file_name.nd rfl (Or.inl rfl))) (fun _ _ _ _ _ => pts_nil) (fun _ _ _ _ _ => (pe_cmpR op_inS (pv 1) (pe_kstr (T.k_SIGNS)) rfl))) pa_nil))))))), ?_⟩
    rcases h with ⟨z, rfl, hz, k⟩ | ⟨⟨n, ty, kb⟩, k⟩
    · refine ⟨_, rfl, _, _, _, _, true, rfl, .ty _, .base (.str z), kit_ty (by decide +kernel), true, rfl, iteT ?_⟩
      refine ⟨_, rfl, _, z.length, rfl, ⟨sz100k hz, rfl⟩, 1, (z.length : Int), rfl, rfl, _, rfl, ?_⟩
      refine ite2 (fun h1 => ?_) (fun h1 => ?_)
      · refine ⟨(z.length : Int), 24, rfl, rfl, _, rfl, ?_⟩
        refine ite2 (fun h2 => ?_) (fun h2 => ?_)
        · refine ⟨_, rfl, z, rfl, fun D hD => ?_⟩
          refine lc_val walk_str (fun _ => true) (fun i => .bl (decide (z.cps.toList.getD i 0 ∈ tl SIGNS))) hD (by have := len_tl z; simp only [Str.length] at hz; exact hz) (fun _ _ => trivial) ?_ (fun H1 e1 hl => ?_)
          · rintro N i x H1 H2 hi e1 ⟨rfl, c, hc, rfl⟩ hno hyes
            refine ⟨rfl, ?_⟩
            refine yes_ ⟨_, rfl, c, SIGNS, rfl, rfl, ?_⟩
            have hv : z.cps.toList.getD i 0 = c := by
              rw [List.getD_eq_getElem?_getD, Array.getElem?_toList, hc]
              rfl
            have q := hyes rfl H2 (Evl.Ex.refl _)
            rw [hv] at q
            exact q
          · have e : given z.cps.size (fun _ => true) (fun i => .bl (decide (z.cps.toList.getD i 0 ∈ tl SIGNS))) = ((tl z).map fun c => decide (c ∈ tl SIGNS)).map V.bl := by
              have e0 : z.cps.size = (tl z).length := by simp [tl]
              rw [e0, given_all (tl z) (fun c => V.bl (decide (c ∈ tl SIGNS))), List.map_map]
              · rfl
              · intro i hi
                rw [List.getD_eq_getElem?_getD, List.getElem?_eq_getElem hi]
                rfl
            rw [e] at hl
            refine ⟨D, _, rfl, SqL.of hl, ?_⟩
            have e2 : (((tl z).map fun c => decide (c ∈ tl SIGNS)).all id) = isFile z := by
              unfold isFile
              rw [List.all_map]
              have a1 : 1 ≤ z.length := by have := of_decide_eq_true h1; omega
              have a2 : z.length ≤ 24 := by have := of_decide_eq_true h2; omega
              rw [decide_eq_true a1, decide_eq_true a2]
              rfl
            rw [e2]
            exact k _ e1
        · have a2 : ¬ z.length ≤ 24 := fun q => h2 (decide_eq_true (by omega))
          have e : isFile z = false := by
            unfold isFile
            rw [decide_eq_false a2]
            simp
          have q := k H (Evl.Ex.refl _)
          rw [e] at q
          exact q
      · have a1 : ¬ 1 ≤ z.length := fun q => h1 (decide_eq_true (by omega))
        have e : isFile z = false := by
          unfold isFile
          rw [decide_eq_false a1]
          simp
        have q := k H (Evl.Ex.refl _)
        rw [e] at q
        refine ⟨false, rfl, iteF ?_⟩
        exact q
    · exact ⟨_, rfl, _, _, _, _, false, rfl, .ty _, ty, kit_ty kb, false, rfl, iteF k⟩
theorem u_of {f : Str → Bool} {z : Str} {H : Hp} {Q : VK} {E : XK} (hz : z.length ≤ 100000) (k : ∀ H', Ex H H' → Q (.bl (f z)) H') : spOf K f [.str z] H Q E := ⟨_, rfl, .inl ⟨z, rfl, hz, k⟩⟩
theorem at0 {z : Str} (h : isFile z = true) : atI z.cps.toList 0 = some (hd0 z) := by
  have h1 := (isFile_len h).1
  rw [len_tl] at h1
  unfold hd0 tl at *
  cases e : z.cps.toList with
  | nil =>
    rw [e] at h1
    exact absurd h1 (by decide)
  | cons c r => exact atI_nat (xs := c :: r) (j := 0) rfl
theorem len_of {f : Str → Bool} (hf : ∀ z, f z = true → isFile z = true) {z : Str} (h : f z = true) : z.length ≤ 24 := (isFile_len (hf z h)).2
theorem sc_is_word : FnScope ["value"] ["value"] (defScope s_is_word) := ⟨rfl, rfl, rfl, by decide +kernel, rfl, by decide +kernel, by decide +kernel⟩
theorem ok_is_word (T : Txt K mg) : GoodP P w K mg base "is_word" 2 ["value"] (spOf K isWord) := by
  have G_is_file_name := ok_is_file_name (P := P) (w := w) (base := base) T
  obtain ⟨fd, F⟩ := T.f_is_word
  refine good_of F sc_is_word (fun vs H Q E h => ?_) (fun _ _ _ _ _ _ us hl => match us, hl with | [_], _ => rfl) (fun cdv A outer s H vs Q E hr h => ?_)
  · obtain ⟨v, rfl, _⟩ := h
    rfl
  · obtain ⟨v, rfl, h⟩ := h
    refine ⟨_, (pss_one (ps_ret (pe_and (pcall G_is_file_name hr T.g_is_file_name (pa_cons (pv 0) pa_nil)) (pe_one (pe_cmpR op_ne (pe_ix ix_str (pv 0) pe_int (fun _ _ => rfl)) pe_str (nomark _)))))), ?_⟩
    rcases h with ⟨z, rfl, hz, k⟩ | ⟨ns, k⟩
    · walk_at "v"
      refine u_of hz fun H1 e1 => ?_
      walk_at "v"
      refine ite2 (fun h1 => ?_) (fun h1 => ?_)
      · refine ⟨_, rfl, z, 0, hd0 z, rfl, rfl, sz100k hz, at0 h1, rfl, ?_⟩
        have q := k H1 e1
        have e : (!decide (V.str ⟨#[hd0 z]⟩ = V.str "-")) = isWord z := by
          unfold isWord
          rw [h1, Bool.true_and]
          have e2 : (V.str ⟨#[hd0 z]⟩ = V.str "-") ↔ hd0 z = 45 := by
            constructor
            · intro q
              injection q with q
              have q2 := congrArg tl q
              exact List.head_eq_of_cons_eq q2
            · intro q
              rw [q]
              rfl
          rw [decide_eq_decide.mpr e2, decide_not]
        rw [← e] at q
        exact q
      · have e : isWord z = false := by
          unfold isWord
          cases c : isFile z with
          | true => exact absurd c h1
          | false => rfl
        have q := k H1 e1
        rw [e] at q
        exact q
    · exact ⟨_, rfl, ⟨_, rfl, .inr ⟨ns, ⟨_, rfl, iteF k⟩⟩⟩⟩
theorem sc_is_name : FnScope ["value"] ["value"] (defScope s_is_name) := ⟨rfl, rfl, rfl, by decide +kernel, rfl, by decide +kernel, by decide +kernel⟩
theorem ok_is_name (T : Txt K mg) : GoodP P w K mg base "is_name" 2 ["value"] (spOf K isName) := by
  have G_is_file_name := ok_is_file_name (P := P) (w := w) (base := base) T
  obtain ⟨fd, F⟩ := T.f_is_name
  refine good_of F sc_is_name (fun vs H Q E h => ?_) (fun _ _ _ _ _ _ us hl => match us, hl with | [_], _ => rfl) (fun cdv A outer s H vs Q E hr h => ?_)
  · obtain ⟨v, rfl, _⟩ := h
    rfl
  · obtain ⟨v, rfl, h⟩ := h
    refine ⟨_, (pss_one (ps_ret (pe_and (pcall G_is_file_name hr T.g_is_file_name (pa_cons (pv 0) pa_nil)) (pe_one (pe_cmpR op_inS (pe_ix ix_str (pv 0) pe_int (fun _ _ => rfl)) (pe_kstr (T.k_LETTERS)) rfl))))), ?_⟩
    rcases h with ⟨z, rfl, hz, k⟩ | ⟨ns, k⟩
    · walk_at "v"
      refine u_of hz fun H1 e1 => ?_
      walk_at "v"
      refine ite2 (fun h1 => ?_) (fun h1 => ?_)
      · refine ⟨_, rfl, z, 0, hd0 z, rfl, rfl, sz100k hz, at0 h1, hd0 z, LETTERS, rfl, rfl, ?_⟩
        have q := k H1 e1
        unfold isName at q
        rw [h1, Bool.true_and] at q
        exact q
      · have e : isName z = false := by
          unfold isName
          cases c : isFile z with
          | true => exact absurd c h1
          | false => rfl
        have q := k H1 e1
        rw [e] at q
        exact q
    · exact ⟨_, rfl, ⟨_, rfl, .inr ⟨ns, ⟨_, rfl, iteF k⟩⟩⟩⟩
/-- is_list: of a list, of a tuple -/
def spIsList (K : PySem.W.Frag) : Sp := fun vs H Q _ => ∃ a xs, vs = [.ref a] ∧ H a = some (.lst xs) ∧ ∀ H', Ex H H' → Q (.bl true) H'
theorem sc_is_list : FnScope ["value"] ["value"] (defScope s_is_list) := ⟨rfl, rfl, rfl, by decide +kernel, rfl, by decide +kernel, by decide +kernel⟩
theorem ok_is_list (T : Txt K mg) : GoodP P w K mg base "is_list" 1 ["value"] (spIsList K) := by
  obtain ⟨fd, F⟩ := T.f_is_list
  refine good_of F sc_is_list (fun vs H Q E h => ?_) (fun _ _ _ _ _ _ us hl => match us, hl with | [_], _ => rfl) (fun cdv A outer s H vs Q E hr h => ?_)
  · obtain ⟨a, xs, rfl, _⟩ := h
    rfl
  · obtain ⟨a, xs, rfl, ha, k⟩ := h
    refine ⟨_, (pss_one (ps_ret (pe_callB call_isiT rfl T.z_isinstance (by decide +kernel) (pa_cons (pv 0) (pa_cons (pe_tup (pa_cons (pe_ty (n := "list") T.z_list (by decide +kernel)) (pa_cons (pe_ty (n := "tuple") T.z_tuple (by decide +kernel)) pa_nil))) pa_nil))))), ?_⟩
    refine ⟨_, rfl, (by show 2 ≤ sizeLine; decide), fun p hp => ?_⟩
    refine ⟨_, p, _, _, _, true, rfl, upd_same, .cons (.ty _) (.cons (.ty _) .nil), .base (.lst (xs := xs) (by rw [upd_ne (ne_of_none ha hp)]; exact ha)), rfl, k _ (Evl.Ex.new hp)⟩
end
set_option Elab.async false
set_option linter.all false
set_option maxRecDepth 100000
set_option maxHeartbeats 4000000
/-! parts: the parts of a text, and what reads them. -/
section
open PySem PySem.Spec PyProof.Rows L2
open Evl (Ex given)

/-! ### the mathematics -/
def tstep (st : List (List Nat) × List Nat) (c : Nat) : List (List Nat) × List Nat :=
  if c ∈ tl SIGNS then (st.1, st.2 ++ [c]) else ((st.1 ++ (if st.2 = [] then [] else [st.2])) ++ (if c = 32 then [] else [[c]]), [])
def toks (l : List Nat) : List (List Nat) := ((l ++ [32]).foldl tstep ([], [])).1
theorem tstep_len (st : List (List Nat) × List Nat) (c : Nat) : (tstep st c).1.length ≤ st.1.length + 2 := by
  unfold tstep
  split
  · exact Nat.le_add_right _ _
  · simp only [List.length_append]
    split <;> split <;> simp <;> omega
theorem tstep_run (st : List (List Nat) × List Nat) (c : Nat) : (tstep st c).2.length ≤ st.2.length + 1 := by
  unfold tstep
  split <;> simp
def tat (l : List Nat) (i : Nat) : List (List Nat) × List Nat := (l.take i).foldl tstep ([], [])
theorem tat_next {l : List Nat} {i c : Nat} (h : l[i]? = some c) : tat l (i + 1) = tstep (tat l i) c := by
  unfold tat
  obtain ⟨hi, rfl⟩ := List.getElem?_eq_some_iff.mp h
  rw [← List.take_append_getElem hi, List.foldl_append]
  rfl
theorem tat_len (l : List Nat) : ∀ i, i ≤ l.length → (tat l i).1.length ≤ 2 * i ∧ (tat l i).2.length ≤ i := by
  intro i
  induction i with
  | zero => intro _; exact ⟨Nat.le_refl _, Nat.le_refl _⟩
  | succ i ih =>
    intro hi
    have e := tat_next (l := l) (i := i) (List.getElem?_eq_getElem hi)
    obtain ⟨h1, h2⟩ := ih (by omega)
    rw [e]
    exact ⟨Nat.le_trans (tstep_len _ _) (by omega), Nat.le_trans (tstep_run _ _) (by omega)⟩
abbrev vS (l : List Nat) : V := .str (S l)
theorem str1_eq {c d : Nat} {z : Str} (hz : tl z = [d]) : (V.str ⟨#[c]⟩ = V.str z) ↔ c = d := by
  constructor
  · intro q
    injection q with q
    have q2 := congrArg tl q
    rw [hz] at q2
    exact List.head_eq_of_cons_eq q2
  · intro q
    rw [q]
    exact congrArg V.str (TL.ext_tl hz.symm)
theorem str0_eq {l : List Nat} : (V.str (S l) = V.str "") ↔ l = [] := by
  constructor
  · intro q
    injection q with q
    exact congrArg tl q
  · intro q
    rw [q]
    rfl
section
variable {P : Program} {w : World} {K : PySem.W.Frag} {mg : Str → Option Value} {base : Heap}
def spPartsOf : Sp := fun vs H Q _ => ∃ z, vs = [.str z] ∧ z.length ≤ 10000 ∧ ∀ p H', H p = none → Ex H H' → H' p = some (.lst ((toks (tl z)).map vS)) → Q (.ref p) H'
theorem sc_parts_of : FnScope ["text", "found", "run", "sign"] ["text"] (defScope s_parts_of) := ⟨rfl, rfl, rfl, by decide +kernel, rfl, by decide +kernel, by decide +kernel⟩
theorem ok_parts_of (T : Txt K mg) : GoodP P w K mg base "parts_of" 1 ["text"] spPartsOf := by
  obtain ⟨fd, F⟩ := T.f_parts_of
  refine good_of F sc_parts_of (fun vs H Q E h => ?_) (fun _ _ _ _ _ _ us hl => match us, hl with | [_], _ => rfl) (fun cdv A outer s H vs Q E hr h => ?_)
  · obtain ⟨v, rfl, _⟩ := h
    rfl
  · obtain ⟨z, rfl, hz, k⟩ := h
    refine ⟨_, (pss_cons (ps_par (i := 1) (j := 2) rfl sc_parts_of.nd rfl rfl (by decide) rfl rfl (pa_cons (pe_lst pa_nil) (pa_cons pe_str pa_nil)) rfl)
    (pss_cons (ps_for PassesOwn.never rfl (pi_str (pe_op op_addS (pv 0) (pe_kstr (T.k_BLANK)))) (pg_name (i := 3) sc_parts_of.nd rfl (Or.inl rfl))
    (pss_cons (ps_if (pt_cmpR op_inS (pv 3) (pe_kstr (T.k_SIGNS)) rfl) (pss_cons (ps_aug (i := 2) sc_parts_of.nd rfl (Or.inl rfl) (pv 3) ip_addS)
    (pss_one ps_continue)) pss_nil)
    (pss_cons (ps_if (pt_cmpR op_ne (pv 2) pe_str (nomark _)) (pss_cons (ps_expr (pe_bm PySem.F.plainAttrs_list PySem.F.slot_list_append PySem.F.type_list_append mt_append (pv 1) (pa_cons (pv 2) pa_nil)))
    (pss_one (ps_set (i := 2) sc_parts_of.nd rfl (Or.inl rfl) pe_str))) pss_nil)
    (pss_one (ps_if (pt_cmpR op_ne (pv 3) (pe_kstr (T.k_BLANK)) (nomark _)) (pss_one (ps_expr (pe_bm PySem.F.plainAttrs_list PySem.F.slot_list_append PySem.F.type_list_append mt_append (pv 1) (pa_cons (pv 3) pa_nil)))) pss_nil)))))
    (pss_one (ps_ret (pv 1))))), ?_⟩
    walk_at "v"
    intro p hp
    walk_at "v"
    refine r_addS (by have e : (" " : Str).length = 1 := rfl; omega) ?_
    walk_at "v"
    refine for_it (walk_str (z := z ++ " ")) (fun i σ H' => ∃ c, σ = [some (.str z), some (.ref p), some (vS (tat (tl z ++ [32]) i).2), c] ∧ Ex H H' ∧ H' p = some (.lst ((tat (tl z ++ [32]) i).1.map vS)))
      ⟨none, rfl, Evl.Ex.new hp, upd_same⟩ (fun _ _ _ _ _ => trivial) ?_ ?_
    · rintro i x σ H1 H2 hi ⟨c0, rfl, e1, hl⟩ ⟨rfl, c, hc, rfl⟩
      have hc' : (tl z ++ [32])[i]? = some c := by
        have e : (z ++ (" " : Str)).cps.toList = tl z ++ [32] := TL.tl_append z " "
        rw [← e, Array.getElem?_toList]
        exact hc
      have hin := (List.getElem?_eq_some_iff.mp hc').1
      have hsz : (tl z ++ [32]).length ≤ 10001 := by
        rw [List.length_append, ← len_tl]
        simp only [List.length_singleton]
        omega
      obtain ⟨b1, b2⟩ := tat_len (tl z ++ [32]) i (Nat.le_of_lt hin)
      have en := tat_next hc'
      generalize hst : tat (tl z ++ [32]) i = st at *
      walk_at "v"
      refine ite2 (fun hk => ?_) (fun hk => ?_)
      · have hs : c ∈ tl SIGNS := of_decide_eq_true hk
        have e2 : tstep st c = (st.1, st.2 ++ [c]) := by unfold tstep; rw [if_pos hs]
        walk_at "v"
        refine r_addS (by rw [S_len]; have e : (⟨#[c]⟩ : Str).length = 1 := rfl; omega) ?_
        walk_at "v"
        refine ⟨some (.str ⟨#[c]⟩), ?_, e1, ?_⟩
        · rw [en, e2]
          show _ = [some (V.str z), some (V.ref p), some (V.str (S (st.2 ++ [c]))), some (V.str ⟨#[c]⟩)]
          rw [← S_app]
          rfl
        · rw [en, e2]
          exact hl
      · have hs : ¬ c ∈ tl SIGNS := fun q => hk (decide_eq_true q)
        have e2 : tstep st c = ((st.1 ++ (if st.2 = [] then [] else [st.2])) ++ (if c = 32 then [] else [[c]]), []) := by unfold tstep; rw [if_neg hs]
        have e3 : (!decide (V.str ⟨#[c]⟩ = V.str " ")) = !decide (c = 32) := by rw [decide_eq_decide.mpr (str1_eq (d := 32) rfl)]
        walk_at "v"
        refine ite2 (fun hr1 => ?_) (fun hr1 => ?_)
        · have hr2 : ¬ st.2 = [] := fun q => by
            rw [q] at hr1
            exact absurd hr1 (by decide +kernel)
          rw [if_neg hr2] at e2
          walk_at "v"
          refine r_append hl (by rw [List.length_map]; omega) ?_
          walk_at "v"
          rw [e3]
          refine ite2 (fun hc1 => ?_) (fun hc1 => ?_)
          · have hc2 : ¬ c = 32 := by simpa using hc1
            rw [if_neg hc2] at e2
            walk_at "v"
            refine r_append upd_same (by rw [List.length_append, List.length_map, List.length_singleton]; omega) ?_
            refine ⟨_, by rw [en, e2]; rfl, Evl.Ex.mut (Evl.Ex.mut e1 hp) hp, ?_⟩
            rw [upd_same, en, e2, List.map_append, List.map_append]
            rfl
          · have hc2 : c = 32 := by simpa using hc1
            rw [if_pos hc2] at e2
            walk_at "v"
            refine ⟨_, by rw [en, e2]; rfl, Evl.Ex.mut e1 hp, ?_⟩
            rw [upd_same, en, e2, List.append_nil, List.map_append]
            rfl
        · have hr2 : st.2 = [] := by
            have q : decide (V.str (S st.2) = V.str "") = true := by simpa using hr1
            exact str0_eq.mp (of_decide_eq_true q)
          rw [if_pos hr2, List.append_nil] at e2
          walk_at "v"
          rw [e3]
          refine ite2 (fun hc1 => ?_) (fun hc1 => ?_)
          · have hc2 : ¬ c = 32 := by simpa using hc1
            rw [if_neg hc2] at e2
            walk_at "v"
            refine r_append hl (by rw [List.length_map]; omega) ?_
            refine ⟨_, by rw [en, e2, hr2]; rfl, Evl.Ex.mut e1 hp, ?_⟩
            rw [upd_same, en, e2, List.map_append]
            rfl
          · have hc2 : c = 32 := by simpa using hc1
            rw [if_pos hc2, List.append_nil] at e2
            walk_at "v"
            refine ⟨_, by rw [en, e2, hr2]; rfl, e1, ?_⟩
            rw [en, e2]
            exact hl
    · rintro σ H1 ⟨c, rfl, e1, hl⟩
      walk_at "v"
      refine k _ _ hp e1 ?_
      have e : (z ++ (" " : Str)).cps.size = (tl z ++ [32]).length := by
        have e0 : (z ++ (" " : Str)).cps.toList = tl z ++ [32] := TL.tl_append z " "
        rw [← e0]
        simp
      rw [e] at hl
      unfold tat at hl
      rw [List.take_length] at hl
      exact hl
end
end
set_option Elab.async false
set_option linter.all false
set_option maxRecDepth 100000
set_option maxHeartbeats 4000000
/-! Parts. -/
section
open PySem PySem.Spec PyProof.Rows L2
open Evl (Ex given)

/-- a reader of parts at p: its list at r holds ps, it stands at i -/
structure PtAt (K : PySem.W.Frag) (H : Hp) (p r : Addr) (ps : List (List Nat)) (i : Nat) : Prop where
  ob : ∃ dx, H p = some (.ins (He.ga K "Parts") dx [("row", .ref r), ("at", .int (i : Nat))])
  row : H r = some (.lst (ps.map vS))
  small : ps.length ≤ 900
def headOf (ps : List (List Nat)) (i : Nat) : List Nat := ps.getD i []
section
variable {P : Program} {w : World} {K : PySem.W.Frag} {mg : Str → Option Value} {base : Heap}
abbrev GoodM (P : Program) (w : World) (K : PySem.W.Frag) (mg : Str → Option Value) (base : Heap) (C m : Str) (k : Nat) (ps : List Str) (sp : Sp) : Prop := Good P w K mg base (He.ma K (He.ga K C) m) k ps sp
theorem PtAt.fr (T : Txt K mg) {H : Hp} {p r : Addr} {ps : List (List Nat)} {i : Nat} (h : PtAt K H p r ps i) : AtF K "row" (.ref p) H (.ref r) := by
  obtain ⟨dx, h1⟩ := h.ob
  exact at_f h1 T.c_Parts T.n_Parts_row lk_hd
theorem PtAt.fa (T : Txt K mg) {H : Hp} {p r : Addr} {ps : List (List Nat)} {i : Nat} (h : PtAt K H p r ps i) : AtF K "at" (.ref p) H (.int (i : Nat)) := by
  obtain ⟨dx, h1⟩ := h.ob
  exact at_f h1 T.c_Parts T.n_Parts_at ((lk_tl (by decide +kernel)).trans lk_hd)
theorem PtAt.is {m : Str} {H : Hp} {p r : Addr} {ps : List (List Nat)} {i : Nat} (h : PtAt K H p r ps i) (n1 : (m == ("row" : Str)) = false := by decide +kernel) (n2 : (m == ("at" : Str)) = false := by decide +kernel) : IsIns (He.ga K "Parts") m (.ref p) H := by
  obtain ⟨dx, h1⟩ := h.ob
  exact is_ins h1 ((lk_tl n1).trans ((lk_tl n2).trans rfl))
theorem PtAt.ex {H H' : Hp} {p r : Addr} {ps : List (List Nat)} {i : Nat} (h : PtAt K H p r ps i) (e : Ex H H') : PtAt K H' p r ps i := by
  obtain ⟨⟨dx, h1⟩, h2, h3⟩ := h
  exact ⟨⟨dx, e _ _ h1⟩, e _ _ h2, h3⟩
theorem PtAt.set {H : Hp} {p r dx : Addr} {ps : List (List Nat)} {i j : Nat} (h : PtAt K H p r ps i) : PtAt K (upd H p (.ins (He.ga K "Parts") dx [("row", .ref r), ("at", .int (j : Nat))])) p r ps j := by
  obtain ⟨⟨dx', h1⟩, h2, h3⟩ := h
  exact ⟨⟨dx, upd_same⟩, by rw [upd_ne (ne_of h2 h1 (by intro z; cases z))]; exact h2, h3⟩

def spPInit (K : PySem.W.Frag) : Sp := fun vs H Q _ => ∃ (p dx r : Addr) (ps : List (List Nat)), vs = [.ref p, .ref r] ∧ H p = some (.ins (He.ga K "Parts") dx []) ∧ H r = some (.lst (ps.map vS)) ∧ ps.length ≤ 900 ∧
  ∀ H', PtAt K H' p r ps 0 → Exx [p] H H' → Q .non H'
theorem sc_Parts_init : FnScope ["self", "row"] ["self", "row"] (defScope s_Parts_init) := ⟨rfl, rfl, rfl, by decide +kernel, rfl, by decide +kernel, by decide +kernel⟩
theorem ok_Parts_init (T : Txt K mg) : GoodM P w K mg base "Parts" "__init__" 1 ["self", "row"] (spPInit K) := by
  obtain ⟨fd, F⟩ := T.f_Parts_init
  refine good_of F sc_Parts_init (fun vs H Q E h => ?_) (fun _ _ _ _ _ _ us hl => match us, hl with | [_, _], _ => rfl) (fun cdv A outer s H vs Q E hr h => ?_)
  · obtain ⟨p, dx, r, ps, rfl, _⟩ := h
    rfl
  · obtain ⟨p, dx, r, ps, rfl, hp, hrow, hl, k⟩ := h
    have nrp : r ≠ p := ne_of hrow hp (by intro z; cases z)
    refine ⟨_, (pss_cons (ps_fld (pv 0) (pv 1) rfl)
    (pss_one (ps_fld (pv 0) pe_int rfl))), ?_⟩
    walk_at "v"
    refine ⟨p, _, dx, [], rfl, hp, T.c_Parts, T.n_Parts_row, by decide, ?_⟩
    walk_at "v"
    refine ⟨p, _, dx, _, rfl, upd_same, T.c_Parts, T.n_Parts_at, by show 1 < 1000; decide, ?_⟩
    refine k _ ⟨⟨dx, ?_⟩, ?_, hl⟩ ?_
    · rw [upd_same, pf_nil, pf_tl (by decide +kernel), pf_nil]
      rfl
    · rw [upd_ne nrp, upd_ne nrp]
      exact hrow
    · exact ((Exx.refl _ _).wr (by simp)).wr (by simp)
def spHead (K : PySem.W.Frag) : Sp := fun vs H Q _ => ∃ (p r : Addr) (ps : List (List Nat)) (i : Nat), vs = [.ref p] ∧ PtAt K H p r ps i ∧ Q (vS (headOf ps i)) H
theorem sc_Parts_head : FnScope ["self"] ["self"] (defScope s_Parts_head) := ⟨rfl, rfl, rfl, by decide +kernel, rfl, by decide +kernel, by decide +kernel⟩
theorem ok_Parts_head (T : Txt K mg) : GoodM P w K mg base "Parts" "head" 1 ["self"] (spHead K) := by
  obtain ⟨fd, F⟩ := T.f_Parts_head
  refine good_of F sc_Parts_head (fun vs H Q E h => ?_) (fun _ _ _ _ _ _ us hl => match us, hl with | [_], _ => rfl) (fun cdv A outer s H vs Q E hr h => ?_)
  · obtain ⟨p, r, ps, i, rfl, _⟩ := h
    rfl
  · obtain ⟨p, r, ps, i, rfl, hp, k⟩ := h
    have f1 := hp.fr T
    have f2 := hp.fa T
    have f3 := hp.row
    refine ⟨_, (pss_one (ps_ret (pe_ifExp (pt_cmpR op_lt (pe_fld (pv 0) rfl) (pe_callB call_lenN rfl T.z_len (by decide +kernel) (pa_cons (pe_fld (pv 0) rfl) pa_nil)) (nomark _)) (pe_ix ix_list (pe_fld (pv 0) rfl) (pe_fld (pv 0) rfl) (fun _ _ => rfl)) (pe_kstr (T.k_END))))), ?_⟩
    walk_at "v"
    refine ite2 (fun h1 => ?_) (fun h1 => ?_)
    · have hi : i < ps.length := by
        have := of_decide_eq_true h1
        rw [List.length_map] at this
        omega
      walk_at "v"
      refine r_ixL (SqL.of f3) (atI_nat (j := i) (v := vS (headOf ps i)) ?_) k
      unfold headOf
      rw [List.getElem?_map, List.getElem?_eq_getElem hi, List.getD_eq_getElem?_getD, List.getElem?_eq_getElem hi]
      rfl
    · have hi : ¬ i < ps.length := fun q => h1 (decide_eq_true (by rw [List.length_map]; omega))
      have e : headOf ps i = [] := by
        unfold headOf
        rw [List.getD_eq_getElem?_getD, List.getElem?_eq_none (by omega)]
        rfl
      rw [e] at k
      walk_at "v"
      exact k
/-- self.at += 1 -/
theorem fldaug_at (T : Txt K mg) {σ : L2.St} {H : Hp} {p r : Addr} {ps : List (List Nat)} {i : Nat} {D : Ends} (hp : PtAt K H p r ps i) (hs : σ[0]? = some (some (.ref p))) (k : ∀ H', PtAt K H' p r ps (i + 1) → Exx [p] H H' → D.nx σ H') :
    sFldAug K (tVar 0) (tC (.int 1)) rAdd "at" D σ H := by
  obtain ⟨dx, h1⟩ := hp.ob
  refine ⟨_, hs, p, _, dx, _, _, rfl, h1, T.c_Parts, T.n_Parts_at, (lk_tl (by decide +kernel)).trans lk_hd, (i : Int), 1, rfl, rfl, dx, _, h1, by show 2 < 1000; decide, ?_⟩
  refine k _ ?_ ((Exx.refl _ _).wr (by simp))
  rw [pf_tl (by decide +kernel), pf_hd]
  exact hp.set
def spTake (K : PySem.W.Frag) : Sp := fun vs H Q _ => ∃ (p r : Addr) (ps : List (List Nat)) (i : Nat), vs = [.ref p] ∧ PtAt K H p r ps i ∧ ∀ H', PtAt K H' p r ps (i + 1) → Exx [p] H H' → Q (vS (headOf ps i)) H'
theorem sc_Parts_take : FnScope ["self", "part"] ["self"] (defScope s_Parts_take) := ⟨rfl, rfl, rfl, by decide +kernel, rfl, by decide +kernel, by decide +kernel⟩
theorem ok_Parts_take (T : Txt K mg) : GoodM P w K mg base "Parts" "take" 2 ["self"] (spTake K) := by
  have G_Parts_head := ok_Parts_head (P := P) (w := w) (base := base) T
  obtain ⟨fd, F⟩ := T.f_Parts_take
  refine good_of F sc_Parts_take (fun vs H Q E h => ?_) (fun _ _ _ _ _ _ us hl => match us, hl with | [_], _ => rfl) (fun cdv A outer s H vs Q E hr h => ?_)
  · obtain ⟨p, r, ps, i, rfl, _⟩ := h
    rfl
  · obtain ⟨p, r, ps, i, rfl, hp, k⟩ := h
    refine ⟨_, (pss_cons (ps_set (i := 1) sc_Parts_take.nd rfl (Or.inl rfl) (pmeth0 (pv 0) T.c_Parts T.m_Parts_head G_Parts_head hr))
    (pss_cons (ps_fldaug (pv 0) pe_int in_add)
    (pss_one (ps_ret (pv 1))))), ?_⟩
    walk_at "v"
    refine ⟨hp.is, ?_⟩
    walk_at "v"
    refine ⟨p, r, ps, i, rfl, hp, ?_⟩
    walk_at "v"
    refine fldaug_at T hp rfl fun H1 h1 e1 => ?_
    walk_at "v"
    exact k _ h1 e1
def spTook (K : PySem.W.Frag) : Sp := fun vs H Q _ => ∃ (p r : Addr) (ps : List (List Nat)) (i : Nat) (z : List Nat), vs = [.ref p, vS z] ∧ PtAt K H p r ps i ∧
  (headOf ps i ≠ z → Q (.bl false) H) ∧ (headOf ps i = z → ∀ H', PtAt K H' p r ps (i + 1) → Exx [p] H H' → Q (.bl true) H')
theorem sc_Parts_took : FnScope ["self", "part"] ["self", "part"] (defScope s_Parts_took) := ⟨rfl, rfl, rfl, by decide +kernel, rfl, by decide +kernel, by decide +kernel⟩
theorem ok_Parts_took (T : Txt K mg) : GoodM P w K mg base "Parts" "took" 2 ["self", "part"] (spTook K) := by
  have G_Parts_head := ok_Parts_head (P := P) (w := w) (base := base) T
  obtain ⟨fd, F⟩ := T.f_Parts_took
  refine good_of F sc_Parts_took (fun vs H Q E h => ?_) (fun _ _ _ _ _ _ us hl => match us, hl with | [_, _], _ => rfl) (fun cdv A outer s H vs Q E hr h => ?_)
  · obtain ⟨p, r, ps, i, z, rfl, _⟩ := h
    rfl
  · obtain ⟨p, r, ps, i, z, rfl, hp, k1, k2⟩ := h
    refine ⟨_, (pss_cons (ps_if (pt_cmpR op_ne (pmeth0 (pv 0) T.c_Parts T.m_Parts_head G_Parts_head hr) (pv 1) (nomark _)) (pss_one (ps_ret pe_bl)) pss_nil)
    (pss_cons (ps_fldaug (pv 0) pe_int in_add)
    (pss_one (ps_ret pe_bl)))), ?_⟩
    walk_at "v"
    refine ⟨hp.is, ?_⟩
    walk_at "v"
    refine ⟨p, r, ps, i, rfl, hp, ?_⟩
    walk_at "v"
    refine ite2 (fun h1 => ?_) (fun h1 => ?_)
    · walk_at "v"
      refine k1 fun q => ?_
      rw [q] at h1
      simp at h1
    · have e : headOf ps i = z := by
        have q : decide (vS (headOf ps i) = vS z) = true := by simpa using h1
        have q2 := of_decide_eq_true q
        injection q2 with q2
        exact S_inj q2
      walk_at "v"
      refine fldaug_at T hp rfl fun H1 h1 e1 => ?_
      walk_at "v"
      exact k2 e _ h1 e1
def spMust (K : PySem.W.Frag) : Sp := fun vs H Q _ => ∃ (p r : Addr) (ps : List (List Nat)) (i : Nat) (z : List Nat), vs = [.ref p, vS z] ∧ PtAt K H p r ps i ∧
  headOf ps i = z ∧ ∀ H', PtAt K H' p r ps (i + 1) → Exx [p] H H' → Q .non H'
theorem sc_Parts_must : FnScope ["self", "part"] ["self", "part"] (defScope s_Parts_must) := ⟨rfl, rfl, rfl, by decide +kernel, rfl, by decide +kernel, by decide +kernel⟩
theorem ok_Parts_must (T : Txt K mg) : GoodM P w K mg base "Parts" "must" 3 ["self", "part"] (spMust K) := by
  have G_Parts_took := ok_Parts_took (P := P) (w := w) (base := base) T
  obtain ⟨fd, F⟩ := T.f_Parts_must
  refine good_of F sc_Parts_must (fun vs H Q E h => ?_) (fun _ _ _ _ _ _ us hl => match us, hl with | [_, _], _ => rfl) (fun cdv A outer s H vs Q E hr h => ?_)
  · obtain ⟨p, r, ps, i, z, rfl, _⟩ := h
    rfl
  · obtain ⟨p, r, ps, i, z, rfl, hp, he, k⟩ := h
    refine ⟨_, (pss_one (ps_if (pt_not (pt_val (pmeth (pv 0) T.c_Parts T.m_Parts_took G_Parts_took hr (pa_cons (pv 1) pa_nil)))) (pss_one ps_never) pss_nil)), ?_⟩
    walk_at "v"
    refine ⟨hp.is, ?_⟩
    walk_at "v"
    refine ⟨p, r, ps, i, z, rfl, hp, fun q => absurd he q, fun _ H1 h1 e1 => ?_⟩
    walk_at "v"
    exact k _ h1 e1
def spMustEnd (K : PySem.W.Frag) : Sp := fun vs H Q _ => ∃ (p r : Addr) (ps : List (List Nat)) (i : Nat), vs = [.ref p] ∧ PtAt K H p r ps i ∧ ps.length ≤ i ∧ Q .non H
theorem sc_Parts_must_end : FnScope ["self"] ["self"] (defScope s_Parts_must_end) := ⟨rfl, rfl, rfl, by decide +kernel, rfl, by decide +kernel, by decide +kernel⟩
theorem ok_Parts_must_end (T : Txt K mg) : GoodM P w K mg base "Parts" "must_end" 1 ["self"] (spMustEnd K) := by
  obtain ⟨fd, F⟩ := T.f_Parts_must_end
  refine good_of F sc_Parts_must_end (fun vs H Q E h => ?_) (fun _ _ _ _ _ _ us hl => match us, hl with | [_], _ => rfl) (fun cdv A outer s H vs Q E hr h => ?_)
  · obtain ⟨p, r, ps, i, rfl, _⟩ := h
    rfl
  · obtain ⟨p, r, ps, i, rfl, hp, hi, k⟩ := h
    have f1 := hp.fr T
    have f2 := hp.fa T
    have f3 := hp.row
    refine ⟨_, (pss_one (ps_if (pt_cmpR op_lt (pe_fld (pv 0) rfl) (pe_callB call_lenN rfl T.z_len (by decide +kernel) (pa_cons (pe_fld (pv 0) rfl) pa_nil)) (nomark _)) (pss_one ps_never) pss_nil)), ?_⟩
    walk_at "v"
    rw [decide_eq_false (by rw [List.length_map]; omega)]
    exact iteF k
def spReadName (K : PySem.W.Frag) : Sp := fun vs H Q _ => ∃ (p r : Addr) (ps : List (List Nat)) (i : Nat), vs = [.ref p] ∧ PtAt K H p r ps i ∧ isName (S (headOf ps i)) = true ∧ ∀ H', PtAt K H' p r ps (i + 1) → Exx [p] H H' → Q (vS (headOf ps i)) H'
theorem sc_Parts_read_name : FnScope ["self", "part"] ["self"] (defScope s_Parts_read_name) := ⟨rfl, rfl, rfl, by decide +kernel, rfl, by decide +kernel, by decide +kernel⟩
theorem ok_Parts_read_name (T : Txt K mg) : GoodM P w K mg base "Parts" "read_name" 3 ["self"] (spReadName K) := by
  have G_Parts_take := ok_Parts_take (P := P) (w := w) (base := base) T
  have G_is_name := ok_is_name (P := P) (w := w) (base := base) T
  obtain ⟨fd, F⟩ := T.f_Parts_read_name
  refine good_of F sc_Parts_read_name (fun vs H Q E h => ?_) (fun _ _ _ _ _ _ us hl => match us, hl with | [_], _ => rfl) (fun cdv A outer s H vs Q E hr h => ?_)
  · obtain ⟨p, r, ps, i, rfl, _⟩ := h
    rfl
  · obtain ⟨p, r, ps, i, rfl, hp, hn, k⟩ := h
    refine ⟨_, (pss_cons (ps_set (i := 1) sc_Parts_read_name.nd rfl (Or.inl rfl) (pmeth0 (pv 0) T.c_Parts T.m_Parts_take G_Parts_take hr))
    (pss_cons (ps_if (pt_not (pt_val (pcall G_is_name hr T.g_is_name (pa_cons (pv 1) pa_nil)))) (pss_one ps_never) pss_nil)
    (pss_one (ps_ret (pv 1))))), ?_⟩
    walk_at "v"
    refine ⟨hp.is, ?_⟩
    walk_at "v"
    refine ⟨p, r, ps, i, rfl, hp, fun H1 h1 e1 => ?_⟩
    walk_at "v"
    refine u_of (by have := (isFile_len (isName_file hn)).2; omega) fun H2 e2 => ?_
    walk_at "v"
    rw [hn]
    walk_at "v"
    exact k _ (h1.ex e2) (e1.trans (Exx.of e2))
end
end
set_option Elab.async false
set_option linter.all false
set_option maxRecDepth 100000
set_option maxHeartbeats 4000000
/-! What is read of parts: the grammar with its meaning, the trees that stand for it. -/
section
open PySem PySem.Spec PyProof.Rows L2
open Evl (Ex given)

/-! ### the mathematics -/
/-- a series: its name, its tags by ascending keys -/
structure Ser where
  name : List Nat
  tags : List (List Nat × List Nat)
  deriving DecidableEq
abbrev nNAME : List Nat := [110, 97, 109, 101]
def wordOf (s : Ser) (k : List Nat) : Option (List Nat) := if k = nNAME then some s.name else s.tags.lookup k
abbrev Mn : Type := Ser → Bool
abbrev pEQ : List Nat := [61]
abbrev pST : List Nat := [42]
abbrev pNOT : List Nat := [33]
abbrev pAND : List Nat := [38]
abbrev pOR : List Nat := [124]
abbrev pL : List Nat := [40]
abbrev pR : List Nat := [41]
abbrev pALL : List Nat := [97, 108, 108]
def TestP (ts : List (List Nat)) (m : Mn) : Prop :=
  (ts = [pALL] ∧ m = fun _ => true) ∨
  (∃ k, ts = [k, pEQ, pST] ∧ isName (S k) = true ∧ m = fun s => (wordOf s k).isSome) ∨
  ∃ k x, ts = [k, pEQ, x] ∧ isName (S k) = true ∧ isWord (S x) = true ∧ m = fun s => decide (wordOf s k = some x)
/-- pieces with a sign between them -/
def inter (sg : List Nat) : List (List (List Nat)) → List (List Nat)
  | [] => []
  | [a] => a
  | a :: b :: r => a ++ sg :: inter sg (b :: r)
def allM (ms : List Mn) : Mn := fun s => ms.all fun m => m s
def anyM (ms : List Mn) : Mn := fun s => ms.any fun m => m s
def EachOf (One : List (List Nat) → Mn → Prop) (ts : List (List Nat)) (m : Mn) : Prop := ∃ xs : List (List (List Nat) × Mn), xs ≠ [] ∧ (∀ x ∈ xs, One x.1 x.2) ∧ ts = inter pAND (xs.map (·.1)) ∧ m = allM (xs.map (·.2))
def AnyOf (Each : List (List Nat) → Mn → Prop) (ts : List (List Nat)) (m : Mn) : Prop := ∃ xs : List (List (List Nat) × Mn), xs ≠ [] ∧ (∀ x ∈ xs, Each x.1 x.2) ∧ ts = inter pOR (xs.map (·.1)) ∧ m = anyM (xs.map (·.2))
def OneP : Nat → List (List Nat) → Mn → Prop
  | 0, ts, m => TestP ts m
  | n + 1, ts, m => TestP ts m ∨ (∃ u m', ts = pNOT :: u ∧ OneP n u m' ∧ m = fun s => !m' s) ∨ ∃ u, ts = pL :: (u ++ [pR]) ∧ AnyOf (EachOf (OneP n)) u m
def EachP (n : Nat) : List (List Nat) → Mn → Prop := EachOf (OneP n)
def AnyP (n : Nat) : List (List Nat) → Mn → Prop := AnyOf (EachP n)
/-! ### trees -/
def TeAt (K : PySem.W.Frag) (H : Hp) (v : V) (m : Mn) : Prop := ∃ a dx kv wv, v = .ref a ∧ H a = some (.ins (He.ga K "Test") dx [("key", kv), ("word", wv)]) ∧
  ((kv = .non ∧ wv = .non ∧ m = fun _ => true) ∨ (∃ k, kv = vS k ∧ wv = .non ∧ isName (S k) = true ∧ m = fun s => (wordOf s k).isSome) ∨
    ∃ k x, kv = vS k ∧ wv = vS x ∧ isName (S k) = true ∧ isWord (S x) = true ∧ m = fun s => decide (wordOf s k = some x))
/-- the tree of some meaning, so deep at most; its lists lie at places of N -/
def TrP (K : PySem.W.Frag) (N : Addr → Prop) (H : Hp) : Nat → V → Mn → Prop
  | 0, v, m => TeAt K H v m
  | n + 1, v, m => TeAt K H v m ∨ ∃ a l, v = .ref a ∧ N l ∧ ((∃ u m', H a = some (.tup [.str "!", .ref l]) ∧ H l = some (.lst [u]) ∧ TrP K N H n u m' ∧ m = fun s => !m' s) ∨
      ∃ (b : Bool) (xs : List (V × Mn)), H a = some (.tup [.str (if b = true then "&" else "|"), .ref l]) ∧ H l = some (.lst (xs.map (·.1))) ∧ 1 < xs.length ∧ xs.length ≤ 1000 ∧ (∀ x ∈ xs, TrP K N H n x.1 x.2) ∧ m = if b = true then allM (xs.map (·.2)) else anyM (xs.map (·.2)))
theorem TeAt.ex {K : PySem.W.Frag} {H H' : Hp} {v : V} {m : Mn} (h : TeAt K H v m) (e : Ex H H') : TeAt K H' v m := by
  obtain ⟨a, dx, kv, wv, h1, h2, h3⟩ := h
  exact ⟨a, dx, kv, wv, h1, e _ _ h2, h3⟩
/-- a tree in a heap that keeps what it is made of -/
theorem TrP.of {K : PySem.W.Frag} {N N' : Addr → Prop} {H H' : Hp} (h1 : ∀ a dx kv wv, H a = some (.ins (He.ga K "Test") dx [("key", kv), ("word", wv)]) → H' a = some (.ins (He.ga K "Test") dx [("key", kv), ("word", wv)]))
    (h2 : ∀ a xs, H a = some (.tup xs) → H' a = some (.tup xs)) (h3 : ∀ a xs, H a = some (.lst xs) → N a → H' a = some (.lst xs) ∧ N' a) : ∀ n v m, TrP K N H n v m → TrP K N' H' n v m := by
  have t : ∀ v m, TeAt K H v m → TeAt K H' v m := by
    rintro v m ⟨a, dx, kv, wv, e1, e2, e3⟩
    exact ⟨a, dx, kv, wv, e1, h1 _ _ _ _ e2, e3⟩
  intro n
  induction n with
  | zero => intro v m h; exact t v m h
  | succ n ih =>
    intro v m h
    rcases h with h | ⟨a, l, hv, hN, ⟨u, m', e1, e2, e3, e4⟩ | ⟨b, xs, e1, e2, e3, e4, e5, e6⟩⟩
    · exact .inl (t _ _ h)
    · exact .inr ⟨a, l, hv, (h3 _ _ e2 hN).2, .inl ⟨u, m', h2 _ _ e1, (h3 _ _ e2 hN).1, ih _ _ e3, e4⟩⟩
    · exact .inr ⟨a, l, hv, (h3 _ _ e2 hN).2, .inr ⟨b, xs, h2 _ _ e1, (h3 _ _ e2 hN).1, e3, e4, fun x hx => ih _ _ (e5 x hx), e6⟩⟩
theorem TrP.ex {K : PySem.W.Frag} {N : Addr → Prop} {H H' : Hp} (e : Ex H H') {n : Nat} {v : V} {m : Mn} (h : TrP K N H n v m) : TrP K N H' n v m :=
  TrP.of (fun _ _ _ _ q => e _ _ q) (fun _ _ q => e _ _ q) (fun _ _ q hn => ⟨e _ _ q, hn⟩) _ _ _ h
theorem TrP.imp {K : PySem.W.Frag} {N N' : Addr → Prop} {H : Hp} {n : Nat} {v : V} {m : Mn} (h : TrP K N H n v m) (hn : ∀ a xs, H a = some (.lst xs) → N a → N' a) : TrP K N' H n v m :=
  TrP.of (fun _ _ _ _ q => q) (fun _ _ q => q) (fun _ _ q z => ⟨q, hn _ _ q z⟩) _ _ _ h
theorem TrP.up {K : PySem.W.Frag} {N : Addr → Prop} {H : Hp} : ∀ {n : Nat} {v : V} {m : Mn}, TrP K N H n v m → TrP K N H (n + 1) v m := by
  intro n
  induction n with
  | zero => intro v m h; exact .inl h
  | succ n ih =>
    intro v m h
    rcases h with h | ⟨a, l, hv, hN, ⟨u, m', h1, h2, h3, h4⟩ | ⟨b, xs, h1, h2, h3, h4, h5, h6⟩⟩
    · exact .inl h
    · exact .inr ⟨a, l, hv, hN, .inl ⟨u, m', h1, h2, ih h3, h4⟩⟩
    · exact .inr ⟨a, l, hv, hN, .inr ⟨b, xs, h1, h2, h3, h4, fun x hx => ih (h5 x hx), h6⟩⟩
theorem TrP.test {K : PySem.W.Frag} {N : Addr → Prop} {H : Hp} : ∀ {n : Nat} {v : V} {m : Mn}, TeAt K H v m → TrP K N H n v m
  | 0, _, _, h => h
  | _ + 1, _, _, h => .inl h
section
variable {P : Program} {w : World} {K : PySem.W.Frag} {mg : Str → Option Value} {base : Heap}
theorem made_ex {H H2 : Hp} {x dx C : Addr} (nx : H x = none) (nd : H dx = none) (e : Exx [x] (upd (upd H dx (.own x)) x (.ins C dx [])) H2) : Ex H H2 := fun a o h => by
  have h1 : a ≠ x := ne_of_none h nx
  refine e a o ?_ (by simpa using h1)
  rw [upd_ne h1, upd_ne (ne_of_none h nd)]
  exact h
def spTInit (K : PySem.W.Frag) : Sp := fun vs H Q _ => ∃ (p dx : Addr) (kv wv : V), vs = [.ref p, kv, wv] ∧ H p = some (.ins (He.ga K "Test") dx []) ∧
  ∀ H', H' p = some (.ins (He.ga K "Test") dx [("key", kv), ("word", wv)]) → Exx [p] H H' → Q .non H'
theorem sc_Test_init : FnScope ["self", "key", "word"] ["self", "key", "word"] (defScope s_Test_init) := ⟨rfl, rfl, rfl, by decide +kernel, rfl, by decide +kernel, by decide +kernel⟩
theorem ok_Test_init (T : Txt K mg) : GoodM P w K mg base "Test" "__init__" 1 ["self", "key", "word"] (spTInit K) := by
  obtain ⟨fd, F⟩ := T.f_Test_init
  refine good_of F sc_Test_init (fun vs H Q E h => ?_) (fun _ _ _ _ _ _ us hl => match us, hl with | [_, _, _], _ => rfl) (fun cdv A outer s H vs Q E hr h => ?_)
  · obtain ⟨p, dx, kv, wv, rfl, _⟩ := h
    rfl
  · obtain ⟨p, dx, kv, wv, rfl, hp, k⟩ := h
    refine ⟨_, (pss_cons (ps_fld (pv 0) (pv 1) rfl)
    (pss_one (ps_fld (pv 0) (pv 2) rfl))), ?_⟩
    walk_at "v"
    refine ⟨p, _, dx, [], rfl, hp, T.c_Test, T.n_Test_key, by decide, ?_⟩
    walk_at "v"
    refine ⟨p, _, dx, _, rfl, upd_same, T.c_Test, T.n_Test_word, by show 1 < 1000; decide, ?_⟩
    refine k _ ?_ (((Exx.refl _ _).wr (by simp)).wr (by simp))
    rw [upd_same, pf_nil, pf_tl (by decide +kernel), pf_nil]
def spReadTest (K : PySem.W.Frag) : Sp := fun vs H Q _ => ∃ (p r : Addr) (ps ts : List (List Nat)) (i : Nat) (m : Mn) (rest : List (List Nat)), vs = [.ref p] ∧ PtAt K H p r ps i ∧ ps.drop i = ts ++ rest ∧ TestP ts m ∧ rest.headD [] ≠ pEQ ∧
  ∀ v H', PtAt K H' p r ps (i + ts.length) → Exx [p] H H' → TeAt K H' v m → Q v H'
theorem head_drop {ps ts : List (List Nat)} {i : Nat} (h : ps.drop i = ts) : headOf ps i = ts.headD [] := by
  unfold headOf
  rw [← h, List.getD_eq_getElem?_getD, List.headD_eq_head?_getD, List.head?_drop]
theorem drop_next {ps ts : List (List Nat)} {i : Nat} {t : List Nat} (h : ps.drop i = t :: ts) : ps.drop (i + 1) = ts := by
  rw [← List.drop_drop, h]
  rfl
theorem sc_read_test : FnScope ["parts", "key", "word"] ["parts"] (defScope s_read_test) := ⟨rfl, rfl, rfl, by decide +kernel, rfl, by decide +kernel, by decide +kernel⟩
theorem ok_read_test (T : Txt K mg) : GoodP P w K mg base "read_test" 4 ["parts"] (spReadTest K) := by
  have G_Parts_read_name := ok_Parts_read_name (P := P) (w := w) (base := base) T
  have G_Parts_took := ok_Parts_took (P := P) (w := w) (base := base) T
  have G_Parts_take := ok_Parts_take (P := P) (w := w) (base := base) T
  have G_Test_init := ok_Test_init (P := P) (w := w) (base := base) T
  have G_is_word := ok_is_word (P := P) (w := w) (base := base) T
  obtain ⟨fd, F⟩ := T.f_read_test
  refine good_of F sc_read_test (fun vs H Q E h => ?_) (fun _ _ _ _ _ _ us hl => match us, hl with | [_], _ => rfl) (fun cdv A outer s H vs Q E hr h => ?_)
  · obtain ⟨p, r, ps, ts, i, m, rest, rfl, _⟩ := h
    rfl
  · obtain ⟨p, r, ps, ts, i, m, rest, rfl, hp, hd, ht, hrest, k⟩ := h
    refine ⟨_, (pss_cons (ps_set (i := 1) sc_read_test.nd rfl (Or.inl rfl) (pmeth0 (pv 0) T.c_Parts T.m_Parts_read_name G_Parts_read_name hr))
    (pss_cons (ps_if (pt_not (pt_val (pmeth (pv 0) T.c_Parts T.m_Parts_took G_Parts_took hr (pa_cons pe_str pa_nil)))) (pss_cons (ps_if (pt_cmpR op_ne (pv 1) (pe_kstr (T.k_ALL)) (nomark _)) (pss_one ps_never) pss_nil)
    (pss_one (ps_ret (pmake T.mk_Test G_Test_init hr T.g_Test (pa_cons pe_non (pa_cons pe_non pa_nil)))))) pss_nil)
    (pss_cons (ps_if (pt_val (pmeth (pv 0) T.c_Parts T.m_Parts_took G_Parts_took hr (pa_cons pe_str pa_nil))) (pss_one (ps_ret (pmake T.mk_Test G_Test_init hr T.g_Test (pa_cons (pv 1) (pa_cons pe_non pa_nil))))) pss_nil)
    (pss_cons (ps_set (i := 2) sc_read_test.nd rfl (Or.inl rfl) (pmeth0 (pv 0) T.c_Parts T.m_Parts_take G_Parts_take hr))
    (pss_cons (ps_if (pt_not (pt_val (pcall G_is_word hr T.g_is_word (pa_cons (pv 2) pa_nil)))) (pss_one ps_never) pss_nil)
    (pss_one (ps_ret (pmake T.mk_Test G_Test_init hr T.g_Test (pa_cons (pv 1) (pa_cons (pv 2) pa_nil)))))))))), ?_⟩
    walk_at "v"
    refine ⟨hp.is, ?_⟩
    walk_at "v"
    have fin : ∀ {H2 H3 : Hp} {j : Nat} {kv wv : V} {x dx : Addr}, j = i + ts.length → PtAt K H2 p r ps j → Exx [p] H H2 → H2 x = none → H2 dx = none → H3 x = some (.ins (He.ga K "Test") dx [("key", kv), ("word", wv)]) → Exx [x] (upd (upd H2 dx (.own x)) x (.ins (He.ga K "Test") dx [])) H3 →
        ((kv = .non ∧ wv = .non ∧ m = fun _ => true) ∨ (∃ k, kv = vS k ∧ wv = .non ∧ isName (S k) = true ∧ m = fun s => (wordOf s k).isSome) ∨ ∃ k x, kv = vS k ∧ wv = vS x ∧ isName (S k) = true ∧ isWord (S x) = true ∧ m = fun s => decide (wordOf s k = some x)) → Q (.ref x) H3 := by
      intro H2 H3 j kv wv x dx hj h2 e2 nx nd h3 e3 ht
      subst hj
      have e4 := made_ex nx nd e3
      exact k _ _ (h2.ex e4) (e2.trans (Exx.of e4)) ⟨x, dx, kv, wv, rfl, h3, ht⟩
    rcases ht with ⟨rfl, hm⟩ | ⟨kk, rfl, hk, hm⟩ | ⟨kk, ww, rfl, hk, hw, hm⟩
    · have e0 : headOf ps i = pALL := head_drop hd
      have d1 : ps.drop (i + 1) = rest := drop_next hd
      refine ⟨p, r, ps, i, rfl, hp, by rw [e0]; decide +kernel, fun H1 h1 e1 => ?_⟩
      rw [e0]
      walk_at "v"
      refine ⟨h1.is, ?_⟩
      walk_at "v"
      refine ⟨p, r, ps, i + 1, pEQ, rfl, h1, fun ne => ?_, fun eq => absurd (head_drop d1 ▸ eq) hrest⟩
      walk_at "v"
      rw [show decide (vS pALL = V.str "all") = true from by decide +kernel]
      walk_at "v"
      intro x dx nx nd _
      refine ⟨x, dx, _, _, rfl, upd_same, fun H3 h3 e3 => ⟨rfl, ?_⟩⟩
      exact fin rfl h1 e1 nx nd h3 e3 (.inl ⟨rfl, rfl, hm⟩)
    · have e0 : headOf ps i = kk := head_drop hd
      have d1 := drop_next hd
      have e1' : headOf ps (i + 1) = pEQ := head_drop d1
      have d2 := drop_next d1
      have e2' : headOf ps (i + 1 + 1) = pST := head_drop d2
      refine ⟨p, r, ps, i, rfl, hp, by rw [e0]; exact hk, fun H1 h1 e1 => ?_⟩
      rw [e0]
      walk_at "v"
      refine ⟨h1.is, ?_⟩
      walk_at "v"
      refine ⟨p, r, ps, i + 1, pEQ, rfl, h1, fun ne => absurd e1' ne, fun _ H2 h2 e2 => ?_⟩
      walk_at "v"
      walk_at "v"
      refine ⟨h2.is, ?_⟩
      walk_at "v"
      refine ⟨p, r, ps, i + 1 + 1, pST, rfl, h2, fun ne => absurd e2' ne, fun _ H3 h3 e3 => ?_⟩
      walk_at "v"
      intro x dx nx nd _
      refine ⟨x, dx, _, _, rfl, upd_same, fun H4 h4 e4 => ⟨rfl, ?_⟩⟩
      exact fin rfl h3 ((e1.trans e2).trans e3) nx nd h4 e4 (.inr (.inl ⟨kk, rfl, rfl, hk, hm⟩))
    · have e0 : headOf ps i = kk := head_drop hd
      have d1 := drop_next hd
      have e1' : headOf ps (i + 1) = pEQ := head_drop d1
      have d2 := drop_next d1
      have e2' : headOf ps (i + 1 + 1) = ww := head_drop d2
      have nst : ww ≠ pST := fun q => by
        rw [q] at hw
        exact absurd hw (by decide +kernel)
      refine ⟨p, r, ps, i, rfl, hp, by rw [e0]; exact hk, fun H1 h1 e1 => ?_⟩
      rw [e0]
      walk_at "v"
      refine ⟨h1.is, ?_⟩
      walk_at "v"
      refine ⟨p, r, ps, i + 1, pEQ, rfl, h1, fun ne => absurd e1' ne, fun _ H2 h2 e2 => ?_⟩
      walk_at "v"
      walk_at "v"
      refine ⟨h2.is, ?_⟩
      walk_at "v"
      refine ⟨p, r, ps, i + 1 + 1, pST, rfl, h2, fun _ => ?_, fun q => absurd (e2'.symm.trans q) nst⟩
      walk_at "v"
      refine ⟨h2.is, ?_⟩
      walk_at "v"
      refine ⟨p, r, ps, i + 1 + 1, rfl, h2, fun H3 h3 e3 => ?_⟩
      rw [e2']
      walk_at "v"
      refine u_of (by have := (isFile_len (isWord_file hw)).2; omega) fun H4 e4 => ?_
      walk_at "v"
      rw [hw]
      walk_at "v"
      intro x dx nx nd _
      refine ⟨x, dx, _, _, rfl, upd_same, fun H5 h5 e5 => ⟨rfl, ?_⟩⟩
      exact fin rfl (h3.ex e4) (((e1.trans e2).trans e3).trans (Exx.of e4)) nx nd h5 e5 (.inr (.inr ⟨kk, ww, rfl, rfl, hk, hw, hm⟩))
end
end
set_option Elab.async false
set_option linter.all false
set_option maxRecDepth 100000
set_option maxHeartbeats 4000000
/-! read_one, read_each, read_any. -/
section
open PySem PySem.Spec PyProof.Rows L2
open Evl (Ex given)

def tailOf (sg : List Nat) (as : List (List (List Nat))) : List (List Nat) := as.flatMap fun a => sg :: a
theorem inter_cons (sg : List Nat) : ∀ (a : List (List Nat)) (r : List (List (List Nat))), inter sg (a :: r) = a ++ tailOf sg r
  | a, [] => by simp [inter, tailOf]
  | a, b :: r => by
    show a ++ sg :: inter sg (b :: r) = _
    rw [inter_cons sg b r]
    simp [tailOf]
theorem tailOf_cons (sg : List Nat) (a : List (List Nat)) (r : List (List (List Nat))) : tailOf sg (a :: r) = sg :: (a ++ tailOf sg r) := by simp [tailOf]
theorem tailOf_len (sg : List Nat) : ∀ r : List (List (List Nat)), r.length ≤ (tailOf sg r).length
  | [] => Nat.le_refl _
  | a :: r => by
    rw [tailOf_cons]
    have := tailOf_len sg r
    simp only [List.length_cons, List.length_append]
    omega
/-- what keeps trees: all but the reader at p -/
theorem TrP.exx {K : PySem.W.Frag} {N N' : Addr → Prop} {H H' : Hp} {p r : Addr} {ps : List (List Nat)} {i : Nat} (hp : PtAt K H p r ps i) (e : Exx [p] H H') (hn : ∀ a xs, H a = some (.lst xs) → N a → N' a) {n : Nat} {v : V} {m : Mn} (h : TrP K N H n v m) : TrP K N' H' n v m := by
  obtain ⟨dx, h0⟩ := hp.ob
  have k : ∀ a o, H a = some o → o ≠ .ins (He.ga K "Parts") dx [("row", .ref r), ("at", .int (i : Nat))] → H' a = some o := fun a o q n => e a o q (by simpa using ne_of q h0 n)
  refine TrP.of (fun a dx' kv wv q => k a _ q fun z => ?_) (fun a xs q => k a _ q (by intro z; cases z)) (fun a xs q hN => ⟨k a _ q (by intro z; cases z), hn _ _ q hN⟩) _ _ _ h
  injection z with _ _ z
  injection z with z _
  injection z with z _
  exact absurd z (by decide +kernel)
section
variable {P : Program} {w : World} {K : PySem.W.Frag} {mg : Str → Option Value} {base : Heap}
def spRd (K : PySem.W.Frag) (d : Nat) (Gr : List (List Nat) → Mn → Prop) (nx : List Nat → Prop) : Sp := fun vs H Q _ => ∃ (p r : Addr) (ps ts : List (List Nat)) (i : Nat) (m : Mn) (rest : List (List Nat)), vs = [.ref p] ∧ PtAt K H p r ps i ∧ ps.drop i = ts ++ rest ∧ Gr ts m ∧ nx (rest.headD []) ∧
  ∀ v H', PtAt K H' p r ps (i + ts.length) → Exx [p] H H' → TrP K (fun a => H a = none) H' d v m → Q v H'
abbrev nx1 (t : List Nat) : Prop := t ≠ pEQ
abbrev nx2 (t : List Nat) : Prop := t ≠ pEQ ∧ t ≠ pAND
abbrev nx3 (t : List Nat) : Prop := t ≠ pEQ ∧ t ≠ pAND ∧ t ≠ pOR
theorem sc_read_one : FnScope ["parts", "found"] ["parts"] (defScope s_read_one) := ⟨rfl, rfl, rfl, by decide +kernel, rfl, by decide +kernel, by decide +kernel⟩
theorem sc_read_each : FnScope ["parts", "found"] ["parts"] (defScope s_read_each) := ⟨rfl, rfl, rfl, by decide +kernel, rfl, by decide +kernel, by decide +kernel⟩
theorem sc_read_any : FnScope ["parts", "found"] ["parts"] (defScope s_read_any) := ⟨rfl, rfl, rfl, by decide +kernel, rfl, by decide +kernel, by decide +kernel⟩
theorem test_head {ts : List (List Nat)} {m : Mn} (h : TestP ts m) : ts.headD [] ≠ pNOT ∧ ts.headD [] ≠ pL ∧ ts ≠ [] := by
  rcases h with ⟨rfl, _⟩ | ⟨k, rfl, hk, _⟩ | ⟨k, x, rfl, hk, _, _⟩
  · exact ⟨by decide, by decide, by simp⟩
  · refine ⟨fun q => ?_, fun q => ?_, by simp⟩ <;> (have q' : k = _ := q; rw [q'] at hk; exact absurd hk (by decide +kernel))
  · refine ⟨fun q => ?_, fun q => ?_, by simp⟩ <;> (have q' : k = _ := q; rw [q'] at hk; exact absurd hk (by decide +kernel))
theorem headD_app {a b : List (List Nat)} (h : a ≠ []) : (a ++ b).headD [] = a.headD [] := by
  cases a with
  | nil => exact absurd rfl h
  | cons x r => rfl
theorem ok_read_each (T : Txt K mg) {d k : Nat} {Gr : List (List Nat) → Mn → Prop} (hk : 2 ≤ k) (hnil : ∀ ts m, Gr ts m → ts ≠ []) (G_read_one : GoodP P w K mg base "read_one" k ["parts"] (spRd K d Gr nx1)) : GoodP P w K mg base "read_each" (k + 1) ["parts"] (spRd K (d + 1) (EachOf Gr) nx2) := by
  have G_Parts_took := ok_Parts_took (P := P) (w := w) (base := base) T
  obtain ⟨fd, F⟩ := T.f_read_each
  refine good_of F sc_read_each (fun vs H Q E h => ?_) (fun _ _ _ _ _ _ us hl => match us, hl with | [_], _ => rfl) (fun cdv A outer s H vs Q E hr h => ?_)
  · obtain ⟨p, r, ps, ts, i, m, rest, rfl, _⟩ := h
    rfl
  · obtain ⟨p, r, ps, ts, i, m, rest, rfl, hp, hd, ⟨xs, hxs, hall, rfl, rfl⟩, hrest, k⟩ := h
    refine ⟨_, (pss_cons (ps_set (i := 1) sc_read_each.nd rfl (Or.inl rfl) (pe_lst (pa_cons (pcall G_read_one hr T.g_read_one (pa_cons (pv 0) pa_nil)) pa_nil)))
    (pss_cons (ps_while PassesOwn.never (pt_val (pmeth (pv 0) T.c_Parts T.m_Parts_took G_Parts_took hr (pa_cons (pe_kstr (T.k_AND)) pa_nil)))
    (pss_one (ps_expr (pe_bm PySem.F.plainAttrs_list PySem.F.slot_list_append PySem.F.type_list_append mt_append (pv 1) (pa_cons (pcall G_read_one hr T.g_read_one (pa_cons (pv 0) pa_nil)) pa_nil)))))
    (pss_one (ps_ret (pe_ifExp (pt_cmpR op_eq (pe_callB call_lenN rfl T.z_len (by decide +kernel) (pa_cons (pv 1) pa_nil)) pe_int (nomark _)) (pe_ix ix_list (pv 1) pe_int (fun _ _ => rfl)) (pe_tup (pa_cons (pe_kstr (T.k_AND)) (pa_cons (pv 1) pa_nil)))))))), ?_⟩
    cases xs with
    | nil => exact absurd rfl hxs
    | cons x0 xr =>
      have hlen : (tailOf pAND (xr.map (·.1))).length ≤ ps.length := by
        have q := congrArg List.length hd
        rw [List.map_cons, inter_cons, List.length_append, List.length_append, List.length_drop] at q
        omega
      have hxr : xr.length ≤ 900 := by
        have q := tailOf_len pAND (xr.map (·.1))
        rw [List.length_map] at q
        have := hp.small
        omega
      rw [List.map_cons, inter_cons, List.append_assoc] at hd
      have hnx : ∀ yr : List (List (List Nat) × Mn), nx1 ((tailOf pAND (yr.map (·.1)) ++ rest).headD []) := by
        intro yr
        cases yr with
        | nil => exact hrest.1
        | cons y yr =>
          rw [List.map_cons, tailOf_cons]
          show nx1 pAND
          decide
      have hst : pAND ≠ rest.headD [] := fun q => hrest.2 q.symm
      walk_at "v"
      refine ⟨p, r, ps, x0.1, i, x0.2, tailOf pAND (xr.map (·.1)) ++ rest, rfl, hp, hd, hall _ (by simp), hnx xr, fun v0 H1 h1 e1 t1 => ?_⟩
      walk_at "v"
      intro fl hfl
      walk_at "v"
      have hd1 : ps.drop (i + x0.1.length) = tailOf pAND (xr.map (·.1)) ++ rest := by
        rw [← List.drop_drop, hd, List.drop_left]
      have hflH : H fl = none := by
        cases q : H fl with
        | none => rfl
        | some o =>
          by_cases hpf : fl = p
          · subst hpf
            obtain ⟨dx, h1'⟩ := h1.ob
            rw [hfl] at h1'
            cases h1'
          · rw [e1 fl o q (by simpa using hpf)] at hfl
            cases hfl
      refine ⟨fun n σ H2 => ∃ (done : List (V × Mn)) (pos : Nat) (suf : List (List (List Nat) × Mn)), σ = [some (.ref p), some (.ref fl)] ∧ n = suf.length ∧ ps.drop pos = tailOf pAND (suf.map (·.1)) ++ rest ∧ PtAt K H2 p r ps pos ∧ Exx [p] H H2 ∧
        pos + (tailOf pAND (suf.map (·.1))).length = i + (inter pAND ((x0 :: xr).map (·.1))).length ∧ H2 fl = some (.lst (done.map (·.1))) ∧ (∀ x ∈ done, TrP K (fun a => H a = none ∧ a ≠ fl) H2 d x.1 x.2) ∧ done.map (·.2) ++ suf.map (·.2) = (x0 :: xr).map (·.2) ∧ done.length + suf.length = xr.length + 1 ∧ 1 ≤ done.length ∧ (∀ x ∈ suf, Gr x.1 x.2),
        ⟨_, [(v0, x0.2)], _, xr, rfl, rfl, hd1, h1.ex (Ex.mut (Ex.refl H1) hfl), e1.add hflH, ?_, upd_same, ?_, rfl, by simp; omega, by simp, fun x hx => hall x (by simp [hx])⟩, ?_⟩
      · rw [List.map_cons, inter_cons, List.length_append]
        omega
      · intro x hx
        rw [List.mem_singleton] at hx
        subst hx
        refine TrP.of (fun a dx kv wv q => ?_) (fun a xs q => ?_) (fun a xs q hN => ⟨?_, hN, ?_⟩) _ _ _ t1
        · rw [upd_ne (ne_of_none q hfl)]
          exact q
        · rw [upd_ne (ne_of_none q hfl)]
          exact q
        · rw [upd_ne (ne_of_none q hfl)]
          exact q
        · exact ne_of_none q hfl
      · rintro n σ H2 ⟨done, pos, suf, rfl, rfl, hds, h2, e2, hpos, hl2, htr, hms, hls, hd1', hsu⟩
        walk_at "v"
        refine ⟨h2.is, ?_⟩
        walk_at "v"
        cases suf with
        | nil =>
          rw [List.map_nil] at hds
          have hh : headOf ps pos = rest.headD [] := head_drop hds
          refine ⟨p, r, ps, pos, pAND, rfl, h2, fun _ => ?_, fun q => absurd (q.symm.trans hh) hst⟩
          walk_at "v"
          rw [List.length_nil, Nat.add_zero] at hls
          have hpos' : pos = i + (inter pAND ((x0 :: xr).map (·.1))).length := hpos
          have hms' : done.map (·.2) = (x0 :: xr).map (·.2) := by
            rw [← hms, List.map_nil, List.append_nil]
          rw [hpos'] at h2
          refine ite2 (fun hone => ?_) (fun hone => ?_)
          · walk_at "v"
            have h1l : done.length = 1 := by
              have q := of_decide_eq_true hone
              injection q with q
              rw [List.length_map] at q
              omega
            obtain ⟨dn, rfl⟩ := List.length_eq_one_iff.mp h1l
            · refine r_ixL (SqL.of hl2) (atI_nat (j := 0) (v := dn.1) rfl) ?_
              have hm1 : allM ((x0 :: xr).map (·.2)) = dn.2 := by
                rw [← hms']
                funext s
                simp [allM]
              refine k _ _ h2 e2 ?_
              rw [hm1]
              exact ((htr dn (by simp)).imp fun a xs _ q => q.1).up
          · walk_at "v"
            intro pt hpt
            have h1l : 1 < done.length := by
              rcases Nat.lt_or_ge 1 done.length with q | q
              · exact q
              · refine absurd (decide_eq_true ?_) hone
                rw [List.length_map]
                have : done.length = 1 := by omega
                rw [this]
                rfl
            refine k _ _ (h2.ex (Ex.mut (Ex.refl _) hpt)) (e2.trans (Exx.of (Ex.mut (Ex.refl _) hpt))) ?_
            refine .inr ⟨pt, fl, rfl, hflH, .inr ⟨true, done, upd_same, ?_, h1l, by omega, fun x hx => ?_, ?_⟩⟩
            · rw [upd_ne (ne_of_none hl2 hpt)]
              exact hl2
            · exact ((htr x hx).imp fun a xs _ q => q.1).ex (Ex.mut (Ex.refl _) hpt)
            · rw [hms']
              rfl
        | cons y yr =>
          rw [List.map_cons, tailOf_cons, List.cons_append, List.append_assoc] at hds
          have hh : headOf ps pos = pAND := head_drop hds
          have hdn := drop_next hds
          refine ⟨p, r, ps, pos, pAND, rfl, h2, fun q => absurd hh q, fun _ H3 h3 e3 => ?_⟩
          walk_at "v"
          refine ⟨fun σ H4 => σ = [some (.ref p), some (.ref fl)] ∧ ∃ vn, TrP K (fun a => H a = none ∧ a ≠ fl) H4 d vn y.2 ∧ PtAt K H4 p r ps (pos + 1 + y.1.length) ∧ Exx [p] H H4 ∧ H4 fl = some (.lst (done.map (·.1) ++ [vn])) ∧ (∀ x ∈ done, TrP K (fun a => H a = none ∧ a ≠ fl) H4 d x.1 x.2), ?_, ?_⟩
          · rintro σ' H4 ⟨rfl, vn, tn, h4, e4, hl4, htr4⟩
            refine ⟨yr.length, Nat.lt_succ_self _, done ++ [(vn, y.2)], _, yr, rfl, rfl, ?_, h4, e4, ?_, ?_, ?_, ?_, ?_, ?_, fun x hx => hsu x (by simp [hx])⟩
            · rw [← List.drop_drop, hdn, List.drop_left]
            · rw [← hpos, List.map_cons, tailOf_cons, List.length_cons, List.length_append]
              omega
            · rw [hl4, List.map_append]
              rfl
            · intro x hx
              rw [List.mem_append, List.mem_singleton] at hx
              rcases hx with hx | hx
              · exact htr4 x hx
              · subst hx
                exact tn
            · rw [← hms, List.map_append, List.map_cons, List.append_assoc]
              rfl
            · rw [List.length_append, List.length_singleton, ← hls, List.length_cons]
              omega
            · rw [List.length_append, List.length_singleton]
              omega
          · have hnep : fl ≠ p := by
              obtain ⟨dx, h3'⟩ := h2.ob
              exact ne_of hl2 h3' (by intro z; cases z)
            have hl3 : H3 fl = some (.lst (done.map (·.1))) := e3 _ _ hl2 (by simpa using hnep)
            walk_at "v"
            refine ⟨p, r, ps, y.1, pos + 1, y.2, tailOf pAND (yr.map (·.1)) ++ rest, rfl, h3, hdn, hsu _ (by simp), hnx yr, fun vn H4 h4 e4 t4 => ?_⟩
            have hl4 : H4 fl = some (.lst (done.map (·.1))) := e4 _ _ hl3 (by simpa using hnep)
            walk_at "v"
            refine r_append hl4 (by rw [List.length_map]; simp only [List.length_cons] at hls; omega) ?_
            have kp : ∀ n v m, TrP K (fun a => H a = none ∧ a ≠ fl) H4 n v m → TrP K (fun a => H a = none ∧ a ≠ fl) (upd H4 fl (.lst (done.map (·.1) ++ [vn]))) n v m := by
              refine TrP.of (fun a dx kv wv q => ?_) (fun a xs q => ?_) (fun a xs q hN => ⟨?_, hN⟩)
              · rw [upd_ne (ne_of q hl4 (by intro z; cases z))]
                exact q
              · rw [upd_ne (ne_of q hl4 (by intro z; cases z))]
                exact q
              · rw [upd_ne hN.2]
                exact q
            have e5 := (e2.trans e3).trans e4
            refine ⟨rfl, vn, kp _ _ _ ?_, ?_, e5.add hflH, upd_same, fun x hx => kp _ _ _ ?_⟩
            · refine t4.imp fun a xs _ hN => ?_
              have q3 : H a = none := by
                cases q : H a with
                | none => rfl
                | some o =>
                  by_cases hpa : a = p
                  · subst hpa
                    obtain ⟨dx, h3'⟩ := h3.ob
                    rw [hN] at h3'
                    cases h3'
                  · rw [(e2.trans e3) a o q (by simpa using hpa)] at hN
                    cases hN
              exact ⟨q3, fun z => by rw [z, hl3] at hN; cases hN⟩
            · obtain ⟨⟨dx, h4'⟩, h5, h6⟩ := h4
              refine ⟨⟨dx, ?_⟩, ?_, h6⟩
              · rw [upd_ne hnep.symm]
                exact h4'
              · rw [upd_ne]
                · exact h5
                · intro z
                  rw [z] at h5
                  have hr0 := hp.row
                  rw [z, hflH] at hr0
                  cases hr0
            · exact (htr x hx).exx h2 e3 (fun a xs _ q => q) |>.exx h3 e4 (fun a xs _ q => q)
theorem ok_read_any (T : Txt K mg) {d k : Nat} {Gr : List (List Nat) → Mn → Prop} (hk : 2 ≤ k) (hnil : ∀ ts m, Gr ts m → ts ≠ []) (G_read_each : GoodP P w K mg base "read_each" k ["parts"] (spRd K d Gr nx2)) : GoodP P w K mg base "read_any" (k + 1) ["parts"] (spRd K (d + 1) (AnyOf Gr) nx3) := by
  have G_Parts_took := ok_Parts_took (P := P) (w := w) (base := base) T
  obtain ⟨fd, F⟩ := T.f_read_any
  refine good_of F sc_read_any (fun vs H Q E h => ?_) (fun _ _ _ _ _ _ us hl => match us, hl with | [_], _ => rfl) (fun cdv A outer s H vs Q E hr h => ?_)
  · obtain ⟨p, r, ps, ts, i, m, rest, rfl, _⟩ := h
    rfl
  · obtain ⟨p, r, ps, ts, i, m, rest, rfl, hp, hd, ⟨xs, hxs, hall, rfl, rfl⟩, hrest, k⟩ := h
    refine ⟨_, (pss_cons (ps_set (i := 1) sc_read_any.nd rfl (Or.inl rfl) (pe_lst (pa_cons (pcall G_read_each hr T.g_read_each (pa_cons (pv 0) pa_nil)) pa_nil)))
    (pss_cons (ps_while PassesOwn.never (pt_val (pmeth (pv 0) T.c_Parts T.m_Parts_took G_Parts_took hr (pa_cons (pe_kstr (T.k_OR)) pa_nil)))
    (pss_one (ps_expr (pe_bm PySem.F.plainAttrs_list PySem.F.slot_list_append PySem.F.type_list_append mt_append (pv 1) (pa_cons (pcall G_read_each hr T.g_read_each (pa_cons (pv 0) pa_nil)) pa_nil)))))
    (pss_one (ps_ret (pe_ifExp (pt_cmpR op_eq (pe_callB call_lenN rfl T.z_len (by decide +kernel) (pa_cons (pv 1) pa_nil)) pe_int (nomark _)) (pe_ix ix_list (pv 1) pe_int (fun _ _ => rfl)) (pe_tup (pa_cons (pe_kstr (T.k_OR)) (pa_cons (pv 1) pa_nil)))))))), ?_⟩
    cases xs with
    | nil => exact absurd rfl hxs
    | cons x0 xr =>
      have hlen : (tailOf pOR (xr.map (·.1))).length ≤ ps.length := by
        have q := congrArg List.length hd
        rw [List.map_cons, inter_cons, List.length_append, List.length_append, List.length_drop] at q
        omega
      have hxr : xr.length ≤ 900 := by
        have q := tailOf_len pOR (xr.map (·.1))
        rw [List.length_map] at q
        have := hp.small
        omega
      rw [List.map_cons, inter_cons, List.append_assoc] at hd
      have hnx : ∀ yr : List (List (List Nat) × Mn), nx2 ((tailOf pOR (yr.map (·.1)) ++ rest).headD []) := by
        intro yr
        cases yr with
        | nil => exact ⟨hrest.1, hrest.2.1⟩
        | cons y yr =>
          rw [List.map_cons, tailOf_cons]
          show nx2 pOR
          decide
      have hst : pOR ≠ rest.headD [] := fun q => hrest.2.2 q.symm
      walk_at "v"
      refine ⟨p, r, ps, x0.1, i, x0.2, tailOf pOR (xr.map (·.1)) ++ rest, rfl, hp, hd, hall _ (by simp), hnx xr, fun v0 H1 h1 e1 t1 => ?_⟩
      walk_at "v"
      intro fl hfl
      walk_at "v"
      have hd1 : ps.drop (i + x0.1.length) = tailOf pOR (xr.map (·.1)) ++ rest := by
        rw [← List.drop_drop, hd, List.drop_left]
      have hflH : H fl = none := by
        cases q : H fl with
        | none => rfl
        | some o =>
          by_cases hpf : fl = p
          · subst hpf
            obtain ⟨dx, h1'⟩ := h1.ob
            rw [hfl] at h1'
            cases h1'
          · rw [e1 fl o q (by simpa using hpf)] at hfl
            cases hfl
      refine ⟨fun n σ H2 => ∃ (done : List (V × Mn)) (pos : Nat) (suf : List (List (List Nat) × Mn)), σ = [some (.ref p), some (.ref fl)] ∧ n = suf.length ∧ ps.drop pos = tailOf pOR (suf.map (·.1)) ++ rest ∧ PtAt K H2 p r ps pos ∧ Exx [p] H H2 ∧
        pos + (tailOf pOR (suf.map (·.1))).length = i + (inter pOR ((x0 :: xr).map (·.1))).length ∧ H2 fl = some (.lst (done.map (·.1))) ∧ (∀ x ∈ done, TrP K (fun a => H a = none ∧ a ≠ fl) H2 d x.1 x.2) ∧ done.map (·.2) ++ suf.map (·.2) = (x0 :: xr).map (·.2) ∧ done.length + suf.length = xr.length + 1 ∧ 1 ≤ done.length ∧ (∀ x ∈ suf, Gr x.1 x.2),
        ⟨_, [(v0, x0.2)], _, xr, rfl, rfl, hd1, h1.ex (Ex.mut (Ex.refl H1) hfl), e1.add hflH, ?_, upd_same, ?_, rfl, by simp; omega, by simp, fun x hx => hall x (by simp [hx])⟩, ?_⟩
      · rw [List.map_cons, inter_cons, List.length_append]
        omega
      · intro x hx
        rw [List.mem_singleton] at hx
        subst hx
        refine TrP.of (fun a dx kv wv q => ?_) (fun a xs q => ?_) (fun a xs q hN => ⟨?_, hN, ?_⟩) _ _ _ t1
        · rw [upd_ne (ne_of_none q hfl)]
          exact q
        · rw [upd_ne (ne_of_none q hfl)]
          exact q
        · rw [upd_ne (ne_of_none q hfl)]
          exact q
        · exact ne_of_none q hfl
      · rintro n σ H2 ⟨done, pos, suf, rfl, rfl, hds, h2, e2, hpos, hl2, htr, hms, hls, hd1', hsu⟩
        walk_at "v"
        refine ⟨h2.is, ?_⟩
        walk_at "v"
        cases suf with
        | nil =>
          rw [List.map_nil] at hds
          have hh : headOf ps pos = rest.headD [] := head_drop hds
          refine ⟨p, r, ps, pos, pOR, rfl, h2, fun _ => ?_, fun q => absurd (q.symm.trans hh) hst⟩
          walk_at "v"
          rw [List.length_nil, Nat.add_zero] at hls
          have hpos' : pos = i + (inter pOR ((x0 :: xr).map (·.1))).length := hpos
          have hms' : done.map (·.2) = (x0 :: xr).map (·.2) := by
            rw [← hms, List.map_nil, List.append_nil]
          rw [hpos'] at h2
          refine ite2 (fun hone => ?_) (fun hone => ?_)
          · walk_at "v"
            have h1l : done.length = 1 := by
              have q := of_decide_eq_true hone
              injection q with q
              rw [List.length_map] at q
              omega
            obtain ⟨dn, rfl⟩ := List.length_eq_one_iff.mp h1l
            · refine r_ixL (SqL.of hl2) (atI_nat (j := 0) (v := dn.1) rfl) ?_
              have hm1 : anyM ((x0 :: xr).map (·.2)) = dn.2 := by
                rw [← hms']
                funext s
                simp [anyM]
              refine k _ _ h2 e2 ?_
              rw [hm1]
              exact ((htr dn (by simp)).imp fun a xs _ q => q.1).up
          · walk_at "v"
            intro pt hpt
            have h1l : 1 < done.length := by
              rcases Nat.lt_or_ge 1 done.length with q | q
              · exact q
              · refine absurd (decide_eq_true ?_) hone
                rw [List.length_map]
                have : done.length = 1 := by omega
                rw [this]
                rfl
            refine k _ _ (h2.ex (Ex.mut (Ex.refl _) hpt)) (e2.trans (Exx.of (Ex.mut (Ex.refl _) hpt))) ?_
            refine .inr ⟨pt, fl, rfl, hflH, .inr ⟨false, done, upd_same, ?_, h1l, by omega, fun x hx => ?_, ?_⟩⟩
            · rw [upd_ne (ne_of_none hl2 hpt)]
              exact hl2
            · exact ((htr x hx).imp fun a xs _ q => q.1).ex (Ex.mut (Ex.refl _) hpt)
            · rw [hms']
              rfl
        | cons y yr =>
          rw [List.map_cons, tailOf_cons, List.cons_append, List.append_assoc] at hds
          have hh : headOf ps pos = pOR := head_drop hds
          have hdn := drop_next hds
          refine ⟨p, r, ps, pos, pOR, rfl, h2, fun q => absurd hh q, fun _ H3 h3 e3 => ?_⟩
          walk_at "v"
          refine ⟨fun σ H4 => σ = [some (.ref p), some (.ref fl)] ∧ ∃ vn, TrP K (fun a => H a = none ∧ a ≠ fl) H4 d vn y.2 ∧ PtAt K H4 p r ps (pos + 1 + y.1.length) ∧ Exx [p] H H4 ∧ H4 fl = some (.lst (done.map (·.1) ++ [vn])) ∧ (∀ x ∈ done, TrP K (fun a => H a = none ∧ a ≠ fl) H4 d x.1 x.2), ?_, ?_⟩
          · rintro σ' H4 ⟨rfl, vn, tn, h4, e4, hl4, htr4⟩
            refine ⟨yr.length, Nat.lt_succ_self _, done ++ [(vn, y.2)], _, yr, rfl, rfl, ?_, h4, e4, ?_, ?_, ?_, ?_, ?_, ?_, fun x hx => hsu x (by simp [hx])⟩
            · rw [← List.drop_drop, hdn, List.drop_left]
            · rw [← hpos, List.map_cons, tailOf_cons, List.length_cons, List.length_append]
              omega
            · rw [hl4, List.map_append]
              rfl
            · intro x hx
              rw [List.mem_append, List.mem_singleton] at hx
              rcases hx with hx | hx
              · exact htr4 x hx
              · subst hx
                exact tn
            · rw [← hms, List.map_append, List.map_cons, List.append_assoc]
              rfl
            · rw [List.length_append, List.length_singleton, ← hls, List.length_cons]
              omega
            · rw [List.length_append, List.length_singleton]
              omega
          · have hnep : fl ≠ p := by
              obtain ⟨dx, h3'⟩ := h2.ob
              exact ne_of hl2 h3' (by intro z; cases z)
            have hl3 : H3 fl = some (.lst (done.map (·.1))) := e3 _ _ hl2 (by simpa using hnep)
            walk_at "v"
            refine ⟨p, r, ps, y.1, pos + 1, y.2, tailOf pOR (yr.map (·.1)) ++ rest, rfl, h3, hdn, hsu _ (by simp), hnx yr, fun vn H4 h4 e4 t4 => ?_⟩
            have hl4 : H4 fl = some (.lst (done.map (·.1))) := e4 _ _ hl3 (by simpa using hnep)
            walk_at "v"
            refine r_append hl4 (by rw [List.length_map]; simp only [List.length_cons] at hls; omega) ?_
            have kp : ∀ n v m, TrP K (fun a => H a = none ∧ a ≠ fl) H4 n v m → TrP K (fun a => H a = none ∧ a ≠ fl) (upd H4 fl (.lst (done.map (·.1) ++ [vn]))) n v m := by
              refine TrP.of (fun a dx kv wv q => ?_) (fun a xs q => ?_) (fun a xs q hN => ⟨?_, hN⟩)
              · rw [upd_ne (ne_of q hl4 (by intro z; cases z))]
                exact q
              · rw [upd_ne (ne_of q hl4 (by intro z; cases z))]
                exact q
              · rw [upd_ne hN.2]
                exact q
            have e5 := (e2.trans e3).trans e4
            refine ⟨rfl, vn, kp _ _ _ ?_, ?_, e5.add hflH, upd_same, fun x hx => kp _ _ _ ?_⟩
            · refine t4.imp fun a xs _ hN => ?_
              have q3 : H a = none := by
                cases q : H a with
                | none => rfl
                | some o =>
                  by_cases hpa : a = p
                  · subst hpa
                    obtain ⟨dx, h3'⟩ := h3.ob
                    rw [hN] at h3'
                    cases h3'
                  · rw [(e2.trans e3) a o q (by simpa using hpa)] at hN
                    cases hN
              exact ⟨q3, fun z => by rw [z, hl3] at hN; cases hN⟩
            · obtain ⟨⟨dx, h4'⟩, h5, h6⟩ := h4
              refine ⟨⟨dx, ?_⟩, ?_, h6⟩
              · rw [upd_ne hnep.symm]
                exact h4'
              · rw [upd_ne]
                · exact h5
                · intro z
                  rw [z] at h5
                  have hr0 := hp.row
                  rw [z, hflH] at hr0
                  cases hr0
            · exact (htr x hx).exx h2 e3 (fun a xs _ q => q) |>.exx h3 e4 (fun a xs _ q => q)
def OneOf (G1 G2 : List (List Nat) → Mn → Prop) (ts : List (List Nat)) (m : Mn) : Prop := TestP ts m ∨ (∃ u m', ts = pNOT :: u ∧ G1 u m' ∧ m = fun s => !m' s) ∨ ∃ u, ts = pL :: (u ++ [pR]) ∧ G2 u m
theorem ok_read_one (T : Txt K mg) {d k : Nat} {G1 G2 : List (List Nat) → Mn → Prop} (hk : 4 ≤ k) (G_read_one : GoodP P w K mg base "read_one" k ["parts"] (spRd K d G1 nx1)) (G_read_any : GoodP P w K mg base "read_any" k ["parts"] (spRd K d G2 nx3)) :
    GoodP P w K mg base "read_one" (k + 1) ["parts"] (spRd K (d + 1) (OneOf G1 G2) nx1) := by
  have G_Parts_took := ok_Parts_took (P := P) (w := w) (base := base) T
  have G_Parts_must := ok_Parts_must (P := P) (w := w) (base := base) T
  have G_read_test := ok_read_test (P := P) (w := w) (base := base) T
  obtain ⟨fd, F⟩ := T.f_read_one
  refine good_of F sc_read_one (fun vs H Q E h => ?_) (fun _ _ _ _ _ _ us hl => match us, hl with | [_], _ => rfl) (fun cdv A outer s H vs Q E hr h => ?_)
  · obtain ⟨p, r, ps, ts, i, m, rest, rfl, _⟩ := h
    rfl
  · obtain ⟨p, r, ps, ts, i, m, rest, rfl, hp, hd, ht, hrest, k⟩ := h
    refine ⟨_, (pss_cons (ps_if (pt_val (pmeth (pv 0) T.c_Parts T.m_Parts_took G_Parts_took hr (pa_cons (pe_kstr (T.k_NOT)) pa_nil))) (pss_one (ps_ret (pe_tup (pa_cons (pe_kstr (T.k_NOT)) (pa_cons (pe_lst (pa_cons (pcall G_read_one hr T.g_read_one (pa_cons (pv 0) pa_nil)) pa_nil)) pa_nil))))) pss_nil)
    (pss_cons (ps_if (pt_not (pt_val (pmeth (pv 0) T.c_Parts T.m_Parts_took G_Parts_took hr (pa_cons pe_str pa_nil)))) (pss_one (ps_ret (pcall G_read_test hr T.g_read_test (pa_cons (pv 0) pa_nil)))) pss_nil)
    (pss_cons (ps_set (i := 1) sc_read_one.nd rfl (Or.inl rfl) (pcall G_read_any hr T.g_read_any (pa_cons (pv 0) pa_nil)))
    (pss_cons (ps_expr (pmeth (pv 0) T.c_Parts T.m_Parts_must G_Parts_must hr (pa_cons pe_str pa_nil)))
    (pss_one (ps_ret (pv 1))))))), ?_⟩
    walk_at "v"
    refine ⟨hp.is, ?_⟩
    walk_at "v"
    rcases ht with ht | ⟨u, m', rfl, hu, rfl⟩ | ⟨u, rfl, hu⟩
    · obtain ⟨t1, t2, t3⟩ := test_head ht
      have e0 : headOf ps i = ts.headD [] := by rw [head_drop hd, headD_app t3]
      refine ⟨p, r, ps, i, pNOT, rfl, hp, fun _ => ?_, fun q => absurd (e0.symm.trans q) t1⟩
      walk_at "v"
      refine ⟨hp.is, ?_⟩
      walk_at "v"
      refine ⟨p, r, ps, i, pL, rfl, hp, fun _ => ?_, fun q => absurd (e0.symm.trans q) t2⟩
      walk_at "v"
      refine ⟨p, r, ps, ts, i, m, rest, rfl, hp, hd, ht, hrest, fun v H' h' e' tv => ?_⟩
      walk_at "v"
      exact k _ _ h' e' (.inl tv)
    · have e0 : headOf ps i = pNOT := head_drop hd
      have d1 := drop_next hd
      refine ⟨p, r, ps, i, pNOT, rfl, hp, fun q => absurd e0 q, fun _ H1 h1 e1 => ?_⟩
      walk_at "v"
      refine ⟨p, r, ps, u, i + 1, m', rest, rfl, h1, d1, hu, hrest, fun v H2 h2 e2 tv => ?_⟩
      walk_at "v"
      intro l hl
      walk_at "v"
      intro a ha
      have el := Ex.mut (o := .lst [v]) (Ex.refl _) hl
      have ea := Ex.mut (o := .tup [vS pNOT, .ref l]) (Ex.refl _) ha
      have hN : ∀ a xs, H2 a = some (.lst xs) → H1 a = none → H a = none := by
        intro a xs q3 q1
        cases q : H a with
        | none => rfl
        | some o =>
          by_cases hpa : a = p
          · subst hpa
            obtain ⟨dx, h2'⟩ := h2.ob
            rw [q3] at h2'
            cases h2'
          · rw [e1 a o q (by simpa using hpa)] at q1
            cases q1
      have hlH : H l = none := by
        cases q : H l with
        | none => rfl
        | some o =>
          by_cases hpa : l = p
          · subst hpa
            obtain ⟨dx, h2'⟩ := h2.ob
            rw [hl] at h2'
            cases h2'
          · rw [(e1.trans e2) l o q (by simpa using hpa)] at hl
            cases hl
      have hlen : i + (pNOT :: u).length = i + 1 + u.length := by
        rw [List.length_cons]
        omega
      refine k _ _ ?_ ((e1.trans e2).trans (Exx.of (el.trans ea))) (.inr ⟨a, l, rfl, hlH, .inl ⟨v, m', upd_same, ?_, ?_, rfl⟩⟩)
      · rw [hlen]
        exact (h2.ex el).ex ea
      · rw [upd_ne (ne_of_none upd_same ha)]
        exact upd_same
      · exact ((tv.imp hN).ex el).ex ea
    · have e0 : headOf ps i = pL := head_drop hd
      have d1 : ps.drop (i + 1) = (u ++ [pR]) ++ rest := drop_next hd
      rw [List.append_assoc] at d1
      refine ⟨p, r, ps, i, pNOT, rfl, hp, fun _ => ?_, fun q => absurd (e0.symm.trans q) (by decide)⟩
      walk_at "v"
      refine ⟨hp.is, ?_⟩
      walk_at "v"
      refine ⟨p, r, ps, i, pL, rfl, hp, fun q => absurd e0 q, fun _ H1 h1 e1 => ?_⟩
      walk_at "v"
      refine ⟨p, r, ps, u, i + 1, m, [pR] ++ rest, rfl, h1, d1, hu, by show nx3 pR; decide, fun v H2 h2 e2 tv => ?_⟩
      have d2 : ps.drop (i + 1 + u.length) = pR :: rest := by
        rw [← List.drop_drop, d1, List.drop_left]
        rfl
      walk_at "v"
      refine ⟨h2.is, ?_⟩
      walk_at "v"
      refine ⟨p, r, ps, i + 1 + u.length, pR, rfl, h2, head_drop d2, fun H3 h3 e3 => ?_⟩
      walk_at "v"
      have hlen : i + (pL :: (u ++ [pR])).length = i + 1 + u.length + 1 := by
        rw [List.length_cons, List.length_append, List.length_singleton]
        omega
      rw [← hlen] at h3
      have hN : ∀ a xs, H2 a = some (.lst xs) → H1 a = none → H a = none := by
        intro a xs q3 q1
        cases q : H a with
        | none => rfl
        | some o =>
          by_cases hpa : a = p
          · subst hpa
            obtain ⟨dx, h2'⟩ := h2.ob
            rw [q3] at h2'
            cases h2'
          · rw [e1 a o q (by simpa using hpa)] at q1
            cases q1
      exact k _ _ h3 ((e1.trans e2).trans e3) ((TrP.exx h2 e3 hN tv).up)
def noG : List (List Nat) → Mn → Prop := fun _ _ => False
theorem no_read_one (T : Txt K mg) : GoodP P w K mg base "read_one" 1 ["parts"] (spRd K 0 noG nx1) := by
  obtain ⟨fd, F⟩ := T.f_read_one
  refine good_of F sc_read_one (fun vs H Q E h => ?_) (fun _ _ _ _ _ _ us hl => match us, hl with | [_], _ => rfl) (fun cdv A outer s H vs Q E hr h => ?_)
  · obtain ⟨p, r, ps, ts, i, m, rest, rfl, _⟩ := h
    rfl
  · obtain ⟨p, r, ps, ts, i, m, rest, rfl, hp, hd, ht, _⟩ := h
    exact ht.elim
theorem no_read_any (T : Txt K mg) : GoodP P w K mg base "read_any" 1 ["parts"] (spRd K 0 noG nx3) := by
  obtain ⟨fd, F⟩ := T.f_read_any
  refine good_of F sc_read_any (fun vs H Q E h => ?_) (fun _ _ _ _ _ _ us hl => match us, hl with | [_], _ => rfl) (fun cdv A outer s H vs Q E hr h => ?_)
  · obtain ⟨p, r, ps, ts, i, m, rest, rfl, _⟩ := h
    rfl
  · obtain ⟨p, r, ps, ts, i, m, rest, rfl, hp, hd, ht, _⟩ := h
    exact ht.elim
theorem spRd_imp {d : Nat} {Ga Gb : List (List Nat) → Mn → Prop} {nx : List Nat → Prop} (h : ∀ ts m, Gb ts m → Ga ts m) : ∀ vs H Q E, spRd K d Gb nx vs H Q E → spRd K d Ga nx vs H Q E := by
  rintro vs H Q E ⟨p, r, ps, ts, i, m, rest, rfl, hp, hd, ht, q⟩
  exact ⟨p, r, ps, ts, i, m, rest, rfl, hp, hd, h _ _ ht, q⟩
theorem oneP_ne : ∀ n ts m, OneP n ts m → ts ≠ [] := by
  intro n
  cases n with
  | zero => exact fun ts m h => (test_head h).2.2
  | succ n =>
    rintro ts m (h | ⟨u, m', rfl, _⟩ | ⟨u, rfl, _⟩)
    · exact (test_head h).2.2
    · simp
    · simp
theorem inter_ne {sg : List Nat} {a : List (List Nat)} {r : List (List (List Nat))} (h : a ≠ []) : inter sg (a :: r) ≠ [] := by
  rw [inter_cons]
  simp [h]
theorem eachP_ne (n : Nat) : ∀ ts m, EachP n ts m → ts ≠ [] := by
  rintro ts m ⟨xs, h1, h2, rfl, _⟩
  cases xs with
  | nil => exact absurd rfl h1
  | cons x r => exact inter_ne (oneP_ne n _ _ (h2 x (by simp)))
theorem ok_rd (T : Txt K mg) : ∀ n, GoodP P w K mg base "read_one" (5 + 3 * n) ["parts"] (spRd K (3 * n + 1) (OneP n) nx1) ∧ GoodP P w K mg base "read_any" (7 + 3 * n) ["parts"] (spRd K (3 * n + 3) (AnyP n) nx3) := by
  have up : ∀ n, GoodP P w K mg base "read_one" (5 + 3 * n) ["parts"] (spRd K (3 * n + 1) (OneP n) nx1) → GoodP P w K mg base "read_any" (7 + 3 * n) ["parts"] (spRd K (3 * n + 3) (AnyP n) nx3) := by
    intro n g
    have g2 : GoodP P w K mg base "read_each" (6 + 3 * n) ["parts"] (spRd K (3 * n + 2) (EachP n) nx2) := (ok_read_each T (k := 5 + 3 * n) (by omega) (oneP_ne n) g).mono (by omega)
    exact (ok_read_any T (k := 6 + 3 * n) (by omega) (eachP_ne n) g2).mono (by omega)
  intro n
  induction n with
  | zero =>
    have g : GoodP P w K mg base "read_one" (5 + 3 * 0) ["parts"] (spRd K (3 * 0 + 1) (OneP 0) nx1) :=
      (ok_read_one T (k := 4) (Nat.le_refl _) ((no_read_one T).mono (by decide)) ((no_read_any T).mono (by decide))).imp (spRd_imp fun ts m h => .inl h)
    exact ⟨g, up 0 g⟩
  | succ n ih =>
    have g : GoodP P w K mg base "read_one" (5 + 3 * (n + 1)) ["parts"] (spRd K (3 * (n + 1) + 1) (OneP (n + 1)) nx1) := by
      have g1 : GoodP P w K mg base "read_one" (7 + 3 * n) ["parts"] (spRd K (3 * n + 3) (OneP n) nx1) := (ih.1.mono (k := 7 + 3 * n) (by omega)).imp ?_
      · exact ((ok_read_one T (k := 7 + 3 * n) (d := 3 * n + 3) (by omega) g1 ih.2).imp (spRd_imp (Ga := OneOf (OneP n) (AnyP n)) (Gb := OneP (n + 1)) fun ts m h => h)).mono (by omega)
      rintro vs H Q E ⟨p, r, ps, ts, i, m, rest, rfl, hp, hd, ht, hn, q⟩
      exact ⟨p, r, ps, ts, i, m, rest, rfl, hp, hd, ht, hn, fun v H' h1 h2 h3 => q v H' h1 h2 h3.up.up⟩
    exact ⟨g, up _ g⟩
end
end
set_option Elab.async false
set_option linter.all false
set_option maxRecDepth 100000
set_option maxHeartbeats 4000000
/-! The program's exceptions: classes over GrainError, which stands over Exception; their __init__ stores one field. -/
section
open PySem PySem.Spec PyProof.Rows L2
open PySem.W (excInitIn excOver takerIn hasDictIn findIn subIn typeIn keepIn excTail_contains)

/-- a class or a def of the module, by its name -/
theorem pe_gref {X : Cx} {x : Str} {a : Addr} {pos : Pos} (h : X.mg x = some (.ref a)) (hg : Gl X x := by rfl) (hd : (x == ("__debug__" : Str)) = false := by decide) : PE X (.Name x pos) (tC (.ref a)) :=
  pe_glob hg h rfl hd
/-- what the top's text leaves of such a class -/
structure Gx (K : PySem.W.Frag) (C : Addr) : Prop where
  ini : excInitIn K C exMro "Exception.__new__" = true
  ov : excOver K C exMro = true
  no : findIn K (.ref C) "given" = some none
  sa : findIn K (.ref C) "__setattr__" = some (some (.builtin "object.__setattr__"))
  ex : subIn K (.ref C) (.type "BaseException") = some true
  ty : typeIn K (.ref C) = some (.type "type")
  kp : keepIn K (.ref C) = true
  hd : hasDictIn K C = true
  iC : findIn K (.ref C) "__init__" = some (some (.ref (He.ma K C "__init__")))
  tI : typeIn K (.ref (He.ma K C "__init__")) = some (.type "function")
  xf : XfC K C
theorem gx_of {K : PySem.W.Frag} {x : Str} (h : ∀ b ∈ excB K x, b = true) : Gx K (He.ga K x) :=
  ⟨h _ (by simp [excB]), h _ (by simp [excB]), of_decide_eq_true (h (noM K (He.ga K x) "given") (by simp [excB])), of_decide_eq_true (h _ (List.getElem_mem (l := excB K x) (n := 3) (show 3 < 11 by decide))), of_decide_eq_true (h _ (List.getElem_mem (l := excB K x) (n := 4) (show 4 < 11 by decide))), of_decide_eq_true (h _ (List.getElem_mem (l := excB K x) (n := 5) (show 5 < 11 by decide))),
    h _ (List.getElem_mem (l := excB K x) (n := 6) (show 6 < 11 by decide)), h _ (List.getElem_mem (l := excB K x) (n := 7) (show 7 < 11 by decide)), of_decide_eq_true (h _ (List.getElem_mem (l := excB K x) (n := 8) (show 8 < 11 by decide))), of_decide_eq_true (h _ (List.getElem_mem (l := excB K x) (n := 9) (show 9 < 11 by decide))),
    xfB_ok (h _ (List.getElem_mem (l := excB K x) (n := 10) (show 10 < 11 by decide)))⟩

section
variable {prog : Program} {w : World} {A : Around} {R : Result → Shared → Prop} {hp : Heap} {g : Array GenState} {d : Drawn} {t : Nat} {os : OsState}
/-- the first field is stored: by then the exception has got its dict -/
theorem gx_osa {K : PySem.W.Frag} {name : Str} {tk : Tok} {v : Value} {x C t0 : Addr} (X : K.In hp) (hx : hp.get? x = some { cls := .ref C, dict := none, data := .fields #[.ref t0, .none, .none, .none, .bool false, .none] })
    (ov : excOver K C exMro = true) (no : takerIn K C name = some none) (hh : hasDictIn K C = true)
    (hq : ∀ h' tk' dx, (∀ b o, b ≠ x → hp.get? b = some o → h'.get? b = some o) → hp.objs.size ≤ dx → dx ≠ x → h'.get? x = some { cls := .ref C, dict := some dx, data := .fields #[.ref t0, .none, .none, .none, .bool false, .none] } →
      h'.Ns1 dx (fun y => if y = name then some v else none) → R (.ok (.ret .none)) ⟨h', g, d, tk', os⟩) :
    codeAny (model prog w) A (.call (.builtin "object.__setattr__") ⟨[.ref x, .str name tk, v], []⟩) R ⟨hp, g, d, t, os⟩ := by
  refine PySem.W.osa_openX (s := ⟨hp, g, d, t, os⟩) (od := none) F.store_Exception X ⟨hx, rfl, rfl, trivial⟩ ov no fun b => ?_
  obtain ⟨cd, hcd, hdict⟩ := PySem.W.any_some hh
  have hne : x ≠ hp.objs.size := Nat.ne_of_lt (Heap.lt_size hx)
  refine wpAny_bind (wpAny_pure (wpAny_bind (PySem.W.instanceDict_exc (s := ⟨hp, g, d, t, os⟩) hx (PySem.W.looks_clsIn X hcd) hdict ?_)))
  show wpAny _ _ (Builtin.ObjectAttr.storeInDict hp.objs.size (.str name tk) name v) _ _ _
  refine PySem.HandSPX.store_in_new ?_ fun h' tk' hn same => ?_
  · exact ⟨_, #[], _, (Heap.get?_update_ne _ _ _ _ hne.symm).trans (Heap.get?_push_at rfl rfl), rfl, fun e he => absurd he (by simp), fun _ => rfl⟩
  · refine hq h' tk' hp.objs.size (fun b o hb ho => ?_) (Nat.le_refl _) hne.symm ?_ hn
    · rw [same.2 b (Nat.ne_of_lt (Heap.lt_size ho))]
      rw [Heap.get?_update_ne _ _ _ _ hb]
      exact Heap.get?_push_of_some _ ho
    · rw [same.2 x hne]
      exact Heap.get?_update_self _ (Heap.get?_push_of_some _ hx) rfl
end
section
variable {X : Cx} {pins : List (Addr × Obj)} {σ : L2.St} {H : Hp} {s : Shared} {a C : Addr} {y : V} {u : Value} {A : Around} {E : Value → Shared → Prop}
theorem gx_store {Q : Unit → Shared → Prop} (T : Gx X.K C) (I : Inv X pins σ H s) (e : H a = some (exo a C none)) (ry : RelV y u)
    (h : ∀ dx s', H dx = none → dx ≠ a → Inv X pins σ (upd (upd H dx (exd dx [(("given" : Str), y)])) a (exo a C (some dx))) s' → Q () s') : wpAny (model X.prog X.w) A (setAttr (.ref a) "given" u) Q E s := by
  obtain ⟨t0, ho⟩ := exo_at I.hok e
  obtain ⟨hp, g, d, t, os⟩ := s
  refine PySem.W.set_plain I.kIn (ox := { cls := .ref C, dict := none, data := .fields #[.ref t0, .none, .none, .none, .bool false, .none] }) (od := none) ⟨ho, rfl, rfl, trivial⟩ T.sa ?_
  refine gx_osa I.kIn ho T.ov (by unfold takerIn; rw [T.no]; rfl) T.hd fun h' tk' dx k dn dne hx hn => ?_
  have hnd : H dx = none := I.hok.fresh dn
  have nd : ∀ {b : Addr} {o : Obj}, hp.get? b = some o → b ≠ dx := fun {b o} q z => absurd (Heap.lt_size q) (by rw [z]; exact Nat.not_lt.mpr dn)
  have na : ∀ {b : Addr}, H b = none → b ≠ a := fun {b} n => (ne_of_none e n).symm
  -- what of the tracked heap stays
  have st : ∀ {b : Addr} {o : HO}, H b = some o → o ≠ exo a C none → upd (upd H dx (exd dx [(("given" : Str), y)])) a (exo a C (some dx)) b = some o := fun {b o} q n => by
    rw [upd_ne (fun z => n (Option.some.inj ((z ▸ q).symm.trans e))), upd_ne (ne_of_none q hnd)]
    exact q
  have un : Un X.fs [] H (upd (upd H dx (exd dx [(("given" : Str), y)])) a (exo a C (some dx))) hp h' := {
    keep := fun b o q n _ _ => k b o (na n) q
    slot := fun b o q n _ _ => ⟨o.slots, k b o (na n) q⟩
    free := fun b o q n _ => (upd_ne (na n)).trans ((upd_ne (nd q)).trans n)
    there := fun b o q _ => (Decidable.em (b = a)).elim (fun z => ⟨_, z ▸ hx⟩) fun z => ⟨o, k b o z q⟩
    tups := fun b xs q => st q (Ne.symm exo_tup)
    frzs := fun b o v q => st q (Ne.symm exo_frz)
    tbls := fun b ps q => ⟨#[], by rw [st q (Ne.symm exo_tbl)]; simp⟩ }
  refine h dx _ hnd dne (I.un (t' := tk') un fun b o q => ?_)
  by_cases hb : b = a
  · subst hb
    rw [upd_same] at q
    cases q
    exact exo_ok hx
  · rw [upd_ne hb] at q
    by_cases hd : b = dx
    · subst hd
      rw [upd_same] at q
      cases q
      exact exd_ok hn (relO_put (fs := []) ry fun _ => True.intro)
    · rw [upd_ne hd] at q
      refine (I.hok b o q).stay (fun c v hc z => k c v ?_ z) (fun c hc => st hc (Ne.symm exo_own)) (fun c xs hc => st hc (Ne.symm exo_tup))
      rcases hc with hc | hc
      · rw [hc]
        exact hb
      · intro z
        rw [z, e] at hc
        exact exo_own (Option.some.inj hc)
/-- GrainError.__init__(self, ..) -/
structure Gr (K : PySem.W.Frag) (G : Addr) : Prop where
  rd : PySem.W.readsIn K G (.type "type") = true
  ga : PySem.W.specialIn K (.ref G) "__getattribute__" = some (some (.builtin "type.__getattribute__"))
  at_ : PySem.W.findCls K (.ref G) (.type "type") "__init__" = some (.val (.builtin "Exception.__init__"))
theorem gx_base {us : List Value} {Q : Value → Shared → Prop} (T : Gx X.K C) (I : Inv X pins σ H s) (e : H a = some (exo a C none)) (hl : us.length ≤ sizeLine) (h : ∀ s', Inv X pins σ H s' → Q .none s') :
    wpAny (model X.prog X.w) A (call (.builtin "Exception.__init__") (.ref a :: us)) Q E s := by
  obtain ⟨nm, N, q, bs, bm, hdct, sn, sub, ab, col, dd, k0, k1, k2, k3, k5, hC, hT⟩ := PySem.W.excInit_of I.kIn T.ini
  obtain ⟨t0, ho⟩ := exo_at I.hok e
  obtain ⟨hp, g, d, t, os⟩ := s
  refine wpAny_call (PySem.HandSPX.init_base F.excBase_Exception hT hC ho hl fun h' t2 k hx => ?_)
  have J := I.write (t' := t) (x := a) (e := a) (o := exo a C none) (by rw [e]; exact True.intro) (.inl rfl) k ⟨_, hx⟩ (exo_ok hx)
  have same : upd H a (exo a C none) = H := funext fun b => (Decidable.em (b = a)).elim (fun z => by rw [z, upd_same, e]) fun z => upd_ne z
  rw [same] at J
  exact h _ J
end
def tGi (K : PySem.W.Frag) (ta : TA) : TE := fun σ H Q => ta σ H fun vs H1 => ∃ (a C : Addr) (ws : List V), vs = .ref a :: ws ∧ ws.length ≤ 1000 ∧ Gx K C ∧ H1 a = some (exo a C none) ∧ Q .non H1
def tGst (K : PySem.W.Frag) (to te : TE) : TS := fun D σ H => te σ H fun y H1 => to σ H1 fun x H2 => ∃ a C : Addr, x = .ref a ∧ Gx K C ∧ H2 a = some (exo a C none) ∧ ∀ dx, H2 dx = none → dx ≠ a → D.nx σ (upd (upd H2 dx (exd dx [(("given" : Str), y)])) a (exo a C (some dx)))
def tGmk (C : Addr) (ta : TA) : L2.St → Hp → XK → Prop := fun σ H Q => ta σ H fun vs H1 => ∃ v, vs = [v] ∧ ∀ a d, H1 a = none → H1 d = none → d ≠ a → Q (.ref C) (some d) (upd H1 d (.xd [(("given" : Str), v)]))
section
variable {X : Cx} {o e : Expr} {es : List Expr} {to te : TE} {ta : TA} {G : Addr} {p p' p1 p2 pos : Pos}
theorem pe_ginit {pl : Sem Bool} (hg : Gl X "GrainError") (hm : X.mg "GrainError" = some (.ref G)) (S : Gr X.K G) (ha : PA X (e :: es) ta)
    (hc : MCall X (.Name "GrainError" p1) "__init__" p2 pos (e :: es) [] pl := by rfl)
    (he : starEach (e :: es) X.env = (false, eval e X.env) :: starEach es X.env := by rfl) (hpl : (backTo pos (starEach es X.env)).any (·.1) = false := by rfl) :
    PE X (.Call (.Attribute (.Name "GrainError" p1) "__init__" p2) (e :: es) [] pos) (tGi X.K ta) := by
  refine ⟨fun pins s σ H Q I h => PySem.W.methodCall_KW (ld_glob I hg hm ?_ (by decide)) hc⟩
  refine PySem.W.method_cls I.kIn S.ga (PySem.W.cls_value I.kIn S.rd S.at_ rfl ?_)
  show wpAny _ _ (callWith pos (Value.builtin "Exception.__init__") [] (backTo pos (starEach (e :: es) X.env)) []) _ _ _
  refine PyProof.Rows.callWith_method1 (thn (ha.run pos pins _ σ H _ (I.tok _) h) fun us s1 ⟨vs, H1, I1, r1, a, C, ws, ev, hl, T, ea, q⟩ => ?_) he hpl
  subst ev
  cases r1 with
  | @cons _ u0 _ ur ra rest =>
    have ra' : u0 = Value.ref a := ra
    subst ra'
    exact gx_base T I1 ea (by rw [← Paired.length rest, sizeLine_eq]; omega) fun s' J => ⟨.non, H1, J, rfl, q⟩
theorem ps_gst (ho : PE X o to) (he : PE X e te) (hs : swapsWith e (some (.Attribute o "given" p')) pos.line X.env = pure false := by rfl) : PS X (.Assign [.Attribute o "given" p'] e pos) (tGst X.K to te) := by
  refine ⟨fun pins s σ H D I h => plainObj_wpAny_Assign_Attribute (thn (he.run pins s σ H _ I h) fun v s1 ⟨y, H1, I1, r1, q1⟩ => thn (ho.run pins s1 σ H1 _ I1 q1) fun u s2 ⟨x, H2, I2, r2, a, C, ex, T, ea, q⟩ => ?_) hs⟩
  subst ex
  have r2' : u = Value.ref a := r2
  subst r2'
  exact gx_store T I2 ea r1 fun dx s' n ne J => ⟨σ, _, J, q dx n ne⟩
end
def spXInit (K : PySem.W.Frag) (C : Addr) : Sp := fun vs H Q _ => ∃ (a : Addr) (v : V), vs = [.ref a, v] ∧ Gx K C ∧ H a = some (exo a C none) ∧ ∀ dx, H dx = none → dx ≠ a → Q .non (upd (upd H dx (exd dx [(("given" : Str), v)])) a (exo a C (some dx)))
section
variable {X : Cx} {e : Expr} {ta : TA} {x : Str} {C : Addr} {k j : Nat} {p pos pos2 : Pos}
/-- C(e): what is made, and what is let go of it: its dict stays, as an exception's dict -/
theorem pmk_gx (T : Gx X.K C) (G : Good X.prog X.w X.K X.mg X.base (He.ma X.K C "__init__") k ["self", "given"] (spXInit X.K C)) (hr : Room (j + 1) X.A) (hm : X.mg x = some (.ref C)) (ha : PA X [e] ta) (hj : k ≤ j := by first | decide | omega) (hg : Gl X x := by rfl)
    (hdb : (x == ("__debug__" : Str)) = false := by decide) (he : starEach (e :: []) X.env = (false, eval e X.env) :: starEach [] X.env := by rfl) (hpl : (backTo pos (starEach [] X.env)).any (·.1) = false := by rfl) :
    PMk X (.Call (.Name x p) [e] [] pos) (tGmk C ta) := by
  intro pins s σ H Q I h
  obtain ⟨⟨fd, F1, hb, _⟩, _⟩ := G
  have hr1 : Room (k + 1) X.A := hr.mono (Nat.succ_le_succ hj)
  refine wpAny_Call_Name_kw (ld_glob I hg hm ?_ hdb)
  refine PySem.W.callWith_K (h₀ := X.base) I.ok.mod.kin T.kp (thn (ha.run pos pins s σ H _ I h) fun us s1 ⟨vs, H1, I1, r1, v, ev, q1⟩ => ⟨I1.kIn, ?_⟩) he hpl
  subst ev
  obtain ⟨nm, N, q, bs, bm, hdct, sn, sub, ab, col, dd, k0, k1, k2, k3, k5, hC, hT⟩ := PySem.W.excInit_of I1.kIn T.ini
  cases r1 with
  | @cons _ v' _ us' rv rn =>
  cases rn
  show wpAny _ _ (call (.ref C) [v']) _ _ _
  obtain ⟨hp, g, dr, tk, os⟩ := s1
  have hsz : hp.objs.size ≤ hp.objs.size + 1 := Nat.le_succ _
  have hn : H1 (hp.objs.size + 1) = none := I1.hok.fresh hsz
  have kk : ∀ b o, hp.get? b = some o → ((hp.push (PySem.W.kdv_tup [v'])).push (PySem.HandSPX.excO C hp.objs.size)).get? b = some o := fun b o z => Heap.get?_push_of_some _ (Heap.get?_push_of_some _ z)
  have hget : ((hp.push (PySem.W.kdv_tup [v'])).push (PySem.HandSPX.excO C hp.objs.size)).get? (hp.objs.size + 1) = some (PySem.HandSPX.excO C hp.objs.size) := by heap_get
  have I2 : Inv X pins σ (upd H1 (hp.objs.size + 1) (exo (hp.objs.size + 1) C none)) ⟨(hp.push (PySem.W.kdv_tup [v'])).push (PySem.HandSPX.excO C hp.objs.size), g, dr, tk, os⟩ :=
    I1.laid (t' := tk) (a := hp.objs.size + 1) (o := exo (hp.objs.size + 1) C none) kk hsz (exo_ok hget)
  have r2 : Vals [V.ref (hp.objs.size + 1), v] [Value.ref (hp.objs.size + 1), v'] := .cons rfl (.cons rv .nil)
  have hsp : spXInit X.K C [V.ref (hp.objs.size + 1), v] (upd H1 (hp.objs.size + 1) (exo (hp.objs.size + 1) C none)) (fun u H2 => u = .non ∧ ∃ d : Addr, H1 d = none ∧ d ≠ hp.objs.size + 1 ∧
      H2 = upd (upd (upd H1 (hp.objs.size + 1) (exo (hp.objs.size + 1) C none)) d (exd d [(("given" : Str), v)])) (hp.objs.size + 1) (exo (hp.objs.size + 1) C (some d))) (fun _ _ _ => False) :=
    ⟨_, v, rfl, T, upd_same, fun d hd hne => ⟨rfl, d, by rw [upd_ne hne] at hd; exact hd, hne, rfl⟩⟩
  refine wpAny_call (PySem.HandSPX.call_own F.excBase_Exception hT hC (PySem.W.looks_findIn I1.kIn T.iC) (fun self => PySem.W.bind_fn I1.kIn self T.tI) (show 1 ≤ sizeLine from sz100k (by decide))
    (codeAny_mono (F1.run _ X.stack _ _ ⟨[Value.ref (hp.objs.size + 1), v'], []⟩ [Value.ref (hp.objs.size + 1), v'] _ _ (fun _ _ _ => False) (hr1.make C [v'] []) (I2.env0.make C [v'] []) (hb _ _ I2.kIn rfl) r2 hsp) fun r s' hq' => ?_))
  cases r with
  | error er => exact passL pins σ _ _ er s' I2 hq'
  | ok fl =>
    cases fl with
    | ret u =>
      obtain ⟨u', H2, os2, bare2, un2, hok2, ru, eu, d, hd1, hda, eH⟩ := hq'
      subst eu
      subst eH
      obtain ⟨h2, g2, d2, t2, os'⟩ := s'
      refine ⟨ru, mk_end (raises_own T.ex T.ty) I1 hsz kk un2 hok2 os2 bare2 upd_same ((upd_ne hda).trans upd_same) hd1 ?_⟩
      have e1 : upd (del (upd (upd (upd H1 (hp.objs.size + 1) (exo (hp.objs.size + 1) C none)) d (exd d [(("given" : Str), v)])) (hp.objs.size + 1) (exo (hp.objs.size + 1) C (some d))) (hp.objs.size + 1)) d (.xd [(("given" : Str), v)]) = upd H1 d (.xd [(("given" : Str), v)]) := by
        funext b
        by_cases h1 : b = d
        · rw [h1, upd_same, upd_same]
        · rw [upd_ne h1, upd_ne h1]
          by_cases h2 : b = hp.objs.size + 1
          · rw [h2, del_same, hn]
          · rw [del_ne h2, upd_ne h2, upd_ne h1, upd_ne h2]
      rw [e1]
      exact q1 _ d hn hd1 hda
    | next => exact False.elim hq'
    | brk => exact False.elim hq'
    | cont => exact False.elim hq'
end
end
set_option Elab.async false
set_option linter.all false
set_option maxRecDepth 100000
set_option maxHeartbeats 4000000
/-! The checks, which may raise. -/
section
open PySem PySem.Spec PyProof.Rows L2
open Evl (Ex given)

section
variable {K : PySem.W.Frag} {mg : Str → Option Value}
theorem Txt.x_ (T : Txt K mg) {b : Bool} (i : Nat) (h : (exAll K)[i]? = some b := by rfl) : b = true := by
  have q : ∀ b ∈ exAll K, id b = true := List.all_eq_true.mp T.x
  exact q b (List.mem_of_getElem? h)
theorem Txt.gx_ (T : Txt K mg) (x : Str) (h : x ∈ exc4) : Gx K (He.ga K x) := gx_of fun b hb => by
  have q : ∀ b ∈ exAll K, id b = true := List.all_eq_true.mp T.x
  refine q b ?_
  unfold exAll
  exact List.mem_append_left _ (List.mem_flatMap.mpr ⟨x, h, hb⟩)
theorem Txt.gx_InvalidName (T : Txt K mg) : Gx K (He.ga K "InvalidName") := T.gx_ _ (by decide +kernel)
theorem Txt.gx_InvalidSeries (T : Txt K mg) : Gx K (He.ga K "InvalidSeries") := T.gx_ _ (by decide +kernel)
theorem Txt.gx_InvalidSelection (T : Txt K mg) : Gx K (He.ga K "InvalidSelection") := T.gx_ _ (by decide +kernel)
theorem Txt.gx_InvalidWord (T : Txt K mg) : Gx K (He.ga K "InvalidWord") := T.gx_ _ (by decide +kernel)
theorem Txt.gr (T : Txt K mg) : Gr K (He.ga K "GrainError") := by
  refine ⟨T.x_ 60, of_decide_eq_true (T.x_ 61), ?_⟩
  have h : isVal (.builtin "Exception.__init__") (PySem.W.findCls K (.ref (He.ga K "GrainError")) (.type "type") "__init__") = true := T.x_ 62
  unfold isVal at h
  split at h
  · rename_i u hu
    rw [hu, eq_of_beq h]
  · cases h
/-- except InvalidX, of an InvalidY -/
theorem Txt.exm (T : Txt K mg) {x y : Str} (hx : x ∈ exc4) (hy : y ∈ exc4) : PySem.W.exmOne K (.ref (He.ga K x)) (.ref (He.ga K y)) = some (x == y) := by
  have q : ∀ b ∈ exAll K, id b = true := List.all_eq_true.mp T.x
  refine of_decide_eq_true (q (exmB K x y (x == y)) ?_)
  unfold exAll
  exact List.mem_append_right _ (List.mem_append_left _ (List.mem_flatMap.mpr ⟨x, hx, List.mem_map.mpr ⟨y, hy, rfl⟩⟩))
theorem Txt.kitf (T : Txt K mg) {x : Str} {t : String} (hx : x ∈ ins3) (ht : t ∈ ty7) : PySem.W.kitOne K (.type t) (.ref (He.ga K x)) = some false := by
  have q : ∀ b ∈ exAll K, id b = true := List.all_eq_true.mp T.x
  refine of_decide_eq_true (q (kitF K t x) ?_)
  unfold exAll
  exact List.mem_append_right _ (List.mem_append_right _ (List.mem_append_right _ (List.mem_append_right _ (List.mem_append_right _ (List.mem_flatMap.mpr ⟨x, hx, List.mem_map.mpr ⟨t, ht, rfl⟩⟩)))))
theorem kit_self {K : PySem.W.Frag} (v : Value) : PySem.W.kitOne K v v = some true := by
  unfold PySem.W.kitOne
  rw [beq_self_eq_true]
  rfl
theorem Txt.tyIns (T : Txt K mg) {x : Str} (hx : x ∈ ins3) (c : Cls K (He.ga K x)) {H : Hp} {a dx : Addr} {fs : List (Str × V)} (e : H a = some (.ins (He.ga K x) dx fs)) : TyX K H (.ref a) (.ref (He.ga K x)) := by
  have q : ∀ b ∈ exAll K, id b = true := List.all_eq_true.mp T.x
  have m : ∀ b ∈ insB K x, b = true := fun b hb => q b (by
    unfold exAll
    exact List.mem_append_right _ (List.mem_append_right _ (List.mem_append_right _ (List.mem_append_left _ (List.mem_flatMap.mpr ⟨x, hx, hb⟩)))))
  have m2 : ∀ b ∈ clsB K, b = true := fun b hb => q b (by
    unfold exAll
    exact List.mem_append_right _ (List.mem_append_right _ (List.mem_append_right _ (List.mem_append_right _ (List.mem_append_left _ hb)))))
  exact .base (.ins e c (of_decide_eq_true (m _ (List.getElem_mem (l := insB K x) (n := 0) (show 0 < 2 by decide)))) (of_decide_eq_true (m2 _ (List.getElem_mem (l := clsB K) (n := 0) (show 0 < 2 by decide))))
    (of_decide_eq_true (m2 _ (List.getElem_mem (l := clsB K) (n := 1) (show 1 < 2 by decide)))) (of_decide_eq_true (m _ (List.getElem_mem (l := insB K x) (n := 1) (show 1 < 2 by decide)))))
end
section
variable {P : Program} {w : World} {K : PySem.W.Frag} {mg : Str → Option Value} {base : Heap}
theorem sc_InvalidName_init : FnScope ["self", "given"] ["self", "given"] (defScope s_InvalidName_init) := ⟨rfl, rfl, rfl, by decide +kernel, rfl, by decide +kernel, by decide +kernel⟩
theorem sc_InvalidSeries_init : FnScope ["self", "given"] ["self", "given"] (defScope s_InvalidSeries_init) := ⟨rfl, rfl, rfl, by decide +kernel, rfl, by decide +kernel, by decide +kernel⟩
theorem sc_InvalidSelection_init : FnScope ["self", "given"] ["self", "given"] (defScope s_InvalidSelection_init) := ⟨rfl, rfl, rfl, by decide +kernel, rfl, by decide +kernel, by decide +kernel⟩
theorem sc_InvalidWord_init : FnScope ["self", "given"] ["self", "given"] (defScope s_InvalidWord_init) := ⟨rfl, rfl, rfl, by decide +kernel, rfl, by decide +kernel, by decide +kernel⟩
theorem ok_InvalidName_init (T : Txt K mg) : GoodM P w K mg base "InvalidName" "__init__" 1 ["self", "given"] (spXInit K (He.ga K "InvalidName")) := by
  obtain ⟨fd, F⟩ := T.f_InvalidName_init
  refine good_of F sc_InvalidName_init (fun vs H Q E h => ?_) (fun _ _ _ _ _ _ us hl => match us, hl with | [_, _], _ => rfl) (fun cdv A outer s H vs Q E hr h => ?_)
  · obtain ⟨a, v, rfl, _⟩ := h
    rfl
  · obtain ⟨a, v, rfl, t, e, k⟩ := h
    refine ⟨_, (pss_cons (ps_expr (pe_ginit rfl T.g_GrainError T.gr (pa_cons (pv 0) (pa_cons pe_str pa_nil))))
    (pss_one (ps_gst (pv 0) (pv 1)))), ?_⟩
    exact ⟨_, rfl, a, _, _, rfl, by show 1 ≤ 1000; decide, t, e, _, rfl, _, rfl, a, _, rfl, t, e, fun dx n ne => k dx n ne⟩
theorem ok_InvalidSeries_init (T : Txt K mg) : GoodM P w K mg base "InvalidSeries" "__init__" 1 ["self", "given"] (spXInit K (He.ga K "InvalidSeries")) := by
  obtain ⟨fd, F⟩ := T.f_InvalidSeries_init
  refine good_of F sc_InvalidSeries_init (fun vs H Q E h => ?_) (fun _ _ _ _ _ _ us hl => match us, hl with | [_, _], _ => rfl) (fun cdv A outer s H vs Q E hr h => ?_)
  · obtain ⟨a, v, rfl, _⟩ := h
    rfl
  · obtain ⟨a, v, rfl, t, e, k⟩ := h
    refine ⟨_, (pss_cons (ps_expr (pe_ginit rfl T.g_GrainError T.gr (pa_cons (pv 0) (pa_cons pe_str pa_nil))))
    (pss_one (ps_gst (pv 0) (pv 1)))), ?_⟩
    exact ⟨_, rfl, a, _, _, rfl, by show 1 ≤ 1000; decide, t, e, _, rfl, _, rfl, a, _, rfl, t, e, fun dx n ne => k dx n ne⟩
theorem ok_InvalidSelection_init (T : Txt K mg) : GoodM P w K mg base "InvalidSelection" "__init__" 1 ["self", "given"] (spXInit K (He.ga K "InvalidSelection")) := by
  obtain ⟨fd, F⟩ := T.f_InvalidSelection_init
  refine good_of F sc_InvalidSelection_init (fun vs H Q E h => ?_) (fun _ _ _ _ _ _ us hl => match us, hl with | [_, _], _ => rfl) (fun cdv A outer s H vs Q E hr h => ?_)
  · obtain ⟨a, v, rfl, _⟩ := h
    rfl
  · obtain ⟨a, v, rfl, t, e, k⟩ := h
    refine ⟨_, (pss_cons (ps_expr (pe_ginit rfl T.g_GrainError T.gr (pa_cons (pv 0) (pa_cons pe_str pa_nil))))
    (pss_one (ps_gst (pv 0) (pv 1)))), ?_⟩
    exact ⟨_, rfl, a, _, _, rfl, by show 1 ≤ 1000; decide, t, e, _, rfl, _, rfl, a, _, rfl, t, e, fun dx n ne => k dx n ne⟩
theorem ok_InvalidWord_init (T : Txt K mg) : GoodM P w K mg base "InvalidWord" "__init__" 1 ["self", "given"] (spXInit K (He.ga K "InvalidWord")) := by
  obtain ⟨fd, F⟩ := T.f_InvalidWord_init
  refine good_of F sc_InvalidWord_init (fun vs H Q E h => ?_) (fun _ _ _ _ _ _ us hl => match us, hl with | [_, _], _ => rfl) (fun cdv A outer s H vs Q E hr h => ?_)
  · obtain ⟨a, v, rfl, _⟩ := h
    rfl
  · obtain ⟨a, v, rfl, t, e, k⟩ := h
    refine ⟨_, (pss_cons (ps_expr (pe_ginit rfl T.g_GrainError T.gr (pa_cons (pv 0) (pa_cons pe_str pa_nil))))
    (pss_one (ps_gst (pv 0) (pv 1)))), ?_⟩
    exact ⟨_, rfl, a, _, _, rfl, by show 1 ≤ 1000; decide, t, e, _, rfl, _, rfl, a, _, rfl, t, e, fun dx n ne => k dx n ne⟩
/-- an own error of the class x that tells v -/
def Thrown (K : PySem.W.Frag) (x : Str) (v : V) (H : Hp) (E : XK) : Prop := ∀ (d : Addr) (H' : Hp), Ex H H' → H d = none → H' d = some (.xd [(("given" : Str), v)]) → E (.ref (He.ga K x)) (some d) H'
theorem Thrown.go {K : PySem.W.Frag} {x : Str} {v : V} {H H1 : Hp} {E : XK} (h : Thrown K x v H E) (e : Ex H H1) {d : Addr} (hd : H1 d = none) : E (.ref (He.ga K x)) (some d) (upd H1 d (.xd [(("given" : Str), v)])) := by
  have q : H d = none := by
    cases q : H d with
    | none => rfl
    | some o =>
      rw [e d o q] at hd
      cases hd
  exact h d _ (Ex.mut e q) q upd_same
def spCheckName (K : PySem.W.Frag) : Sp := fun vs H Q E => ∃ v, vs = [v] ∧ ((∃ z, v = .str z ∧ z.length ≤ 100000 ∧ (if isName z = true then ∀ H', Ex H H' → Q .non H' else Thrown K "InvalidName" v H E)) ∨ (NoStr K H v ∧ Thrown K "InvalidName" v H E))
theorem sc_check_name : FnScope ["value"] ["value"] (defScope s_check_name) := ⟨rfl, rfl, rfl, by decide +kernel, rfl, by decide +kernel, by decide +kernel⟩
theorem ok_check_name (T : Txt K mg) : GoodP P w K mg base "check_name" 4 ["value"] (spCheckName K) := by
  have G_is_name := ok_is_name (P := P) (w := w) (base := base) T
  have G_InvalidName_init := ok_InvalidName_init (P := P) (w := w) (base := base) T
  obtain ⟨fd, F⟩ := T.f_check_name
  refine good_ofX F sc_check_name (fun vs H Q E h => ?_) (fun _ _ _ _ _ _ us hl => match us, hl with | [_], _ => rfl) (fun cdv A outer s H vs Q E hr h => ?_)
  · obtain ⟨v, rfl, _⟩ := h
    rfl
  · obtain ⟨v, rfl, h⟩ := h
    refine ⟨_, (pss_one (ps_if (pt_not (pt_val (pcall G_is_name hr T.g_is_name (pa_cons (pv 0) pa_nil)))) (pss_one (ps_raise rfl (takes_of rfl rfl rfl rfl) (pmk_gx T.gx_InvalidName G_InvalidName_init hr T.g_InvalidName (pa_cons (pv 0) pa_nil)))) pss_nil)), ?_⟩
    rcases h with ⟨z, rfl, hz, k⟩ | ⟨hn, k⟩
    · walk_at "v"
      refine u_of hz fun H1 e1 => ?_
      walk_at "v"
      cases hc : isName z with
      | true =>
        rw [hc] at k
        walk_at "v"
        exact k H1 e1
      | false =>
        rw [hc] at k
        walk_at "v"
        exact ⟨_, rfl, _, rfl, fun a d _ hd _ => Thrown.go k e1 hd⟩
    · walk_at "v"
      refine ⟨v, rfl, .inr ⟨hn, ?_⟩⟩
      walk_at "v"
      exact ⟨_, rfl, _, rfl, fun a d _ hd _ => Thrown.go k (Ex.refl _) hd⟩
/-- v is an object of the class x, or a value of a built-in type -/
def Bi (K : PySem.W.Frag) (H : Hp) (v : V) : Prop := ∃ t ∈ ty7, TyX K H v (.type t)
def spCheckIns (K : PySem.W.Frag) (x ex : Str) : Sp := fun vs H Q E => ∃ v, vs = [v] ∧ ((∃ a dx fs, v = .ref a ∧ H a = some (.ins (He.ga K x) dx fs) ∧ Q .non H) ∨ (Bi K H v ∧ Thrown K ex v H E))
theorem sc_check_series : FnScope ["series"] ["series"] (defScope s_check_series) := ⟨rfl, rfl, rfl, by decide +kernel, rfl, by decide +kernel, by decide +kernel⟩
theorem ok_check_series (T : Txt K mg) : GoodP P w K mg base "check_series" 3 ["series"] (spCheckIns K "Series" "InvalidSeries") := by
  have G_InvalidSeries_init := ok_InvalidSeries_init (P := P) (w := w) (base := base) T
  obtain ⟨fd, F⟩ := T.f_check_series
  refine good_ofX F sc_check_series (fun vs H Q E h => ?_) (fun _ _ _ _ _ _ us hl => match us, hl with | [_], _ => rfl) (fun cdv A outer s H vs Q E hr h => ?_)
  · obtain ⟨v, rfl, _⟩ := h
    rfl
  · obtain ⟨v, rfl, h⟩ := h
    refine ⟨_, (pss_one (ps_if (pt_not (pt_val (pe_callB call_isi rfl T.z_isinstance (by decide +kernel) (pa_cons (pv 0) (pa_cons (pe_gref T.g_Series) pa_nil))))) (pss_one (ps_raise rfl (takes_of rfl rfl rfl rfl) (pmk_gx T.gx_InvalidSeries G_InvalidSeries_init hr T.g_InvalidSeries (pa_cons (pv 0) pa_nil)))) pss_nil)), ?_⟩
    rcases h with ⟨a, dx, fs, rfl, ha, k⟩ | ⟨⟨t, ht, hty⟩, k⟩
    · walk_at "v"
      refine ⟨_, _, _, _, true, rfl, .own _, T.tyIns (by decide +kernel) T.c_Series ha, kit_self _, ?_⟩
      walk_at "v"
      exact k
    · walk_at "v"
      refine ⟨_, _, _, _, false, rfl, .own _, hty, T.kitf (by decide +kernel) ht, ?_⟩
      walk_at "v"
      exact ⟨_, rfl, _, rfl, fun a d _ hd _ => Thrown.go k (Ex.refl _) hd⟩
theorem sc_check_selection : FnScope ["selection"] ["selection"] (defScope s_check_selection) := ⟨rfl, rfl, rfl, by decide +kernel, rfl, by decide +kernel, by decide +kernel⟩
theorem ok_check_selection (T : Txt K mg) : GoodP P w K mg base "check_selection" 3 ["selection"] (spCheckIns K "Selection" "InvalidSelection") := by
  have G_InvalidSelection_init := ok_InvalidSelection_init (P := P) (w := w) (base := base) T
  obtain ⟨fd, F⟩ := T.f_check_selection
  refine good_ofX F sc_check_selection (fun vs H Q E h => ?_) (fun _ _ _ _ _ _ us hl => match us, hl with | [_], _ => rfl) (fun cdv A outer s H vs Q E hr h => ?_)
  · obtain ⟨v, rfl, _⟩ := h
    rfl
  · obtain ⟨v, rfl, h⟩ := h
    refine ⟨_, (pss_one (ps_if (pt_not (pt_val (pe_callB call_isi rfl T.z_isinstance (by decide +kernel) (pa_cons (pv 0) (pa_cons (pe_gref T.g_Selection) pa_nil))))) (pss_one (ps_raise rfl (takes_of rfl rfl rfl rfl) (pmk_gx T.gx_InvalidSelection G_InvalidSelection_init hr T.g_InvalidSelection (pa_cons (pv 0) pa_nil)))) pss_nil)), ?_⟩
    rcases h with ⟨a, dx, fs, rfl, ha, k⟩ | ⟨⟨t, ht, hty⟩, k⟩
    · walk_at "v"
      refine ⟨_, _, _, _, true, rfl, .own _, T.tyIns (by decide +kernel) T.c_Selection ha, kit_self _, ?_⟩
      walk_at "v"
      exact k
    · walk_at "v"
      refine ⟨_, _, _, _, false, rfl, .own _, hty, T.kitf (by decide +kernel) ht, ?_⟩
      walk_at "v"
      exact ⟨_, rfl, _, rfl, fun a d _ hd _ => Thrown.go k (Ex.refl _) hd⟩
end
end
set_option Elab.async false
set_option linter.all false
set_option maxRecDepth 100000
set_option maxHeartbeats 4000000
/-! Readings: targets that are tuples, comprehensions. -/
section
open PySem PySem.Spec PyProof.Rows L2
open Evl (Ex given)
theorem tl_app (x y : Str) : tl (x ++ y) = tl x ++ tl y := TL.tl_append x y
theorem str_len_app (x y : Str) : (x ++ y).length = x.length + y.length := by rw [len_tl, len_tl x, len_tl y, tl_app, List.length_append]
theorem str_len_nil : Str.empty.length = 0 := rfl
theorem S_nil : Str.empty = S [] := rfl
section
variable {K : PySem.W.Frag} {σ : L2.St} {H : Hp} {Q : VK} {QS : L2.St → Hp → Prop} {v x y : V} {te ta tb : TE} {tr : TA} {t : TG} {u : TGs} {n : Nat}
theorem i_tup {R : It → Hp → Prop} (h : te σ H fun x H1 => ∃ a, x = .ref a ∧ (∃ xs, SqT K H1 a xs) ∧ R (Itt K a) H1) : iTup K te σ H R := h
theorem i_list {R : It → Hp → Prop} (h : te σ H fun x H1 => ∃ a, x = .ref a ∧ (∃ xs, SqL K H1 a xs) ∧ R (Itl K a) H1) : iList K te σ H R := h
theorem x_itup {a : Addr} {xs : List V} {R : Addr → Prop} (h : SqT K H a xs) (q : R a) : ∃ b, V.ref a = .ref b ∧ (∃ xs, SqT K H b xs) ∧ R b := ⟨a, rfl, ⟨xs, h⟩, q⟩
theorem x_ilist {a : Addr} {xs : List V} {R : Addr → Prop} (h : SqL K H a xs) (q : R a) : ∃ b, V.ref a = .ref b ∧ (∃ xs, SqL K H b xs) ∧ R b := ⟨a, rfl, ⟨xs, h⟩, q⟩
theorem g_tup {a : Addr} {xs : List V} (h : SqT K H a xs) (hl : xs.length = n) (q : u xs σ H QS) : gTup K n u (.ref a) σ H QS := ⟨a, xs, rfl, h, hl, q⟩
/-- a target that is a tuple, inside of a comprehension -/
theorem pg_tupK {X : Cx} {K : PySem.W.Frag} {es : List Expr} {k : Nat} {t : TGs} {n : Nat} {pos : Pos} (hK : X.K = K) (hc : X.calm = true) (h : PGs X es t)
    (hn : (assignEach es X.env).length = n := by rfl) (hst : (assignEach es X.env).findIdx? (·.1) = none := by rfl) : PG X (.Tuple es k pos) (gTup K n t) := by
  subst hK
  exact pg_tup hc h hn hst
theorem g_cons {r : List V} (h : t v σ H fun σ' H' => u r σ' H' QS) : gCons t u (v :: r) σ H QS := ⟨v, r, rfl, h⟩
theorem g_nil (h : QS σ H) : gNil [] σ H QS := ⟨rfl, h⟩
/-- the comprehension behind its iterable -/
def LcW (J : It) (g : TG) (tt : TT) (te : TE) (vs : List Nat) (Q : VK) (σ : L2.St) (H1 : Hp) (D : Addr) : Prop := ∃ W : Nat → Nat → Hp → Prop, (∃ m, W 0 m (upd H1 D (.lst []))) ∧ ∀ i m H, W i m H →
  (J.stop i H ∧ Q (.ref D) H) ∨ (J.go i H ∧ ∃ Nx : Hp → Prop, (∀ H', Nx H' → ∃ m', m' < m ∧ W (i + 1) m' H') ∧ ∀ x H', J.yld i H x H' → g x (wipe σ vs) H' fun σ2 H2 => wipe σ2 vs = wipe σ vs ∧ tt σ2 H2 fun b H3 =>
    if b = true then te σ2 H3 fun y H4 => ∃ acc, H4 D = some (.lst acc) ∧ acc.length < sizeLine ∧ Nx (upd H4 D (.lst (acc ++ [y]))) else Nx H3)
theorem r_lc {wi : TI} {g : TG} {tt : TT} {vs : List Nat} (h : wi σ H fun J H1 => ∀ D, H1 D = none → LcW J g tt te vs Q σ H1 D) : tLc wi g tt te vs σ H Q := h
/-- values that do not hang on the heap; a filter -/
theorem lc_v {J : It} {n : Nat} {G : Hp → Prop} {Y : Nat → Hp → V → Hp → Prop} (w : Walk J n G Y) {g : TG} {tt : TT} {te : TE} {vs : List Nat} {σ : L2.St} {H1 : Hp} {D : Addr} {Q : VK} (f : Nat → Bool) (v : Nat → V)
    (hD : H1 D = none) (hn : n ≤ 100000) (hG : ∀ H, Ex H1 H → G H)
    (hs : ∀ (N : Hp → Prop) (i : Nat) (x : V) (H H' : Hp), i < n → Ex H1 H → Y i H x H' → (f i = false → ∀ H2, Ex H H2 → N H2) →
      (f i = true → ∀ H2, Ex H H2 → ∃ acc, H2 D = some (.lst acc) ∧ acc.length < sizeLine ∧ N (upd H2 D (.lst (acc ++ [v i])))) →
      g x (wipe σ vs) H' fun σ2 H2 => wipe σ2 vs = wipe σ vs ∧ tt σ2 H2 fun b H3 =>
        if b = true then te σ2 H3 fun y H4 => ∃ acc, H4 D = some (.lst acc) ∧ acc.length < sizeLine ∧ N (upd H4 D (.lst (acc ++ [y]))) else N H3)
    (hd : ∀ H, Ex H1 H → H D = some (.lst (given n f v)) → Q (.ref D) H) : LcW J g tt te vs Q σ H1 D :=
  lc_val w (Qd := fun H => Q (.ref D) H) f v hD hn hG hs hd
/-- values that may lie on the heap; a filter -/
theorem lc_rel {J : It} {n : Nat} {G : Hp → Prop} {Y : Nat → Hp → V → Hp → Prop} (w : Walk J n G Y) {g : TG} {tt : TT} {te : TE} {vs : List Nat} {σ : L2.St} {H1 : Hp} {D : Addr} {Q : VK} (f : Nat → Bool) (Rel : Nat → V → Hp → Prop)
    (hD : H1 D = none) (hn : n ≤ 100000) (hG : ∀ H, Ex H1 H → G H) (hst : ∀ i y H H', Exx [D] H H' → Rel i y H → Rel i y H')
    (hs : ∀ (N : Hp → Prop) (i : Nat) (x : V) (H H' : Hp), i < n → Ex H1 H → (∃ acc, H D = some (.lst acc)) → Y i H x H' → (f i = false → ∀ H2, Ex H H2 → N H2) →
      (f i = true → ∀ y H2, Ex H H2 → Rel i y H2 → ∃ acc, H2 D = some (.lst acc) ∧ acc.length < sizeLine ∧ N (upd H2 D (.lst (acc ++ [y])))) →
      g x (wipe σ vs) H' fun σ2 H2 => wipe σ2 vs = wipe σ vs ∧ tt σ2 H2 fun b H3 =>
        if b = true then te σ2 H3 fun y H4 => ∃ acc, H4 D = some (.lst acc) ∧ acc.length < sizeLine ∧ N (upd H4 D (.lst (acc ++ [y]))) else N H3)
    (hd : ∀ H ys, Ex H1 H → H D = some (.lst ys) → Paired (fun i y => Rel i y H) ((List.range n).filter f) ys → Q (.ref D) H) : LcW J g tt te vs Q σ H1 D := by
  refine lc_it w (Qd := fun H => Q (.ref D) H) (fun i H => Ex H1 H ∧ ∃ ys, H D = some (.lst ys) ∧ ys.length ≤ i ∧ Paired (fun i y => Rel i y H) ((List.range i).filter f) ys) ⟨Ex.new hD, [], upd_same, Nat.le_refl _, .nil⟩ (fun i H _ p => hG H p.1) (fun i x H H' hi p y => ?_) (fun H p => ?_)
  · obtain ⟨e, ys, hy, hl, hp⟩ := p
    have padd : ∀ {α β : Type} {R : α → β → Prop} {xs : List α} {ys : List β} {a : α} {b : β}, Paired R xs ys → R a b → Paired R (xs ++ [a]) (ys ++ [b]) := by
      intro α β R xs ys a b hp hr
      induction hp with
      | nil => exact .cons hr .nil
      | cons r _ ih => exact .cons r ih
    have pimp : ∀ {α β : Type} {R R' : α → β → Prop} (h : ∀ a b, R a b → R' a b) {xs : List α} {ys : List β}, Paired R xs ys → Paired R' xs ys := by
      intro α β R R' h xs ys hp
      induction hp with
      | nil => exact .nil
      | cons r _ ih => exact .cons (h _ _ r) ih
    refine hs _ i x H H' hi e ⟨ys, hy⟩ y (fun hf H2 e2 => ⟨e.trans e2, ys, e2 D _ hy, Nat.le_succ_of_le hl, ?_⟩) (fun hf y H2 e2 hr => ⟨ys, e2 D _ hy, ?_, Ex.mut (e.trans e2) hD, ys ++ [y], upd_same, ?_, ?_⟩)
    · have e0 : (List.range (i + 1)).filter f = (List.range i).filter f := by
        rw [List.range_succ, List.filter_append]
        simp [hf]
      rw [e0]
      exact pimp (fun i y => hst i y _ _ (Exx.of e2)) hp
    · have h2 : (100000 : Nat) ≤ sizeLine := Evl.sz_of (Nat.le_refl _)
      omega
    · rw [List.length_append, List.length_singleton]
      omega
    · have e0 : (List.range (i + 1)).filter f = (List.range i).filter f ++ [i] := by
        rw [List.range_succ, List.filter_append]
        simp [hf]
      rw [e0]
      have e3 : Exx [D] H2 (upd H2 D (.lst (ys ++ [y]))) := (Exx.refl _ _).wr (by simp)
      exact padd (pimp (fun i y q => hst i y _ _ e3 (hst i y _ _ (Exx.of e2) q)) hp) (hst i y _ _ e3 hr)
  · obtain ⟨e, ys, hy, _, hp⟩ := p
    exact hd H ys e hy hp
theorem Pimp {α β : Type} {R R' : α → β → Prop} {xs : List α} {ys : List β} (hp : Paired R xs ys) (h : ∀ a b, R a b → R' a b) : Paired R' xs ys := by
  induction hp with
  | nil => exact .nil
  | cons r _ ih => exact .cons (h _ _ r) ih
theorem Plen {α β : Type} {R : α → β → Prop} {xs : List α} {ys : List β} (hp : Paired R xs ys) : xs.length = ys.length := by
  induction hp with
  | nil => rfl
  | cons r _ ih => exact congrArg Nat.succ ih
theorem Pat {α β : Type} {R : α → β → Prop} {xs : List α} {ys : List β} (hp : Paired R xs ys) : ∀ {i : Nat} {x : α}, xs[i]? = some x → ∃ y, ys[i]? = some y ∧ R x y := by
  induction hp with
  | nil =>
    intro i x h
    simp at h
  | @cons a b xs ys r _ ih =>
    intro i x h
    cases i with
    | zero =>
      simp only [List.getElem?_cons_zero, Option.some.injEq] at h
      subst h
      exact ⟨b, rfl, r⟩
    | succ i =>
      simp only [List.getElem?_cons_succ] at h ⊢
      exact ih h
theorem Pof {α β : Type} {R : α → β → Prop} : ∀ {xs : List α} {ys : List β}, xs.length = ys.length → (∀ (i : Nat) (x : α) (y : β), xs[i]? = some x → ys[i]? = some y → R x y) → Paired R xs ys
  | [], [], _, _ => .nil
  | [], _ :: _, h, _ => by simp at h
  | _ :: _, [], h, _ => by simp at h
  | a :: xs, b :: ys, h, q => .cons (q 0 a b rfl rfl) (Pof (by simpa using h) fun i x y h1 h2 => q (i + 1) x y (by simpa using h1) (by simpa using h2))
/-- without a filter, over the places of a list -/
theorem Prange {α : Type} {R : Nat → α → Prop} {n : Nat} {ys : List α} (hp : Paired R ((List.range n).filter fun _ => true) ys) : ys.length = n ∧ ∀ i y, ys[i]? = some y → R i y := by
  rw [List.filter_eq_self.mpr (fun _ _ => rfl)] at hp
  have hl := Plen hp
  rw [List.length_range] at hl
  refine ⟨hl.symm, fun i y hy => ?_⟩
  have hi : i < n := by
    have := (List.getElem?_eq_some_iff.mp hy).1
    omega
  obtain ⟨y', h1, h2⟩ := Pat hp (i := i) (x := i) (by simp [hi])
  rw [hy] at h1
  cases h1
  exact h2
end
section
variable {X : Cx} {K : PySem.W.Frag} {σ : L2.St} {H : Hp} {Q : VK} {x y v : V} {to te ta : TE} {z z' acc : Str} {ys : List Str} {p : Addr}
/-! text's methods -/
theorem r_m1 {r : V → List V → Hp → VK → Prop} (h : to σ H fun x H1 => (∃ a, x = .str a) ∧ te σ H1 fun y H2 => r x [y] H2 Q) : tM1 r to te σ H Q := h
theorem x_isstr {R : Prop} (q : R) : (∃ a, V.str z = .str a) ∧ R := ⟨⟨z, rfl⟩, q⟩
def nJoin (K : PySem.W.Frag) : V → List V → Hp → VK → Prop := fun x xs H Q => ∃ a p, ∃ ys : List Str, x = .str a ∧ xs = [.ref p] ∧ (SqL K H p (ys.map V.str) ∨ SqT K H p (ys.map V.str)) ∧
      (ys.map (·.length)).sum + ys.length * a.length ≤ 16777216 ∧ Q (.str (Txt.join a ys)) H
theorem pe_joinN {o e : Expr} {apos pos : Pos} (ho : PE X o to) (he : PE X e te) (hs : starEach [e] X.env = [(false, eval e X.env)] := by rfl) (hbase : attributeBase o "join" X.env (eval o X.env) = eval o X.env := by rfl) (hline : (apos.endLine == pos.line) = true := by rfl) :
    PE X (.Call (.Attribute o "join" apos) [e] [] pos) (tM1 (nJoin X.K) to te) := pe_join ho he hs hbase hline
theorem r_join (h : SqL K H p (ys.map V.str)) (hl : (ys.map (·.length)).sum + ys.length * z.length ≤ 16777216) (q : Q (.str (Txt.join z ys)) H) : nJoin K (.str z) [.ref p] H Q := ⟨z, p, ys, rfl, rfl, .inl h, hl, q⟩
def nSplit : V → List V → Hp → VK → Prop := fun x xs H Q => ∃ a b, x = .str a ∧ xs = [.str b] ∧ (b.length == 0) = false ∧ a.length + 2 ≤ sizeLine ∧ rNewStrs (Txt.split a b) H Q
theorem pe_splitN {o e : Expr} {apos pos : Pos} (ho : PE X o to) (he : PE X e te) (hs : starEach [e] X.env = [(false, eval e X.env)] := by rfl) (hbase : attributeBase o "split" X.env (eval o X.env) = eval o X.env := by rfl) (hline : (apos.endLine == pos.line) = true := by rfl) :
    PE X (.Call (.Attribute o "split" apos) [e] [] pos) (tM1 nSplit to te) := pe_split ho he hs hbase hline
theorem r_split (hb : (z'.length == 0) = false) (hl : z.length ≤ 100000) (q : ∀ p, H p = none → Q (.ref p) (upd H p (.lst ((Txt.split z z').map V.str)))) : nSplit (.str z) [.str z'] H Q :=
  ⟨z, z', rfl, rfl, hb, Nat.le_trans (Nat.add_le_add_right hl 2) (by decide), q⟩
def nPartition : V → List V → Hp → VK → Prop := fun x xs H Q => ∃ a b, x = .str a ∧ xs = [.str b] ∧ (b.length == 0) = false ∧ a.length ≤ sizeLine ∧
      ∀ p, H p = none → Q (.ref p) (upd H p (.tup [.str (Txt.partition a b).1, .str (Txt.partition a b).2.1, .str (Txt.partition a b).2.2]))
theorem pe_partitionN {o e : Expr} {apos pos : Pos} (ho : PE X o to) (he : PE X e te) (hs : starEach [e] X.env = [(false, eval e X.env)] := by rfl) (hbase : attributeBase o "partition" X.env (eval o X.env) = eval o X.env := by rfl) (hline : (apos.endLine == pos.line) = true := by rfl) :
    PE X (.Call (.Attribute o "partition" apos) [e] [] pos) (tM1 nPartition to te) := pe_partition ho he hs hbase hline
theorem r_partition (hb : (z'.length == 0) = false) (hl : z.length ≤ 100000) (q : ∀ p, H p = none → Q (.ref p) (upd H p (.tup [.str (Txt.partition z z').1, .str (Txt.partition z z').2.1, .str (Txt.partition z z').2.2]))) : nPartition (.str z) [.str z'] H Q :=
  ⟨z, z', rfl, rfl, hb, sz100k hl, q⟩
def nEnds : V → List V → Hp → VK → Prop := fun x xs H Q => ∃ a b, x = .str a ∧ xs = [.str b] ∧ Q (.bl (Txt.endswith a b)) H
theorem mt_endsN : MtR X "str.endswith" nEnds := mt_endswith
theorem r_ends (q : Q (.bl (Txt.endswith z z')) H) : nEnds (.str z) [.str z'] H Q := ⟨z, z', rfl, rfl, q⟩
/-! f-strings -/
def tFs (ts : List TE) : TE := fun σ H Q => tJs ts Str.empty σ H fun out H1 => Q (.str out) H1
theorem pe_joinedN {v1 v2 : Expr} {rest : List Expr} {ts : List TE} {pos : Pos} (h : PJ X (v1 :: v2 :: rest) ts) : PE X (.JoinedStr (v1 :: v2 :: rest) pos) (tFs ts) := pe_joined h
theorem r_fs {ts : List TE} (h : tJs ts Str.empty σ H fun out H1 => Q (.str out) H1) : tFs ts σ H Q := h
theorem r_jsc {t : TE} {ts : List TE} {QJ : Str → Hp → Prop} (h : t σ H fun x H1 => ∃ y : Str, x = .str y ∧ (acc ++ y).length ≤ sizeLine ∧ tJs ts (acc ++ y) σ H1 QJ) : tJs (t :: ts) acc σ H QJ := h
theorem r_jsn {QJ : Str → Hp → Prop} (h : QJ acc H) : tJs [] acc σ H QJ := h
theorem x_js {R : Str → Prop} (hl : (acc ++ z).length ≤ 100000) (q : R z) : ∃ y : Str, V.str z = .str y ∧ (acc ++ y).length ≤ sizeLine ∧ R y := ⟨z, rfl, sz100k hl, q⟩
theorem r_fmt (h : te σ H fun x H1 => (∃ y : Str, x = .str y ∧ y.length ≤ sizeLine ∧ Q (.str y) H1) ∨ ∃ i : Int, x = .int i ∧ i.natAbs.log2 < 1920 ∧ Q (.str (toString i)) H1) : tFmt te σ H Q := h
theorem x_fmtS {R : Str → Prop} {B : Prop} (hl : z.length ≤ 100000) (q : R z) : (∃ y : Str, V.str z = .str y ∧ y.length ≤ sizeLine ∧ R y) ∨ B := .inl ⟨z, rfl, sz100k hl, q⟩
/-! slices -/
theorem r_sl {r : V → Option Int → Option Int → Hp → VK → Prop} {tl th : TO} (h : te σ H fun x H1 => tl σ H1 fun l H2 => th σ H2 fun u H3 => r x l u H3 Q) : L2.tSl r te tl th σ H Q := h
theorem o_none {QO : Option Int → Hp → Prop} (h : QO none H) : tNoPart σ H QO := h
theorem o_part {QO : Option Int → Hp → Prop} (h : te σ H fun x H1 => ∃ i, x = .int i ∧ QO (some i) H1) : tPart te σ H QO := h
theorem x_int {i : Int} {R : Int → Prop} (q : R i) : ∃ j, V.int i = .int j ∧ R j := ⟨i, rfl, q⟩
end
end
end Eg
namespace Eg
set_option Elab.async false
set_option linter.all false
set_option maxRecDepth 100000
set_option maxHeartbeats 4000000
/-! What a selection means. -/
open PySem PySem.Spec PyProof.Rows L2
open Evl (Ex given)
local macro_rules | `(tactic| walk_at "ln") => `(tactic| first
  | assumption
  | omega
  | (simp only [S_len, str_len_app, str_len_nil, List.length_cons, List.length_append, List.length_nil]; omega))
local macro_rules | `(tactic| walk_at "ne") => `(tactic| first
  | assumption
  | exact Ne.symm (by assumption)
  | exact ne_of_none (by assumption) (by assumption)
  | exact Ne.symm (ne_of_none (by assumption) (by assumption))
  | exact ne_of (by assumption) (by assumption) (by intro z; cases z))
local macro_rules | `(tactic| walk_at "hp") => `(tactic| first
  | assumption
  | exact upd_same
  | ((with_reducible refine' Eq.trans (upd_ne ?hn) ?hr); (case hn => walk_at "ne"); (case hr => walk_at "hp"))
  | ((with_reducible refine' ex_at ?hn ?hr); (case hn => assumption); (case hr => walk_at "hp")))
local macro_rules | `(tactic| walk_at "sq") => `(tactic| first | assumption | ((with_reducible apply SqL.of); walk_at "hp") | ((with_reducible apply SqT.of); walk_at "hp"))
local macro_rules | `(tactic| walk_at "v1") => `(tactic| first
  | ((with_reducible refine' r_var ?hv ?_); (case hv => exact rfl))
  | (with_reducible refine r_c ?_) | (with_reducible refine r_op ?_) | (with_reducible refine r_cons ?_) | (with_reducible refine r_nil ?_) | (with_reducible refine r_cb ?_) | (with_reducible refine r_call ?_) | (with_reducible refine r_un ?_)
  | (with_reducible refine r_seq ?_) | (with_reducible refine r_asg ?_) | (with_reducible refine r_gname ?_) | (with_reducible refine r_ret ?_) | (with_reducible refine r_retN ?_) | (with_reducible refine r_next ?_) | (with_reducible refine r_cont ?_) | (with_reducible refine r_drop ?_) | (with_reducible refine r_ifs ?_) | (with_reducible refine r_par ?_) | (with_reducible refine x_two ?_)
  | (with_reducible refine r_I0 ?_) | (with_reducible refine r_neg ?_) | ((with_reducible refine r_eq ?hv ?_); (case hv => exact rfl)) | ((with_reducible refine r_ne ?hv ?_); (case hv => exact rfl))
  | (with_reducible refine r_test ?_) | (with_reducible refine r_B ?_) | (with_reducible refine r_and ?_) | (with_reducible refine r_or ?_) | (with_reducible refine r_not ?_) | (with_reducible refine r_yes ?_) | (with_reducible refine r_ifE ?_)
  | (with_reducible refine r_andV ?_) | (with_reducible refine r_orV ?_) | (with_reducible refine r_notV ?_) | (with_reducible refine x_bl ?_)
  | (with_reducible refine r_meth ?_) | (with_reducible refine r_make ?_) | (with_reducible refine r_tup ?_) | (with_reducible refine r_lst ?_) | (with_reducible refine r_dnew ?_) | (with_reducible refine r_sfld ?_) | (with_reducible refine r_fldA ?_) | (with_reducible refine iteT ?_) | (with_reducible refine iteF ?_) | (with_reducible refine iteNf ?_) | (with_reducible refine iteNt ?_)
  | ((with_reducible refine' x_at ?hv ?_); (case hv => assumption))
  | ((with_reducible refine' r_lenS ?hv ?_); (case hv => walk_at "ln")) | ((with_reducible refine' r_lenL ?hv ?_); (case hv => walk_at "sq")) | ((with_reducible refine' r_lenT ?hv ?_); (case hv => walk_at "sq"))
  | (with_reducible refine r_inS ?_) | (with_reducible refine r_ninS ?_) | (with_reducible refine r_isN ?_) | (with_reducible refine r_notN ?_)
  | (with_reducible refine r_bm ?_) | ((with_reducible refine' x_tyL ?hv ?_); (case hv => walk_at "sq")) | (with_reducible refine r_for ?_) | (with_reducible refine i_str ?_) | (with_reducible refine x_str ?_)
  | (with_reducible refine i_tup ?_) | (with_reducible refine i_list ?_) | ((with_reducible refine' x_itup ?hv ?_); (case hv => walk_at "sq")) | ((with_reducible refine' x_ilist ?hv ?_); (case hv => walk_at "sq"))
  | ((with_reducible refine' g_tup ?hv ?hl ?_); (case hv => walk_at "sq"); (case hl => exact rfl)) | (with_reducible refine g_cons ?_) | (with_reducible refine g_nil ?_) | (with_reducible refine r_lc ?_)
  | (with_reducible refine r_m1 ?_) | (with_reducible refine x_isstr ?_) | (with_reducible refine r_fs ?_) | (with_reducible refine r_jsc ?_) | (with_reducible refine r_jsn ?_) | (with_reducible refine r_fmt ?_) | (with_reducible refine r_sl ?_) | (with_reducible refine o_none ?_) | (with_reducible refine o_part ?_) | (with_reducible refine x_int ?_)
  | ((with_reducible refine' x_js ?hv ?_); (case hv => walk_at "ln")) | ((with_reducible refine' x_fmtS ?hv ?_); (case hv => walk_at "ln")) | ((with_reducible refine' r_split ?hb ?hv ?_); (case hb => exact rfl); (case hv => walk_at "ln")) | ((with_reducible refine' r_partition ?hb ?hv ?_); (case hb => exact rfl); (case hv => walk_at "ln")) | (with_reducible refine r_ends ?_)
  | ((with_reducible refine' x_sz ?hv ?_); (case hv => first | decide | omega | (simp only [List.length_cons, List.length_nil]; omega)))
  | ((with_reducible refine' r_addS ?hv ?_); (case hv => walk_at "ln"))
  | ((with_reducible refine' r_aug ?hv ?_); (case hv => exact rfl)))
local macro_rules | `(tactic| walk_at "v") => `(tactic| (repeat (walk_at "v1")))

/-! ### series -/
/-- tags by ascending keys -/
def tagsOk (l : List (List Nat × List Nat)) : Prop := l.length ≤ 6 ∧ (∀ kw ∈ l, isName (S kw.1) = true ∧ kw.1 ≠ nNAME ∧ isWord (S kw.2) = true) ∧ l.Pairwise (fun x y => x.1 < y.1)
def SerOk (s : Ser) : Prop := isName (S s.name) = true ∧ tagsOk s.tags
def PairAt (H : Hp) (q : Addr) (kw : List Nat × List Nat) : Prop := H q = some (.tup [vS kw.1, vS kw.2])
structure SerAt (K : PySem.W.Frag) (H : Hp) (v : V) (s : Ser) : Prop where
  ob : ∃ a dx tp qs, v = .ref a ∧ H a = some (.ins (He.ga K "Series") dx [("name", vS s.name), ("tags", .ref tp)]) ∧ H tp = some (.tup (qs.map V.ref)) ∧ Paired (PairAt H) qs s.tags
  ok : SerOk s
theorem SerAt.ex {K : PySem.W.Frag} {H H' : Hp} {v : V} {s : Ser} (h : SerAt K H v s) (e : Ex H H') : SerAt K H' v s := by
  obtain ⟨⟨a, dx, tp, qs, h1, h2, h3, h4⟩, ok⟩ := h
  exact ⟨⟨a, dx, tp, qs, h1, e _ _ h2, e _ _ h3, Pimp h4 fun _ _ q => e _ _ q⟩, ok⟩
def optV : Option (List Nat) → V
  | none => .non
  | some l => vS l
theorem vS_eq {a b : List Nat} : vS a = vS b ↔ a = b := ⟨fun h => by injection h with h; exact S_inj h, fun h => by rw [h]⟩
theorem vS_dec {a b : List Nat} : decide (vS a = vS b) = decide (a = b) := decide_eq_decide.mpr vS_eq
section
variable {P : Program} {w : World} {K : PySem.W.Frag} {mg : Str → Option Value} {base : Heap}
theorem SerAt.fname (T : Txt K mg) {H : Hp} {v : V} {s : Ser} (h : SerAt K H v s) : AtF K "name" v H (vS s.name) := by
  obtain ⟨⟨a, dx, tp, qs, rfl, h2, _⟩, _⟩ := h
  exact at_f h2 T.c_Series T.n_Series_name lk_hd
def spWordOf (K : PySem.W.Frag) : Sp := fun vs H Q _ => ∃ (v : V) (s : Ser) (k : List Nat), vs = [v, vS k] ∧ SerAt K H v s ∧ isName (S k) = true ∧ ∀ H', Ex H H' → Q (optV (wordOf s k)) H'
theorem lookup_none {k : List Nat} : ∀ {l : List (List Nat × List Nat)}, (∀ x ∈ l, x.1 ≠ k) → l.lookup k = none
  | [], _ => rfl
  | (a, b) :: l, h => by
    have h1 : (k == a) = false := by
      have := h (a, b) (by simp)
      simp only [beq_eq_false_iff_ne, ne_eq]
      exact fun z => this z.symm
    rw [List.lookup, h1]
    exact lookup_none fun x hx => h x (by simp [hx])
theorem lookup_at {k : List Nat} : ∀ {l : List (List Nat × List Nat)} {i : Nat} {x : List Nat × List Nat}, l[i]? = some x → (∀ y ∈ l.take i, y.1 ≠ k) → x.1 = k → l.lookup k = some x.2
  | [], _, _, h, _, _ => by simp at h
  | (a, b) :: l, 0, x, h, _, e => by
    simp only [List.getElem?_cons_zero, Option.some.injEq] at h
    subst h
    subst e
    simp [List.lookup]
  | (a, b) :: l, i + 1, x, h, n, e => by
    have h1 : (k == a) = false := by
      have := n (a, b) (by simp)
      simp only [beq_eq_false_iff_ne, ne_eq]
      exact fun z => this z.symm
    rw [List.lookup, h1]
    exact lookup_at (i := i) (by simpa using h) (fun y hy => n y (by simp [hy])) e
theorem sc_word_of : FnScope ["series", "key", "one", "word"] ["series", "key"] (defScope s_word_of) := ⟨rfl, rfl, rfl, by decide +kernel, rfl, by decide +kernel, by decide +kernel⟩
theorem ok_word_of (T : Txt K mg) : GoodP P w K mg base "word_of" 4 ["series", "key"] (spWordOf K) := by
  have G_check_series := ok_check_series (P := P) (w := w) (base := base) T
  have G_is_name := ok_is_name (P := P) (w := w) (base := base) T
  obtain ⟨fd, F⟩ := T.f_word_of
  refine good_of F sc_word_of (fun vs H Q E h => ?_) (fun _ _ _ _ _ _ us hl => match us, hl with | [_, _], _ => rfl) (fun cdv A outer s H vs Q E hr h => ?_)
  · obtain ⟨v, s, k, rfl, _⟩ := h
    rfl
  · obtain ⟨v, sr, kk, rfl, hs, hk, k⟩ := h
    have hs0 := hs
    obtain ⟨⟨a, dx, tp, qs, rfl, h2, h3, h4⟩, hok⟩ := hs
    refine ⟨_, (pss_cons (ps_expr (pcall G_check_series hr T.g_check_series (pa_cons (pv 0) pa_nil)))
    (pss_cons (ps_if (pt_not (pt_val (pcall G_is_name hr T.g_is_name (pa_cons (pv 1) pa_nil)))) (pss_one ps_never) pss_nil)
    (pss_cons (ps_if (pt_cmpR op_eq (pv 1) (pe_kstr (T.k_NAME)) (nomark _)) (pss_one (ps_ret (pe_fld (pv 0) rfl))) pss_nil)
    (pss_cons (ps_for PassesOwn.never rfl (pi_tup (pe_fld (pv 0) rfl)) (pg_tup rfl (pgs_cons (pg_name (i := 2) sc_word_of.nd rfl (Or.inl rfl)) (pgs_cons (pg_name (i := 3) sc_word_of.nd rfl (Or.inl rfl)) pgs_nil)))
    (pss_one (ps_if (pt_cmpR op_eq (pv 2) (pv 1) (nomark _)) (pss_one (ps_ret (pv 3))) pss_nil)))
    (pss_one (ps_ret pe_non)))))), ?_⟩
    walk_at "v"
    refine ⟨_, rfl, .inl ⟨a, dx, _, rfl, h2, ?_⟩⟩
    walk_at "v"
    refine u_of (by have := (isFile_len (isName_file hk)).2; omega) fun H1 e1 => ?_
    rw [hk]
    walk_at "v"
    refine ite2 (fun hc => ?_) (fun hc => ?_)
    · have e : kk = nNAME := vS_eq.mp (of_decide_eq_true hc)
      have f1 := (hs0.ex e1).fname T
      walk_at "v"
      have q := k H1 e1
      unfold wordOf at q
      rw [if_pos e] at q
      exact q
    · have e : kk ≠ nNAME := fun z => hc (decide_eq_true (by rw [z]; rfl))
      have ek : wordOf sr kk = sr.tags.lookup kk := if_neg e
      have f1 : AtF K "tags" (.ref a) H1 (.ref tp) := at_f (e1 _ _ h2) T.c_Series T.n_Series_tags ((lk_tl (by decide +kernel)).trans lk_hd)
      have h3' := e1 _ _ h3
      have h4' : Paired (PairAt H1) qs sr.tags := Pimp h4 fun _ _ q => e1 _ _ q
      walk_at "v"
      refine for_it walk_tup (fun i σ H' => H' = H1 ∧ (∀ y ∈ sr.tags.take i, y.1 ≠ kk) ∧ ∃ o w, σ = [some (.ref a), some (vS kk), o, w]) ⟨rfl, by simp, none, none, rfl⟩ (fun _ _ H' _ p => by rw [p.1]; exact SqT.of h3') ?_ ?_
      · rintro i x σ H' H'' hi ⟨rfl, hno, o, w', rfl⟩ ⟨rfl, hx⟩
        obtain ⟨q, hq, rfl⟩ : ∃ q, qs[i]? = some q ∧ x = V.ref q := by
          rw [List.getElem?_map] at hx
          cases e : qs[i]? with
          | none =>
            rw [e] at hx
            cases hx
          | some q =>
            rw [e] at hx
            exact ⟨q, rfl, (Option.some.inj hx).symm⟩
        obtain ⟨kw, hkw, hp⟩ := Pat h4' hq
        have hp' := hp; unfold PairAt at hp'
        walk_at "v"
        refine ite2 (fun hd => ?_) (fun hd => ?_)
        · have e2 := vS_eq.mp (of_decide_eq_true hd)
          walk_at "v"
          have q := k H'' e1
          rw [ek, lookup_at hkw hno e2] at q
          exact q
        · refine ⟨rfl, fun y hy => ?_, _, _, rfl⟩
          obtain ⟨hi2, e3⟩ := List.getElem?_eq_some_iff.mp hkw
          rw [← List.take_append_getElem hi2, List.mem_append, List.mem_singleton] at hy
          rcases hy with hy | hy
          · exact hno y hy
          · intro z
            refine hd (decide_eq_true ?_)
            rw [hy, e3] at z
            rw [z]
      · rintro σ H' ⟨rfl, hno, o, w', rfl⟩
        rw [List.length_map, Plen h4', List.take_length] at hno
        walk_at "v"
        have q := k H' e1
        rw [ek, lookup_none hno] at q
        exact q
/-- a test, of the word that a series has under its key -/
def spPasses (K : PySem.W.Frag) : Sp := fun vs H Q _ => ∃ (v u : V) (m : Mn) (a dx : Addr) (kv wv : V), vs = [v, u] ∧ v = .ref a ∧ H a = some (.ins (He.ga K "Test") dx [("key", kv), ("word", wv)]) ∧
  ((kv = .non ∧ Q (.bl true) H) ∨ (∃ k o, kv = vS k ∧ wv = .non ∧ u = optV o ∧ Q (.bl o.isSome) H) ∨ ∃ k x o, kv = vS k ∧ wv = vS x ∧ u = optV o ∧ Q (.bl (decide (o = some x))) H)
theorem optV_non {o : Option (List Nat)} : (!decide (optV o = V.non)) = o.isSome := by
  cases o with
  | none => rfl
  | some l => rfl
theorem optV_vS {o : Option (List Nat)} {x : List Nat} : decide (optV o = vS x) = decide (o = some x) := by
  cases o with
  | none => exact decide_eq_decide.mpr ⟨fun h => (by cases h), fun h => by cases h⟩
  | some l => exact decide_eq_decide.mpr ⟨fun h => by rw [vS_eq.mp h], fun h => by rw [Option.some.inj h]; rfl⟩
theorem sc_Test_passes : FnScope ["self", "word"] ["self", "word"] (defScope s_Test_passes) := ⟨rfl, rfl, rfl, by decide +kernel, rfl, by decide +kernel, by decide +kernel⟩
theorem ok_Test_passes (T : Txt K mg) : GoodM P w K mg base "Test" "passes" 1 ["self", "word"] (spPasses K) := by
  obtain ⟨fd, F⟩ := T.f_Test_passes
  refine good_of F sc_Test_passes (fun vs H Q E h => ?_) (fun _ _ _ _ _ _ us hl => match us, hl with | [_, _], _ => rfl) (fun cdv A outer s H vs Q E hr h => ?_)
  · obtain ⟨v, u, m, a, dx, kv, wv, rfl, _⟩ := h
    rfl
  · obtain ⟨v, u, m, a, dx, kv, wv, rfl, rfl, ha, h⟩ := h
    have f1 : AtF K "key" (.ref a) H kv := at_f ha T.c_Test T.n_Test_key lk_hd
    have f2 : AtF K "word" (.ref a) H wv := at_f ha T.c_Test T.n_Test_word ((lk_tl (by decide +kernel)).trans lk_hd)
    refine ⟨_, (pss_cons (ps_if (pt_cmpR op_isN1 (pe_fld (pv 0) rfl) pe_non (nomark _)) (pss_one (ps_ret pe_bl)) pss_nil)
    (pss_one (ps_ret (pe_ifExp (pt_cmpR op_isN1 (pe_fld (pv 0) rfl) pe_non (nomark _)) (pe_cmpR op_notN1 (pv 1) pe_non (nomark _)) (pe_cmpR op_eq (pv 1) (pe_fld (pv 0) rfl) (nomark _)))))), ?_⟩
    rcases h with ⟨rfl, k⟩ | ⟨kk, o, rfl, rfl, rfl, k⟩ | ⟨kk, x, o, rfl, rfl, rfl, k⟩
    · walk_at "v"
      exact k
    · walk_at "v"
      rw [show decide (vS kk = V.non) = false from rfl]
      walk_at "v"
      rw [show decide (V.non = V.non) = true from rfl]
      walk_at "v"
      rw [optV_non]
      exact k
    · walk_at "v"
      rw [show decide (vS kk = V.non) = false from rfl]
      walk_at "v"
      rw [show decide (vS x = V.non) = false from rfl]
      walk_at "v"
      refine ⟨by cases o <;> rfl, ?_⟩
      rw [optV_vS]
      exact k
def spMeans (K : PySem.W.Frag) (n : Nat) : Sp := fun vs H Q _ => ∃ (v u : V) (m : Mn) (s : Ser) (N : Addr → Prop), vs = [v, u] ∧ TrP K N H n v m ∧ SerAt K H u s ∧ ∀ H', Ex H H' → Q (.bl (m s)) H'
theorem sc_means : FnScope ["tree", "series", "sign", "parts", "found", "part"] ["tree", "series"] (defScope s_means) := ⟨rfl, rfl, rfl, by decide +kernel, rfl, by decide +kernel, by decide +kernel⟩
theorem means_step (T : Txt K mg) {k : Nat} (hk : 4 ≤ k) {d : Nat} {sp0 : Sp} (G_means : GoodP P w K mg base "means" k ["tree", "series"] sp0) (hsp : d = 0 ∨ ∃ d', d = d' + 1 ∧ sp0 = spMeans K d') :
    GoodP P w K mg base "means" (k + 1) ["tree", "series"] (spMeans K d) := by
  have G_Test_passes := ok_Test_passes (P := P) (w := w) (base := base) T
  have G_word_of := ok_word_of (P := P) (w := w) (base := base) T
  obtain ⟨fd, F⟩ := T.f_means
  refine good_of F sc_means (fun vs H Q E h => ?_) (fun _ _ _ _ _ _ us hl => match us, hl with | [_, _], _ => rfl) (fun cdv A outer s H vs Q E hr h => ?_)
  · obtain ⟨v, u, m, s, N, rfl, _⟩ := h
    rfl
  · obtain ⟨v, u, m, sr, N, rfl, ht, hs, k⟩ := h
    refine ⟨_, (pss_cons (ps_if (pt_val (pe_callB call_isi rfl T.z_isinstance (by decide +kernel) (pa_cons (pv 0) (pa_cons (pe_gref T.g_Test) pa_nil)))) (pss_one (ps_ret (pmeth (pv 0) T.c_Test T.m_Test_passes G_Test_passes hr (pa_cons (pe_ifExp (pt_cmpR op_isN1 (pe_fld (pv 0) rfl) pe_non (nomark _)) pe_non (pcall G_word_of hr T.g_word_of (pa_cons (pv 1) (pa_cons (pe_fld (pv 0) rfl) pa_nil)))) pa_nil)))) pss_nil)
    (pss_cons (ps_asg (pv 0) (pg_tup rfl (pgs_cons (pg_name (i := 2) sc_means.nd rfl (Or.inl rfl)) (pgs_cons (pg_name (i := 3) sc_means.nd rfl (Or.inl rfl)) pgs_nil))))
    (pss_cons (ps_setLc (i := 4) (own := [("part", 5)]) rfl sc_means.nd rfl rfl (sw_true rfl rfl rfl (by decide +kernel)) (pi_list (pv 3)) (blkOk_by (N := ["tree", "series", "sign", "parts", "found", "part"]) (sc := defScope s_means) (by decide +kernel)) (fun _ _ _ _ _ => (pg_name (i := 5) sc_means.nd rfl (Or.inl rfl))) (fun _ _ _ _ _ => pts_nil) (fun _ _ _ _ _ => (pcall G_means hr T.g_means (pa_cons (pv 5) (pa_cons (pv 1) pa_nil)))))
    (pss_cons (ps_if (pt_cmpR op_eq (pv 2) (pe_kstr (T.k_NOT)) (nomark _)) (pss_one (ps_ret (pe_not (pe_ix ix_list (pv 4) pe_int (fun _ _ => rfl))))) pss_nil)
    (pss_one (ps_ret (pe_ifExp (pt_cmpR op_eq (pv 2) (pe_kstr (T.k_AND)) (nomark _)) (pe_callB (cr_all rfl) rfl T.z_all (by decide +kernel) (pa_cons (pv 4) pa_nil)) (pe_callB (cr_any rfl) rfl T.z_any (by decide +kernel) (pa_cons (pv 4) pa_nil))))))))), ?_⟩
    walk_at "v"
    have cases : TeAt K H v m ∨ ∃ d', d = d' + 1 ∧ sp0 = spMeans K d' ∧ ∃ a l, v = .ref a ∧ N l ∧ ((∃ u m', H a = some (.tup [.str "!", .ref l]) ∧ H l = some (.lst [u]) ∧ TrP K N H d' u m' ∧ m = fun s => !m' s) ∨
      ∃ (b : Bool) (xs : List (V × Mn)), H a = some (.tup [.str (if b = true then "&" else "|"), .ref l]) ∧ H l = some (.lst (xs.map (·.1))) ∧ 1 < xs.length ∧ xs.length ≤ 1000 ∧ (∀ x ∈ xs, TrP K N H d' x.1 x.2) ∧ m = if b = true then allM (xs.map (·.2)) else anyM (xs.map (·.2))) := by
      rcases hsp with rfl | ⟨d', rfl, h0⟩
      · exact .inl ht
      · rcases ht with ht | ht
        · exact .inl ht
        · exact .inr ⟨d', rfl, h0, ht⟩
    rcases cases with ⟨a, dx, kv, wv, rfl, ha, hm⟩ | ⟨d', rfl, rfl, a, l, rfl, hN, h⟩
    · have f1 : AtF K "key" (.ref a) H kv := at_f ha T.c_Test T.n_Test_key lk_hd
      refine ⟨_, _, _, _, true, rfl, .own _, T.tyIns (by decide +kernel) T.c_Test ha, kit_self _, ?_⟩
      walk_at "v"
      refine ⟨is_ins ha ((lk_tl (by decide +kernel)).trans ((lk_tl (by decide +kernel)).trans rfl)), ?_⟩
      walk_at "v"
      rcases hm with ⟨rfl, rfl, rfl⟩ | ⟨kk, rfl, rfl, hkk, rfl⟩ | ⟨kk, x, rfl, rfl, hkk, hx, rfl⟩
      · walk_at "v"
        rw [show decide (V.non = V.non) = true from rfl]
        walk_at "v"
        refine ⟨_, _, fun _ => true, a, dx, _, _, rfl, rfl, ha, .inl ⟨rfl, k H (Ex.refl _)⟩⟩
      · walk_at "v"
        rw [show decide (vS kk = V.non) = false from rfl]
        walk_at "v"
        refine ⟨u, sr, kk, rfl, hs, hkk, fun H1 e1 => ?_⟩
        walk_at "v"
        exact ⟨_, _, fun _ => true, a, dx, _, _, rfl, rfl, e1 _ _ ha, .inr (.inl ⟨kk, _, rfl, rfl, rfl, k H1 e1⟩)⟩
      · walk_at "v"
        rw [show decide (vS kk = V.non) = false from rfl]
        walk_at "v"
        refine ⟨u, sr, kk, rfl, hs, hkk, fun H1 e1 => ?_⟩
        walk_at "v"
        exact ⟨_, _, fun _ => true, a, dx, _, _, rfl, rfl, e1 _ _ ha, .inr (.inr ⟨kk, x, _, rfl, rfl, rfl, k H1 e1⟩)⟩
    · have key : ∃ (sg : Str) (x0 : V × Mn) (xr : List (V × Mn)), H a = some (.tup [.str sg, .ref l]) ∧ H l = some (.lst ((x0 :: xr).map (·.1))) ∧ (x0 :: xr).length ≤ 1000 ∧ (∀ x ∈ x0 :: xr, TrP K N H d' x.1 x.2) ∧
          ((sg = "!" ∧ m = fun s => !x0.2 s) ∨ (sg = "&" ∧ m = allM ((x0 :: xr).map (·.2))) ∨ (sg = "|" ∧ m = anyM ((x0 :: xr).map (·.2)))) := by
        rcases h with ⟨u0, m', ha, hl, ht0, rfl⟩ | ⟨b, xs, ha, hl, h1, h2, h3, rfl⟩
        · exact ⟨_, (u0, m'), [], ha, hl, by show 1 ≤ 1000; decide, fun x hx => by rw [List.mem_singleton] at hx; subst hx; exact ht0, .inl ⟨rfl, rfl⟩⟩
        · cases xs with
          | nil => exact absurd h1 (by simp)
          | cons x0 xr =>
            refine ⟨_, x0, xr, ha, hl, h2, h3, ?_⟩
            cases b with
            | true => exact .inr (.inl ⟨rfl, rfl⟩)
            | false => exact .inr (.inr ⟨rfl, rfl⟩)
      obtain ⟨sg, x0, xr, ha, hl, hlen, h3, hm⟩ := key
      refine ⟨_, _, _, _, false, rfl, .own _, .base (.tup ha), T.kitf (by decide +kernel) (by decide), ?_⟩
      walk_at "v"
      intro D hD
      refine lc_v walk_list (fun _ => true) (fun i => ((x0 :: xr).map fun x => V.bl (x.2 sr)).getD i .non) hD (by rw [List.length_map]; omega) (fun H1 e1 => SqL.of (e1 _ _ hl)) ?_ (fun H1 e1 hd => ?_)
      · rintro n i x H1 H2 hi e1 ⟨rfl, hx⟩ _ hyes
        rw [List.getElem?_map] at hx
        cases ex : (x0 :: xr)[i]? with
        | none =>
          rw [ex] at hx
          cases hx
        | some y =>
          rw [ex] at hx
          have hx' : y.1 = x := Option.some.inj hx
          subst hx'
          walk_at "v"
          refine ⟨rfl, yes_ ?_⟩
          walk_at "v"
          refine ⟨y.1, u, y.2, sr, N, rfl, (h3 y (List.mem_of_getElem? ex)).ex e1, hs.ex e1, fun H3 e3 => ?_⟩
          have q := hyes rfl H3 e3
          rw [List.getD_eq_getElem?_getD, List.getElem?_map, ex] at q
          exact q
      · have hg : given ((x0 :: xr).map (·.1)).length (fun _ => true) (fun i => ((x0 :: xr).map fun x => V.bl (x.2 sr)).getD i .non) = (((x0 :: xr).map fun x => x.2 sr).map V.bl) := by
          rw [List.length_map, given_all (x0 :: xr) (fun x => V.bl (x.2 sr))]
          · rw [List.map_map]
            rfl
          · intro i hi
            rw [List.getD_eq_getElem?_getD, List.getElem?_map, List.getElem?_eq_getElem hi]
            rfl
        rw [hg] at hd
        walk_at "v"
        have q := k H1 e1
        rcases hm with ⟨rfl, rfl⟩ | ⟨rfl, rfl⟩ | ⟨rfl, rfl⟩
        · rw [show decide (V.str "!" = V.str "!") = true from by decide +kernel]
          walk_at "v"
          refine r_ixL (SqL.of hd) (atI_nat (j := 0) (v := .bl (x0.2 sr)) rfl) ?_
          exact ⟨_, rfl, q⟩
        · rw [show decide (V.str "&" = V.str "!") = false from by decide +kernel]
          walk_at "v"
          rw [show decide (V.str "&" = V.str "&") = true from by decide +kernel]
          walk_at "v"
          refine ⟨D, _, rfl, SqL.of hd, ?_⟩
          have e0 : ((x0 :: xr).map fun x => x.2 sr).all id = allM ((x0 :: xr).map (·.2)) sr := by
            unfold allM
            rw [List.all_map, List.all_map]
            rfl
          rw [e0]
          exact q
        · rw [show decide (V.str "|" = V.str "!") = false from by decide +kernel]
          walk_at "v"
          rw [show decide (V.str "|" = V.str "&") = false from by decide +kernel]
          walk_at "v"
          refine ⟨D, _, rfl, SqL.of hd, ?_⟩
          have e0 : ((x0 :: xr).map fun x => x.2 sr).any id = anyM ((x0 :: xr).map (·.2)) sr := by
            unfold anyM
            rw [List.any_map, List.any_map]
            rfl
          rw [e0]
          exact q
theorem no_means (T : Txt K mg) : GoodP P w K mg base "means" 1 ["tree", "series"] (fun _ _ _ _ => False) := by
  obtain ⟨fd, F⟩ := T.f_means
  exact good_of F sc_means (fun vs H Q E h => h.elim) (fun _ _ _ _ _ _ us hl => match us, hl with | [_, _], _ => rfl) (fun cdv A outer s H vs Q E hr h => h.elim)
theorem ok_means (T : Txt K mg) : ∀ d, GoodP P w K mg base "means" (5 + d) ["tree", "series"] (spMeans K d) := by
  intro d
  induction d with
  | zero => exact means_step T (k := 4) (Nat.le_refl _) ((no_means T).mono (by decide)) (.inl rfl)
  | succ d ih => exact (means_step T (k := 5 + d) (d := d + 1) (by omega) ih (.inr ⟨d, rfl, rfl⟩)).mono (by omega)
/-- Selection(z), z a text of the grammar -/
def spSelInit (K : PySem.W.Frag) : Sp := fun vs H Q _ => ∃ (p dx : Addr) (z : Str) (m : Mn), vs = [.ref p, .str z] ∧ H p = some (.ins (He.ga K "Selection") dx []) ∧ z.length ≤ 10000 ∧ AnyP 2 (toks (tl z)) m ∧ (toks (tl z)).length ≤ 40 ∧
  ∀ tv H', H' p = some (.ins (He.ga K "Selection") dx [("tree", tv)]) → TrP K (fun a => H a = none) H' 9 tv m → Exx [p] H H' → Q .non H'
theorem sc_Selection_init : FnScope ["self", "text", "row", "parts"] ["self", "text"] (defScope s_Selection_init) := ⟨rfl, rfl, rfl, by decide +kernel, rfl, by decide +kernel, by decide +kernel⟩
theorem ok_Selection_init (T : Txt K mg) : GoodM P w K mg base "Selection" "__init__" 14 ["self", "text"] (spSelInit K) := by
  have G_parts_of := ok_parts_of (P := P) (w := w) (base := base) T
  have G_Parts_init := ok_Parts_init (P := P) (w := w) (base := base) T
  have G_Parts_must_end := ok_Parts_must_end (P := P) (w := w) (base := base) T
  have G_read_any : GoodP P w K mg base "read_any" 13 ["parts"] (spRd K 9 (AnyP 2) nx3) := (ok_rd (P := P) (w := w) (base := base) T 2).2
  obtain ⟨fd, F⟩ := T.f_Selection_init
  refine good_of F sc_Selection_init (fun vs H Q E h => ?_) (fun _ _ _ _ _ _ us hl => match us, hl with | [_, _], _ => rfl) (fun cdv A outer s H vs Q E hr h => ?_)
  · obtain ⟨p, dx, z, m, rfl, _⟩ := h
    rfl
  · obtain ⟨p, dx, z, m, rfl, hp, hz, hg, hl, k⟩ := h
    refine ⟨_, (pss_cons (ps_set (i := 2) sc_Selection_init.nd rfl (Or.inl rfl) (pe_ifExp (pt_val (pe_callB call_isi rfl T.z_isinstance (by decide +kernel) (pa_cons (pv 1) (pa_cons (pe_ty (n := "str") T.z_str (by decide +kernel)) pa_nil)))) (pcall G_parts_of hr T.g_parts_of (pa_cons (pv 1) pa_nil)) (pe_lst pa_nil)))
    (pss_cons (ps_if (pt_cmpR op_gt (pe_callB call_lenN rfl T.z_len (by decide +kernel) (pa_cons (pv 2) pa_nil)) (pe_kint (T.k_MOST_PARTS)) (nomark _)) (pss_one ps_never) pss_nil)
    (pss_cons (ps_set (i := 3) sc_Selection_init.nd rfl (Or.inl rfl) (pmake T.mk_Parts G_Parts_init hr T.g_Parts (pa_cons (pv 2) pa_nil)))
    (pss_one (ps_try_thru0 (pss_cons (ps_fld (pv 0) (pcall G_read_any hr T.g_read_any (pa_cons (pv 3) pa_nil)) rfl)
    (pss_one (ps_expr (pmeth0 (pv 3) T.c_Parts T.m_Parts_must_end G_Parts_must_end hr))))))))), ?_⟩
    walk_at "v"
    refine ⟨_, _, _, _, true, rfl, .ty _, .base (.str z), kit_ty (by decide +kernel), ?_⟩
    walk_at "v"
    refine ⟨z, rfl, hz, fun rp H1 hrp e1 hrow => ?_⟩
    walk_at "v"
    rw [show decide ((40 : Int) < ((List.map vS (toks (tl z))).length : Nat)) = false from decide_eq_false (by rw [List.length_map]; omega)]
    walk_at "v"
    intro x dx' nx nd hxd
    refine ⟨x, dx', rp, toks (tl z), rfl, upd_same, ?_, by omega, fun H2 h2 e2 => ⟨rfl, ?_⟩⟩
    · rw [upd_ne (ne_of_none hrow nx), upd_ne (ne_of_none hrow nd)]
      exact hrow
    have e3 : Ex H1 H2 := made_ex nx nd e2
    walk_at "v"
    refine ⟨x, rp, toks (tl z), toks (tl z), 0, m, [], rfl, h2, by simp, hg, by decide, fun tv H3 h3 e4 t3 => ?_⟩
    have hpx : p ≠ x := ne_of_none (e1 _ _ hp) nx
    have hp3 : H3 p = some (.ins (He.ga K "Selection") dx []) := e4 _ _ ((e1.trans e3) _ _ hp) (by simpa using hpx)
    walk_at "v"
    refine ⟨p, _, dx, _, rfl, hp3, T.c_Selection, T.n_Selection_tree, by show 0 < 1000; decide, ?_⟩
    walk_at "v"
    have h4 : PtAt K (upd H3 p (.ins (He.ga K "Selection") dx (putF "tree" tv []))) x rp (toks (tl z)) (0 + (toks (tl z)).length) := by
      obtain ⟨⟨d, q1⟩, q2, q3⟩ := h3
      exact ⟨⟨d, by rw [upd_ne hpx.symm]; exact q1⟩, by rw [upd_ne (ne_of q2 hp3 (by intro z; cases z))]; exact q2, q3⟩
    refine ⟨h4.is, ?_⟩
    walk_at "v"
    refine ⟨x, rp, _, _, rfl, h4, by omega, ?_⟩
    walk_at "v"
    have eH : Exx [p] H (upd H3 p (.ins (He.ga K "Selection") dx (putF "tree" tv []))) := by
      intro a o q n
      have ha : a ≠ x := ne_of_none (e1 _ _ q) nx
      rw [upd_ne (by simpa using n)]
      exact e4 _ _ ((e1.trans e3) _ _ q) (by simpa using ha)
    refine k tv _ (by rw [upd_same, pf_nil]) (TrP.of (fun a dx kv wv q => ?_) (fun a xs q => ?_) (fun a xs q hN => ⟨?_, ?_⟩) _ _ _ t3) eH
    · rw [upd_ne]
      · exact q
      · intro z
        rw [z, hp3] at q
        injection q with q
        injection q with _ _ q
        cases q
    · rw [upd_ne (ne_of q hp3 (by intro z; cases z))]
      exact q
    · rw [upd_ne (ne_of q hp3 (by intro z; cases z))]
      exact q
    · cases q2 : H a with
      | none => rfl
      | some o =>
        rw [(e1.trans e3) _ _ q2] at hN
        cases hN
end
set_option Elab.async false
set_option linter.all false
set_option maxRecDepth 100000
set_option maxHeartbeats 4000000
/-! Rules of our own: sorted of pairs of texts. -/
section
open PySem PySem.Spec PyProof.Rows L2
open Evl (Ex given)
open PySem.W (EachIs)
section
variable {X : Cx}
abbrev encKW (b : Addr × (List Nat × List Nat)) : PyData := .tuple [.str (S b.2.1), .str (S b.2.2)]
/-- sorted(xs), xs pairs of texts that lie by ascending keys: a new list of the same pairs -/
def rSortedT2 (K : PySem.W.Frag) : List V → Hp → VK → Prop := fun vs H Q => ∃ (a : Addr) (qs : List Addr) (kws : List (List Nat × List Nat)), vs = [V.ref a] ∧ SqL K H a (qs.map V.ref) ∧ Paired (PairAt H) qs kws ∧ kws.Pairwise (fun x y => x.1 < y.1) ∧ kws.length ≤ 60 ∧
  ∀ p, H p = none → Q (.ref p) (upd H p (.lst (qs.map V.ref)))
theorem refs_of {qs : List Addr} {us : List Value} (r : Vals (qs.map V.ref) us) : us = qs.map Value.ref := by
  induction qs generalizing us with
  | nil =>
    cases r
    rfl
  | cons q qs ih =>
    cases r with
    | cons h t =>
      rw [ih t]
      have h' : _ = Value.ref q := h
      rw [h']
      rfl
theorem vals_refs : ∀ qs : List Addr, Vals (qs.map V.ref) (qs.map Value.ref)
  | [] => .nil
  | _ :: qs => .cons rfl (vals_refs qs)
theorem encKW_lt {b c : Addr × (List Nat × List Nat)} (h : b.2.1 < c.2.1) : (!PySem.W.dataLt (encKW c) (encKW b)) = true := by
  have hne : ¬ c.2.1 = b.2.1 := fun z => by
    rw [z] at h
    exact List.lt_irrefl _ h
  have he : PyData.eqv (.str (S c.2.1)) (.str (S b.2.1)) = false := by
    simp only [PyData.eqv, beq_eq_false_iff_ne, ne_eq]
    exact fun z => hne (S_inj z)
  show (!PySem.W.dataLt (.tuple [.str (S c.2.1), .str (S c.2.2)]) (.tuple [.str (S b.2.1), .str (S b.2.2)])) = true
  rw [PySem.W.dataLt_pair (by simp [PySem.W.alike]) (by simp [PySem.W.alike]), he, if_neg Bool.false_ne_true, PySem.W.dataLt_str]
  have : ¬ c.2.1 < b.2.1 := fun z => List.lt_irrefl _ (List.lt_trans z h)
  show (!decide (c.2.1 < b.2.1)) = true
  simp [this]
theorem cr_sortedT2 (hu : X.A.units + 64 < cLine) : CallR X (.builtin "sorted") (rSortedT2 X.K) := by
  intro pins s σ H vs us Q I r h
  obtain ⟨a, qs, kws, rfl, hs, hp, hk, hl, q⟩ := h
  obtain ⟨its, rv, hli, hz⟩ := I.list hs
  rw [Vals.ref1 r]
  have ei := refs_of rv
  have hbs : ∀ {qs : List Addr} {kws : List (List Nat × List Nat)}, Paired (PairAt H) qs kws → EachIs (fun (v : Value) (b : Addr × (List Nat × List Nat)) => v = .ref b.1) (qs.map Value.ref) (qs.zip kws) ∧
      EachIs (fun (v : Value) (b : Addr × (List Nat × List Nat)) => ∃ as, Reads s.heap v (encKW b) as) (qs.map Value.ref) (qs.zip kws) ∧ (qs.zip kws).map (·.1) = qs ∧ (qs.zip kws).map (·.2) = kws := by
    intro qs kws hp
    induction hp with
    | nil => exact ⟨.nil, .nil, rfl, rfl⟩
    | @cons q kw qs kws hq _ ih =>
      obtain ⟨i1, i2, i3, i4⟩ := ih
      have hq' : H q = some (.tup [vS kw.1, vS kw.2]) := hq
      exact ⟨.cons rfl i1, .cons (Dp.reads I _ (.ref q) (.ref q) (.tup (SqT.of hq') (.cons (.str _) (.cons (.str _) .nil))) rfl) i2, congrArg _ i3, congrArg _ i4⟩
  obtain ⟨e1, e2, e3, e4⟩ := hbs hp
  rw [← ei] at e1 e2
  have hsort : (qs.zip kws).mergeSort (PySem.W.dataLe false encKW) = qs.zip kws := by
    refine List.mergeSort_of_pairwise ?_
    have hk' : ((qs.zip kws).map (·.2)).Pairwise (fun x y => x.1 < y.1) := by
      rw [e4]
      exact hk
    exact (List.pairwise_map.mp hk').imp fun h => encKW_lt h
  have hlen : (qs.zip kws).length ≤ 60 := by
    have : (qs.zip kws).length = ((qs.zip kws).map (·.2)).length := (List.length_map _).symm
    rw [this, e4]
    exact hl
  refine PySem.W.sorted_data (enc := encKW) hli.isList e1 e2 (PySem.W.AllAlike.of fun b b' => by simp [PySem.W.alike, PySem.W.alikeAll]) (PySem.W.Sortable.tuples fun b => ⟨_, _, rfl⟩) (sz100k (by omega)) (fun b _ => ?_) fun out ho hR => ?_
  · have : (encKW b).depth = 1 := rfl
    omega
  · rw [hsort] at hR
    have eo : out = qs.map Value.ref := by
      have key : ∀ {out : List Value} {bs : List (Addr × (List Nat × List Nat))}, EachIs (fun (v : Value) (b : Addr × (List Nat × List Nat)) => v = .ref b.1) out bs → out = (bs.map (·.1)).map Value.ref := by
        intro out bs h
        induction h with
        | nil => rfl
        | cons h _ ih =>
          rw [h, ih]
          rfl
      rw [key hR, e3]
    obtain ⟨ep, he'⟩ := PyProof.Rows.sortedAll_at s.heap its out.toArray
    exact ⟨.ref _, upd H (s.heap.objs.size + 1) (.lst (qs.map V.ref)), I.laid (t' := s.toks) (fun _ _ => PyProof.Rows.sortedAll_old) (Nat.le_succ _) ⟨hz, out, ep, by rw [eo]; exact vals_refs qs, he'⟩, rfl, q _ (I.hok.fresh (Nat.le_succ _))⟩
end
section
variable {K : PySem.W.Frag} {H : Hp} {Q : VK} {l : Addr} {k : List Nat} {zs : List (List Nat)}
theorem vS_flat : ∀ zs : List (List Nat), (zs.map vS).all flatV = true
  | [] => rfl
  | _ :: zs => vS_flat zs
theorem inV_S : ∀ zs : List (List Nat), inV (vS k) (zs.map vS) = decide (k ∈ zs)
  | [] => by simp [inV]
  | z :: zs => by
    have ih := inV_S zs
    simp only [inV, List.map_cons, List.any_cons] at ih ⊢
    rw [ih]
    have e : ∀ a b : List Nat, eqV (vS a) (vS b) = decide (a = b) := fun a b => by
      show (S a == S b) = _
      by_cases h : a = b
      · subst h
        simp
      · rw [decide_eq_false h]
        simp only [beq_eq_false_iff_ne, ne_eq]
        exact fun z => h (S_inj z)
    rw [e]
    by_cases h1 : z = k
    · subst h1
      simp
    · have h2 : ¬ k = z := fun q => h1 q.symm
      by_cases h3 : k ∈ zs <;> simp [h1, h2, h3]
theorem r_inLS (h : SqL K H l (zs.map vS)) (q : Q (.bl (decide (k ∈ zs))) H) : rIn K false (vS k) (.ref l) H Q := ⟨l, _, rfl, .inl h, rfl, vS_flat zs, by rw [inV_S]; exact q⟩
theorem r_ninLS (h : SqL K H l (zs.map vS)) (q : Q (.bl (!decide (k ∈ zs))) H) : rIn K true (vS k) (.ref l) H Q := ⟨l, _, rfl, .inl h, rfl, vS_flat zs, by rw [inV_S]; exact q⟩
end
end
set_option Elab.async false
set_option linter.all false
set_option maxRecDepth 100000
set_option maxHeartbeats 4000000
/-! Texts: cut at a sign, split, shortened. -/
section
open PySem PySem.Spec PyProof.Rows L2
theorem part1 {l r : List Nat} {c : Nat} {z : Str} (hz : tl z = [c]) (h : c ∉ l) : Txt.partition (S (l ++ c :: r)) z = (S l, z, S r) := by
  have e := TL.partition_par (S (l ++ c :: r)) z (by show tl z ≠ []; rw [hz]; simp)
  have e2 : TL.par (TL.tl z) [] (TL.tl (S (l ++ c :: r))) = some (l, r) := by
    show TL.par (tl z) [] (l ++ c :: r) = some (l, r)
    rw [hz]
    exact TL.par_part1 (S := []) h
  rw [e2] at e
  exact e
theorem split1 {parts : List (List Nat)} {c : Nat} {z : Str} (hz : tl z = [c]) (hc : c < 256) (hne : parts ≠ []) (h : ∀ p ∈ parts, c ∉ p) : Txt.split (S (TL.joinL [c] parts)) z = parts.map S := by
  have e := TL.split_join (y := z) (s := c) (S := []) hz (by
    rw [← Array.all_toList]
    have : z.cps.toList = [c] := hz
    rw [this]
    simp [hc]) (parts := parts.map S) (by simpa using hne) (fun p hp => by
      obtain ⟨q, hq, rfl⟩ := List.mem_map.mp hp
      exact h q hq)
  have ej : Txt.join z (parts.map S) = S (TL.joinL [c] parts) := TL.ext_tl (by
    rw [TL.join_eq, TL.tl_join, List.map_map]
    have : TL.tl z = [c] := hz
    rw [this]
    have : List.map (TL.tl ∘ S) parts = parts := by
      rw [show (TL.tl ∘ S) = id from rfl, List.map_id]
    rw [this]
    rfl)
  rw [ej] at e
  exact e
theorem cut1 {l : List Nat} {c : Nat} : cutS (S (l ++ [c])) none (some (-1)) = S l := by
  unfold cutS
  have h : (S (l ++ [c])).length = l.length + 1 := by rw [S_len]; simp
  rw [h]
  have h1 : HT.sIx (l.length + 1) 0 none = 0 := rfl
  have h2 : HT.sIx (l.length + 1) (l.length + 1) (some (-1)) = l.length := by
    unfold HT.sIx
    simp
    omega
  rw [h1, h2]
  show S (((l ++ [c]).drop 0).take (l.length - 0)) = S l
  simp
theorem ends1 {l : List Nat} {c : Nat} {z : Str} (hz : tl z = [c]) : Txt.endswith (S (l ++ [c])) z = true := by
  unfold Txt.endswith
  have h1 : z.length = 1 := by rw [len_tl, hz]; rfl
  have h2 : (S (l ++ [c])).length = l.length + 1 := by rw [S_len]; simp
  rw [h1, h2]
  have h3 : z = S [c] := TL.ext_tl hz
  subst h3
  have e : Builtin.Str.subAt (S (l ++ [c])) (S [c]) l.length = true := by
    have := (StrLaws.subAt_one (S (l ++ [c])) c l.length).mpr (by show (l ++ [c])[l.length]? = some c; simp)
    exact this.2
  simp [e]
end
end Eg
namespace Eg
set_option Elab.async false
set_option linter.all false
set_option maxRecDepth 100000
set_option maxHeartbeats 4000000
/-! Series: made, shown, read. -/
open PySem PySem.Spec PyProof.Rows L2
open Evl (Ex given)
local macro_rules | `(tactic| walk_at "ln") => `(tactic| first
  | assumption
  | omega
  | (simp only [S_len, str_len_app, str_len_nil, List.length_cons, List.length_append, List.length_nil]; omega))
local macro_rules | `(tactic| walk_at "ne") => `(tactic| first
  | assumption
  | exact Ne.symm (by assumption)
  | exact ne_of_none (by assumption) (by assumption)
  | exact Ne.symm (ne_of_none (by assumption) (by assumption))
  | exact ne_of (by assumption) (by assumption) (by intro z; cases z))
local macro_rules | `(tactic| walk_at "hp") => `(tactic| first
  | assumption
  | exact upd_same
  | ((with_reducible refine' Eq.trans (upd_ne ?hn) ?hr); (case hn => walk_at "ne"); (case hr => walk_at "hp"))
  | ((with_reducible refine' ex_at ?hn ?hr); (case hn => assumption); (case hr => walk_at "hp")))
local macro_rules | `(tactic| walk_at "sq") => `(tactic| first | assumption | ((with_reducible apply SqL.of); walk_at "hp") | ((with_reducible apply SqT.of); walk_at "hp"))
local macro_rules | `(tactic| walk_at "v1") => `(tactic| first
  | ((with_reducible refine' r_var ?hv ?_); (case hv => exact rfl))
  | (with_reducible refine r_c ?_) | (with_reducible refine r_op ?_) | (with_reducible refine r_cons ?_) | (with_reducible refine r_nil ?_) | (with_reducible refine r_cb ?_) | (with_reducible refine r_call ?_) | (with_reducible refine r_un ?_)
  | (with_reducible refine r_seq ?_) | (with_reducible refine r_asg ?_) | (with_reducible refine r_gname ?_) | (with_reducible refine r_ret ?_) | (with_reducible refine r_retN ?_) | (with_reducible refine r_next ?_) | (with_reducible refine r_cont ?_) | (with_reducible refine r_drop ?_) | (with_reducible refine r_ifs ?_) | (with_reducible refine r_par ?_) | (with_reducible refine x_two ?_)
  | (with_reducible refine r_I0 ?_) | (with_reducible refine r_neg ?_) | ((with_reducible refine r_eq ?hv ?_); (case hv => exact rfl)) | ((with_reducible refine r_ne ?hv ?_); (case hv => exact rfl))
  | (with_reducible refine r_test ?_) | (with_reducible refine r_B ?_) | (with_reducible refine r_and ?_) | (with_reducible refine r_or ?_) | (with_reducible refine r_not ?_) | (with_reducible refine r_yes ?_) | (with_reducible refine r_ifE ?_)
  | (with_reducible refine r_andV ?_) | (with_reducible refine r_orV ?_) | (with_reducible refine r_notV ?_) | (with_reducible refine x_bl ?_)
  | (with_reducible refine r_meth ?_) | (with_reducible refine r_make ?_) | (with_reducible refine r_tup ?_) | (with_reducible refine r_lst ?_) | (with_reducible refine r_dnew ?_) | (with_reducible refine r_sfld ?_) | (with_reducible refine r_fldA ?_) | (with_reducible refine iteT ?_) | (with_reducible refine iteF ?_) | (with_reducible refine iteNf ?_) | (with_reducible refine iteNt ?_)
  | ((with_reducible refine' x_at ?hv ?_); (case hv => assumption))
  | ((with_reducible refine' r_lenS ?hv ?_); (case hv => walk_at "ln")) | ((with_reducible refine' r_lenL ?hv ?_); (case hv => walk_at "sq")) | ((with_reducible refine' r_lenT ?hv ?_); (case hv => walk_at "sq"))
  | (with_reducible refine r_inS ?_) | (with_reducible refine r_ninS ?_) | (with_reducible refine r_isN ?_) | (with_reducible refine r_notN ?_)
  | (with_reducible refine r_bm ?_) | ((with_reducible refine' x_tyL ?hv ?_); (case hv => walk_at "sq")) | (with_reducible refine r_for ?_) | (with_reducible refine i_str ?_) | (with_reducible refine x_str ?_)
  | (with_reducible refine i_tup ?_) | (with_reducible refine i_list ?_) | ((with_reducible refine' x_itup ?hv ?_); (case hv => walk_at "sq")) | ((with_reducible refine' x_ilist ?hv ?_); (case hv => walk_at "sq"))
  | ((with_reducible refine' g_tup ?hv ?hl ?_); (case hv => walk_at "sq"); (case hl => exact rfl)) | (with_reducible refine g_cons ?_) | (with_reducible refine g_nil ?_) | (with_reducible refine r_lc ?_)
  | (with_reducible refine r_m1 ?_) | (with_reducible refine x_isstr ?_) | (with_reducible refine r_fs ?_) | (with_reducible refine r_jsc ?_) | (with_reducible refine r_jsn ?_) | (with_reducible refine r_fmt ?_) | (with_reducible refine r_sl ?_) | (with_reducible refine o_none ?_) | (with_reducible refine o_part ?_) | (with_reducible refine x_int ?_)
  | ((with_reducible refine' x_js ?hv ?_); (case hv => walk_at "ln")) | ((with_reducible refine' x_fmtS ?hv ?_); (case hv => walk_at "ln")) | ((with_reducible refine' r_split ?hb ?hv ?_); (case hb => exact rfl); (case hv => walk_at "ln")) | ((with_reducible refine' r_partition ?hb ?hv ?_); (case hb => exact rfl); (case hv => walk_at "ln")) | (with_reducible refine r_ends ?_)
  | ((with_reducible refine' x_sz ?hv ?_); (case hv => first | decide | walk_at "ln"))
  | ((with_reducible refine' r_addS ?hv ?_); (case hv => walk_at "ln"))
  | ((with_reducible refine' r_aug ?hv ?_); (case hv => exact rfl)))
local macro_rules | `(tactic| walk_at "v") => `(tactic| (repeat (walk_at "v1")))

theorem refs_at {qs : List Addr} {i : Nat} {x : V} (hx : (qs.map V.ref)[i]? = some x) : ∃ q, qs[i]? = some q ∧ x = V.ref q := by
  rw [List.getElem?_map] at hx
  cases e : qs[i]? with
  | none =>
    rw [e] at hx
    cases hx
  | some q =>
    rw [e] at hx
    exact ⟨q, rfl, (Option.some.inj hx).symm⟩
/-! ### the mathematics -/
def itemL (kw : List Nat × List Nat) : List Nat := kw.1 ++ 61 :: kw.2
def insL (tags : List (List Nat × List Nat)) : List Nat := TL.joinL [44] (tags.map itemL)
def textL (s : Ser) : List Nat := s.name ++ 123 :: (insL s.tags ++ [125])
theorem t_nil : tl Str.empty = [] := rfl
theorem t_eq : tl ("=" : Str) = [61] := by decide +kernel
theorem t_lb : tl ("{" : Str) = [123] := by decide +kernel
theorem t_rb : tl ("}" : Str) = [125] := by decide +kernel
theorem t_co : tl ("," : Str) = [44] := by decide +kernel
theorem joinL_cons (y a b : List Nat) (r : List (List Nat)) : TL.joinL y (a :: b :: r) = a ++ (y ++ TL.joinL y (b :: r)) := by
  first
    | rfl
    | (simp [TL.joinL])
theorem isFile_mem {l : List Nat} (h : isFile (S l) = true) : ∀ c ∈ l, c ∈ tl SIGNS := by
  unfold isFile at h
  simp only [Bool.and_eq_true, decide_eq_true_eq, List.all_eq_true] at h
  exact h.2.2
theorem name_len {l : List Nat} (h : isName (S l) = true) : 1 ≤ l.length ∧ l.length ≤ 24 := by
  have := isFile_len (isName_file h)
  rw [S_len] at this
  exact this
theorem word_len {l : List Nat} (h : isWord (S l) = true) : 1 ≤ l.length ∧ l.length ≤ 24 := by
  have := isFile_len (isWord_file h)
  rw [S_len] at this
  exact this
theorem name_no {l : List Nat} (h : isName (S l) = true) {c : Nat} (hc : c ∉ tl SIGNS) : c ∉ l := fun z => hc (isFile_mem (isName_file h) c z)
theorem word_no {l : List Nat} (h : isWord (S l) = true) {c : Nat} (hc : c ∉ tl SIGNS) : c ∉ l := fun z => hc (isFile_mem (isWord_file h) c z)
theorem item_len {kw : List Nat × List Nat} (h : isName (S kw.1) = true) (h' : isWord (S kw.2) = true) : (itemL kw).length ≤ 49 := by
  have := name_len h
  have := word_len h'
  simp only [itemL, List.length_append, List.length_cons]
  omega
theorem insL_len : ∀ {l : List (List Nat × List Nat)}, (∀ kw ∈ l, isName (S kw.1) = true ∧ kw.1 ≠ nNAME ∧ isWord (S kw.2) = true) → (insL l).length ≤ 50 * l.length
  | [], _ => by simp [insL, TL.joinL]
  | [a], h => by
    have := item_len (h a (by simp)).1 (h a (by simp)).2.2
    simp only [insL, List.map_cons, List.map_nil, TL.joinL, List.length_cons, List.length_nil]
    omega
  | a :: b :: r, h => by
    have h1 := item_len (h a (by simp)).1 (h a (by simp)).2.2
    have h2 := insL_len (l := b :: r) fun kw hk => h kw (by simp [hk])
    simp only [insL, List.map_cons, List.length_cons] at h2 ⊢
    rw [joinL_cons, List.length_append, List.length_append]
    simp only [List.length_cons, List.length_nil]
    omega
theorem textL_len {s : Ser} (h : SerOk s) : (textL s).length ≤ 400 := by
  have h1 := name_len h.1
  have h2 := insL_len h.2.2.1
  have h3 := h.2.1
  simp only [textL, List.length_append, List.length_cons, List.length_nil]
  omega
section
variable {P : Program} {w : World} {K : PySem.W.Frag} {mg : Str → Option Value} {base : Heap}
/-! ### Series.text -/
def spText (K : PySem.W.Frag) : Sp := fun vs H Q _ => ∃ (v : V) (s : Ser), vs = [v] ∧ SerAt K H v s ∧ ∀ H', Ex H H' → Q (vS (textL s)) H'
theorem sc_Series_text : FnScope ["self", "inside", "key", "word"] ["self"] (defScope s_Series_text) := ⟨rfl, rfl, rfl, by decide +kernel, rfl, by decide +kernel, by decide +kernel⟩
theorem ok_Series_text (T : Txt K mg) : GoodM P w K mg base "Series" "text" 1 ["self"] (spText K) := by
  obtain ⟨fd, F⟩ := T.f_Series_text
  refine good_of F sc_Series_text (fun vs H Q E h => ?_) (fun _ _ _ _ _ _ us hl => match us, hl with | [_], _ => rfl) (fun cdv A outer s H vs Q E hr h => ?_)
  · obtain ⟨v, s, rfl, _⟩ := h
    rfl
  · obtain ⟨v, sr, rfl, hs, k⟩ := h
    have f1 := hs.fname T
    obtain ⟨⟨a, dx, tp, qs, rfl, h2, h3, h4⟩, hok⟩ := hs
    have f2 : AtF K "tags" (.ref a) H (.ref tp) := at_f h2 T.c_Series T.n_Series_tags ((lk_tl (by decide +kernel)).trans lk_hd)
    refine ⟨_, (pss_cons (ps_set (i := 1) sc_Series_text.nd rfl (Or.inl rfl) (pe_joinN pe_str (pe_lc (own := [("key", 2), ("word", 3)]) rfl sc_Series_text.nd (pi_tup (pe_fld (pv 0) rfl)) (blkOk_by (N := ["self", "inside", "key", "word"]) (sc := defScope s_Series_text) (by decide +kernel)) (fun _ _ _ _ _ => (pg_tupK (K := K) (n := 2) rfl rfl (pgs_cons (pg_name (i := 2) sc_Series_text.nd rfl (Or.inl rfl)) (pgs_cons (pg_name (i := 3) sc_Series_text.nd rfl (Or.inl rfl)) pgs_nil)))) (fun _ _ _ _ _ => pts_nil) (fun _ _ _ _ _ => (pe_joinedN (.cons (pe_fmt (pv 2)) (.cons pe_str (.cons (pe_fmt (pv 3)) .nil))))))))
    (pss_one (ps_ret (pe_op op_addS (pe_op op_addS (pe_op op_addS (pe_fld (pv 0) rfl) pe_str) (pv 1)) pe_str)))), ?_⟩
    walk_at "v"
    intro D hD
    refine lc_v walk_tup (fun _ => true) (fun i => (sr.tags.map fun kw => vS (itemL kw)).getD i .non) hD (by rw [List.length_map, Plen h4]; have := hok.2.1; omega) (fun H1 e1 => SqT.of (e1 _ _ h3)) ?_ (fun H1 e1 hd => ?_)
    · rintro N i x H1 H2 hi e1 ⟨rfl, hx⟩ _ hyes
      obtain ⟨q, hq, rfl⟩ : ∃ q, qs[i]? = some q ∧ x = V.ref q := by
        rw [List.getElem?_map] at hx
        cases e : qs[i]? with
        | none =>
          rw [e] at hx
          cases hx
        | some q =>
          rw [e] at hx
          exact ⟨q, rfl, (Option.some.inj hx).symm⟩
      obtain ⟨kw, hkw, hp⟩ := Pat h4 hq
      have hp' := e1 _ _ hp
      have ho := hok.2.2.1 kw (List.mem_of_getElem? hkw)
      walk_at "v"
      refine ⟨rfl, yes_ ?_⟩
      have l1 := name_len ho.1
      have l2 := word_len ho.2.2
      have e0 : (((Str.empty ++ S kw.1) ++ ("=" : Str)) ++ S kw.2) = S (itemL kw) := TL.ext_tl (by show tl _ = tl _; simp [tl_app, tl_S, itemL, t_eq, t_nil])
      have n0 : ("=" : Str).length = 1 := rfl
      walk_at "v"
      rw [e0]
      have q := hyes rfl H2 (Ex.refl _)
      rw [List.getD_eq_getElem?_getD, List.getElem?_map, hkw] at q
      exact q
    · have hg : given (qs.map V.ref).length (fun _ => true) (fun i => (sr.tags.map fun kw => vS (itemL kw)).getD i .non) = (sr.tags.map fun kw => S (itemL kw)).map V.str := by
        rw [List.length_map, Plen h4, given_all sr.tags (fun kw => vS (itemL kw))]
        · rw [List.map_map]
          rfl
        · intro i hi
          rw [List.getD_eq_getElem?_getD, List.getElem?_map, List.getElem?_eq_getElem hi]
          rfl
      rw [hg] at hd
      have hsum : ∀ l : List (List Nat × List Nat), (∀ kw ∈ l, isName (S kw.1) = true ∧ kw.1 ≠ nNAME ∧ isWord (S kw.2) = true) → ((l.map fun kw => S (itemL kw)).map (·.length)).sum ≤ 50 * l.length := by
        intro l
        induction l with
        | nil => intro _; simp
        | cons x l ih =>
          intro h
          have h1 := ih fun kw hk => h kw (by simp [hk])
          have h2 := item_len (h x (by simp)).1 (h x (by simp)).2.2
          simp only [List.map_cons, List.sum_cons, S_len, List.length_cons] at h1 ⊢
          omega
      have hs1 := hsum _ hok.2.2.1
      have hs2 := hok.2.1
      have hs3 : (("," : Str)).length = 1 := rfl
      refine r_join (SqL.of hd) (by simp only [List.length_map]; rw [hs3]; omega) ?_
      have ej : Txt.join ("," : Str) (sr.tags.map fun kw => S (itemL kw)) = S (insL sr.tags) := TL.ext_tl (by
        rw [TL.join_eq, TL.tl_join, List.map_map]
        rfl)
      rw [ej]
      have f3 := (⟨⟨a, dx, tp, qs, rfl, e1 _ _ h2, e1 _ _ h3, Pimp h4 fun _ _ q => e1 _ _ q⟩, hok⟩ : SerAt K H1 (.ref a) sr).fname T
      have l1 := name_len hok.1
      have l2 := insL_len hok.2.2.1
      have n1 : (("{" : Str)).length = 1 := rfl
      have n2 : (("}" : Str)).length = 1 := rfl
      walk_at "v"
      have e3 : ((S sr.name ++ ("{" : Str)) ++ S (insL sr.tags)) ++ ("}" : Str) = S (textL sr) := TL.ext_tl (by show tl _ = tl _; simp [tl_app, tl_S, textL, t_lb, t_rb])
      rw [e3]
      exact k H1 e1
/-! ### pairs -/
def spPairsOf (K : PySem.W.Frag) : Sp := fun vs H Q _ => ∃ (a : Addr) (xs : List V), vs = [.ref a] ∧ H a = some (.lst xs) ∧ ∀ H', Ex H H' → Q (.ref a) H'
theorem sc_pairs_of : FnScope ["tags", "key", "word"] ["tags"] (defScope s_pairs_of) := ⟨rfl, rfl, rfl, by decide +kernel, rfl, by decide +kernel, by decide +kernel⟩
theorem ok_pairs_of (T : Txt K mg) : GoodP P w K mg base "pairs_of" 2 ["tags"] (spPairsOf K) := by
  have G_is_list := ok_is_list (P := P) (w := w) (base := base) T
  obtain ⟨fd, F⟩ := T.f_pairs_of
  refine good_of F sc_pairs_of (fun vs H Q E h => ?_) (fun _ _ _ _ _ _ us hl => match us, hl with | [_], _ => rfl) (fun cdv A outer s H vs Q E hr h => ?_)
  · obtain ⟨a, xs, rfl, _⟩ := h
    rfl
  · obtain ⟨a, xs, rfl, ha, k⟩ := h
    refine ⟨_, (pss_cons (ps_if (pt_val (pe_callB call_isi rfl T.z_isinstance (by decide +kernel) (pa_cons (pv 0) (pa_cons (pe_ty (n := "dict") T.z_dict (by decide +kernel)) pa_nil)))) (pss_one ps_never) pss_nil)
    (pss_one (ps_ret (pe_ifExp (pt_val (pcall G_is_list hr T.g_is_list (pa_cons (pv 0) pa_nil))) (pv 0) pe_non)))), ?_⟩
    walk_at "v"
    refine ⟨_, _, _, _, false, rfl, .ty _, .base (.lst ha), kit_ty (by decide +kernel), ?_⟩
    walk_at "v"
    refine ⟨a, xs, rfl, ha, fun H1 e1 => ?_⟩
    walk_at "v"
    exact k H1 e1
def spArePairs (K : PySem.W.Frag) : Sp := fun vs H Q _ => ∃ (a : Addr) (qs : List Addr) (kws : List (List Nat × List Nat)), vs = [.ref a] ∧ H a = some (.lst (qs.map V.ref)) ∧ Paired (PairAt H) qs kws ∧ tagsOk kws ∧ ∀ H', Ex H H' → Q (.bl true) H'
theorem sc_are_pairs : FnScope ["pairs", "seen", "pair", "key", "word"] ["pairs"] (defScope s_are_pairs) := ⟨rfl, rfl, rfl, by decide +kernel, rfl, by decide +kernel, by decide +kernel⟩
theorem ok_are_pairs (T : Txt K mg) : GoodP P w K mg base "are_pairs" 3 ["pairs"] (spArePairs K) := by
  have G_is_name := ok_is_name (P := P) (w := w) (base := base) T
  have G_is_word := ok_is_word (P := P) (w := w) (base := base) T
  obtain ⟨fd, F⟩ := T.f_are_pairs
  refine good_of F sc_are_pairs (fun vs H Q E h => ?_) (fun _ _ _ _ _ _ us hl => match us, hl with | [_], _ => rfl) (fun cdv A outer s H vs Q E hr h => ?_)
  · obtain ⟨a, qs, kws, rfl, _⟩ := h
    rfl
  · obtain ⟨a, qs, kws, rfl, ha, hp, hok, k⟩ := h
    have hl : qs.length ≤ 6 := by rw [Plen hp]; exact hok.1
    refine ⟨_, (pss_cons (ps_if (pt_cmpR op_gt (pe_callB call_lenN rfl T.z_len (by decide +kernel) (pa_cons (pv 0) pa_nil)) (pe_kint (T.k_MOST_TAGS)) (nomark _)) (pss_one (ps_ret pe_bl)) pss_nil)
    (pss_cons (ps_set (i := 1) sc_are_pairs.nd rfl (Or.inl rfl) (pe_lst pa_nil))
    (pss_cons (ps_for PassesOwn.never rfl (pi_list (pv 0)) (pg_name (i := 2) sc_are_pairs.nd rfl (Or.inl rfl))
    (pss_cons (ps_if (PW.pt (pw_or (pt_not (pt_val (pe_callB call_isi rfl T.z_isinstance (by decide +kernel) (pa_cons (pv 2) (pa_cons (pe_ty (n := "tuple") T.z_tuple (by decide +kernel)) pa_nil))))) (pw_or1 (pt_cmpR op_ne (pe_callB call_lenN rfl T.z_len (by decide +kernel) (pa_cons (pv 2) pa_nil)) pe_int (nomark _))))) (pss_one (ps_ret pe_bl)) pss_nil)
    (pss_cons (ps_asg (pv 2) (pg_tup rfl (pgs_cons (pg_name (i := 3) sc_are_pairs.nd rfl (Or.inl rfl)) (pgs_cons (pg_name (i := 4) sc_are_pairs.nd rfl (Or.inl rfl)) pgs_nil))))
    (pss_cons (ps_if (PW.pt (pw_or (pt_not (pt_val (pcall G_is_name hr T.g_is_name (pa_cons (pv 3) pa_nil)))) (pw_or (pt_cmpR op_eq (pv 3) (pe_kstr (T.k_NAME)) (nomark _)) (pw_or (pt_not (pt_val (pcall G_is_word hr T.g_is_word (pa_cons (pv 4) pa_nil)))) (pw_or1 (pt_cmpR op_in_seq (pv 3) (pv 1) (by rfl))))))) (pss_one (ps_ret pe_bl)) pss_nil)
    (pss_one (ps_expr (pe_bm PySem.F.plainAttrs_list PySem.F.slot_list_append PySem.F.type_list_append mt_append (pv 1) (pa_cons (pv 3) pa_nil))))))))
    (pss_one (ps_ret pe_bl))))), ?_⟩
    walk_at "v"
    rw [show decide ((6 : Int) < ((qs.map V.ref).length : Nat)) = false from decide_eq_false (by rw [List.length_map]; omega)]
    walk_at "v"
    intro l hnl
    walk_at "v"
    refine for_it (walk_list (xs := qs.map V.ref)) (fun i σ H' => ∃ x y z, σ = [some (.ref a), some (.ref l), x, y, z] ∧ Ex H H' ∧ H' l = some (.lst (((kws.take i).map (·.1)).map vS)))
      ⟨none, none, none, rfl, Ex.mut (Ex.refl _) hnl, upd_same⟩ (fun i σ H' _ p => ?_) ?_ ?_
    · obtain ⟨_, _, _, _, e, _⟩ := p
      exact SqL.of (e _ _ ha)
    · rintro i x σ H1 H2 hi ⟨o1, o2, o3, rfl, e1, hll⟩ ⟨rfl, hx⟩
      obtain ⟨q, hq, rfl⟩ : ∃ q, qs[i]? = some q ∧ x = V.ref q := by
        rw [List.getElem?_map] at hx
        cases e : qs[i]? with
        | none =>
          rw [e] at hx
          cases hx
        | some q =>
          rw [e] at hx
          exact ⟨q, rfl, (Option.some.inj hx).symm⟩
      obtain ⟨kw, hkw, hp1⟩ := Pat hp hq
      have hp' := e1 _ _ hp1
      have ho := hok.2.1 kw (List.mem_of_getElem? hkw)
      have l1 := name_len ho.1
      have l2 := word_len ho.2.2
      have hno : kw.1 ∉ (kws.take i).map (·.1) := by
        intro hm
        obtain ⟨y, hy, e⟩ := List.mem_map.mp hm
        obtain ⟨j, hj, ej⟩ := List.getElem_of_mem hy
        have hj' : j < i := by
          rw [List.length_take] at hj
          omega
        rw [List.getElem_take] at ej
        have hi' := List.getElem?_eq_some_iff.mp hkw
        obtain ⟨hi2, ei⟩ := hi'
        have hlt := (List.pairwise_iff_getElem.mp hok.2.2) j i (by omega) hi2 hj'
        rw [ej, ei, e] at hlt
        exact List.lt_irrefl _ hlt
      walk_at "v"
      refine ⟨_, _, _, _, true, rfl, .ty _, .base (.tup hp'), kit_ty (by decide +kernel), ?_⟩
      walk_at "v"
      rw [show (!decide (V.int (([vS kw.1, vS kw.2] : List V).length : Nat) = V.int 2)) = false from rfl]
      walk_at "v"
      refine u_of (by rw [S_len]; omega) fun H3 e3 => ?_
      rw [ho.1]
      walk_at "v"
      rw [show decide (vS kw.1 = V.str ("name" : Str)) = false from decide_eq_false fun z => ho.2.1 (vS_eq.mp z)]
      walk_at "v"
      refine u_of (by rw [S_len]; omega) fun H4 e4 => ?_
      rw [ho.2.2]
      have e5 := e3.trans e4
      have hl5 := e5 _ _ hll
      walk_at "v"
      refine r_inLS (SqL.of hl5) ?_
      walk_at "v"
      rw [decide_eq_false hno]
      walk_at "v"
      refine r_append hl5 (by rw [List.length_map, List.length_map, List.length_take, ← Plen hp]; have := Nat.min_le_right i qs.length; omega) ?_
      walk_at "v"
      refine ⟨_, _, _, rfl, Ex.mut (e1.trans e5) hnl, ?_⟩
      rw [upd_same]
      obtain ⟨hi2, ei⟩ := List.getElem?_eq_some_iff.mp hkw
      rw [← List.take_append_getElem hi2, ei]
      simp
    · rintro σ H1 ⟨o1, o2, o3, rfl, e1, hll⟩
      walk_at "v"
      exact k H1 e1
/-! ### Series(name, pairs) -/
theorem good_ofD {f : Addr} {k : Nat} {ps : List Str} {sp : Sp} {x qual : Str} {st : Stmt} {fd : FuncData} {N : List Str} {dv : V} (F : FunD K x qual (defArgs st) (defBody st) (defScope st) [dv] [] f fd) (S : FnScope N ps (defScope st)) (len : ∀ vs H Q E, sp vs H Q E → vs.length = ps.length)
    (hb : ∀ (T : Addr) (kV doc pm : Value) (an : Option Addr) (cdv ct : Value) (us its : List Value), us.length = ps.length → its.length = [dv].length →
      ∃ k, bindArgs (PySem.W.fnOf x qual (defArgs st) (defBody st) (defScope st) (.ref T) kV doc pm an cdv ct) ⟨us, []⟩ = seqItems? (.ref T) >>= k ∧ k (some its.toArray) = pure (ps.zip (us ++ its.drop 1)))
    (hbody : ∀ (cdv : Value) (A : Around) (outer : List Env) (s : Shared) (H : Hp) (vs : List V) (Q : VK) (E : XK), Room k (A.deeper (envOfC qual (defScope st) s.heap.objs.size f cdv)) → sp vs H Q E →
      ∃ t, PSs (cxOf (L2.CX P w) P w K mg base N qual (defScope st) f cdv A outer s H E).nox (defBody st) t ∧ t { nx := fun _ H' => Q .non H', rt := Q } (start N vs) H) : Good P w K mg base f (k + 1) ps sp := by
  have b : Binds K fd ps [] := by
    obtain ⟨ds, h1, h2⟩ := F.binds1 (ps := ps) ps.length 1 (by simp) (by simp) hb
    cases h1
    exact h2
  refine ⟨⟨fd, F.ok S len fun cdv A outer s H vs Q E hr hsp => ?_, b, stands_of F⟩, F.kp⟩
  obtain ⟨t, ht, hq⟩ := hbody cdv A outer s H vs Q E hr hsp
  exact ⟨t, ht.nox, hq⟩
def spSInit (K : PySem.W.Frag) : Sp := fun vs H Q _ => ∃ (p dx a : Addr) (qs : List Addr) (s : Ser), vs = [.ref p, vS s.name, .ref a] ∧ H p = some (.ins (He.ga K "Series") dx []) ∧ H a = some (.lst (qs.map V.ref)) ∧ Paired (PairAt H) qs s.tags ∧ SerOk s ∧
  ∀ H', SerAt K H' (.ref p) s → Exx [p] H H' → Q .non H'
theorem sc_Series_init : FnScope ["self", "name", "tags", "pairs"] ["self", "name", "tags"] (defScope s_Series_init) := ⟨rfl, rfl, rfl, by decide +kernel, rfl, by decide +kernel, by decide +kernel⟩
theorem ok_Series_init (T : Txt K mg) : GoodM P w K mg base "Series" "__init__" 4 ["self", "name", "tags"] (spSInit K) := by
  have G_is_name := ok_is_name (P := P) (w := w) (base := base) T
  have G_pairs_of := ok_pairs_of (P := P) (w := w) (base := base) T
  have G_are_pairs := ok_are_pairs (P := P) (w := w) (base := base) T
  obtain ⟨fd, F⟩ := T.f_Series_init
  refine good_ofD F sc_Series_init (fun vs H Q E h => ?_) (fun T kV doc pm an cdv ct us its hu hi => match us, its, hu, hi with | [_, _, _], [_], _, _ => ⟨_, rfl, rfl⟩) (fun cdv A outer s H vs Q E hr h => ?_)
  · obtain ⟨p, dx, a, qs, s, rfl, _⟩ := h
    rfl
  · obtain ⟨p, dx, a, qs, sr, rfl, hp, ha, hq, hok, k⟩ := h
    have l1 := name_len hok.1
    have hl : qs.length ≤ 6 := by rw [Plen hq]; exact hok.2.1
    refine ⟨_, (pss_cons (ps_if (pt_not (pt_val (pcall G_is_name hr T.g_is_name (pa_cons (pv 1) pa_nil)))) (pss_one ps_never) pss_nil)
    (pss_cons (ps_set (i := 3) sc_Series_init.nd rfl (Or.inl rfl) (pcall G_pairs_of hr T.g_pairs_of (pa_cons (pv 2) pa_nil)))
    (pss_cons (ps_if (PW.pt (pw_or (pt_cmpR op_isN1 (pv 3) pe_non (nomark _)) (pw_or1 (pt_not (pt_val (pcall G_are_pairs hr T.g_are_pairs (pa_cons (pv 3) pa_nil))))))) (pss_one ps_never) pss_nil)
    (pss_cons (ps_fld (pv 0) (pv 1) rfl)
    (pss_one (ps_fld (pv 0) (pe_callTy call_tuple_of rfl T.z_tuple (by decide +kernel) (pa_cons (pe_callB (cr_sortedT2 hr.units) rfl T.z_sorted (by decide +kernel) (pa_cons (pv 3) pa_nil)) pa_nil)) rfl)))))), ?_⟩
    walk_at "v"
    refine u_of (by rw [S_len]; omega) fun H1 e1 => ?_
    rw [hok.1]
    walk_at "v"
    refine ⟨a, _, rfl, e1 _ _ ha, fun H2 e2 => ?_⟩
    walk_at "v"
    rw [show decide (V.ref a = V.non) = false from rfl]
    walk_at "v"
    have e3 := e1.trans e2
    refine ⟨a, qs, sr.tags, rfl, e3 _ _ ha, Pimp hq fun _ _ q => e3 _ _ q, hok.2, fun H3 e4 => ?_⟩
    have e5 := e3.trans e4
    walk_at "v"
    refine ⟨p, _, dx, _, rfl, e5 _ _ hp, T.c_Series, T.n_Series_name, by show 0 < 1000; decide, ?_⟩
    walk_at "v"
    have hpn : ∀ {b : Addr} {o : HO}, H b = some o → o ≠ .ins (He.ga K "Series") dx [] → b ≠ p := fun {b o} hb no => ne_of hb hp no
    have keep : ∀ {b : Addr} {o : HO}, H b = some o → o ≠ .ins (He.ga K "Series") dx [] → upd H3 p (.ins (He.ga K "Series") dx (putF "name" (vS sr.name) [])) b = some o := fun {b o} hb no => by
      rw [upd_ne (hpn hb no)]
      exact e5 _ _ hb
    refine ⟨a, qs, sr.tags, rfl, SqL.of (keep ha (by intro z; cases z)), Pimp hq fun _ _ q => keep q (by intro z; cases z), hok.2.2.2, by have := hok.2.1; omega, fun l hll => ?_⟩
    walk_at "v"
    refine ⟨l, _, rfl, .inl ⟨SqL.of upd_same, fun t hlt => ?_⟩⟩
    have hl3 : l ≠ p := (ne_of_none upd_same hll).symm
    have ht3 : t ≠ p := by
      refine (ne_of_none (o := .ins (He.ga K "Series") dx (putF "name" (vS sr.name) [])) ?_ hlt).symm
      rw [upd_ne hl3.symm]
      exact upd_same
    walk_at "v"
    refine ⟨p, _, dx, putF "name" (vS sr.name) [], rfl, ?_, T.c_Series, T.n_Series_tags, by show 1 < 1000; decide, ?_⟩
    · rw [upd_ne ht3.symm, upd_ne hl3.symm]
      exact upd_same
    have hlH : H l = none := by
      cases q : H l with
      | none => rfl
      | some o =>
        rw [upd_ne hl3, e5 _ _ q] at hll
        cases hll
    have htH : H t = none := by
      cases q : H t with
      | none => rfl
      | some o =>
        rw [upd_ne (ne_of_none q hlH), upd_ne ht3, e5 _ _ q] at hlt
        cases hlt
    have eF : Exx [p] H (upd (upd (upd (upd H3 p (.ins (He.ga K "Series") dx (putF "name" (vS sr.name) []))) l (.lst (qs.map V.ref))) t (.tup (qs.map V.ref))) p (.ins (He.ga K "Series") dx (putF "tags" (.ref t) (putF "name" (vS sr.name) [])))) :=
      ((((Exx.of e5).wr (by simp)).add hlH).add htH).wr (by simp)
    refine k _ ⟨⟨p, dx, t, qs, rfl, ?_, ?_, ?_⟩, hok⟩ eF
    · rw [upd_same, pf_nil, pf_tl (by decide +kernel), pf_nil]
    · rw [upd_ne ht3]
      exact upd_same
    · exact Pimp hq fun b kw q => eF b _ q (by simpa using hpn q (by intro z; cases z))
/-! ### read_series(text) -/
def spReadSeries (K : PySem.W.Frag) : Sp := fun vs H Q _ => ∃ s : Ser, vs = [vS (textL s)] ∧ SerOk s ∧ ∀ v H', Ex H H' → SerAt K H' v s → Q v H'
theorem sc_read_series : FnScope ["text", "name", "brace", "rest", "inside", "pairs", "piece", "key", "_", "word"] ["text"] (defScope s_read_series) := ⟨rfl, rfl, rfl, by decide +kernel, rfl, by decide +kernel, by decide +kernel⟩
theorem ok_read_series (T : Txt K mg) : GoodP P w K mg base "read_series" 6 ["text"] (spReadSeries K) := by
  have G_is_name := ok_is_name (P := P) (w := w) (base := base) T
  have G_are_pairs := ok_are_pairs (P := P) (w := w) (base := base) T
  have G_Series_init := ok_Series_init (P := P) (w := w) (base := base) T
  obtain ⟨fd, F⟩ := T.f_read_series
  refine good_of F sc_read_series (fun vs H Q E h => ?_) (fun _ _ _ _ _ _ us hl => match us, hl with | [_], _ => rfl) (fun cdv A outer s H vs Q E hr h => ?_)
  · obtain ⟨s, rfl, _⟩ := h
    rfl
  · obtain ⟨sr, rfl, hok, k⟩ := h
    have l1 := name_len hok.1
    have l2 := textL_len hok
    refine ⟨_, (pss_cons (ps_if (pt_not (pt_val (pe_callB call_isi rfl T.z_isinstance (by decide +kernel) (pa_cons (pv 0) (pa_cons (pe_ty (n := "str") T.z_str (by decide +kernel)) pa_nil))))) (pss_one ps_never) pss_nil)
    (pss_cons (ps_asg (pe_partitionN (pv 0) pe_str) (pg_tup rfl (pgs_cons (pg_name (i := 1) sc_read_series.nd rfl (Or.inl rfl)) (pgs_cons (pg_name (i := 2) sc_read_series.nd rfl (Or.inl rfl)) (pgs_cons (pg_name (i := 3) sc_read_series.nd rfl (Or.inl rfl)) pgs_nil)))))
    (pss_cons (ps_set (i := 4) sc_read_series.nd rfl (Or.inl rfl) (pe_slice sl_str (pv 3) po_none (po_some (pe_un un_neg pe_int))))
    (pss_cons (ps_set (i := 5) sc_read_series.nd rfl (Or.inl rfl) (pe_lst pa_nil))
    (pss_cons (ps_for PassesOwn.never rfl (pi_list (pe_ifExp (pt_cmpR op_ne (pv 4) pe_str (nomark _)) (pe_splitN (pv 4) pe_str) (pe_lst pa_nil))) (pg_name (i := 6) sc_read_series.nd rfl (Or.inl rfl))
    (pss_cons (ps_asg (pe_partitionN (pv 6) pe_str) (pg_tup rfl (pgs_cons (pg_name (i := 7) sc_read_series.nd rfl (Or.inl rfl)) (pgs_cons (pg_name (i := 8) sc_read_series.nd rfl (Or.inl rfl)) (pgs_cons (pg_name (i := 9) sc_read_series.nd rfl (Or.inl rfl)) pgs_nil)))))
    (pss_one (ps_expr (pe_bm PySem.F.plainAttrs_list PySem.F.slot_list_append PySem.F.type_list_append mt_append (pv 5) (pa_cons (pe_tup (pa_cons (pv 7) (pa_cons (pv 9) pa_nil))) pa_nil))))))
    (pss_cons (ps_if (PW.pt (pw_or (pt_cmpR op_eq (pv 2) pe_str (nomark _)) (pw_or (pt_not (pt_val (pe_m1 PySem.F.slot_str_endswith PySem.F.type_str_endswith mt_endsN (pv 3) pe_str))) (pw_or (pt_not (pt_val (pcall G_is_name hr T.g_is_name (pa_cons (pv 1) pa_nil)))) (pw_or1 (pt_not (pt_val (pcall G_are_pairs hr T.g_are_pairs (pa_cons (pv 5) pa_nil))))))))) (pss_one ps_never) pss_nil)
    (pss_one (ps_ret (pmake T.mk_Series G_Series_init hr T.g_Series (pa_cons (pv 1) (pa_cons (pv 5) pa_nil))))))))))), ?_⟩
    walk_at "v"
    refine ⟨_, _, _, _, true, rfl, .ty _, .base (.str _), kit_ty (by decide +kernel), ?_⟩
    walk_at "v"
    have nb : (123 : Nat) ∉ sr.name := name_no hok.1 (by decide +kernel)
    have ep : Txt.partition (S (textL sr)) ("{" : Str) = (S sr.name, ("{" : Str), S (insL sr.tags ++ [125])) := part1 t_lb nb
    intro p hp
    rw [ep]
    walk_at "v"
    have l3 := insL_len hok.2.2.1
    have l4 := hok.2.1
    refine ⟨_, rfl, sz100k (by rw [S_len]; simp only [List.length_append, List.length_cons, List.length_nil]; omega), ?_⟩
    rw [show ((-1 : Int)) = -1 from rfl, cut1]
    walk_at "v"
    intro l hl
    walk_at "v"
    have eH : ∀ {o u : HO}, Ex H (upd (upd H p o) l u) := fun {o u} => Ex.mut (Ex.mut (Ex.refl _) hp) (by
      cases q : H l with
      | none => rfl
      | some o' =>
        rw [upd_ne (ne_of_none q hp), q] at hl
        cases hl)
    have hlH : H l = none := by
      cases q : H l with
      | none => rfl
      | some o' =>
        rw [upd_ne (ne_of_none q hp), q] at hl
        cases hl
    have hco : ∀ kw ∈ sr.tags, 44 ∉ itemL kw := fun kw hk z => by
      obtain ⟨h1, h2, h3⟩ := hok.2.2.1 kw hk
      rcases List.mem_append.mp z with z | z
      · exact name_no h1 (by decide +kernel) z
      · rcases List.mem_cons.mp z with z | z
        · exact absurd z (by decide)
        · exact word_no h3 (by decide +kernel) z
    refine ite2 ?t ?f
    case' t =>
      intro c
      have hne : sr.tags ≠ [] := fun z => by
        rw [z] at c
        exact absurd c (by decide +kernel)
      have es : Txt.split (S (insL sr.tags)) ("," : Str) = (sr.tags.map itemL).map S := split1 t_co (by decide) (by simpa using hne) fun x hx => by
        obtain ⟨kw, hk, rfl⟩ := List.mem_map.mp hx
        exact hco kw hk
      have lq : (S (insL sr.tags)).length ≤ 300 := by
        rw [S_len]
        omega
      walk_at "v"
      rw [es]
      intro pl hpl
      have hne : pl ≠ l := (ne_of_none upd_same hpl).symm
      have items := (upd_same : upd (upd (upd H p (.tup [vS sr.name, .str "{", vS (insL sr.tags ++ [125])])) l (.lst [])) pl (.lst (((sr.tags.map itemL).map S).map V.str)) pl = _)
      have hl2 : upd (upd (upd H p (.tup [vS sr.name, .str "{", vS (insL sr.tags ++ [125])])) l (.lst [])) pl (.lst (((sr.tags.map itemL).map S).map V.str)) l = some (.lst []) := (upd_ne hne.symm).trans upd_same
      have e2 : Ex H (upd (upd (upd H p (.tup [vS sr.name, .str "{", vS (insL sr.tags ++ [125])])) l (.lst [])) pl (.lst (((sr.tags.map itemL).map S).map V.str))) := Ex.mut (eH) (by
        cases q : H pl with
        | none => rfl
        | some o' =>
          rw [eH pl _ q] at hpl
          cases hpl)
    case' f =>
      intro c
      have hni : insL sr.tags = [] := by
        have q : decide (V.str (S (insL sr.tags)) = V.str "") = true := by simpa using c
        exact str0_eq.mp (of_decide_eq_true q)
      have hnt : sr.tags = [] := by
        cases ht : sr.tags with
        | nil => rfl
        | cons x r =>
          rw [ht] at hni
          have := joinL_cons [44] (itemL x)
          cases r with
          | nil =>
            have z : itemL x = [] := hni
            simp [itemL] at z
          | cons y r =>
            have z : TL.joinL [44] (itemL x :: itemL y :: r.map itemL) = [] := hni
            rw [joinL_cons] at z
            simp [itemL] at z
      walk_at "v"
      intro pl hpl
      have hne : pl ≠ l := (ne_of_none upd_same hpl).symm
      have items : upd (upd (upd H p (.tup [vS sr.name, .str "{", vS (insL sr.tags ++ [125])])) l (.lst [])) pl (.lst []) pl = some (.lst (((sr.tags.map itemL).map S).map V.str)) := by
        rw [hnt]
        exact upd_same
      have hl2 : upd (upd (upd H p (.tup [vS sr.name, .str "{", vS (insL sr.tags ++ [125])])) l (.lst [])) pl (.lst []) l = some (.lst []) := (upd_ne hne.symm).trans upd_same
      have e2 : Ex H (upd (upd (upd H p (.tup [vS sr.name, .str "{", vS (insL sr.tags ++ [125])])) l (.lst [])) pl (.lst [])) := Ex.mut (eH) (by
        cases q : H pl with
        | none => rfl
        | some o' =>
          rw [eH pl _ q] at hpl
          cases hpl)
    all_goals
      refine x_ilist (SqL.of items) ?_
      refine for_it (walk_list (xs := ((sr.tags.map itemL).map S).map V.str)) (fun i σ H' => ∃ qs x1 x2 x3 x4, σ = [some (vS (textL sr)), some (vS sr.name), some (.str "{"), some (vS (insL sr.tags ++ [125])), some (vS (insL sr.tags)), some (.ref l), x1, x2, x3, x4] ∧ Ex H H' ∧ H' l = some (.lst (qs.map V.ref)) ∧
          H' pl = some (.lst (((sr.tags.map itemL).map S).map V.str)) ∧ Paired (PairAt H') qs (sr.tags.take i)) ⟨[], none, none, none, none, rfl, e2, hl2, items, .nil⟩ (fun i σ H' _ h => ?_) ?_ ?_
      · obtain ⟨_, _, _, _, _, _, _, _, h, _⟩ := h
        exact SqL.of h
      · rintro i x σ H1 H2 hi ⟨qs, x1, x2, x3, x4, rfl, e1, hll, hpl2, hq⟩ ⟨rfl, hx⟩
        obtain ⟨kw, hkw, rfl⟩ : ∃ kw, sr.tags[i]? = some kw ∧ x = vS (itemL kw) := by
          rw [List.map_map, List.map_map, List.getElem?_map] at hx
          cases e : sr.tags[i]? with
          | none =>
            rw [e] at hx
            cases hx
          | some q =>
            rw [e] at hx
            exact ⟨q, rfl, (Option.some.inj hx).symm⟩
        have ho := hok.2.2.1 kw (List.mem_of_getElem? hkw)
        have l5 := name_len ho.1
        have l6 := word_len ho.2.2
        have l7 := item_len ho.1 ho.2.2
        have ep2 : Txt.partition (S (itemL kw)) ("=" : Str) = (S kw.1, ("=" : Str), S kw.2) := part1 t_eq (name_no ho.1 (by decide +kernel))
        walk_at "v"
        rw [ep2]
        intro pt hpt
        walk_at "v"
        intro q hqn
        have eq1 : ∀ {u v : HO}, Ex H2 (upd (upd H2 pt u) q v) := fun {u v} => Ex.mut (Ex.mut (Ex.refl _) hpt) (by
          cases q' : H2 q with
          | none => rfl
          | some o' =>
            rw [upd_ne (ne_of_none q' hpt), q'] at hqn
            cases hqn)
        walk_at "v"
        have hll' : ∀ {u v : HO}, upd (upd H2 pt u) q v l = some (.lst (qs.map V.ref)) := fun {u v} => eq1 _ _ hll
        have hnl : q ≠ l := fun z => by
          have := (eq1 (u := .tup [vS kw.1, .str "=", vS kw.2]) (v := .tup []) l _ hll)
          rw [← z, upd_same] at this
          cases this
        have hlq := Plen hq
        rw [List.length_take] at hlq
        have hm := Nat.min_le_right i sr.tags.length
        refine r_append hll' (by rw [List.length_map]; omega) ?_
        walk_at "v"
        refine ⟨qs ++ [q], _, _, _, _, rfl, Ex.mut (e1.trans eq1) hlH, ?_, ?_, ?_⟩
        · rw [upd_same, List.map_append]
          rfl
        · rw [upd_ne hne]
          exact eq1 _ _ hpl2
        · obtain ⟨hi2, ei⟩ := List.getElem?_eq_some_iff.mp hkw
          rw [← List.take_append_getElem hi2, ei]
          have padd : ∀ {xs : List Addr} {ys : List (List Nat × List Nat)} {H' : Hp}, Paired (PairAt H') xs ys → PairAt H' q kw → Paired (PairAt H') (xs ++ [q]) (ys ++ [kw]) := by
            intro xs ys H' h hr
            induction h with
            | nil => exact .cons hr .nil
            | cons r _ ih => exact .cons r ih
          refine padd (Pimp hq fun a b hab => ?_) ?_
          · show upd _ l _ a = _
            have hal : a ≠ l := ne_of hab hll (by intro z; cases z)
            rw [upd_ne hal]
            exact eq1 _ _ hab
          · show upd _ l _ q = _
            rw [upd_ne hnl]
            exact upd_same
      · rintro σ H1 ⟨qs, x1, x2, x3, x4, rfl, e1, hll, hpl2, hq⟩
        rw [List.length_map, List.length_map, List.length_map, List.take_length] at hq
        walk_at "v"
        rw [show decide (V.str ("{" : Str) = V.str "") = false from by decide +kernel]
        walk_at "v"
        rw [ends1 t_rb]
        walk_at "v"
        refine u_of (by rw [S_len]; omega) fun H2 e3 => ?_
        rw [hok.1]
        walk_at "v"
        refine ⟨l, qs, sr.tags, rfl, e3 _ _ hll, Pimp hq fun _ _ q => e3 _ _ q, hok.2, fun H3 e4 => ?_⟩
        have e5 := e3.trans e4
        walk_at "v"
        intro x dx nx nd _
        refine ⟨x, dx, l, qs, sr, rfl, upd_same, ?_, ?_, hok, fun H4 h4 e6 => ⟨rfl, ?_⟩⟩
        · rw [upd_ne (ne_of_none (e5 _ _ hll) nx), upd_ne (ne_of_none (e5 _ _ hll) nd)]
          exact e5 _ _ hll
        · refine Pimp hq fun a b hab => ?_
          have hab' := e5 _ _ hab
          show upd _ x _ a = _
          rw [upd_ne (ne_of_none hab' nx), upd_ne (ne_of_none hab' nd)]
          exact hab'
        · exact k _ _ ((e1.trans e5).trans (made_ex nx nd e6)) h4
end
set_option Elab.async false
set_option linter.all false
set_option maxRecDepth 100000
set_option maxHeartbeats 4000000
/-! Dicts whose keys are pairs: a text, and a text or None. -/
section
open PySem PySem.Spec PyProof.Rows L2
open Evl (Ex given)
abbrev Mark := List Nat × Option (List Nat)
def leafO : Option (List Nat) → Leaf
  | none => .none
  | some w => .text (S w)
def mkL (m : Mark) : List Leaf := [.text (S m.1), leafO m.2]
def mkV (m : Mark) : List V := [vS m.1, optV m.2]
theorem mkL_inj {m n : Mark} (h : mkL m = mkL n) : m = n := by
  obtain ⟨a, b⟩ := m
  obtain ⟨c, d⟩ := n
  unfold mkL at h
  injection h with h1 h2
  injection h1 with h1
  injection h2 with h2 _
  have e1 := S_inj h1
  subst e1
  cases b with
  | none =>
    cases d with
    | none => rfl
    | some y => cases h2
  | some x =>
    cases d with
    | none => cases h2
    | some y =>
      unfold leafO at h2
      injection h2 with h2
      rw [S_inj h2]
/-- a mark, where its tuple lies, its bits -/
abbrev Ent := Mark × Addr × Int
def bval (es : List Ent) (m : Mark) : Option Int := (es.find? fun e => decide (e.1 = m)).map (·.2.2)
def bput (es : List Ent) (m : Mark) (b : Addr) (i : Int) : List Ent := if (bval es m).isSome = true then es.map (fun e => if e.1 = m then (e.1, e.2.1, i) else e) else es ++ [(m, b, i)]
def bdrop (es : List Ent) (m : Mark) : List Ent := es.filter fun e => decide (e.1 ≠ m)
abbrev XS := List (List Leaf × Addr × Value)
def BR (es : List Ent) (xs : XS) : Prop := Paired (fun (e : Ent) (x : List Leaf × Addr × Value) => x.1 = mkL e.1 ∧ x.2.1 = e.2.1 ∧ ∃ t, x.2.2 = .int e.2.2 t) es xs
theorem mkL_dec {m n : Mark} : decide (mkL m = mkL n) = decide (m = n) := decide_eq_decide.mpr ⟨mkL_inj, fun h => by rw [h]⟩
theorem br_at {es : List Ent} {xs : XS} (r : BR es xs) (m : Mark) : (∃ i p t, bval es m = some i ∧ atKey xs (mkL m) = some p ∧ p.2 = .int i t) ∨ (bval es m = none ∧ atKey xs (mkL m) = none) := by
  induction r with
  | nil => exact .inr ⟨rfl, rfl⟩
  | @cons e x es xs h _ ih =>
    obtain ⟨h1, h2, t, h3⟩ := h
    by_cases c : e.1 = m
    · refine .inl ⟨e.2.2, x.2, t, ?_, ?_, h3⟩
      · simp [bval, List.find?_cons, c]
      · simp [atKey, List.find?_cons, h1, c]
    · have c' : ¬ mkL e.1 = mkL m := fun z => c (mkL_inj z)
      have e1 : bval (e :: es) m = bval es m := by simp [bval, List.find?_cons, c]
      have e2 : atKey (x :: xs) (mkL m) = atKey xs (mkL m) := by simp [atKey, List.find?_cons, h1, c']
      rw [e1, e2]
      exact ih
theorem br_map {es : List Ent} {xs : XS} (r : BR es xs) (m : Mark) (i : Int) (t : Tok) : BR (es.map fun e => if e.1 = m then (e.1, e.2.1, i) else e) (xs.map (putAt (mkL m) (.int i t))) := by
  induction r with
  | nil => exact .nil
  | @cons e x es xs h _ ih =>
    obtain ⟨h1, h2, t', h3⟩ := h
    refine .cons ?_ ih
    by_cases c : e.1 = m
    · have ea : (fun e : Ent => if e.1 = m then (e.1, e.2.1, i) else e) e = (e.1, e.2.1, i) := if_pos c
      have eb : putAt (mkL m) (.int i t) x = (x.1, x.2.1, .int i t) := if_pos (by rw [h1, c])
      rw [ea, eb]
      exact ⟨h1, h2, t, rfl⟩
    · have c' : ¬ mkL e.1 = mkL m := fun z => c (mkL_inj z)
      have ea : (fun e : Ent => if e.1 = m then (e.1, e.2.1, i) else e) e = e := if_neg c
      have eb : putAt (mkL m) (.int i t) x = x := if_neg (by rw [h1]; exact c')
      rw [ea, eb]
      exact ⟨h1, h2, t', h3⟩
theorem br_put {es : List Ent} {xs : XS} (r : BR es xs) (m : Mark) (b : Addr) (i : Int) (t : Tok) : BR (bput es m b i) (storedH xs (mkL m) b (.int i t)) := by
  unfold bput storedH
  rcases br_at r m with ⟨j, p, t', e1, e2, _⟩ | ⟨e1, e2⟩
  · rw [e1, e2]
    exact br_map r m i t
  · rw [e1, e2]
    have padd : ∀ {es : List Ent} {xs : XS}, BR es xs → BR (es ++ [(m, b, i)]) (xs ++ [(mkL m, b, .int i t)]) := by
      intro es xs h
      induction h with
      | nil => exact .cons ⟨rfl, rfl, t, rfl⟩ .nil
      | cons r _ ih => exact .cons r ih
    exact padd r
theorem br_drop {es : List Ent} {xs : XS} (r : BR es xs) (m : Mark) : BR (bdrop es m) (withoutH xs (mkL m)) := by
  unfold bdrop withoutH
  induction r with
  | nil => exact .nil
  | @cons e x es xs h _ ih =>
    by_cases c : e.1 = m
    · rw [List.filter_cons_of_neg (by simp [c]), List.filter_cons_of_neg (by simp [h.1, c])]
      exact ih
    · have c' : ¬ mkL e.1 = mkL m := fun z => c (mkL_inj z)
      rw [List.filter_cons_of_pos (by simp [c]), List.filter_cons_of_pos (by simp [h.1, c'])]
      exact .cons h ih
theorem br_len {es : List Ent} {xs : XS} (r : BR es xs) : es.length = xs.length := Plen r
abbrev mkKind (P : Program) (w : World) : HeapKind P w (List Leaf) := tupleKind (leafKind P w)
/-- what stands at a: the dict's object, its entries -/
def bO (P : Program) (w : World) (a : Addr) (ob : Obj) (es : List Ent) : HO := .ext fun h => h.get? a = some ob ∧ (a == sysModules) = false ∧ ob.ExactDict ∧ ∃ xs en ep, BR es xs ∧ ob.data = .dict en ep ∧ en.toList = xs.map (entryOfKey (mkKind P w)) ∧ (xs.map (·.1)).Nodup
structure BitsAt (P : Program) (w : World) (H : Hp) (a : Addr) (es : List Ent) : Prop where
  ob : ∃ ob, H a = some (bO P w a ob es)
  keys : ∀ e ∈ es, H e.2.1 = some (.tup (mkV e.1))
  small : es.length ≤ 5000
theorem bO_own {P : Program} {w : World} {a x : Addr} {ob : Obj} {es : List Ent} : bO P w a ob es ≠ .own x := fun z => by
  have z' : HO.ext _ = HO.own x := z
  cases z'
theorem bO_tup {P : Program} {w : World} {a : Addr} {ob : Obj} {es : List Ent} {xs : List V} : bO P w a ob es ≠ .tup xs := fun z => by
  have z' : HO.ext _ = HO.tup xs := z
  cases z'
section
variable {P : Program} {w : World} {H : Hp} {h : Heap} {a b : Addr} {es : List Ent} {m : Mark}
theorem bO_ok {ob : Obj} (h0 : h.get? a = some ob) (h1 : (a == sysModules) = false) (h2 : ob.ExactDict) {xs : XS} {en : Array DictEntry} {ep : Nat} (r : BR es xs) (h3 : ob.data = .dict en ep) (h4 : en.toList = xs.map (entryOfKey (mkKind P w))) (h5 : (xs.map (·.1)).Nodup) :
    ObjOk P w H h a (bO P w a ob es) :=
  ⟨⟨h0, h1, h2, xs, en, ep, r, h3, h4, h5⟩, ⟨_, h0⟩, fun g1 g2 z k => by
    obtain ⟨z0, z1, z2, z3⟩ := z
    exact ⟨k _ z0, z1, z2, z3⟩⟩
theorem bO_at {ob : Obj} (ok : HOk P w H h) (e : H a = some (bO P w a ob es)) : h.get? a = some ob ∧ (a == sysModules) = false ∧ ob.ExactDict ∧ ∃ xs en ep, BR es xs ∧ ob.data = .dict en ep ∧ en.toList = xs.map (entryOfKey (mkKind P w)) ∧ (xs.map (·.1)).Nodup := by
  have x : ObjOk P w H h a (.ext fun h => h.get? a = some ob ∧ (a == sysModules) = false ∧ ob.ExactDict ∧ ∃ xs en ep, BR es xs ∧ ob.data = .dict en ep ∧ en.toList = xs.map (entryOfKey (mkKind P w)) ∧ (xs.map (·.1)).Nodup) := ok a _ e
  exact x.1
theorem mk_is (ok : HOk P w H h) (e : H b = some (.tup (mkV m))) : (mkKind P w).is h (mkL m) b := by
  obtain ⟨_, its, r, o, h1, h2, n, h3⟩ := (show ObjOk P w H h b (.tup (mkV m)) from ok b _ e)
  refine ⟨o, its.toArray, n, h1, h2, h3, ?_⟩
  obtain ⟨k, o'⟩ := m
  cases r with
  | cons ra rr =>
    cases rr with
    | cons rb rn =>
      cases rn
      obtain ⟨t, rfl⟩ := ra
      refine .cons ?_ (.cons ?_ .nil)
      · show Value.isStrOf (S k) (.str (S k) t) = true
        simp [Value.isStrOf]
      · cases o' with
        | none =>
          have e' : _ = Value.none := rb
          subst e'
          rfl
        | some x =>
          obtain ⟨t', rfl⟩ := rb
          show Value.isStrOf (S x) (.str (S x) t') = true
          simp [Value.isStrOf]
theorem bits_h (ok : HOk P w H h) (B : BitsAt P w H a es) : (a == sysModules) = false ∧ ∃ xs, BR es xs ∧ h.DictOfH (mkKind P w) a xs := by
  obtain ⟨ob, e⟩ := B.ob
  obtain ⟨h0, h1, h2, xs, en, ep, r, h3, h4, h5⟩ := bO_at ok e
  refine ⟨h1, xs, r, ob, en, ep, h0, h2, h3, h4, ?_, h5⟩
  have all : ∀ {l : List Ent} {xs : XS}, BR l xs → (∀ e ∈ l, H e.2.1 = some (.tup (mkV e.1))) → ∀ x ∈ xs, (mkKind P w).is h x.1 x.2.1 := by
    intro l xs q
    induction q with
    | nil =>
      intro _ x hx
      exact nomatch hx
    | cons hq _ ih =>
      intro hk x hx
      rcases List.mem_cons.mp hx with z | z
      · subst z
        rw [hq.1, hq.2.1]
        exact mk_is ok (hk _ (by simp))
      · exact ih (fun e he => hk e (by simp [he])) x z
  exact all r B.keys
end
section
variable {X : Cx} {pins : List (Addr × Obj)} {σ : L2.St} {H : Hp} {s : Shared} {a b : Addr} {es : List Ent} {m : Mark} {A : Around} {E : Value → Shared → Prop}
theorem b_get {i : Int} {Q : Value → Shared → Prop} (hu : A.units + 1 < cLine) (I : Inv X pins σ H s) (B : BitsAt X.prog X.w H a es) (eb : H b = some (.tup (mkV m))) (l : bval es m = some i) (h : ∀ t s', Inv X pins σ H s' → Q (.int i t) s') :
    wpAny (model X.prog X.w) A (getItem (.ref a) (.ref b)) Q E s := by
  obtain ⟨_, xs, r, dd⟩ := bits_h I.hok B
  rcases br_at r m with ⟨j, p, t, e1, e2, e3⟩ | ⟨e1, _⟩
  · rw [l] at e1
    cases e1
    refine wpAny_getItem_heap (tupleKind_room_in1 hu) (mk_is I.hok eb) dd e2 ?_
    rw [e3]
    exact h t _ (I.tok _)
  · rw [l] at e1
    cases e1
theorem b_get2 {d : V} {r : Value} {Q : Value → Shared → Prop} (hu : A.units + 1 < cLine) (I : Inv X pins σ H s) (B : BitsAt X.prog X.w H a es) (eb : H b = some (.tup (mkV m))) (rd : RelV d r) (h : ∀ w' s', Inv X pins σ H s' → RelV (match bval es m with | some i => .int i | none => d) w' → Q w' s') :
    wpAny (model X.prog X.w) A (call (.builtin "dict.get") [.ref a, .ref b, r]) Q E s := by
  obtain ⟨hd, xs, rr, dd⟩ := bits_h I.hok B
  refine call_meetsIn PySem.F.slot_dict_get dd.typeIs PySem.F.entry_dict_get (PySem.F.args_dict_get_3 _ _ _) (meetsH_dict_get_default (mkKind X.prog X.w) a b hd r) ⟨tupleKind_room_in1 hu, mkL m, xs, mk_is I.hok eb, dd, h _ _ (I.tok _) ?_⟩
  rcases br_at rr m with ⟨j, p, t, e1, e2, e3⟩ | ⟨e1, e2⟩
  · rw [e1, e2]
    exact ⟨t, e3⟩
  · rw [e1, e2]
    exact rd
theorem b_done {h' : Heap} {t' : Nat} {es' : List Ent} {xs : XS} (I : Inv X pins σ H s) (B : BitsAt X.prog X.w H a es) (hs : Heap.SameBut a s.heap h') (r : BR es' xs) (dd : h'.DictOfH (mkKind X.prog X.w) a xs) :
    ∃ ob, Inv X pins σ (upd H a (bO X.prog X.w a ob es')) { s with heap := h', toks := t' } := by
  obtain ⟨ob0, e⟩ := B.ob
  obtain ⟨hd, _⟩ := bits_h I.hok B
  obtain ⟨ob, en, ep, h0, h2, h3, h4, _, h5⟩ := dd
  exact ⟨ob, d_write I (by rw [e]; exact True.intro) hs ⟨_, h0⟩ (bO_ok h0 hd h2 r h3 h4 h5)⟩
theorem b_set {i : Int} {t : Tok} {Q : Unit → Shared → Prop} (hu : A.units + 1 < cLine) (I : Inv X pins σ H s) (B : BitsAt X.prog X.w H a es) (eb : H b = some (.tup (mkV m))) (h : ∀ ob s', Inv X pins σ (upd H a (bO X.prog X.w a ob (bput es m b i))) s' → Q () s') :
    wpAny (model X.prog X.w) A (setItem (.ref a) (.ref b) (.int i t)) Q E s := by
  obtain ⟨_, xs, r, dd⟩ := bits_h I.hok B
  refine wpAny_setItem_heap (hsz := by rw [← br_len r]; have := B.small; exact sz100k (by omega)) (tupleKind_room_in1 hu) (mk_is I.hok eb) dd fun h' dd' hs => ?_
  obtain ⟨ob, J⟩ := b_done (t' := s.toks + (mkKind X.prog X.w).draws (mkL m)) I B hs (br_put r m b i t) dd'
  exact h ob _ J
theorem b_del {i : Int} {Q : Unit → Shared → Prop} (hu : A.units + 1 < cLine) (I : Inv X pins σ H s) (B : BitsAt X.prog X.w H a es) (eb : H b = some (.tup (mkV m))) (l : bval es m = some i) (h : ∀ ob s', Inv X pins σ (upd H a (bO X.prog X.w a ob (bdrop es m))) s' → Q () s') :
    wpAny (model X.prog X.w) A (delItem (.ref a) (.ref b)) Q E s := by
  obtain ⟨hd, xs, r, dd⟩ := bits_h I.hok B
  rcases br_at r m with ⟨j, p, t, e1, e2, e3⟩ | ⟨e1, _⟩
  · refine wpAny_delItem_heap (hsz := by rw [← br_len r]; have := B.small; exact sz100k (by omega)) (tupleKind_room_in1 hu) (mk_is I.hok eb) hd dd e2 fun h' dd' hs => ?_
    obtain ⟨ob, J⟩ := b_done (t' := s.toks + (mkKind X.prog X.w).draws (mkL m)) I B hs (br_drop r m) dd'
    exact h ob _ J
  · rw [l] at e1
    cases e1
end
/-! ### readings and rules -/
def tBGet (P : Program) (w : World) (td ty : TE) : TE := fun σ H Q => td σ H fun x H1 => ty σ H1 fun y H2 => ∃ a b es m i, x = .ref a ∧ y = .ref b ∧ BitsAt P w H2 a es ∧ H2 b = some (.tup (mkV m)) ∧ bval es m = some i ∧ Q (.int i) H2
def tBGet2 (P : Program) (w : World) (td ty tx : TE) : TE := fun σ H Q => td σ H fun x H1 => ∃ a es0, x = .ref a ∧ BitsAt P w H1 a es0 ∧ ty σ H1 fun y H2 => tx σ H2 fun z H3 => ∃ b es m, y = .ref b ∧ BitsAt P w H3 a es ∧ H3 b = some (.tup (mkV m)) ∧ Q (match bval es m with | some i => .int i | none => z) H3
def rBSet (P : Program) (w : World) : TSet := fun o y v H Q => ∃ a b es m i, o = .ref a ∧ y = .ref b ∧ v = .int i ∧ BitsAt P w H a es ∧ H b = some (.tup (mkV m)) ∧ ∀ ob, Q (upd H a (bO P w a ob (bput es m b i)))
def sBDel (P : Program) (w : World) (td ty : TE) : TS := fun D σ H => td σ H fun x H1 => ty σ H1 fun y H2 => ∃ a b es m i, x = .ref a ∧ y = .ref b ∧ BitsAt P w H2 a es ∧ H2 b = some (.tup (mkV m)) ∧ bval es m = some i ∧ ∀ ob, D.nx σ (upd H2 a (bO P w a ob (bdrop es m)))
def Itb (P : Program) (w : World) (d : Addr) (ob : Obj) (es : List Ent) : It :=
  ⟨fun i H => H d = some (bO P w d ob es) ∧ i < es.length, fun i H x H' => H' = H ∧ ∃ e, es[i]? = some e ∧ x = .ref e.2.1, fun i H => H d = some (bO P w d ob es) ∧ es.length ≤ i⟩
def iBits (P : Program) (w : World) (td : TE) : TI := fun σ H R => td σ H fun x H1 => ∃ d ob es, x = .ref d ∧ H1 d = some (bO P w d ob es) ∧ R (Itb P w d ob es) H1
theorem walk_bits {P : Program} {w : World} {d : Addr} {ob : Obj} {es : List Ent} : Walk (Itb P w d ob es) es.length (fun H => H d = some (bO P w d ob es)) (fun i H x H' => H' = H ∧ ∃ e, es[i]? = some e ∧ x = .ref e.2.1) :=
  ⟨fun _ _ hi g => ⟨g, hi⟩, fun _ g => ⟨g, Nat.le_refl _⟩, fun _ _ _ _ _ _ y => y⟩
section
variable {X : Cx} {o i e f : Expr} {pos tpos apos cpos : Pos} {td ty tx : TE} {tg : Expr}
theorem bits_type {pins : List (Addr × Obj)} {σ : L2.St} {H : Hp} {s : Shared} {a : Addr} {es : List Ent} (I : Inv X pins σ H s) (B : BitsAt X.prog X.w H a es) : s.TypeIs (.ref a) "dict" ∧ ∀ b, Value.ref a = .ref b → ∃ ob, s.heap.get? b = some ob ∧ ob.dict = none := by
  obtain ⟨_, xs, r, dd⟩ := bits_h I.hok B
  refine ⟨dd.typeIs, fun b q => ?_⟩
  cases q
  obtain ⟨ob, _, _, h1, h2, _⟩ := dd
  exact ⟨ob, h1, h2.2.1⟩
theorem pe_bget (hu : X.A.units + 1 < cLine) (ho : PE X o td) (hi : PE X i ty) (hs : NoSl i) : PE X (.Subscript o i pos) (tBGet X.prog X.w td ty) := by
  refine ⟨fun pins s σ H Q I h => ?_⟩
  refine subD_of PySem.F.slot_dict_getitem.lookup hs (thn (ho.run pins s σ H _ I h) fun u s1 ⟨x, H1, I1, rx, q1⟩ => thn (hi.run pins s1 σ H1 _ I1 q1) fun iv s2 ⟨y, H2, I2, ry, a, b, es, m, j, ex, ey, B, eb, l, q2⟩ => ?_)
  subst ex ey
  have rx' : u = Value.ref a := rx
  have ry' : iv = Value.ref b := ry
  subst rx' ry'
  exact ⟨(bits_type I2 B).1, b_get hu I2 B eb l fun t s3 I3 => ⟨.int j, H2, I3, ⟨t, rfl⟩, q2⟩⟩
theorem pe_bget2 (hu : X.A.units + 1 < cLine) (ho : PE X o td) (he : PE X e ty) (hf : PE X f tx) (m : M2 X o "get" apos e f cpos := by exact ⟨rfl, rfl, rfl, rfl⟩) : PE X (.Call (.Attribute o "get" apos) [e, f] [] cpos) (tBGet2 X.prog X.w td ty tx) := by
  refine ⟨fun pins s σ H Q I h => ?_⟩
  refine wpAny_Call_method m.base m.few m.line PySem.F.plainAttrs_dict PySem.F.slot_dict_get PySem.F.type_dict_get (thn (ho.run pins s σ H _ I h) fun u s1 ⟨x, H1, I1, rx, a, es0, ex, d, q1⟩ => ?_)
  subst ex
  have rx' : u = Value.ref a := rx
  subst rx'
  obtain ⟨t1, t2⟩ := bits_type I1 d
  refine ⟨t1, t2, ?_⟩
  rw [m.trees]
  refine Calls.callWith_builtin rfl (Calls.evalArgs_plain (Calls.spliced_cons (thn (he.run pins s1 σ H1 _ I1 q1) fun iv s2 ⟨y, H2, I2, ry, q2⟩ =>
    Calls.spliced_cons (thn (hf.run pins s2 σ H2 _ I2 q2) fun fv s3 ⟨z, H3, I3, rz, b, es, mm, ey, B, eb, q3⟩ => Calls.spliced_nil ?_))))
  subst ey
  have ry' : iv = Value.ref b := ry
  subst ry'
  exact b_get2 hu I3 B eb rz fun w' s4 I4 rw' => ⟨_, H3, I4, rw', q3⟩
theorem set_bits (hu : X.A.units + 1 < cLine) : PSet X (rBSet X.prog X.w) := by
  intro pins s σ H o i v ov iv u Q I ro ri rv h
  obtain ⟨a, b, es, m, j, rfl, rfl, rfl, B, eb, q⟩ := h
  have ro' : ov = Value.ref a := ro
  have ri' : iv = Value.ref b := ri
  subst ro' ri'
  obtain ⟨t, rfl⟩ := rv
  exact b_set hu I B eb fun ob s' J => ⟨_, J, q ob⟩
theorem ps_bdel (hu : X.A.units + 1 < cLine) (ho : PE X o td) (hi : PE X i ty) : PS X (.Delete [.Subscript o i tpos] pos) (sBDel X.prog X.w td ty) := by
  refine ⟨fun pins s σ H D I h => ?_⟩
  refine wpAny_Delete (wpAny_deleteEach_cons (wpAny_delete_Subscript (thn (ho.run pins s σ H _ I h) fun u s1 ⟨x, H1, I1, rx, q1⟩ => thn (hi.run pins s1 σ H1 _ I1 q1) fun iv s2 ⟨y, H2, I2, ry, a, b, es, m, j, ex, ey, B, eb, l, q2⟩ => ?_)))
  subst ex ey
  have rx' : u = Value.ref a := rx
  have ry' : iv = Value.ref b := ry
  subst rx' ry'
  exact b_del hu I2 B eb l fun ob s3 I3 => wpAny_deleteEach_nil ⟨σ, _, I3, q2 ob⟩
theorem turn_bits {P : Program} {w : World} {K : PySem.W.Frag} {d : Addr} {ob : Obj} {es : List Ent} {en : Array DictEntry} {ep : Nat} (it : Addr) (hod : ob.data = .dict en ep) : Turn P w K tg (Itb P w d ob es) [it] it (fun i h => h.IsKeyIter it d i es.length ep) where
  mem := by simp
  obj := fun i h st b hb => by
    have e : b = it := by simpa using hb
    subst e
    obtain ⟨oi, e, c, dd⟩ := st
    exact ⟨oi, e, fun v z => by rw [dd] at z; cases z⟩
  keep := fun i h h' st k => st.at fun oi e => k it (by simp) oi e
  item := by
    intro X hP hw hK hc i pins s σ H E I hf st hg
    subst hP hw hK
    obtain ⟨hd, hi⟩ := hg
    obtain ⟨f0, f1, f2, f3, f4, f5⟩ := hf it (by simp)
    obtain ⟨h0, h1, h2, xs, en', ep', r, h3, h4, h5⟩ := bO_at I.hok hd
    obtain ⟨e1, e2⟩ := dict_ep hod h3
    subst e1 e2
    have hsz : en'.size = es.length := by
      have : en'.size = en'.toList.length := by simp
      rw [this, h4, List.length_map, br_len r]
    obtain ⟨x, hx, hr⟩ := Pat r (List.getElem?_eq_getElem hi)
    have hen : en'[i]? = some (entryOfKey (mkKind X.prog X.w) x) := by
      rw [← Array.getElem?_toList, h4, List.getElem?_map, hx]
      rfl
    refine next_key_item st h0 h3 hsz hen fun h' st' sb => ?_
    have I1 : Inv X pins σ H { s with heap := h' } := I.turned (t' := s.toks) (fun b ob hb e => (sb.2 b hb).trans e) f0 f1 f3 f4 f5
    obtain ⟨oi, e, c, dd⟩ := id st'
    refine ⟨_, rfl, go_of (s := { s with heap := h' }) e c dd (by decide) ⟨.ref (es[i]).2.1, H, I1, ?_, ⟨rfl, es[i], List.getElem?_eq_getElem hi, rfl⟩, st', fun b hb => (hf b hb).1⟩⟩
    show Value.ref x.2.1 = Value.ref _
    rw [hr.2.1]
  done := by
    intro X hP hw hK hc i pins s σ H E I hf st hg
    subst hP hw hK
    obtain ⟨hd, hi⟩ := hg
    obtain ⟨f0, f1, f2, f3, f4, f5⟩ := hf it (by simp)
    obtain ⟨h0, h1, h2, xs, en', ep', r, h3, h4, h5⟩ := bO_at I.hok hd
    obtain ⟨e1, e2⟩ := dict_ep hod h3
    subst e1 e2
    have hsz : en'.size = es.length := by
      have : en'.size = en'.toList.length := by simp
      rw [this, h4, List.length_map, br_len r]
    exact next_key_end (I.ok.hd hc) st h0 h3 hsz hi fun h' eb => ⟨rfl, I.turned (t' := s.toks) (fun b ob hb e => eb b ob hb e) f0 f1 f3 f4 f5⟩
  self := fun A i s Q E st h => by
    refine wpAny_pyIter_slot st.typeIs F.slot_dict_keyiterator_iter (wpAny_call_entry F.slot_dict_keyiterator_iter st.typeIs F.entry_dict_keyiterator_iter ?_ (F.args_dict_keyiterator_iter_1 _))
    exact wpAny_pure ⟨_, rfl, "dict_keyiterator", _, st.typeIs, F.slot_dict_keyiterator_next.lookup, h⟩
theorem pi_bits (he : PE X e td) : PI X tg e (iBits X.prog X.w td) := by
  refine ⟨fun pins s σ H R I h => ?_⟩
  refine thn (he.run pins s σ H _ I h) fun u s1 ⟨x, H1, I1, rx, d, ob, es, ex, hd, q⟩ => ?_
  subst ex
  have rx' : u = Value.ref d := rx
  subst rx'
  obtain ⟨h0, h1, h2, xs, en, ep, r, h3, h4, h5⟩ := bO_at I1.hok hd
  have hsz : en.size = es.length := by
    have : en.size = en.toList.length := by simp
    rw [this, h4, List.length_map, br_len r]
  refine iter_keys h1 h0 h2 h3 (pi_one (tk := s1.toks) I1 _ (turn_bits _ h3) ⟨_, Heap.get?_push_size _ rfl, rfl, ?_⟩ q)
  rw [hsz] <;> rfl
end
end
set_option Elab.async false
set_option linter.all false
set_option maxRecDepth 100000
set_option maxHeartbeats 4000000
/-! The mathematics of an index: slots, masks, marks, sorted texts. -/
section
open PySem PySem.Spec PyProof.Rows L2
abbrev Slots := List (Option Ser)
def slotT : Option Ser → List Nat
  | none => []
  | some s => textL s
def occ (sl : Slots) : List Ser := sl.filterMap id
def maskL : Slots → (Ser → Bool) → Nat
  | [], _ => 0
  | none :: r, p => 2 * maskL r p
  | some s :: r, p => (if p s = true then 1 else 0) + 2 * maskL r p
def atP (sl : Slots) (p : Ser → Bool) (i : Nat) : Bool := match sl[i]? with
  | some (some s) => p s
  | _ => false
theorem mask_bit (p : Ser → Bool) : ∀ (sl : Slots) (i : Nat), (maskL sl p).testBit i = atP sl p i
  | [], i => by simp [maskL, atP]
  | none :: r, 0 => by
    rw [Nat.testBit_zero]
    simp [maskL, atP]
  | none :: r, i + 1 => by
    rw [Nat.testBit_succ]
    have : maskL (none :: r) p / 2 = maskL r p := by
      simp only [maskL]
      omega
    rw [this, mask_bit p r i]
    simp [atP]
  | some s :: r, 0 => by
    rw [Nat.testBit_zero]
    simp only [maskL, atP]
    by_cases h : p s = true
    · simp [h] <;> omega
    · simp [h] <;> omega
  | some s :: r, i + 1 => by
    rw [Nat.testBit_succ]
    have : maskL (some s :: r) p / 2 = maskL r p := by
      simp only [maskL]
      split <;> omega
    rw [this, mask_bit p r i]
    simp [atP]
theorem mask_ext {a : Nat} {sl : Slots} {p : Ser → Bool} (h : ∀ i, a.testBit i = atP sl p i) : a = maskL sl p := Nat.eq_of_testBit_eq fun i => by rw [h, mask_bit]
theorem if_bit {c : Bool} {j i : Nat} : (if c = true then 2 ^ j else 0).testBit i = (c && decide (j = i)) := by
  cases c with
  | true => simp [Nat.testBit_two_pow]
  | false => simp
theorem mask_set {sl : Slots} {j : Nat} {s : Ser} (h : sl[j]? = some none) (p : Ser → Bool) : maskL (sl.set j (some s)) p = maskL sl p ||| (if p s = true then 2 ^ j else 0) := by
  refine (mask_ext fun i => ?_).symm
  rw [Nat.testBit_or, mask_bit, if_bit]
  unfold atP
  have hj := (List.getElem?_eq_some_iff.mp h).1
  by_cases hi : j = i
  · subst hi
    rw [List.getElem?_set_self hj, h]
    simp
  · rw [List.getElem?_set_ne hi]
    simp [hi]
theorem mask_app (sl : Slots) (s : Ser) (p : Ser → Bool) : maskL (sl ++ [some s]) p = maskL sl p ||| (if p s = true then 2 ^ sl.length else 0) := by
  refine (mask_ext fun i => ?_).symm
  rw [Nat.testBit_or, mask_bit, if_bit]
  unfold atP
  rcases Nat.lt_trichotomy i sl.length with hi | hi | hi
  · rw [List.getElem?_append_left hi]
    have : ¬ sl.length = i := by omega
    simp [this]
  · subst hi
    simp
  · rw [List.getElem?_eq_none (l := sl ++ [some s]) (by simp; omega), List.getElem?_eq_none (l := sl) (by omega)]
    have : ¬ sl.length = i := by omega
    simp [this]
theorem mask_clear {sl : Slots} {j : Nat} {s : Ser} (h : sl[j]? = some (some s)) (p : Ser → Bool) : maskL (sl.set j none) p = maskL sl p ^^^ (if p s = true then 2 ^ j else 0) := by
  refine (mask_ext fun i => ?_).symm
  rw [Nat.testBit_xor, mask_bit, if_bit]
  unfold atP
  have hj := (List.getElem?_eq_some_iff.mp h).1
  by_cases hi : j = i
  · subst hi
    rw [List.getElem?_set_self hj, h]
    cases hps : p s <;> simp [hps]
  · rw [List.getElem?_set_ne hi]
    simp [hi]
theorem mask_not (sl : Slots) (p : Ser → Bool) : maskL sl (fun _ => true) ^^^ maskL sl p = maskL sl (fun s => !p s) := by
  refine mask_ext fun i => ?_
  rw [Nat.testBit_xor, mask_bit, mask_bit]
  unfold atP
  split <;> simp
theorem mask_and (sl : Slots) (p q : Ser → Bool) : maskL sl p &&& maskL sl q = maskL sl (fun s => p s && q s) := by
  refine mask_ext fun i => ?_
  rw [Nat.testBit_and, mask_bit, mask_bit]
  unfold atP
  split <;> simp
theorem mask_or (sl : Slots) (p q : Ser → Bool) : maskL sl p ||| maskL sl q = maskL sl (fun s => p s || q s) := by
  refine mask_ext fun i => ?_
  rw [Nat.testBit_or, mask_bit, mask_bit]
  unfold atP
  split <;> simp
theorem mem_occ {sl : Slots} {s : Ser} : s ∈ occ sl ↔ ∃ i : Nat, sl[i]? = some (some s) := by
  unfold occ
  rw [List.mem_filterMap]
  constructor
  · rintro ⟨o, ho, e⟩
    have e' : o = some s := e
    subst e'
    exact List.mem_iff_getElem?.mp ho
  · rintro ⟨i, hi⟩
    exact ⟨some s, List.mem_of_getElem? hi, rfl⟩
theorem mask_zero {sl : Slots} {p : Ser → Bool} : maskL sl p = 0 ↔ ∀ s ∈ occ sl, p s = false := by
  constructor
  · intro h s hs
    obtain ⟨i, hi⟩ := mem_occ.mp hs
    have q := mask_bit p sl i
    rw [h] at q
    unfold atP at q
    rw [hi] at q
    simpa using q.symm
  · intro h
    refine (mask_ext (a := 0) fun i => ?_).symm
    rw [Nat.zero_testBit]
    unfold atP
    split
    · rename_i s hs
      exact (h s (mem_occ.mpr ⟨i, hs⟩)).symm
    · rfl
/-! ### marks -/
def markP (m : Mark) (s : Ser) : Bool := match m.2 with
  | none => (wordOf s m.1).isSome
  | some x => decide (wordOf s m.1 = some x)
abbrev pairsL (s : Ser) : List (List Nat × List Nat) := (nNAME, s.name) :: s.tags
def marksOf (s : Ser) : List Mark := (pairsL s).map (fun kw => (kw.1, some kw.2)) ++ (pairsL s).map fun kw => (kw.1, none)
theorem lookup_mem {k x : List Nat} : ∀ {l : List (List Nat × List Nat)}, l.Pairwise (fun x y => x.1 < y.1) → (l.lookup k = some x ↔ (k, x) ∈ l)
  | [], _ => by simp
  | (a, b) :: l, h => by
    rw [List.pairwise_cons] at h
    have ih := lookup_mem (k := k) (x := x) h.2
    by_cases c : k = a
    · subst c
      simp only [List.lookup, beq_self_eq_true, Option.some.injEq, List.mem_cons, Prod.mk.injEq, true_and]
      constructor
      · intro q
        exact .inl q.symm
      · rintro (q | q)
        · exact q.symm
        · exact absurd (h.1 _ q) (List.lt_irrefl _)
    · have c' : (k == a) = false := by simpa using c
      simp only [List.lookup, c', List.mem_cons, Prod.mk.injEq, c, false_and, false_or]
      exact ih
theorem wordOf_mem {s : Ser} (h : SerOk s) {k x : List Nat} : wordOf s k = some x ↔ (k, x) ∈ pairsL s := by
  unfold wordOf
  by_cases c : k = nNAME
  · subst c
    rw [if_pos rfl]
    simp only [pairsL, List.mem_cons, Prod.mk.injEq, true_and, Option.some.injEq]
    constructor
    · intro q
      exact .inl q.symm
    · rintro (q | q)
      · exact q.symm
      · exact absurd rfl (h.2.2.1 _ q).2.1
  · rw [if_neg c, lookup_mem h.2.2.2]
    simp [pairsL, c]
theorem mem_marks {s : Ser} (h : SerOk s) {m : Mark} : m ∈ marksOf s ↔ markP m s = true := by
  obtain ⟨k, o⟩ := m
  unfold marksOf markP
  rw [List.mem_append]
  cases o with
  | none =>
    simp only [List.mem_map, Prod.mk.injEq, reduceCtorEq, and_false, exists_false, false_or, and_true]
    rw [Option.isSome_iff_exists]
    constructor
    · rintro ⟨kw, hk, rfl⟩
      exact ⟨kw.2, (wordOf_mem h).mpr hk⟩
    · rintro ⟨x, hx⟩
      exact ⟨(k, x), (wordOf_mem h).mp hx, rfl⟩
  | some x =>
    simp only [List.mem_map, Prod.mk.injEq, reduceCtorEq, and_false, exists_false, or_false, Option.some.injEq, decide_eq_true_eq]
    rw [wordOf_mem h]
    constructor
    · rintro ⟨kw, hk, rfl, rfl⟩
      exact hk
    · intro hk
      exact ⟨(k, x), hk, rfl, rfl⟩
theorem pairs_nodup {s : Ser} (h : SerOk s) : ((pairsL s).map (·.1)).Nodup := by
  show (nNAME :: s.tags.map (·.1)).Nodup
  rw [List.nodup_cons]
  refine ⟨fun q => ?_, ?_⟩
  · obtain ⟨kw, hk, e⟩ := List.mem_map.mp q
    exact (h.2.2.1 kw hk).2.1 e
  · rw [List.nodup_iff_pairwise_ne, List.pairwise_map]
    refine h.2.2.2.imp ?_
    intro a b hlt z
    rw [z] at hlt
    exact List.lt_irrefl _ hlt
theorem marks_nodup {s : Ser} (h : SerOk s) : (marksOf s).Nodup := by
  have hp := pairs_nodup h
  rw [List.nodup_iff_pairwise_ne, List.pairwise_map] at hp
  unfold marksOf
  rw [List.nodup_append]
  refine ⟨?_, ?_, ?_⟩
  · rw [List.nodup_iff_pairwise_ne, List.pairwise_map]
    refine hp.imp ?_
    intro a b hne z
    injection z with z1 z2
    exact hne z1
  · rw [List.nodup_iff_pairwise_ne, List.pairwise_map]
    refine hp.imp ?_
    intro a b hne z
    injection z with z1 z2
    exact hne z1
  · intro a ha b hb z
    obtain ⟨x, _, rfl⟩ := List.mem_map.mp ha
    obtain ⟨y, _, rfl⟩ := List.mem_map.mp hb
    injection z with _ z
    cases z
theorem marks_len {s : Ser} (h : SerOk s) : (marksOf s).length ≤ 14 := by
  have := h.2.1
  simp [marksOf, pairsL]
  omega
/-! ### a series by its text -/
theorem textL_inj {s t : Ser} (hs : SerOk s) (ht : SerOk t) (e : textL s = textL t) : s = t := by
  have n1 : (123 : Nat) ∉ s.name := name_no hs.1 (by decide +kernel)
  have n2 : (123 : Nat) ∉ t.name := name_no ht.1 (by decide +kernel)
  have p1 : Txt.partition (S (textL s)) ("{" : Str) = _ := part1 t_lb n1
  have p2 : Txt.partition (S (textL t)) ("{" : Str) = _ := part1 t_lb n2
  rw [e, p2] at p1
  have q1 : S t.name = S s.name := congrArg Prod.fst p1
  have q2 : S (insL t.tags ++ [125]) = S (insL s.tags ++ [125]) := congrArg (fun x : Str × Str × Str => x.2.2) p1
  have e1 := S_inj q1
  have e2 := List.append_cancel_right (S_inj q2)
  have hco : ∀ {u : Ser}, SerOk u → ∀ kw ∈ u.tags, 44 ∉ itemL kw := fun {u} hu kw hk z => by
    obtain ⟨h1, h2, h3⟩ := hu.2.2.1 kw hk
    rcases List.mem_append.mp z with z | z
    · exact name_no h1 (by decide +kernel) z
    · rcases List.mem_cons.mp z with z | z
      · exact absurd z (by decide)
      · exact word_no h3 (by decide +kernel) z
  have hne : ∀ {l : List (List Nat × List Nat)}, insL l = [] → l = [] := by
    intro l hl
    cases l with
    | nil => rfl
    | cons x r =>
      cases r with
      | nil =>
        have z : itemL x = [] := hl
        simp [itemL] at z
      | cons y r =>
        have z : TL.joinL [44] (itemL x :: itemL y :: r.map itemL) = [] := hl
        rw [joinL_cons] at z
        simp [itemL] at z
  have et : s.tags = t.tags := by
    by_cases c : s.tags = []
    · have : insL s.tags = [] := by rw [c]; rfl
      rw [this] at e2
      rw [c, hne e2]
    · have c2 : t.tags ≠ [] := fun z => by
        have : insL t.tags = [] := by rw [z]; rfl
        rw [this] at e2
        exact c (hne e2.symm)
      have s1 := split1 (z := (",": Str)) (parts := s.tags.map itemL) t_co (by decide) (by simpa using c) fun p hp => by
        obtain ⟨kw, hk, rfl⟩ := List.mem_map.mp hp
        exact hco hs kw hk
      have s2 := split1 (z := (",": Str)) (parts := t.tags.map itemL) t_co (by decide) (by simpa using c2) fun p hp => by
        obtain ⟨kw, hk, rfl⟩ := List.mem_map.mp hp
        exact hco ht kw hk
      have e3 : S (TL.joinL [44] (t.tags.map itemL)) = S (TL.joinL [44] (s.tags.map itemL)) := congrArg S e2
      rw [e3, s1] at s2
      have e4 : s.tags.map itemL = t.tags.map itemL := by
        have hmt : ∀ l : List (List Nat), (l.map S).map tl = l := fun l => by
          rw [List.map_map]
          exact List.map_id l
        have := congrArg (List.map tl) s2
        rw [hmt, hmt] at this
        exact this
      have key : ∀ {l m : List (List Nat × List Nat)}, (∀ kw ∈ l, isName (S kw.1) = true) → (∀ kw ∈ m, isName (S kw.1) = true) → l.map itemL = m.map itemL → l = m := by
        intro l
        induction l with
        | nil =>
          intro m _ _ h
          cases m with
          | nil => rfl
          | cons _ _ => cases h
        | cons x l ih =>
          intro m h1 h2 h
          cases m with
          | nil => cases h
          | cons y m =>
            rw [List.map_cons, List.map_cons, List.cons.injEq] at h
            have a1 : (61 : Nat) ∉ x.1 := name_no (h1 x (by simp)) (by decide +kernel)
            have a2 : (61 : Nat) ∉ y.1 := name_no (h2 y (by simp)) (by decide +kernel)
            have b1 : Txt.partition (S (itemL x)) ("=" : Str) = _ := part1 t_eq a1
            have b2 : Txt.partition (S (itemL y)) ("=" : Str) = _ := part1 t_eq a2
            rw [h.1, b2] at b1
            have c1 := S_inj (congrArg Prod.fst b1)
            have c2 := S_inj (congrArg (fun x : Str × Str × Str => x.2.2) b1)
            rw [ih (fun kw hk => h1 kw (by simp [hk])) (fun kw hk => h2 kw (by simp [hk])) h.2]
            have : x = y := Prod.ext c1.symm c2.symm
            rw [this]
      exact key (fun kw hk => (hs.2.2.1 kw hk).1) (fun kw hk => (ht.2.2.1 kw hk).1) e4
  cases s
  cases t
  simp only at e1 et
  rw [← e1, et]
theorem textL_ne {s : Ser} : textL s ≠ [] := by simp [textL]
/-! ### sorted -/
theorem rising_pw : ∀ {l : List Str} {x : Str}, risingS x l = true → (x :: l).Pairwise (fun a b => ¬ tl b < tl a)
  | [], x, _ => by simp
  | y :: l, x, h => by
    unfold risingS at h
    rw [Bool.and_eq_true] at h
    have ih := rising_pw h.2
    have hxy : ¬ tl y < tl x := by
      have := h.1
      rw [Bool.not_eq_true'] at this
      intro z
      rw [show ltCps y.cps.toList x.cps.toList = decide (tl y < tl x) from ltCps_eq _ _] at this
      simp [z] at this
    rw [List.pairwise_cons]
    refine ⟨fun z hz => ?_, ih⟩
    rcases List.mem_cons.mp hz with e | hz
    · rw [e]
      exact hxy
    · have h1 := (List.pairwise_cons.mp ih).1 z hz
      exact List.not_lt.mpr (List.le_trans (List.not_lt.mp hxy) (List.not_lt.mp h1))
theorem sorted_pw {l : List Str} (h : sortedS l = true) : l.Pairwise (fun a b => ¬ tl b < tl a) := by
  cases l with
  | nil => exact .nil
  | cons x r => exact rising_pw h
/-- sorted texts that have the members of a strictly rising list are that list -/
theorem sorted_uniq {ys : List Str} {zs : List (List Nat)} (hs : sortedS ys = true) (hp : ys.Perm (zs.map S)) (hz : zs.Pairwise (fun a b => a < b)) : ys = zs.map S := by
  refine List.Perm.eq_of_pairwise (le := fun a b => ¬ tl b < tl a) (fun a b _ _ h1 h2 => ?_) (sorted_pw hs) ?_ hp
  · exact TL.ext_tl (List.le_antisymm (List.not_lt.mp h1) (List.not_lt.mp h2))
  · rw [List.pairwise_map]
    refine hz.imp ?_
    intro a b hlt h
    exact List.lt_irrefl _ (List.lt_trans hlt h)
/-- strictly rising lists with the same members -/
theorem rising_uniq {l m : List (List Nat)} (h1 : l.Pairwise (fun a b => a < b)) (h2 : m.Pairwise (fun a b => a < b)) (h : ∀ x, x ∈ l ↔ x ∈ m) : l = m := by
  have nd : ∀ {l : List (List Nat)}, l.Pairwise (fun a b => a < b) → l.Nodup := fun h => by
    rw [List.nodup_iff_pairwise_ne]
    refine h.imp ?_
    intro a b hlt z
    rw [z] at hlt
    exact List.lt_irrefl _ hlt
  refine List.Perm.eq_of_pairwise (le := fun a b => a < b) (fun a b _ _ h1 h2 => absurd (List.lt_trans h1 h2) (List.lt_irrefl _)) h1 h2 ?_
  exact (List.perm_ext_iff_of_nodup (nd h1) (nd h2)).mpr h
/-- sorted texts without doubles rise -/
theorem sorted_rising {ys : List Str} (hs : sortedS ys = true) (hn : ys.Nodup) : (ys.map tl).Pairwise (fun a b => a < b) := by
  rw [List.pairwise_map]
  have h1 := sorted_pw hs
  rw [List.nodup_iff_pairwise_ne] at hn
  refine (h1.and hn).imp ?_
  intro a b ⟨h2, h3⟩
  rcases Decidable.em (tl a < tl b) with h | h
  · exact h
  · exact absurd (TL.ext_tl (List.le_antisymm (List.not_lt.mp h2) (List.not_lt.mp h))) h3
/-- series by rising texts -/
def RiseTx (l : List Ser) : Prop := l.Pairwise fun a b => textL a < textL b
theorem riseTx_uniq {l m : List Ser} (hl : RiseTx l) (hm : RiseTx m) (h : l.Perm m) : l = m :=
  List.Perm.eq_of_pairwise (le := fun a b => textL a < textL b) (fun _ _ _ _ h1 h2 => absurd (List.lt_trans h1 h2) (List.lt_irrefl _)) hl hm h
theorem riseTx_filter {l : List Ser} (hl : RiseTx l) (p : Ser → Bool) : RiseTx (l.filter p) := List.Pairwise.filter p hl
/-- every list of series with distinct texts has its rising one -/
theorem rise_of {ys : List Str} {l : List Ser} (hs : sortedS ys = true) (hp : ys.Perm (l.map fun s => S (textL s))) (hn : (l.map textL).Nodup) : ∃ m : List Ser, m.Perm l ∧ RiseTx m ∧ ys = m.map fun s => S (textL s) := by
  have ex : ∀ {ys : List Str} {l : List Ser}, ys.Perm (l.map fun s => S (textL s)) → ∃ m : List Ser, m.Perm l ∧ ys = m.map fun s => S (textL s) := by
    intro ys
    induction ys with
    | nil =>
      intro l h
      have : l = [] := by
        have := h.length_eq
        rw [List.length_map] at this
        exact List.length_eq_zero_iff.mp this.symm
      exact ⟨[], by rw [this], rfl⟩
    | cons y ys ih =>
      intro l h
      have hy : y ∈ l.map fun s => S (textL s) := h.mem_iff.mp (by simp)
      obtain ⟨s, hs, rfl⟩ := List.mem_map.mp hy
      obtain ⟨l1, l2, rfl⟩ := List.append_of_mem hs
      have h2 : ys.Perm ((l1 ++ l2).map fun s => S (textL s)) := by
        refine (List.perm_cons (S (textL s))).mp (h.trans ?_)
        rw [List.map_append, List.map_cons, List.map_append]
        exact List.perm_middle
      obtain ⟨m, hm, e⟩ := ih h2
      exact ⟨s :: m, (hm.cons s).trans List.perm_middle.symm, by rw [e]; rfl⟩
  obtain ⟨m, hm, e⟩ := ex hp
  refine ⟨m, hm, ?_, e⟩
  have hnd : ys.Nodup := by
    rw [e]
    have h1 : (m.map textL).Nodup := (hm.map textL).nodup_iff.mpr hn
    rw [List.nodup_iff_pairwise_ne, List.pairwise_map] at h1 ⊢
    refine h1.imp ?_
    intro a b hne z
    exact hne (S_inj z)
  have := sorted_rising hs hnd
  rw [e, List.map_map] at this
  exact List.pairwise_map.mp this
end
set_option Elab.async false
set_option linter.all false
set_option maxRecDepth 100000
set_option maxHeartbeats 4000000
/-! Readings: stars, ints of bits, dicts, slices. -/
section
open PySem PySem.Spec PyProof.Rows L2
open Evl (Ex given)
section
variable {X : Cx} {K : PySem.W.Frag} {σ : L2.St} {H : Hp} {Q : VK} {QA : List V → Hp → Prop} {x y v : V} {te td ty tx ta : TE} {t : TA} {p l b : Addr} {xs zs : List V}
theorem r_star (h : te σ H fun x H1 => ∃ p xs, x = V.ref p ∧ (SqT K H1 p xs ∨ SqL K H1 p xs) ∧ t σ H1 fun ys H2 => QA (xs ++ ys) H2) : StX.tStar K te t σ H QA := h
theorem x_starT {R : List V → Prop} (h : SqT K H p xs) (q : R xs) : ∃ p' xs, V.ref p = V.ref p' ∧ (SqT K H p' xs ∨ SqL K H p' xs) ∧ R xs := ⟨p, xs, rfl, .inl h, q⟩
/-- lists + -/
theorem r_cat (h1 : H l = some (.lst xs)) (h2 : H b = some (.lst zs)) (hl : xs.length + zs.length ≤ 100000) (q : ∀ p, H p = none → Q (.ref p) (upd H p (.lst (xs ++ zs)))) : rCat (.ref l) (.ref b) H Q := ⟨l, b, xs, zs, rfl, rfl, h1, h2, sz100k hl, q⟩
/-- 1 << i -/
def rShl1 : R2 := rI CPow fun i j => .int (i * 2 ^ j.toNat)
theorem op_shl1 : OpR X (binaryOp .LShift) rShl1 := op_shl
theorem r_shl {n : Nat} (hn : n ≤ 1000) (q : Q (.int ((2 ^ n : Nat) : Int)) H) : rShl1 (.int 1) (.int (n : Nat)) H Q := by
  refine ⟨1, (n : Int), rfl, rfl, ⟨by omega, by omega, by decide⟩, ?_⟩
  have e : (1 : Int) * 2 ^ (n : Int).toNat = ((2 ^ n : Nat) : Int) := by
    rw [Int.toNat_natCast]
    simp
  show Q (.int ((1 : Int) * 2 ^ (n : Int).toNat)) H
  rw [e]
  exact q
def rShrN : R2 := rI (fun _ j => 0 ≤ j) fun i j => .int (i / 2 ^ j.toNat)
theorem op_shrN : OpR X (binaryOp .RShift) rShrN := op_shr
theorem r_shr {n i : Nat} (q : Q (.int ((n / 2 ^ i : Nat) : Int)) H) : rShrN (.int (n : Nat)) (.int (i : Nat)) H Q := by
  refine ⟨(n : Int), (i : Int), rfl, rfl, by omega, ?_⟩
  have e : (n : Int) / 2 ^ (i : Int).toNat = ((n / 2 ^ i : Nat) : Int) := by
    rw [Int.toNat_natCast]
    simp
  show Q (.int ((n : Int) / 2 ^ (i : Int).toNat)) H
  rw [e]
  exact q
def rAndN : R2 := rI0 fun i j => .int (Builtin.bitAnd i j)
def rOrN : R2 := rI0 fun i j => .int (Builtin.bitOr i j)
def rXorN : R2 := rI0 fun i j => .int (Builtin.bitXor i j)
theorem op_andN : OpR X (binaryOp .BitAnd) rAndN := op_and
theorem op_orN : OpR X (binaryOp .BitOr) rOrN := op_or
theorem op_xorN : OpR X (binaryOp .BitXor) rXorN := op_xor
theorem bitOr_nat (a b : Nat) : Builtin.bitOr (a : Int) (b : Int) = ((a ||| b : Nat) : Int) := by
  have := Bits.bitOr_pp (x := (a : Int)) (y := (b : Int)) (by omega) (by omega)
  rw [this]
  simp
theorem bitXor_nat (a b : Nat) : Builtin.bitXor (a : Int) (b : Int) = ((a ^^^ b : Nat) : Int) := by
  have := Bits.bitXor_pp (x := (a : Int)) (y := (b : Int)) (by omega) (by omega)
  rw [this]
  simp
theorem r_andN {a b : Nat} (q : Q (.int ((a &&& b : Nat) : Int)) H) : rAndN (.int (a : Nat)) (.int (b : Nat)) H Q := ⟨_, _, rfl, rfl, by show Q (.int (Builtin.bitAnd a b)) H; rw [PySem.W.os_band]; exact q⟩
theorem r_orN {a b : Nat} (q : Q (.int ((a ||| b : Nat) : Int)) H) : rOrN (.int (a : Nat)) (.int (b : Nat)) H Q := ⟨_, _, rfl, rfl, by show Q (.int (Builtin.bitOr a b)) H; rw [bitOr_nat]; exact q⟩
theorem r_xorN {a b : Nat} (q : Q (.int ((a ^^^ b : Nat) : Int)) H) : rXorN (.int (a : Nat)) (.int (b : Nat)) H Q := ⟨_, _, rfl, rfl, by show Q (.int (Builtin.bitXor a b)) H; rw [bitXor_nat]; exact q⟩
end
theorem refs_list {ys : List V} : ∀ {R : Nat → Addr → Prop}, (∀ i y, ys[i]? = some y → ∃ q, y = V.ref q ∧ R i q) → ∃ qs : List Addr, ys = qs.map V.ref ∧ ∀ i q, qs[i]? = some q → R i q := by
  induction ys with
  | nil =>
    intro R _
    exact ⟨[], rfl, fun i q h => by simp at h⟩
  | cons y ys ih =>
    intro R h
    obtain ⟨q, rfl, hq⟩ := h 0 y rfl
    obtain ⟨qs, e, hr⟩ := ih (R := fun i q => R (i + 1) q) fun i y hy => h (i + 1) y (by simpa using hy)
    refine ⟨q :: qs, by rw [e]; rfl, fun i x hx => ?_⟩
    cases i with
    | zero =>
      simp only [List.getElem?_cons_zero, Option.some.injEq] at hx
      subst hx
      exact hq
    | succ i =>
      exact hr i x (by simpa using hx)
theorem Papp {α β : Type} {R : α → β → Prop} {xs xs' : List α} {ys ys' : List β} (h : Paired R xs ys) (h' : Paired R xs' ys') : Paired R (xs ++ xs') (ys ++ ys') := by
  induction h with
  | nil => exact h'
  | cons r _ ih => exact .cons r ih
theorem Pmap {α β γ : Type} {R : α → β → Prop} {R' : α → γ → Prop} {f : β → γ} (h : ∀ a b, R a b → R' a (f b)) {xs : List α} {ys : List β} (hp : Paired R xs ys) : Paired R' xs (ys.map f) := by
  induction hp with
  | nil => exact .nil
  | cons r _ ih => exact .cons (h _ _ r) ih
/-! inside of comprehensions: the text's fragment by its name -/
section
variable {X : Cx} {K : PySem.W.Frag} {ta : TE} {e : Expr} {f : Str} {pos : Pos}
theorem pe_fldK (hK : X.K = K) (he : PE X e ta) (hb : attributeBase e f X.env (eval e X.env) = eval e X.env) : PE X (.Attribute e f pos) (tFld K ta f) := by
  subst hK
  exact pe_fld he hb
theorem ix_listK (hK : X.K = K) : IxR X (rIxL K) := by
  subst hK
  exact ix_list
theorem ix_tupK (hK : X.K = K) : IxR X (rIxT K) := by
  subst hK
  exact ix_tup
theorem sl_listK (hK : X.K = K) : SlR X (rSlL K) := by
  subst hK
  exact sl_list
theorem op_in_seqK (hK : X.K = K) : OpR X (compareOp .In) (rIn K false) := by
  subst hK
  exact op_in_seq
end
section
variable {K : PySem.W.Frag} {σ : L2.St} {H : Hp} {Q : VK} {ta : TA} {td ty : TE} {a : Addr} {xs : List V} {v : V}
theorem i_enum {R : It → Hp → Prop} (h : ta σ H fun vs H1 => ∃ a xs, vs = [.ref a] ∧ SqL K H1 a xs ∧ R (Ite K a) H1) : iEnum K ta σ H R := h
theorem x_enum {R : Addr → Prop} (h : SqL K H a xs) (q : R a) : ∃ b xs, [V.ref a] = [.ref b] ∧ SqL K H b xs ∧ R b := ⟨a, xs, rfl, h, q⟩
theorem r_dget (h : td σ H fun x H1 => ty σ H1 fun y H2 => ∃ a v, x = .ref a ∧ DGet H2 a y (some v) ∧ Q v H2) : tDGet td ty σ H Q := h
theorem x_dget {k : Str} {kvs : List (Key × V)} {R : V → Prop} (h : H a = some (.dK kvs)) (l : valV kvs (.inr k) = some v) (q : R v) : ∃ b v, V.ref a = .ref b ∧ DGet H b (.str k) (some v) ∧ R v := ⟨a, v, rfl, .inl ⟨kvs, .inr k, .inl h, rfl, l.symm⟩, q⟩
theorem occ_len : ∀ sl : Slots, (occ sl).length ≤ sl.length := fun sl => List.length_filterMap_le _ _
end
section
variable {P : Program} {w : World} {K : PySem.W.Frag} {σ : L2.St} {H : Hp} {Q : VK} {td ty tx te : TE} {a : Addr} {es : List Ent} {xs : List V}
/-- what the marks' dict gives, or z -/
def bD (es : List Ent) (m : Mark) (z : V) : V := match bval es m with
  | some i => .int i
  | none => z
theorem bD_some {m : Mark} {z : V} {i : Int} (h : bval es m = some i) : bD es m z = .int i := by
  unfold bD
  rw [h]
theorem bD_none {m : Mark} {z : V} (h : bval es m = none) : bD es m z = z := by
  unfold bD
  rw [h]
theorem r_bget2 (h : td σ H fun x H1 => ∃ a es0, x = .ref a ∧ BitsAt P w H1 a es0 ∧ ty σ H1 fun y H2 => tx σ H2 fun z H3 => ∃ b es m, y = .ref b ∧ BitsAt P w H3 a es ∧ H3 b = some (.tup (mkV m)) ∧ Q (bD es m z) H3) : tBGet2 P w td ty tx σ H Q := h
theorem x_bits {R : Addr → Prop} (h : BitsAt P w H a es) (q : R a) : ∃ b es0, V.ref a = .ref b ∧ BitsAt P w H b es0 ∧ R b := ⟨a, es, rfl, h, q⟩
theorem r_slL {lo hi : Option Int} (h : SqL K H a xs) (q : ∀ p, H p = none → Q (.ref p) (upd H p (.lst (cutV xs lo hi)))) : rSlL K (.ref a) lo hi H Q := ⟨a, xs, rfl, h, q⟩
theorem cutV_from1 (xs : List V) : cutV xs (some 1) none = xs.drop 1 := by
  unfold cutV
  have h1 : HT.sIx xs.length xs.length none = xs.length := rfl
  have h2 : HT.sIx xs.length 0 (some 1) = min 1 xs.length := HT.sIx_nat xs.length 0 1
  rw [h1, h2]
  cases xs with
  | nil => rfl
  | cons x r =>
    have : min 1 (x :: r).length = 1 := by simp
    rw [this]
    simp
end
end
end Eg
namespace Eg
set_option Elab.async false
set_option linter.all false
set_option maxRecDepth 100000
set_option maxHeartbeats 4000000
/-! The index. -/
open PySem PySem.Spec PyProof.Rows L2
open Evl (Ex given)
local macro_rules | `(tactic| walk_at "ln") => `(tactic| first
  | assumption
  | omega
  | (simp only [S_len, str_len_app, str_len_nil, List.length_cons, List.length_append, List.length_nil, List.length_map]; omega))
local macro_rules | `(tactic| walk_at "ne") => `(tactic| first
  | assumption
  | exact Ne.symm (by assumption)
  | exact ne_of_none (by assumption) (by assumption)
  | exact Ne.symm (ne_of_none (by assumption) (by assumption))
  | exact ne_of (by assumption) (by assumption) (by intro z; cases z))
local macro_rules | `(tactic| walk_at "hp") => `(tactic| first
  | assumption
  | exact upd_same
  | ((with_reducible refine' Eq.trans (upd_ne ?hn) ?hr); (case hn => walk_at "ne"); (case hr => walk_at "hp"))
  | ((with_reducible refine' ex_at ?hn ?hr); (case hn => assumption); (case hr => walk_at "hp")))
local macro_rules | `(tactic| walk_at "sq") => `(tactic| first | assumption | ((with_reducible apply SqL.of); walk_at "hp") | ((with_reducible apply SqT.of); walk_at "hp"))
local macro_rules | `(tactic| walk_at "v1") => `(tactic| first
  | ((with_reducible refine' r_var ?hv ?_); (case hv => exact rfl))
  | (with_reducible refine r_c ?_) | (with_reducible refine r_op ?_) | (with_reducible refine r_cons ?_) | (with_reducible refine r_nil ?_) | (with_reducible refine r_cb ?_) | (with_reducible refine r_call ?_) | (with_reducible refine r_un ?_)
  | (with_reducible refine r_seq ?_) | (with_reducible refine r_asg ?_) | (with_reducible refine r_gname ?_) | (with_reducible refine r_ret ?_) | (with_reducible refine r_retN ?_) | (with_reducible refine r_next ?_) | (with_reducible refine r_cont ?_) | (with_reducible refine r_drop ?_) | (with_reducible refine r_ifs ?_) | (with_reducible refine r_par ?_) | (with_reducible refine x_two ?_)
  | (with_reducible refine r_I0 ?_) | (with_reducible refine r_neg ?_) | ((with_reducible refine r_eq ?hv ?_); (case hv => exact rfl)) | ((with_reducible refine r_ne ?hv ?_); (case hv => exact rfl))
  | (with_reducible refine r_test ?_) | (with_reducible refine r_B ?_) | (with_reducible refine r_and ?_) | (with_reducible refine r_or ?_) | (with_reducible refine r_not ?_) | (with_reducible refine r_yes ?_) | (with_reducible refine r_ifE ?_)
  | (with_reducible refine r_andV ?_) | (with_reducible refine r_orV ?_) | (with_reducible refine r_notV ?_) | (with_reducible refine x_bl ?_)
  | (with_reducible refine r_meth ?_) | (with_reducible refine r_make ?_) | (with_reducible refine r_tup ?_) | (with_reducible refine r_lst ?_) | (with_reducible refine r_dnew ?_) | (with_reducible refine r_sfld ?_) | (with_reducible refine r_fldA ?_) | (with_reducible refine iteT ?_) | (with_reducible refine iteF ?_) | (with_reducible refine iteNf ?_) | (with_reducible refine iteNt ?_)
  | ((with_reducible refine' x_at ?hv ?_); (case hv => assumption))
  | ((with_reducible refine' r_lenS ?hv ?_); (case hv => walk_at "ln")) | ((with_reducible refine' r_lenL ?hv ?_); (case hv => walk_at "sq")) | ((with_reducible refine' r_lenT ?hv ?_); (case hv => walk_at "sq"))
  | (with_reducible refine r_inS ?_) | (with_reducible refine r_ninS ?_) | (with_reducible refine r_isN ?_) | (with_reducible refine r_notN ?_)
  | (with_reducible refine r_bm ?_) | ((with_reducible refine' x_tyL ?hv ?_); (case hv => walk_at "sq")) | (with_reducible refine r_for ?_) | (with_reducible refine i_str ?_) | (with_reducible refine x_str ?_)
  | (with_reducible refine i_tup ?_) | (with_reducible refine i_list ?_) | ((with_reducible refine' x_itup ?hv ?_); (case hv => walk_at "sq")) | ((with_reducible refine' x_ilist ?hv ?_); (case hv => walk_at "sq"))
  | ((with_reducible refine' g_tup ?hv ?hl ?_); (case hv => walk_at "sq"); (case hl => exact rfl)) | (with_reducible refine g_cons ?_) | (with_reducible refine g_nil ?_) | (with_reducible refine r_lc ?_)
  | (with_reducible refine r_star ?_) | ((with_reducible refine' x_starT ?hv ?_); (case hv => walk_at "sq")) | ((with_reducible refine' r_cat ?h1 ?h2 ?hv ?_); (case h1 => walk_at "hp"); (case h2 => walk_at "hp"); (case hv => walk_at "ln"))
  | ((with_reducible refine' r_shl ?hv ?_); (case hv => walk_at "ln")) | (with_reducible refine r_shr ?_) | (with_reducible refine r_andN ?_) | (with_reducible refine r_orN ?_) | (with_reducible refine r_xorN ?_)
  | (with_reducible refine i_enum ?_) | ((with_reducible refine' x_enum ?hv ?_); (case hv => walk_at "sq")) | (with_reducible refine r_dget ?_)
  | (with_reducible refine r_bget2 ?_) | ((with_reducible refine' x_bits ?hv ?_); (case hv => assumption)) | ((with_reducible refine' r_slL ?hv ?_); (case hv => walk_at "sq"))
  | (with_reducible refine r_m1 ?_) | (with_reducible refine x_isstr ?_) | (with_reducible refine r_fs ?_) | (with_reducible refine r_jsc ?_) | (with_reducible refine r_jsn ?_) | (with_reducible refine r_fmt ?_) | (with_reducible refine r_sl ?_) | (with_reducible refine o_none ?_) | (with_reducible refine o_part ?_) | (with_reducible refine x_int ?_)
  | ((with_reducible refine' x_js ?hv ?_); (case hv => walk_at "ln")) | ((with_reducible refine' x_fmtS ?hv ?_); (case hv => walk_at "ln")) | ((with_reducible refine' r_split ?hb ?hv ?_); (case hb => exact rfl); (case hv => walk_at "ln")) | ((with_reducible refine' r_partition ?hb ?hv ?_); (case hb => exact rfl); (case hv => walk_at "ln")) | (with_reducible refine r_ends ?_)
  | ((with_reducible refine' x_sz ?hv ?_); (case hv => first | decide | walk_at "ln"))
  | ((with_reducible refine' r_addS ?hv ?_); (case hv => walk_at "ln"))
  | ((with_reducible refine' r_aug ?hv ?_); (case hv => exact rfl)))
local macro_rules | `(tactic| walk_at "v") => `(tactic| (repeat (walk_at "v1")))

section
variable {P : Program} {w : World} {K : PySem.W.Frag} {mg : Str → Option Value} {base : Heap}
def MarkAt (H : Hp) (q : Addr) (m : Mark) : Prop := H q = some (.tup (mkV m))
def spMarksOf (K : PySem.W.Frag) : Sp := fun vs H Q _ => ∃ (v : V) (s : Ser), vs = [v] ∧ SerAt K H v s ∧ ∀ p qs H', Ex H H' → H' p = some (.lst (qs.map V.ref)) → H p = none → Paired (MarkAt H') qs (marksOf s) → Q (.ref p) H'
theorem sc_marks_of : FnScope ["series", "pairs", "key", "_"] ["series"] (defScope s_marks_of) := ⟨rfl, rfl, rfl, by decide +kernel, rfl, by decide +kernel, by decide +kernel⟩
theorem ok_marks_of (T : Txt K mg) : GoodP P w K mg base "marks_of" 1 ["series"] (spMarksOf K) := by
  obtain ⟨fd, F⟩ := T.f_marks_of
  refine good_of F sc_marks_of (fun vs H Q E h => ?_) (fun _ _ _ _ _ _ us hl => match us, hl with | [_], _ => rfl) (fun cdv A outer s H vs Q E hr h => ?_)
  · obtain ⟨v, s, rfl, _⟩ := h
    rfl
  · obtain ⟨v, sr, rfl, hs, k⟩ := h
    have f1 := hs.fname T
    obtain ⟨⟨a, dx, tp, qs, rfl, h2, h3, h4⟩, hok⟩ := hs
    refine ⟨_, (pss_cons (ps_set (i := 1) sc_marks_of.nd rfl (Or.inl rfl) (pe_lst (pa_cons (pe_tup (pa_cons (pe_kstr (T.k_NAME)) (pa_cons (pe_fld (pv 0) rfl) pa_nil))) (StX.pa_star (pe_fld (pv 0) rfl) pa_nil))))
    (pss_one (ps_ret (pe_op op_cat (pv 1) (pe_lc (own := [("key", 2), ("_", 3)]) rfl sc_marks_of.nd (pi_list (pv 1)) (blkOk_by (N := ["series", "pairs", "key", "_"]) (sc := defScope s_marks_of) (by decide +kernel)) (fun _ _ _ _ _ => (pg_tupK (K := K) (n := 2) rfl rfl (pgs_cons (pg_name (i := 2) sc_marks_of.nd rfl (Or.inl rfl)) (pgs_cons (pg_name (i := 3) sc_marks_of.nd rfl (Or.inl rfl)) pgs_nil)))) (fun _ _ _ _ _ => pts_nil) (fun _ _ _ _ _ => (pe_tup (pa_cons (pv 2) (pa_cons pe_non pa_nil))))))))), ?_⟩
    walk_at "v"
    intro q0 hq0
    have f2 : AtF K "tags" (.ref a) (upd H q0 (.tup [V.str "name", vS sr.name])) (.ref tp) := at_f ((upd_ne (ne_of_none h2 hq0)).trans h2) T.c_Series T.n_Series_tags ((lk_tl (by decide +kernel)).trans lk_hd)
    have e1 : ∀ {o : HO}, Ex H (upd H q0 o) := fun {o} => Ex.mut (Ex.refl _) hq0
    have hpl := Plen h4
    have hk6 := hok.2.1
    walk_at "v"
    intro l hl
    have e2 : ∀ {o u : HO}, Ex H (upd (upd H q0 o) l u) := fun {o u} => Ex.mut e1 (by
      cases q : H l with
      | none => rfl
      | some o' =>
        rw [e1 l _ q] at hl
        cases hl)
    have hlq : l ≠ q0 := (ne_of_none upd_same hl).symm
    have hpa : Paired (PairAt (upd (upd H q0 (.tup [V.str "name", vS sr.name])) l (.lst (V.ref q0 :: (qs.map V.ref ++ []))))) (q0 :: qs) (pairsL sr) := .cons ((upd_ne hlq.symm).trans upd_same) (Pimp h4 fun _ _ q => e2 _ _ q)
    have hl0 : upd (upd H q0 (.tup [V.str "name", vS sr.name])) l (.lst (V.ref q0 :: (qs.map V.ref ++ []))) l = some (.lst ((q0 :: qs).map V.ref)) := by
      rw [upd_same, List.append_nil]
      rfl
    generalize hH2 : upd (upd H q0 (.tup [V.str "name", vS sr.name])) l (.lst (V.ref q0 :: (qs.map V.ref ++ []))) = H2 at *
    have e2' : Ex H H2 := by
      rw [← hH2]
      exact e2
    walk_at "v"
    intro D hD
    refine lc_rel walk_list (fun _ => true) (fun i y H' => ∃ q kw, (pairsL sr)[i]? = some kw ∧ y = .ref q ∧ q ≠ D ∧ H' q = some (.tup [vS kw.1, .non])) hD (by rw [List.length_map, Plen hpa]; simp only [pairsL, List.length_cons]; omega) (fun H1 e => SqL.of (e _ _ hl0)) ?_ ?_ ?_
    · rintro i y Ha Hb ea ⟨q, kw, hk, rfl, hqD, hq⟩
      exact ⟨q, kw, hk, rfl, hqD, ea _ _ hq (by simpa using hqD)⟩
    · rintro N i x Ha Hb hi ea ⟨acc, hacc⟩ ⟨rfl, hx⟩ _ hyes
      obtain ⟨q, hq, rfl⟩ := refs_at hx
      obtain ⟨kw, hkw, hp⟩ := Pat hpa hq
      have hp' := ea _ _ hp
      walk_at "v"
      refine ⟨rfl, yes_ ?_⟩
      walk_at "v"
      intro t ht
      exact hyes rfl _ _ (Ex.mut (Ex.refl _) ht) ⟨t, kw, hkw, rfl, (ne_of_none hacc ht).symm, upd_same⟩
    · intro H1 ys ea hy hys
      obtain ⟨hyl, hyr⟩ := Prange hys
      have hl1 := ea _ _ hl0
      rw [List.length_map] at hyl
      have hpq := Plen hpa
      simp only [List.length_cons] at hpq hyl
      walk_at "v"
      intro p hp
      obtain ⟨q2, rfl, hq2⟩ := refs_list (ys := ys) (R := fun i q => ∃ kw, (pairsL sr)[i]? = some kw ∧ H1 q = some (.tup [vS kw.1, .non])) fun i y hy => by
        obtain ⟨q, kw, h1, h2, _, h3⟩ := hyr i y hy
        exact ⟨q, h2, kw, h1, h3⟩
      have ep : Ex H1 (upd H1 p (.lst ((q0 :: qs).map V.ref ++ q2.map V.ref))) := Ex.mut (Ex.refl _) hp
      rw [List.length_map] at hyl
      have hpH : H p = none := by
        cases q : H p with
        | none => rfl
        | some o' =>
          rw [(e2'.trans ea) _ _ q] at hp
          cases hp
      refine k p (q0 :: qs ++ q2) _ ((e2'.trans ea).trans ep) (by rw [upd_same, List.map_append]) hpH ?_
      have a1 : Paired (MarkAt (upd H1 p (.lst ((q0 :: qs).map V.ref ++ q2.map V.ref)))) (q0 :: qs) ((pairsL sr).map fun kw => (kw.1, some kw.2)) := Pmap (f := fun kw : List Nat × List Nat => ((kw.1, some kw.2) : Mark)) (fun a b h => ep _ _ (ea _ _ h)) hpa
      have a2 : Paired (fun q (kw : List Nat × List Nat) => MarkAt (upd H1 p (.lst ((q0 :: qs).map V.ref ++ q2.map V.ref))) q (kw.1, none)) q2 (pairsL sr) := Pof (by simp only [pairsL, List.length_cons]; omega) fun i x y h1 h2 => by
        obtain ⟨kw, h3, h4⟩ := hq2 i x h1
        rw [h2] at h3
        cases h3
        exact ep _ _ h4
      exact Papp a1 (Pmap (f := fun kw : List Nat × List Nat => ((kw.1, none) : Mark)) (fun a b h => h) a2)
end
set_option Elab.async false
set_option linter.all false
set_option maxRecDepth 100000
set_option maxHeartbeats 4000000
/-! The index: its state, what it tells. -/
section
open PySem PySem.Spec PyProof.Rows L2
open Evl (Ex given)

def slotV (o : Option Ser) : V := vS (slotT o)
def tru : Ser → Bool := fun _ => true
/-- the known: a dict from texts to series -/
structure KnownAt (K : PySem.W.Frag) (H : Hp) (kn : Addr) (l : List Ser) : Prop where
  ex : ∃ kvs : List (Key × V), H kn = some (.dK kvs) ∧ kvs.length = l.length ∧ (kvs.map (·.1)).Nodup ∧ (∀ x ∈ l, ∃ v, valV kvs (.inr (S (textL x))) = some v ∧ SerAt K H v x) ∧ ∀ k, (valV kvs k).isSome = true → ∃ x ∈ l, k = .inr (S (textL x))
structure MarksAt (P : Program) (w : World) (H : Hp) (bi : Addr) (sl : Slots) : Prop where
  ex : ∃ es, BitsAt P w H bi es ∧ (es.map (·.1)).Nodup ∧ ∀ m, bval es m = if maskL sl (markP m) = 0 then none else some ((maskL sl (markP m) : Nat) : Int)
structure IdxAt (P : Program) (w : World) (K : PySem.W.Frag) (H : Hp) (a sa ka ba : Addr) (sl : Slots) : Prop where
  ob : ∃ dx, H a = some (.ins (He.ga K "Index") dx [("_slots", .ref sa), ("_known", .ref ka), ("_bits", .ref ba), ("_all", .int (maskL sl tru : Nat))])
  slots : H sa = some (.lst (sl.map slotV))
  small : sl.length ≤ 50
  known : KnownAt K H ka (occ sl)
  bits : MarksAt P w H ba sl
  sers : ∀ x ∈ occ sl, SerOk x
  nd : (occ sl).Nodup
section
variable {P : Program} {w : World} {K : PySem.W.Frag} {mg : Str → Option Value} {base : Heap}
theorem KnownAt.ex' {H H' : Hp} {kn : Addr} {l : List Ser} (h : KnownAt K H kn l) (e : Ex H H') : KnownAt K H' kn l := by
  obtain ⟨kvs, h1, h2, h3, h4, h5⟩ := h.ex
  refine ⟨kvs, e _ _ h1, h2, h3, fun x hx => ?_, h5⟩
  obtain ⟨v, hv, hs⟩ := h4 x hx
  exact ⟨v, hv, hs.ex e⟩
theorem BitsAt.ex' {H H' : Hp} {a : Addr} {es : List Ent} (h : BitsAt P w H a es) (e : Ex H H') : BitsAt P w H' a es := by
  obtain ⟨⟨ob, h1⟩, h2, h3⟩ := h
  exact ⟨⟨ob, e _ _ h1⟩, fun x hx => e _ _ (h2 x hx), h3⟩
theorem IdxAt.ex {H H' : Hp} {a sa ka ba : Addr} {sl : Slots} (h : IdxAt P w K H a sa ka ba sl) (e : Ex H H') : IdxAt P w K H' a sa ka ba sl := by
  obtain ⟨⟨dx, h1⟩, h2, h3, h4, ⟨es, h5, h6, h7⟩, h8, h9⟩ := h
  exact ⟨⟨dx, e _ _ h1⟩, e _ _ h2, h3, h4.ex' e, ⟨es, h5.ex' e, h6, h7⟩, h8, h9⟩
theorem IdxAt.fs (T : Txt K mg) {H : Hp} {a sa ka ba : Addr} {sl : Slots} (h : IdxAt P w K H a sa ka ba sl) : AtF K "_slots" (.ref a) H (.ref sa) := by
  obtain ⟨dx, h1⟩ := h.ob
  exact at_f h1 T.c_Index T.n_Index_slots lk_hd
theorem IdxAt.fk (T : Txt K mg) {H : Hp} {a sa ka ba : Addr} {sl : Slots} (h : IdxAt P w K H a sa ka ba sl) : AtF K "_known" (.ref a) H (.ref ka) := by
  obtain ⟨dx, h1⟩ := h.ob
  exact at_f h1 T.c_Index T.n_Index_known ((lk_tl (by decide +kernel)).trans lk_hd)
theorem IdxAt.fb (T : Txt K mg) {H : Hp} {a sa ka ba : Addr} {sl : Slots} (h : IdxAt P w K H a sa ka ba sl) : AtF K "_bits" (.ref a) H (.ref ba) := by
  obtain ⟨dx, h1⟩ := h.ob
  exact at_f h1 T.c_Index T.n_Index_bits ((lk_tl (by decide +kernel)).trans ((lk_tl (by decide +kernel)).trans lk_hd))
theorem IdxAt.fa (T : Txt K mg) {H : Hp} {a sa ka ba : Addr} {sl : Slots} (h : IdxAt P w K H a sa ka ba sl) : AtF K "_all" (.ref a) H (.int (maskL sl tru : Nat)) := by
  obtain ⟨dx, h1⟩ := h.ob
  exact at_f h1 T.c_Index T.n_Index_all ((lk_tl (by decide +kernel)).trans ((lk_tl (by decide +kernel)).trans ((lk_tl (by decide +kernel)).trans lk_hd)))
theorem IdxAt.is {m : Str} {H : Hp} {a sa ka ba : Addr} {sl : Slots} (h : IdxAt P w K H a sa ka ba sl) (n1 : (m == ("_slots" : Str)) = false := by decide +kernel) (n2 : (m == ("_known" : Str)) = false := by decide +kernel) (n3 : (m == ("_bits" : Str)) = false := by decide +kernel) (n4 : (m == ("_all" : Str)) = false := by decide +kernel) :
    IsIns (He.ga K "Index") m (.ref a) H := by
  obtain ⟨dx, h1⟩ := h.ob
  exact is_ins h1 ((lk_tl n1).trans ((lk_tl n2).trans ((lk_tl n3).trans ((lk_tl n4).trans rfl))))
/-- a new list of the series rows -/
def ToldAt (K : PySem.W.Frag) (H0 H : Hp) (v : V) (rows : List Ser) : Prop := ∃ p vs, v = .ref p ∧ H0 p = none ∧ H p = some (.lst vs) ∧ Paired (SerAt K H) vs rows
def spTold (P : Program) (w : World) (K : PySem.W.Frag) : Sp := fun vs H Q _ => ∃ (a sa ka ba : Addr) (sl : Slots) (p : Ser → Bool), vs = [.ref a, .int (maskL sl p : Nat)] ∧ IdxAt P w K H a sa ka ba sl ∧
  ∀ v rows H', Ex H H' → ToldAt K H H' v rows → rows.Perm ((occ sl).filter p) → RiseTx rows → Q v H'
theorem sc_Index_told : FnScope ["self", "bits", "texts", "slot", "text"] ["self", "bits"] (defScope s_Index_told) := ⟨rfl, rfl, rfl, by decide +kernel, rfl, by decide +kernel, by decide +kernel⟩
theorem ok_Index_told (T : Txt K mg) : GoodM P w K mg base "Index" "_told" 1 ["self", "bits"] (spTold P w K) := by
  obtain ⟨fd, F⟩ := T.f_Index_told
  refine good_of F sc_Index_told (fun vs H Q E h => ?_) (fun _ _ _ _ _ _ us hl => match us, hl with | [_, _], _ => rfl) (fun cdv A outer s H vs Q E hr h => ?_)
  · obtain ⟨a, sa, ka, ba, sl, p, rfl, _⟩ := h
    rfl
  · obtain ⟨a, sa, ka, ba, sl, p, rfl, hi, k⟩ := h
    have hu := hu_of hr
    have f1 := hi.fs T
    have f2 := hi.fk T
    have hsl := hi.slots
    have hsm := hi.small
    refine ⟨_, (pss_cons (ps_setLc (i := 2) (own := [("slot", 3), ("text", 4)]) rfl sc_Index_told.nd rfl rfl (sw_true rfl rfl rfl (by decide +kernel)) (pi_enum rfl T.z_enumerate (pa_cons (pe_fld (pv 0) rfl) pa_nil)) (blkOk_by (N := ["self", "bits", "texts", "slot", "text"]) (sc := defScope s_Index_told) (by decide +kernel)) (fun _ _ _ _ _ => (pg_tupK (K := K) (n := 2) rfl rfl (pgs_cons (pg_name (i := 3) sc_Index_told.nd rfl (Or.inl rfl)) (pgs_cons (pg_name (i := 4) sc_Index_told.nd rfl (Or.inl rfl)) pgs_nil)))) (fun _ _ _ _ _ => (pts_one (pt_cmpR op_eq (pe_op op_andN (pe_op op_shrN (pv 1) (pv 3)) pe_int) pe_int (nomark _)))) (fun _ _ _ _ _ => (pv 4)))
    (pss_one (ps_ret (pe_lc (own := [("text", 4)]) rfl sc_Index_told.nd (pi_list (pe_callB cr_sortedS rfl T.z_sorted (by decide +kernel) (pa_cons (pv 2) pa_nil))) (blkOk_by (N := ["self", "bits", "texts", "slot", "text"]) (sc := defScope s_Index_told) (by decide +kernel)) (fun _ _ _ _ _ => (pg_name (i := 4) sc_Index_told.nd rfl (Or.inl rfl))) (fun _ _ _ _ _ => pts_nil) (fun _ _ _ _ _ => (pe_dget hu (pe_fldK (K := K) rfl (pv 0) rfl) (pv 4) (fun _ _ => rfl))))))), ?_⟩
    walk_at "v"
    intro D hD
    have hocc := occ_len sl
    have hfl := List.length_filter_le p (occ sl)
    refine lc_v walk_enum (atP sl p) (fun i => (sl.map slotV).getD i .non) hD (by rw [List.length_map]; omega) (fun H1 e => SqL.of (e _ _ hsl)) ?_ (fun H1 e1 hd => ?_)
    · rintro N i x Ha Hb hi ea ⟨t, x1, x2, rfl, ht, rfl, e1, e2⟩ hno hyes
      cases e1
      have e3 : (sl.map slotV).getD i .non = x2 := by
        have e2' : (sl.map slotV)[i]? = some x2 := e2
        rw [List.getD_eq_getElem?_getD, e2']
        rfl
      rw [e3] at hyes
      have ht' : upd Ha t (.tup [.int (i : Nat), x2]) t = some (.tup [.int (i : Nat), x2]) := upd_same
      walk_at "v"
      refine ⟨rfl, ?_⟩
      walk_at "v"
      have eb : decide (V.int ((maskL sl p / 2 ^ i &&& 1 : Nat) : Int) = V.int 1) = atP sl p i := by
        rw [← mask_bit, Nat.testBit_eq_decide_div_mod_eq, Nat.and_one_is_mod]
        refine decide_eq_decide.mpr ⟨fun h => ?_, fun h => by rw [h]; rfl⟩
        injection h with h
        omega
      refine r_andN (b := 1) ?_
      walk_at "v"
      rw [eb]
      cases hc : atP sl p i with
      | true =>
        refine iteT ?_
        walk_at "v"
        exact hyes hc _ (Ex.mut (Ex.refl _) ht)
      | false =>
        refine iteF ?_
        exact hno hc _ (Ex.mut (Ex.refl _) ht)
    · have hg : given (sl.map slotV).length (atP sl p) (fun i => (sl.map slotV).getD i .non) = (((occ sl).filter p).map fun s => S (textL s)).map V.str := by
        have key : ∀ sl : Slots, (sl.filter fun o => match o with | some s => p s | none => false).map slotV = (((occ sl).filter p).map fun s => S (textL s)).map V.str := by
          intro sl
          induction sl with
          | nil => rfl
          | cons o r ih =>
            cases o with
            | none =>
              rw [List.filter_cons_of_neg (by simp)]
              exact ih
            | some s =>
              have eo : occ (some s :: r) = s :: occ r := rfl
              rw [eo]
              by_cases c : p s = true
              · rw [List.filter_cons_of_pos (by simpa using c), List.filter_cons_of_pos c, List.map_cons, List.map_cons, List.map_cons, ih]
                rfl
              · rw [List.filter_cons_of_neg (by simpa using c), List.filter_cons_of_neg c, ih]
        rw [List.length_map, given_map sl (fun o => match o with | some s => p s | none => false) slotV]
        · exact key sl
        · intro i h
          unfold atP
          rw [List.getElem?_eq_getElem h]
          cases sl[i] <;> rfl
        · intro i h _
          rw [List.getD_eq_getElem?_getD, List.getElem?_map, List.getElem?_eq_getElem h]
          rfl
      rw [hg] at hd
      walk_at "v"
      refine ⟨D, _, rfl, SqL.of hd, by rw [List.length_map]; omega, fun ys q hperm hsort hq => ?_⟩
      have hnd : (((occ sl).filter p).map textL).Nodup := by
        have h1 : ((occ sl).filter p).Nodup := List.Nodup.sublist List.filter_sublist hi.nd
        rw [List.nodup_iff_pairwise_ne] at h1 ⊢
        rw [List.pairwise_map]
        refine List.Pairwise.imp_of_mem ?_ h1
        intro x y hx hy hne z
        exact hne (textL_inj (hi.sers x (List.mem_filter.mp hx).1) (hi.sers y (List.mem_filter.mp hy).1) z)
      obtain ⟨rows, hrp, hrt, rfl⟩ := rise_of hsort hperm hnd
      obtain ⟨kvs, k1, k2, k3, k4, k5⟩ := hi.known.ex
      have hrl : rows.length ≤ 50 := by
        have := hrp.length_eq
        omega
      have eq1 : Ex H1 (upd H1 q (.lst ((rows.map fun s => S (textL s)).map V.str))) := Ex.mut (Ex.refl _) hq
      have e0 := e1.trans eq1
      walk_at "v"
      intro D2 hD2
      have hrow : ∀ x ∈ rows, ∃ v, valV kvs (.inr (S (textL x))) = some v ∧ SerAt K H v x := fun x hx => k4 x (List.mem_filter.mp (hrp.mem_iff.mp hx)).1
      refine lc_v walk_list (fun _ => true) (fun i => (rows.map fun x => (valV kvs (.inr (S (textL x)))).getD .non).getD i .non) hD2 (by rw [List.length_map, List.length_map]; omega) (fun H2 e2 => SqL.of (e2 _ _ upd_same)) ?_ (fun H2 e2 hd2 => ?_)
      · rintro N i x Ha Hb hi2 ea ⟨rfl, hx⟩ _ hyes
        obtain ⟨rw_, hrw, rfl⟩ : ∃ r, rows[i]? = some r ∧ x = vS (textL r) := by
          rw [List.map_map, List.getElem?_map] at hx
          cases e : rows[i]? with
          | none =>
            rw [e] at hx
            cases hx
          | some r =>
            rw [e] at hx
            exact ⟨r, rfl, (Option.some.inj hx).symm⟩
        obtain ⟨v, hv, hsv⟩ := hrow rw_ (List.mem_of_getElem? hrw)
        have f2' := (hi.ex (e0.trans ea)).fk T
        have k1' := (e0.trans ea) _ _ k1
        have q2 := hyes rfl Hb (Ex.refl _)
        rw [List.getD_eq_getElem?_getD, List.getElem?_map, hrw] at q2
        simp only [Option.map_some, Option.getD_some, hv] at q2
        walk_at "v"
        refine ⟨rfl, yes_ ?_⟩
        walk_at "v"
        exact x_dget k1' hv q2
      · have hg2 : given ((rows.map fun s => S (textL s)).map V.str).length (fun _ => true) (fun i => (rows.map fun x => (valV kvs (.inr (S (textL x)))).getD .non).getD i .non) = rows.map fun x => (valV kvs (.inr (S (textL x)))).getD .non := by
          rw [List.length_map, List.length_map, given_all rows (fun x => (valV kvs (.inr (S (textL x)))).getD .non)]
          intro i h
          rw [List.getD_eq_getElem?_getD, List.getElem?_map, List.getElem?_eq_getElem h]
          rfl
        rw [hg2] at hd2
        have e3 := e0.trans e2
        refine k (.ref D2) rows H2 e3 ⟨D2, _, rfl, ?_, hd2, ?_⟩ hrp hrt
        · cases q' : H D2 with
          | none => rfl
          | some o =>
            rw [e0 _ _ q'] at hD2
            cases hD2
        · have key : ∀ l : List Ser, (∀ x ∈ l, ∃ v, valV kvs (.inr (S (textL x))) = some v ∧ SerAt K H v x) → Paired (SerAt K H2) (l.map fun x => (valV kvs (.inr (S (textL x)))).getD .non) l := by
            intro l
            induction l with
            | nil => exact fun _ => .nil
            | cons x l ih =>
              intro h
              obtain ⟨v, hv, hs⟩ := h x (by simp)
              refine .cons ?_ (ih fun y hy => h y (by simp [hy]))
              show SerAt K H2 ((valV kvs (.inr (S (textL x)))).getD .non) x
              rw [hv]
              exact hs.ex e3
          exact key rows hrow
end
end
set_option Elab.async false
set_option linter.all false
set_option maxRecDepth 100000
set_option maxHeartbeats 4000000
/-! The index: series, chosen, of_tag. -/
section
open PySem PySem.Spec PyProof.Rows L2
open Evl (Ex given)

section
variable {P : Program} {w : World} {K : PySem.W.Frag} {mg : Str → Option Value} {base : Heap}
/-- a told list of what passes p -/
def Tells (K : PySem.W.Frag) (H : Hp) (sl : Slots) (p : Ser → Bool) (Q : VK) : Prop := ∀ v rows H', Ex H H' → ToldAt K H H' v rows → rows.Perm ((occ sl).filter p) → RiseTx rows → Q v H'
theorem ToldAt.mono {K : PySem.W.Frag} {H0 H1 H : Hp} {v : V} {rows : List Ser} (e : Ex H0 H1) (h : ToldAt K H1 H v rows) : ToldAt K H0 H v rows := by
  obtain ⟨p, vs, rfl, h1, h2, h3⟩ := h
  refine ⟨p, vs, rfl, ?_, h2, h3⟩
  cases q : H0 p with
  | none => rfl
  | some o =>
    rw [e _ _ q] at h1
    cases h1
theorem Tells.go {K : PySem.W.Frag} {H H1 : Hp} {sl : Slots} {p : Ser → Bool} {Q : VK} (h : Tells K H sl p Q) (e : Ex H H1) : ∀ v rows H', Ex H1 H' → ToldAt K H1 H' v rows → rows.Perm ((occ sl).filter p) → RiseTx rows → Q v H' :=
  fun v rows H' e' t h1 h2 => h v rows H' (e.trans e') (t.mono e) h1 h2
def spIdx (P : Program) (w : World) (K : PySem.W.Frag) : Sp := fun vs H Q _ => ∃ (a sa ka ba : Addr) (sl : Slots), vs = [.ref a] ∧ IdxAt P w K H a sa ka ba sl ∧ Tells K H sl tru Q
theorem sc_Index_series : FnScope ["self"] ["self"] (defScope s_Index_series) := ⟨rfl, rfl, rfl, by decide +kernel, rfl, by decide +kernel, by decide +kernel⟩
theorem ok_Index_series (T : Txt K mg) : GoodM P w K mg base "Index" "series" 2 ["self"] (spIdx P w K) := by
  have G_Index_told := ok_Index_told (P := P) (w := w) (base := base) T
  obtain ⟨fd, F⟩ := T.f_Index_series
  refine good_of F sc_Index_series (fun vs H Q E h => ?_) (fun _ _ _ _ _ _ us hl => match us, hl with | [_], _ => rfl) (fun cdv A outer s H vs Q E hr h => ?_)
  · obtain ⟨a, sa, ka, ba, sl, rfl, _⟩ := h
    rfl
  · obtain ⟨a, sa, ka, ba, sl, rfl, hi, k⟩ := h
    have fa := hi.fa T
    refine ⟨_, (pss_one (ps_ret (pmeth (pv 0) T.c_Index T.m_Index_told G_Index_told hr (pa_cons (pe_fld (pv 0) rfl) pa_nil)))), ?_⟩
    walk_at "v"
    refine ⟨hi.is, ?_⟩
    walk_at "v"
    exact ⟨a, sa, ka, ba, sl, tru, rfl, hi, fun v rows H' e t h1 h2 => k v rows H' e t h1 h2⟩
def spMeant (P : Program) (w : World) (K : PySem.W.Frag) (n : Nat) : Sp := fun vs H Q _ => ∃ (a sa ka ba : Addr) (sl : Slots) (tv : V) (m : Mn) (N : Addr → Prop), vs = [.ref a, tv] ∧ IdxAt P w K H a sa ka ba sl ∧ TrP K N H n tv m ∧ ∀ H', Ex H H' → Q (.int (maskL sl m : Nat)) H'
theorem sc_Index_meant : FnScope ["self", "tree", "sign", "parts", "found", "bits", "more", "part"] ["self", "tree"] (defScope s_Index_meant) := ⟨rfl, rfl, rfl, by decide +kernel, rfl, by decide +kernel, by decide +kernel⟩
theorem meant_step (T : Txt K mg) {k : Nat} {d : Nat} {sp0 : Sp} (G_Index_meant : GoodM P w K mg base "Index" "_meant" k ["self", "tree"] sp0) (hsp : d = 0 ∨ ∃ d', d = d' + 1 ∧ sp0 = spMeant P w K d') :
    GoodM P w K mg base "Index" "_meant" (k + 1) ["self", "tree"] (spMeant P w K d) := by
  obtain ⟨fd, F⟩ := T.f_Index_meant
  refine good_of F sc_Index_meant (fun vs H Q E h => ?_) (fun _ _ _ _ _ _ us hl => match us, hl with | [_, _], _ => rfl) (fun cdv A outer s H vs Q E hr h => ?_)
  · obtain ⟨a, sa, ka, ba, sl, tv, m, N, rfl, _⟩ := h
    rfl
  · obtain ⟨a, sa, ka, ba, sl, tv, m, N, rfl, hi, ht, k⟩ := h
    have hu := hu_of hr
    have fa := hi.fa T
    have fb := hi.fb T
    refine ⟨_, (pss_cons (ps_if (pt_val (pe_callB call_isi rfl T.z_isinstance (by decide +kernel) (pa_cons (pv 1) (pa_cons (pe_gref T.g_Test) pa_nil)))) (pss_one (ps_ret (pe_ifExp (pt_cmpR op_isN1 (pe_fld (pv 1) rfl) pe_non (nomark _)) (pe_fld (pv 0) rfl) (pe_bget2 hu (pe_fld (pv 0) rfl) (pe_tup (pa_cons (pe_fld (pv 1) rfl) (pa_cons (pe_fld (pv 1) rfl) pa_nil))) pe_int)))) pss_nil)
    (pss_cons (ps_asg (pv 1) (pg_tup rfl (pgs_cons (pg_name (i := 2) sc_Index_meant.nd rfl (Or.inl rfl)) (pgs_cons (pg_name (i := 3) sc_Index_meant.nd rfl (Or.inl rfl)) pgs_nil))))
    (pss_cons (ps_setLc (i := 4) (own := [("part", 7)]) rfl sc_Index_meant.nd rfl rfl (sw_true rfl rfl rfl (by decide +kernel)) (pi_list (pv 3)) (blkOk_by (N := ["self", "tree", "sign", "parts", "found", "bits", "more", "part"]) (sc := defScope s_Index_meant) (by decide +kernel)) (fun _ _ _ _ _ => (pg_name (i := 7) sc_Index_meant.nd rfl (Or.inl rfl))) (fun _ _ _ _ _ => pts_nil) (fun _ _ _ _ _ => (pmeth (pv 0) T.c_Index T.m_Index_meant G_Index_meant hr (pa_cons (pv 7) pa_nil))))
    (pss_cons (ps_if (pt_cmpR op_eq (pv 2) (pe_kstr (T.k_NOT)) (nomark _)) (pss_one (ps_ret (pe_op op_xorN (pe_fld (pv 0) rfl) (pe_ix ix_list (pv 4) pe_int (fun _ _ => rfl))))) pss_nil)
    (pss_cons (ps_set (i := 5) sc_Index_meant.nd rfl (Or.inl rfl) (pe_ix ix_list (pv 4) pe_int (fun _ _ => rfl)))
    (pss_cons (ps_for PassesOwn.never rfl (pi_list (pe_slice sl_list (pv 4) (po_some pe_int) po_none)) (pg_name (i := 6) sc_Index_meant.nd rfl (Or.inl rfl))
    (pss_one (ps_set (i := 5) sc_Index_meant.nd rfl (Or.inl rfl) (pe_ifExp (pt_cmpR op_eq (pv 2) (pe_kstr (T.k_AND)) (nomark _)) (pe_op op_andN (pv 5) (pv 6)) (pe_op op_orN (pv 5) (pv 6))))))
    (pss_one (ps_ret (pv 5))))))))), ?_⟩
    walk_at "v"
    have cases : TeAt K H tv m ∨ ∃ d', d = d' + 1 ∧ sp0 = spMeant P w K d' ∧ ∃ a l, tv = .ref a ∧ N l ∧ ((∃ u m', H a = some (.tup [.str "!", .ref l]) ∧ H l = some (.lst [u]) ∧ TrP K N H d' u m' ∧ m = fun s => !m' s) ∨
      ∃ (b : Bool) (xs : List (V × Mn)), H a = some (.tup [.str (if b = true then "&" else "|"), .ref l]) ∧ H l = some (.lst (xs.map (·.1))) ∧ 1 < xs.length ∧ xs.length ≤ 1000 ∧ (∀ x ∈ xs, TrP K N H d' x.1 x.2) ∧ m = if b = true then allM (xs.map (·.2)) else anyM (xs.map (·.2))) := by
      rcases hsp with rfl | ⟨d', rfl, h0⟩
      · exact .inl ht
      · rcases ht with ht | ht
        · exact .inl ht
        · exact .inr ⟨d', rfl, h0, ht⟩
    rcases cases with ⟨ta, dx, kv, wv, rfl, ha, hm⟩ | ⟨d', rfl, rfl, ta, l, rfl, hN, h⟩
    · have f1 : AtF K "key" (.ref ta) H kv := at_f ha T.c_Test T.n_Test_key lk_hd
      have f2 : AtF K "word" (.ref ta) H wv := at_f ha T.c_Test T.n_Test_word ((lk_tl (by decide +kernel)).trans lk_hd)
      refine ⟨_, _, _, _, true, rfl, .own _, T.tyIns (by decide +kernel) T.c_Test ha, kit_self _, ?_⟩
      walk_at "v"
      obtain ⟨es, B, _, hb⟩ := hi.bits.ex
      have get : ∀ (k : List Nat) (o : Option (List Nat)), m = markP (k, o) → bD es (k, o) (.int 0) = .int (maskL sl m : Nat) := by
        intro k o em
        have q := hb (k, o)
        rw [em]
        by_cases c : maskL sl (markP (k, o)) = 0
        · rw [if_pos c] at q
          rw [bD_none q, c]
          rfl
        · rw [if_neg c] at q
          rw [bD_some q]
      rcases hm with ⟨rfl, rfl, rfl⟩ | ⟨kk, rfl, rfl, hkk, em⟩ | ⟨kk, x, rfl, rfl, hkk, hx, em⟩
      · rw [show decide (V.non = V.non) = true from rfl]
        walk_at "v"
        exact k H (Ex.refl _)
      · rw [show decide (vS kk = V.non) = false from rfl]
        walk_at "v"
        intro t ht
        walk_at "v"
        have et : Ex H (upd H t (.tup [vS kk, .non])) := Ex.mut (Ex.refl _) ht
        refine ⟨t, es, (kk, none), rfl, B.ex' et, upd_same, ?_⟩
        rw [get kk none em]
        exact k _ et
      · rw [show decide (vS kk = V.non) = false from rfl]
        walk_at "v"
        intro t ht
        walk_at "v"
        have et : Ex H (upd H t (.tup [vS kk, vS x])) := Ex.mut (Ex.refl _) ht
        refine ⟨t, es, (kk, some x), rfl, B.ex' et, upd_same, ?_⟩
        rw [get kk (some x) em]
        exact k _ et
    · have key : ∃ (sg : Str) (x0 : V × Mn) (xr : List (V × Mn)), H ta = some (.tup [.str sg, .ref l]) ∧ H l = some (.lst ((x0 :: xr).map (·.1))) ∧ (x0 :: xr).length ≤ 1000 ∧ (∀ x ∈ x0 :: xr, TrP K N H d' x.1 x.2) ∧
          ((sg = "!" ∧ m = fun s => !x0.2 s) ∨ (sg = "&" ∧ m = allM ((x0 :: xr).map (·.2))) ∨ (sg = "|" ∧ m = anyM ((x0 :: xr).map (·.2)))) := by
        rcases h with ⟨u0, m', ha, hl, ht0, rfl⟩ | ⟨b, xs, ha, hl, h1, h2, h3, rfl⟩
        · exact ⟨_, (u0, m'), [], ha, hl, by show 1 ≤ 1000; decide, fun x hx => by rw [List.mem_singleton] at hx; subst hx; exact ht0, .inl ⟨rfl, rfl⟩⟩
        · cases xs with
          | nil => exact absurd h1 (by simp)
          | cons x0 xr =>
            refine ⟨_, x0, xr, ha, hl, h2, h3, ?_⟩
            cases b with
            | true => exact .inr (.inl ⟨rfl, rfl⟩)
            | false => exact .inr (.inr ⟨rfl, rfl⟩)
      obtain ⟨sg, x0, xr, ha, hl, hlen, h3, hm⟩ := key
      refine ⟨_, _, _, _, false, rfl, .own _, .base (.tup ha), T.kitf (by decide +kernel) (by decide), ?_⟩
      walk_at "v"
      intro D hD
      refine lc_v walk_list (fun _ => true) (fun i => ((x0 :: xr).map fun x => V.int (maskL sl x.2 : Nat)).getD i .non) hD (by rw [List.length_map]; omega) (fun H1 e1 => SqL.of (e1 _ _ hl)) ?_ (fun H1 e1 hd => ?_)
      · rintro n i x H1 H2 hi2 e1 ⟨rfl, hx⟩ _ hyes
        rw [List.getElem?_map] at hx
        cases ex : (x0 :: xr)[i]? with
        | none =>
          rw [ex] at hx
          cases hx
        | some y =>
          rw [ex] at hx
          have hx' : y.1 = x := Option.some.inj hx
          subst hx'
          have hi3 := hi.ex e1
          walk_at "v"
          refine ⟨rfl, yes_ ?_⟩
          walk_at "v"
          refine ⟨hi3.is, ?_⟩
          walk_at "v"
          refine ⟨a, sa, ka, ba, sl, y.1, y.2, N, rfl, hi3, (h3 y (List.mem_of_getElem? ex)).ex e1, fun H3 e3 => ?_⟩
          have q := hyes rfl H3 e3
          rw [List.getD_eq_getElem?_getD, List.getElem?_map, ex] at q
          exact q
      · have hg : given ((x0 :: xr).map (·.1)).length (fun _ => true) (fun i => ((x0 :: xr).map fun x => V.int (maskL sl x.2 : Nat)).getD i .non) = (x0 :: xr).map fun x => V.int (maskL sl x.2 : Nat) := by
          rw [List.length_map, given_all (x0 :: xr) (fun x => V.int (maskL sl x.2 : Nat))]
          intro i hi
          rw [List.getD_eq_getElem?_getD, List.getElem?_map, List.getElem?_eq_getElem hi]
          rfl
        rw [hg] at hd
        have fa1 := (hi.ex e1).fa T
        walk_at "v"
        have q := k H1 e1
        have i0 : atI ((x0 :: xr).map fun x => V.int (maskL sl x.2 : Nat)) 0 = some (.int (maskL sl x0.2 : Nat)) := atI_nat (j := 0) rfl
        have loop : ∀ (op : Nat → Nat → Nat) (cm : (Ser → Bool) → (Ser → Bool) → Ser → Bool), (∀ p q, op (maskL sl p) (maskL sl q) = maskL sl (cm p q)) →
            ∀ i, i < xr.length → ∀ y, xr[i]? = some y → op (maskL sl (((xr.take i).map (·.2)).foldl cm x0.2)) (maskL sl y.2) = maskL sl (((xr.take (i + 1)).map (·.2)).foldl cm x0.2) := by
          intro op cm hop i hi y hy
          rw [hop]
          obtain ⟨h1, h2⟩ := List.getElem?_eq_some_iff.mp hy
          rw [← List.take_append_getElem h1, h2, List.map_append, List.foldl_append]
          rfl
        rcases hm with ⟨rfl, rfl⟩ | ⟨rfl, rfl⟩ | ⟨rfl, rfl⟩
        · rw [show decide (V.str "!" = V.str "!") = true from by decide +kernel]
          walk_at "v"
          refine r_ixL (SqL.of hd) i0 ?_
          walk_at "v"
          have em := mask_not sl x0.2
          rw [← em] at q
          exact q
        · rw [show decide (V.str "&" = V.str "!") = false from by decide +kernel]
          walk_at "v"
          refine r_ixL (SqL.of hd) i0 ?_
          walk_at "v"
          intro q1 hq1
          rw [cutV_from1]
          have eq1 : Ex H1 (upd H1 q1 (.lst (((x0 :: xr).map fun x => V.int (maskL sl x.2 : Nat)).drop 1))) := Ex.mut (Ex.refl _) hq1
          walk_at "v"
          refine for_it (walk_list (xs := xr.map fun x => V.int (maskL sl x.2 : Nat))) (fun i σ H' => Ex H1 H' ∧ H' q1 = some (.lst (xr.map fun x => V.int (maskL sl x.2 : Nat))) ∧ ∃ o, σ = [some (.ref a), some (.ref ta), some (.str "&"), some (.ref l), some (.ref D), some (.int (maskL sl (((xr.take i).map (·.2)).foldl (fun p q s => p s && q s) x0.2) : Nat)), o, none])
            ⟨eq1, upd_same, none, rfl⟩ (fun _ _ H' _ p => SqL.of p.2.1) ?_ ?_
          · rintro i x σ Ha Hb hi2 ⟨ea, hqa, o, rfl⟩ ⟨rfl, hx⟩
            obtain ⟨y, hy, rfl⟩ : ∃ y, xr[i]? = some y ∧ x = V.int (maskL sl y.2 : Nat) := by
              rw [List.getElem?_map] at hx
              cases e : xr[i]? with
              | none =>
                rw [e] at hx
                cases hx
              | some y =>
                rw [e] at hx
                exact ⟨y, rfl, (Option.some.inj hx).symm⟩
            have hl2 := loop (· &&& ·) (fun p q s => p s && q s) (mask_and sl) i (by rw [List.length_map] at hi2; exact hi2) y hy
            walk_at "v"
            rw [show decide (V.str "&" = V.str "&") = true from by decide +kernel]
            walk_at "v"
            refine ⟨ea, hqa, some (V.int (maskL sl y.2 : Nat)), ?_⟩
            rw [← hl2]
            rfl
          · rintro σ Ha ⟨ea, hqa, o, rfl⟩
            rw [List.length_map, List.take_length]
            walk_at "v"
            have q := k Ha (e1.trans ea)
            have em : ((xr.map (·.2)).foldl (fun p q s => p s && q s) x0.2) = allM ((x0 :: xr).map (·.2)) := by
              funext s
              have key : ∀ (l : List Mn) (p : Mn), (l.foldl (fun p q s => p s && q s) p) s = allM (p :: l) s := by
                intro l
                induction l with
                | nil => intro p; simp [allM]
                | cons y l ih =>
                  intro p
                  rw [List.foldl_cons, ih]
                  simp [allM, Bool.and_assoc]
              exact key _ _
            rw [em]
            exact q
        · rw [show decide (V.str "|" = V.str "!") = false from by decide +kernel]
          walk_at "v"
          refine r_ixL (SqL.of hd) i0 ?_
          walk_at "v"
          intro q1 hq1
          rw [cutV_from1]
          have eq1 : Ex H1 (upd H1 q1 (.lst (((x0 :: xr).map fun x => V.int (maskL sl x.2 : Nat)).drop 1))) := Ex.mut (Ex.refl _) hq1
          walk_at "v"
          refine for_it (walk_list (xs := xr.map fun x => V.int (maskL sl x.2 : Nat))) (fun i σ H' => Ex H1 H' ∧ H' q1 = some (.lst (xr.map fun x => V.int (maskL sl x.2 : Nat))) ∧ ∃ o, σ = [some (.ref a), some (.ref ta), some (.str "|"), some (.ref l), some (.ref D), some (.int (maskL sl (((xr.take i).map (·.2)).foldl (fun p q s => p s || q s) x0.2) : Nat)), o, none])
            ⟨eq1, upd_same, none, rfl⟩ (fun _ _ H' _ p => SqL.of p.2.1) ?_ ?_
          · rintro i x σ Ha Hb hi2 ⟨ea, hqa, o, rfl⟩ ⟨rfl, hx⟩
            obtain ⟨y, hy, rfl⟩ : ∃ y, xr[i]? = some y ∧ x = V.int (maskL sl y.2 : Nat) := by
              rw [List.getElem?_map] at hx
              cases e : xr[i]? with
              | none =>
                rw [e] at hx
                cases hx
              | some y =>
                rw [e] at hx
                exact ⟨y, rfl, (Option.some.inj hx).symm⟩
            have hl2 := loop (· ||| ·) (fun p q s => p s || q s) (mask_or sl) i (by rw [List.length_map] at hi2; exact hi2) y hy
            walk_at "v"
            rw [show decide (V.str "|" = V.str "&") = false from by decide +kernel]
            walk_at "v"
            refine ⟨ea, hqa, some (V.int (maskL sl y.2 : Nat)), ?_⟩
            rw [← hl2]
            rfl
          · rintro σ Ha ⟨ea, hqa, o, rfl⟩
            rw [List.length_map, List.take_length]
            walk_at "v"
            have q := k Ha (e1.trans ea)
            have em : ((xr.map (·.2)).foldl (fun p q s => p s || q s) x0.2) = anyM ((x0 :: xr).map (·.2)) := by
              funext s
              have key : ∀ (l : List Mn) (p : Mn), (l.foldl (fun p q s => p s || q s) p) s = anyM (p :: l) s := by
                intro l
                induction l with
                | nil => intro p; simp [anyM]
                | cons y l ih =>
                  intro p
                  rw [List.foldl_cons, ih]
                  simp [anyM, Bool.or_assoc]
              exact key _ _
            rw [em]
            exact q
theorem no_meant (T : Txt K mg) : GoodM P w K mg base "Index" "_meant" 1 ["self", "tree"] (fun _ _ _ _ => False) := by
  obtain ⟨fd, F⟩ := T.f_Index_meant
  exact good_of F sc_Index_meant (fun vs H Q E h => h.elim) (fun _ _ _ _ _ _ us hl => match us, hl with | [_, _], _ => rfl) (fun cdv A outer s H vs Q E hr h => h.elim)
theorem ok_Index_meant (T : Txt K mg) : ∀ d, GoodM P w K mg base "Index" "_meant" (2 + d) ["self", "tree"] (spMeant P w K d) := by
  intro d
  induction d with
  | zero => exact meant_step T (no_meant T) (.inl rfl)
  | succ d ih => exact (meant_step T (k := 2 + d) (d := d + 1) ih (.inr ⟨d, rfl, rfl⟩)).mono (by omega)
end
end
set_option Elab.async false
set_option linter.all false
set_option maxRecDepth 100000
set_option maxHeartbeats 4000000
/-! The index: chosen, of_tag, words. -/
section
open PySem PySem.Spec PyProof.Rows L2
open Evl (Ex given)

section
variable {X : Cx} {k j : Nat} {f C : Addr} {ps : List Str} {sp : Sp} {x : Str} {p pos : Pos} {e : Expr} {es : List Expr} {t : TA} {E : XK}
/-- a call that may raise -/
theorem pcallX (G : Good X.prog X.w X.K X.mg X.base f k ps sp) (hr : Room j X.A) (hm : X.mg x = some (.ref f)) (tk : Takes X (fun c d _ H => E c d H)) (ha : PA X (e :: es) t) (hj : k ≤ j := by first | decide | omega) (hg : Gl X x := by rfl)
    (hdb : (x == ("__debug__" : Str)) = false := by decide) (he : starEach (e :: es) X.env = (false, eval e X.env) :: starEach es X.env := by rfl) (hpl : (backTo pos (starEach es X.env)).any (·.1) = false := by rfl) :
    PE X (.Call (.Name x p) (e :: es) [] pos) (tCall sp [] E t) := by
  obtain ⟨⟨fd, F, b, _⟩, kp⟩ := G
  exact pe_call F (hr.mono hj) hg hm kp b .nil (passes_call tk fun _ _ _ _ h => h) ha hdb he hpl
end
section
variable {P : Program} {w : World} {K : PySem.W.Frag} {mg : Str → Option Value} {base : Heap}
def SelAt (K : PySem.W.Frag) (H : Hp) (v : V) (m : Mn) : Prop := ∃ a dx tv N, v = .ref a ∧ H a = some (.ins (He.ga K "Selection") dx [("tree", tv)]) ∧ TrP K N H 9 tv m
theorem SelAt.ex {H H' : Hp} {v : V} {m : Mn} (h : SelAt K H v m) (e : Ex H H') : SelAt K H' v m := by
  obtain ⟨a, dx, tv, N, h1, h2, h3⟩ := h
  exact ⟨a, dx, tv, N, h1, e _ _ h2, h3.ex e⟩
def spChosen (P : Program) (w : World) (K : PySem.W.Frag) : Sp := fun vs H Q E => ∃ (a sa ka ba : Addr) (sl : Slots) (v : V), vs = [.ref a, v] ∧ IdxAt P w K H a sa ka ba sl ∧ ((∃ m, SelAt K H v m ∧ Tells K H sl m Q) ∨ (Bi K H v ∧ Thrown K "InvalidSelection" v H E))
theorem sc_Index_chosen : FnScope ["self", "selection"] ["self", "selection"] (defScope s_Index_chosen) := ⟨rfl, rfl, rfl, by decide +kernel, rfl, by decide +kernel, by decide +kernel⟩
theorem ok_Index_chosen (T : Txt K mg) : GoodM P w K mg base "Index" "chosen" 12 ["self", "selection"] (spChosen P w K) := by
  have G_check_selection := ok_check_selection (P := P) (w := w) (base := base) T
  have G_Index_told := ok_Index_told (P := P) (w := w) (base := base) T
  have G_Index_meant : GoodM P w K mg base "Index" "_meant" 11 ["self", "tree"] (spMeant P w K 9) := ok_Index_meant (P := P) (w := w) (base := base) T 9
  obtain ⟨fd, F⟩ := T.f_Index_chosen
  refine good_ofX F sc_Index_chosen (fun vs H Q E h => ?_) (fun _ _ _ _ _ _ us hl => match us, hl with | [_, _], _ => rfl) (fun cdv A outer s H vs Q E hr h => ?_)
  · obtain ⟨a, sa, ka, ba, sl, v, rfl, _⟩ := h
    rfl
  · obtain ⟨a, sa, ka, ba, sl, v, rfl, hi, h⟩ := h
    refine ⟨_, (pss_cons (ps_expr (pcallX G_check_selection hr T.g_check_selection (takes_of rfl rfl rfl rfl) (pa_cons (pv 1) pa_nil)))
    (pss_one (ps_ret (pmeth (pv 0) T.c_Index T.m_Index_told G_Index_told hr (pa_cons (pmeth (pv 0) T.c_Index T.m_Index_meant G_Index_meant hr (pa_cons (pe_fld (pv 1) rfl) pa_nil)) pa_nil))))), ?_⟩
    walk_at "v"
    rcases h with ⟨m, ⟨sa', dx, tv, N, rfl, hs, ht⟩, k⟩ | ⟨hb, k⟩
    · refine ⟨_, rfl, .inl ⟨sa', dx, _, rfl, hs, ?_⟩⟩
      have f1 : AtF K "tree" (.ref sa') H tv := at_f hs T.c_Selection T.n_Selection_tree lk_hd
      walk_at "v"
      refine ⟨hi.is, ?_⟩
      walk_at "v"
      refine ⟨hi.is, ?_⟩
      walk_at "v"
      refine ⟨a, sa, ka, ba, sl, tv, m, N, rfl, hi, ht, fun H1 e1 => ?_⟩
      walk_at "v"
      exact ⟨a, sa, ka, ba, sl, m, rfl, hi.ex e1, k.go e1⟩
    · exact ⟨_, rfl, .inr ⟨hb, k⟩⟩
def BadOf (K : PySem.W.Frag) (f : Str → Bool) (H : Hp) (v : V) : Prop := (∃ z, v = .str z ∧ z.length ≤ 100000 ∧ f z = false) ∨ NoStr K H v
theorem NoStr.ex {H H' : Hp} {v : V} (h : NoStr K H v) (e : Ex H H') : NoStr K H' v := by
  obtain ⟨n, t, k⟩ := h
  refine ⟨n, ?_, k⟩
  cases t with
  | base h =>
    refine .base ?_
    cases h with
    | non => exact .non
    | bl x => exact .bl x
    | int x => exact .int x
    | str x => exact .str x
    | flt x => exact .flt x
    | lst h => exact .lst (e _ _ h)
    | frz h => exact .frz (e _ _ h)
    | tup h => exact .tup (e _ _ h)
    | dK h => exact .dK (e _ _ h)
    | dT h => exact .dT (e _ _ h)
  | byt b => exact .byt b
  | set h => exact .set (e _ _ h)
  | kList h c => exact .kList h c
  | kTuple h c => exact .kTuple h c
  | kDict h c => exact .kDict h c
  | fTuple h => exact .fTuple (e _ _ h)
  | fDict h => exact .fDict (e _ _ h)
def spOfTag (P : Program) (w : World) (K : PySem.W.Frag) : Sp := fun vs H Q E => ∃ (a sa ka ba : Addr) (sl : Slots) (kv wv : V), vs = [.ref a, kv, wv] ∧ IdxAt P w K H a sa ka ba sl ∧
  ((∃ k, kv = vS k ∧ isName (S k) = true ∧ ((∃ x, wv = vS x ∧ isWord (S x) = true ∧ Tells K H sl (fun s => decide (wordOf s k = some x)) Q) ∨ (BadOf K isWord H wv ∧ Thrown K "InvalidWord" wv H E))) ∨ (BadOf K isName H kv ∧ Thrown K "InvalidName" kv H E))
theorem check_bad {v : V} {H : Hp} {Q : VK} {E : XK} (h : BadOf K isName H v) (t : Thrown K "InvalidName" v H E) : spCheckName K [v] H Q E := by
  rcases h with ⟨z, rfl, hz, hf⟩ | h
  · refine ⟨_, rfl, .inl ⟨z, rfl, hz, ?_⟩⟩
    rw [hf]
    exact t
  · exact ⟨_, rfl, .inr ⟨h, t⟩⟩
theorem check_good {k : List Nat} {H : Hp} {Q : VK} {E : XK} (h : isName (S k) = true) (q : ∀ H', Ex H H' → Q .non H') : spCheckName K [vS k] H Q E := by
  refine ⟨_, rfl, .inl ⟨S k, rfl, ?_, ?_⟩⟩
  · have := name_len h
    rw [S_len]
    omega
  · rw [h]
    exact q
theorem sc_Index_of_tag : FnScope ["self", "key", "word"] ["self", "key", "word"] (defScope s_Index_of_tag) := ⟨rfl, rfl, rfl, by decide +kernel, rfl, by decide +kernel, by decide +kernel⟩
theorem ok_Index_of_tag (T : Txt K mg) : GoodM P w K mg base "Index" "of_tag" 5 ["self", "key", "word"] (spOfTag P w K) := by
  have G_check_name := ok_check_name (P := P) (w := w) (base := base) T
  have G_is_word := ok_is_word (P := P) (w := w) (base := base) T
  have G_Index_told := ok_Index_told (P := P) (w := w) (base := base) T
  have G_InvalidWord_init := ok_InvalidWord_init (P := P) (w := w) (base := base) T
  obtain ⟨fd, F⟩ := T.f_Index_of_tag
  refine good_ofX F sc_Index_of_tag (fun vs H Q E h => ?_) (fun _ _ _ _ _ _ us hl => match us, hl with | [_, _, _], _ => rfl) (fun cdv A outer s H vs Q E hr h => ?_)
  · obtain ⟨a, sa, ka, ba, sl, kv, wv, rfl, _⟩ := h
    rfl
  · obtain ⟨a, sa, ka, ba, sl, kv, wv, rfl, hi, h⟩ := h
    have hu := hu_of hr
    refine ⟨_, (pss_cons (ps_expr (pcallX G_check_name hr T.g_check_name (takes_of rfl rfl rfl rfl) (pa_cons (pv 1) pa_nil)))
    (pss_cons (ps_if (pt_not (pt_val (pcall G_is_word hr T.g_is_word (pa_cons (pv 2) pa_nil)))) (pss_one (ps_raise rfl (takes_of rfl rfl rfl rfl) (pmk_gx T.gx_InvalidWord G_InvalidWord_init hr T.g_InvalidWord (pa_cons (pv 2) pa_nil)))) pss_nil)
    (pss_one (ps_ret (pmeth (pv 0) T.c_Index T.m_Index_told G_Index_told hr (pa_cons (pe_bget2 hu (pe_fld (pv 0) rfl) (pe_tup (pa_cons (pv 1) (pa_cons (pv 2) pa_nil))) pe_int) pa_nil)))))), ?_⟩
    walk_at "v"
    rcases h with ⟨kk, rfl, hk, h⟩ | ⟨hb, k⟩
    · refine check_good hk fun H1 e1 => ?_
      have hi1 := hi.ex e1
      walk_at "v"
      rcases h with ⟨x, rfl, hx, k⟩ | ⟨hb, k⟩
      · refine u_of (by rw [S_len]; have := word_len hx; omega) fun H2 e2 => ?_
        rw [hx]
        have hi2 := hi1.ex e2
        have fb := hi2.fb T
        obtain ⟨es, B, _, hb⟩ := hi2.bits.ex
        walk_at "v"
        refine ⟨hi2.is, ?_⟩
        walk_at "v"
        intro t ht
        have et : Ex H2 (upd H2 t (.tup [vS kk, vS x])) := Ex.mut (Ex.refl _) ht
        walk_at "v"
        refine ⟨t, es, (kk, some x), rfl, B.ex' et, upd_same, ?_⟩
        walk_at "v"
        have q := hb (kk, some x)
        have eb : bD es (kk, some x) (.int 0) = .int (maskL sl (fun s => decide (wordOf s kk = some x)) : Nat) := by
          by_cases c : maskL sl (markP (kk, some x)) = 0
          · rw [if_pos c] at q
            rw [bD_none q]
            have c' : maskL sl (fun s => decide (wordOf s kk = some x)) = 0 := c
            rw [c']
            rfl
          · rw [if_neg c] at q
            rw [bD_some q]
            rfl
        rw [eb]
        exact ⟨a, sa, ka, ba, sl, _, rfl, hi2.ex et, k.go ((e1.trans e2).trans et)⟩
      · have fin : ∀ H2, Ex H1 H2 → ∀ d, H2 d = none → E (.ref (He.ga K "InvalidWord")) (some d) (upd H2 d (.xd [(("given" : Str), wv)])) := fun H2 e2 d hd => Thrown.go k (e1.trans e2) hd
        rcases hb with ⟨z, rfl, hz, hf⟩ | hb
        · refine u_of hz fun H2 e2 => ?_
          rw [hf]
          walk_at "v"
          exact ⟨_, rfl, _, rfl, fun a d _ hd _ => fin H2 e2 d hd⟩
        · refine ⟨_, rfl, .inr ⟨hb.ex e1, ?_⟩⟩
          walk_at "v"
          exact ⟨_, rfl, _, rfl, fun a d _ hd _ => fin H1 (Ex.refl _) d hd⟩
    · exact check_bad hb k
theorem i_bits {td : TE} {σ : L2.St} {H : Hp} {R : It → Hp → Prop} (h : td σ H fun x H1 => ∃ d ob es, x = .ref d ∧ H1 d = some (bO P w d ob es) ∧ R (Itb P w d ob es) H1) : iBits P w td σ H R := h
def wl (kk : List Nat) (es : List Ent) : List (List Nat) := es.filterMap fun e => if e.1.1 = kk then e.1.2 else none
theorem wl_mem {kk : List Nat} {es : List Ent} {x : List Nat} : x ∈ wl kk es ↔ (kk, some x) ∈ es.map (·.1) := by
  unfold wl
  rw [List.mem_filterMap, List.mem_map]
  constructor
  · rintro ⟨e, he, q⟩
    by_cases c : e.1.1 = kk
    · rw [if_pos c] at q
      exact ⟨e, he, Prod.ext c q⟩
    · rw [if_neg c] at q
      cases q
  · rintro ⟨e, he, q⟩
    refine ⟨e, he, ?_⟩
    rw [q]
    exact if_pos rfl
theorem wl_nodup {kk : List Nat} : ∀ {es : List Ent}, (es.map (·.1)).Nodup → (wl kk es).Nodup
  | [], _ => by simp [wl]
  | e :: es, h => by
    rw [List.map_cons, List.nodup_cons] at h
    have ih := wl_nodup (kk := kk) h.2
    have eq : wl kk (e :: es) = (if e.1.1 = kk then e.1.2 else none).toList ++ wl kk es := by
      unfold wl
      rw [List.filterMap_cons]
      cases (if e.1.1 = kk then e.1.2 else none) <;> rfl
    rw [eq]
    by_cases c : e.1.1 = kk
    · rw [if_pos c]
      cases ho : e.1.2 with
      | none => exact ih
      | some x =>
        show (x :: wl kk es).Nodup
        rw [List.nodup_cons]
        refine ⟨fun hm => h.1 ?_, ih⟩
        have : e.1 = (kk, some x) := Prod.ext c ho
        rw [this]
        exact wl_mem.mp hm
    · rw [if_neg c]
      exact ih
theorem wl_given {kk : List Nat} : ∀ es : List Ent, ((es.filter fun e => decide (e.1.1 = kk) && e.1.2.isSome).map fun e => optV e.1.2) = (wl kk es).map vS
  | [] => rfl
  | e :: es => by
    have ih := wl_given (kk := kk) es
    unfold wl at ih ⊢
    rw [List.filterMap_cons]
    by_cases c : e.1.1 = kk
    · rw [if_pos c]
      cases ho : e.1.2 with
      | none =>
        rw [List.filter_cons_of_neg (by simp [ho]), ih]
      | some x =>
        rw [List.filter_cons_of_pos (by simp [c, ho]), List.map_cons, ih, ho]
        rfl
    · rw [if_neg c, List.filter_cons_of_neg (by simp [c]), ih]
theorem bval_mem {es : List Ent} {m : Mark} : (bval es m).isSome = true ↔ m ∈ es.map (·.1) := by
  unfold bval
  rw [Option.isSome_map, List.find?_isSome, List.mem_map]
  constructor
  · rintro ⟨e, he, q⟩
    exact ⟨e, he, of_decide_eq_true q⟩
  · rintro ⟨e, he, q⟩
    exact ⟨e, he, decide_eq_true q⟩
theorem marks_mem {sl : Slots} {es : List Ent} (hb : ∀ m, bval es m = if maskL sl (markP m) = 0 then none else some ((maskL sl (markP m) : Nat) : Int)) {m : Mark} : m ∈ es.map (·.1) ↔ ∃ s ∈ occ sl, markP m s = true := by
  rw [← bval_mem, hb]
  by_cases c : maskL sl (markP m) = 0
  · rw [if_pos c]
    have := mask_zero.mp c
    constructor
    · intro h
      cases h
    · rintro ⟨s, hs, q⟩
      rw [this s hs] at q
      cases q
  · rw [if_neg c]
    constructor
    · intro _
      refine Decidable.byContradiction fun h => c (mask_zero.mpr fun s hs => ?_)
      cases q : markP m s with
      | false => rfl
      | true => exact absurd ⟨s, hs, q⟩ h
    · intro _
      rfl
theorem nodup_bound {l : List (List Nat)} {os : List Ser} {f : Ser → Option (List Nat)} (hn : l.Nodup) (h : ∀ x ∈ l, ∃ s ∈ os, f s = some x) : l.length ≤ os.length := by
  have h1 : l ⊆ os.filterMap f := fun x hx => by
    obtain ⟨s, hs, e⟩ := h x hx
    exact List.mem_filterMap.mpr ⟨s, hs, e⟩
  exact Nat.le_trans (List.Nodup.length_le_of_subset hn h1) (List.length_filterMap_le _ _)
/-- the words under a key -/
def WordsOf (sl : Slots) (k : List Nat) (ws : List (List Nat)) : Prop := ws.Pairwise (fun a b => a < b) ∧ ∀ x, x ∈ ws ↔ ∃ s ∈ occ sl, wordOf s k = some x
def TellsW (H : Hp) (sl : Slots) (k : List Nat) (Q : VK) : Prop := ∀ p ws H', Ex H H' → H p = none → H' p = some (.lst (ws.map vS)) → WordsOf sl k ws → Q (.ref p) H'
def spWords (P : Program) (w : World) (K : PySem.W.Frag) : Sp := fun vs H Q E => ∃ (a sa ka ba : Addr) (sl : Slots) (kv : V), vs = [.ref a, kv] ∧ IdxAt P w K H a sa ka ba sl ∧ ((∃ k, kv = vS k ∧ isName (S k) = true ∧ TellsW H sl k Q) ∨ (BadOf K isName H kv ∧ Thrown K "InvalidName" kv H E))
theorem sc_Index_words : FnScope ["self", "key", "one", "word"] ["self", "key"] (defScope s_Index_words) := ⟨rfl, rfl, rfl, by decide +kernel, rfl, by decide +kernel, by decide +kernel⟩
theorem ok_Index_words (T : Txt K mg) : GoodM P w K mg base "Index" "words" 5 ["self", "key"] (spWords P w K) := by
  have G_check_name := ok_check_name (P := P) (w := w) (base := base) T
  obtain ⟨fd, F⟩ := T.f_Index_words
  refine good_ofX F sc_Index_words (fun vs H Q E h => ?_) (fun _ _ _ _ _ _ us hl => match us, hl with | [_, _], _ => rfl) (fun cdv A outer s H vs Q E hr h => ?_)
  · obtain ⟨a, sa, ka, ba, sl, kv, rfl, _⟩ := h
    rfl
  · obtain ⟨a, sa, ka, ba, sl, kv, rfl, hi, h⟩ := h
    refine ⟨_, (pss_cons (ps_expr (pcallX G_check_name hr T.g_check_name (takes_of rfl rfl rfl rfl) (pa_cons (pv 1) pa_nil)))
    (pss_one (ps_ret (pe_callB cr_sortedS rfl T.z_sorted (by decide +kernel) (pa_cons (pe_lc (own := [("one", 2), ("word", 3)]) rfl sc_Index_words.nd (pi_bits (pe_fld (pv 0) rfl)) (blkOk_by (N := ["self", "key", "one", "word"]) (sc := defScope s_Index_words) (by decide +kernel)) (fun _ _ _ _ _ => (pg_tupK (K := K) (n := 2) rfl rfl (pgs_cons (pg_name (i := 2) sc_Index_words.nd rfl (Or.inl rfl)) (pgs_cons (pg_name (i := 3) sc_Index_words.nd rfl (Or.inl rfl)) pgs_nil)))) (fun _ _ _ _ _ => (pts_one (PW.pt (pw_and (pt_cmpR op_eq (pv 2) (pv 1) (nomark _)) (pw_and1 (pt_cmpR op_notN1 (pv 3) pe_non (nomark _))))))) (fun _ _ _ _ _ => (pv 3))) pa_nil))))), ?_⟩
    walk_at "v"
    rcases h with ⟨kk, rfl, hk, k⟩ | ⟨hb, k⟩
    · refine check_good hk fun H1 e1 => ?_
      have hi1 := hi.ex e1
      have fb := hi1.fb T
      obtain ⟨es, B, hnd, hb⟩ := hi1.bits.ex
      obtain ⟨ob, hob⟩ := B.ob
      walk_at "v"
      refine i_bits ?_
      walk_at "v"
      refine ⟨ba, ob, es, rfl, hob, ?_⟩
      intro D hD
      have hwm : ∀ x, x ∈ wl kk es ↔ ∃ s ∈ occ sl, wordOf s kk = some x := fun x => by
        rw [wl_mem, marks_mem hb]
        constructor
        · rintro ⟨s, hs, q⟩
          exact ⟨s, hs, of_decide_eq_true q⟩
        · rintro ⟨s, hs, q⟩
          exact ⟨s, hs, decide_eq_true q⟩
      have hwl : (wl kk es).length ≤ 50 := by
        have h1 := nodup_bound (os := occ sl) (f := fun s => wordOf s kk) (wl_nodup (kk := kk) hnd) fun x hx => (hwm x).mp hx
        have h2 := occ_len sl
        have h3 := hi.small
        omega
      refine lc_v walk_bits (fun i => match es[i]? with | some e => decide (e.1.1 = kk) && e.1.2.isSome | none => false) (fun i => match es[i]? with | some e => optV e.1.2 | none => .non) hD (by have := B.small; omega) (fun H2 e2 => e2 _ _ hob) ?_ (fun H2 e2 hd => ?_)
      · rintro N i x Ha Hb hi2 ea ⟨rfl, e, he, rfl⟩ hno hyes
        have hkt := ea _ _ (B.keys e (List.mem_of_getElem? he))
        rw [he] at hno hyes
        unfold mkV at hkt
        walk_at "v"
        refine ⟨rfl, ?_⟩
        walk_at "v"
        rw [vS_dec]
        by_cases c : e.1.1 = kk
        · rw [decide_eq_true c]
          walk_at "v"
          rw [optV_non]
          cases ho : e.1.2 with
          | none =>
            refine (if_neg (by decide) : (if (none : Option (List Nat)).isSome = true then _ else _) = _).mpr ?_
            exact hno (by show (decide (e.1.1 = kk) && e.1.2.isSome) = false; rw [ho]; simp) _ (Ex.refl _)
          | some x =>
            refine (if_pos rfl : (if (some x).isSome = true then _ else _) = _).mpr ?_
            walk_at "v"
            have q := hyes (by show (decide (e.1.1 = kk) && e.1.2.isSome) = true; rw [ho, decide_eq_true c]; rfl) _ (Ex.refl _)
            simp only [ho] at q
            exact q
        · rw [decide_eq_false c]
          walk_at "v"
          exact hno (by show (decide (e.1.1 = kk) && e.1.2.isSome) = false; rw [decide_eq_false c]; rfl) _ (Ex.refl _)
      · have hg : given es.length (fun i => match es[i]? with | some e => decide (e.1.1 = kk) && e.1.2.isSome | none => false) (fun i => match es[i]? with | some e => optV e.1.2 | none => .non) = ((wl kk es).map S).map V.str := by
          rw [given_map es (fun e => decide (e.1.1 = kk) && e.1.2.isSome) (fun e => optV e.1.2), wl_given, List.map_map]
          · rfl
          · intro i h
            simp only [List.getElem?_eq_getElem h]
          · intro i h _
            simp only [List.getElem?_eq_getElem h]
        rw [hg] at hd
        walk_at "v"
        refine ⟨D, _, rfl, SqL.of hd, by rw [List.length_map]; omega, fun ys q hperm hsort hq => ?_⟩
        have hnd2 : ys.Nodup := by
          refine hperm.nodup_iff.mpr ?_
          have h1 := wl_nodup (kk := kk) hnd
          rw [List.nodup_iff_pairwise_ne] at h1 ⊢
          rw [List.pairwise_map]
          refine h1.imp ?_
          intro a b hne z
          exact hne (S_inj z)
        have em : ys.map V.str = (ys.map tl).map vS := by
          rw [List.map_map]
          refine List.map_congr_left fun y _ => ?_
          show V.str y = V.str (S (tl y))
          rw [S_tl]
        rw [em] at *
        have e3 : Ex H2 (upd H2 q (.lst ((ys.map tl).map vS))) := Ex.mut (Ex.refl _) hq
        refine k q (ys.map tl) _ ((e1.trans e2).trans e3) ?_ upd_same ⟨sorted_rising hsort hnd2, fun x => ?_⟩
        · cases q' : H q with
          | none => rfl
          | some o =>
            rw [(e1.trans e2) _ _ q'] at hq
            cases hq
        · rw [← hwm x]
          have h1 : x ∈ ys.map tl ↔ S x ∈ ys := by
            rw [List.mem_map]
            constructor
            · rintro ⟨y, hy, rfl⟩
              rw [S_tl]
              exact hy
            · intro hy
              exact ⟨S x, hy, rfl⟩
          rw [h1, hperm.mem_iff, List.mem_map]
          constructor
          · rintro ⟨y, hy, e⟩
            rw [← S_inj e]
            exact hy
          · intro hx
            exact ⟨x, hx, rfl⟩
    · exact check_bad hb k
end
end
set_option Elab.async false
set_option linter.all false
set_option maxRecDepth 100000
set_option maxHeartbeats 4000000
/-! More of the mathematics of an index: a series comes, a series goes. -/
section
open PySem PySem.Spec PyProof.Rows L2
theorem occ_set : ∀ {sl : Slots} {j : Nat} {s : Ser}, sl[j]? = some none → (occ (sl.set j (some s))).Perm (s :: occ sl)
  | [], j, s, h => by simp at h
  | o :: r, 0, s, h => by
    simp only [List.getElem?_cons_zero, Option.some.injEq] at h
    subst h
    exact List.Perm.refl _
  | o :: r, j + 1, s, h => by
    have ih := occ_set (sl := r) (j := j) (s := s) (by simpa using h)
    cases o with
    | none => exact ih
    | some t => exact (ih.cons t).trans (List.Perm.swap s t (occ r))
theorem occ_clear : ∀ {sl : Slots} {j : Nat} {s : Ser}, sl[j]? = some (some s) → (s :: occ (sl.set j none)).Perm (occ sl)
  | [], j, s, h => by simp at h
  | o :: r, 0, s, h => by
    simp only [List.getElem?_cons_zero, Option.some.injEq] at h
    subst h
    exact List.Perm.refl _
  | o :: r, j + 1, s, h => by
    have ih := occ_clear (sl := r) (j := j) (s := s) (by simpa using h)
    cases o with
    | none => exact ih
    | some t => exact (List.Perm.swap t s _).trans (ih.cons t)
theorem occ_app_none (sl : Slots) : occ (sl ++ [none]) = occ sl := by
  unfold occ
  rw [List.filterMap_append]
  simp
theorem mask_app_none (p : Ser → Bool) : ∀ sl : Slots, maskL (sl ++ [none]) p = maskL sl p
  | [] => rfl
  | none :: r => by
    show 2 * maskL (r ++ [none]) p = 2 * maskL r p
    rw [mask_app_none p r]
  | some s :: r => by
    show (if p s = true then 1 else 0) + 2 * maskL (r ++ [none]) p = (if p s = true then 1 else 0) + 2 * maskL r p
    rw [mask_app_none p r]
theorem occ_full : ∀ {sl : Slots}, none ∉ sl → sl.length = (occ sl).length
  | [], _ => rfl
  | none :: r, h => by simp at h
  | some s :: r, h => by
    have ih := occ_full (sl := r) fun z => h (by simp [z])
    show r.length + 1 = (occ r).length + 1
    rw [ih]
/-- the first place of a text -/
theorem first_at {k : List Nat} : ∀ {zs : List (List Nat)}, k ∈ zs → ∃ j : Nat, zs[j]? = some k ∧ ∀ m : Nat, m < j → zs[m]? ≠ some k
  | [], h => by simp at h
  | z :: zs, h => by
    by_cases c : z = k
    · exact ⟨0, by rw [c]; rfl, fun m hm => absurd hm (Nat.not_lt_zero _)⟩
    · have h' : k ∈ zs := by
        rcases List.mem_cons.mp h with e | e
        · exact absurd e.symm c
        · exact e
      obtain ⟨j, h1, h2⟩ := first_at h'
      refine ⟨j + 1, by simpa using h1, fun m hm => ?_⟩
      cases m with
      | zero => simpa using c
      | succ m => simpa using h2 m (by omega)
/-! entries -/
theorem bval_put {es : List Ent} {m m' : Mark} {b : Addr} {i : Int} : bval (bput es m b i) m' = if m' = m then some i else bval es m' := by
  unfold bput
  by_cases c : (bval es m).isSome = true
  · rw [if_pos c]
    have key : ∀ l : List Ent, bval (l.map fun e => if e.1 = m then (e.1, e.2.1, i) else e) m' = if m' = m then (if (bval l m).isSome = true then some i else none) else bval l m' := by
      intro l
      induction l with
      | nil => simp [bval]
      | cons e l ih =>
        unfold bval at ih ⊢
        rw [List.map_cons, List.find?_cons, List.find?_cons, List.find?_cons]
        by_cases c1 : e.1 = m
        · rw [if_pos c1]
          by_cases c2 : m' = m
          · simp [c1, c2]
          · have c3 : ¬ m = m' := fun z => c2 z.symm
            simp only [c1, c3, c2, decide_false, if_false] at ih ⊢
            exact ih
        · rw [if_neg c1]
          by_cases c2 : m' = m
          · subst c2
            simp only [c1, decide_false, if_true] at ih ⊢
            exact ih
          · by_cases c4 : e.1 = m'
            · simp [c4, c2]
            · simp only [c4, c2, decide_false, if_false] at ih ⊢
              exact ih
    rw [key]
    by_cases c2 : m' = m
    · rw [if_pos c2, if_pos c2, if_pos c]
    · rw [if_neg c2, if_neg c2]
  · rw [if_neg c]
    have hn : bval es m = none := by
      cases q : bval es m with
      | none => rfl
      | some x => rw [q] at c; exact absurd rfl c
    unfold bval at hn ⊢
    rw [List.find?_append]
    by_cases c2 : m' = m
    · subst c2
      rw [if_pos rfl]
      have : List.find? (fun e : Ent => decide (e.1 = m')) es = none := Option.map_eq_none_iff.mp hn
      rw [this]
      simp
    · rw [if_neg c2]
      have c3 : ¬ m = m' := fun z => c2 z.symm
      cases q : List.find? (fun e : Ent => decide (e.1 = m')) es <;> simp [c3]
theorem bval_drop {es : List Ent} {m m' : Mark} : bval (bdrop es m) m' = if m' = m then none else bval es m' := by
  unfold bdrop
  induction es with
  | nil => simp [bval]
  | cons e es ih =>
    unfold bval at ih ⊢
    by_cases c1 : e.1 = m
    · rw [List.filter_cons_of_neg (by simp [c1]), List.find?_cons, ih]
      by_cases c2 : m' = m
      · rw [if_pos c2, if_pos c2]
      · have c3 : ¬ m = m' := fun z => c2 z.symm
        rw [if_neg c2, if_neg c2, c1]
        simp [c3]
    · rw [List.filter_cons_of_pos (by simp [c1]), List.find?_cons, List.find?_cons]
      by_cases c4 : e.1 = m'
      · have c5 : ¬ m' = m := fun z => c1 (c4.trans z)
        simp [c4, c5]
      · simp only [c4, decide_false]
        exact ih
theorem bput_keys {es : List Ent} {m : Mark} {b : Addr} {i : Int} (h : (es.map (·.1)).Nodup) : ((bput es m b i).map (·.1)).Nodup ∧ (bput es m b i).length ≤ es.length + 1 ∧ ∀ e ∈ bput es m b i, (e.1 = m ∧ e.2.1 = b) ∨ ∃ e' ∈ es, e'.1 = e.1 ∧ e'.2.1 = e.2.1 := by
  unfold bput
  by_cases c : (bval es m).isSome = true
  · rw [if_pos c]
    have e1 : (es.map fun e => if e.1 = m then (e.1, e.2.1, i) else e).map (·.1) = es.map (·.1) := by
      rw [List.map_map]
      refine List.map_congr_left fun e _ => ?_
      show (if e.1 = m then (e.1, e.2.1, i) else e).1 = e.1
      by_cases q : e.1 = m
      · rw [if_pos q]
      · rw [if_neg q]
    refine ⟨by rw [e1]; exact h, by rw [List.length_map]; omega, fun e he => ?_⟩
    obtain ⟨e', he', rfl⟩ := List.mem_map.mp he
    refine .inr ⟨e', he', ?_⟩
    by_cases q : e'.1 = m
    · rw [if_pos q]
      exact ⟨rfl, rfl⟩
    · rw [if_neg q]
      exact ⟨rfl, rfl⟩
  · rw [if_neg c]
    refine ⟨?_, by simp, fun e he => ?_⟩
    · rw [List.map_append, List.nodup_append]
      refine ⟨h, by simp, fun x hx y hy z => ?_⟩
      have hy' : y = m := by simpa using hy
      rw [z, hy'] at hx
      refine c ?_
      unfold bval
      rw [Option.isSome_map, List.find?_isSome]
      obtain ⟨e, he, q⟩ := List.mem_map.mp hx
      exact ⟨e, he, decide_eq_true q⟩
    · rcases List.mem_append.mp he with he | he
      · exact .inr ⟨e, he, rfl, rfl⟩
      · rw [List.mem_singleton] at he
        rw [he]
        exact .inl ⟨rfl, rfl⟩
theorem bdrop_keys {es : List Ent} {m : Mark} (h : (es.map (·.1)).Nodup) : ((bdrop es m).map (·.1)).Nodup ∧ (bdrop es m).length ≤ es.length ∧ ∀ e ∈ bdrop es m, e ∈ es := by
  unfold bdrop
  exact ⟨List.Nodup.sublist (List.Sublist.map _ List.filter_sublist) h, List.length_filter_le _ _, fun e he => (List.mem_filter.mp he).1⟩
section
variable {P : Program} {w : World} {H : Hp} {a b : Addr} {es : List Ent} {m : Mark} {i : Int} {ob : Obj}
theorem BitsAt.put (B : BitsAt P w H a es) (hn : (es.map (·.1)).Nodup) (hb : H b = some (.tup (mkV m))) (hl : es.length + 1 ≤ 5000) : BitsAt P w (upd H a (bO P w a ob (bput es m b i))) a (bput es m b i) := by
  obtain ⟨ob0, h0⟩ := B.ob
  obtain ⟨k1, k2, k3⟩ := bput_keys (m := m) (b := b) (i := i) hn
  refine ⟨⟨ob, upd_same⟩, fun e he => ?_, by omega⟩
  rcases k3 e he with ⟨e1, e2⟩ | ⟨e', he', e1, e2⟩
  · rw [e2, e1, upd_ne (ne_of hb h0 (Ne.symm bO_tup))]
    exact hb
  · have := B.keys e' he'
    rw [e1, e2] at this
    rw [upd_ne (ne_of this h0 (Ne.symm bO_tup))]
    exact this
theorem BitsAt.drop (B : BitsAt P w H a es) (hn : (es.map (·.1)).Nodup) : BitsAt P w (upd H a (bO P w a ob (bdrop es m))) a (bdrop es m) := by
  obtain ⟨ob0, h0⟩ := B.ob
  obtain ⟨k1, k2, k3⟩ := bdrop_keys (m := m) hn
  refine ⟨⟨ob, upd_same⟩, fun e he => ?_, by have := B.small; omega⟩
  have := B.keys e (k3 e he)
  rw [upd_ne (ne_of this h0 (Ne.symm bO_tup))]
  exact this
end
section
variable {K : PySem.W.Frag} {H : Hp} {Q : VK} {l : Addr} {k : List Nat} {zs : List (List Nat)}
theorem r_indexS {j : Nat} (h : SqL K H l (zs.map vS)) (hj : zs[j]? = some k) (hf : ∀ m : Nat, m < j → zs[m]? ≠ some k) (q : Q (.int (j : Nat)) H) : rIndex K (.ref l) [vS k] H Q := by
  have eqS : ∀ a b : List Nat, eqV (vS a) (vS b) = decide (a = b) := fun a b => by
    show (S a == S b) = _
    by_cases h : a = b
    · subst h
      simp
    · rw [decide_eq_false h]
      simp only [beq_eq_false_iff_ne, ne_eq]
      exact fun z => h (S_inj z)
  refine ⟨l, _, vS k, j, vS k, rfl, rfl, h, rfl, vS_flat zs, by rw [List.getElem?_map, hj]; rfl, by rw [eqS]; simp, fun m z' hm hz => ?_, q⟩
  rw [List.getElem?_map] at hz
  cases e : zs[m]? with
  | none =>
    rw [e] at hz
    cases hz
  | some y =>
    rw [e] at hz
    have : vS y = z' := Option.some.inj hz
    subst this
    rw [eqS]
    refine decide_eq_false fun c => hf m hm ?_
    rw [e, c]
end
end
set_option Elab.async false
set_option linter.all false
set_option maxRecDepth 100000
set_option maxHeartbeats 4000000
/-! The index: made, put. -/
section
open PySem PySem.Spec PyProof.Rows L2
open Evl (Ex given)

section
variable {X : Cx} {pos : Pos}
/-- {}, to be a dict of marks -/
def tBNew (P : Program) (w : World) : TE := fun _ H Q => ∀ p ob, H p = none → Q (.ref p) (upd H p (bO P w p ob []))
theorem pe_bnew : PE X (.Dict [] [] pos) (tBNew X.prog X.w) := by
  refine ⟨fun pins s σ H Q I h => ?_⟩
  refine wpAny_Dict_empty ?_
  have hob : ObjOk X.prog X.w (upd H s.heap.objs.size (bO X.prog X.w s.heap.objs.size { cls := .type "dict", data := .dict #[] } [])) (s.heap.push { cls := .type "dict", data := .dict #[] }) s.heap.objs.size (bO X.prog X.w s.heap.objs.size { cls := .type "dict", data := .dict #[] } []) :=
    bO_ok (xs := []) (Heap.get?_push_size _ rfl) (beq_eq_false_iff_ne.mpr (Ne.symm (Nat.ne_of_lt I.big))) ⟨rfl, rfl, rfl⟩ .nil rfl rfl List.nodup_nil
  exact ⟨.ref s.heap.objs.size, _, I.laid (a := s.heap.objs.size) (t' := s.toks) (fun _ _ q => Heap.get?_push_of_some _ q) (Nat.le_refl _) hob, rfl, h _ _ (I.hok.fresh (Nat.le_refl _))⟩
end
theorem r_gsub {σ : L2.St} {H : Hp} {QS : L2.St → Hp → Prop} {to ti : TE} {t : TSet} {v : V} (h : to σ H fun o H1 => ti σ H1 fun i H2 => t o i v H2 fun H3 => QS σ H3) : gSub to ti t v σ H QS := h
theorem r_dput {σ : L2.St} {H : Hp} {D : Ends} {td ty tv : TE} (h : tv σ H fun v H1 => td σ H1 fun x H2 => ty σ H2 fun y H3 => ∃ a H4, x = .ref a ∧ DPut H3 a y v H4 ∧ D.nx σ H4) : sDPut td ty tv D σ H := h
abbrev idxO (K : PySem.W.Frag) (dx sa ka ba : Addr) (n : Nat) : HO := .ins (He.ga K "Index") dx [("_slots", .ref sa), ("_known", .ref ka), ("_bits", .ref ba), ("_all", .int (n : Nat))]
def NotFix (H : Hp) (b : Addr) : Prop := (∀ xs, H b ≠ some (.tup xs)) ∧ ∀ C dx x y, H b ≠ some (.ins C dx [x, y])
theorem SerAt.exx {K : PySem.W.Frag} {S : List Addr} {H H' : Hp} {v : V} {s : Ser} (h : SerAt K H v s) (e : Exx S H H') (hS : ∀ b ∈ S, NotFix H b) : SerAt K H' v s := by
  obtain ⟨⟨a, dx, tp, qs, h1, h2, h3, h4⟩, ok⟩ := h
  have tu : ∀ b xs, H b = some (.tup xs) → H' b = some (.tup xs) := fun b xs q => e _ _ q fun z => (hS b z).1 xs q
  exact ⟨⟨a, dx, tp, qs, h1, e _ _ h2 fun z => (hS a z).2 _ _ _ _ h2, tu _ _ h3, Pimp h4 fun _ _ q => tu _ _ q⟩, ok⟩
theorem IdxAt.nf {P : Program} {w : World} {K : PySem.W.Frag} {H : Hp} {a sa ka ba : Addr} {sl : Slots} (h : IdxAt P w K H a sa ka ba sl) : ∀ b ∈ [a, sa, ka, ba], NotFix H b := by
  intro b hb
  simp only [List.mem_cons, List.not_mem_nil, or_false] at hb
  obtain ⟨dx, h1⟩ := h.ob
  have h2 := h.slots
  obtain ⟨kvs, h3, _⟩ := h.known.ex
  obtain ⟨es, ⟨⟨ob, h4⟩, _, _⟩, _⟩ := h.bits.ex
  rcases hb with rfl | rfl | rfl | rfl
  · refine ⟨fun xs q => ?_, fun C dx x y q => ?_⟩
    · rw [h1] at q
      cases q
    · rw [h1] at q
      injection q with q
      injection q with _ _ q
      injection q with _ q
      injection q with _ q
      cases q
  · exact ⟨fun xs q => (by rw [h2] at q; cases q), fun C dx x y q => (by rw [h2] at q; cases q)⟩
  · exact ⟨fun xs q => (by rw [h3] at q; cases q), fun C dx x y q => (by rw [h3] at q; cases q)⟩
  · exact ⟨fun xs q => bO_tup (Option.some.inj (h4.symm.trans q)), fun C dx x y q => by
      rw [h4] at q
      injection q with q
      have q' : HO.ext _ = HO.ins _ _ _ := q
      cases q'⟩
theorem marks_bound {sl : Slots} {es : List Ent} (hb : ∀ m, bval es m = if maskL sl (markP m) = 0 then none else some ((maskL sl (markP m) : Nat) : Int)) (hn : (es.map (·.1)).Nodup) (hs : ∀ x ∈ occ sl, SerOk x) : es.length ≤ 14 * (occ sl).length := by
  have h1 : es.map (·.1) ⊆ (occ sl).flatMap marksOf := fun m hm => by
    obtain ⟨s, h2, h3⟩ := (marks_mem hb).mp hm
    exact List.mem_flatMap.mpr ⟨s, h2, (mem_marks (hs s h2)).mpr h3⟩
  have h2 := List.Nodup.length_le_of_subset hn h1
  rw [List.length_map] at h2
  have key : ∀ l : List Ser, (∀ x ∈ l, SerOk x) → (l.flatMap marksOf).length ≤ 14 * l.length := by
    intro l
    induction l with
    | nil => intro _; simp
    | cons x l ih =>
      intro h
      have h3 := ih fun y hy => h y (by simp [hy])
      have h4 := marks_len (h x (by simp))
      rw [List.flatMap_cons, List.length_append, List.length_cons]
      omega
  exact Nat.le_trans h2 (key _ hs)
theorem r_din {σ : L2.St} {H : Hp} {QB : VK} {ty td : TE} (h : ty σ H fun y H1 => td σ H1 fun x H2 => ∃ a o, x = .ref a ∧ DGet H2 a y o ∧ QB (.bl o.isSome) H2) : tDIn ty td σ H QB := h
theorem slot_map (sl : Slots) : sl.map slotV = (sl.map slotT).map vS := by
  rw [List.map_map]
  rfl
theorem free_mem {sl : Slots} : ([] : List Nat) ∈ sl.map slotT ↔ none ∈ sl := by
  rw [List.mem_map]
  constructor
  · rintro ⟨o, ho, e⟩
    cases o with
    | none => exact ho
    | some s => exact absurd e textL_ne
  · intro h
    exact ⟨none, h, rfl⟩
theorem valV_drop {kvs : List (Key × V)} {k j : Key} : valV (dropK kvs k) j = if j = k then none else valV kvs j := by
  unfold dropK
  induction kvs with
  | nil => simp [valV]
  | cons e es ih =>
    by_cases c1 : e.1 = k
    · rw [List.filter_cons_of_neg (by simp [c1]), ih]
      by_cases c2 : j = k
      · rw [if_pos c2, if_pos c2]
      · rw [if_neg c2, if_neg c2, valV_neg fun z => c2 (z.symm.trans c1)]
    · rw [List.filter_cons_of_pos (by simp [c1])]
      by_cases c4 : e.1 = j
      · have c5 : ¬ j = k := fun z => c1 (c4.trans z)
        rw [if_neg c5, valV_pos c4, valV_pos c4]
      · rw [valV_neg c4, valV_neg c4, ih]
section
variable {P : Program} {w : World} {K : PySem.W.Frag} {mg : Str → Option Value} {base : Heap}
def spIInit (P : Program) (w : World) (K : PySem.W.Frag) : Sp := fun vs H Q _ => ∃ (p dx : Addr), vs = [.ref p] ∧ H p = some (.ins (He.ga K "Index") dx []) ∧
  ∀ sa ka ba H', IdxAt P w K H' p sa ka ba [] → Exx [p] H H' → H sa = none → H ka = none → H ba = none → Q .non H'
theorem sc_Index_init : FnScope ["self"] ["self"] (defScope s_Index_init) := ⟨rfl, rfl, rfl, by decide +kernel, rfl, by decide +kernel, by decide +kernel⟩
theorem ok_Index_init (T : Txt K mg) : GoodM P w K mg base "Index" "__init__" 1 ["self"] (spIInit P w K) := by
  obtain ⟨fd, F⟩ := T.f_Index_init
  refine good_of F sc_Index_init (fun vs H Q E h => ?_) (fun _ _ _ _ _ _ us hl => match us, hl with | [_], _ => rfl) (fun cdv A outer s H vs Q E hr h => ?_)
  · obtain ⟨p, dx, rfl, _⟩ := h
    rfl
  · obtain ⟨p, dx, rfl, hp, k⟩ := h
    refine ⟨_, (pss_cons (ps_fld (pv 0) (pe_lst pa_nil) rfl)
    (pss_cons (ps_fld (pv 0) pe_dnewK rfl)
    (pss_cons (ps_fld (pv 0) pe_bnew rfl)
    (pss_one (ps_fld (pv 0) pe_int rfl))))), ?_⟩
    walk_at "v"
    intro sa hsa
    have sp : sa ≠ p := (ne_of_none hp hsa).symm
    walk_at "v"
    refine ⟨p, _, dx, [], rfl, (upd_ne sp.symm).trans hp, T.c_Index, T.n_Index_slots, by decide, ?_⟩
    rw [pf_nil]
    have e1 : Exx [p] H (upd (upd H sa (.lst [])) p (.ins (He.ga K "Index") dx [("_slots", .ref sa)])) := ((Exx.refl _ _).add hsa).wr (by simp)
    have s1 : upd (upd H sa (.lst [])) p (.ins (He.ga K "Index") dx [("_slots", .ref sa)]) sa = some (.lst []) := (upd_ne sp).trans upd_same
    have p1 : upd (upd H sa (.lst [])) p (.ins (He.ga K "Index") dx [("_slots", .ref sa)]) p = some (.ins (He.ga K "Index") dx [("_slots", .ref sa)]) := upd_same
    generalize upd (upd H sa (.lst [])) p (.ins (He.ga K "Index") dx [("_slots", .ref sa)]) = H1 at *
    have fr : ∀ {b : Addr} {H' : Hp}, Exx [p] H H' → (∃ o, H' p = some o) → H' b = none → H b = none := fun {b H'} e hp' hb => by
      cases q : H b with
      | none => rfl
      | some o =>
        by_cases c : b = p
        · obtain ⟨o', hp'⟩ := hp'
          rw [c, hp'] at hb
          cases hb
        · rw [e b o q (by simpa using c)] at hb
          cases hb
    walk_at "v"
    intro ka hka
    have kaH := fr e1 ⟨_, p1⟩ hka
    have kp : ka ≠ p := (ne_of_none p1 hka).symm
    have ks : ka ≠ sa := (ne_of_none s1 hka).symm
    walk_at "v"
    refine ⟨p, _, dx, [("_slots", .ref sa)], rfl, (upd_ne kp.symm).trans p1, T.c_Index, T.n_Index_known, by show 1 < 1000; decide, ?_⟩
    rw [pf_tl (by decide +kernel), pf_nil]
    have e2 : Exx [p] H (upd (upd H1 ka (.dK [])) p (.ins (He.ga K "Index") dx [("_slots", .ref sa), ("_known", .ref ka)])) := (e1.add kaH).wr (by simp)
    have s2 : upd (upd H1 ka (.dK [])) p (.ins (He.ga K "Index") dx [("_slots", .ref sa), ("_known", .ref ka)]) sa = some (.lst []) := (upd_ne sp).trans ((upd_ne ks.symm).trans s1)
    have k2 : upd (upd H1 ka (.dK [])) p (.ins (He.ga K "Index") dx [("_slots", .ref sa), ("_known", .ref ka)]) ka = some (.dK []) := (upd_ne kp).trans upd_same
    have p2 : upd (upd H1 ka (.dK [])) p (.ins (He.ga K "Index") dx [("_slots", .ref sa), ("_known", .ref ka)]) p = some (.ins (He.ga K "Index") dx [("_slots", .ref sa), ("_known", .ref ka)]) := upd_same
    generalize upd (upd H1 ka (.dK [])) p (.ins (He.ga K "Index") dx [("_slots", .ref sa), ("_known", .ref ka)]) = H2 at *
    walk_at "v"
    intro ba ob hba
    have baH := fr e2 ⟨_, p2⟩ hba
    have bp : ba ≠ p := (ne_of_none p2 hba).symm
    have bs : ba ≠ sa := (ne_of_none s2 hba).symm
    have bk : ba ≠ ka := (ne_of_none k2 hba).symm
    walk_at "v"
    refine ⟨p, _, dx, [("_slots", .ref sa), ("_known", .ref ka)], rfl, (upd_ne bp.symm).trans p2, T.c_Index, T.n_Index_bits, by show 2 < 1000; decide, ?_⟩
    rw [pf_tl (by decide +kernel), pf_tl (by decide +kernel), pf_nil]
    have e3 : Exx [p] H (upd (upd H2 ba (bO P w ba ob [])) p (.ins (He.ga K "Index") dx [("_slots", .ref sa), ("_known", .ref ka), ("_bits", .ref ba)])) := (e2.add baH).wr (by simp)
    have s3 : upd (upd H2 ba (bO P w ba ob [])) p (.ins (He.ga K "Index") dx [("_slots", .ref sa), ("_known", .ref ka), ("_bits", .ref ba)]) sa = some (.lst []) := (upd_ne sp).trans ((upd_ne bs.symm).trans s2)
    have k3 : upd (upd H2 ba (bO P w ba ob [])) p (.ins (He.ga K "Index") dx [("_slots", .ref sa), ("_known", .ref ka), ("_bits", .ref ba)]) ka = some (.dK []) := (upd_ne kp).trans ((upd_ne bk.symm).trans k2)
    have b3 : upd (upd H2 ba (bO P w ba ob [])) p (.ins (He.ga K "Index") dx [("_slots", .ref sa), ("_known", .ref ka), ("_bits", .ref ba)]) ba = some (bO P w ba ob []) := (upd_ne bp).trans upd_same
    have p3 : upd (upd H2 ba (bO P w ba ob [])) p (.ins (He.ga K "Index") dx [("_slots", .ref sa), ("_known", .ref ka), ("_bits", .ref ba)]) p = some (.ins (He.ga K "Index") dx [("_slots", .ref sa), ("_known", .ref ka), ("_bits", .ref ba)]) := upd_same
    walk_at "v"
    refine ⟨p, _, dx, [("_slots", .ref sa), ("_known", .ref ka), ("_bits", .ref ba)], rfl, p3, T.c_Index, T.n_Index_all, by show 3 < 1000; decide, ?_⟩
    rw [pf_tl (by decide +kernel), pf_tl (by decide +kernel), pf_tl (by decide +kernel), pf_nil]
    refine k sa ka ba _ ⟨⟨dx, upd_same⟩, (upd_ne sp).trans s3, by decide, ⟨[], (upd_ne kp).trans k3, rfl, .nil, fun x hx => absurd hx (by simp [occ]), fun x hx => by cases hx⟩, ⟨[], ⟨⟨ob, (upd_ne bp).trans b3⟩, fun e he => absurd he (by simp), by decide⟩, .nil, fun m => rfl⟩, fun x hx => absurd hx (by simp [occ]), .nil⟩ (e3.wr (by simp)) hsa kaH baH
/-- an index after a series has come -/
def spPut (P : Program) (w : World) (K : PySem.W.Frag) : Sp := fun vs H Q E => ∃ (a sa ka ba : Addr) (sl : Slots) (v : V), vs = [.ref a, v] ∧ IdxAt P w K H a sa ka ba sl ∧
  ((∃ s, SerAt K H v s ∧ (s ∈ occ sl ∨ (occ sl).length < 50) ∧ ∀ sl' H', IdxAt P w K H' a sa ka ba sl' → Exx [a, sa, ka, ba] H H' → (∀ x, x ∈ occ sl' ↔ x ∈ occ sl ∨ x = s) → Q .non H') ∨ (Bi K H v ∧ Thrown K "InvalidSeries" v H E))
theorem sc_Index_put : FnScope ["self", "series", "text", "slot", "mark"] ["self", "series"] (defScope s_Index_put) := ⟨rfl, rfl, rfl, by decide +kernel, rfl, by decide +kernel, by decide +kernel⟩
theorem ok_Index_put (T : Txt K mg) : GoodM P w K mg base "Index" "put" 4 ["self", "series"] (spPut P w K) := by
  have G_check_series := ok_check_series (P := P) (w := w) (base := base) T
  have G_Series_text := ok_Series_text (P := P) (w := w) (base := base) T
  have G_marks_of := ok_marks_of (P := P) (w := w) (base := base) T
  obtain ⟨fd, F⟩ := T.f_Index_put
  refine good_ofX F sc_Index_put (fun vs H Q E h => ?_) (fun _ _ _ _ _ _ us hl => match us, hl with | [_, _], _ => rfl) (fun cdv A outer s H vs Q E hr h => ?_)
  · obtain ⟨a, sa, ka, ba, sl, v, rfl, _⟩ := h
    rfl
  · obtain ⟨a, sa, ka, ba, sl, v, rfl, hi, h⟩ := h
    have hu := hu_of hr
    refine ⟨_, (pss_cons (ps_expr (pcallX G_check_series hr T.g_check_series (takes_of rfl rfl rfl rfl) (pa_cons (pv 1) pa_nil)))
    (pss_cons (ps_set (i := 2) sc_Index_put.nd rfl (Or.inl rfl) (pmeth0 (pv 1) T.c_Series T.m_Series_text G_Series_text hr))
    (pss_cons (ps_if (pt_cmp (pc_din hu (pv 2) (pe_fld (pv 0) rfl))) (pss_one ps_retN) pss_nil)
    (pss_cons (ps_if (pt_cmpR op_notIn_seq (pe_kstr (T.k_FREE)) (pe_fld (pv 0) rfl) (by rfl)) (pss_one (ps_expr (pe_bm PySem.F.plainAttrs_list PySem.F.slot_list_append PySem.F.type_list_append mt_append (pe_fld (pv 0) rfl) (pa_cons (pe_kstr (T.k_FREE)) pa_nil)))) pss_nil)
    (pss_cons (ps_set (i := 3) sc_Index_put.nd rfl (Or.inl rfl) (pe_bm PySem.F.plainAttrs_list PySem.F.slot_list_index PySem.F.type_list_index mt_index (pe_fld (pv 0) rfl) (pa_cons (pe_kstr (T.k_FREE)) pa_nil)))
    (pss_cons (ps_asg (pv 2) (pg_sub (pe_fld (pv 0) rfl) (pv 3) set_list))
    (pss_cons (ps_dput hu (pe_fld (pv 0) rfl) (pv 2) (pv 1) rfl)
    (pss_cons (ps_fld (pv 0) (pe_op op_orN (pe_fld (pv 0) rfl) (pe_op op_shl1 pe_int (pv 3))) rfl)
    (pss_one (ps_for (passes_of rfl) rfl (pi_list (pcall G_marks_of hr T.g_marks_of (pa_cons (pv 1) pa_nil))) (pg_name (i := 4) sc_Index_put.nd rfl (Or.inl rfl))
    (pss_one (ps_asg (pe_op op_orN (pe_bget2 hu (pe_fld (pv 0) rfl) (pv 4) pe_int) (pe_op op_shl1 pe_int (pv 3))) (pg_sub (pe_fld (pv 0) rfl) (pv 4) (set_bits hu)))))))))))))), ?_⟩
    walk_at "v"
    rcases h with ⟨sr, hs, hroom, k⟩ | ⟨hb, k⟩
    · obtain ⟨⟨va, vdx, vtp, vqs, rfl, v2, v3, v4⟩, hok⟩ := id hs
      refine ⟨_, rfl, .inl ⟨va, vdx, _, rfl, v2, ?_⟩⟩
      walk_at "v"
      refine ⟨is_ins v2 ((lk_tl (by decide +kernel)).trans ((lk_tl (by decide +kernel)).trans rfl)), ?_⟩
      walk_at "v"
      refine ⟨_, sr, rfl, hs, fun H1 e1 => ?_⟩
      have hi1 := hi.ex e1
      have fk := hi1.fk T
      have fs := hi1.fs T
      have fa := hi1.fa T
      walk_at "v"
      refine r_din ?_
      walk_at "v"
      obtain ⟨kvs, k1, k2, k3, k4, k5⟩ := hi1.known.ex
      have ik := fun (P' : Prop) => P'
      refine ⟨ka, _, rfl, DGet.k (k := .inr (S (textL sr))) k1, ?_⟩
      walk_at "v"
      by_cases hin : sr ∈ occ sl
      · obtain ⟨v, hv, _⟩ := k4 sr hin
        rw [hv]
        walk_at "v"
        exact k sl H1 hi1 (Exx.of e1) fun x => ⟨.inl, fun h => h.elim id fun h => h ▸ hin⟩
      · have hnv : valV kvs (.inr (S (textL sr))) = none := by
          cases q : valV kvs (.inr (S (textL sr))) with
          | none => rfl
          | some v =>
            obtain ⟨x, hx, e⟩ := k5 _ (by rw [q]; rfl)
            injection e with e
            exact absurd (textL_inj hok (hi.sers x hx) (S_inj e) ▸ hx) hin
        have hoc : (occ sl).length < 50 := hroom.resolve_left hin
        obtain ⟨adx, ha1⟩ := hi1.ob
        have hs1 := hi1.slots
        rw [hnv]
        refine iteF ?_
        walk_at "v"
        refine r_ninLS (k := []) (zs := sl.map slotT) (SqL.of (by rw [← slot_map]; exact hs1)) ?_
        walk_at "v"
        refine ite2 ?f ?t
        case' t =>
          intro c
          have c' : none ∈ sl := free_mem.mp (Decidable.byContradiction fun z => c (by simp [z]))
          obtain ⟨sl1, hsl1⟩ : ∃ x : Slots, x = sl := ⟨_, rfl⟩
          obtain ⟨H2, hH2⟩ : ∃ H2 : Hp, H2 = H1 := ⟨_, rfl⟩
          rw [← hsl1] at c'
          have hm : ∀ p, maskL sl1 p = maskL sl p := fun _ => by rw [hsl1]
          have ho : occ sl1 = occ sl := by rw [hsl1]
          have hl : sl1.length ≤ 50 := by
            rw [hsl1]
            exact hi.small
          have hs2 : H2 sa = some (.lst (sl1.map slotV)) := by
            rw [hH2, hsl1]
            exact hs1
          have ha2 : H2 a = some (idxO K adx sa ka ba (maskL sl tru)) := by
            rw [hH2]
            exact ha1
          have e2 : Exx [sa] H1 H2 := by
            rw [hH2]
            exact Exx.refl _ _
          walk_at "v"
          rw [← hH2]
        case' f =>
          intro c
          have c1 : none ∉ sl := fun z => by
            rw [decide_eq_true (free_mem.mpr z)] at c
            cases c
          obtain ⟨sl1, hsl1⟩ : ∃ x : Slots, x = sl ++ [none] := ⟨_, rfl⟩
          obtain ⟨H2, hH2⟩ : ∃ H2 : Hp, H2 = upd H1 sa (.lst (sl.map slotV ++ [V.str ""])) := ⟨_, rfl⟩
          have c' : none ∈ sl1 := by simp [hsl1]
          have hm : ∀ p, maskL sl1 p = maskL sl p := fun p => by rw [hsl1]; exact mask_app_none p sl
          have ho : occ sl1 = occ sl := by rw [hsl1]; exact occ_app_none sl
          have hl : sl1.length ≤ 50 := by
            have := occ_full c1
            rw [hsl1]
            simp
            omega
          have hs2 : H2 sa = some (.lst (sl1.map slotV)) := by
            rw [hH2, hsl1, upd_same, List.map_append]
            rfl
          have ha2 : H2 a = some (idxO K adx sa ka ba (maskL sl tru)) := by
            rw [hH2]
            exact (upd_ne (ne_of ha1 hs1 (by intro z; cases z))).trans ha1
          have e2 : Exx [sa] H1 H2 := by
            rw [hH2]
            exact (Exx.refl _ _).wr (by simp)
          walk_at "v"
          refine r_append hs1 (by rw [List.length_map]; have := hi.small; omega) ?_
          rw [← hH2]
        all_goals
          have asa : a ≠ sa := ne_of ha2 hs2 (by intro z; cases z)
          have k12 : H2 ka = some (.dK kvs) := e2 _ _ k1 (by simpa using ne_of k1 hs1 (by intro z; cases z))
          have fs2 : AtF K "_slots" (.ref a) H2 (.ref sa) := at_f ha2 T.c_Index T.n_Index_slots lk_hd
          walk_at "v"
          obtain ⟨j, hj, hjf⟩ := first_at (free_mem.mpr c')
          refine r_indexS (k := []) (zs := sl1.map slotT) (SqL.of (by rw [← slot_map]; exact hs2)) hj hjf ?_
          have hj1 : sl1[j]? = some none := by
            rw [List.getElem?_map] at hj
            cases e : sl1[j]? with
            | none =>
              rw [e] at hj
              cases hj
            | some o =>
              rw [e] at hj
              have q : slotT o = [] := Option.some.inj hj
              cases o with
              | none => rfl
              | some s => exact absurd q textL_ne
          have hjl := (List.getElem?_eq_some_iff.mp hj1).1
          walk_at "v"
          refine r_gsub ?_
          walk_at "v"
          refine ⟨sa, _, (j : Nat), j, rfl, rfl, hs2, Evl.ixN_nat (by rw [List.length_map]; exact hjl), ?_⟩
          have es1 : (sl1.map slotV).set j (vS (textL sr)) = (sl1.set j (some sr)).map slotV := by
            rw [List.map_set]
            rfl
          rw [es1]
          -- H3: the slots
          have kas : ka ≠ sa := ne_of k12 hs2 (by intro z; cases z)
          obtain ⟨H3, hH3⟩ : ∃ H3 : Hp, H3 = upd H2 sa (.lst ((sl1.set j (some sr)).map slotV)) := ⟨_, rfl⟩
          rw [← hH3]
          have hs3 : H3 sa = some (.lst ((sl1.set j (some sr)).map slotV)) := by rw [hH3, upd_same]
          have ha3 : H3 a = some (idxO K adx sa ka ba (maskL sl tru)) := by rw [hH3, upd_ne asa]; exact ha2
          have k13 : H3 ka = some (.dK kvs) := by rw [hH3, upd_ne kas]; exact k12
          have e3 : Exx [sa] H1 H3 := by rw [hH3]; exact e2.wr (by simp)
          have fk3 : AtF K "_known" (.ref a) H3 (.ref ka) := at_f ha3 T.c_Index T.n_Index_known ((lk_tl (by decide +kernel)).trans lk_hd)
          walk_at "v"
          refine r_dput ?_
          walk_at "v"
          have hkl : kvs.length ≤ 50 := by omega
          refine ⟨ka, _, rfl, DPut.k (k := .inr (S (textL sr))) k13 (Evl.sz_lt (by omega)), ?_⟩
          have aka : a ≠ ka := ne_of ha3 k13 (by intro z; cases z)
          obtain ⟨H4, hH4⟩ : ∃ H4 : Hp, H4 = upd H3 ka (.dK (putK kvs (.inr (S (textL sr))) (.ref va))) := ⟨_, rfl⟩
          rw [← hH4]
          have hs4 : H4 sa = some (.lst ((sl1.set j (some sr)).map slotV)) := by rw [hH4, upd_ne kas.symm]; exact hs3
          have ha4 : H4 a = some (idxO K adx sa ka ba (maskL sl tru)) := by rw [hH4, upd_ne aka]; exact ha3
          have k14 : H4 ka = some (.dK (putK kvs (.inr (S (textL sr))) (.ref va))) := by rw [hH4, upd_same]
          have e4 : Exx [sa, ka] H1 H4 := by rw [hH4]; exact (e3.mono (by simp)).wr (by simp)
          have fa4 : AtF K "_all" (.ref a) H4 (.int (maskL sl tru : Nat)) := at_f ha4 T.c_Index T.n_Index_all ((lk_tl (by decide +kernel)).trans ((lk_tl (by decide +kernel)).trans ((lk_tl (by decide +kernel)).trans lk_hd)))
          walk_at "v"
          refine ⟨a, _, adx, _, rfl, ha4, T.c_Index, T.n_Index_all, by show 4 < 1000; decide, ?_⟩
          rw [pf_tl (by decide +kernel), pf_tl (by decide +kernel), pf_tl (by decide +kernel), pf_hd]
          obtain ⟨H5, hH5⟩ : ∃ H5 : Hp, H5 = upd H4 a (idxO K adx sa ka ba (maskL sl tru ||| 2 ^ j)) := ⟨_, rfl⟩
          rw [← hH5]
          have hs5 : H5 sa = some (.lst ((sl1.set j (some sr)).map slotV)) := by rw [hH5, upd_ne asa.symm]; exact hs4
          have ha5 : H5 a = some (idxO K adx sa ka ba (maskL sl tru ||| 2 ^ j)) := by rw [hH5, upd_same]
          have k15 : H5 ka = some (.dK (putK kvs (.inr (S (textL sr))) (.ref va))) := by rw [hH5, upd_ne aka.symm]; exact k14
          have e5 : Exx [a, sa, ka] H1 H5 := by rw [hH5]; exact (e4.mono (by intro b hb; simp only [List.mem_cons, List.not_mem_nil, or_false] at hb ⊢; rcases hb with hb | hb <;> simp [hb])).wr (by simp)
          have e5' : Exx [a, sa, ka, ba] H1 H5 := e5.mono (by intro b hb; simp only [List.mem_cons, List.not_mem_nil, or_false] at hb ⊢; rcases hb with hb | hb | hb <;> simp [hb])
          obtain ⟨es0, B0, hn0, hb0⟩ := hi1.bits.ex
          have hbd := marks_bound hb0 hn0 hi1.sers
          have B5 : BitsAt P w H5 ba es0 := by
            obtain ⟨⟨ob, b1⟩, b2, b3⟩ := B0
            have q1 : ba ≠ a := ne_of b1 ha1 (by intro z; have z' : HO.ext _ = HO.ins _ _ _ := z; cases z')
            have q2 : ba ≠ sa := ne_of b1 hs1 (by intro z; have z' : HO.ext _ = HO.lst _ := z; cases z')
            have q3 : ba ≠ ka := ne_of b1 k1 (by intro z; have z' : HO.ext _ = HO.dK _ := z; cases z')
            refine ⟨⟨ob, e5 _ _ b1 (by simp [q1, q2, q3])⟩, fun e he => e5' _ _ (b2 e he) fun z => (hi1.nf _ z).1 _ (b2 e he), b3⟩
          have hs5r : SerAt K H5 (.ref va) sr := (hs.ex e1).exx e5' hi1.nf
          walk_at "v"
          refine ⟨_, sr, rfl, hs5r, fun mp qs H6 e6 hmp hmpn hmk => ?_⟩
          walk_at "v"
          refine for_it (walk_list (xs := qs.map V.ref)) (fun i σ H' => ∃ o es, σ = [some (.ref a), some (.ref va), some (vS (textL sr)), some (.int (j : Nat)), o] ∧ H' a = some (idxO K adx sa ka ba (maskL sl tru ||| 2 ^ j)) ∧ H' sa = some (.lst ((sl1.set j (some sr)).map slotV)) ∧
              H' ka = some (.dK (putK kvs (.inr (S (textL sr))) (.ref va))) ∧ BitsAt P w H' ba es ∧ (es.map (·.1)).Nodup ∧ es.length ≤ 700 + i ∧ (∀ m, bval es m = if m ∈ (marksOf sr).take i then some ((maskL sl (markP m) ||| 2 ^ j : Nat) : Int) else bval es0 m) ∧
              H' mp = some (.lst (qs.map V.ref)) ∧ Paired (MarkAt H') qs (marksOf sr) ∧ Exx [a, sa, ka, ba] H1 H')
            ⟨none, es0, rfl, e6 _ _ ha5, e6 _ _ hs5, e6 _ _ k15, B5.ex' e6, hn0, by omega, fun m => by simp, hmp, hmk, e5'.trans (Exx.of e6)⟩ (fun i σ H' _ h => ?_) ?_ ?_
          · obtain ⟨_, _, _, _, _, _, _, _, _, _, h, _⟩ := h
            exact SqL.of h
          · rintro i x σ Ha Hb hi2 ⟨o, es, rfl, ha7, hs7, k17, B7, hn7, hl7, hb7, hmp7, hmk7, e7⟩ ⟨rfl, hx⟩
            obtain ⟨q, hq, rfl⟩ := refs_at hx
            obtain ⟨m, hm1, hqm⟩ := Pat hmk7 hq
            have hqm' : Hb q = some (.tup (mkV m)) := hqm
            have hil : i < (marksOf sr).length := (List.getElem?_eq_some_iff.mp hm1).1
            have hml := marks_len hok
            have hnot : m ∉ (marksOf sr).take i := fun hmem => by
              obtain ⟨j', hj', ej⟩ := List.getElem_of_mem hmem
              rw [List.length_take] at hj'
              rw [List.getElem_take] at ej
              obtain ⟨_, ei⟩ := List.getElem?_eq_some_iff.mp hm1
              have hnd := marks_nodup hok
              rw [List.nodup_iff_pairwise_ne] at hnd
              exact List.pairwise_iff_getElem.mp hnd j' i (by omega) hil (by omega) (by rw [ej, ei])
            have fb7 : AtF K "_bits" (.ref a) Hb (.ref ba) := at_f ha7 T.c_Index T.n_Index_bits ((lk_tl (by decide +kernel)).trans ((lk_tl (by decide +kernel)).trans lk_hd))
            have hbm : bD es m (.int 0) = .int (maskL sl (markP m) : Nat) := by
              have q := hb7 m
              rw [if_neg hnot, hb0] at q
              by_cases c : maskL sl (markP m) = 0
              · rw [if_pos c] at q
                rw [bD_none q, c]
                rfl
              · rw [if_neg c] at q
                rw [bD_some q]
            walk_at "v"
            refine ⟨q, es, m, rfl, B7, hqm', ?_⟩
            rw [hbm]
            walk_at "v"
            refine r_gsub ?_
            walk_at "v"
            refine ⟨ba, q, es, m, _, rfl, rfl, rfl, B7, hqm', fun ob => ?_⟩
            obtain ⟨ob7, hob7⟩ := B7.ob
            have bne : ∀ {b : Addr} {o : HO}, Hb b = some o → o ≠ bO P w ba ob7 es → upd Hb ba (bO P w ba ob (bput es m q ((maskL sl (markP m) ||| 2 ^ j : Nat) : Int))) b = some o := fun {b o} hb ho => (upd_ne (ne_of hb hob7 ho)).trans hb
            have nI : ∀ {n : Nat}, idxO K adx sa ka ba n ≠ bO P w ba ob7 es := fun {n} z => by
              have z' : HO.ins _ _ _ = HO.ext _ := z
              cases z'
            obtain ⟨b1, b2, b3⟩ := bput_keys (m := m) (b := q) (i := ((maskL sl (markP m) ||| 2 ^ j : Nat) : Int)) hn7
            refine ⟨_, bput es m q _, rfl, bne ha7 nI, bne hs7 (by intro z; have z' : HO.lst _ = HO.ext _ := z; cases z'), bne k17 (by intro z; have z' : HO.dK _ = HO.ext _ := z; cases z'), B7.put hn7 hqm' (by omega), b1, by omega, fun m' => ?_, bne hmp7 (by intro z; have z' : HO.lst _ = HO.ext _ := z; cases z'), Pimp hmk7 fun b mm hb => bne hb (Ne.symm bO_tup), e7.wr (by simp)⟩
            rw [bval_put, hb7 m']
            obtain ⟨_, ei⟩ := List.getElem?_eq_some_iff.mp hm1
            have et : m' ∈ (marksOf sr).take (i + 1) ↔ m' ∈ (marksOf sr).take i ∨ m' = m := by
              rw [← List.take_append_getElem hil, ei, List.mem_append, List.mem_singleton]
            by_cases c : m' = m
            · rw [if_pos c, if_pos (et.mpr (.inr c)), c]
            · rw [if_neg c]
              by_cases c2 : m' ∈ (marksOf sr).take i
              · rw [if_pos c2, if_pos (et.mpr (.inl c2))]
              · rw [if_neg c2, if_neg fun z => (et.mp z).elim c2 c]
          · rintro σ Ha ⟨o, es, rfl, ha7, hs7, k17, B7, hn7, hl7, hb7, hmp7, hmk7, e7⟩
            have hperm := occ_set (s := sr) hj1
            rw [ho] at hperm
            have hmem : ∀ x, x ∈ occ (sl1.set j (some sr)) ↔ x ∈ occ sl ∨ x = sr := fun x => by
              rw [hperm.mem_iff, List.mem_cons]
              exact ⟨fun h => h.elim .inr .inl, fun h => h.elim .inr .inl⟩
            have hmask : ∀ p, maskL (sl1.set j (some sr)) p = maskL sl p ||| (if p sr = true then 2 ^ j else 0) := fun p => by rw [mask_set hj1, hm]
            refine k (sl1.set j (some sr)) Ha ⟨⟨adx, ?_⟩, hs7, by rw [List.length_set]; exact hl, ⟨_, k17, ?_, nd_putK _ k3 hnv, fun x hx => ?_, fun k' hk' => ?_⟩, ⟨es, B7, hn7, fun m => ?_⟩, fun x hx => ?_, ?_⟩ ((Exx.of e1).trans e7) hmem
            · rw [hmask]
              exact ha7
            · rw [putK_new _ hnv, List.length_append, hperm.length_eq, k2]
              rfl
            · rcases (hmem x).mp hx with hx | rfl
              · obtain ⟨v, hv, hsv⟩ := k4 x hx
                refine ⟨v, ?_, hsv.exx e7 hi1.nf⟩
                rw [valV_put, if_neg]
                · exact hv
                · intro z
                  rw [z, hnv] at hv
                  cases hv
              · exact ⟨.ref va, by rw [valV_put, if_pos rfl], (hs.ex e1).exx e7 hi1.nf⟩
            · rw [valV_put] at hk'
              by_cases c : k' = .inr (S (textL sr))
              · exact ⟨sr, (hmem sr).mpr (.inr rfl), c⟩
              · rw [if_neg c] at hk'
                obtain ⟨x, hx, e⟩ := k5 k' hk'
                exact ⟨x, (hmem x).mpr (.inl hx), e⟩
            · rw [hb7 m, List.length_map, Plen hmk7, List.take_length, hmask]
              by_cases c : markP m sr = true
              · have hne : maskL sl (markP m) ||| 2 ^ j ≠ 0 := fun z => by
                  have := congrArg (fun n => Nat.testBit n j) z
                  simp [Nat.testBit_or, Nat.testBit_two_pow] at this
                rw [if_pos ((mem_marks hok).mpr c), if_pos c, if_neg hne]
              · rw [if_neg fun z => c ((mem_marks hok).mp z), if_neg c, hb0]
                simp
            · rcases (hmem x).mp hx with hx | rfl
              · exact hi.sers x hx
              · exact hok
            · exact hperm.nodup_iff.mpr (List.nodup_cons.mpr ⟨hin, hi.nd⟩)
    · exact ⟨_, rfl, .inr ⟨hb, k⟩⟩
end
end
set_option Elab.async false
set_option linter.all false
set_option maxRecDepth 100000
set_option maxHeartbeats 4000000
/-! The index: drop. -/
section
open PySem PySem.Spec PyProof.Rows L2
open Evl (Ex given)

theorem r_dnotin {σ : L2.St} {H : Hp} {QB : VK} {ty td : TE} (h : ty σ H fun y H1 => td σ H1 fun x H2 => ∃ a o, x = .ref a ∧ DGet H2 a y o ∧ QB (.bl (!o.isSome)) H2) : tDNotIn ty td σ H QB := h
theorem r_bget {P : Program} {w : World} {σ : L2.St} {H : Hp} {Q : VK} {td ty : TE} (h : td σ H fun x H1 => ty σ H1 fun y H2 => ∃ a b es m i, x = .ref a ∧ y = .ref b ∧ BitsAt P w H2 a es ∧ H2 b = some (.tup (mkV m)) ∧ bval es m = some i ∧ Q (.int i) H2) : tBGet P w td ty σ H Q := h
theorem r_bdel {P : Program} {w : World} {σ : L2.St} {H : Hp} {D : Ends} {td ty : TE} (h : td σ H fun x H1 => ty σ H1 fun y H2 => ∃ a b es m i, x = .ref a ∧ y = .ref b ∧ BitsAt P w H2 a es ∧ H2 b = some (.tup (mkV m)) ∧ bval es m = some i ∧ ∀ ob, D.nx σ (upd H2 a (bO P w a ob (bdrop es m)))) : sBDel P w td ty D σ H := h
theorem r_ddel {σ : L2.St} {H : Hp} {D : Ends} {td ty : TE} (h : td σ H fun x H1 => ty σ H1 fun y H2 => ∃ a kvs k, x = .ref a ∧ H2 a = some (.dK kvs) ∧ y = kV k ∧ (valV kvs k).isSome = true ∧ D.nx σ (upd H2 a (.dK (dropK kvs k)))) : sDDel td ty D σ H := h
theorem xor_pow {n j : Nat} (h : n.testBit j = true) : (n ^^^ 2 ^ j).testBit j = false := by
  rw [Nat.testBit_xor, h, Nat.testBit_two_pow]
  simp
section
variable {P : Program} {w : World} {K : PySem.W.Frag} {mg : Str → Option Value} {base : Heap}
def spDrop (P : Program) (w : World) (K : PySem.W.Frag) : Sp := fun vs H Q E => ∃ (a sa ka ba : Addr) (sl : Slots) (v : V), vs = [.ref a, v] ∧ IdxAt P w K H a sa ka ba sl ∧
  ((∃ s, SerAt K H v s ∧ ∀ sl' H', IdxAt P w K H' a sa ka ba sl' → Exx [a, sa, ka, ba] H H' → (∀ x, x ∈ occ sl' ↔ x ∈ occ sl ∧ x ≠ s) → Q .non H') ∨ (Bi K H v ∧ Thrown K "InvalidSeries" v H E))
theorem sc_Index_drop : FnScope ["self", "series", "text", "slot", "mark"] ["self", "series"] (defScope s_Index_drop) := ⟨rfl, rfl, rfl, by decide +kernel, rfl, by decide +kernel, by decide +kernel⟩
theorem ok_Index_drop (T : Txt K mg) : GoodM P w K mg base "Index" "drop" 4 ["self", "series"] (spDrop P w K) := by
  have G_check_series := ok_check_series (P := P) (w := w) (base := base) T
  have G_Series_text := ok_Series_text (P := P) (w := w) (base := base) T
  have G_marks_of := ok_marks_of (P := P) (w := w) (base := base) T
  obtain ⟨fd, F⟩ := T.f_Index_drop
  refine good_ofX F sc_Index_drop (fun vs H Q E h => ?_) (fun _ _ _ _ _ _ us hl => match us, hl with | [_, _], _ => rfl) (fun cdv A outer s H vs Q E hr h => ?_)
  · obtain ⟨a, sa, ka, ba, sl, v, rfl, _⟩ := h
    rfl
  · obtain ⟨a, sa, ka, ba, sl, v, rfl, hi, h⟩ := h
    have hu := hu_of hr
    refine ⟨_, (pss_cons (ps_expr (pcallX G_check_series hr T.g_check_series (takes_of rfl rfl rfl rfl) (pa_cons (pv 1) pa_nil)))
    (pss_cons (ps_set (i := 2) sc_Index_drop.nd rfl (Or.inl rfl) (pmeth0 (pv 1) T.c_Series T.m_Series_text G_Series_text hr))
    (pss_cons (ps_if (pt_cmp (pc_dnotin hu (pv 2) (pe_fld (pv 0) rfl))) (pss_one ps_retN) pss_nil)
    (pss_cons (ps_set (i := 3) sc_Index_drop.nd rfl (Or.inl rfl) (pe_bm PySem.F.plainAttrs_list PySem.F.slot_list_index PySem.F.type_list_index mt_index (pe_fld (pv 0) rfl) (pa_cons (pv 2) pa_nil)))
    (pss_cons (ps_asg (pe_kstr (T.k_FREE)) (pg_sub (pe_fld (pv 0) rfl) (pv 3) set_list))
    (pss_cons (ps_fld (pv 0) (pe_op op_xorN (pe_fld (pv 0) rfl) (pe_op op_shl1 pe_int (pv 3))) rfl)
    (pss_cons (ps_for (passes_of rfl) rfl (pi_list (pcall G_marks_of hr T.g_marks_of (pa_cons (pe_dget hu (pe_fld (pv 0) rfl) (pv 2) (fun _ _ => rfl)) pa_nil))) (pg_name (i := 4) sc_Index_drop.nd rfl (Or.inl rfl))
    (pss_cons (ps_asg (pe_op op_xorN (pe_bget hu (pe_fld (pv 0) rfl) (pv 4) (fun _ _ => rfl)) (pe_op op_shl1 pe_int (pv 3))) (pg_sub (pe_fld (pv 0) rfl) (pv 4) (set_bits hu)))
    (pss_one (ps_if (pt_cmpR op_eq (pe_bget hu (pe_fld (pv 0) rfl) (pv 4) (fun _ _ => rfl)) pe_int (nomark _)) (pss_one (ps_bdel hu (pe_fld (pv 0) rfl) (pv 4))) pss_nil))))
    (pss_one (ps_ddel (pe_fld (pv 0) rfl) (pv 2)))))))))), ?_⟩
    walk_at "v"
    rcases h with ⟨sr, hs, k⟩ | ⟨hb, k⟩
    · obtain ⟨⟨va, vdx, vtp, vqs, rfl, v2, v3, v4⟩, hok⟩ := id hs
      refine ⟨_, rfl, .inl ⟨va, vdx, _, rfl, v2, ?_⟩⟩
      walk_at "v"
      refine ⟨is_ins v2 ((lk_tl (by decide +kernel)).trans ((lk_tl (by decide +kernel)).trans rfl)), ?_⟩
      walk_at "v"
      refine ⟨_, sr, rfl, hs, fun H1 e1 => ?_⟩
      have hi1 := hi.ex e1
      have fk := hi1.fk T
      have fs := hi1.fs T
      have fa := hi1.fa T
      walk_at "v"
      refine r_dnotin ?_
      walk_at "v"
      obtain ⟨kvs, k1, k2, k3, k4, k5⟩ := hi1.known.ex
      refine ⟨ka, _, rfl, DGet.k (k := .inr (S (textL sr))) k1, ?_⟩
      walk_at "v"
      by_cases hin : sr ∈ occ sl
      · obtain ⟨kv, hkv, hks⟩ := k4 sr hin
        obtain ⟨adx, ha1⟩ := hi1.ob
        have hs1 := hi1.slots
        rw [hkv]
        refine iteF ?_
        walk_at "v"
        have hmt : textL sr ∈ sl.map slotT := by
          obtain ⟨i, hi0⟩ := mem_occ.mp hin
          exact List.mem_map.mpr ⟨_, List.mem_of_getElem? hi0, rfl⟩
        obtain ⟨j, hj, hjf⟩ := first_at hmt
        have hj1 : sl[j]? = some (some sr) := by
          rw [List.getElem?_map] at hj
          cases e : sl[j]? with
          | none =>
            rw [e] at hj
            cases hj
          | some o =>
            rw [e] at hj
            have q : slotT o = textL sr := Option.some.inj hj
            cases o with
            | none => exact absurd q.symm textL_ne
            | some s => rw [textL_inj (hi.sers s (mem_occ.mpr ⟨j, e⟩)) hok q]
        have hjl := (List.getElem?_eq_some_iff.mp hj1).1
        have hsm := hi.small
        refine r_indexS (k := textL sr) (zs := sl.map slotT) (SqL.of (by rw [← slot_map]; exact hs1)) hj hjf ?_
        walk_at "v"
        refine r_gsub ?_
        walk_at "v"
        refine ⟨sa, _, (j : Nat), j, rfl, rfl, hs1, Evl.ixN_nat (by rw [List.length_map]; exact hjl), ?_⟩
        have es1 : (sl.map slotV).set j (V.str "") = (sl.set j none).map slotV := by
          rw [List.map_set]
          rfl
        rw [es1]
        have asa : a ≠ sa := ne_of ha1 hs1 (by intro z; cases z)
        have kas : ka ≠ sa := ne_of k1 hs1 (by intro z; cases z)
        obtain ⟨H3, hH3⟩ : ∃ H3 : Hp, H3 = upd H1 sa (.lst ((sl.set j none).map slotV)) := ⟨_, rfl⟩
        rw [← hH3]
        have hs3 : H3 sa = some (.lst ((sl.set j none).map slotV)) := by rw [hH3, upd_same]
        have ha3 : H3 a = some (idxO K adx sa ka ba (maskL sl tru)) := by rw [hH3, upd_ne asa]; exact ha1
        have k13 : H3 ka = some (.dK kvs) := by rw [hH3, upd_ne kas]; exact k1
        have e3 : Exx [sa] H1 H3 := by rw [hH3]; exact (Exx.refl _ _).wr (by simp)
        have fa3 : AtF K "_all" (.ref a) H3 (.int (maskL sl tru : Nat)) := at_f ha3 T.c_Index T.n_Index_all ((lk_tl (by decide +kernel)).trans ((lk_tl (by decide +kernel)).trans ((lk_tl (by decide +kernel)).trans lk_hd)))
        walk_at "v"
        refine ⟨a, _, adx, _, rfl, ha3, T.c_Index, T.n_Index_all, by show 4 < 1000; decide, ?_⟩
        rw [pf_tl (by decide +kernel), pf_tl (by decide +kernel), pf_tl (by decide +kernel), pf_hd]
        have aka : a ≠ ka := ne_of ha3 k13 (by intro z; cases z)
        obtain ⟨H5, hH5⟩ : ∃ H5 : Hp, H5 = upd H3 a (idxO K adx sa ka ba (maskL sl tru ^^^ 2 ^ j)) := ⟨_, rfl⟩
        rw [← hH5]
        have hs5 : H5 sa = some (.lst ((sl.set j none).map slotV)) := by rw [hH5, upd_ne asa.symm]; exact hs3
        have ha5 : H5 a = some (idxO K adx sa ka ba (maskL sl tru ^^^ 2 ^ j)) := by rw [hH5, upd_same]
        have k15 : H5 ka = some (.dK kvs) := by rw [hH5, upd_ne aka.symm]; exact k13
        have e5 : Exx [a, sa] H1 H5 := by rw [hH5]; exact (e3.mono (by simp)).wr (by simp)
        have e5' : Exx [a, sa, ka, ba] H1 H5 := e5.mono (by intro b hb; simp only [List.mem_cons, List.not_mem_nil, or_false] at hb ⊢; rcases hb with hb | hb <;> simp [hb])
        obtain ⟨es0, B0, hn0, hb0⟩ := hi1.bits.ex
        have B5 : BitsAt P w H5 ba es0 := by
          obtain ⟨⟨ob, b1⟩, b2, b3⟩ := B0
          have q1 : ba ≠ a := ne_of b1 ha1 (by intro z; have z' : HO.ext _ = HO.ins _ _ _ := z; cases z')
          have q2 : ba ≠ sa := ne_of b1 hs1 (by intro z; have z' : HO.ext _ = HO.lst _ := z; cases z')
          refine ⟨⟨ob, e5 _ _ b1 (by simp [q1, q2])⟩, fun e he => e5' _ _ (b2 e he) fun z => (hi1.nf _ z).1 _ (b2 e he), b3⟩
        have hs5r : SerAt K H5 kv sr := hks.exx e5' hi1.nf
        have fk5 : AtF K "_known" (.ref a) H5 (.ref ka) := at_f ha5 T.c_Index T.n_Index_known ((lk_tl (by decide +kernel)).trans lk_hd)
        walk_at "v"
        refine x_dget k15 hkv ?_
        walk_at "v"
        refine ⟨_, sr, rfl, hs5r, fun mp qs H6 e6 hmp hmpn hmk => ?_⟩
        walk_at "v"
        have hmask : ∀ p, maskL (sl.set j none) p = maskL sl p ^^^ (if p sr = true then 2 ^ j else 0) := fun p => mask_clear hj1 p
        refine for_it (walk_list (xs := qs.map V.ref)) (fun i σ H' => ∃ o es, σ = [some (.ref a), some (.ref va), some (vS (textL sr)), some (.int (j : Nat)), o] ∧ H' a = some (idxO K adx sa ka ba (maskL sl tru ^^^ 2 ^ j)) ∧ H' sa = some (.lst ((sl.set j none).map slotV)) ∧
            H' ka = some (.dK kvs) ∧ BitsAt P w H' ba es ∧ (es.map (·.1)).Nodup ∧ (∀ m, bval es m = if m ∈ (marksOf sr).take i then (if maskL (sl.set j none) (markP m) = 0 then none else some ((maskL (sl.set j none) (markP m) : Nat) : Int)) else bval es0 m) ∧
            H' mp = some (.lst (qs.map V.ref)) ∧ Paired (MarkAt H') qs (marksOf sr) ∧ Exx [a, sa, ka, ba] H1 H')
          ⟨none, es0, rfl, e6 _ _ ha5, e6 _ _ hs5, e6 _ _ k15, B5.ex' e6, hn0, fun m => by simp, hmp, hmk, e5'.trans (Exx.of e6)⟩ (fun i σ H' _ h => ?_) ?_ ?_
        · obtain ⟨_, _, _, _, _, _, _, _, _, h, _⟩ := h
          exact SqL.of h
        · rintro i x σ Ha Hb hi2 ⟨o, es, rfl, ha7, hs7, k17, B7, hn7, hb7, hmp7, hmk7, e7⟩ ⟨rfl, hx⟩
          obtain ⟨q, hq, rfl⟩ := refs_at hx
          obtain ⟨m, hm1, hqm⟩ := Pat hmk7 hq
          have hqm' : Hb q = some (.tup (mkV m)) := hqm
          have hil : i < (marksOf sr).length := (List.getElem?_eq_some_iff.mp hm1).1
          have hnot : m ∉ (marksOf sr).take i := fun hmem => by
            obtain ⟨j', hj', ej⟩ := List.getElem_of_mem hmem
            rw [List.length_take] at hj'
            rw [List.getElem_take] at ej
            obtain ⟨_, ei⟩ := List.getElem?_eq_some_iff.mp hm1
            have hnd := marks_nodup hok
            rw [List.nodup_iff_pairwise_ne] at hnd
            exact List.pairwise_iff_getElem.mp hnd j' i (by omega) hil (by omega) (by rw [ej, ei])
          have hmp2 : markP m sr = true := (mem_marks hok).mp (List.mem_of_getElem? hm1)
          have hne0 : maskL sl (markP m) ≠ 0 := fun z => by
            have := mask_zero.mp z sr hin
            rw [hmp2] at this
            cases this
          have hbv : bval es m = some ((maskL sl (markP m) : Nat) : Int) := by rw [hb7 m, if_neg hnot, hb0, if_neg hne0]
          have hnew : maskL sl (markP m) ^^^ 2 ^ j = maskL (sl.set j none) (markP m) := by rw [hmask, if_pos hmp2]
          have fb7 : AtF K "_bits" (.ref a) Hb (.ref ba) := at_f ha7 T.c_Index T.n_Index_bits ((lk_tl (by decide +kernel)).trans ((lk_tl (by decide +kernel)).trans lk_hd))
          walk_at "v"
          refine r_bget ?_
          walk_at "v"
          refine ⟨ba, q, es, m, _, rfl, rfl, B7, hqm', hbv, ?_⟩
          walk_at "v"
          refine r_gsub ?_
          walk_at "v"
          refine ⟨ba, q, es, m, _, rfl, rfl, rfl, B7, hqm', fun ob => ?_⟩
          rw [hnew]
          obtain ⟨ob7, hob7⟩ := B7.ob
          have nI : ∀ {n : Nat} {ob : Obj} {es : List Ent}, idxO K adx sa ka ba n ≠ bO P w ba ob es := fun {n ob es} z => by
            have z' : HO.ins _ _ _ = HO.ext _ := z
            cases z'
          have nL : ∀ {xs : List V} {ob : Obj} {es : List Ent}, HO.lst xs ≠ bO P w ba ob es := fun {n ob es} z => by
            have z' : HO.lst _ = HO.ext _ := z
            cases z'
          have nD : ∀ {xs : List (Key × V)} {ob : Obj} {es : List Ent}, HO.dK xs ≠ bO P w ba ob es := fun {n ob es} z => by
            have z' : HO.dK _ = HO.ext _ := z
            cases z'
          have bne : ∀ {b : Addr} {o : HO}, Hb b = some o → o ≠ bO P w ba ob7 es → upd Hb ba (bO P w ba ob (bput es m q ((maskL (sl.set j none) (markP m) : Nat) : Int))) b = some o := fun {b o} hb ho => (upd_ne (ne_of hb hob7 ho)).trans hb
          obtain ⟨b1, b2, b3⟩ := bput_keys (m := m) (b := q) (i := ((maskL (sl.set j none) (markP m) : Nat) : Int)) hn7
          have hl8 : (bput es m q ((maskL (sl.set j none) (markP m) : Nat) : Int)).length ≤ 5000 := by
            unfold bput
            rw [hbv]
            show (es.map _).length ≤ 5000
            rw [List.length_map]
            exact B7.small
          have B8 : BitsAt P w (upd Hb ba (bO P w ba ob (bput es m q ((maskL (sl.set j none) (markP m) : Nat) : Int)))) ba (bput es m q ((maskL (sl.set j none) (markP m) : Nat) : Int)) := by
            refine ⟨⟨ob, upd_same⟩, fun e he => ?_, hl8⟩
            rcases b3 e he with ⟨c1, c2⟩ | ⟨e', he', c1, c2⟩
            · rw [c2, c1]
              exact bne hqm' (Ne.symm bO_tup)
            · have := B7.keys e' he'
              rw [c1, c2] at this
              exact bne this (Ne.symm bO_tup)
          have a8 := bne ha7 nI
          have s8 := bne hs7 nL
          have k8 := bne k17 nD
          have q8 := bne hqm' (Ne.symm bO_tup)
          have mp8 := bne hmp7 nL
          have mk8 := Pimp hmk7 fun b mm hb => bne hb (Ne.symm bO_tup)
          have e8 : Exx [a, sa, ka, ba] H1 (upd Hb ba (bO P w ba ob (bput es m q ((maskL (sl.set j none) (markP m) : Nat) : Int)))) := e7.wr (by simp)
          have fb8 : AtF K "_bits" (.ref a) (upd Hb ba (bO P w ba ob (bput es m q ((maskL (sl.set j none) (markP m) : Nat) : Int)))) (.ref ba) := at_f a8 T.c_Index T.n_Index_bits ((lk_tl (by decide +kernel)).trans ((lk_tl (by decide +kernel)).trans lk_hd))
          have hbv8 : bval (bput es m q ((maskL (sl.set j none) (markP m) : Nat) : Int)) m = some ((maskL (sl.set j none) (markP m) : Nat) : Int) := by rw [bval_put, if_pos rfl]
          obtain ⟨_, ei⟩ := List.getElem?_eq_some_iff.mp hm1
          have et : ∀ m', m' ∈ (marksOf sr).take (i + 1) ↔ m' ∈ (marksOf sr).take i ∨ m' = m := fun m' => by
            rw [← List.take_append_getElem hil, ei, List.mem_append, List.mem_singleton]
          walk_at "v"
          refine r_bget ?_
          walk_at "v"
          refine ⟨ba, q, _, m, _, rfl, rfl, B8, q8, hbv8, ?_⟩
          walk_at "v"
          refine ite2 (fun c => ?_) (fun c => ?_)
          · have c0 : maskL (sl.set j none) (markP m) = 0 := by
              have q := of_decide_eq_true c
              injection q with q
              omega
            refine r_bdel ?_
            walk_at "v"
            refine ⟨ba, q, _, m, _, rfl, rfl, B8, q8, hbv8, fun ob9 => ?_⟩
            have bne9 : ∀ {b : Addr} {o : HO} {u : HO}, upd Hb ba (bO P w ba ob (bput es m q ((maskL (sl.set j none) (markP m) : Nat) : Int))) b = some o → o ≠ bO P w ba ob (bput es m q ((maskL (sl.set j none) (markP m) : Nat) : Int)) → upd (upd Hb ba (bO P w ba ob (bput es m q ((maskL (sl.set j none) (markP m) : Nat) : Int)))) ba u b = some o := fun {b o u} hb ho => (upd_ne (ne_of hb upd_same ho)).trans hb
            refine ⟨_, bdrop (bput es m q ((maskL (sl.set j none) (markP m) : Nat) : Int)) m, rfl, bne9 a8 nI, bne9 s8 nL, bne9 k8 nD, B8.drop b1, (bdrop_keys b1).1, fun m' => ?_, bne9 mp8 nL, Pimp mk8 fun b mm hb => bne9 hb (Ne.symm bO_tup), e8.wr (by simp)⟩
            rw [bval_drop, bval_put, hb7 m']
            by_cases c1 : m' = m
            · rw [if_pos c1, if_pos ((et m').mpr (.inr c1)), c1, if_pos c0]
            · rw [if_neg c1, if_neg c1]
              by_cases c2 : m' ∈ (marksOf sr).take i
              · rw [if_pos c2, if_pos ((et m').mpr (.inl c2))]
              · rw [if_neg c2, if_neg fun z => ((et m').mp z).elim c2 c1]
          · have c0 : maskL (sl.set j none) (markP m) ≠ 0 := fun z => c (by rw [z]; rfl)
            refine ⟨_, bput es m q ((maskL (sl.set j none) (markP m) : Nat) : Int), rfl, a8, s8, k8, B8, b1, fun m' => ?_, mp8, mk8, e8⟩
            rw [bval_put, hb7 m']
            by_cases c1 : m' = m
            · rw [if_pos c1, if_pos ((et m').mpr (.inr c1)), c1, if_neg c0]
            · rw [if_neg c1]
              by_cases c2 : m' ∈ (marksOf sr).take i
              · rw [if_pos c2, if_pos ((et m').mpr (.inl c2))]
              · rw [if_neg c2, if_neg fun z => ((et m').mp z).elim c2 c1]
        · rintro σ Ha ⟨o, es, rfl, ha7, hs7, k17, B7, hn7, hb7, hmp7, hmk7, e7⟩
          have fk7 : AtF K "_known" (.ref a) Ha (.ref ka) := at_f ha7 T.c_Index T.n_Index_known ((lk_tl (by decide +kernel)).trans lk_hd)
          walk_at "v"
          show sDDel (tFld K (tVar 0) "_known") (tVar 2) { nx := fun _ H' => Q .non H', rt := Q } _ _
          refine r_ddel ?_
          walk_at "v"
          refine ⟨ka, kvs, .inr (S (textL sr)), rfl, k17, rfl, by rw [hkv]; rfl, ?_⟩
          have hperm := occ_clear hj1
          have hnd9 := hperm.nodup_iff.mpr hi.nd
          rw [List.nodup_cons] at hnd9
          have hmem : ∀ x, x ∈ occ (sl.set j none) ↔ x ∈ occ sl ∧ x ≠ sr := fun x => by
            rw [← hperm.mem_iff, List.mem_cons]
            constructor
            · intro h
              exact ⟨.inr h, fun z => hnd9.1 (z ▸ h)⟩
            · rintro ⟨h1 | h1, h2⟩
              · exact absurd h1 h2
              · exact h1
          obtain ⟨obB, hobB⟩ := B7.ob
          have kne : ∀ {b : Addr} {o : HO} {u : HO}, Ha b = some o → o ≠ .dK kvs → upd Ha ka u b = some o := fun {b o u} hb ho => (upd_ne (ne_of hb k17 ho)).trans hb
          have eN : Exx [a, sa, ka, ba] H1 (upd Ha ka (.dK (dropK kvs (.inr (S (textL sr)))))) := e7.wr (by simp)
          have hkm : (.inr (S (textL sr)) : Key) ∈ kvs.map (·.1) := valV_in hkv
          have hdl := dropK_len k3 hkm
          have hpl := hperm.length_eq
          rw [List.length_cons] at hpl
          refine k (sl.set j none) _ ⟨⟨adx, ?_⟩, kne hs7 (by intro z; cases z), by rw [List.length_set]; exact hsm, ⟨_, upd_same, by omega, nd_dropK k3, fun x hx => ?_, fun k' hk' => ?_⟩, ⟨es, ⟨⟨obB, kne hobB (by intro z; have z' : HO.ext _ = HO.dK _ := z; cases z')⟩, fun e he => kne (B7.keys e he) (by intro z; cases z), B7.small⟩, hn7, fun m => ?_⟩, fun x hx => hi.sers x ((hmem x).mp hx).1, hnd9.2⟩ ((Exx.of e1).trans eN) hmem
          · rw [hmask]
            exact kne ha7 (by intro z; cases z)
          · obtain ⟨v, hv, hsv⟩ := k4 x ((hmem x).mp hx).1
            refine ⟨v, ?_, hsv.exx eN hi1.nf⟩
            rw [valV_drop, if_neg]
            · exact hv
            · intro z
              injection z with z
              exact ((hmem x).mp hx).2 (textL_inj (hi.sers x ((hmem x).mp hx).1) hok (S_inj z))
          · rw [valV_drop] at hk'
            by_cases c : k' = .inr (S (textL sr))
            · rw [if_pos c] at hk'
              cases hk'
            · rw [if_neg c] at hk'
              obtain ⟨x, hx, e⟩ := k5 k' hk'
              exact ⟨x, (hmem x).mpr ⟨hx, fun z => c (by rw [e, z])⟩, e⟩
          · rw [hb7 m, List.length_map, Plen hmk7, List.take_length]
            by_cases c : markP m sr = true
            · rw [if_pos ((mem_marks hok).mpr c)]
            · rw [if_neg fun z => c ((mem_marks hok).mp z), hb0, hmask, if_neg c]
              simp
      · have hnv : valV kvs (.inr (S (textL sr))) = none := by
          cases q : valV kvs (.inr (S (textL sr))) with
          | none => rfl
          | some v =>
            obtain ⟨x, hx, e⟩ := k5 _ (by rw [q]; rfl)
            injection e with e
            exact absurd (textL_inj hok (hi.sers x hx) (S_inj e) ▸ hx) hin
        rw [hnv]
        refine iteT ?_
        exact k sl H1 hi1 (Exx.of e1) fun x => ⟨fun h => ⟨h, fun z => hin (z ▸ h)⟩, fun h => h.1⟩
    · exact ⟨_, rfl, .inr ⟨hb, k⟩⟩
end
end
set_option Elab.async false
set_option linter.all false
set_option maxRecDepth 100000
set_option maxHeartbeats 4000000
/-! Readings: dict comprehensions. -/
section
open PySem PySem.Spec PyProof.Rows L2
open Evl (Ex given)
section
variable {X : Cx} {K : PySem.W.Frag}
theorem call_isiN (hK : X.K = K) : CallR X (.builtin "isinstance") (rIsi K) := by
  subst hK
  exact call_isi
def DcW (J : It) (g : TG) (tt : TT) (tk tv : TE) (vs : List Nat) (Q : VK) (σ : L2.St) (H1 : Hp) (D : Addr) : Prop := ∃ W : Nat → Nat → Hp → Prop, (∃ m, W 0 m (upd H1 D (.dK []))) ∧ ∀ i m H, W i m H →
  (J.stop i H ∧ Q (.ref D) H) ∨ (J.go i H ∧ ∃ Nx : Hp → Prop, (∀ H', Nx H' → ∃ m', m' < m ∧ W (i + 1) m' H') ∧ ∀ x H', J.yld i H x H' → g x (wipe σ vs) H' fun σ2 H2 => wipe σ2 vs = wipe σ vs ∧ tt σ2 H2 fun b H3 =>
    if b = true then tk σ2 H3 fun y H4 => tv σ2 H4 fun z H5 => ∃ kvs k, y = kV k ∧ H5 D = some (.dK kvs) ∧ kvs.length < sizeLine ∧ Nx (upd H5 D (.dK (putK kvs k z))) else Nx H3)
theorem r_dc {wi : TI} {g : TG} {tt : TT} {tk tv : TE} {vs : List Nat} {Q : VK} {σ : L2.St} {H : Hp} (h : wi σ H fun J H1 => ∀ D, H1 D = none → DcW J g tt tk tv vs Q σ H1 D) : tDc wi g tt tk tv vs σ H Q := h
theorem dc_w {J : It} {n : Nat} {G : Hp → Prop} {Y : Nat → Hp → V → Hp → Prop} (w : Walk J n G Y) {g : TG} {tt : TT} {tk tv : TE} {vs : List Nat} {Q : VK} {σ : L2.St} {H1 : Hp} {D : Addr} (Pv : Nat → Hp → Prop) (h0 : Pv 0 (upd H1 D (.dK []))) (hG : ∀ i H, i ≤ n → Pv i H → G H)
    (hs : ∀ i x H H', i < n → Pv i H → Y i H x H' → g x (wipe σ vs) H' fun σ2 H2 => wipe σ2 vs = wipe σ vs ∧ tt σ2 H2 fun b H3 =>
      if b = true then tk σ2 H3 fun y H4 => tv σ2 H4 fun z H5 => ∃ kvs k, y = kV k ∧ H5 D = some (.dK kvs) ∧ kvs.length < sizeLine ∧ Pv (i + 1) (upd H5 D (.dK (putK kvs k z))) else Pv (i + 1) H3) (hd : ∀ H, Pv n H → Q (.ref D) H) :
    DcW J g tt tk tv vs Q σ H1 D := by
  refine ⟨fun i m H => m = n - i ∧ i ≤ n ∧ Pv i H, ⟨n, by simp, Nat.zero_le _, h0⟩, ?_⟩
  rintro i m H ⟨rfl, hi, p⟩
  by_cases hlt : i < n
  · exact .inr ⟨w.goes i H hlt (hG i H hi p), Pv (i + 1), fun H' p' => ⟨n - (i + 1), by omega, rfl, hlt, p'⟩, fun x H' y => hs i x H H' hlt p (w.yields i H x H' hlt (hG i H hi p) y)⟩
  · have e : i = n := by omega
    subst e
    exact .inl ⟨w.stops H (hG i H hi p), hd H p⟩
end
/-- a dict from texts to values -/
def kvsOf (l : List (Ser × V)) : List (Key × V) := l.map fun x => (.inr (S (textL x.1)), x.2)
theorem kvs_none {l : List (Ser × V)} {t : List Nat} (h : ∀ x ∈ l, textL x.1 ≠ t) : valV (kvsOf l) (.inr (S t)) = none := by
  induction l with
  | nil => rfl
  | cons x l ih =>
    show valV ((.inr (S (textL x.1)), x.2) :: kvsOf l) _ = none
    rw [valV_neg, ih fun y hy => h y (by simp [hy])]
    intro z
    injection z with z
    exact h x (by simp) (S_inj z)
theorem kvs_at {l : List (Ser × V)} : ∀ {i : Nat} {x : Ser × V}, (l.map fun x => textL x.1).Nodup → l[i]? = some x → valV (kvsOf l) (.inr (S (textL x.1))) = some x.2 := by
  induction l with
  | nil =>
    intro i x _ h
    simp at h
  | cons y l ih =>
    intro i x hn h
    rw [List.map_cons, List.nodup_cons] at hn
    show valV ((.inr (S (textL y.1)), y.2) :: kvsOf l) _ = _
    cases i with
    | zero =>
      simp only [List.getElem?_cons_zero, Option.some.injEq] at h
      subst h
      rw [valV_pos rfl]
    | succ i =>
      have h' : l[i]? = some x := by simpa using h
      rw [valV_neg, ih hn.2 h']
      intro z
      injection z with z
      exact hn.1 (by rw [S_inj z]; exact List.mem_map.mpr ⟨x, List.mem_of_getElem? h', rfl⟩)
theorem riseTx_nodup {rows : List Ser} (h : RiseTx rows) : (rows.map textL).Nodup := by
  rw [List.nodup_iff_pairwise_ne, List.pairwise_map]
  refine h.imp ?_
  intro a b hlt z
  rw [z] at hlt
  exact List.lt_irrefl _ hlt
end
set_option Elab.async false
set_option linter.all false
set_option maxRecDepth 100000
set_option maxHeartbeats 4000000
/-! The module's own chosen. -/
section
open PySem PySem.Spec PyProof.Rows L2
open Evl (Ex given)

section
variable {P : Program} {w : World} {K : PySem.W.Frag} {mg : Str → Option Value} {base : Heap}
def spCsl (K : PySem.W.Frag) : Sp := fun vs H Q _ => ∃ (a : Addr) (xs : List V) (rows : List Ser), vs = [.ref a] ∧ H a = some (.lst xs) ∧ Paired (SerAt K H) xs rows ∧ xs.length ≤ 1000 ∧ ∀ H', Ex H H' → Q .non H'
theorem sc_check_series_list : FnScope ["series", "one"] ["series"] (defScope s_check_series_list) := ⟨rfl, rfl, rfl, by decide +kernel, rfl, by decide +kernel, by decide +kernel⟩
theorem ok_check_series_list (T : Txt K mg) : GoodP P w K mg base "check_series_list" 2 ["series"] (spCsl K) := by
  have G_is_list := ok_is_list (P := P) (w := w) (base := base) T
  obtain ⟨fd, F⟩ := T.f_check_series_list
  refine good_of F sc_check_series_list (fun vs H Q E h => ?_) (fun _ _ _ _ _ _ us hl => match us, hl with | [_], _ => rfl) (fun cdv A outer s H vs Q E hr h => ?_)
  · obtain ⟨a, xs, rows, rfl, _⟩ := h
    rfl
  · obtain ⟨a, xs, rows, rfl, ha, hp, hl, k⟩ := h
    refine ⟨_, (pss_one (ps_if (PW.pt (pw_or (pt_not (pt_val (pcall G_is_list hr T.g_is_list (pa_cons (pv 0) pa_nil)))) (pw_or1 (pt_not (pt_val (pe_callB (cr_all rfl) rfl T.z_all (by decide +kernel) (pa_cons (pe_lc (own := [("one", 1)]) rfl sc_check_series_list.nd (pi_list (pv 0)) (blkOk_by (N := ["series", "one"]) (sc := defScope s_check_series_list) (by decide +kernel)) (fun _ _ _ _ _ => (pg_name (i := 1) sc_check_series_list.nd rfl (Or.inl rfl))) (fun _ _ _ _ _ => pts_nil) (fun _ _ _ _ _ => (pe_callB (call_isiN (K := K) rfl) rfl T.z_isinstance (by decide +kernel) (pa_cons (pv 1) (pa_cons (pe_gref T.g_Series) pa_nil))))) pa_nil))))))) (pss_one ps_never) pss_nil)), ?_⟩
    walk_at "v"
    refine ⟨a, xs, rfl, ha, fun H1 e1 => ?_⟩
    have ha1 := e1 _ _ ha
    walk_at "v"
    intro D hD
    refine lc_v walk_list (fun _ => true) (fun _ => .bl true) hD (by omega) (fun H2 e2 => SqL.of (e2 _ _ ha1)) ?_ (fun H2 e2 hd => ?_)
    · rintro N i x Ha Hb hi ea ⟨rfl, hx⟩ _ hyes
      obtain ⟨s, hs, hxs⟩ := Pat hp hx
      obtain ⟨⟨b, dx, tp, qs, rfl, h2, _⟩, _⟩ := hxs.ex (e1.trans ea)
      walk_at "v"
      refine ⟨rfl, yes_ ?_⟩
      walk_at "v"
      exact ⟨_, _, _, _, true, rfl, .own _, T.tyIns (by decide +kernel) T.c_Series h2, kit_self _, hyes rfl _ (Ex.refl _)⟩
    · have hg : given xs.length (fun _ => true) (fun _ => V.bl true) = (xs.map fun _ => true).map V.bl := by
        rw [given_all xs (fun _ => V.bl true) _ (fun _ _ => rfl), List.map_map]
        rfl
      rw [hg] at hd
      walk_at "v"
      refine ⟨D, _, rfl, SqL.of hd, ?_⟩
      have : (xs.map fun _ => true).all id = true := by
        rw [List.all_map]
        simp
      rw [this]
      walk_at "v"
      exact k H2 (e1.trans e2)
def spInOrder (K : PySem.W.Frag) : Sp := fun vs H Q _ => ∃ (a : Addr) (xs : List V) (rows : List Ser), vs = [.ref a] ∧ H a = some (.lst xs) ∧ Paired (SerAt K H) xs rows ∧ RiseTx rows ∧ rows.length ≤ 50 ∧
  ∀ p H', Ex H H' → H p = none → H' p = some (.lst xs) → Q (.ref p) H'
theorem sc_in_order : FnScope ["series", "by_text", "one", "text"] ["series"] (defScope s_in_order) := ⟨rfl, rfl, rfl, by decide +kernel, rfl, by decide +kernel, by decide +kernel⟩
theorem ok_in_order (T : Txt K mg) : GoodP P w K mg base "in_order" 3 ["series"] (spInOrder K) := by
  have G_check_series_list := ok_check_series_list (P := P) (w := w) (base := base) T
  have G_Series_text := ok_Series_text (P := P) (w := w) (base := base) T
  obtain ⟨fd, F⟩ := T.f_in_order
  refine good_of F sc_in_order (fun vs H Q E h => ?_) (fun _ _ _ _ _ _ us hl => match us, hl with | [_], _ => rfl) (fun cdv A outer s H vs Q E hr h => ?_)
  · obtain ⟨a, xs, rows, rfl, _⟩ := h
    rfl
  · obtain ⟨a, xs, rows, rfl, ha, hp, hrt, hl, k⟩ := h
    have hu := hu_of hr
    have hxl := Plen hp
    refine ⟨_, (pss_cons (ps_expr (pcall G_check_series_list hr T.g_check_series_list (pa_cons (pv 0) pa_nil)))
    (pss_cons (ps_set (i := 1) sc_in_order.nd rfl (Or.inr rfl) (pe_dc (own := [("one", 2)]) rfl sc_in_order.nd (pi_list (pv 0)) (blkOk_by (N := ["series", "by_text", "one", "text"]) (sc := defScope s_in_order) (by decide +kernel)) (fun _ _ _ _ _ => (pg_name (i := 2) sc_in_order.nd rfl (Or.inl rfl))) (fun _ _ _ _ _ => pts_nil) (fun _ _ _ _ _ => (pmeth0 (pv 2) T.c_Series T.m_Series_text G_Series_text hr)) (fun _ _ _ _ _ => (pv 2))))
    (pss_one (ps_ret (pe_lc (own := [("text", 3)]) rfl sc_in_order.nd (pi_list (pe_callB (call_sortedD rfl) rfl T.z_sorted (by decide +kernel) (pa_cons (pv 1) pa_nil))) (blkOk_by (N := ["series", "by_text", "one", "text"]) (sc := defScope s_in_order) (by decide +kernel)) (fun _ _ _ _ _ => (pg_name (i := 3) sc_in_order.nd rfl (Or.inl rfl))) (fun _ _ _ _ _ => pts_nil) (fun _ _ _ _ _ => (pe_dget hu (pv 1) (pv 3) (fun _ _ => rfl)))))))), ?_⟩
    walk_at "v"
    refine ⟨a, xs, rows, rfl, ha, hp, by omega, fun H1 e1 => ?_⟩
    have ha1 := e1 _ _ ha
    walk_at "v"
    refine r_dc ?_
    walk_at "v"
    intro D hD
    have hz : ∀ {i : Nat} {x : V} {r : Ser}, xs[i]? = some x → rows[i]? = some r → (rows.zip xs)[i]? = some (r, x) := fun {i x r} h1 h2 => by
      rw [List.getElem?_zip_eq_some]
      exact ⟨h2, h1⟩
    have hzl : (rows.zip xs).length = xs.length := by rw [List.length_zip]; omega
    have hzm : (rows.zip xs).map (fun x => textL x.1) = rows.map textL := by
      have : (rows.zip xs).map (fun x => textL x.1) = ((rows.zip xs).map Prod.fst).map textL := by rw [List.map_map]; rfl
      rw [this, List.map_fst_zip (by omega)]
    have hnd : ((rows.zip xs).map fun x => textL x.1).Nodup := by rw [hzm]; exact riseTx_nodup hrt
    refine dc_w walk_list (fun i H' => Ex H1 H' ∧ H' D = some (.dK (kvsOf ((rows.zip xs).take i)))) ⟨Ex.new hD, upd_same⟩ (fun i H' _ p => SqL.of (p.1 _ _ ha1)) ?_ (fun H2 p2 => ?_)
    · rintro i x Ha Hb hi ⟨ea, hda⟩ ⟨rfl, hx⟩
      obtain ⟨r, hr1, hxs⟩ := Pat hp hx
      have hxs' := hxs.ex (e1.trans ea)
      obtain ⟨⟨b, dx, tp, qs, rfl, h2, _⟩, _⟩ := id hxs'
      have hzi := hz hx hr1
      walk_at "v"
      refine ⟨rfl, yes_ ?_⟩
      walk_at "v"
      refine ⟨is_ins h2 ((lk_tl (by decide +kernel)).trans ((lk_tl (by decide +kernel)).trans rfl)), ?_⟩
      walk_at "v"
      refine ⟨_, r, rfl, hxs', fun H3 e3 => ?_⟩
      walk_at "v"
      have hnone : valV (kvsOf ((rows.zip xs).take i)) (.inr (S (textL r))) = none := kvs_none fun y hy z => by
        obtain ⟨hi2, ei⟩ := List.getElem?_eq_some_iff.mp hzi
        obtain ⟨j', hj', ej⟩ := List.getElem_of_mem hy
        rw [List.length_take] at hj'
        rw [List.getElem_take] at ej
        rw [List.nodup_iff_pairwise_ne, List.pairwise_map] at hnd
        have q := List.pairwise_iff_getElem.mp hnd j' i (by omega) hi2 (by omega)
        rw [ej, ei] at q
        exact q z
      refine ⟨_, .inr (S (textL r)), rfl, e3 _ _ hda, Evl.sz_lt (by unfold kvsOf; rw [List.length_map, List.length_take]; omega), Ex.mut (ea.trans e3) hD, ?_⟩
      obtain ⟨hi2, ei⟩ := List.getElem?_eq_some_iff.mp hzi
      rw [upd_same, putK_new _ hnone, ← List.take_append_getElem hi2, ei]
      unfold kvsOf
      rw [List.map_append]
      rfl
    · obtain ⟨e2, hd2⟩ := p2
      have : (rows.zip xs).take xs.length = rows.zip xs := List.take_of_length_le (by omega)
      rw [this] at hd2
      walk_at "v"
      have hks : (kvsOf (rows.zip xs)).map (·.1) = (rows.map fun r => S (textL r)).map Sum.inr := by
        unfold kvsOf
        rw [List.map_map, List.map_map]
        have : ((fun x : Key × V => x.1) ∘ fun x : Ser × V => ((.inr (S (textL x.1)) : Key), x.2)) = (fun t => (.inr (S t) : Key)) ∘ fun x : Ser × V => textL x.1 := rfl
        rw [this, ← List.map_map, hzm, List.map_map]
        rfl
      refine ⟨D, _, rows.map fun r => S (textL r), rfl, .inl hd2, hks, by rw [List.length_map]; omega, fun ys q hperm hsort hq => ?_⟩
      have hperm' : ys.Perm ((rows.map textL).map S) := by
        rw [List.map_map]
        exact hperm
      have eys := sorted_uniq hsort hperm' (List.pairwise_map.mpr hrt)
      have e3 : Ex H2 (upd H2 q (.lst (ys.map V.str))) := Ex.mut (Ex.refl _) hq
      have hq3 : upd H2 q (.lst (ys.map V.str)) q = some (.lst ((rows.map textL).map vS)) := by
        rw [upd_same, eys, List.map_map]
        rfl
      have hd3 := e3 _ _ hd2
      walk_at "v"
      intro D2 hD2
      refine lc_v walk_list (fun _ => true) (fun i => xs.getD i .non) hD2 (by rw [List.length_map, List.length_map]; omega) (fun H4 e4 => SqL.of (e4 _ _ hq3)) ?_ (fun H4 e4 hd4 => ?_)
      · rintro N i x Ha Hb hi ea ⟨rfl, hx⟩ _ hyes
        obtain ⟨r, hr1, rfl⟩ : ∃ r, rows[i]? = some r ∧ x = vS (textL r) := by
          rw [List.map_map, List.getElem?_map] at hx
          cases e : rows[i]? with
          | none =>
            rw [e] at hx
            cases hx
          | some r =>
            rw [e] at hx
            exact ⟨r, rfl, (Option.some.inj hx).symm⟩
        have hil : i < xs.length := by
          have := (List.getElem?_eq_some_iff.mp hr1).1
          omega
        have hx2 := List.getElem?_eq_getElem hil
        have hv := kvs_at hnd (hz hx2 hr1)
        have q2 := hyes rfl Hb (Ex.refl _)
        rw [List.getD_eq_getElem?_getD, hx2] at q2
        have hd5 := ea _ _ hd3
        walk_at "v"
        refine ⟨rfl, yes_ ?_⟩
        walk_at "v"
        exact x_dget hd5 hv q2
      · have hg : given ((rows.map textL).map vS).length (fun _ => true) (fun i => xs.getD i .non) = xs := by
          have e0 : ((rows.map textL).map vS).length = xs.length := by rw [List.length_map, List.length_map]; omega
          rw [e0, given_all xs id]
          · simp
          · intro i h
            rw [List.getD_eq_getElem?_getD, List.getElem?_eq_getElem h]
            rfl
        rw [hg] at hd4
        refine k D2 H4 (((e1.trans e2).trans e3).trans e4) ?_ hd4
        cases q' : H D2 with
        | none => rfl
        | some o =>
          rw [((e1.trans e2).trans e3) _ _ q'] at hD2
          cases hD2
def spMChosen (K : PySem.W.Frag) : Sp := fun vs H Q _ => ∃ (v : V) (a : Addr) (xs : List V) (rows : List Ser) (m : Mn), vs = [v, .ref a] ∧ SelAt K H v m ∧ H a = some (.lst xs) ∧ Paired (SerAt K H) xs rows ∧ RiseTx rows ∧ rows.length ≤ 50 ∧
  ∀ u H', Ex H H' → ToldAt K H H' u (rows.filter m) → Q u H'
theorem sc_chosen : FnScope ["selection", "series", "one"] ["selection", "series"] (defScope s_chosen) := ⟨rfl, rfl, rfl, by decide +kernel, rfl, by decide +kernel, by decide +kernel⟩
theorem ok_chosen (T : Txt K mg) : GoodP P w K mg base "chosen" 15 ["selection", "series"] (spMChosen K) := by
  have G_check_series_list := ok_check_series_list (P := P) (w := w) (base := base) T
  have G_check_selection := ok_check_selection (P := P) (w := w) (base := base) T
  have G_in_order := ok_in_order (P := P) (w := w) (base := base) T
  have G_means : GoodP P w K mg base "means" 14 ["tree", "series"] (spMeans K 9) := ok_means (P := P) (w := w) (base := base) T 9
  obtain ⟨fd, F⟩ := T.f_chosen
  refine good_ofX F sc_chosen (fun vs H Q E h => ?_) (fun _ _ _ _ _ _ us hl => match us, hl with | [_, _], _ => rfl) (fun cdv A outer s H vs Q E hr h => ?_)
  · obtain ⟨v, a, xs, rows, m, rfl, _⟩ := h
    rfl
  · obtain ⟨v, a, xs, rows, m, rfl, hs, ha, hp, hrt, hl, k⟩ := h
    have hxl := Plen hp
    obtain ⟨sa, dx, tv, N, rfl, hso, ht⟩ := id hs
    refine ⟨_, (pss_cons (ps_expr (pcallX G_check_selection hr T.g_check_selection (takes_of rfl rfl rfl rfl) (pa_cons (pv 0) pa_nil)))
    (pss_cons (ps_expr (pcall G_check_series_list hr T.g_check_series_list (pa_cons (pv 1) pa_nil)))
    (pss_one (ps_ret (pe_lc (own := [("one", 2)]) rfl sc_chosen.nd (pi_list (pcall G_in_order hr T.g_in_order (pa_cons (pv 1) pa_nil))) (blkOk_by (N := ["selection", "series", "one"]) (sc := defScope s_chosen) (by decide +kernel)) (fun _ _ _ _ _ => (pg_name (i := 2) sc_chosen.nd rfl (Or.inl rfl))) (fun _ _ _ _ _ => (pts_one (pt_val (pcall G_means hr T.g_means (pa_cons (pe_fldK (K := K) rfl (pv 0) rfl) (pa_cons (pv 2) pa_nil)))))) (fun _ _ _ _ _ => (pv 2))))))), ?_⟩
    walk_at "v"
    refine ⟨_, rfl, .inl ⟨sa, dx, _, rfl, hso, ?_⟩⟩
    walk_at "v"
    refine ⟨a, xs, rows, rfl, ha, hp, by omega, fun H1 e1 => ?_⟩
    walk_at "v"
    refine ⟨a, xs, rows, rfl, e1 _ _ ha, Pimp hp fun _ _ q => q.ex e1, hrt, hl, fun p H2 e2 hpn hp2 => ?_⟩
    have e3 := e1.trans e2
    walk_at "v"
    intro D hD
    refine lc_v walk_list (fun i => match rows[i]? with | some r => m r | none => false) (fun i => xs.getD i .non) hD (by omega) (fun H4 e4 => SqL.of (e4 _ _ hp2)) ?_ (fun H4 e4 hd4 => ?_)
    · rintro n i x Ha Hb hi ea ⟨rfl, hx⟩ hno hyes
      obtain ⟨r, hr1, hxs⟩ := Pat hp hx
      have e5 := e3.trans ea
      have hso2 := e5 _ _ hso
      have f1 : AtF K "tree" (.ref sa) Hb tv := at_f hso2 T.c_Selection T.n_Selection_tree lk_hd
      simp only [hr1] at hno hyes
      walk_at "v"
      refine ⟨rfl, ?_⟩
      walk_at "v"
      refine ⟨tv, x, m, r, N, rfl, ht.ex e5, hxs.ex e5, fun H5 e6 => ?_⟩
      walk_at "v"
      cases hc : m r with
      | true =>
        refine iteT ?_
        walk_at "v"
        have q := hyes hc H5 e6
        rw [List.getD_eq_getElem?_getD, hx] at q
        exact q
      | false =>
        refine iteF ?_
        exact hno hc H5 e6
    · have hzl : (rows.zip xs).length = xs.length := by rw [List.length_zip]; omega
      have hg : given xs.length (fun i => match rows[i]? with | some r => m r | none => false) (fun i => xs.getD i .non) = ((rows.zip xs).filter fun x => m x.1).map fun x => x.2 := by
        rw [← hzl, given_map (rows.zip xs) (fun x => m x.1) (fun x => x.2)]
        · intro i h
          have h1 : i < rows.length := by omega
          have h2 : i < xs.length := by omega
          simp only [List.getElem?_eq_getElem h1, List.getElem_zip]
        · intro i h _
          have h2 : i < xs.length := by omega
          rw [List.getD_eq_getElem?_getD, List.getElem?_eq_getElem h2, List.getElem_zip]
          rfl
      rw [hg] at hd4
      walk_at "v"
      have e7 := e3.trans e4
      refine k (.ref D) H4 e7 ⟨D, _, rfl, ?_, hd4, ?_⟩
      · cases q' : H D with
        | none => rfl
        | some o =>
          rw [e3 _ _ q'] at hD
          cases hD
      · have key : ∀ {xs : List V} {rows : List Ser}, Paired (SerAt K H) xs rows → Paired (SerAt K H4) (((rows.zip xs).filter fun x => m x.1).map fun x => x.2) (rows.filter m) := by
          intro xs rows h
          induction h with
          | nil => exact .nil
          | @cons x r xs rows h0 _ ih =>
            rw [List.zip_cons_cons]
            by_cases c : m r = true
            · rw [List.filter_cons_of_pos (by exact c), List.filter_cons_of_pos c]
              exact .cons (h0.ex e7) ih
            · rw [List.filter_cons_of_neg (by exact c), List.filter_cons_of_neg c]
              exact ih
        exact key hp
end
end
set_option Elab.async false
set_option linter.all false
set_option maxRecDepth 100000
set_option maxHeartbeats 4000000
/-! Named rules and readings for the law's own defs. -/
section
open PySem PySem.Spec PyProof.Rows L2
open Evl (Ex given)
section
variable {X : Cx} {K : PySem.W.Frag} {σ : L2.St} {H : Hp} {Q : VK} {x y v : V} {te ta td ty tv : TE} {p l : Addr} {xs : List V} {i j : Int}
def nInt1 : List V → Hp → VK → Prop := fun xs H Q => (∃ i, xs = [.int i] ∧ Q (.int i) H) ∨ ∃ k, xs = [.bl k] ∧ Q (.int (if k then 1 else 0)) H
theorem call_int1N : CallR X (.type "int") nInt1 := call_int1
theorem r_int1 (q : Q (.int i) H) : nInt1 [.int i] H Q := .inl ⟨i, rfl, q⟩
theorem r_intB {k : Bool} (q : Q (.int (if k then 1 else 0)) H) : nInt1 [.bl k] H Q := .inr ⟨k, rfl, q⟩
def nAbs : List V → Hp → VK → Prop := fun xs H Q => ∃ i, xs = [.int i] ∧ Q (.int (if i < 0 then -i else i)) H
theorem call_absN : CallR X (.builtin "abs") nAbs := call_abs
theorem r_abs (q : Q (.int (if i < 0 then -i else i)) H) : nAbs [.int i] H Q := ⟨i, rfl, q⟩
def nListOf (K : PySem.W.Frag) : List V → Hp → VK → Prop := fun xs H Q => ∃ p ys, xs = [.ref p] ∧ (SqL K H p ys ∨ SqT K H p ys) ∧ ∀ l, H l = none → Q (.ref l) (upd H l (.lst ys))
theorem call_list_ofN : CallR X (.type "list") (nListOf X.K) := call_list_of
theorem r_listL (h : SqL K H p xs) (q : ∀ l, H l = none → Q (.ref l) (upd H l (.lst xs))) : nListOf K [.ref p] H Q := ⟨p, xs, rfl, .inl h, q⟩
def nMax2 : List V → Hp → VK → Prop := fun xs H Q => ∃ i j, xs = [.int i, .int j] ∧ Q (.int (if j > i then j else i)) H
def nMin2 : List V → Hp → VK → Prop := fun xs H Q => ∃ i j, xs = [.int i, .int j] ∧ Q (.int (if j < i then j else i)) H
theorem call_max2N (hc : X.calm = true) : CallR X (.builtin "max") nMax2 := call_max2 hc
theorem call_min2N (hc : X.calm = true) : CallR X (.builtin "min") nMin2 := call_min2 hc
theorem r_max2 (q : Q (.int (if j > i then j else i)) H) : nMax2 [.int i, .int j] H Q := ⟨i, j, rfl, q⟩
theorem r_min2 (q : Q (.int (if j < i then j else i)) H) : nMin2 [.int i, .int j] H Q := ⟨i, j, rfl, q⟩
def nStrInt : List V → Hp → VK → Prop := fun xs H Q => ∃ i, xs = [.int i] ∧ i.natAbs.log2 < 1920 ∧ Q (.str (toString i)) H
theorem call_str_intN : CallR X (.type "str") nStrInt := call_str_int
theorem r_strInt (hl : i.natAbs.log2 < 1920) (q : Q (.str (toString i)) H) : nStrInt [.int i] H Q := ⟨i, rfl, hl, q⟩
theorem r_pop {k : Nat} {y : V} (h : H l = some (.lst xs)) (hk : k < xs.length) (hl : xs.length ≤ 1000000) (hy : xs[k]? = some y) (q : Q y (upd H l (.lst (xs.eraseIdx k)))) : rPopAt (.ref l) [.int (k : Nat)] H Q := by
  refine ⟨l, xs, (k : Int), k, y, rfl, rfl, h, by omega, by omega, ?_, hy, q⟩
  unfold seqIndex?
  have h1 : ¬ ((k : Int) < 0) := by omega
  simp [h1, hk]
theorem r_setL {k : Int} {j : Nat} {QH : Hp → Prop} (h : H p = some (.lst xs)) (hj : ixN xs.length k = some j) (q : QH (upd H p (.lst (xs.set j v)))) : rSetL (.ref p) (.int k) v H QH := ⟨p, xs, k, j, rfl, rfl, h, hj, q⟩
theorem i_rng1 {ta : TA} {R : It → Hp → Prop} (h : ta σ H fun vs H1 => ∃ j : Int, vs = [.int j] ∧ -(2 ^ 62) ≤ j ∧ j < 2 ^ 62 ∧ R (Itr 0 j.toNat) H1) : iRng1 ta σ H R := h
theorem x_rng1 {R : Int → Prop} (h1 : -(2 ^ 62) ≤ i) (h2 : i < 2 ^ 62) (q : R i) : ∃ j : Int, [V.int i] = [.int j] ∧ -(2 ^ 62) ≤ j ∧ j < 2 ^ 62 ∧ R j := ⟨i, rfl, h1, h2, q⟩
end
section
variable {X : Cx} {K : PySem.W.Frag}
theorem op_eqDK (hK : X.K = K) (hu : X.A.units + 64 < cLine) : OpR X (compareOp .Eq) (rEqD K) := by
  subst hK
  exact op_eqD hu
end
abbrev dS (l : List Nat) : PyData := .str (S l)
theorem dp_strs {K : PySem.W.Frag} {H : Hp} : ∀ ts : List (List Nat), DpAll K H (ts.map vS) (ts.map dS)
  | [] => .nil
  | t :: ts => .cons (.str _) (dp_strs ts)
def TokOk (ts : List (List Nat)) : Prop := ∀ t ∈ ts, ∀ c ∈ t, c < 1114112
theorem strOk_S {t : List Nat} (h : ∀ c ∈ t, c < 1114112) : PyData.strOk (S t) = true := by
  unfold PyData.strOk S
  rw [← Array.all_toList]
  simp only [List.all_eq_true, decide_eq_true_eq]
  exact h
theorem lay_strs : ∀ ts : List (List Nat), TokOk ts → PyData.canLayAll0 (ts.map dS) = true ∧ PyData.depthAll (ts.map dS) = 0
  | [], _ => ⟨rfl, rfl⟩
  | t :: ts, h => by
    obtain ⟨h1, h2⟩ := lay_strs ts fun x hx => h x (by simp [hx])
    have h3 := strOk_S (h t (by simp))
    constructor
    · simp [PyData.canLayAll0, PyData.canLay0, h1, h3]
    · simp [PyData.depthAll, PyData.depth, h2]
theorem sh_strs {ts : List (List Nat)} (h : TokOk ts) : SeqAt.shaped (.list (ts.map dS)) = true := by
  obtain ⟨h1, h2⟩ := lay_strs ts h
  unfold SeqAt.shaped
  simp [PyData.canLay0, PyData.depth, h1, h2]
theorem sh_strs2 {ts : List (List Nat)} (h : TokOk ts) : SeqAt.shaped (.list [.list (ts.map dS)]) = true := by
  obtain ⟨h1, h2⟩ := lay_strs ts h
  unfold SeqAt.shaped
  simp [PyData.canLay0, PyData.canLayAll0, PyData.depth, PyData.depthAll, h1, h2]
theorem eqv_strs : ∀ a b : List (List Nat), PyData.eqv (.list (a.map dS)) (.list (b.map dS)) = decide (a = b)
  | [], [] => rfl
  | [], _ :: _ => rfl
  | _ :: _, [] => rfl
  | x :: a, y :: b => by
    have ih := eqv_strs a b
    have e : PyData.eqv (.list ((x :: a).map dS)) (.list ((y :: b).map dS)) = (PyData.eqv (dS x) (dS y) && PyData.eqv (.list (a.map dS)) (.list (b.map dS))) := by
      simp [PyData.eqv, PyData.eqvAll]
    rw [e, ih]
    have e2 : PyData.eqv (dS x) (dS y) = decide (x = y) := by
      simp only [PyData.eqv]
      by_cases h : x = y
      · subst h
        simp
      · rw [decide_eq_false h]
        simp only [beq_eq_false_iff_ne, ne_eq]
        exact fun z => h (S_inj z)
    rw [e2]
    by_cases h1 : x = y <;> by_cases h2 : a = b <;> simp [h1, h2]
end
end Eg
namespace Eg
set_option Elab.async false
set_option linter.all false
set_option maxRecDepth 100000
set_option maxHeartbeats 4000000
/-! The law's draws. -/
open PySem PySem.Spec PyProof.Rows L2
open Evl (Ex given)
local macro_rules | `(tactic| walk_at "ln") => `(tactic| first
  | assumption
  | omega
  | (simp only [S_len, str_len_app, str_len_nil, List.length_cons, List.length_append, List.length_nil, List.length_map]; omega))
local macro_rules | `(tactic| walk_at "ne") => `(tactic| first
  | assumption
  | exact Ne.symm (by assumption)
  | exact ne_of_none (by assumption) (by assumption)
  | exact Ne.symm (ne_of_none (by assumption) (by assumption))
  | exact ne_of (by assumption) (by assumption) (by intro z; cases z))
local macro_rules | `(tactic| walk_at "hp") => `(tactic| first
  | assumption
  | exact upd_same
  | ((with_reducible refine' Eq.trans (upd_ne ?hn) ?hr); (case hn => walk_at "ne"); (case hr => walk_at "hp"))
  | ((with_reducible refine' ex_at ?hn ?hr); (case hn => assumption); (case hr => walk_at "hp")))
local macro_rules | `(tactic| walk_at "cc") => `(tactic| first | omega | (dsimp only; omega) | decide | (unfold CPow; omega) | (unfold CMul; omega) | (unfold CDiv; omega) | (dsimp only; decide))
local macro_rules | `(tactic| walk_at "sq") => `(tactic| first | assumption | ((with_reducible apply SqL.of); walk_at "hp") | ((with_reducible apply SqT.of); walk_at "hp"))
local macro_rules | `(tactic| walk_at "v1") => `(tactic| first
  | ((with_reducible refine' r_var ?hv ?_); (case hv => exact rfl))
  | (with_reducible refine r_c ?_) | (with_reducible refine r_op ?_) | (with_reducible refine r_cons ?_) | (with_reducible refine r_nil ?_) | (with_reducible refine r_cb ?_) | (with_reducible refine r_call ?_) | (with_reducible refine r_un ?_)
  | (with_reducible refine r_seq ?_) | (with_reducible refine r_asg ?_) | (with_reducible refine r_gname ?_) | (with_reducible refine r_ret ?_) | (with_reducible refine r_retN ?_) | (with_reducible refine r_next ?_) | (with_reducible refine r_cont ?_) | (with_reducible refine r_drop ?_) | (with_reducible refine r_ifs ?_) | (with_reducible refine r_par ?_) | (with_reducible refine x_two ?_)
  | (with_reducible refine r_I0 ?_) | (with_reducible refine r_neg ?_) | ((with_reducible refine r_eq ?hv ?_); (case hv => exact rfl)) | ((with_reducible refine r_ne ?hv ?_); (case hv => exact rfl))
  | (with_reducible refine r_test ?_) | (with_reducible refine r_B ?_) | (with_reducible refine r_and ?_) | (with_reducible refine r_or ?_) | (with_reducible refine r_not ?_) | (with_reducible refine r_yes ?_) | (with_reducible refine r_ifE ?_)
  | (with_reducible refine r_andV ?_) | (with_reducible refine r_orV ?_) | (with_reducible refine r_notV ?_) | (with_reducible refine x_bl ?_)
  | (with_reducible refine r_meth ?_) | (with_reducible refine r_make ?_) | (with_reducible refine r_tup ?_) | (with_reducible refine r_lst ?_) | (with_reducible refine r_dnew ?_) | (with_reducible refine r_sfld ?_) | (with_reducible refine r_fldA ?_) | (with_reducible refine iteT ?_) | (with_reducible refine iteF ?_) | (with_reducible refine iteNf ?_) | (with_reducible refine iteNt ?_)
  | ((with_reducible refine' x_at ?hv ?_); (case hv => assumption))
  | ((with_reducible refine' r_lenS ?hv ?_); (case hv => walk_at "ln")) | ((with_reducible refine' r_lenL ?hv ?_); (case hv => walk_at "sq")) | ((with_reducible refine' r_lenT ?hv ?_); (case hv => walk_at "sq"))
  | (with_reducible refine r_inS ?_) | (with_reducible refine r_ninS ?_) | (with_reducible refine r_isN ?_) | (with_reducible refine r_notN ?_)
  | (with_reducible refine r_bm ?_) | ((with_reducible refine' x_tyL ?hv ?_); (case hv => walk_at "sq")) | (with_reducible refine r_for ?_) | (with_reducible refine i_str ?_) | (with_reducible refine x_str ?_)
  | (with_reducible refine i_tup ?_) | (with_reducible refine i_list ?_) | ((with_reducible refine' x_itup ?hv ?_); (case hv => walk_at "sq")) | ((with_reducible refine' x_ilist ?hv ?_); (case hv => walk_at "sq"))
  | ((with_reducible refine' g_tup ?hv ?hl ?_); (case hv => walk_at "sq"); (case hl => exact rfl)) | (with_reducible refine g_cons ?_) | (with_reducible refine g_nil ?_) | (with_reducible refine r_lc ?_)
  | (with_reducible refine r_star ?_) | ((with_reducible refine' x_starT ?hv ?_); (case hv => walk_at "sq")) | ((with_reducible refine' r_cat ?h1 ?h2 ?hv ?_); (case h1 => walk_at "hp"); (case h2 => walk_at "hp"); (case hv => walk_at "ln"))
  | ((with_reducible refine' r_shl ?hv ?_); (case hv => walk_at "ln")) | (with_reducible refine r_shr ?_) | (with_reducible refine r_andN ?_) | (with_reducible refine r_orN ?_) | (with_reducible refine r_xorN ?_)
  | (with_reducible refine i_enum ?_) | ((with_reducible refine' x_enum ?hv ?_); (case hv => walk_at "sq")) | (with_reducible refine r_dget ?_)
  | (with_reducible refine r_bget2 ?_) | ((with_reducible refine' x_bits ?hv ?_); (case hv => assumption)) | ((with_reducible refine' r_slL ?hv ?_); (case hv => walk_at "sq"))
  | (with_reducible refine r_int1 ?_) | (with_reducible refine r_intB ?_) | (with_reducible refine r_abs ?_) | (with_reducible refine r_max2 ?_) | (with_reducible refine r_min2 ?_) | (with_reducible refine i_rng1 ?_) | ((with_reducible refine' x_rng1 ?h1 ?h2 ?_); (case h1 => walk_at "cc"); (case h2 => walk_at "cc"))
  | ((with_reducible refine' r_I ?hc ?_); (case hc => walk_at "cc")) | ((with_reducible refine' r_listL ?hv ?_); (case hv => walk_at "sq")) | (with_reducible refine r_gsub ?_) | (with_reducible refine r_din ?_) | (with_reducible refine r_dnotin ?_) | (with_reducible refine r_dput ?_) | (with_reducible refine r_dc ?_)
  | ((with_reducible refine' r_setL ?hv ?hj ?_); (case hv => walk_at "hp"); (case hj => exact rfl)) | ((with_reducible refine' r_ixL ?hv ?ha ?_); (case hv => walk_at "sq"); (case ha => exact rfl))
  | (with_reducible refine r_m1 ?_) | (with_reducible refine x_isstr ?_) | (with_reducible refine r_fs ?_) | (with_reducible refine r_jsc ?_) | (with_reducible refine r_jsn ?_) | (with_reducible refine r_fmt ?_) | (with_reducible refine r_sl ?_) | (with_reducible refine o_none ?_) | (with_reducible refine o_part ?_) | (with_reducible refine x_int ?_)
  | ((with_reducible refine' x_js ?hv ?_); (case hv => walk_at "ln")) | ((with_reducible refine' x_fmtS ?hv ?_); (case hv => walk_at "ln")) | ((with_reducible refine' r_split ?hb ?hv ?_); (case hb => exact rfl); (case hv => walk_at "ln")) | ((with_reducible refine' r_partition ?hb ?hv ?_); (case hb => exact rfl); (case hv => walk_at "ln")) | (with_reducible refine r_ends ?_)
  | ((with_reducible refine' x_sz ?hv ?_); (case hv => first | decide | walk_at "ln"))
  | ((with_reducible refine' r_addS ?hv ?_); (case hv => walk_at "ln"))
  | ((with_reducible refine' r_aug ?hv ?_); (case hv => exact rfl)))
local macro_rules | `(tactic| walk_at "v") => `(tactic| (repeat (walk_at "v1")))

theorem erase_perm : ∀ {l : List V} {d : Nat} (h : d < l.length), (l[d] :: l.eraseIdx d).Perm l
  | _ :: _, 0, _ => List.Perm.refl _
  | a :: l, d + 1, h => by
    have ih := erase_perm (l := l) (d := d) (by simpa using h)
    exact (List.Perm.swap a (l[d]'(by simpa using h)) (l.eraseIdx d)).trans (ih.cons a)
def BoxAt (H : Hp) (b : Addr) (c : Nat) : Prop := ∃ (g : Int) (big : Bool) (m n : Int), H b = some (.lst [.int g, .bl big, .int m, .int n]) ∧ 0 ≤ g ∧ 0 ≤ m ∧ m < 2147483648 ∧ 0 ≤ n ∧ n ≤ (c : Int)
theorem BoxAt.ex {H H' : Hp} {b : Addr} {c : Nat} (h : BoxAt H b c) (e : Ex H H') : BoxAt H' b c := by
  obtain ⟨g, big, m, n, h1, h2⟩ := h
  exact ⟨g, big, m, n, e _ _ h1, h2⟩
theorem BoxAt.mono {H : Hp} {b : Addr} {c d : Nat} (h : BoxAt H b c) (l : c ≤ d) : BoxAt H b d := by
  obtain ⟨g, big, m, n, h1, h2, h3, h4, h5, h6⟩ := h
  exact ⟨g, big, m, n, h1, h2, h3, h4, h5, by omega⟩
section
variable {P : Program} {w : World} {K : PySem.W.Frag} {mg : Str → Option Value} {base : Heap}
def spTakeN : Sp := fun vs H Q _ => ∃ (b : Addr) (n c : Nat), vs = [.ref b, .int (n : Nat)] ∧ 1 ≤ n ∧ n ≤ 1000 ∧ BoxAt H b c ∧ c ≤ 1000000000 ∧ ∀ (d : Nat) H', d < n → BoxAt H' b (c + 1) → Exx [b] H H' → Q (.int (d : Nat)) H'
theorem sc_law_take : FnScope ["_law_box_here", "_law_many", "_law_digit", "_law_mixed_here"] ["_law_box_here", "_law_many"] (defScope s_law_take) := ⟨rfl, rfl, rfl, by decide +kernel, rfl, by decide +kernel, by decide +kernel⟩
theorem ok_law_take (T : Txt K mg) : GoodP P w K mg base "_law_take" 1 ["_law_box_here", "_law_many"] spTakeN := by
  obtain ⟨fd, F⟩ := T.f_law_take
  refine good_of F sc_law_take (fun vs H Q E h => ?_) (fun _ _ _ _ _ _ us hl => match us, hl with | [_, _], _ => rfl) (fun cdv A outer s H vs Q E hr h => ?_)
  · obtain ⟨b, n, c, rfl, _⟩ := h
    rfl
  · obtain ⟨b, n, c, rfl, h1, h2, ⟨g, big, m, k0, hb, hg, hm, hm2, hk, hk2⟩, hc, k⟩ := h
    refine ⟨_, (pss_cons (ps_if (PW.pt (pw_and (pt_val (pe_ix ix_list (pv 0) pe_int (fun _ _ => rfl))) (pw_and1 (pt_cmpR op_gt (pe_ix ix_list (pv 0) pe_int (fun _ _ => rfl)) pe_int (nomark _))))) (pss_cons (ps_set (i := 2) sc_law_take.nd rfl (Or.inl rfl) (pe_op op_mod (pe_callTy call_int1N rfl T.z_int (by decide +kernel) (pa_cons (pe_ix ix_list (pv 0) pe_int (fun _ _ => rfl)) pa_nil)) (pv 1)))
    (pss_cons (ps_asg (pe_op op_fdiv (pe_ix ix_list (pv 0) pe_int (fun _ _ => rfl)) (pv 1)) (pg_sub (pv 0) pe_int set_list))
    (pss_one (ps_ret (pv 2))))) pss_nil)
    (pss_cons (ps_asg (pe_op op_add (pe_ix ix_list (pv 0) pe_int (fun _ _ => rfl)) pe_int) (pg_sub (pv 0) pe_int set_list))
    (pss_cons (ps_set (i := 3) sc_law_take.nd rfl (Or.inl rfl) (pe_op op_mod (pe_callTy call_int1N rfl T.z_int (by decide +kernel) (pa_cons (pe_op op_pow (pe_op op_add (pe_op op_add (pe_ix ix_list (pv 0) pe_int (fun _ _ => rfl)) (pe_op op_mul pe_int (pe_ix ix_list (pv 0) pe_int (fun _ _ => rfl)))) pe_int) pe_int) pa_nil)) pe_int))
    (pss_one (ps_ret (pe_op op_mod (pe_op op_fdiv (pe_op op_mod (pe_callTy call_int1N rfl T.z_int (by decide +kernel) (pa_cons (pe_op op_pow (pe_op op_add (pe_op op_mul (pv 3) pe_int) (pe_op op_mul pe_int (pe_ix ix_list (pv 0) pe_int (fun _ _ => rfl)))) pe_int) pa_nil)) pe_int) pe_int) (pv 1))))))), ?_⟩
    walk_at "v"
    have fast : ∀ r : Int, 0 ≤ r → ∃ d : Nat, (d : Int) = r := fun r hr => ⟨r.toNat, Int.toNat_of_nonneg hr⟩
    have hn : (0 : Int) < (n : Nat) := by omega
    cases hbig : big
    case' true =>
      walk_at "v"
      refine ite2 ?t ?f
      case' t =>
        intro c1
        walk_at "v"
        have hq : 0 ≤ g / (n : Nat) := Int.ediv_nonneg hg (by omega)
        obtain ⟨d, hd⟩ := fast (g % (n : Nat)) (Int.emod_nonneg _ (by omega))
        have hd2 : g % (n : Nat) < (n : Nat) := Int.emod_lt_of_pos _ hn
        rw [← hd]
        exact k d _ (by omega) ⟨g / (n : Nat), big, m, k0, by rw [upd_same]; rfl, hq, hm, hm2, hk, by omega⟩ ((Exx.refl _ _).wr (by simp))
      case' f => intro c1
    case' false =>
      refine iteF ?_
    all_goals
      walk_at "v"
      generalize ((m + 15485863 * (k0 + 1) + 179424673) ^ Int.toNat 5 % 2147483647 * 48271 + 104729 * (k0 + 1)) ^ Int.toNat 3 % 2147483587 / 64 = r
      obtain ⟨d, hd⟩ := fast (r % (n : Nat)) (Int.emod_nonneg _ (by omega))
      have hd2 : r % (n : Nat) < (n : Nat) := Int.emod_lt_of_pos _ hn
      rw [← hd]
      exact k d _ (by omega) ⟨g, big, m, k0 + 1, by rw [upd_same]; rfl, hg, hm, hm2, by omega, by omega⟩ ((Exx.refl _ _).wr (by simp))
def spCell (K : PySem.W.Frag) : Sp := fun vs H Q _ => ∃ (a : Addr) (ns : List Int) (i : Nat), vs = [.ref a, .int (i : Nat)] ∧ SqL K H a (ns.map V.int) ∧ ns.length ≤ 100000 ∧ i ≤ 1000 ∧ ∀ g H', Ex H H' → Q (.int g) H'
theorem sc_law_cell : FnScope ["_law_script", "_law_k"] ["_law_script", "_law_k"] (defScope s_law_cell) := ⟨rfl, rfl, rfl, by decide +kernel, rfl, by decide +kernel, by decide +kernel⟩
theorem ok_law_cell (T : Txt K mg) : GoodP P w K mg base "_law_cell" 1 ["_law_script", "_law_k"] (spCell K) := by
  obtain ⟨fd, F⟩ := T.f_law_cell
  refine good_of F sc_law_cell (fun vs H Q E h => ?_) (fun _ _ _ _ _ _ us hl => match us, hl with | [_, _], _ => rfl) (fun cdv A outer s H vs Q E hr h => ?_)
  · obtain ⟨a, ns, i, rfl, _⟩ := h
    rfl
  · obtain ⟨a, ns, i, rfl, hs, hl, hi, k⟩ := h
    refine ⟨_, (pss_one (ps_ret (pe_ifExp (pt_cmpR op_lt (pv 1) (pe_callB call_lenN rfl T.z_len (by decide +kernel) (pa_cons (pv 0) pa_nil)) (nomark _)) (pe_ix ix_list (pv 0) (pv 1) (fun _ _ => rfl)) (pe_op op_add (pe_op op_mul pe_int (pv 1)) (pe_op op_mod (pe_callB (cr_sum rfl) rfl T.z_sum (by decide +kernel) (pa_cons (pe_slice sl_list (pv 0) po_none (po_some pe_int)) pa_nil)) pe_int))))), ?_⟩
    walk_at "v"
    refine ite2 (fun c => ?_) (fun c => ?_)
    · have hil : i < ns.length := by
        have := of_decide_eq_true c
        rw [List.length_map] at this
        omega
      walk_at "v"
      refine r_ixL hs (atI_nat (j := i) (v := .int ns[i]) (by rw [List.getElem?_map, List.getElem?_eq_getElem hil]; rfl)) ?_
      exact k _ H (Ex.refl _)
    · walk_at "v"
      intro p hp
      have e1 : Ex H (upd H p (.lst (cutV (ns.map V.int) none (some 1)))) := Ex.mut (Ex.refl _) hp
      have hc1 : cutV (ns.map V.int) none (some 1) = (ns.take (min 1 ns.length)).map V.int := by
        unfold cutV
        have h1 : HT.sIx (ns.map V.int).length 0 none = 0 := rfl
        have h2 : HT.sIx (ns.map V.int).length (ns.map V.int).length (some 1) = min 1 (ns.map V.int).length := HT.sIx_nat _ _ 1
        rw [h1, h2, List.length_map]
        simp
      walk_at "v"
      refine ⟨p, ns.take (min 1 ns.length), rfl, SqL.of (by rw [upd_same, hc1]), ?_⟩
      walk_at "v"
      exact k _ _ e1
def spBox : Sp := fun vs H Q _ => ∃ g : Int, vs = [.int g] ∧ ∀ b H', H b = none → Ex H H' → BoxAt H' b 0 → Q (.ref b) H'
theorem sc_law_box : FnScope ["_law_great"] ["_law_great"] (defScope s_law_box) := ⟨rfl, rfl, rfl, by decide +kernel, rfl, by decide +kernel, by decide +kernel⟩
theorem ok_law_box (T : Txt K mg) : GoodP P w K mg base "_law_box" 1 ["_law_great"] spBox := by
  obtain ⟨fd, F⟩ := T.f_law_box
  refine good_of F sc_law_box (fun vs H Q E h => ?_) (fun _ _ _ _ _ _ us hl => match us, hl with | [_], _ => rfl) (fun cdv A outer s H vs Q E hr h => ?_)
  · obtain ⟨g, rfl, _⟩ := h
    rfl
  · obtain ⟨g, rfl, k⟩ := h
    refine ⟨_, (pss_one (ps_ret (pe_lst (pa_cons (pe_callB call_absN rfl T.z_abs (by decide +kernel) (pa_cons (pv 0) pa_nil)) (pa_cons (pe_cmpR op_ge (pe_callB call_absN rfl T.z_abs (by decide +kernel) (pa_cons (pv 0) pa_nil)) (pe_op op_pow pe_int pe_int) (nomark _)) (pa_cons (pe_op op_mod (pe_callTy call_int1N rfl T.z_int (by decide +kernel) (pa_cons (pe_callB call_absN rfl T.z_abs (by decide +kernel) (pa_cons (pv 0) pa_nil)) pa_nil)) pe_int) (pa_cons pe_int pa_nil))))))), ?_⟩
    walk_at "v"
    intro p hp
    have h0 : 0 ≤ (if g < 0 then -g else g) := by
      split <;> omega
    generalize (if g < 0 then -g else g) = r at *
    refine k p _ hp (Ex.mut (Ex.refl _) hp) ⟨r, _, r % 2147483629, 0, upd_same, h0, Int.emod_nonneg _ (by decide), ?_, by decide, by decide⟩
    have := Int.emod_lt_of_pos r (show (0 : Int) < 2147483629 by decide)
    omega
def spMixed (K : PySem.W.Frag) : Sp := fun vs H Q _ => ∃ (b a : Addr) (xs : List V) (c : Nat), vs = [.ref b, .ref a] ∧ BoxAt H b c ∧ c + xs.length ≤ 1000000000 ∧ H a = some (.lst xs) ∧ xs.length ≤ 100 ∧
  ∀ p ys H', ys.Perm xs → H p = none → H' p = some (.lst ys) → BoxAt H' b (c + xs.length) → Exx [b] H H' → Q (.ref p) H'
theorem sc_law_mixed : FnScope ["_law_box_here", "_law_items", "_law_left", "_law_found", "_law_turn"] ["_law_box_here", "_law_items"] (defScope s_law_mixed) := ⟨rfl, rfl, rfl, by decide +kernel, rfl, by decide +kernel, by decide +kernel⟩
theorem ok_law_mixed (T : Txt K mg) : GoodP P w K mg base "_law_mixed" 2 ["_law_box_here", "_law_items"] (spMixed K) := by
  have G_law_take := ok_law_take (P := P) (w := w) (base := base) T
  obtain ⟨fd, F⟩ := T.f_law_mixed
  refine good_of F sc_law_mixed (fun vs H Q E h => ?_) (fun _ _ _ _ _ _ us hl => match us, hl with | [_, _], _ => rfl) (fun cdv A outer s H vs Q E hr h => ?_)
  · obtain ⟨b, a, xs, c, rfl, _⟩ := h
    rfl
  · obtain ⟨b, a, xs, c, rfl, hb, hc, hs, hl, k⟩ := h
    refine ⟨_, (pss_cons (ps_par (i := 2) (j := 3) rfl sc_law_mixed.nd rfl rfl (by decide) rfl rfl (pa_cons (pe_callTy call_list_ofN rfl T.z_list (by decide +kernel) (pa_cons (pv 1) pa_nil)) (pa_cons (pe_lst pa_nil) pa_nil)) rfl)
    (pss_cons (ps_for PassesOwn.never rfl (pi_range1 rfl T.z_range (pa_cons (pe_callB call_lenN rfl T.z_len (by decide +kernel) (pa_cons (pv 1) pa_nil)) pa_nil)) (pg_name (i := 4) sc_law_mixed.nd rfl (Or.inl rfl))
    (pss_one (ps_expr (pe_bm PySem.F.plainAttrs_list PySem.F.slot_list_append PySem.F.type_list_append mt_append (pv 3) (pa_cons (pe_bm PySem.F.plainAttrs_list PySem.F.slot_list_pop PySem.F.type_list_pop mt_popAt (pv 2) (pa_cons (pcall G_law_take hr T.g_law_take (pa_cons (pv 0) (pa_cons (pe_callB call_lenN rfl T.z_len (by decide +kernel) (pa_cons (pv 2) pa_nil)) pa_nil))) pa_nil)) pa_nil)))))
    (pss_one (ps_ret (pv 3))))), ?_⟩
    walk_at "v"
    intro l hnl
    walk_at "v"
    intro f hnf
    have e0 : Ex H (upd (upd H l (.lst xs)) f (.lst [])) := Ex.mut (Ex.mut (Ex.refl _) hnl) (by
      cases q : H f with
      | none => rfl
      | some o =>
        rw [upd_ne (ne_of_none q hnl), q] at hnf
        cases hnf)
    have hfH : H f = none := by
      cases q : H f with
      | none => rfl
      | some o =>
        rw [upd_ne (ne_of_none q hnl), q] at hnf
        cases hnf
    have hlf : l ≠ f := ne_of_none upd_same hnf
    obtain ⟨g, big, m, n, hbl, _⟩ := id hb
    have hbl0 : b ≠ l := ne_of_none hbl hnl
    have hbf0 : b ≠ f := ne_of_none hbl hfH
    have hs0 := e0 _ _ hs
    walk_at "v"
    refine for_it (walk_range (lo := 0) (n := xs.length)) (fun i σ H' => ∃ o left found, σ = [some (.ref b), some (.ref a), some (.ref l), some (.ref f), o] ∧ H' l = some (.lst left) ∧ H' f = some (.lst found) ∧ (found ++ left).Perm xs ∧ found.length = i ∧ BoxAt H' b (c + i) ∧ Exx [b] H H')
      ⟨none, xs, [], rfl, (upd_ne hlf).trans upd_same, upd_same, List.Perm.refl _, rfl, hb.ex e0, Exx.of e0⟩ (fun _ _ _ _ _ => trivial) ?_ ?_
    · rintro i x σ Ha Hb hi ⟨o, left, found, rfl, hl1, hf1, hperm, hfl, hb1, e1⟩ ⟨rfl, rfl⟩
      have hlen := hperm.length_eq
      rw [List.length_append] at hlen
      walk_at "v"
      refine ⟨b, left.length, c + i, rfl, by omega, by omega, hb1, by omega, fun d H3 hd hb3 e3 => ?_⟩
      obtain ⟨g3, big3, m3, n3, hbl3, _⟩ := id hb1
      have nbl : l ≠ b := fun z => hbl0 z.symm
      have nbf : f ≠ b := fun z => hbf0 z.symm
      have hl3 := e3 _ _ hl1 (by simpa using nbl)
      have hf3 := e3 _ _ hf1 (by simpa using nbf)
      walk_at "v"
      refine r_pop (k := d) hl3 hd (by omega) (List.getElem?_eq_getElem hd) ?_
      walk_at "v"
      have hf4 : upd H3 l (.lst (left.eraseIdx d)) f = some (.lst found) := (upd_ne hlf.symm).trans hf3
      refine r_append hf4 (by omega) ?_
      refine ⟨_, left.eraseIdx d, found ++ [left[d]], rfl, (upd_ne hlf).trans upd_same, upd_same, ?_, by simp [hfl], ?_, ?_⟩
      · refine List.Perm.trans ?_ hperm
        rw [List.append_assoc]
        refine List.Perm.append_left _ ?_
        exact erase_perm hd
      · obtain ⟨g4, big4, m4, n4, hbl4, h5⟩ := hb3
        exact ⟨g4, big4, m4, n4, (upd_ne hbf0).trans ((upd_ne hbl0).trans hbl4), by rw [show c + (i + 1) = c + i + 1 from rfl]; exact h5⟩
      · exact ((e1.trans e3).add hnl).add hfH
    · rintro σ Ha ⟨o, left, found, rfl, hl1, hf1, hperm, hfl, hb1, e1⟩
      have hlen := hperm.length_eq
      rw [List.length_append] at hlen
      have hl0 : left = [] := List.length_eq_zero_iff.mp (by omega)
      rw [hl0, List.append_nil] at hperm
      walk_at "v"
      exact k f found Ha hperm hfH hf1 hb1 e1
end
set_option Elab.async false
set_option linter.all false
set_option maxRecDepth 100000
set_option maxHeartbeats 4000000
/-! The law's own parts of a text, its names and words. -/
section
open PySem PySem.Spec PyProof.Rows L2
open Evl (Ex given)

theorem r_rep1 {H : Hp} {Q : VK} {l : Addr} {v : V} {c : Bool} (h : H l = some (.lst [v])) (q : ∀ p, H p = none → Q (.ref p) (upd H p (.lst (if c = true then [v] else [])))) : rRep (.ref l) (.int (if c then 1 else 0)) H Q := by
  refine ⟨l, _, [v], rfl, rfl, h, by cases c <;> decide, by cases c <;> decide, by cases c <;> exact sz100k (by show 1 * _ ≤ 100000; decide), fun p hp => ?_⟩
  cases c
  · exact q p hp
  · exact q p hp
section
variable {P : Program} {w : World} {K : PySem.W.Frag} {mg : Str → Option Value} {base : Heap}
theorem sc_law_parts : FnScope ["_law_text", "_law_found", "_law_run", "_law_sign"] ["_law_text"] (defScope s_law_parts) := ⟨rfl, rfl, rfl, by decide +kernel, rfl, by decide +kernel, by decide +kernel⟩
theorem ok_law_parts (T : Txt K mg) : GoodP P w K mg base "_law_parts" 1 ["_law_text"] spPartsOf := by
  obtain ⟨fd, F⟩ := T.f_law_parts
  refine good_of F sc_law_parts (fun vs H Q E h => ?_) (fun _ _ _ _ _ _ us hl => match us, hl with | [_], _ => rfl) (fun cdv A outer s H vs Q E hr h => ?_)
  · obtain ⟨v, rfl, _⟩ := h
    rfl
  · obtain ⟨z, rfl, hz, k⟩ := h
    refine ⟨_, (pss_cons (ps_par (i := 1) (j := 2) rfl sc_law_parts.nd rfl rfl (by decide) rfl rfl (pa_cons (pe_lst pa_nil) (pa_cons pe_str pa_nil)) rfl)
    (pss_cons (ps_for PassesOwn.never rfl (pi_str (pe_op op_addS (pv 0) pe_str)) (pg_name (i := 3) sc_law_parts.nd rfl (Or.inl rfl))
    (pss_one (ps_if (pt_cmpR op_inS (pv 3) pe_str rfl) (pss_one (ps_set (i := 2) sc_law_parts.nd rfl (Or.inl rfl) (pe_op op_addS (pv 2) (pv 3)))) (pss_cons (ps_set (i := 1) sc_law_parts.nd rfl (Or.inl rfl) (pe_op op_cat (pe_op op_cat (pv 1) (pe_op op_rep (pe_lst (pa_cons (pv 2) pa_nil)) (pe_callTy call_int1N rfl T.z_int (by decide +kernel) (pa_cons (pe_cmpR op_ne (pv 2) pe_str (nomark _)) pa_nil)))) (pe_op op_rep (pe_lst (pa_cons (pv 3) pa_nil)) (pe_callTy call_int1N rfl T.z_int (by decide +kernel) (pa_cons (pe_cmpR op_ne (pv 3) pe_str (nomark _)) pa_nil)))))
    (pss_one (ps_set (i := 2) sc_law_parts.nd rfl (Or.inl rfl) pe_str))))))
    (pss_one (ps_ret (pv 1))))), ?_⟩
    walk_at "v"
    intro p hp
    walk_at "v"
    refine r_addS (by have e : (" " : Str).length = 1 := rfl; omega) ?_
    walk_at "v"
    refine for_it (walk_str (z := z ++ " ")) (fun i σ H' => ∃ c f, σ = [some (.str z), some (.ref f), some (vS (tat (tl z ++ [32]) i).2), c] ∧ Ex H H' ∧ H f = none ∧ H' f = some (.lst ((tat (tl z ++ [32]) i).1.map vS)))
      ⟨none, p, rfl, Evl.Ex.new hp, hp, upd_same⟩ (fun _ _ _ _ _ => trivial) ?_ ?_
    · rintro i x σ H1 H2 hi ⟨c0, f, rfl, e1, hfn, hl⟩ ⟨rfl, c, hc, rfl⟩
      have hc' : (tl z ++ [32])[i]? = some c := by
        have e : (z ++ (" " : Str)).cps.toList = tl z ++ [32] := TL.tl_append z " "
        rw [← e, Array.getElem?_toList]
        exact hc
      have hin := (List.getElem?_eq_some_iff.mp hc').1
      have hsz : (tl z ++ [32]).length ≤ 10001 := by
        rw [List.length_append, ← len_tl]
        simp only [List.length_singleton]
        omega
      obtain ⟨b1, b2⟩ := tat_len (tl z ++ [32]) i (Nat.le_of_lt hin)
      have en := tat_next hc'
      generalize hst : tat (tl z ++ [32]) i = st at *
      walk_at "v"
      refine ite2 (fun hk => ?_) (fun hk => ?_)
      · have hs : c ∈ tl SIGNS := of_decide_eq_true hk
        have e2 : tstep st c = (st.1, st.2 ++ [c]) := by unfold tstep; rw [if_pos hs]
        walk_at "v"
        refine r_addS (by rw [S_len]; have e : (⟨#[c]⟩ : Str).length = 1 := rfl; omega) ?_
        walk_at "v"
        refine ⟨some (.str ⟨#[c]⟩), f, ?_, e1, hfn, ?_⟩
        · rw [en, e2]
          show _ = [some (V.str z), some (V.ref f), some (V.str (S (st.2 ++ [c]))), some (V.str ⟨#[c]⟩)]
          rw [← S_app]
          rfl
        · rw [en, e2]
          exact hl
      · have hs : ¬ c ∈ tl SIGNS := fun q => hk (decide_eq_true q)
        have e2 : tstep st c = ((st.1 ++ (if st.2 = [] then [] else [st.2])) ++ (if c = 32 then [] else [[c]]), []) := by unfold tstep; rw [if_neg hs]
        have e3 : (!decide (V.str ⟨#[c]⟩ = V.str " ")) = !decide (c = 32) := by rw [decide_eq_decide.mpr (str1_eq (d := 32) rfl)]
        have hc2 : (!decide (vS st.2 = V.str "")) = !decide (st.2 = []) := by rw [decide_eq_decide.mpr str0_eq]
        walk_at "v"
        intro p1 hp1
        walk_at "v"
        refine r_rep1 upd_same fun p2 hp2 => ?_
        rw [hc2]
        have x1 : Ex H2 (upd H2 p1 (.lst [vS st.2])) := Ex.mut (Ex.refl _) hp1
        have x2 : Ex (upd H2 p1 (.lst [vS st.2])) (upd (upd H2 p1 (.lst [vS st.2])) p2 (.lst (if (!decide (st.2 = [])) = true then [vS st.2] else []))) := Ex.mut (Ex.refl _) hp2
        have hl2 := (x1.trans x2) _ _ hl
        have h2 : upd (upd H2 p1 (.lst [vS st.2])) p2 (.lst (if (!decide (st.2 = [])) = true then [vS st.2] else [])) p2 = _ := upd_same
        generalize upd (upd H2 p1 (.lst [vS st.2])) p2 (.lst (if (!decide (st.2 = [])) = true then [vS st.2] else [])) = H3 at *
        have ei : (if (!decide (st.2 = [])) = true then [vS st.2] else []) = (if st.2 = [] then [] else [st.2]).map vS := by
          by_cases c : st.2 = [] <;> simp [c]
        rw [ei] at h2
        have hle : (if st.2 = [] then [] else [st.2]).length ≤ 1 := by split <;> simp
        refine r_cat hl2 h2 (by rw [List.length_map, List.length_map]; omega) fun p3 hp3 => ?_
        rw [← List.map_append]
        have x3 : Ex H3 (upd H3 p3 (.lst ((st.1 ++ if st.2 = [] then [] else [st.2]).map vS))) := Ex.mut (Ex.refl _) hp3
        have h3 : upd H3 p3 (.lst ((st.1 ++ if st.2 = [] then [] else [st.2]).map vS)) p3 = _ := upd_same
        generalize upd H3 p3 (.lst ((st.1 ++ if st.2 = [] then [] else [st.2]).map vS)) = H4 at *
        walk_at "v"
        intro p4 hp4
        walk_at "v"
        refine r_rep1 upd_same fun p5 hp5 => ?_
        rw [e3]
        have x4 : Ex H4 (upd H4 p4 (.lst [V.str ⟨#[c]⟩])) := Ex.mut (Ex.refl _) hp4
        have x5 : Ex (upd H4 p4 (.lst [V.str ⟨#[c]⟩])) (upd (upd H4 p4 (.lst [V.str ⟨#[c]⟩])) p5 (.lst (if (!decide (c = 32)) = true then [V.str ⟨#[c]⟩] else []))) := Ex.mut (Ex.refl _) hp5
        have hl5 := (x4.trans x5) _ _ h3
        have h5 : upd (upd H4 p4 (.lst [V.str ⟨#[c]⟩])) p5 (.lst (if (!decide (c = 32)) = true then [V.str ⟨#[c]⟩] else [])) p5 = _ := upd_same
        generalize upd (upd H4 p4 (.lst [V.str ⟨#[c]⟩])) p5 (.lst (if (!decide (c = 32)) = true then [V.str ⟨#[c]⟩] else [])) = H5 at *
        have ei2 : (if (!decide (c = 32)) = true then [V.str ⟨#[c]⟩] else []) = (if c = 32 then [] else [[c]]).map vS := by
          by_cases c' : c = 32
          · simp [c']
          · simp [c']
            rfl
        rw [ei2] at h5
        have hle2 : (if c = 32 then [] else [[c]]).length ≤ 1 := by split <;> simp
        refine r_cat hl5 h5 (by rw [List.length_map, List.length_map, List.length_append]; omega) fun p6 hp6 => ?_
        rw [← List.map_append]
        have x6 : Ex H5 (upd H5 p6 (.lst (((st.1 ++ if st.2 = [] then [] else [st.2]) ++ if c = 32 then [] else [[c]]).map vS))) := Ex.mut (Ex.refl _) hp6
        have eA := ((((e1.trans (x1.trans x2)).trans x3).trans (x4.trans x5)))
        walk_at "v"
        refine ⟨_, p6, by rw [en, e2]; rfl, eA.trans x6, ?_, ?_⟩
        · cases q : H p6 with
          | none => rfl
          | some o =>
            rw [eA _ _ q] at hp6
            cases hp6
        · rw [upd_same, en, e2]
    · rintro σ H1 ⟨c, f, rfl, e1, hfn, hl⟩
      walk_at "v"
      refine k _ _ hfn e1 ?_
      have e : (z ++ (" " : Str)).cps.size = (tl z ++ [32]).length := by
        have e0 : (z ++ (" " : Str)).cps.toList = tl z ++ [32] := TL.tl_append z " "
        rw [← e0]
        simp
      rw [e] at hl
      unfold tat at hl
      rw [List.take_length] at hl
      exact hl
def spIsWord : Sp := fun vs H Q _ => ∃ (l : List Nat) (f : Str), vs = [vS l, .str f] ∧ isFile (S l) = true ∧ hd0 (S l) ∈ tl f ∧ ∀ H', Ex H H' → Q (.bl true) H'
theorem sc_law_is_word : FnScope ["_law_part", "_law_first", "_law_signs", "_law_sign"] ["_law_part", "_law_first"] (defScope s_law_is_word) := ⟨rfl, rfl, rfl, by decide +kernel, rfl, by decide +kernel, by decide +kernel⟩
theorem ok_law_is_word (T : Txt K mg) : GoodP P w K mg base "_law_is_word" 1 ["_law_part", "_law_first"] spIsWord := by
  obtain ⟨fd, F⟩ := T.f_law_is_word
  refine good_of F sc_law_is_word (fun vs H Q E h => ?_) (fun _ _ _ _ _ _ us hl => match us, hl with | [_, _], _ => rfl) (fun cdv A outer s H vs Q E hr h => ?_)
  · obtain ⟨l, f, rfl, _⟩ := h
    rfl
  · obtain ⟨l, f, rfl, hf, hh, k⟩ := h
    have hlen := isFile_len hf
    rw [S_len] at hlen
    have hne : l ≠ [] := fun z => by rw [z] at hlen; simp at hlen
    refine ⟨_, (pss_cons (ps_set (i := 2) sc_law_is_word.nd rfl (Or.inr rfl) pe_str)
    (pss_cons (ps_if (PW.pt (pw_or (pt_cmpR op_eq (pv 0) pe_str (nomark _)) (pw_or (pt_cmpR op_gt (pe_callB call_lenN rfl T.z_len (by decide +kernel) (pa_cons (pv 0) pa_nil)) pe_int (nomark _)) (pw_or1 (pt_cmpR (op_neD hr.units) (pe_lc (own := [("_law_sign", 3)]) rfl sc_law_is_word.nd (pi_str (pv 0)) (blkOk_by (N := ["_law_part", "_law_first", "_law_signs", "_law_sign"]) (sc := defScope s_law_is_word) (by decide +kernel)) (fun _ _ _ _ _ => (pg_name (i := 3) sc_law_is_word.nd rfl (Or.inl rfl))) (fun _ _ _ _ _ => (pts_one (pt_cmpR op_notInS (pv 3) (pv 2) rfl))) (fun _ _ _ _ _ => (pv 3))) (pe_lst pa_nil) (nomark _)))))) (pss_one (ps_ret pe_bl)) pss_nil)
    (pss_one (ps_ret (pe_cmpR op_inS (pe_ix ix_str (pv 0) pe_int (fun _ _ => rfl)) (pv 1) rfl))))), ?_⟩
    walk_at "v"
    rw [show decide (vS l = V.str "") = false from decide_eq_false fun z => hne (str0_eq.mp z)]
    walk_at "v"
    rw [show decide ((24 : Int) < ((S l).length : Nat)) = false from decide_eq_false (by rw [S_len]; omega)]
    refine iteF ?_
    walk_at "v"
    intro D hD
    refine lc_v walk_str (fun _ => false) (fun _ => .non) hD (by have e : (S l).cps.size = l.length := by simp [S]
                                                                 omega) (fun _ _ => trivial) ?_ (fun H1 e1 hd => ?_)
    · rintro N i x Ha Hb hi ea ⟨rfl, c, hc, rfl⟩ hno hyes
      have hcm : c ∈ tl SIGNS := isFile_mem hf c (by
        have e : (S l).cps[i]? = l[i]? := by simp [S]
        rw [e] at hc
        exact List.mem_of_getElem? hc)
      walk_at "v"
      refine ⟨rfl, ?_⟩
      walk_at "v"
      rw [show decide (c ∈ (Str.ofString "abcdefghijklmnopqrstuvwxyz0123456789-").cps.toList) = true from decide_eq_true hcm]
      walk_at "v"
      exact hno rfl _ (Ex.refl _)
    · have hg : ∀ n : Nat, given n (fun _ => false) (fun _ => V.non) = [] := by
        intro n
        induction n with
        | zero => rfl
        | succ n ih => rw [Evl.given_no rfl, ih]
      rw [hg] at hd
      walk_at "v"
      intro q hq
      have eq1 : Ex H1 (upd H1 q (.lst [])) := Ex.mut (Ex.refl _) hq
      refine ⟨.list [], .list [], .lst (SqL.of (eq1 _ _ hd)) .nil, .lst (SqL.of upd_same) .nil, rfl, rfl, ?_⟩
      rw [show (!(PyData.list []).eqv (PyData.list [])) = false from rfl]
      walk_at "v"
      cases l with
      | nil => exact absurd rfl hne
      | cons c r =>
        refine r_ixS (by rw [S_len]; omega) (ch := c) (atI_nat (j := 0) rfl) ?_
        walk_at "v"
        have hm : c ∈ f.cps.toList := hh
        rw [decide_eq_true hm]
        exact k _ (e1.trans eq1)
end
end
set_option Elab.async false
set_option linter.all false
set_option maxRecDepth 100000
set_option maxHeartbeats 4000000
/-! The law's own split. -/
section
open PySem PySem.Spec PyProof.Rows L2
open Evl (Ex given)

/-! ### the mathematics -/
abbrev Toks := List (List Nat)
def updLast (f : Toks → Toks) : List Toks → List Toks
  | [] => []
  | [x] => [f x]
  | x :: y :: r => x :: updLast f (y :: r)
theorem updLast_snoc (f : Toks → Toks) : ∀ (l : List Toks) (x : Toks), updLast f (l ++ [x]) = l ++ [f x]
  | [], x => rfl
  | [a], x => rfl
  | a :: b :: l, x => by
    show a :: updLast f (b :: l ++ [x]) = _
    rw [updLast_snoc f (b :: l) x]
    rfl
def dstep (d : Int) (t : List Nat) : Int := d + (if t = pL then 1 else 0) - (if t = pR then 1 else 0)
def sstep (sg : List Nat) (st : List Toks × Int) (t : List Nat) : List Toks × Int :=
  if t = sg ∧ dstep st.2 t = 0 then (st.1 ++ [[]], dstep st.2 t) else (updLast (· ++ [t]) st.1, dstep st.2 t)
/-- from depth d ts runs well (never under 0) and only adds to the last piece -/
def Run (sg : List Nat) (d : Nat) (ts : Toks) : Prop := ∀ (ps : List Toks) (p : Toks), (∀ i, 0 ≤ ((ts.take i).foldl (sstep sg) (ps ++ [p], (d : Int))).2) ∧ ts.foldl (sstep sg) (ps ++ [p], (d : Int)) = (ps ++ [p ++ ts], (d : Int))
def Cl (sg : List Nat) (ts : Toks) : Prop := ∀ d, Run sg d ts
def ClP (sg : List Nat) (ts : Toks) : Prop := ∀ d, Run sg (d + 1) ts
theorem Cl.p {sg : List Nat} {ts : Toks} (h : Cl sg ts) : ClP sg ts := fun d => h (d + 1)
theorem run_app {sg : List Nat} {d : Nat} {a b : Toks} (ha : Run sg d a) (hb : Run sg d b) : Run sg d (a ++ b) := by
  intro ps p
  obtain ⟨a1, a2⟩ := ha ps p
  obtain ⟨b1, b2⟩ := hb ps (p ++ a)
  refine ⟨fun i => ?_, by rw [List.foldl_append, a2, b2, List.append_assoc]⟩
  rw [List.take_append]
  by_cases c : i ≤ a.length
  · have : i - a.length = 0 := by omega
    rw [this, List.take_zero, List.append_nil]
    exact a1 i
  · rw [List.take_of_length_le (by omega), List.foldl_append, a2]
    exact b1 _
theorem run_one {sg t : List Nat} {d : Nat} (h1 : t ≠ pL) (h2 : t ≠ pR) (h : t ≠ sg ∨ d ≠ 0) : Run sg d [t] := by
  intro ps p
  have hd : dstep (d : Int) t = d := by
    unfold dstep
    rw [if_neg h1, if_neg h2]
    omega
  have hs : sstep sg (ps ++ [p], (d : Int)) t = (ps ++ [p ++ [t]], (d : Int)) := by
    unfold sstep
    rw [hd, if_neg, updLast_snoc]
    rintro ⟨c1, c2⟩
    rcases h with h | h
    · exact h c1
    · exact h (by have : (d : Int) = 0 := c2; omega)
  refine ⟨fun i => ?_, by rw [List.foldl_cons, hs]; rfl⟩
  cases i with
  | zero =>
    show (0 : Int) ≤ (d : Int)
    omega
  | succ i =>
    rw [List.take_succ_cons, List.take_nil, List.foldl_cons, hs]
    show (0 : Int) ≤ (d : Int)
    omega
theorem run_par {sg : List Nat} {d : Nat} {u : Toks} (hL : pL ≠ sg) (hR : pR ≠ sg) (hu : Run sg (d + 1) u) : Run sg d (pL :: (u ++ [pR])) := by
  intro ps p
  have e1 : sstep sg (ps ++ [p], (d : Int)) pL = (ps ++ [p ++ [pL]], ((d + 1 : Nat) : Int)) := by
    have hd : dstep (d : Int) pL = ((d + 1 : Nat) : Int) := by
      unfold dstep
      rw [if_pos rfl, if_neg (by decide)]
      omega
    unfold sstep
    rw [hd, if_neg (fun c => hL c.1), updLast_snoc]
  obtain ⟨u1, u2⟩ := hu ps (p ++ [pL])
  have e2 : ∀ q, sstep sg (ps ++ [q], ((d + 1 : Nat) : Int)) pR = (ps ++ [q ++ [pR]], (d : Int)) := fun q => by
    have hd : dstep ((d + 1 : Nat) : Int) pR = (d : Int) := by
      unfold dstep
      rw [if_neg (by decide), if_pos rfl]
      omega
    unfold sstep
    rw [hd, if_neg (fun c => hR c.1), updLast_snoc]
  refine ⟨fun i => ?_, ?_⟩
  · cases i with
    | zero =>
      show (0 : Int) ≤ (d : Int)
      omega
    | succ i =>
      rw [List.take_succ_cons, List.foldl_cons, e1, List.take_append]
      by_cases c : i ≤ u.length
      · have : i - u.length = 0 := by omega
        rw [this, List.take_zero, List.append_nil]
        exact u1 i
      · have c2 : ∃ k, i - u.length = k + 1 := ⟨i - u.length - 1, by omega⟩
        obtain ⟨k, hk⟩ := c2
        rw [List.take_of_length_le (by omega), hk, List.take_succ_cons, List.take_nil, List.foldl_append, u2, List.foldl_cons, e2]
        show (0 : Int) ≤ (d : Int)
        omega
  · rw [List.foldl_cons, e1, List.foldl_append, u2, List.foldl_cons, e2]
    simp
theorem run_nil {sg : List Nat} {d : Nat} : Run sg d [] := fun ps p => ⟨fun i => by
  rw [List.take_nil]
  show (0 : Int) ≤ (d : Int)
  omega, by simp⟩
theorem run_inter {sg s : List Nat} {d : Nat} (hs : Run sg d [s]) : ∀ {l : List Toks}, (∀ x ∈ l, Run sg d x) → Run sg d (inter s l)
  | [], _ => run_nil
  | [a], h => h a (by simp)
  | a :: b :: r, h => run_app (h a (by simp)) (run_app (a := [s]) hs (run_inter hs fun x hx => h x (by simp [hx])))
def okSg (sg : List Nat) : Prop := sg = pAND ∨ sg = pOR
theorem name_tok {k : List Nat} (h : isFile (S k) = true) {t : List Nat} (ht : isFile (S t) = false) : k ≠ t := fun z => by
  rw [z, ht] at h
  cases h
theorem test_run {ts : Toks} {m : Mn} (h : TestP ts m) {sg : List Nat} (hsg : okSg sg) (d : Nat) : Run sg d ts := by
  have ne : ∀ {t : List Nat}, isFile (S t) = true ∨ t = pEQ ∨ t = pST → Run sg d [t] := fun {t} ht => by
    refine run_one ?_ ?_ (.inl ?_)
    · rcases ht with ht | rfl | rfl
      · exact name_tok ht (by decide +kernel)
      · decide
      · decide
    · rcases ht with ht | rfl | rfl
      · exact name_tok ht (by decide +kernel)
      · decide
      · decide
    · rcases hsg with rfl | rfl <;> rcases ht with ht | rfl | rfl
      · exact name_tok ht (by decide +kernel)
      · decide
      · decide
      · exact name_tok ht (by decide +kernel)
      · decide
      · decide
  rcases h with ⟨rfl, _⟩ | ⟨k, rfl, hk, _⟩ | ⟨k, x, rfl, hk, hx, _⟩
  · exact ne (.inl (by decide +kernel))
  · exact run_app (a := [k]) (ne (.inl (isName_file hk))) (run_app (a := [pEQ]) (ne (.inr (.inl rfl))) (ne (.inr (.inr rfl))))
  · exact run_app (a := [k]) (ne (.inl (isName_file hk))) (run_app (a := [pEQ]) (ne (.inr (.inl rfl))) (ne (.inl (isWord_file hx))))
theorem and_run {sg : List Nat} {d : Nat} (h : pAND ≠ sg ∨ d ≠ 0) : Run sg d [pAND] := run_one (by decide) (by decide) h
theorem or_run {sg : List Nat} {d : Nat} (h : pOR ≠ sg ∨ d ≠ 0) : Run sg d [pOR] := run_one (by decide) (by decide) h
/-- how the grammar runs -/
theorem gram_run : ∀ n, (∀ ts m, OneP n ts m → ∀ sg, okSg sg → ∀ d, Run sg d ts) ∧ (∀ ts m, EachP n ts m → ∀ d, Run pOR d ts ∧ Run pAND (d + 1) ts) ∧ (∀ ts m, AnyP n ts m → ∀ sg, okSg sg → ∀ d, Run sg (d + 1) ts) := by
  have up : ∀ n, (∀ ts m, OneP n ts m → ∀ sg, okSg sg → ∀ d, Run sg d ts) → (∀ ts m, EachP n ts m → ∀ d, Run pOR d ts ∧ Run pAND (d + 1) ts) ∧ (∀ ts m, AnyP n ts m → ∀ sg, okSg sg → ∀ d, Run sg (d + 1) ts) := by
    intro n h1
    have h2 : ∀ ts m, EachP n ts m → ∀ sg, okSg sg → ∀ d, (pAND ≠ sg ∨ d ≠ 0) → Run sg d ts := by
      rintro ts m ⟨xs, _, hx, rfl, _⟩ sg hsg d hd
      refine run_inter (and_run hd) fun x hx' => ?_
      obtain ⟨y, hy, rfl⟩ := List.mem_map.mp hx'
      exact h1 _ _ (hx y hy) sg hsg d
    refine ⟨fun ts m h d => ⟨h2 ts m h pOR (.inr rfl) d (.inl (by decide)), h2 ts m h pAND (.inl rfl) (d + 1) (.inr (by omega))⟩, ?_⟩
    rintro ts m ⟨xs, _, hx, rfl, _⟩ sg hsg d
    refine run_inter (or_run (.inr (by omega))) fun x hx' => ?_
    obtain ⟨y, hy, rfl⟩ := List.mem_map.mp hx'
    exact h2 _ _ (hx y hy) sg hsg (d + 1) (.inr (by omega))
  intro n
  induction n with
  | zero =>
    have h1 : ∀ ts m, OneP 0 ts m → ∀ sg, okSg sg → ∀ d, Run sg d ts := fun ts m h sg hsg d => test_run h hsg d
    exact ⟨h1, up 0 h1⟩
  | succ n ih =>
    have h1 : ∀ ts m, OneP (n + 1) ts m → ∀ sg, okSg sg → ∀ d, Run sg d ts := by
      rintro ts m (h | ⟨u, m', rfl, hu, _⟩ | ⟨u, rfl, hu⟩) sg hsg d
      · exact test_run h hsg d
      · exact run_app (a := [pNOT]) (run_one (by decide) (by decide) (.inl (by rcases hsg with rfl | rfl <;> decide))) (ih.1 u m' hu sg hsg d)
      · exact run_par (by rcases hsg with rfl | rfl <;> decide) (by rcases hsg with rfl | rfl <;> decide) (ih.2.2 u m hu sg hsg d)
    exact ⟨h1, up (n + 1) h1⟩
theorem split_inter {sg : List Nat} (h1 : sg ≠ pL) (h2 : sg ≠ pR) : ∀ {es : List Toks}, es ≠ [] → (∀ e ∈ es, Run sg 0 e) → ∀ ps : List Toks, (∀ i, 0 ≤ (((inter sg es).take i).foldl (sstep sg) (ps ++ [[]], (0 : Int))).2) ∧ (inter sg es).foldl (sstep sg) (ps ++ [[]], (0 : Int)) = (ps ++ es, (0 : Int))
  | [], h, _, _ => absurd rfl h
  | [a], _, hr, ps => by
    obtain ⟨a1, a2⟩ := hr a (by simp) ps []
    exact ⟨a1, a2⟩
  | a :: b :: r, _, hr, ps => by
    obtain ⟨a1, a2⟩ := hr a (by simp) ps []
    have es : sstep sg (ps ++ [a], (0 : Int)) sg = ((ps ++ [a]) ++ [[]], (0 : Int)) := by
      have hd : dstep (0 : Int) sg = 0 := by
        unfold dstep
        rw [if_neg h1, if_neg h2]
        rfl
      unfold sstep
      rw [hd, if_pos ⟨rfl, rfl⟩]
    obtain ⟨b1, b2⟩ := split_inter h1 h2 (es := b :: r) (by simp) (fun e he => hr e (by simp [he])) (ps ++ [a])
    have e0 : inter sg (a :: b :: r) = a ++ sg :: inter sg (b :: r) := rfl
    have a2' : a.foldl (sstep sg) (ps ++ [[]], (0 : Int)) = (ps ++ [a], (0 : Int)) := by simpa using a2
    refine ⟨fun i => ?_, ?_⟩
    · rw [e0, List.take_append]
      by_cases c : i ≤ a.length
      · have : i - a.length = 0 := by omega
        rw [this, List.take_zero, List.append_nil]
        exact a1 i
      · obtain ⟨k, hk⟩ : ∃ k, i - a.length = k + 1 := ⟨i - a.length - 1, by omega⟩
        rw [List.take_of_length_le (by omega), hk, List.take_succ_cons, List.foldl_append, a2', List.foldl_cons, es]
        exact b1 k
    · rw [e0, List.foldl_append, a2', List.foldl_cons, es, b2]
      simp
section
variable {P : Program} {w : World} {K : PySem.W.Frag} {mg : Str → Option Value} {base : Heap}
theorem atI_last {α : Type} (xs : List α) (x : α) : atI (xs ++ [x]) (-1) = some x := by
  have e : ixN (xs ++ [x]).length (-1) = some xs.length := by
    unfold ixN
    have hl : (xs ++ [x]).length = xs.length + 1 := by simp
    rw [hl]
    have h1 : ¬ (0 : Int) ≤ -1 := by decide
    simp only [h1, if_false]
    first
      | (rw [if_pos (by omega)]; congr 1; omega)
      | (split <;> first | (congr 1; omega) | omega)
      | (simp; omega)
  unfold atI
  rw [e]
  simp
def LstAt (H : Hp) (l : Addr) (ts : Toks) : Prop := H l = some (.lst (ts.map vS))
def spSplit : Sp := fun vs H Q _ => ∃ (a : Addr) (ts : Toks) (sg : List Nat) (pieces : List Toks), vs = [.ref a, vS sg] ∧ LstAt H a ts ∧ ts.length ≤ 10000 ∧ (∀ i, 0 ≤ ((ts.take i).foldl (sstep sg) ([[]], (0 : Int))).2) ∧ ts.foldl (sstep sg) ([[]], (0 : Int)) = (pieces, 0) ∧
  ∀ p ls H', H p = none → Ex H H' → H' p = some (.lst (ls.map V.ref)) → Paired (LstAt H') ls pieces → Q (.ref p) H'
theorem sc_law_split : FnScope ["_law_parts_here", "_law_sign", "_law_found", "_law_deep", "_law_part"] ["_law_parts_here", "_law_sign"] (defScope s_law_split) := ⟨rfl, rfl, rfl, by decide +kernel, rfl, by decide +kernel, by decide +kernel⟩
theorem ok_law_split (T : Txt K mg) : GoodP P w K mg base "_law_split" 1 ["_law_parts_here", "_law_sign"] spSplit := by
  obtain ⟨fd, F⟩ := T.f_law_split
  refine good_of F sc_law_split (fun vs H Q E h => ?_) (fun _ _ _ _ _ _ us hl => match us, hl with | [_, _], _ => rfl) (fun cdv A outer s H vs Q E hr h => ?_)
  · obtain ⟨a, ts, sg, pieces, rfl, _⟩ := h
    rfl
  · obtain ⟨a, ts, sg, pieces, rfl, ha, hl, hpos, hend, k⟩ := h
    unfold LstAt at ha
    refine ⟨_, (pss_cons (ps_par (i := 2) (j := 3) rfl sc_law_split.nd rfl rfl (by decide) rfl rfl (pa_cons (pe_lst (pa_cons (pe_lst pa_nil) pa_nil)) (pa_cons pe_int pa_nil)) rfl)
    (pss_cons (ps_for PassesOwn.never rfl (pi_list (pv 0)) (pg_name (i := 4) sc_law_split.nd rfl (Or.inl rfl))
    (pss_cons (ps_set (i := 3) sc_law_split.nd rfl (Or.inl rfl) (pe_op op_sub (pe_op op_add (pv 3) (pe_callTy call_int1N rfl T.z_int (by decide +kernel) (pa_cons (pe_cmpR op_eq (pv 4) pe_str (nomark _)) pa_nil))) (pe_callTy call_int1N rfl T.z_int (by decide +kernel) (pa_cons (pe_cmpR op_eq (pv 4) pe_str (nomark _)) pa_nil))))
    (pss_cons (ps_if (pt_cmpR op_lt (pv 3) pe_int (nomark _)) (pss_one (ps_ret (pe_lst pa_nil))) pss_nil)
    (pss_one (ps_if (PW.pt (pw_and (pt_cmpR op_eq (pv 4) (pv 1) (nomark _)) (pw_and1 (pt_cmpR op_eq (pv 3) pe_int (nomark _))))) (pss_one (ps_expr (pe_bm PySem.F.plainAttrs_list PySem.F.slot_list_append PySem.F.type_list_append mt_append (pv 2) (pa_cons (pe_lst pa_nil) pa_nil)))) (pss_one (ps_expr (pe_bm PySem.F.plainAttrs_list PySem.F.slot_list_append PySem.F.type_list_append mt_append (pe_ix ix_list (pv 2) (pe_un un_neg pe_int) (fun _ _ => rfl)) (pa_cons (pv 4) pa_nil)))))))))
    (pss_one (ps_ret (pe_ifExp (pt_cmpR op_eq (pv 3) pe_int (nomark _)) (pv 2) (pe_lst pa_nil)))))), ?_⟩
    walk_at "v"
    intro l0 hl0
    walk_at "v"
    intro f0 hf0
    walk_at "v"
    have e0 : Ex H (upd (upd H l0 (.lst [])) f0 (.lst [.ref l0])) := Ex.mut (Ex.mut (Ex.refl _) hl0) (by
      cases q : H f0 with
      | none => rfl
      | some o =>
        rw [upd_ne (ne_of_none q hl0), q] at hf0
        cases hf0)
    have hfH : H f0 = none := by
      cases q : H f0 with
      | none => rfl
      | some o =>
        rw [upd_ne (ne_of_none q hl0), q] at hf0
        cases hf0
    have hlf : l0 ≠ f0 := ne_of_none upd_same hf0
    have ha0 := e0 _ _ ha
    walk_at "v"
    refine for_it (walk_list (xs := ts.map vS)) (fun i σ H' => ∃ o ls l ps p d, σ = [some (.ref a), some (vS sg), some (.ref f0), some (.int d), o] ∧ (ts.take i).foldl (sstep sg) ([[]], (0 : Int)) = (ps ++ [p], d) ∧ H' f0 = some (.lst ((ls ++ [l]).map V.ref)) ∧ Paired (LstAt H') ls ps ∧ LstAt H' l p ∧ l ∉ ls ∧ f0 ∉ ls ∧ l ≠ f0 ∧ H l = none ∧ Ex H H' ∧ ls.length ≤ i ∧ p.length ≤ i)
      ⟨none, [], l0, [], [], 0, rfl, by simp, upd_same, .nil, (upd_ne hlf).trans upd_same, by simp, by simp, hlf, hl0, e0, Nat.le_refl _, Nat.le_refl _⟩ (fun i σ H' _ h => ?_) ?_ ?_
    · obtain ⟨_, _, _, _, _, _, _, _, _, _, _, _, _, _, _, e, _⟩ := h
      exact SqL.of (e _ _ ha)
    · rintro i x σ Ha Hb hi ⟨o, ls, l, ps, p, d, rfl, hst, hf1, hps, hlp, hlm, hfm, hlf1, hlH, e1, hl1, hl2⟩ ⟨rfl, hx⟩
      obtain ⟨t, ht, rfl⟩ : ∃ t, ts[i]? = some t ∧ x = vS t := by
        rw [List.getElem?_map] at hx
        cases e : ts[i]? with
        | none =>
          rw [e] at hx
          cases hx
        | some t =>
          rw [e] at hx
          exact ⟨t, rfl, (Option.some.inj hx).symm⟩
      obtain ⟨hti, eti⟩ := List.getElem?_eq_some_iff.mp ht
      have hst2 : (ts.take (i + 1)).foldl (sstep sg) ([[]], (0 : Int)) = sstep sg (ps ++ [p], d) t := by
        rw [← List.take_append_getElem hti, eti, List.foldl_append, hst]
        rfl
      have hd2 : 0 ≤ dstep d t := by
        have := hpos (i + 1)
        rw [hst2] at this
        unfold sstep at this
        split at this <;> exact this
      have c1 : decide (vS t = V.str "(") = decide (t = pL) := vS_dec
      have c2 : decide (vS t = V.str ")") = decide (t = pR) := vS_dec
      walk_at "v"
      rw [c1]
      walk_at "v"
      rw [c2]
      walk_at "v"
      have ed : d + (if decide (t = pL) = true then 1 else 0) - (if decide (t = pR) = true then 1 else 0) = dstep d t := by
        unfold dstep
        by_cases q1 : t = pL <;> by_cases q2 : t = pR <;> simp [q1, q2]
      rw [ed]
      walk_at "v"
      rw [show decide (dstep d t < 0) = false from decide_eq_false (by omega)]
      walk_at "v"
      rw [show decide (vS t = vS sg) = decide (t = sg) from vS_dec]
      have hlast : atI ((ls ++ [l]).map V.ref) (-1) = some (.ref l) := by
        rw [List.map_append]
        exact atI_last _ _
      have app : ¬ (t = sg ∧ dstep d t = 0) → ∀ H', H' = upd Hb l (.lst (p.map vS ++ [vS t])) → sstep sg (ps ++ [p], d) t = (ps ++ [p ++ [t]], dstep d t) ∧ H' f0 = some (.lst ((ls ++ [l]).map V.ref)) ∧ Paired (LstAt H') ls ps ∧ LstAt H' l (p ++ [t]) ∧ Ex H H' := by
        intro hc H' hH'
        subst hH'
        refine ⟨?_, (upd_ne hlf1.symm).trans hf1, ?_, ?_, Ex.mut e1 hlH⟩
        · unfold sstep
          rw [if_neg hc, updLast_snoc]
        · have key : ∀ {ls : List Addr} {ps : List Toks}, l ∉ ls → Paired (LstAt Hb) ls ps → Paired (LstAt (upd Hb l (.lst (p.map vS ++ [vS t])))) ls ps := by
            intro ls ps hn hp
            induction hp with
            | nil => exact .nil
            | @cons x y xs ys h _ ih => exact .cons ((upd_ne fun z => hn (by simp [z])).trans h) (ih fun z => hn (by simp [z]))
          exact key hlm hps
        · show upd _ l _ l = _
          rw [upd_same, List.map_append]
          rfl
      by_cases q1 : t = sg
      · rw [decide_eq_true q1]
        walk_at "v"
        by_cases q2 : dstep d t = 0
        · rw [q2, show decide (V.int 0 = V.int 0) = true from rfl]
          walk_at "v"
          intro ln hln
          have eln : Ex Hb (upd Hb ln (.lst [])) := Ex.mut (Ex.refl _) hln
          have hf2 := eln _ _ hf1
          walk_at "v"
          refine r_append hf2 (by simp; omega) ?_
          have hlnf : ln ≠ f0 := (ne_of_none hf1 hln).symm
          have nf : ∀ {b : Addr} {zs : Toks}, LstAt Hb b zs → b ≠ f0 → LstAt (upd (upd Hb ln (.lst [])) f0 (.lst ((ls ++ [l]).map V.ref ++ [.ref ln]))) b zs := fun {b zs} hb hne => (upd_ne hne).trans (eln _ _ hb)
          have hfn : ∀ x ∈ ls, x ≠ f0 := fun x hx z => hfm (z ▸ hx)
          have hnl : ∀ x zs, LstAt Hb x zs → ln ≠ x := fun x zs hx => (ne_of_none hx hln).symm
          refine ⟨_, ls ++ [l], ln, ps ++ [p], [], 0, rfl, ?_, ?_, ?_, (upd_ne hlnf).trans upd_same, ?_, ?_, hlnf, ?_, ?_, by simp; omega, by simp⟩
          · rw [hst2]
            unfold sstep
            rw [if_pos ⟨q1, q2⟩, q2]
          · rw [upd_same, List.map_append (l₁ := ls ++ [l])]
            rfl
          · have key : ∀ {ls : List Addr} {ps : List Toks}, (∀ x ∈ ls, x ≠ f0) → Paired (LstAt Hb) ls ps → Paired (LstAt (upd (upd Hb ln (.lst [])) f0 (.lst ((ls ++ [l]).map V.ref ++ [.ref ln])))) ls ps → True := fun _ _ _ => trivial
            have key2 : ∀ {xs : List Addr} {ys : List Toks}, (∀ x ∈ xs, x ≠ f0) → Paired (LstAt Hb) xs ys → Paired (LstAt (upd (upd Hb ln (.lst [])) f0 (.lst ((ls ++ [l]).map V.ref ++ [.ref ln])))) xs ys := by
              intro xs ys hn hp
              induction hp with
              | nil => exact .nil
              | @cons x y xs ys h _ ih => exact .cons (nf h (hn x (by simp))) (ih fun z hz => hn z (by simp [hz]))
            exact Papp (key2 hfn hps) (.cons (nf hlp hlf1) .nil)
          · intro hm
            rcases List.mem_append.mp hm with hm | hm
            · obtain ⟨i0, hi0⟩ := List.mem_iff_getElem?.mp hm
              obtain ⟨y, _, hy⟩ := Pat hps hi0
              exact hnl _ _ hy rfl
            · rw [List.mem_singleton] at hm
              exact hnl _ _ hlp hm
          · intro hm
            rcases List.mem_append.mp hm with hm | hm
            · exact hfm hm
            · rw [List.mem_singleton] at hm
              exact hlf1 hm.symm
          · cases q' : H ln with
            | none => rfl
            | some o' =>
              rw [e1 _ _ q'] at hln
              cases hln
          · exact Ex.mut (e1.trans eln) hfH
        · rw [show decide (V.int (dstep d t) = V.int 0) = false from decide_eq_false fun z => q2 (by injection z)]
          walk_at "v"
          refine r_ixL (SqL.of hf1) hlast ?_
          walk_at "v"
          refine r_append hlp (by rw [List.length_map]; omega) ?_
          obtain ⟨z1, z2, z3, z4, z5⟩ := app (fun z => q2 z.2) _ rfl
          exact ⟨_, ls, l, ps, p ++ [t], _, rfl, hst2.trans z1, z2, z3, z4, hlm, hfm, hlf1, hlH, z5, by omega, by simp; omega⟩
      · rw [decide_eq_false q1]
        walk_at "v"
        refine r_ixL (SqL.of hf1) hlast ?_
        walk_at "v"
        refine r_append hlp (by rw [List.length_map]; omega) ?_
        obtain ⟨z1, z2, z3, z4, z5⟩ := app (fun z => q1 z.1) _ rfl
        exact ⟨_, ls, l, ps, p ++ [t], _, rfl, hst2.trans z1, z2, z3, z4, hlm, hfm, hlf1, hlH, z5, by omega, by simp; omega⟩
    · rintro σ Ha ⟨o, ls, l, ps, p, d, rfl, hst, hf1, hps, hlp, hlm, hfm, hlf1, hlH, e1, hl1, hl2⟩
      rw [List.length_map, List.take_length, hend] at hst
      injection hst with h1 h2
      subst h2
      walk_at "v"
      rw [show decide (V.int 0 = V.int 0) = true from rfl]
      walk_at "v"
      refine k f0 (ls ++ [l]) Ha hfH e1 hf1 ?_
      rw [h1]
      exact Papp hps (.cons hlp .nil)
end
end
set_option Elab.async false
set_option linter.all false
set_option maxRecDepth 100000
set_option maxHeartbeats 4000000
/-! The law's own reader. -/
section
open PySem PySem.Spec PyProof.Rows L2
open Evl (Ex given)

/-! ### the law's trees -/
def LTe (H : Hp) (v : V) (m : Mn) : Prop := ∃ a, v = .ref a ∧ ((H a = some (.lst [vS pALL, vS []]) ∧ m = fun _ => true) ∨ (∃ k, H a = some (.lst [vS (k ++ pEQ), vS pST]) ∧ isName (S k) = true ∧ m = fun s => (wordOf s k).isSome) ∨
  ∃ k x, H a = some (.lst [vS (k ++ pEQ), vS x]) ∧ isName (S k) = true ∧ isWord (S x) = true ∧ m = fun s => decide (wordOf s k = some x))
def LTr (H : Hp) : Nat → V → Mn → Prop
  | 0, v, m => LTe H v m
  | n + 1, v, m => LTe H v m ∨ (∃ a l u m', v = .ref a ∧ H a = some (.lst [vS pNOT, .ref l]) ∧ H l = some (.lst [u]) ∧ LTr H n u m' ∧ m = fun s => !m' s) ∨
      ∃ (a l : Addr) (b : Bool) (xs : List (V × Mn)), v = .ref a ∧ H a = some (.lst [vS (if b = true then pAND else pOR), .ref l]) ∧ H l = some (.lst (xs.map (·.1))) ∧ xs.length ≤ 1000 ∧ (∀ x ∈ xs, LTr H n x.1 x.2) ∧ m = if b = true then allM (xs.map (·.2)) else anyM (xs.map (·.2))
theorem LTr.ex {H H' : Hp} (e : Ex H H') : ∀ {n : Nat} {v : V} {m : Mn}, LTr H n v m → LTr H' n v m := by
  have t : ∀ {v m}, LTe H v m → LTe H' v m := by
    rintro v m ⟨a, rfl, h⟩
    refine ⟨a, rfl, ?_⟩
    rcases h with ⟨h1, h2⟩ | ⟨k, h1, h2⟩ | ⟨k, x, h1, h2⟩
    · exact .inl ⟨e _ _ h1, h2⟩
    · exact .inr (.inl ⟨k, e _ _ h1, h2⟩)
    · exact .inr (.inr ⟨k, x, e _ _ h1, h2⟩)
  intro n
  induction n with
  | zero => exact t
  | succ n ih =>
    intro v m h
    rcases h with h | ⟨a, l, u, m', h1, h2, h3, h4, h5⟩ | ⟨a, l, b, xs, h1, h2, h3, h4, h5, h6⟩
    · exact .inl (t h)
    · exact .inr (.inl ⟨a, l, u, m', h1, e _ _ h2, e _ _ h3, ih h4, h5⟩)
    · exact .inr (.inr ⟨a, l, b, xs, h1, e _ _ h2, e _ _ h3, h4, fun x hx => ih (h5 x hx), h6⟩)
theorem LTr.up {H : Hp} : ∀ {n : Nat} {v : V} {m : Mn}, LTr H n v m → LTr H (n + 1) v m := by
  intro n
  induction n with
  | zero =>
    intro v m h
    exact .inl h
  | succ n ih =>
    intro v m h
    rcases h with h | ⟨a, l, u, m', h1, h2, h3, h4, h5⟩ | ⟨a, l, b, xs, h1, h2, h3, h4, h5, h6⟩
    · exact .inl h
    · exact .inr (.inl ⟨a, l, u, m', h1, h2, h3, ih h4, h5⟩)
    · exact .inr (.inr ⟨a, l, b, xs, h1, h2, h3, h4, fun x hx => ih (h5 x hx), h6⟩)
theorem LTr.mono {H : Hp} {n k : Nat} {v : V} {m : Mn} (h : LTr H n v m) (l : n ≤ k) : LTr H k v m := by
  obtain ⟨d, rfl⟩ := Nat.exists_eq_add_of_le l
  induction d with
  | zero => exact h
  | succ d ih => exact (ih (by omega)).up
/-- data as the trees are -/
def LD (K : PySem.W.Frag) (H : Hp) (v : V) : Prop := ∃ ds, Dp K H v (.list ds) ∧ PyData.canLayAll0 ds = true
theorem strOk_file {k : List Nat} (h : isFile (S k) = true) : PyData.strOk (S k) = true := strOk_S fun c hc => by
  have := isFile_mem h c hc
  have key : ∀ c ∈ tl SIGNS, c < 1114112 := by decide +kernel
  exact key c this
theorem LTe.ld {K : PySem.W.Frag} {H : Hp} {v : V} {m : Mn} (h : LTe H v m) : LD K H v := by
  have two : ∀ {a : Addr} {x y : List Nat}, H a = some (.lst [vS x, vS y]) → PyData.strOk (S x) = true → PyData.strOk (S y) = true → LD K H (.ref a) := by
    intro a x y h hx hy
    refine ⟨[dS x, dS y], .lst (SqL.of h) (.cons (.str _) (.cons (.str _) .nil)), ?_⟩
    simp [PyData.canLayAll0, PyData.canLay0, hx, hy]
  have app : ∀ {k : List Nat}, isFile (S k) = true → PyData.strOk (S (k ++ pEQ)) = true := fun {k} hk => strOk_S fun c hc => by
    rcases List.mem_append.mp hc with hc | hc
    · have := isFile_mem hk c hc
      have key : ∀ c ∈ tl SIGNS, c < 1114112 := by decide +kernel
      exact key c this
    · rw [List.mem_singleton] at hc
      omega
  obtain ⟨a, rfl, h⟩ := h
  rcases h with ⟨h1, _⟩ | ⟨k, h1, hk, _⟩ | ⟨k, x, h1, hk, hx, _⟩
  · exact two h1 (by decide +kernel) (by decide +kernel)
  · exact two h1 (app (isName_file hk)) (by decide +kernel)
  · exact two h1 (app (isName_file hk)) (strOk_file (isWord_file hx))
theorem LD.all {K : PySem.W.Frag} {H : Hp} : ∀ {vs : List V}, (∀ v ∈ vs, LD K H v) → ∃ ds, DpAll K H vs ds ∧ PyData.canLayAll0 ds = true ∧ (ds.any fun z => PyData.eqv z .none) = false
  | [], _ => ⟨[], .nil, rfl, rfl⟩
  | v :: vs, h => by
    obtain ⟨ds, h1, h2, h3⟩ := LD.all (vs := vs) fun x hx => h x (by simp [hx])
    obtain ⟨es, g1, g2⟩ := h v (by simp)
    refine ⟨.list es :: ds, .cons g1 h1, ?_, ?_⟩
    · simp [PyData.canLayAll0, PyData.canLay0, g2, h2]
    · rw [List.any_cons, h3]
      rfl
theorem LTr.ld {K : PySem.W.Frag} {H : Hp} : ∀ {n : Nat} {v : V} {m : Mn}, LTr H n v m → LD K H v := by
  intro n
  induction n with
  | zero =>
    intro v m h
    exact LTe.ld h
  | succ n ih =>
    intro v m h
    rcases h with h | ⟨a, l, u, m', rfl, h2, h3, h4, h5⟩ | ⟨a, l, b, xs, rfl, h2, h3, h4, h5, h6⟩
    · exact LTe.ld h
    · obtain ⟨ds, g1, g2⟩ := ih h4
      refine ⟨[dS pNOT, .list [.list ds]], .lst (SqL.of h2) (.cons (.str _) (.cons (.lst (SqL.of h3) (.cons g1 .nil)) .nil)), ?_⟩
      have : PyData.strOk (S pNOT) = true := by decide +kernel
      simp [PyData.canLayAll0, PyData.canLay0, g2, this]
    · obtain ⟨ds, g1, g2, _⟩ := LD.all (K := K) (H := H) (vs := xs.map (·.1)) fun v hv => by
        obtain ⟨x, hx, rfl⟩ := List.mem_map.mp hv
        exact ih (h5 x hx)
      have : PyData.strOk (S (if b = true then pAND else pOR)) = true := by cases b <;> decide +kernel
      refine ⟨[dS (if b = true then pAND else pOR), .list ds], .lst (SqL.of h2) (.cons (.str _) (.cons (.lst (SqL.of h3) g1) .nil)), ?_⟩
      simp [PyData.canLayAll0, PyData.canLay0, g2, this]
theorem LTr.rf {H : Hp} {n : Nat} {v : V} {m : Mn} (h : LTr H n v m) : ∃ a, v = .ref a := by
  cases n with
  | zero =>
    obtain ⟨a, rfl, _⟩ := h
    exact ⟨a, rfl⟩
  | succ n =>
    rcases h with ⟨a, rfl, _⟩ | ⟨a, _, _, _, rfl, _⟩ | ⟨a, _, _, _, rfl, _⟩
    · exact ⟨a, rfl⟩
    · exact ⟨a, rfl⟩
    · exact ⟨a, rfl⟩
section
variable {X : Cx}
/-- None in a list of data -/
def rInNon (K : PySem.W.Frag) : R2 := fun x y H Q => ∃ ds, x = .non ∧ Dp K H y (.list ds) ∧ PyData.canLayAll0 ds = true ∧ Q (.bl (ds.any fun z => PyData.eqv z .none)) H
theorem op_inNon (hu : X.A.units + 64 < cLine) : OpR X (compareOp .In) (rInNon X.K) := by
  intro pins s σ H x y v u Q I rx ry h
  obtain ⟨ds, rfl, hd, hc, q⟩ := h
  obtain ⟨as, r1⟩ := Dp.reads I _ y u hd ry
  cases rx
  have hm : min (PyData.depthAll ds) PyData.none.depth = 0 := by
    simp [PyData.depth]
  exact SeqAt.in_list_reads r1 .none hc rfl (by rw [hm]; omega) ⟨.bl _, H, I, rfl, q⟩
end
/-- what is new from H to H1 stands in H2 -/
def New (H H1 H2 : Hp) : Prop := ∀ a o, H a = none → H1 a = some o → H2 a = some o
theorem New.sub {H Ha Hb H1 H2 : Hp} (n : New H H1 H2) (e : Ex H Ha) (e' : Ex Hb H1) : New Ha Hb H2 := fun a o h h1 => n a o (by
  cases q : H a with
  | none => rfl
  | some o =>
    rw [e _ _ q] at h
    cases h) (e' _ _ h1)
theorem New.rfl {H H1 : Hp} : New H H1 H1 := fun _ _ _ h => h
theorem New.exx {H H1 H2 H3 : Hp} {D : Addr} (n : New H H1 H2) (hD : H D ≠ none) (e : Exx [D] H2 H3) : New H H1 H3 := fun a o h h1 => e a o (n a o h h1) (by
  rw [List.mem_singleton]
  exact fun z => hD (z ▸ h))
def NewD (D : Addr) (H H1 H2 : Hp) : Prop := ∀ a o, a ≠ D → H a = none → H1 a = some o → H2 a = some o
theorem NewD.sub {D : Addr} {H Ha Hb H2 : Hp} (n : NewD D H Hb H2) (e : Ex H Ha) (hD : Ha D ≠ none) : New Ha Hb H2 := fun a o h h1 => n a o (fun z => hD (z ▸ h)) (by
  cases q : H a with
  | none => rfl
  | some o =>
    rw [e _ _ q] at h
    cases h) h1
theorem NewD.exx {D : Addr} {H H1 H2 H3 : Hp} (e : Exx [D] H1 H2) (n : NewD D H H2 H3) : NewD D H H1 H3 := fun a o hD h h1 => n a o hD h (e a o h1 (by rw [List.mem_singleton]; exact hD))
theorem New.nd {D : Addr} {H H1 H2 H3 : Hp} (n : New H H2 H3) (e : Ex H1 H2) : NewD D H H1 H3 := fun a o _ h h1 => n a o h (e _ _ h1)
theorem zipP {α : Type} {R : α × Mn → V → Prop} {xs : List (α × Mn)} {ys : List V} (h : Paired (fun i y => ∃ x, xs[i]? = some x ∧ R x y) ((List.range xs.length).filter fun _ => true) ys) : ∃ zs : List (V × Mn), zs.map (·.1) = ys ∧ zs.map (·.2) = xs.map (·.2) ∧ zs.length = xs.length ∧ ∀ z ∈ zs, ∃ x ∈ xs, R x z.1 ∧ z.2 = x.2 := by
  have e0 : (List.range xs.length).filter (fun _ => true) = List.range xs.length := List.filter_eq_self.mpr fun _ _ => rfl
  rw [e0] at h
  have hl : xs.length = ys.length := by simpa using Plen h
  refine ⟨ys.zip (xs.map (·.2)), List.map_fst_zip (by simp [hl]), List.map_snd_zip (by simp [hl]), by simp [hl], fun z hz => ?_⟩
  obtain ⟨j, hj⟩ := List.mem_iff_getElem?.mp hz
  rw [List.getElem?_zip_eq_some] at hj
  obtain ⟨h1, h2⟩ := hj
  have hjl : j < xs.length := by
    rw [hl]
    exact (List.getElem?_eq_some_iff.mp h1).1
  obtain ⟨y, hy, x, hx, hr⟩ := Pat h (i := j) (x := j) (by simp [hjl])
  rw [h1] at hy
  injection hy with hy
  subst hy
  rw [List.getElem?_map, hx] at h2
  exact ⟨x, List.mem_of_getElem? hx, hr, (Option.some.inj h2).symm⟩
theorem ex_none {H H' : Hp} (e : Ex H H') {a : Addr} (h : H' a = none) : H a = none := by
  cases q : H a with
  | none => rfl
  | some o =>
    rw [e _ _ q] at h
    cases h
/-! ### the grammar, widened -/
theorem oneP_up : ∀ n, (∀ ts m, OneP n ts m → OneP (n + 1) ts m) ∧ ∀ ts m, AnyP n ts m → AnyP (n + 1) ts m := by
  have up : ∀ n, (∀ ts m, OneP n ts m → OneP (n + 1) ts m) → ∀ ts m, AnyP n ts m → AnyP (n + 1) ts m := by
    rintro n h ts m ⟨xs, h1, h2, h3, h4⟩
    refine ⟨xs, h1, fun x hx => ?_, h3, h4⟩
    obtain ⟨ys, g1, g2, g3, g4⟩ := h2 x hx
    exact ⟨ys, g1, fun y hy => h _ _ (g2 y hy), g3, g4⟩
  intro n
  induction n with
  | zero =>
    have h : ∀ ts m, OneP 0 ts m → OneP (0 + 1) ts m := fun ts m h => .inl h
    exact ⟨h, up 0 h⟩
  | succ n ih =>
    have h : ∀ ts m, OneP (n + 1) ts m → OneP (n + 1 + 1) ts m := by
      rintro ts m (h | ⟨u, m', rfl, hu, e⟩ | ⟨u, rfl, hu⟩)
      · exact .inl h
      · exact .inr (.inl ⟨u, m', rfl, ih.1 _ _ hu, e⟩)
      · exact .inr (.inr ⟨u, rfl, ih.2 _ _ hu⟩)
    exact ⟨h, up (n + 1) h⟩
theorem inter_len {sg : List Nat} : ∀ {l : List Toks} {x : Toks}, x ∈ l → 1 < l.length → x.length < (inter sg l).length
  | [], _, h, _ => by cases h
  | [a], _, _, h => by simp at h
  | [a, b], x, h, _ => by
    have e : (inter sg [a, b]).length = a.length + (b.length + 1) := by
      show (a ++ sg :: b).length = _
      simp
    rcases List.mem_cons.mp h with rfl | h
    · omega
    · rw [List.mem_singleton] at h
      subst h
      omega
  | a :: b :: c :: r, x, h, _ => by
    have e : (inter sg (a :: b :: c :: r)).length = a.length + ((inter sg (b :: c :: r)).length + 1) := by
      show (a ++ sg :: inter sg (b :: c :: r)).length = _
      simp
    rcases List.mem_cons.mp h with rfl | h
    · omega
    · have := inter_len (sg := sg) (l := b :: c :: r) h (by simp)
      omega
theorem inter_ge {sg : List Nat} : ∀ {l : List Toks}, l.length ≤ (inter sg l).length + 1
  | [] => by simp
  | [a] => by simp
  | a :: b :: r => by
    have := inter_ge (sg := sg) (l := b :: r)
    have e : (inter sg (a :: b :: r)).length = a.length + ((inter sg (b :: r)).length + 1) := by
      show (a ++ sg :: inter sg (b :: r)).length = _
      simp
    rw [e]
    simp only [List.length_cons] at *
    omega
theorem each_of_one {n : Nat} {ts : Toks} {m : Mn} (h : OneP n ts m) : EachP n ts m := ⟨[(ts, m)], by simp, fun x hx => by rw [List.mem_singleton] at hx; subst hx; exact h, rfl, by funext s; simp [allM]⟩
theorem any_of_each {n : Nat} {ts : Toks} {m : Mn} (h : EachP n ts m) : AnyP n ts m := ⟨[(ts, m)], by simp, fun x hx => by rw [List.mem_singleton] at hx; subst hx; exact h, rfl, by funext s; simp [anyM]⟩
theorem tokOk_app {a b : Toks} (ha : TokOk a) (hb : TokOk b) : TokOk (a ++ b) := fun t ht => (List.mem_append.mp ht).elim (ha t) (hb t)
theorem tokOk_file {k : List Nat} (h : isFile (S k) = true) : TokOk [k] := fun t ht c hc => by
  rw [List.mem_singleton] at ht
  subst ht
  have := isFile_mem h c hc
  have key : ∀ c ∈ tl SIGNS, c < 1114112 := by decide +kernel
  exact key c this
theorem tokOk_inter {s : List Nat} (hs : TokOk [s]) : ∀ {l : List Toks}, (∀ x ∈ l, TokOk x) → TokOk (inter s l)
  | [], _ => fun t ht => by cases ht
  | [a], h => h a (by simp)
  | a :: b :: r, h => tokOk_app (h a (by simp)) (tokOk_app (a := [s]) hs (tokOk_inter hs fun x hx => h x (by simp [hx])))
theorem tok1 {t : List Nat} (h : ∀ c ∈ t, c < 1114112) : TokOk [t] := fun x hx => by
  rw [List.mem_singleton] at hx
  rw [hx]
  exact h
theorem gram_tok : ∀ n, (∀ ts m, OneP n ts m → TokOk ts) ∧ (∀ ts m, AnyP n ts m → TokOk ts) := by
  have up : ∀ n, (∀ ts m, OneP n ts m → TokOk ts) → ∀ ts m, AnyP n ts m → TokOk ts := by
    rintro n h ts m ⟨xs, h1, h2, rfl, _⟩
    refine tokOk_inter (tok1 (by decide)) fun x hx => ?_
    obtain ⟨y, hy, rfl⟩ := List.mem_map.mp hx
    obtain ⟨ys, _, g2, g3, _⟩ := h2 y hy
    rw [g3]
    refine tokOk_inter (tok1 (by decide)) fun x hx => ?_
    obtain ⟨z, hz, rfl⟩ := List.mem_map.mp hx
    exact h _ _ (g2 z hz)
  have test : ∀ ts m, TestP ts m → TokOk ts := by
    rintro ts m (⟨rfl, _⟩ | ⟨k, rfl, hk, _⟩ | ⟨k, x, rfl, hk, hx, _⟩)
    · exact tok1 (by decide)
    · exact tokOk_app (a := [k]) (tokOk_file (isName_file hk)) (tokOk_app (a := [pEQ]) (tok1 (by decide)) (tok1 (by decide)))
    · exact tokOk_app (a := [k]) (tokOk_file (isName_file hk)) (tokOk_app (a := [pEQ]) (tok1 (by decide)) (tokOk_file (isWord_file hx)))
  intro n
  induction n with
  | zero => exact ⟨test, up 0 test⟩
  | succ n ih =>
    have h : ∀ ts m, OneP (n + 1) ts m → TokOk ts := by
      rintro ts m (h | ⟨u, m', rfl, hu, e⟩ | ⟨u, rfl, hu⟩)
      · exact test _ _ h
      · exact tokOk_app (a := [pNOT]) (tok1 (by decide)) (ih.1 _ _ hu)
      · exact tokOk_app (a := [pL]) (tok1 (by decide)) (tokOk_app (ih.2 _ _ hu) (tok1 (by decide)))
    exact ⟨h, up (n + 1) h⟩
section
variable {P : Program} {w : World} {K : PySem.W.Frag} {mg : Str → Option Value} {base : Heap}
theorem r_eqSL {K : PySem.W.Frag} {H : Hp} {Q : VK} {a b : Addr} {xs ys : Toks} (h1 : H a = some (.lst (xs.map vS))) (h2 : H b = some (.lst (ys.map vS))) (t1 : TokOk xs) (t2 : TokOk ys) (q : Q (.bl (decide (xs = ys))) H) : rEqD K (.ref a) (.ref b) H Q :=
  ⟨_, _, .lst (SqL.of h1) (dp_strs xs), .lst (SqL.of h2) (dp_strs ys), sh_strs t1, sh_strs t2, by rw [eqv_strs]; exact q⟩
theorem is_letters {k : List Nat} (h : isName (S k) = true) : hd0 (S k) ∈ tl (Str.ofString "abcdefghijklmnopqrstuvwxyz") := by
  unfold isName at h
  rw [Bool.and_eq_true, decide_eq_true_eq] at h
  exact h.2
theorem is_wordy {k : List Nat} (h : isWord (S k) = true) : hd0 (S k) ∈ tl ((Str.ofString "abcdefghijklmnopqrstuvwxyz") ++ (Str.ofString "0123456789")) := by
  have hf := isWord_file h
  unfold isWord at h
  rw [Bool.and_eq_true, decide_eq_true_eq] at h
  have hm : hd0 (S k) ∈ k := by
    have hlen := isFile_len hf
    rw [S_len] at hlen
    cases k with
    | nil => simp at hlen
    | cons c r => exact List.mem_cons_self
  have := isFile_mem hf _ hm
  have key : ∀ c ∈ tl SIGNS, c ≠ 45 → c ∈ tl ((Str.ofString "abcdefghijklmnopqrstuvwxyz") ++ (Str.ofString "0123456789")) := by decide +kernel
  exact key _ this h.2
theorem r_repK {H : Hp} {Q : VK} {l : Addr} {v : V} {c : Nat} (h : H l = some (.lst [v])) (hc : c ≤ 1000) (q : ∀ p, H p = none → Q (.ref p) (upd H p (.lst (List.replicate c v)))) : rRep (.ref l) (.int (c : Nat)) H Q := by
  refine ⟨l, _, [v], rfl, rfl, h, by omega, by omega, sz100k (by rw [Int.toNat_natCast]; simp only [List.length_singleton]; omega), fun p hp => ?_⟩
  rw [Int.toNat_natCast]
  have e : (List.replicate c [v]).flatten = List.replicate c v := by
    clear q hc
    induction c with
    | zero => rfl
    | succ c ih => rw [List.replicate_succ, List.flatten_cons, ih]; rfl
  rw [e]
  exact q p hp
theorem cutV_to (xs : List V) (k : Nat) : cutV xs none (some (k : Nat)) = xs.take k := by
  unfold cutV
  have h1 : HT.sIx xs.length 0 none = 0 := rfl
  have h2 : HT.sIx xs.length xs.length (some (k : Int)) = min k xs.length := HT.sIx_nat xs.length _ k
  rw [h1, h2, List.drop_zero, Nat.sub_zero]
  by_cases c : k ≤ xs.length
  · rw [Nat.min_eq_left c]
  · rw [Nat.min_eq_right (by omega), List.take_of_length_le (Nat.le_refl _), List.take_of_length_le (by omega)]
theorem cutV_from (xs : List V) (k : Nat) : cutV xs (some (k : Nat)) none = xs.drop k := by
  unfold cutV
  have h1 : HT.sIx xs.length xs.length none = xs.length := rfl
  have h2 : HT.sIx xs.length 0 (some (k : Int)) = min k xs.length := HT.sIx_nat xs.length 0 k
  rw [h1, h2]
  by_cases c : k ≤ xs.length
  · rw [Nat.min_eq_left c, List.take_of_length_le (by rw [List.length_drop]; omega)]
  · rw [Nat.min_eq_right (by omega), List.drop_of_length_le (Nat.le_refl _), List.drop_of_length_le (by omega : xs.length ≤ k), List.take_nil]
def nots : Nat → Mn → Mn
  | 0, m => m
  | c + 1, m => fun s => !(nots c m s)
theorem one_cases : ∀ n ts m, OneP n ts m → TestP ts m ∨ (∃ c u m0, ts = List.replicate (c + 1) pNOT ++ u ∧ OneP n u m0 ∧ u.headD [] ≠ pNOT ∧ m = nots (c + 1) m0) ∨ ∃ u, ts = pL :: (u ++ [pR]) ∧ AnyP n u m := by
  intro n
  induction n with
  | zero => exact fun ts m h => .inl h
  | succ n ih =>
    rintro ts m (h | ⟨u, m', rfl, hu, e⟩ | ⟨u, rfl, hu⟩)
    · exact .inl h
    · refine .inr (.inl ?_)
      rcases ih _ _ hu with h | ⟨c, v, m0, rfl, h1, h2, h3⟩ | ⟨v, rfl, h1⟩
      · exact ⟨0, u, m', rfl, (oneP_up n).1 _ _ hu, (test_head h).1, e⟩
      · exact ⟨c + 1, v, m0, rfl, (oneP_up n).1 _ _ h1, h2, by rw [e, h3]; rfl⟩
      · exact ⟨0, _, m', rfl, (oneP_up n).1 _ _ hu, (by decide : pL ≠ pNOT), e⟩
    · exact .inr (.inr ⟨u, rfl, (oneP_up n).2 _ _ hu⟩)
theorem bang_take {c : Nat} {u : Toks} (hu : u.headD [] ≠ pNOT) {k : Nat} (hk : k < (List.replicate c pNOT ++ u).length) : decide ((List.replicate c pNOT ++ u).take (k + 1) = List.replicate (k + 1) pNOT) = decide (k < c) := by
  by_cases h : k < c
  · rw [decide_eq_true h, decide_eq_true]
    rw [List.take_append, List.length_replicate, show k + 1 - c = 0 by omega, List.take_zero, List.append_nil, List.take_replicate, Nat.min_eq_left (by omega)]
  · rw [decide_eq_false h, decide_eq_false]
    intro z
    have h1 : ((List.replicate c pNOT ++ u).take (k + 1))[c]? = (List.replicate (k + 1) pNOT)[c]? := by rw [z]
    rw [List.getElem?_take_of_lt (by omega), List.getElem?_append_right (by simp), List.length_replicate, Nat.sub_self, List.getElem?_replicate_of_lt (by omega)] at h1
    cases u with
    | nil => cases h1
    | cons x r =>
      injection h1 with h1
      exact hu h1
theorem lt_count {c : Nat} : ∀ {n : Nat}, c ≤ n → ((List.range n).filter fun k => decide (k < c)).length = c
  | 0, h => by
    have : c = 0 := by omega
    rw [this]
    rfl
  | n + 1, h => by
    rw [List.range_succ, List.filter_append, List.length_append]
    by_cases q : c ≤ n
    · rw [lt_count q]
      have : ¬ n < c := by omega
      simp [this]
    · have hc : c = n + 1 := by omega
      have e : (List.range n).filter (fun k => decide (k < c)) = List.range n := List.filter_eq_self.mpr fun k hk => decide_eq_true (by rw [List.mem_range] at hk; omega)
      rw [e]
      simp [hc]
def spLRead (L : Nat) : Sp := fun vs H Q _ => ∃ (a : Addr) (ts : Toks) (n : Nat) (m : Mn), vs = [.ref a] ∧ LstAt H a ts ∧ ts.length ≤ L ∧ L ≤ 500 ∧ AnyP n ts m ∧ ∀ v H', Ex H H' → (∀ H'', New H H' H'' → LTr H'' ts.length v m) → Q v H'
def letters : V := .str "abcdefghijklmnopqrstuvwxyz"
def sgn (b : Bool) : List Nat := if b = true then pAND else pOR
def cmb (b : Bool) (ms : List Mn) : Mn := if b = true then allM ms else anyM ms
/-- what is known of the parts at each turn -/
def RdSt (n : Nat) (ts : Toks) (m : Mn) (H' : Hp) (o3 : Option V) : Nat → Prop
  | 0 => AnyP n ts m
  | 1 => EachP n ts m
  | _ => OneP n ts m ∧ ∃ p l, o3 = some (.ref p) ∧ H' p = some (.lst [.ref l]) ∧ LstAt H' l ts
theorem rd_next {n : Nat} {ts : Toks} {m : Mn} {H' : Hp} {o3 : Option V} {i : Nat} (hi : i < 2) (h : RdSt n ts m H' o3 i) : ∃ xs : List (Toks × Mn), xs ≠ [] ∧ ts = inter (sgn (decide (i = 1))) (xs.map (·.1)) ∧ m = cmb (decide (i = 1)) (xs.map (·.2)) ∧ (∀ x ∈ xs, AnyP n x.1 x.2 ∧ Run (sgn (decide (i = 1))) 0 x.1) ∧
    (xs.length = 1 → ∀ H2 p l, H2 p = some (.lst [.ref l]) → LstAt H2 l ts → RdSt n ts m H2 (some (.ref p)) (i + 1)) := by
  have one : ∀ m1 : Mn, allM [m1] = m1 ∧ anyM [m1] = m1 := fun m1 => ⟨by funext s; simp [allM], by funext s; simp [anyM]⟩
  match i, hi, h with
  | 0, _, h =>
    obtain ⟨xs, h1, h2, h3, h4⟩ := h
    refine ⟨xs, h1, h3, h4, fun x hx => ⟨any_of_each (h2 x hx), ((gram_run n).2.1 _ _ (h2 x hx) 0).1⟩, fun hl H2 p l _ _ => ?_⟩
    obtain ⟨x, rfl⟩ := List.length_eq_one_iff.mp hl
    show EachP n ts m
    rw [h3, h4]
    show EachP n x.1 (anyM [x.2])
    rw [(one x.2).2]
    exact h2 x (by simp)
  | 1, _, h =>
    obtain ⟨xs, h1, h2, h3, h4⟩ := h
    refine ⟨xs, h1, h3, h4, fun x hx => ⟨any_of_each (each_of_one (h2 x hx)), (gram_run n).1 _ _ (h2 x hx) pAND (.inl rfl) 0⟩, fun hl H2 p l hp hl' => ⟨?_, p, l, rfl, hp, hl'⟩⟩
    obtain ⟨x, rfl⟩ := List.length_eq_one_iff.mp hl
    rw [h3, h4]
    show OneP n x.1 (allM [x.2])
    rw [(one x.2).1]
    exact h2 x (by simp)
theorem sc_law_read : FnScope ["_law_parts_here", "_law_letters", "_law_sign", "_law_pieces", "_law_trees", "_law_many", "_law_tree", "_law_turn", "_law_piece", "_law_k"] ["_law_parts_here"] (defScope s_law_read) := ⟨rfl, rfl, rfl, by decide +kernel, rfl, by decide +kernel, by decide +kernel⟩
theorem law_read_step (T : Txt K mg) {L k : Nat} (hk : 1 ≤ k) (G_law_read : GoodP P w K mg base "_law_read" k ["_law_parts_here"] (spLRead L)) : GoodP P w K mg base "_law_read" (k + 1) ["_law_parts_here"] (spLRead (L + 1)) := by
  have G_law_split := ok_law_split (P := P) (w := w) (base := base) T
  have G_law_is_word := ok_law_is_word (P := P) (w := w) (base := base) T
  obtain ⟨fd, F⟩ := T.f_law_read
  refine good_of F sc_law_read (fun vs H Q E h => ?_) (fun _ _ _ _ _ _ us hl => match us, hl with | [_], _ => rfl) (fun cdv A outer s H vs Q E hr h => ?_)
  · obtain ⟨a, ts, n, m, rfl, _⟩ := h
    rfl
  · obtain ⟨a, ts, n, m, rfl, ha, hl, hL, hg, k⟩ := h
    refine ⟨_, (pss_cons (ps_set (i := 1) sc_law_read.nd rfl (Or.inl rfl) pe_str)
    (pss_cons (ps_for PassesOwn.never rfl (pi_list (pe_lst (pa_cons pe_str (pa_cons pe_str pa_nil)))) (pg_name (i := 2) sc_law_read.nd rfl (Or.inl rfl))
    (pss_cons (ps_set (i := 3) sc_law_read.nd rfl (Or.inl rfl) (pcall G_law_split hr T.g_law_split (pa_cons (pv 0) (pa_cons (pv 2) pa_nil))))
    (pss_one (ps_if (pt_cmpR op_gt (pe_callB call_lenN rfl T.z_len (by decide +kernel) (pa_cons (pv 3) pa_nil)) pe_int (nomark _)) (pss_cons (ps_setLc (i := 4) (own := [("_law_piece", 8)]) rfl sc_law_read.nd rfl rfl (sw_true rfl rfl rfl (by decide +kernel)) (pi_list (pv 3)) (blkOk_by (N := ["_law_parts_here", "_law_letters", "_law_sign", "_law_pieces", "_law_trees", "_law_many", "_law_tree", "_law_turn", "_law_piece", "_law_k"]) (sc := defScope s_law_read) (by decide +kernel)) (fun _ _ _ _ _ => (pg_name (i := 8) sc_law_read.nd rfl (Or.inl rfl))) (fun _ _ _ _ _ => pts_nil) (fun _ _ _ _ _ => (pcall G_law_read hr T.g_law_read (pa_cons (pv 8) pa_nil))))
    (pss_one (ps_ret (pe_ifExp (pt_cmpR (op_inNon hr.units) pe_non (pv 4) (by rfl)) pe_non (pe_lst (pa_cons (pv 2) (pa_cons (pv 4) pa_nil))))))) pss_nil))))
    (pss_cons (ps_if (PW.pt (pw_or (pt_cmpR (op_eqD hr.units) (pv 3) (pe_lst pa_nil) (nomark _)) (pw_or1 (pt_cmpR (op_eqD hr.units) (pv 0) (pe_lst pa_nil) (nomark _))))) (pss_one (ps_ret pe_non)) pss_nil)
    (pss_cons (ps_if (pt_cmpR (op_eqD hr.units) (pv 0) (pe_lst (pa_cons pe_str pa_nil)) (nomark _)) (pss_one (ps_ret (pe_lst (pa_cons pe_str (pa_cons pe_str pa_nil))))) pss_nil)
    (pss_cons (ps_if (pt_cmpR op_eq (pe_ix ix_list (pv 0) pe_int (fun _ _ => rfl)) pe_str (nomark _)) (pss_cons (ps_set (i := 5) sc_law_read.nd rfl (Or.inl rfl) (pe_callB call_lenN rfl T.z_len (by decide +kernel) (pa_cons (pe_lc (own := [("_law_k", 9)]) rfl sc_law_read.nd (pi_range1 rfl T.z_range (pa_cons (pe_callB call_lenN rfl T.z_len (by decide +kernel) (pa_cons (pv 0) pa_nil)) pa_nil)) (blkOk_by (N := ["_law_parts_here", "_law_letters", "_law_sign", "_law_pieces", "_law_trees", "_law_many", "_law_tree", "_law_turn", "_law_piece", "_law_k"]) (sc := defScope s_law_read) (by decide +kernel)) (fun _ _ _ _ _ => (pg_name (i := 9) sc_law_read.nd rfl (Or.inl rfl))) (fun _ _ _ _ _ => (pts_one (pt_cmpR (op_eqDK (K := K) rfl hr.units) (pe_slice (sl_listK (K := K) rfl) (pv 0) po_none (po_some (pe_op op_add (pv 9) pe_int))) (pe_op op_rep (pe_lst (pa_cons pe_str pa_nil)) (pe_op op_add (pv 9) pe_int)) (nomark _)))) (fun _ _ _ _ _ => (pv 9))) pa_nil)))
    (pss_cons (ps_set (i := 6) sc_law_read.nd rfl (Or.inl rfl) (pcall G_law_read hr T.g_law_read (pa_cons (pe_slice sl_list (pv 0) (po_some (pv 5)) po_none) pa_nil)))
    (pss_cons (ps_for PassesOwn.never rfl (pi_range1 rfl T.z_range (pa_cons (pe_ifExp (pt_cmpR op_notN1 (pv 6) pe_non (nomark _)) (pv 5) pe_int) pa_nil)) (pg_name (i := 7) sc_law_read.nd rfl (Or.inl rfl))
    (pss_one (ps_set (i := 6) sc_law_read.nd rfl (Or.inl rfl) (pe_lst (pa_cons pe_str (pa_cons (pe_lst (pa_cons (pv 6) pa_nil)) pa_nil))))))
    (pss_one (ps_ret (pv 6)))))) pss_nil)
    (pss_cons (ps_if (PW.pt (pw_and (pt_cmpR op_eq (pe_ix ix_list (pv 0) pe_int (fun _ _ => rfl)) pe_str (nomark _)) (pw_and1 (pt_cmpR op_eq (pe_ix ix_list (pv 0) (pe_un un_neg pe_int) (fun _ _ => rfl)) pe_str (nomark _))))) (pss_one (ps_ret (pcall G_law_read hr T.g_law_read (pa_cons (pe_slice sl_list (pv 0) (po_some pe_int) (po_some (pe_un un_neg pe_int))) pa_nil)))) pss_nil)
    (pss_cons (ps_if (PW.pt (pw_or (pt_cmpR op_ne (pe_callB call_lenN rfl T.z_len (by decide +kernel) (pa_cons (pv 0) pa_nil)) pe_int (nomark _)) (pw_or (pt_cmpR op_ne (pe_ix ix_list (pv 0) pe_int (fun _ _ => rfl)) pe_str (nomark _)) (pw_or1 (pt_not (pt_val (pcall G_law_is_word hr T.g_law_is_word (pa_cons (pe_ix ix_list (pv 0) pe_int (fun _ _ => rfl)) (pa_cons (pv 1) pa_nil))))))))) (pss_one (ps_ret pe_non)) pss_nil)
    (pss_cons (ps_if (PW.pt (pw_and (pt_cmpR op_ne (pe_ix ix_list (pv 0) pe_int (fun _ _ => rfl)) pe_str (nomark _)) (pw_and1 (pt_not (pt_val (pcall G_law_is_word hr T.g_law_is_word (pa_cons (pe_ix ix_list (pv 0) pe_int (fun _ _ => rfl)) (pa_cons (pe_op op_addS (pv 1) pe_str) pa_nil)))))))) (pss_one (ps_ret pe_non)) pss_nil)
    (pss_one (ps_ret (pe_lst (pa_cons (pe_op op_addS (pe_ix ix_list (pv 0) pe_int (fun _ _ => rfl)) pe_str) (pa_cons (pe_ix ix_list (pv 0) pe_int (fun _ _ => rfl)) pa_nil))))))))))))), ?_⟩
    have htok : TokOk ts := (gram_tok n).2 _ _ hg
    walk_at "v"
    intro q0 hq0
    have e0 : Ex H (upd H q0 (.lst [V.str "|", V.str "&"])) := Ex.mut (Ex.refl _) hq0
    have hq := (upd_same : upd H q0 (.lst [V.str "|", V.str "&"]) q0 = _)
    obtain ⟨H0, hH0⟩ : ∃ H0, H0 = upd H q0 (.lst [V.str "|", V.str "&"]) := ⟨_, rfl⟩
    rw [← hH0] at e0 hq ⊢
    walk_at "v"
    refine for_it (walk_list (xs := [V.str "|", V.str "&"])) (fun i σ H' => ∃ o2 o3, σ = [some (.ref a), some letters, o2, o3, none, none, none, none, none, none] ∧ Ex H0 H' ∧ RdSt n ts m H' o3 i)
      ⟨none, none, rfl, Ex.refl _, hg⟩ (fun i σ H' _ h => ?_) ?_ ?_
    · obtain ⟨_, _, _, e, _⟩ := h
      exact SqL.of (e _ _ hq)
    · rintro i x σ Ha Hb hi ⟨o2, o3, rfl, e1, hst⟩ ⟨rfl, hx⟩
      have hi2 : i < 2 := hi
      obtain ⟨xs, hne, hts, hm, hall, hone⟩ := rd_next hi2 hst
      have hxs : x = vS (sgn (decide (i = 1))) := by
        match i, hi2, hx with
        | 0, _, hx => exact (Option.some.inj hx).symm
        | 1, _, hx => exact (Option.some.inj hx).symm
      subst hxs
      have hsg : sgn (decide (i = 1)) ≠ pL ∧ sgn (decide (i = 1)) ≠ pR := by
        cases decide (i = 1) <;> exact ⟨by decide, by decide⟩
      generalize hb : decide (i = 1) = b at *
      have ha1 : LstAt Hb a ts := (e0.trans e1) _ _ ha
      obtain ⟨sp1, sp2⟩ := split_inter hsg.1 hsg.2 (es := xs.map (·.1)) (by simpa using hne) (fun e he => by
        obtain ⟨y, hy, rfl⟩ := List.mem_map.mp he
        exact (hall y hy).2) []
      rw [← hts] at sp1 sp2
      simp only [List.nil_append] at sp1 sp2
      have hx1 := inter_ge (sg := sgn b) (l := xs.map (·.1))
      rw [← hts, List.length_map] at hx1
      walk_at "v"
      refine ⟨a, ts, _, xs.map (·.1), rfl, ha1, by omega, sp1, sp2, fun p ls H1 hp e2 hlp hpd => ?_⟩
      walk_at "v"
      have hll : ls.length = xs.length := by rw [Plen hpd, List.length_map]
      rw [List.length_map, hll]
      have e02 : Ex H H1 := (e0.trans e1).trans e2
      by_cases c1 : 1 < xs.length
      · rw [show decide ((1 : Int) < (xs.length : Nat)) = true from decide_eq_true (by omega)]
        walk_at "v"
        intro D hD
        have hDH : H D = none := ex_none e02 hD
        refine lc_rel (walk_list (xs := ls.map V.ref)) (fun _ => true) (fun j v H' => ∃ x, xs[j]? = some x ∧ ∀ H3, NewD D H H' H3 → LTr H3 x.1.length v x.2) hD (by rw [List.length_map]; omega) (fun H' e => SqL.of (e _ _ hlp))
          (fun j y Ha Hb e h => ?_) ?_ ?_
        · obtain ⟨x, h1, h2⟩ := h
          exact ⟨x, h1, fun H3 h3 => h2 _ (h3.exx e)⟩
        · rintro N j x Hc Hd hj ea ⟨acc, hacc⟩ ⟨rfl, hxj⟩ _ hyes
          rw [List.length_map] at hj
          obtain ⟨y, hy, hlj⟩ := Pat hpd (i := j) (x := ls[j]) (by simp [hj])
          rw [List.getElem?_map] at hy
          cases hxy : xs[j]? with
          | none =>
            rw [hxy] at hy
            cases hy
          | some z =>
            rw [hxy] at hy
            obtain rfl := Option.some.inj hy
            obtain rfl : V.ref ls[j] = x := by
              rw [List.getElem?_map] at hxj
              simp [hj] at hxj
              exact hxj
            have hzm := List.mem_of_getElem? hxy
            have hzl := inter_len (sg := sgn b) (l := xs.map (·.1)) (x := z.1) (List.mem_map.mpr ⟨z, hzm, rfl⟩) (by rw [List.length_map]; exact c1)
            rw [← hts] at hzl
            walk_at "v"
            refine ⟨rfl, ?_⟩
            walk_at "v"
            refine ⟨ls[j], z.1, n, z.2, rfl, ea _ _ hlj, by omega, by omega, (hall z hzm).1, fun v H2 e3 hn => ?_⟩
            refine hyes rfl _ _ e3 ⟨z, hxy, fun H3 h3 => hn _ (h3.sub (e02.trans ea) ?_)⟩
            rw [hacc]
            simp
        · intro H4 ys e4 hD4 hp4
          rw [List.length_map, hll] at hp4
          obtain ⟨zs, rfl, hz2, hzl, hz⟩ := zipP (α := Toks) (R := fun x v => ∀ H3, NewD D H H4 H3 → LTr H3 x.1.length v x.2) hp4
          have hlt : ∀ x ∈ xs, x.1.length < ts.length := fun x hx => by
            rw [hts]
            exact inter_len (List.mem_map.mpr ⟨x, hx, rfl⟩) (by rw [List.length_map]; exact c1)
          obtain ⟨ds, d1, d2, d3⟩ := LD.all (K := K) (H := H4) (vs := zs.map (·.1)) fun v hv => by
            obtain ⟨z, hzm, rfl⟩ := List.mem_map.mp hv
            obtain ⟨x, _, hx, _⟩ := hz z hzm
            exact (hx H4 fun _ _ _ _ h => h).ld
          walk_at "v"
          refine ⟨ds, rfl, .lst (SqL.of hD4) d1, d2, ?_⟩
          rw [d3]
          walk_at "v"
          intro p5 hp5
          walk_at "v"
          have e5 : Ex H4 (upd H4 p5 (.lst [vS (sgn b), .ref D])) := Ex.mut (Ex.refl _) hp5
          refine k _ _ ((e02.trans e4).trans e5) fun H'' hn => ?_
          obtain ⟨t', ht'⟩ : ∃ t', ts.length = t' + 1 := ⟨ts.length - 1, by omega⟩
          rw [ht']
          refine .inr (.inr ⟨p5, D, b, zs, rfl, hn _ _ (ex_none (e02.trans e4) hp5) upd_same, hn _ _ hDH (e5 _ _ hD4), by omega, fun z hzm => ?_, ?_⟩)
          · obtain ⟨x, hxm, hx, hx2⟩ := hz z hzm
            rw [hx2]
            have := hlt x hxm
            exact (hx _ (hn.nd e5)).mono (by omega)
          · rw [hz2, hm]
            rfl
      · rw [show decide ((1 : Int) < (xs.length : Nat)) = false from decide_eq_false (by omega)]
        walk_at "v"
        have hl1 : xs.length = 1 := by
          have : xs.length ≠ 0 := fun z => hne (List.length_eq_zero_iff.mp z)
          omega
        obtain ⟨l, rfl⟩ := List.length_eq_one_iff.mp (hll.trans hl1)
        obtain ⟨x, rfl⟩ := List.length_eq_one_iff.mp hl1
        have hxl : LstAt H1 l ts := by
          rw [hts]
          cases hpd with
          | cons h _ => exact h
        exact ⟨_, _, rfl, e1.trans e2, hone hl1 H1 p l hlp hxl⟩
    · rintro σ H1 ⟨o2, o3, rfl, e1, hO, p, l, rfl, hp, hl1⟩
      walk_at "v"
      have e01 := e0.trans e1
      intro p1 hp1
      have x1 : Ex H1 (upd H1 p1 (.lst [])) := Ex.mut (Ex.refl _) hp1
      refine ⟨_, _, .lst (SqL.of (x1 _ _ hp)) (.cons (.lst (SqL.of (x1 _ _ hl1)) (dp_strs ts)) .nil), .lst (SqL.of upd_same) .nil, sh_strs2 htok, by decide, ?_⟩
      rw [show PyData.eqv (.list [.list (ts.map dS)]) (.list []) = false from rfl]
      obtain ⟨H2, hH2⟩ : ∃ H2, H2 = upd H1 p1 (.lst []) := ⟨_, rfl⟩
      rw [← hH2] at x1 ⊢
      walk_at "v"
      intro p2 hp2
      have x2 : Ex H2 (upd H2 p2 (.lst [])) := Ex.mut (Ex.refl _) hp2
      have hts0 : ts ≠ [] := by
        rcases one_cases _ _ _ hO with h | ⟨c, u, m0, rfl, _⟩ | ⟨u, rfl, _⟩
        · exact (test_head h).2.2
        · simp [List.replicate_succ]
        · simp
      refine r_eqSL (ys := []) (((e01.trans x1).trans x2) _ _ ha) upd_same htok (by intro t ht; cases ht) ?_
      rw [decide_eq_false hts0]
      obtain ⟨H3, hH3⟩ : ∃ H3, H3 = upd H2 p2 (.lst []) := ⟨_, rfl⟩
      rw [← hH3] at x2 ⊢
      walk_at "v"
      intro p3 hp3
      have x3 : Ex H3 (upd H3 p3 (.lst [V.str "all"])) := Ex.mut (Ex.refl _) hp3
      have eA := ((e01.trans x1).trans x2).trans x3
      refine r_eqSL (ys := [pALL]) (eA _ _ ha) upd_same htok (tok1 (by decide)) ?_
      have ha3 : upd H3 p3 (.lst [V.str "all"]) a = some (.lst (ts.map vS)) := eA _ _ ha
      obtain ⟨H4, hH4⟩ : ∃ H4, H4 = upd H3 p3 (.lst [V.str "all"]) := ⟨_, rfl⟩
      rw [← hH4] at x3 eA ha3 ⊢
      clear hH2 hH3 hH4 hH0
      rcases one_cases _ _ _ hO with h | ⟨c, u, m0, rfl, hu, hh, hm⟩ | ⟨u, rfl, hu⟩
      · have fin : ∀ {x y : V} {H5 : Hp} {p5 : Addr}, Ex H4 H5 → H5 p5 = none → (∀ H'', H'' p5 = some (.lst [x, y]) → LTe H'' (.ref p5) m) → Q (.ref p5) (upd H5 p5 (.lst [x, y])) := by
          intro x y H5 p5 e5 h5 hT
          refine k _ _ ((eA.trans e5).trans (Ex.mut (Ex.refl _) h5)) fun H'' hn => LTr.mono (n := 0) (hT _ (hn _ _ (ex_none (eA.trans e5) h5) upd_same)) (Nat.zero_le _)
        rcases h with ⟨rfl, hm⟩ | ⟨kk, rfl, hk, hm⟩ | ⟨kk, ww, rfl, hk, hw, hm⟩
        · rw [decide_eq_true rfl]
          walk_at "v"
          intro p5 hp5
          walk_at "v"
          exact fin (Ex.refl _) hp5 fun H'' h => ⟨p5, rfl, .inl ⟨h, hm⟩⟩
        · have n1 : kk ≠ pNOT := name_tok (isName_file hk) (by decide +kernel)
          have n2 : kk ≠ pL := name_tok (isName_file hk) (by decide +kernel)
          rw [decide_eq_false (by simp)]
          walk_at "v"
          rw [show decide (vS kk = V.str "!") = false from (vS_dec (b := pNOT)).trans (decide_eq_false n1)]
          walk_at "v"
          rw [show decide (vS kk = V.str "(") = false from (vS_dec (b := pL)).trans (decide_eq_false n2)]
          walk_at "v"
          rw [show (!decide (V.int ((([kk, pEQ, pST] : Toks).map vS).length : Nat) = V.int 3)) = false from rfl]
          walk_at "v"
          rw [show (!decide (vS pEQ = V.str "=")) = false from by decide +kernel]
          walk_at "v"
          refine ⟨kk, _, rfl, isName_file hk, is_letters hk, fun H5 e5 => ?_⟩
          have ha5 := e5 _ _ ha3
          walk_at "v"
          rw [show (!decide (vS pST = V.str "*")) = false from by decide +kernel]
          walk_at "v"
          refine r_addS (by rw [S_len]; have := isFile_len (isName_file hk); rw [S_len] at this; have e : ("=" : Str).length = 1 := rfl; omega) ?_
          walk_at "v"
          intro p5 hp5
          walk_at "v"
          refine fin e5 hp5 fun H'' h => ⟨p5, rfl, .inr (.inl ⟨kk, ?_, hk, hm⟩)⟩
          rw [h]
          show some (HO.lst [V.str (S kk ++ S pEQ), vS pST]) = _
          rw [S_app]
        · have n1 : kk ≠ pNOT := name_tok (isName_file hk) (by decide +kernel)
          have n2 : kk ≠ pL := name_tok (isName_file hk) (by decide +kernel)
          have n3 : ww ≠ pST := name_tok (isWord_file hw) (by decide +kernel)
          rw [decide_eq_false (by simp)]
          walk_at "v"
          rw [show decide (vS kk = V.str "!") = false from (vS_dec (b := pNOT)).trans (decide_eq_false n1)]
          walk_at "v"
          rw [show decide (vS kk = V.str "(") = false from (vS_dec (b := pL)).trans (decide_eq_false n2)]
          walk_at "v"
          rw [show (!decide (V.int ((([kk, pEQ, ww] : Toks).map vS).length : Nat) = V.int 3)) = false from rfl]
          walk_at "v"
          rw [show (!decide (vS pEQ = V.str "=")) = false from by decide +kernel]
          walk_at "v"
          refine ⟨kk, _, rfl, isName_file hk, is_letters hk, fun H5 e5 => ?_⟩
          have ha5 := e5 _ _ ha3
          walk_at "v"
          rw [show decide (vS ww = V.str "*") = false from (vS_dec (b := pST)).trans (decide_eq_false n3)]
          walk_at "v"
          refine r_addS (by decide) ?_
          walk_at "v"
          refine ⟨ww, _, rfl, isWord_file hw, is_wordy hw, fun H6 e6 => ?_⟩
          have ha6 := e6 _ _ ha5
          walk_at "v"
          refine r_addS (by rw [S_len]; have := isFile_len (isName_file hk); rw [S_len] at this; have e : ("=" : Str).length = 1 := rfl; omega) ?_
          walk_at "v"
          intro p5 hp5
          walk_at "v"
          refine fin (e5.trans e6) hp5 fun H'' h => ⟨p5, rfl, .inr (.inr ⟨kk, ww, ?_, hk, hw, hm⟩)⟩
          rw [h]
          show some (HO.lst [V.str (S kk ++ S pEQ), vS ww]) = _
          rw [S_app]
      · rw [decide_eq_false (by
          intro z
          have : pNOT = pALL := congrArg (fun l => l.headD []) z
          exact absurd this (by decide))]
        have hsp : List.replicate (c + 1) pNOT ++ u = pNOT :: (List.replicate c pNOT ++ u) := rfl
        have ha4 := ha3
        rw [hsp] at ha4
        have hlu : (List.replicate (c + 1) pNOT ++ u).length = c + 1 + u.length := by simp
        walk_at "v"
        refine r_ixL (SqL.of ha4) (atI_nat (j := 0) (v := vS pNOT) rfl) ?_
        walk_at "v"
        rw [show decide (vS pNOT = V.str "!") = true from by decide +kernel]
        walk_at "v"
        rw [List.length_map, show (pNOT :: (List.replicate c pNOT ++ u)).length = c + 1 + u.length from hlu]
        refine x_rng1 (by omega) (by omega) ?_
        intro D hD
        refine lc_v walk_range (fun j => decide (j < c + 1)) (fun j => .int (0 + (j : Nat))) hD (by omega) (fun _ _ => trivial) ?_ (fun H5 e5 hd5 => ?_)
        · rintro N j x Hc Hd hj ea ⟨rfl, rfl⟩ hno hyes
          have hts := bang_take (c := c + 1) hh (k := j) (by rw [hlu]; exact hj)
          have haj : Hd a = some (.lst ((List.replicate (c + 1) pNOT ++ u).map vS)) := ea _ _ ha3
          have ej : (0 : Int) + (j : Nat) + 1 = ((j + 1 : Nat) : Int) := by omega
          refine ⟨rfl, ?_⟩
          walk_at "v"
          intro pa hpa
          rw [ej, cutV_to, ← List.map_take]
          have y1 : Ex Hd (upd Hd pa (.lst (((List.replicate (c + 1) pNOT ++ u).take (j + 1)).map vS))) := Ex.mut (Ex.refl _) hpa
          have y1' : upd Hd pa (.lst (((List.replicate (c + 1) pNOT ++ u).take (j + 1)).map vS)) pa = _ := upd_same
          obtain ⟨Hx, hHx⟩ : ∃ Hx, Hx = upd Hd pa (.lst (((List.replicate (c + 1) pNOT ++ u).take (j + 1)).map vS)) := ⟨_, rfl⟩
          rw [← hHx] at y1 y1' ⊢
          walk_at "v"
          intro pb hpb
          have y2 : Ex Hx (upd Hx pb (.lst [V.str "!"])) := Ex.mut (Ex.refl _) hpb
          walk_at "v"
          rw [ej]
          refine r_repK upd_same (by omega) fun pc hpc => ?_
          have y3 : Ex (upd Hx pb (.lst [V.str "!"])) (upd (upd Hx pb (.lst [V.str "!"])) pc (.lst (List.replicate (j + 1) (V.str "!")))) := Ex.mut (Ex.refl _) hpc
          have y3' : upd (upd Hx pb (.lst [V.str "!"])) pc (.lst (List.replicate (j + 1) (V.str "!"))) pc = some (.lst ((List.replicate (j + 1) pNOT).map vS)) := by
            rw [upd_same, List.map_replicate]
            rfl
          refine r_eqSL ((y2.trans y3) _ _ y1') y3' (fun t ht => htok t (List.mem_of_mem_take ht)) (fun t ht => by
            rw [List.eq_of_mem_replicate ht]
            decide) ?_
          rw [hts]
          walk_at "v"
          by_cases hjc : j < c + 1
          · rw [decide_eq_true hjc]
            walk_at "v"
            exact hyes (decide_eq_true hjc) _ ((y1.trans y2).trans y3)
          · rw [decide_eq_false hjc]
            walk_at "v"
            exact hno (decide_eq_false hjc) _ ((y1.trans y2).trans y3)
        · have hcnt : (given (((c + 1 + u.length : Nat) : Int)).toNat (fun j => decide (j < c + 1)) (fun j => V.int (0 + (j : Nat)))).length = c + 1 := by
            unfold given
            rw [List.length_map, Int.toNat_natCast]
            exact lt_count (by omega)
          have ha5 : H5 a = some (.lst ((pNOT :: (List.replicate c pNOT ++ u)).map vS)) := e5 _ _ ha4
          walk_at "v"
          rw [hcnt]
          intro p7 hp7
          rw [cutV_from]
          have y1 : Ex H5 (upd H5 p7 (.lst (((pNOT :: (List.replicate c pNOT ++ u)).map vS).drop (c + 1)))) := Ex.mut (Ex.refl _) hp7
          have y1' : LstAt (upd H5 p7 (.lst (((pNOT :: (List.replicate c pNOT ++ u)).map vS).drop (c + 1)))) p7 u := by
            show upd _ _ _ _ = _
            rw [upd_same, ← hsp, ← List.map_drop, List.drop_left' (by simp)]
          walk_at "v"
          refine ⟨p7, u, n, m0, rfl, y1', by omega, by omega, any_of_each (each_of_one hu), fun v H6 e6 hn => ?_⟩
          obtain ⟨av, rfl⟩ := (hn H6 New.rfl).rf
          have e56 := (eA.trans e5).trans (y1.trans e6)
          walk_at "v"
          rw [show (!decide (V.ref av = V.non)) = true from by rw [decide_eq_false (by intro z; cases z)]; rfl]
          walk_at "v"
          refine for_it walk_range (fun i σ H' => ∃ o7 v, σ = [some (.ref a), some letters, o2, some (.ref p), none, some (.int (c + 1 : Nat)), some v, o7, none, none] ∧ Ex H H' ∧ ∀ H'', New H H' H'' → LTr H'' (u.length + i) v (nots i m0))
            ⟨none, .ref av, rfl, e56, fun H'' h => hn _ (h.sub ((eA.trans e5).trans y1) (Ex.refl _))⟩ (fun _ _ _ _ _ => trivial) ?_ ?_
          · rintro i x σ Ha Hb hi ⟨o7, v, rfl, eH, hv⟩ ⟨rfl, rfl⟩
            walk_at "v"
            intro q1 hq1
            have z1 : Ex Hb (upd Hb q1 (.lst [v])) := Ex.mut (Ex.refl _) hq1
            walk_at "v"
            intro q2 hq2
            have z2 : Ex (upd Hb q1 (.lst [v])) (upd (upd Hb q1 (.lst [v])) q2 (.lst [V.str "!", .ref q1])) := Ex.mut (Ex.refl _) hq2
            walk_at "v"
            refine ⟨_, .ref q2, rfl, (eH.trans z1).trans z2, fun H'' h => ?_⟩
            refine .inr (.inl ⟨q2, q1, v, nots i m0, rfl, h _ _ (ex_none (eH.trans z1) hq2) upd_same, h _ _ (ex_none eH hq1) (z2 _ _ upd_same), hv _ (h.sub (Ex.refl _) (z1.trans z2)), rfl⟩)
          · rintro σ H7 ⟨o7, v, rfl, eH, hv⟩
            walk_at "v"
            refine k _ _ eH fun H'' h => ?_
            rw [hm, hlu]
            have e7 : (((c + 1 : Nat) : Int)).toNat = c + 1 := Int.toNat_natCast _
            have := hv H'' h
            rw [e7] at this
            exact this.mono (by omega)
      · rw [decide_eq_false (by
          intro z
          have : pL = pALL := congrArg (fun l => l.headD []) z
          exact absurd this (by decide))]
        have hlu : (pL :: (u ++ [pR])).length = u.length + 2 := by simp
        walk_at "v"
        refine r_ixL (SqL.of ha3) (atI_nat (j := 0) (v := vS pL) rfl) ?_
        walk_at "v"
        rw [show decide (vS pL = V.str "!") = false from by decide +kernel]
        walk_at "v"
        refine r_ixL (SqL.of ha3) (atI_nat (j := 0) (v := vS pL) rfl) ?_
        walk_at "v"
        rw [show decide (vS pL = V.str "(") = true from by decide +kernel]
        walk_at "v"
        have hlast : atI ((pL :: (u ++ [pR])).map vS) (-1) = some (vS pR) := by
          rw [show (pL :: (u ++ [pR])) = (pL :: u) ++ [pR] from rfl, List.map_append]
          exact atI_last _ _
        refine r_ixL (SqL.of ha3) hlast ?_
        walk_at "v"
        rw [show decide (vS pR = V.str ")") = true from by decide +kernel]
        walk_at "v"
        intro p7 hp7
        have hcut : cutV ((pL :: (u ++ [pR])).map vS) (some 1) (some (-1)) = u.map vS := by
          unfold cutV
          have h1 : HT.sIx ((pL :: (u ++ [pR])).map vS).length 0 (some 1) = min 1 ((pL :: (u ++ [pR])).map vS).length := HT.sIx_nat _ 0 1
          have h2 : HT.sIx ((pL :: (u ++ [pR])).map vS).length ((pL :: (u ++ [pR])).map vS).length (some (-1)) = u.length + 1 := by
            rw [List.length_map, hlu]
            show (if (-1 : Int) < 0 then ((-1 : Int) + ((u.length + 2 : Nat) : Int)).toNat else min (-1 : Int).toNat (u.length + 2)) = _
            rw [if_pos (by decide)]
            omega
          rw [h1, h2, List.length_map, hlu, Nat.min_eq_left (by omega)]
          show List.take (u.length + 1 - 1) ((u ++ [pR]).map vS) = _
          rw [List.map_append, List.take_left' (by simp)]
        rw [hcut]
        have y1 : Ex H4 (upd H4 p7 (.lst (u.map vS))) := Ex.mut (Ex.refl _) hp7
        walk_at "v"
        refine ⟨p7, u, n, m, rfl, upd_same, by omega, by omega, hu, fun v H6 e6 hn => ?_⟩
        walk_at "v"
        refine k _ _ ((eA.trans y1).trans e6) fun H'' h => ?_
        rw [hlu]
        exact (hn _ (h.sub (eA.trans y1) (Ex.refl _))).mono (by omega)
theorem ok_law_read (T : Txt K mg) : ∀ L, GoodP P w K mg base "_law_read" (L + 2) ["_law_parts_here"] (spLRead L) := by
  intro L
  induction L with
  | zero =>
    obtain ⟨fd, F⟩ := T.f_law_read
    have no : ∀ {vs H Q E}, ¬ spLRead 0 vs H Q E := by
      rintro vs H Q E ⟨a, ts, n, m, rfl, ha, hl, hL, hg, k⟩
      have h0 : ts = [] := List.length_eq_zero_iff.mp (by omega)
      subst h0
      obtain ⟨xs, h1, h2, h3, _⟩ := hg
      cases xs with
      | nil => exact h1 rfl
      | cons x r =>
        obtain ⟨ys, g1, g2, g3, _⟩ := h2 x (by simp)
        cases ys with
        | nil => exact g1 rfl
        | cons y r' =>
          have hy := g2 y (by simp)
          have hne : y.1 ≠ [] := by
            rcases one_cases _ _ _ hy with h | ⟨c, u, m0, e, _⟩ | ⟨u, e, _⟩
            · exact (test_head h).2.2
            · rw [e]
              simp [List.replicate_succ]
            · rw [e]
              simp
          rw [List.map_cons, inter_cons, g3, List.map_cons, inter_cons] at h3
          have := congrArg List.length h3
          simp only [List.length_append, List.length_nil] at this
          exact hne (List.length_eq_zero_iff.mp (by omega))
    refine good_of F sc_law_read (fun vs H Q E h => absurd h no) (fun _ _ _ _ _ _ us hl => match us, hl with | [_], _ => rfl) (fun cdv A outer s H vs Q E hr h => absurd h no)
  | succ L ih => exact law_read_step T (by omega) ih
end
end
set_option Elab.async false
set_option linter.all false
set_option maxRecDepth 100000
set_option maxHeartbeats 4000000
/-! More rules for the law's own defs; the law's own series. -/
section
open PySem PySem.Spec PyProof.Rows L2
open Evl (Ex given)
section
variable {X : Cx}
/-- a list against the empty list -/
def rEqE (K : PySem.W.Frag) : R2 := fun x y H Q => ∃ ds, Dp K H x (.list ds) ∧ Dp K H y (.list []) ∧ PyData.canLayAll0 ds = true ∧ Q (.bl (PyData.eqv (.list ds) (.list []))) H
def rNeE (K : PySem.W.Frag) : R2 := fun x y H Q => ∃ ds, Dp K H x (.list ds) ∧ Dp K H y (.list []) ∧ PyData.canLayAll0 ds = true ∧ Q (.bl (!PyData.eqv (.list ds) (.list []))) H
theorem op_eqE (hu : X.A.units + 64 < cLine) : OpR X (compareOp .Eq) (rEqE X.K) := by
  intro pins s σ H x y v u Q I rx ry h
  obtain ⟨ds, hd, he, hc, q⟩ := h
  obtain ⟨as, r1⟩ := Dp.reads I _ x v hd rx
  obtain ⟨bs, r2⟩ := Dp.reads I _ y u he ry
  refine SeqAt.compareEq_reads r1 r2 (by simpa [PyData.canLay0] using hc) rfl ?_ ⟨.bl _, H, I, rfl, q⟩
  have : (PyData.list []).depth ≤ 1 := by decide
  omega
theorem op_neE (hu : X.A.units + 64 < cLine) : OpR X (compareOp .NotEq) (rNeE X.K) := by
  intro pins s σ H x y v u Q I rx ry h
  obtain ⟨ds, hd, he, hc, q⟩ := h
  obtain ⟨as, r1⟩ := Dp.reads I _ x v hd rx
  obtain ⟨bs, r2⟩ := Dp.reads I _ y u he ry
  refine SeqAt.compareNe_reads r1 r2 (by simpa [PyData.canLay0] using hc) rfl ?_ ⟨.bl _, H, I, rfl, q⟩
  have : (PyData.list []).depth ≤ 1 := by decide
  omega
end
section
variable {K : PySem.W.Frag} {σ : L2.St} {H : Hp} {Q : VK} {td ty : TE} {a b : Addr} {vs : List V}
theorem r_eqE (h : H a = some (.lst vs)) (hl : ∀ v ∈ vs, LD K H v) (h2 : H b = some (.lst [])) (q : Q (.bl (decide (vs = []))) H) : rEqE K (.ref a) (.ref b) H Q := by
  obtain ⟨ds, d1, d2, _⟩ := LD.all hl
  refine ⟨ds, .lst (SqL.of h) d1, .lst (SqL.of h2) .nil, d2, ?_⟩
  cases d1 with
  | nil => exact q
  | cons _ _ => exact q
theorem r_neE (h : H a = some (.lst vs)) (hl : ∀ v ∈ vs, LD K H v) (h2 : H b = some (.lst [])) (q : Q (.bl (decide (vs ≠ []))) H) : rNeE K (.ref a) (.ref b) H Q := by
  obtain ⟨ds, d1, d2, _⟩ := LD.all hl
  refine ⟨ds, .lst (SqL.of h) d1, .lst (SqL.of h2) .nil, d2, ?_⟩
  cases d1 with
  | nil => exact q
  | cons _ _ => exact q
theorem r_dget1 (h : td σ H fun x H1 => ∃ a, x = .ref a ∧ IsD H1 a ∧ ty σ H1 fun y H2 => ∃ o, DGet H2 a y o ∧ Q (o.getD .non) H2) : tDGet1 td ty σ H Q := h
theorem x_isd {kvs : List (Key × V)} {R : Addr → Prop} (h : H a = some (.dK kvs)) (q : R a) : ∃ b, V.ref a = .ref b ∧ IsD H b ∧ R b := ⟨a, rfl, .inl ⟨kvs, .inl h⟩, q⟩
theorem r_slS {z : Str} {lo hi : Option Int} (h : z.length ≤ sizeLine) (q : Q (.str (cutS z lo hi)) H) : rSlS (.str z) lo hi H Q := ⟨z, rfl, h, q⟩
end
theorem cutS_key (k : List Nat) : cutS (S (k ++ pEQ)) none (some (-1)) = S k := by
  have h1 : HT.sIx (S (k ++ pEQ)).length 0 none = 0 := rfl
  have hl : (S (k ++ pEQ)).length = k.length + 1 := by rw [S_len]; simp
  have h2 : HT.sIx (S (k ++ pEQ)).length (S (k ++ pEQ)).length (some (-1)) = k.length := by
    rw [hl]
    show (if (-1 : Int) < 0 then ((-1 : Int) + ((k.length + 1 : Nat) : Int)).toNat else min (-1 : Int).toNat (k.length + 1)) = _
    rw [if_pos (by decide)]
    omega
  unfold cutS
  rw [h1, h2]
  show (⟨((k ++ pEQ).drop 0 |>.take (k.length - 0)).toArray⟩ : Str) = ⟨k.toArray⟩
  rw [List.drop_zero, Nat.sub_zero, List.take_left' rfl]
/-! ### the law's series -/
abbrev KVs := List (List Nat × List Nat)
def dKv (kvs : KVs) : List (Key × V) := kvs.map fun kv => (.inr (S kv.1), vS kv.2)
theorem dKv_get (k : List Nat) : ∀ kvs : KVs, valV (dKv kvs) (.inr (S k)) = (kvs.lookup k).map vS
  | [] => rfl
  | (a, b) :: r => by
    by_cases h : a = k
    · subst h
      show valV ((Sum.inr (S a), vS b) :: dKv r) _ = _
      rw [valV_pos rfl, List.lookup_cons_self]
      rfl
    · show valV ((Sum.inr (S a), vS b) :: dKv r) _ = _
      rw [valV_neg (fun z => h (S_inj (Sum.inr.inj z))), dKv_get k r, List.lookup_cons, beq_eq_false_iff_ne.mpr (Ne.symm h)]
theorem lookup_memN {k w : List Nat} : ∀ {l : KVs}, (l.map (·.1)).Nodup → (l.lookup k = some w ↔ (k, w) ∈ l)
  | [], _ => by simp
  | (a, b) :: r, h => by
    rw [List.map_cons, List.nodup_cons] at h
    rw [List.lookup_cons]
    by_cases c : k = a
    · subst c
      rw [beq_self_eq_true]
      simp only [Option.some.injEq, List.mem_cons, Prod.mk.injEq, true_and]
      refine ⟨fun q => .inl q.symm, fun q => ?_⟩
      rcases q with q | q
      · exact q.symm
      · exact absurd (List.mem_map.mpr ⟨_, q, rfl⟩) h.1
    · rw [beq_eq_false_iff_ne.mpr c]
      simp only [List.mem_cons, Prod.mk.injEq, c, false_and, false_or]
      exact lookup_memN h.2
theorem lookup_perm {a b : KVs} (hp : a.Perm b) (h : (b.map (·.1)).Nodup) (k : List Nat) : a.lookup k = b.lookup k := by
  have ha : (a.map (·.1)).Nodup := (hp.map (·.1)).nodup_iff.mpr h
  apply Option.ext
  intro w
  rw [lookup_memN ha, lookup_memN h]
  exact hp.mem_iff
theorem keys_nodup {l : KVs} (h : l.Pairwise (fun x y => x.1 < y.1)) : (l.map (·.1)).Nodup := by
  unfold List.Nodup
  rw [List.pairwise_map]
  exact h.imp fun {x y} hlt z => by
    rw [z] at hlt
    exact absurd hlt (List.lt_irrefl _)
structure LSer (H : Hp) (v : V) (s : Ser) : Prop where
  ob : ∃ a d kvs, v = .ref a ∧ H a = some (.lst [vS s.name, .ref d]) ∧ H d = some (.dK (dKv kvs)) ∧ kvs.Perm s.tags
  ok : SerOk s
theorem LSer.ex {H H' : Hp} (e : Ex H H') {v : V} {s : Ser} (h : LSer H v s) : LSer H' v s := by
  obtain ⟨⟨a, d, kvs, h1, h2, h3, h4⟩, ok⟩ := h
  exact ⟨⟨a, d, kvs, h1, e _ _ h2, e _ _ h3, h4⟩, ok⟩
end
set_option Elab.async false
set_option linter.all false
set_option maxRecDepth 100000
set_option maxHeartbeats 4000000
/-! The law's own meaning of a tree. -/
section
open PySem PySem.Spec PyProof.Rows L2
open Evl (Ex given)

section
variable {P : Program} {w : World} {K : PySem.W.Frag} {mg : Str → Option Value} {base : Heap}
def oV : Option (List Nat) → V
  | none => .non
  | some w => vS w
theorem oV_get {kvs : KVs} {s : Ser} (hp : kvs.Perm s.tags) (ok : SerOk s) (k : List Nat) : (valV (dKv kvs) (.inr (S k))).getD .non = oV (s.tags.lookup k) := by
  rw [dKv_get, lookup_perm hp (keys_nodup ok.2.2.2)]
  cases s.tags.lookup k <;> rfl
def LTq (H : Hp) : Nat → V → Mn → Prop
  | 0, _, _ => False
  | n + 1, v, m => LTr H n v m
theorem LTq.ld {K : PySem.W.Frag} {H : Hp} {n : Nat} {v : V} {m : Mn} (h : LTq H n v m) : LD K H v := by
  cases n with
  | zero => exact h.elim
  | succ n => exact LTr.ld h
theorem LTq.ex {H H' : Hp} (e : Ex H H') {n : Nat} {v : V} {m : Mn} (h : LTq H n v m) : LTq H' n v m := by
  cases n with
  | zero => exact h.elim
  | succ n => exact LTr.ex e h
/-- of these those that g picks, in their order -/
theorem given_pick (g : V × Mn → Bool) (xs : List (V × Mn)) : given xs.length (fun i => ((xs[i]?).map g).getD false) (fun i => ((xs[i]?).map (·.1)).getD .non) = (xs.filter g).map (·.1) := by
  have key : ∀ n, n ≤ xs.length → given n (fun i => ((xs[i]?).map g).getD false) (fun i => ((xs[i]?).map (·.1)).getD .non) = ((xs.take n).filter g).map (·.1) := by
    intro n
    induction n with
    | zero => intro _; rfl
    | succ n ih =>
      intro h
      have hn : xs[n]? = some xs[n] := List.getElem?_eq_getElem (by omega)
      rw [← List.take_append_getElem (by omega : n < xs.length), List.filter_append, List.map_append, ← ih (by omega)]
      cases hg : g xs[n] with
      | true =>
        rw [Evl.given_yes (by rw [hn]; exact hg), hn]
        simp [hg]
      | false =>
        rw [Evl.given_no (by rw [hn]; exact hg)]
        simp [hg]
  rw [key _ (Nat.le_refl _), List.take_length]
theorem LTr.cases {H : Hp} {n : Nat} {v : V} {m : Mn} (h : LTr H n v m) : LTe H v m ∨ (∃ a l u m', v = .ref a ∧ H a = some (.lst [vS pNOT, .ref l]) ∧ H l = some (.lst [u]) ∧ LTq H n u m' ∧ m = fun s => !m' s) ∨
      ∃ (a l : Addr) (b : Bool) (xs : List (V × Mn)), v = .ref a ∧ H a = some (.lst [vS (if b = true then pAND else pOR), .ref l]) ∧ H l = some (.lst (xs.map (·.1))) ∧ xs.length ≤ 1000 ∧ (∀ x ∈ xs, LTq H n x.1 x.2) ∧ m = if b = true then allM (xs.map (·.2)) else anyM (xs.map (·.2)) := by
  cases n with
  | zero => exact .inl h
  | succ n => exact h
def spLMeans (d : Nat) : Sp := fun vs H Q _ => ∃ (t o : V) (m : Mn) (s : Ser), vs = [t, o] ∧ LTq H d t m ∧ LSer H o s ∧ ∀ H', Ex H H' → Q (.bl (m s)) H'
def spLWordOf : Sp := fun vs H Q _ => ∃ (o : V) (k : List Nat) (s : Ser), vs = [o, vS k] ∧ LSer H o s ∧ Q (oV (wordOf s k)) H
theorem sc_law_word_of : FnScope ["_law_one", "_law_key"] ["_law_one", "_law_key"] (defScope s_law_word_of) := ⟨rfl, rfl, rfl, by decide +kernel, rfl, by decide +kernel, by decide +kernel⟩
theorem ok_law_word_of (T : Txt K mg) : GoodP P w K mg base "_law_word_of" 1 ["_law_one", "_law_key"] spLWordOf := by
  obtain ⟨fd, F⟩ := T.f_law_word_of
  refine good_of F sc_law_word_of (fun vs H Q E h => ?_) (fun _ _ _ _ _ _ us hl => match us, hl with | [_, _], _ => rfl) (fun cdv A outer s H vs Q E hr h => ?_)
  · obtain ⟨o, kk, s, rfl, _⟩ := h
    rfl
  · obtain ⟨o, kk, sr, rfl, ⟨⟨a, d, kvs, rfl, ha, hd, hp⟩, ok⟩, k⟩ := h
    have hu := hu_of hr
    refine ⟨_, (pss_one (ps_ret (pe_ifExp (pt_cmpR op_eq (pv 1) pe_str (nomark _)) (pe_ix ix_list (pv 0) pe_int (fun _ _ => rfl)) (pe_dget1 hu (pe_ix ix_list (pv 0) pe_int (fun _ _ => rfl)) (pv 1) (by exact ⟨rfl, rfl, rfl, rfl⟩))))), ?_⟩
    walk_at "v"
    rw [show decide (vS kk = V.str "name") = decide (kk = nNAME) from vS_dec (b := nNAME)]
    unfold wordOf at k
    by_cases hk : kk = nNAME
    · rw [if_pos hk] at k
      rw [decide_eq_true hk]
      walk_at "v"
      exact k
    · rw [if_neg hk] at k
      rw [decide_eq_false hk]
      walk_at "v"
      refine r_dget1 ?_
      walk_at "v"
      refine x_isd hd ?_
      walk_at "v"
      refine ⟨_, .inl ⟨_, .inr (S kk), .inl hd, rfl, rfl⟩, ?_⟩
      rw [oV_get hp ok]
      exact k
theorem sc_law_means : FnScope ["_law_tree", "_law_one", "_law_word_here", "_law_part"] ["_law_tree", "_law_one"] (defScope s_law_means) := ⟨rfl, rfl, rfl, by decide +kernel, rfl, by decide +kernel, by decide +kernel⟩
theorem law_means_step (T : Txt K mg) {d k : Nat} (G_law_means : GoodP P w K mg base "_law_means" k ["_law_tree", "_law_one"] (spLMeans d)) : GoodP P w K mg base "_law_means" (k + 1) ["_law_tree", "_law_one"] (spLMeans (d + 1)) := by
  obtain ⟨fd, F⟩ := T.f_law_means
  refine good_of F sc_law_means (fun vs H Q E h => ?_) (fun _ _ _ _ _ _ us hl => match us, hl with | [_, _], _ => rfl) (fun cdv A outer s H vs Q E hr h => ?_)
  · obtain ⟨t, o, m, s, rfl, _⟩ := h
    rfl
  · obtain ⟨t, o, m, sr, rfl, ht, ho, k⟩ := h
    have hu := hu_of hr
    refine ⟨_, (pss_cons (ps_if (pt_cmpR op_eq (pe_ix ix_list (pv 0) pe_int (fun _ _ => rfl)) pe_str (nomark _)) (pss_one (ps_ret pe_bl)) pss_nil)
    (pss_cons (ps_if (pt_cmpR op_eq (pe_ix ix_list (pv 0) pe_int (fun _ _ => rfl)) pe_str (nomark _)) (pss_one (ps_ret (pe_not (pcall G_law_means hr T.g_law_means (pa_cons (pe_ix ix_list (pe_ix ix_list (pv 0) pe_int (fun _ _ => rfl)) pe_int (fun _ _ => rfl)) (pa_cons (pv 1) pa_nil)))))) pss_nil)
    (pss_cons (ps_if (pt_cmpR op_eq (pe_ix ix_list (pv 0) pe_int (fun _ _ => rfl)) pe_str (nomark _)) (pss_one (ps_ret (pe_cmpR (op_eqE hr.units) (pe_lc (own := [("_law_part", 3)]) rfl sc_law_means.nd (pi_list (pe_ix ix_list (pv 0) pe_int (fun _ _ => rfl))) (blkOk_by (N := ["_law_tree", "_law_one", "_law_word_here", "_law_part"]) (sc := defScope s_law_means) (by decide +kernel)) (fun _ _ _ _ _ => (pg_name (i := 3) sc_law_means.nd rfl (Or.inl rfl))) (fun _ _ _ _ _ => (pts_one (pt_not (pt_val (pcall G_law_means hr T.g_law_means (pa_cons (pv 3) (pa_cons (pv 1) pa_nil))))))) (fun _ _ _ _ _ => (pv 3))) (pe_lst pa_nil) (nomark _)))) pss_nil)
    (pss_cons (ps_if (pt_cmpR op_eq (pe_ix ix_list (pv 0) pe_int (fun _ _ => rfl)) pe_str (nomark _)) (pss_one (ps_ret (pe_cmpR (op_neE hr.units) (pe_lc (own := [("_law_part", 3)]) rfl sc_law_means.nd (pi_list (pe_ix ix_list (pv 0) pe_int (fun _ _ => rfl))) (blkOk_by (N := ["_law_tree", "_law_one", "_law_word_here", "_law_part"]) (sc := defScope s_law_means) (by decide +kernel)) (fun _ _ _ _ _ => (pg_name (i := 3) sc_law_means.nd rfl (Or.inl rfl))) (fun _ _ _ _ _ => (pts_one (pt_val (pcall G_law_means hr T.g_law_means (pa_cons (pv 3) (pa_cons (pv 1) pa_nil)))))) (fun _ _ _ _ _ => (pv 3))) (pe_lst pa_nil) (nomark _)))) pss_nil)
    (pss_cons (ps_set (i := 2) sc_law_means.nd rfl (Or.inl rfl) (pe_ifExp (pt_cmpR op_eq (pe_ix ix_list (pv 0) pe_int (fun _ _ => rfl)) pe_str (nomark _)) (pe_ix ix_list (pv 1) pe_int (fun _ _ => rfl)) (pe_dget1 hu (pe_ix ix_list (pv 1) pe_int (fun _ _ => rfl)) (pe_slice sl_str (pe_ix ix_list (pv 0) pe_int (fun _ _ => rfl)) po_none (po_some (pe_un un_neg pe_int))) (by exact ⟨rfl, rfl, rfl, rfl⟩))))
    (pss_one (ps_ret (pe_ifExp (pt_cmpR op_eq (pe_ix ix_list (pv 0) pe_int (fun _ _ => rfl)) pe_str (nomark _)) (pe_cmpR op_notN1 (pv 2) pe_non (nomark _)) (pe_cmpR op_eq (pv 2) (pe_ix ix_list (pv 0) pe_int (fun _ _ => rfl)) (nomark _)))))))))), ?_⟩
    have ho' := ho
    obtain ⟨⟨ao, dd, kvs, rfl, hao, hdd, hperm⟩, ok⟩ := ho
    have wof : ∀ kk : List Nat, kk ≠ nNAME → (valV (dKv kvs) (.inr (S kk))).getD .non = oV (wordOf sr kk) := fun kk hk => by
      rw [oV_get hperm ok]
      unfold wordOf
      rw [if_neg hk]
    have leaf : ∀ {a : Addr} {kk x : List Nat}, t = .ref a → H a = some (.lst [vS (kk ++ pEQ), vS x]) → isName (S kk) = true → m sr = (if x = pST then (wordOf sr kk).isSome else decide (wordOf sr kk = some x)) → True := fun _ _ _ _ => trivial
    rcases LTr.cases ht with ⟨a, rfl, hq⟩ | ⟨a, l, u, m', rfl, h2, h3, h4, rfl⟩ | ⟨a, l, b, xs, rfl, h2, h3, h4, h5, rfl⟩
    · have h0 : (H a = some (.lst [vS pALL, vS []]) ∧ m sr = true) ∨ ∃ kk x, H a = some (.lst [vS (kk ++ pEQ), vS x]) ∧ isName (S kk) = true ∧ m sr = (if x = pST then (wordOf sr kk).isSome else decide (wordOf sr kk = some x)) := by
        rcases hq with ⟨h1, rfl⟩ | ⟨kk, h1, hk, rfl⟩ | ⟨kk, x, h1, hk, hx, rfl⟩
        · exact .inl ⟨h1, rfl⟩
        · exact .inr ⟨kk, pST, h1, hk, by rw [if_pos rfl]⟩
        · refine .inr ⟨kk, x, h1, hk, ?_⟩
          rw [if_neg (name_tok (isWord_file hx) (by decide +kernel))]
      rcases h0 with ⟨h1, hm⟩ | ⟨kk, x, h1, hk, hm⟩
      · walk_at "v"
        rw [show decide (vS pALL = V.str "all") = true from by decide +kernel]
        walk_at "v"
        rw [← hm]
        exact k _ (Ex.refl _)
      · have last : ∀ {t : List Nat}, t ≠ [] → t.getLastD 0 ≠ 61 → kk ++ pEQ ≠ t := fun {t} hn ht z => by
          rw [← z] at ht
          simp at ht
        walk_at "v"
        rw [show decide (vS (kk ++ pEQ) = V.str "all") = false from (vS_dec (b := pALL)).trans (decide_eq_false (last (by decide) (by decide)))]
        walk_at "v"
        rw [show decide (vS (kk ++ pEQ) = V.str "!") = false from (vS_dec (b := pNOT)).trans (decide_eq_false (last (by decide) (by decide)))]
        walk_at "v"
        rw [show decide (vS (kk ++ pEQ) = V.str "&") = false from (vS_dec (b := pAND)).trans (decide_eq_false (last (by decide) (by decide)))]
        walk_at "v"
        rw [show decide (vS (kk ++ pEQ) = V.str "|") = false from (vS_dec (b := pOR)).trans (decide_eq_false (last (by decide) (by decide)))]
        walk_at "v"
        rw [show decide (vS (kk ++ pEQ) = V.str "name=") = decide (kk = nNAME) from (vS_dec (b := nNAME ++ pEQ)).trans (decide_eq_decide.mpr ⟨fun z => List.append_cancel_right z, fun z => by rw [z]⟩)]
        have klen := isFile_len (isName_file hk)
        rw [S_len] at klen
        have eqA : x = pST → (!decide (oV (wordOf sr kk) = V.non)) = m sr := fun hx => by
          rw [hm, if_pos hx]
          cases wordOf sr kk <;> rfl
        have eqB : x ≠ pST → decide (oV (wordOf sr kk) = vS x) = m sr := fun hx => by
          rw [hm, if_neg hx]
          cases wordOf sr kk with
          | none => exact decide_eq_decide.mpr ⟨fun z => (by cases z), fun z => (by cases z)⟩
          | some y => exact decide_eq_decide.mpr (by rw [show oV (some y) = vS y from rfl, vS_eq, Option.some.injEq])
        have q0 : Q (.bl (m sr)) H := k _ (Ex.refl _)
        have exs : decide (vS x = V.str "*") = decide (x = pST) := vS_dec (b := pST)
        by_cases hkn : kk = nNAME
        · rw [decide_eq_true hkn]
          have ew : wordOf sr kk = some sr.name := by
            unfold wordOf
            rw [if_pos hkn]
          walk_at "v"
          rw [exs]
          by_cases hx : x = pST
          · rw [decide_eq_true hx]
            walk_at "v"
            rw [show (!decide (vS sr.name = V.non)) = m sr from by rw [← eqA hx, ew]; rfl]
            exact q0
          · rw [decide_eq_false hx]
            walk_at "v"
            rw [show decide (vS sr.name = vS x) = m sr from by rw [← eqB hx, ew]; rfl]
            exact q0
        · rw [decide_eq_false hkn]
          walk_at "v"
          refine r_dget1 ?_
          walk_at "v"
          refine x_isd hdd ?_
          walk_at "v"
          refine r_slS (by rw [S_len]; simp only [List.length_append, List.length_singleton]; exact Nat.le_trans (show _ ≤ 100 by omega) (by decide)) ?_
          rw [cutS_key]
          refine ⟨_, .inl ⟨_, .inr (S kk), .inl hdd, rfl, rfl⟩, ?_⟩
          rw [wof kk hkn]
          walk_at "v"
          rw [exs]
          by_cases hx : x = pST
          · rw [decide_eq_true hx]
            walk_at "v"
            rw [eqA hx]
            exact q0
          · rw [decide_eq_false hx]
            have eb := eqB hx
            cases hw : wordOf sr kk with
            | none =>
              rw [hw, show oV none = V.non from rfl] at eb
              rw [show oV none = V.non from rfl]
              walk_at "v"
              rw [eb]
              exact q0
            | some y =>
              rw [hw, show oV (some y) = vS y from rfl] at eb
              rw [show oV (some y) = vS y from rfl]
              walk_at "v"
              rw [eb]
              exact q0
    · walk_at "v"
      rw [show decide (vS pNOT = V.str "all") = false from by decide +kernel]
      walk_at "v"
      rw [show decide (vS pNOT = V.str "!") = true from by decide +kernel]
      walk_at "v"
      refine ⟨u, _, m', sr, rfl, h4, ho', fun H' e => ?_⟩
      walk_at "v"
      exact k _ e
    · cases b with
      | true =>
        have h2' : H a = some (.lst [vS pAND, .ref l]) := h2
        clear h2
        walk_at "v"
        rw [show decide (vS pAND = V.str "all") = false from by decide +kernel]
        walk_at "v"
        rw [show decide (vS pAND = V.str "!") = false from by decide +kernel]
        walk_at "v"
        rw [show decide (vS pAND = V.str "&") = true from by decide +kernel]
        walk_at "v"
        intro D hD
        refine lc_v (walk_list (xs := xs.map (·.1))) (fun i => ((xs[i]?).map fun x => !x.2 sr).getD false) (fun i => ((xs[i]?).map (·.1)).getD .non) hD (by rw [List.length_map]; omega) (fun H' e => SqL.of (e _ _ h3)) ?_ (fun H5 e5 hd5 => ?_)
        · rintro N i x Ha Hb hi ea ⟨rfl, hx⟩ hno hyes
          rw [List.getElem?_map] at hx
          cases hxi : xs[i]? with
          | none =>
            rw [hxi] at hx
            cases hx
          | some z =>
            rw [hxi] at hx
            obtain rfl := Option.some.inj hx
            simp only [hxi, Option.map_some, Option.getD_some] at hno hyes
            walk_at "v"
            refine ⟨rfl, ?_⟩
            walk_at "v"
            refine ⟨_, _, z.2, sr, rfl, (h5 z (List.mem_of_getElem? hxi)).ex ea, ho'.ex ea, fun H6 e6 => ?_⟩
            walk_at "v"
            cases hz : z.2 sr with
            | true =>
              walk_at "v"
              exact hno (by rw [hz]; rfl) _ e6
            | false =>
              walk_at "v"
              exact hyes (by rw [hz]; rfl) _ e6
        · rw [List.length_map, given_pick (fun x => !x.2 sr)] at hd5
          walk_at "v"
          intro p6 hp6
          refine r_eqE ((Ex.mut (Ex.refl _) hp6) _ _ hd5) (fun v hv => ?_) upd_same ?_
          · obtain ⟨z, hz, rfl⟩ := List.mem_map.mp hv
            exact (LTq.ex (e5.trans (Ex.mut (Ex.refl _) hp6)) (h5 z (List.mem_filter.mp hz).1)).ld
          · walk_at "v"
            have em : decide ((xs.filter fun x => !x.2 sr).map (·.1) = []) = allM (xs.map (·.2)) sr := by
              unfold allM
              rw [List.all_map]
              apply Bool.eq_iff_iff.mpr
              rw [decide_eq_true_eq, List.map_eq_nil_iff, List.filter_eq_nil_iff, List.all_eq_true]
              refine forall_congr' fun x => forall_congr' fun _ => ?_
              show ¬ (!x.2 sr) = true ↔ x.2 sr = true
              cases x.2 sr <;> decide
            rw [em]
            exact k _ (e5.trans (Ex.mut (Ex.refl _) hp6))
      | false =>
        have h2' : H a = some (.lst [vS pOR, .ref l]) := h2
        clear h2
        walk_at "v"
        rw [show decide (vS pOR = V.str "all") = false from by decide +kernel]
        walk_at "v"
        rw [show decide (vS pOR = V.str "!") = false from by decide +kernel]
        walk_at "v"
        rw [show decide (vS pOR = V.str "&") = false from by decide +kernel]
        walk_at "v"
        rw [show decide (vS pOR = V.str "|") = true from by decide +kernel]
        walk_at "v"
        intro D hD
        refine lc_v (walk_list (xs := xs.map (·.1))) (fun i => ((xs[i]?).map fun x => x.2 sr).getD false) (fun i => ((xs[i]?).map (·.1)).getD .non) hD (by rw [List.length_map]; omega) (fun H' e => SqL.of (e _ _ h3)) ?_ (fun H5 e5 hd5 => ?_)
        · rintro N i x Ha Hb hi ea ⟨rfl, hx⟩ hno hyes
          rw [List.getElem?_map] at hx
          cases hxi : xs[i]? with
          | none =>
            rw [hxi] at hx
            cases hx
          | some z =>
            rw [hxi] at hx
            obtain rfl := Option.some.inj hx
            simp only [hxi, Option.map_some, Option.getD_some] at hno hyes
            walk_at "v"
            refine ⟨rfl, ?_⟩
            walk_at "v"
            refine ⟨_, _, z.2, sr, rfl, (h5 z (List.mem_of_getElem? hxi)).ex ea, ho'.ex ea, fun H6 e6 => ?_⟩
            walk_at "v"
            cases hz : z.2 sr with
            | true =>
              walk_at "v"
              exact hyes hz _ e6
            | false =>
              walk_at "v"
              exact hno hz _ e6
        · rw [List.length_map, given_pick (fun x => x.2 sr)] at hd5
          walk_at "v"
          intro p6 hp6
          refine r_neE ((Ex.mut (Ex.refl _) hp6) _ _ hd5) (fun v hv => ?_) upd_same ?_
          · obtain ⟨z, hz, rfl⟩ := List.mem_map.mp hv
            exact (LTq.ex (e5.trans (Ex.mut (Ex.refl _) hp6)) (h5 z (List.mem_filter.mp hz).1)).ld
          · walk_at "v"
            have em : decide ((xs.filter fun x => x.2 sr).map (·.1) ≠ []) = anyM (xs.map (·.2)) sr := by
              unfold anyM
              rw [List.any_map]
              apply Bool.eq_iff_iff.mpr
              rw [decide_eq_true_eq, ne_eq, List.map_eq_nil_iff, List.filter_eq_nil_iff, List.any_eq_true]
              constructor
              · intro h
                refine Classical.byContradiction fun hn => h fun x hx hxt => hn ⟨x, hx, hxt⟩
              · rintro ⟨x, hx, hxt⟩ h
                exact h x hx hxt
            rw [em]
            exact k _ (e5.trans (Ex.mut (Ex.refl _) hp6))
theorem ok_law_means (T : Txt K mg) : ∀ d, GoodP P w K mg base "_law_means" (d + 2) ["_law_tree", "_law_one"] (spLMeans d) := by
  intro d
  induction d with
  | zero =>
    obtain ⟨fd, F⟩ := T.f_law_means
    have no : ∀ {vs H Q E}, ¬ spLMeans 0 vs H Q E := by
      rintro vs H Q E ⟨t, o, m, s, rfl, ht, _⟩
      exact ht
    exact good_of F sc_law_means (fun vs H Q E h => absurd h no) (fun _ _ _ _ _ _ us hl => match us, hl with | [_, _], _ => rfl) (fun cdv A outer s H vs Q E hr h => absurd h no)
  | succ d ih => exact law_means_step T ih
end
end
set_option Elab.async false
set_option linter.all false
set_option maxRecDepth 100000
set_option maxHeartbeats 4000000
/-! The law writes words and selections. -/
section
open PySem PySem.Spec PyProof.Rows L2
open Evl (Ex given)

/-! ### the grammar is closed -/
def GrP (n : Nat) (ts : Toks) : Prop := ∃ m, AnyP n ts m
theorem GrP.up {n : Nat} {ts : Toks} (h : GrP n ts) : GrP (n + 1) ts := by
  obtain ⟨m, h⟩ := h
  exact ⟨m, (oneP_up n).2 _ _ h⟩
theorem GrP.mono {n k : Nat} {ts : Toks} (h : GrP n ts) (l : n ≤ k) : GrP k ts := by
  obtain ⟨d, rfl⟩ := Nat.exists_eq_add_of_le l
  induction d with
  | zero => exact h
  | succ d ih => exact (ih (by omega)).up
theorem inter_app {sg : List Nat} : ∀ {a b : List Toks}, a ≠ [] → b ≠ [] → inter sg (a ++ b) = inter sg a ++ sg :: inter sg b
  | [], _, h, _ => absurd rfl h
  | [x], y :: r, _, _ => rfl
  | [x], [], _, h => absurd rfl h
  | x :: y :: r, b, _, h => by
    show x ++ sg :: inter sg ((y :: r) ++ b) = _
    rw [inter_app (a := y :: r) (by simp) h]
    show _ = (x ++ sg :: inter sg (y :: r)) ++ _
    simp
theorem GrP.one {n : Nat} {ts : Toks} {m : Mn} (h : OneP n ts m) : GrP n ts := ⟨m, any_of_each (each_of_one h)⟩
theorem GrP.or {n : Nat} {a b : Toks} (ha : GrP n a) (hb : GrP n b) : GrP n (a ++ pOR :: b) := by
  obtain ⟨_, xs, h1, h2, rfl, _⟩ := ha
  obtain ⟨_, ys, g1, g2, rfl, _⟩ := hb
  refine ⟨_, xs ++ ys, by simp [h1], fun x hx => (List.mem_append.mp hx).elim (h2 x) (g2 x), ?_, rfl⟩
  rw [List.map_append, inter_app (by simpa using h1) (by simpa using g1)]
theorem snoc_of {α : Type} {xs : List α} (h : xs ≠ []) : ∃ r x, xs = r ++ [x] := ⟨xs.dropLast, xs.getLast h, (List.dropLast_concat_getLast h).symm⟩
theorem EachP.and {n : Nat} {a b : Toks} {m m' : Mn} (ha : EachP n a m) (hb : EachP n b m') : ∃ m2, EachP n (a ++ pAND :: b) m2 := by
  obtain ⟨xs, h1, h2, rfl, _⟩ := ha
  obtain ⟨ys, g1, g2, rfl, _⟩ := hb
  refine ⟨_, xs ++ ys, by simp [h1], fun x hx => (List.mem_append.mp hx).elim (h2 x) (g2 x), ?_, rfl⟩
  rw [List.map_append, inter_app (by simpa using h1) (by simpa using g1)]
theorem GrP.and {n : Nat} {a b : Toks} (ha : GrP n a) (hb : GrP n b) : GrP n (a ++ pAND :: b) := by
  obtain ⟨_, xs, h1, h2, rfl, _⟩ := ha
  obtain ⟨_, ys, g1, g2, rfl, _⟩ := hb
  obtain ⟨r, x, rfl⟩ := snoc_of h1
  cases ys with
  | nil => exact absurd rfl g1
  | cons y s =>
    obtain ⟨m2, he⟩ := (h2 x (by simp)).and (g2 y (by simp))
    refine ⟨_, r ++ (x.1 ++ pAND :: y.1, m2) :: s, by simp, fun z hz => ?_, ?_, rfl⟩
    · rcases List.mem_append.mp hz with hz | hz
      · exact h2 z (by simp [hz])
      · rcases List.mem_cons.mp hz with rfl | hz
        · exact he
        · exact g2 z (by simp [hz])
    · have e1 : ∀ (r : List Toks) (x y : Toks) (s : List Toks), inter pOR (r ++ [x]) ++ pAND :: inter pOR (y :: s) = inter pOR (r ++ (x ++ pAND :: y) :: s) := by
        intro r x y s
        have e2 : inter pOR [x] ++ pAND :: inter pOR (y :: s) = inter pOR ((x ++ pAND :: y) :: s) := by
          cases s with
          | nil => rfl
          | cons z s =>
            show x ++ pAND :: (y ++ pOR :: inter pOR (z :: s)) = (x ++ pAND :: y) ++ pOR :: inter pOR (z :: s)
            simp
        cases r with
        | nil => exact e2
        | cons q r =>
          rw [inter_app (by simp) (by simp), inter_app (by simp) (by simp), List.append_assoc, List.cons_append, e2]
      have := e1 (r.map (·.1)) x.1 y.1 (s.map (·.1))
      simpa using this
theorem GrP.par {n : Nat} {a : Toks} (ha : GrP n a) : GrP (n + 1) (pL :: (a ++ [pR])) := by
  obtain ⟨m, h⟩ := ha
  exact GrP.one (m := m) (.inr (.inr ⟨a, rfl, h⟩))
theorem GrP.not {n : Nat} {a : Toks} (ha : GrP n a) : GrP (n + 1) (pNOT :: a) := by
  obtain ⟨_, xs, h1, h2, rfl, _⟩ := ha
  cases xs with
  | nil => exact absurd rfl h1
  | cons x r =>
    obtain ⟨ys, g1, g2, g3, g4⟩ := h2 x (by simp)
    cases ys with
    | nil => exact absurd rfl g1
    | cons y s =>
      have hy : OneP (n + 1) (pNOT :: y.1) (fun s => !y.2 s) := .inr (.inl ⟨_, _, rfl, g2 y (by simp), rfl⟩)
      obtain ⟨mx, hx⟩ : ∃ mx, EachP (n + 1) (pNOT :: x.1) mx := by
        refine ⟨_, (pNOT :: y.1, fun s => !y.2 s) :: s, by simp, fun z hz => ?_, ?_, rfl⟩
        · rcases List.mem_cons.mp hz with rfl | hz
          · exact hy
          · exact (oneP_up n).1 _ _ (g2 z (by simp [hz]))
        · rw [g3, List.map_cons, List.map_cons, inter_cons, inter_cons]
          rfl
      refine ⟨_, (pNOT :: x.1, mx) :: r, by simp, fun z hz => ?_, ?_, rfl⟩
      · rcases List.mem_cons.mp hz with rfl | hz
        · exact hx
        · obtain ⟨zs, q1, q2, q3, q4⟩ := h2 z (by simp [hz])
          exact ⟨zs, q1, fun y hy => (oneP_up n).1 _ _ (q2 y hy), q3, q4⟩
      · rw [List.map_cons, List.map_cons, inter_cons, inter_cons]
        rfl
/-! ### the defs -/
section
variable {P : Program} {w : World} {K : PySem.W.Frag} {mg : Str → Option Value} {base : Heap}
def spLWord : Sp := fun vs H Q _ => ∃ (b : Addr) (f c : Nat), vs = [.ref b, .int (f : Nat)] ∧ (f = 26 ∨ f = 36) ∧ BoxAt H b c ∧ c + 4 ≤ 1000000000 ∧ ∀ x H', BoxAt H' b (c + 4) → Exx [b] H H' → isWord (S x) = true → x.length ≤ 3 → (f = 26 → isName (S x) = true) → Q (vS x) H'
theorem sc_law_word : FnScope ["_law_box_here", "_law_first", "_law_signs", "_law_found", "_law_turn"] ["_law_box_here", "_law_first"] (defScope s_law_word) := ⟨rfl, rfl, rfl, by decide +kernel, rfl, by decide +kernel, by decide +kernel⟩
theorem ok_law_word (T : Txt K mg) : GoodP P w K mg base "_law_word" 2 ["_law_box_here", "_law_first"] spLWord := by
  have G_law_take := ok_law_take (P := P) (w := w) (base := base) T
  obtain ⟨fd, F⟩ := T.f_law_word
  refine good_of F sc_law_word (fun vs H Q E h => ?_) (fun _ _ _ _ _ _ us hl => match us, hl with | [_, _], _ => rfl) (fun cdv A outer s H vs Q E hr h => ?_)
  · obtain ⟨b, f, c, rfl, _⟩ := h
    rfl
  · obtain ⟨b, f, c, rfl, hf, hb, hc, k⟩ := h
    refine ⟨_, (pss_cons (ps_asg (pe_tup (pa_cons pe_str (pa_cons pe_str pa_nil))) (pg_tup (n := 2) rfl (pgs_cons (pg_name (i := 2) sc_law_word.nd rfl (Or.inl rfl)) (pgs_cons (pg_name (i := 3) sc_law_word.nd rfl (Or.inl rfl)) pgs_nil))))
    (pss_cons (ps_for PassesOwn.never rfl (pi_range1 rfl T.z_range (pa_cons (pe_op op_add pe_int (pcall G_law_take hr T.g_law_take (pa_cons (pv 0) (pa_cons pe_int pa_nil)))) pa_nil)) (pg_name (i := 4) sc_law_word.nd rfl (Or.inl rfl))
    (pss_one (ps_set (i := 3) sc_law_word.nd rfl (Or.inl rfl) (pe_op op_addS (pv 3) (pe_ix ix_str (pv 2) (pcall G_law_take hr T.g_law_take (pa_cons (pv 0) (pa_cons (pe_ifExp (pt_cmpR op_eq (pv 4) pe_int (nomark _)) (pv 1) pe_int) pa_nil))) (fun _ _ => rfl))))))
    (pss_one (ps_ret (pv 3))))), ?_⟩
    walk_at "v"
    intro p0 hp0
    have z0 := Ex.mut (Ex.refl H) hp0 (o := .tup [V.str "abcdefghijklmnopqrstuvwxyz0123456789-", V.str ""])
    have hb0 := hb.ex z0
    walk_at "v"
    refine ⟨b, 3, c, rfl, by decide, by decide, hb0, by omega, fun n H1 hn hb1 e1' => ?_⟩
    have e1 := (Exx.of (S := [b]) z0).trans e1'
    walk_at "v"
    refine for_it walk_range (fun i σ H' => ∃ o x, σ = [some (.ref b), some (.int (f : Nat)), some (.str "abcdefghijklmnopqrstuvwxyz0123456789-"), some (vS x), o] ∧ Exx [b] H H' ∧ BoxAt H' b (c + 1 + i) ∧ x.length = i ∧ (∀ ch ∈ x, ch ∈ tl SIGNS) ∧ (1 ≤ i → hd0 (S x) ∈ (tl SIGNS).take f))
      ⟨none, [], rfl, e1, hb1, rfl, (by simp), (by omega)⟩ (fun _ _ _ _ _ => trivial) ?_ ?_
    · rintro i x σ Ha Hb hi ⟨o, x, rfl, e2, hb2, hxl, hxs, hx0⟩ ⟨rfl, rfl⟩
      have hi3 : i < 3 := by omega
      walk_at "v"
      refine ite2 ?t ?f
      case' t =>
        intro hk
        have hi0 : i = 0 := by
          have := of_decide_eq_true hk
          injection this with this
          omega
        walk_at "v"
        refine ⟨b, f, c + 1 + i, rfl, by omega, by omega, hb2, by omega, fun d H3 hd hb3 e3 => ?_⟩
        have hd' : d < 37 ∧ (i = 0 → d < f) := ⟨by omega, fun _ => hd⟩
      case' f =>
        intro hk
        have hi0 : i ≠ 0 := fun z => hk (by rw [z]; rfl)
        walk_at "v"
        refine ⟨b, 37, c + 1 + i, rfl, by omega, by omega, hb2, by omega, fun d H3 hd hb3 e3 => ?_⟩
        have hd' : d < 37 ∧ (i = 0 → d < f) := ⟨hd, fun z => absurd z hi0⟩
      all_goals
        clear hk hi0 hd
        obtain ⟨hd1, hd2⟩ := hd'
        have hsl : (tl SIGNS).length = 37 := by decide +kernel
        have hch : (tl SIGNS)[d]? = some ((tl SIGNS)[d]'(by omega)) := List.getElem?_eq_getElem _
        have hin : (tl SIGNS)[d]'(by omega) ∈ tl SIGNS := List.getElem_mem _
        have htk : i = 0 → (tl SIGNS)[d]'(by omega) ∈ (tl SIGNS).take f := fun z => by
          have := hd2 z
          rw [List.mem_take_iff_getElem]
          exact ⟨d, by omega, rfl⟩
        generalize (tl SIGNS)[d]'(by omega) = ch at *
        refine r_ixS (by decide) (atI_nat (j := d) (show ("abcdefghijklmnopqrstuvwxyz0123456789-" : Str).cps.toList[d]? = some ch from hch)) ?_
        refine r_addS (by rw [S_len]; have e : (⟨#[ch]⟩ : Str).length = 1 := rfl; omega) ?_
        walk_at "v"
        refine ⟨some (.int (0 + (i : Nat))), x ++ [ch], by rw [show vS (x ++ [ch]) = .str (S x ++ ⟨#[ch]⟩) from by rw [show (⟨#[ch]⟩ : Str) = S [ch] from rfl, S_app]]; rfl, e2.trans e3, hb3, by simp [hxl], fun q hq => ?_, fun _ => ?_⟩
        · rcases List.mem_append.mp hq with hq | hq
          · exact hxs q hq
          · rw [List.mem_singleton] at hq
            rw [hq]
            exact hin
        · cases x with
          | nil => exact htk (by simpa using hxl.symm)
          | cons y r => exact hx0 (by simp at hxl; omega)
    · rintro σ Ha ⟨o, x, rfl, e2, hb2, hxl, hxs, hx0⟩
      walk_at "v"
      have hn3 : (1 + (n : Int)).toNat = n + 1 := by omega
      rw [hn3] at hb2 hxl hx0
      have h0 := hx0 (by omega)
      have hfile : isFile (S x) = true := by
        unfold isFile
        rw [Bool.and_eq_true, Bool.and_eq_true, decide_eq_true_eq, decide_eq_true_eq, S_len, List.all_eq_true]
        exact ⟨by omega, by omega, fun q hq => decide_eq_true (hxs q hq)⟩
      refine k x Ha (hb2.mono (by omega)) e2 ?_ (by omega) (fun hf26 => ?_)
      · unfold isWord
        rw [hfile, Bool.true_and, decide_eq_true_eq]
        have key : ∀ q ∈ (tl SIGNS).take 36, q ≠ 45 := by decide +kernel
        refine key _ ?_
        rcases hf with rfl | rfl
        · exact List.mem_of_mem_take (i := 26) (by rw [List.take_take]; exact h0)
        · exact h0
      · unfold isName
        rw [hfile, Bool.true_and, decide_eq_true_eq]
        have key : ∀ q ∈ (tl SIGNS).take 26, q ∈ tl LETTERS := by decide +kernel
        subst hf26
        exact key _ h0
/-- a box is no list of texts -/
theorem box_ne {H : Hp} {b a : Addr} {c : Nat} {ts : Toks} (hb : BoxAt H b c) (ha : LstAt H a ts) : a ≠ b := fun z => by
  obtain ⟨g, big, m, n, h1, _⟩ := hb
  rw [← z] at h1
  have h2 : some (HO.lst (ts.map vS)) = some (.lst [.int g, .bl big, .int m, .int n]) := ha.symm.trans h1
  injection h2 with h2
  injection h2 with h2
  cases ts with
  | nil => cases h2
  | cons t r =>
    rw [List.map_cons] at h2
    injection h2 with h2
    cases h2
theorem LstAt.exx {H H' : Hp} {b a : Addr} {c : Nat} {ts : Toks} (ha : LstAt H a ts) (hb : BoxAt H b c) (e : Exx [b] H H') : LstAt H' a ts := e _ _ ha (by simpa using box_ne hb ha)
def Bw : Nat → Nat
  | 0 => 4
  | d + 1 => 3 + 3 * Bw d
def Lw : Nat → Nat
  | 0 => 3
  | d + 1 => 3 * Lw d + 2
structure PoolAt (H : Hp) (ka wa : Addr) (keys words : Toks) : Prop where
  k : LstAt H ka keys
  w : LstAt H wa words
  kn : 1 ≤ keys.length ∧ keys.length ≤ 100
  wn : 1 ≤ words.length ∧ words.length ≤ 100
  ks : ∀ x ∈ keys, isName (S x) = true
  ws : ∀ x ∈ words, isWord (S x) = true
theorem PoolAt.exx {H H' : Hp} {ka wa b : Addr} {keys words : Toks} {c : Nat} (h : PoolAt H ka wa keys words) (hb : BoxAt H b c) (e : Exx [b] H H') : PoolAt H' ka wa keys words := ⟨h.k.exx hb e, h.w.exx hb e, h.kn, h.wn, h.ks, h.ws⟩
theorem PoolAt.ex {H H' : Hp} {ka wa : Addr} {keys words : Toks} (h : PoolAt H ka wa keys words) (e : Ex H H') : PoolAt H' ka wa keys words := ⟨e _ _ h.k, e _ _ h.w, h.kn, h.wn, h.ks, h.ws⟩
def spLTest : Sp := fun vs H Q _ => ∃ (b ka wa : Addr) (keys words : Toks) (c : Nat), vs = [.ref b, .ref ka, .ref wa] ∧ BoxAt H b c ∧ c + 4 ≤ 1000000000 ∧ PoolAt H ka wa keys words ∧
  ∀ p ts H', H p = none → LstAt H' p ts → BoxAt H' b (c + 4) → Exx [b] H H' → GrP 0 ts → ts.length ≤ 3 → Q (.ref p) H'
theorem sc_law_test : FnScope ["_law_box_here", "_law_keys", "_law_words", "_law_key"] ["_law_box_here", "_law_keys", "_law_words"] (defScope s_law_test) := ⟨rfl, rfl, rfl, by decide +kernel, rfl, by decide +kernel, by decide +kernel⟩
theorem box_none {b p : Addr} {H H' : Hp} {c : Nat} (hb : BoxAt H' b c) (e : Exx [b] H H') (h : H' p = none) : H p = none := by
  cases q : H p with
  | none => rfl
  | some o =>
    by_cases z : p = b
    · subst z
      obtain ⟨g, big, m, n, h1, _⟩ := hb
      rw [h] at h1
      cases h1
    · rw [e _ _ q (by simpa using z)] at h
      cases h
theorem at_lt {ts : Toks} {n : Nat} (h : n < ts.length) : atI (ts.map vS) (n : Nat) = some (vS ts[n]) := atI_nat (by rw [List.getElem?_map, List.getElem?_eq_getElem h]; rfl)
theorem ok_law_test (T : Txt K mg) : GoodP P w K mg base "_law_test" 2 ["_law_box_here", "_law_keys", "_law_words"] spLTest := by
  have G_law_take := ok_law_take (P := P) (w := w) (base := base) T
  obtain ⟨fd, F⟩ := T.f_law_test
  refine good_of F sc_law_test (fun vs H Q E h => ?_) (fun _ _ _ _ _ _ us hl => match us, hl with | [_, _, _], _ => rfl) (fun cdv A outer s H vs Q E hr h => ?_)
  · obtain ⟨b, ka, wa, keys, words, c, rfl, _⟩ := h
    rfl
  · obtain ⟨b, ka, wa, keys, words, c, rfl, hb, hc, hp, k⟩ := h
    refine ⟨_, (pss_cons (ps_if (pt_cmpR op_eq (pcall G_law_take hr T.g_law_take (pa_cons (pv 0) (pa_cons pe_int pa_nil))) pe_int (nomark _)) (pss_one (ps_ret (pe_lst (pa_cons pe_str pa_nil)))) pss_nil)
    (pss_cons (ps_set (i := 3) sc_law_test.nd rfl (Or.inl rfl) (pe_ix ix_list (pv 1) (pcall G_law_take hr T.g_law_take (pa_cons (pv 0) (pa_cons (pe_callB call_lenN rfl T.z_len (by decide +kernel) (pa_cons (pv 1) pa_nil)) pa_nil))) (fun _ _ => rfl)))
    (pss_one (ps_ret (pe_lst (pa_cons (pv 3) (pa_cons pe_str (pa_cons (pe_ifExp (pt_cmpR op_eq (pcall G_law_take hr T.g_law_take (pa_cons (pv 0) (pa_cons pe_int pa_nil))) pe_int (nomark _)) pe_str (pe_ix ix_list (pv 2) (pcall G_law_take hr T.g_law_take (pa_cons (pv 0) (pa_cons (pe_callB call_lenN rfl T.z_len (by decide +kernel) (pa_cons (pv 2) pa_nil)) pa_nil))) (fun _ _ => rfl))) pa_nil)))))))), ?_⟩
    walk_at "v"
    refine ⟨b, 7, c, rfl, by decide, by decide, hb, by omega, fun n H1 hn hb1 e1 => ?_⟩
    have p1 := hp.exx hb e1
    walk_at "v"
    have fin : ∀ {Hx : Hp} {p : Addr} {ts : Toks} {d : Nat}, Hx p = none → BoxAt Hx b d → d ≤ c + 4 → Exx [b] H Hx → GrP 0 ts → ts.length ≤ 3 → Q (.ref p) (upd Hx p (.lst (ts.map vS))) := by
      intro Hx p ts d hp0 hbx hd ex hg hl
      exact k p ts _ (box_none hbx ex hp0) upd_same ((hbx.ex (Ex.mut (Ex.refl _) hp0)).mono hd) (ex.trans (Exx.of (Ex.mut (Ex.refl _) hp0))) hg hl
    have kl := hp.kn
    have wl := hp.wn
    by_cases hn0 : n = 0
    · subst hn0
      rw [show decide (V.int ((0 : Nat) : Int) = V.int 0) = true from rfl]
      walk_at "v"
      intro p hp0
      walk_at "v"
      exact fin (ts := [pALL]) hp0 hb1 (by omega) e1 (GrP.one (n := 0) (m := fun _ => true) (.inl ⟨rfl, rfl⟩)) (by simp)
    · rw [show decide (V.int (n : Int) = V.int 0) = false from decide_eq_false fun z => hn0 (by injection z with z; omega)]
      have hk1 := p1.k
      unfold LstAt at hk1
      walk_at "v"
      rw [List.length_map]
      refine ⟨b, keys.length, c + 1, rfl, by omega, by omega, hb1, by omega, fun i H2 hi hb2 e2 => ?_⟩
      have p2 := p1.exx hb1 e2
      refine r_ixL (SqL.of p2.k) (at_lt hi) ?_
      walk_at "v"
      refine ⟨b, 4, c + 1 + 1, rfl, by omega, by omega, hb2, by omega, fun j H3 hj hb3 e3 => ?_⟩
      have p3 := p2.exx hb2 e3
      walk_at "v"
      have kn : isName (S keys[i]) = true := hp.ks _ (List.getElem_mem _)
      by_cases hj0 : j = 0
      · subst hj0
        rw [show decide (V.int ((0 : Nat) : Int) = V.int 0) = true from rfl]
        walk_at "v"
        intro p hp0
        walk_at "v"
        exact fin (ts := [keys[i], pEQ, pST]) hp0 hb3 (by omega) ((e1.trans e2).trans e3) (GrP.one (n := 0) (m := fun s => (wordOf s keys[i]).isSome) (.inr (.inl ⟨_, rfl, kn, rfl⟩))) (by simp)
      · rw [show decide (V.int (j : Int) = V.int 0) = false from decide_eq_false fun z => hj0 (by injection z with z; omega)]
        have hw3 := p3.w
        unfold LstAt at hw3
        walk_at "v"
        rw [List.length_map]
        refine ⟨b, words.length, c + 1 + 1 + 1, rfl, by omega, by omega, hb3, by omega, fun l H4 hl hb4 e4 => ?_⟩
        have p4 := p3.exx hb3 e4
        refine r_ixL (SqL.of p4.w) (at_lt hl) ?_
        walk_at "v"
        intro p hp0
        walk_at "v"
        exact fin (ts := [keys[i], pEQ, words[l]]) hp0 hb4 (by omega) (((e1.trans e2).trans e3).trans e4) (GrP.one (n := 0) (m := fun s => decide (wordOf s keys[i] = some words[l])) (.inr (.inr ⟨_, _, rfl, kn, hp.ws _ (List.getElem_mem _), rfl⟩))) (by simp)
def spWritten (d : Nat) : Sp := fun vs H Q _ => ∃ (b ka wa : Addr) (keys words : Toks) (c : Nat), vs = [.ref b, .int (d : Nat), .ref ka, .ref wa] ∧ BoxAt H b c ∧ c + Bw d ≤ 1000000000 ∧ PoolAt H ka wa keys words ∧
  ∀ p ts H', H p = none → LstAt H' p ts → BoxAt H' b (c + Bw d) → Exx [b] H H' → GrP d ts → ts.length ≤ Lw d → Q (.ref p) H'
def spWr : Nat → Sp
  | 0 => fun _ _ _ _ => False
  | d + 1 => spWritten d
theorem sc_law_written : FnScope ["_law_box_here", "_law_deep", "_law_keys", "_law_words", "_law_way", "_law_sign", "_law_found", "_law_turn"] ["_law_box_here", "_law_deep", "_law_keys", "_law_words"] (defScope s_law_written) := ⟨rfl, rfl, rfl, by decide +kernel, rfl, by decide +kernel, by decide +kernel⟩
theorem law_written_step (T : Txt K mg) {d k : Nat} (hd : d ≤ 2) (hk : 2 ≤ k) (G_law_written : GoodP P w K mg base "_law_written" k ["_law_box_here", "_law_deep", "_law_keys", "_law_words"] (spWr d)) : GoodP P w K mg base "_law_written" (k + 1) ["_law_box_here", "_law_deep", "_law_keys", "_law_words"] (spWr (d + 1)) := by
  have G_law_take := ok_law_take (P := P) (w := w) (base := base) T
  have G_law_test := ok_law_test (P := P) (w := w) (base := base) T
  obtain ⟨fd, F⟩ := T.f_law_written
  refine good_of F sc_law_written (fun vs H Q E h => ?_) (fun _ _ _ _ _ _ us hl => match us, hl with | [_, _, _, _], _ => rfl) (fun cdv A outer s H vs Q E hr h => ?_)
  · obtain ⟨b, ka, wa, keys, words, c, rfl, _⟩ := h
    rfl
  · obtain ⟨b, ka, wa, keys, words, c, rfl, hb, hc, hp, k⟩ := h
    refine ⟨_, (pss_cons (ps_set (i := 4) sc_law_written.nd rfl (Or.inl rfl) (pe_ifExp (pt_cmpR op_gt (pv 1) pe_int (nomark _)) (pcall G_law_take hr T.g_law_take (pa_cons (pv 0) (pa_cons pe_int pa_nil))) pe_int))
    (pss_cons (ps_if (PW.pt (pw_or (pt_cmpR op_lt (pv 4) pe_int (nomark _)) (pw_or1 (pt_cmpR op_eq (pv 1) pe_int (nomark _))))) (pss_one (ps_ret (pcall G_law_test hr T.g_law_test (pa_cons (pv 0) (pa_cons (pv 2) (pa_cons (pv 3) pa_nil)))))) pss_nil)
    (pss_cons (ps_if (pt_cmpR op_eq (pv 4) pe_int (nomark _)) (pss_one (ps_ret (pe_op op_cat (pe_lst (pa_cons pe_str pa_nil)) (pcall G_law_written hr T.g_law_written (pa_cons (pv 0) (pa_cons (pe_op op_sub (pv 1) pe_int) (pa_cons (pv 2) (pa_cons (pv 3) pa_nil)))))))) pss_nil)
    (pss_cons (ps_if (pt_cmpR op_eq (pv 4) pe_int (nomark _)) (pss_one (ps_ret (pe_op op_cat (pe_op op_cat (pe_lst (pa_cons pe_str pa_nil)) (pcall G_law_written hr T.g_law_written (pa_cons (pv 0) (pa_cons (pe_op op_sub (pv 1) pe_int) (pa_cons (pv 2) (pa_cons (pv 3) pa_nil)))))) (pe_lst (pa_cons pe_str pa_nil))))) pss_nil)
    (pss_cons (ps_par (i := 5) (j := 6) rfl sc_law_written.nd rfl rfl (by decide) rfl rfl (pa_cons (pe_ix ix_list (pe_lst (pa_cons pe_str (pa_cons pe_str pa_nil))) (pcall G_law_take hr T.g_law_take (pa_cons (pv 0) (pa_cons pe_int pa_nil))) (fun _ _ => rfl)) (pa_cons (pcall G_law_written hr T.g_law_written (pa_cons (pv 0) (pa_cons (pe_op op_sub (pv 1) pe_int) (pa_cons (pv 2) (pa_cons (pv 3) pa_nil))))) pa_nil)) rfl)
    (pss_cons (ps_for PassesOwn.never rfl (pi_range1 rfl T.z_range (pa_cons (pe_op op_add pe_int (pcall G_law_take hr T.g_law_take (pa_cons (pv 0) (pa_cons pe_int pa_nil)))) pa_nil)) (pg_name (i := 7) sc_law_written.nd rfl (Or.inl rfl))
    (pss_one (ps_set (i := 6) sc_law_written.nd rfl (Or.inl rfl) (pe_op op_cat (pe_op op_cat (pv 6) (pe_lst (pa_cons (pv 5) pa_nil))) (pcall G_law_written hr T.g_law_written (pa_cons (pv 0) (pa_cons (pe_op op_sub (pv 1) pe_int) (pa_cons (pv 2) (pa_cons (pv 3) pa_nil)))))))))
    (pss_one (ps_ret (pv 6))))))))), ?_⟩
    have tst : ∀ {σ : L2.St} {Q2 : VK} {H1 : Hp} {c1 : Nat}, BoxAt H1 b c1 → c1 + 4 ≤ c + Bw d → Exx [b] H H1 → (∀ v H', Q v H' → Q2 v H') → spLTest [.ref b, .ref ka, .ref wa] H1 Q2 E0 := by
      intro σ Q2 H1 c1 hb1 hc1 e1 hq
      refine ⟨b, ka, wa, keys, words, c1, rfl, hb1, by omega, hp.exx hb e1, fun p ts H' hp0 hl hb2 e2 hg hln => hq _ _ (k p ts H' (box_none hb1 e1 hp0) hl (hb2.mono hc1) (e1.trans e2) (hg.mono (Nat.zero_le _)) (Nat.le_trans hln ?_))⟩
      clear k hq
      cases d with
      | zero => exact Nat.le_refl _
      | succ d => unfold Lw; have : 3 ≤ Lw d := by { cases d with | zero => exact Nat.le_refl _ | succ d => unfold Lw; have : 1 ≤ Lw d := by { cases d <;> simp [Lw] }; omega }; omega
    cases d with
    | zero =>
      walk_at "v"
      rw [show decide ((0 : Int) < ((0 : Nat) : Int)) = false from rfl]
      walk_at "v"
      rw [show decide ((0 : Int) < 1) = true from rfl]
      walk_at "v"
      exact tst (σ := []) hb (Nat.le_refl _) (Exx.refl _ _) fun _ _ q => q
    | succ e =>
      walk_at "v"
      rw [show decide ((0 : Int) < ((e + 1 : Nat) : Int)) = true from decide_eq_true (by omega)]
      walk_at "v"
      have hB : Bw (e + 1) = 3 + 3 * Bw e := rfl
      have hL : Lw (e + 1) = 3 * Lw e + 2 := rfl
      have hB4 : 4 ≤ Bw e := by
        cases e with
        | zero => exact Nat.le_refl _
        | succ e => unfold Bw; have : 1 ≤ Bw e := by { cases e <;> simp [Bw] <;> omega }; omega
      refine ⟨b, 6, c, rfl, by decide, by decide, hb, by omega, fun n H1 hn hb1 e1 => ?_⟩
      have p1 := hp.exx hb e1
      have hLb : Lw e ≤ 11 := by
        have : e = 0 ∨ e = 1 := by omega
        rcases this with rfl | rfl <;> decide
      have rcl : ∀ {Q2 : VK} {H1 : Hp} {c1 : Nat}, BoxAt H1 b c1 → c1 + Bw e ≤ 1000000000 → PoolAt H1 ka wa keys words →
          (∀ p ts H', H1 p = none → LstAt H' p ts → BoxAt H' b (c1 + Bw e) → Exx [b] H1 H' → GrP e ts → ts.length ≤ Lw e → Q2 (.ref p) H') → spWr (e + 1) [.ref b, .int (((e + 1 : Nat) : Int) - 1), .ref ka, .ref wa] H1 Q2 E0 := by
        intro Q2 H1 c1 hb1 hc1 hp1 q
        exact ⟨b, ka, wa, keys, words, c1, by rw [show ((e + 1 : Nat) : Int) - 1 = (e : Nat) by omega], hb1, hc1, hp1, q⟩
      have fin : ∀ {Hx : Hp} {p : Addr} {ts : Toks} {c1 : Nat}, Hx p = none → BoxAt Hx b c1 → c1 ≤ c + Bw (e + 1) → Exx [b] H Hx → GrP (e + 1) ts → ts.length ≤ Lw (e + 1) → Q (.ref p) (upd Hx p (.lst (ts.map vS))) := by
        intro Hx p ts c1 hp0 hbx hd ex hg hl
        exact k p ts _ (box_none hbx ex hp0) upd_same ((hbx.ex (Ex.mut (Ex.refl _) hp0)).mono hd) (ex.trans (Exx.of (Ex.mut (Ex.refl _) hp0))) hg hl
      walk_at "v"
      by_cases n0 : n = 0
      · subst n0
        rw [show decide (((0 : Nat) : Int) < 1) = true from rfl]
        walk_at "v"
        exact tst (σ := []) hb1 (by omega) e1 fun _ _ q => q
      rw [show decide ((n : Int) < 1) = false from decide_eq_false (by omega)]
      walk_at "v"
      rw [show decide (V.int ((e + 1 : Nat) : Int) = V.int 0) = false from decide_eq_false fun z => (by injection z with z; omega)]
      walk_at "v"
      by_cases n1 : n = 1
      · subst n1
        rw [show decide (V.int ((1 : Nat) : Int) = V.int 1) = true from rfl]
        walk_at "v"
        intro q1 hq1
        have x1 := Ex.mut (Ex.refl H1) hq1 (o := .lst [V.str "!"])
        have l1 : LstAt (upd H1 q1 (.lst [V.str "!"])) q1 [pNOT] := upd_same
        walk_at "v"
        refine rcl (hb1.ex x1) (by omega) (p1.ex x1) fun p ts H2 hp0 hl hb2 e2 hg hln => ?_
        have l2 := l1.exx (hb1.ex x1) e2
        refine r_cat l2 hl (by rw [List.length_map, List.length_map]; simp only [List.length_singleton]; omega) fun q3 hq3 => ?_
        rw [← List.map_append]
        exact fin hq3 hb2 (by omega) ((e1.trans (Exx.of x1)).trans e2) hg.not (by simp; omega)
      rw [show decide (V.int (n : Int) = V.int 1) = false from decide_eq_false fun z => (by injection z with z; omega)]
      walk_at "v"
      by_cases n2 : n = 2
      · subst n2
        rw [show decide (V.int ((2 : Nat) : Int) = V.int 2) = true from rfl]
        walk_at "v"
        intro q1 hq1
        have x1 := Ex.mut (Ex.refl H1) hq1 (o := .lst [V.str "("])
        have l1 : LstAt (upd H1 q1 (.lst [V.str "("])) q1 [pL] := upd_same
        walk_at "v"
        refine rcl (hb1.ex x1) (by omega) (p1.ex x1) fun p ts H2 hp0 hl hb2 e2 hg hln => ?_
        have l2 := l1.exx (hb1.ex x1) e2
        refine r_cat l2 hl (by rw [List.length_map, List.length_map]; simp only [List.length_singleton]; omega) fun q3 hq3 => ?_
        rw [← List.map_append]
        have x3 := Ex.mut (Ex.refl H2) hq3 (o := .lst (([pL] ++ ts).map vS))
        have l3 : LstAt (upd H2 q3 (.lst (([pL] ++ ts).map vS))) q3 ([pL] ++ ts) := upd_same
        walk_at "v"
        intro q4 hq4
        have x4 := Ex.mut (Ex.refl (upd H2 q3 (.lst (([pL] ++ ts).map vS)))) hq4 (o := .lst [V.str ")"])
        walk_at "v"
        intro q5 hq5
        have q := fin (ts := ([pL] ++ ts) ++ [pR]) hq5 ((hb2.ex x3).ex x4) (by omega) ((((e1.trans (Exx.of x1)).trans e2).trans (Exx.of x3)).trans (Exx.of x4)) (by simpa using hg.par) (by simp; omega)
        rw [show (([pL] ++ ts) ++ [pR] : Toks).map vS = ([pL] ++ ts).map vS ++ [V.str ")"] from by rw [List.map_append (l₁ := [pL] ++ ts)]; rfl] at q
        exact q
      rw [show decide (V.int (n : Int) = V.int 2) = false from decide_eq_false fun z => (by injection z with z; omega)]
      walk_at "v"
      intro q1 hq1
      have x1 := Ex.mut (Ex.refl H1) hq1 (o := .lst [V.str "&", V.str "|"])
      have l1 : LstAt (upd H1 q1 (.lst [V.str "&", V.str "|"])) q1 [pAND, pOR] := upd_same
      obtain ⟨H2, hH2⟩ : ∃ H2, H2 = upd H1 q1 (.lst [V.str "&", V.str "|"]) := ⟨_, rfl⟩
      rw [← hH2] at x1 l1 ⊢
      walk_at "v"
      refine ⟨b, 2, c + 1, rfl, by decide, by decide, hb1.ex x1, by omega, fun j H3 hj hb3 e3 => ?_⟩
      have l3 := l1.exx (hb1.ex x1) e3
      obtain ⟨sg, hsg, hat⟩ : ∃ sg, (sg = pAND ∨ sg = pOR) ∧ atI (([pAND, pOR] : Toks).map vS) (j : Nat) = some (vS sg) := by
        have : j = 0 ∨ j = 1 := by omega
        rcases this with rfl | rfl
        · exact ⟨pAND, .inl rfl, rfl⟩
        · exact ⟨pOR, .inr rfl, rfl⟩
      refine r_ixL (SqL.of l3) hat ?_
      walk_at "v"
      have e13 := (e1.trans (Exx.of x1)).trans e3
      refine rcl hb3 (by omega) (hp.exx hb e13) fun p0 ts0 H4 hp0 hl0 hb4 e4 hg0 hln0 => ?_
      walk_at "v"
      refine ⟨b, 2, c + 1 + 1 + Bw e, rfl, by decide, by decide, hb4, by omega, fun t H5 ht hb5 e5 => ?_⟩
      walk_at "v"
      have e45 := (e13.trans e4).trans e5
      refine for_it walk_range (fun i σ H' => ∃ o p ts, σ = [some (.ref b), some (.int (e + 1 : Nat)), some (.ref ka), some (.ref wa), some (.int (n : Nat)), some (vS sg), some (.ref p), o] ∧ H p = none ∧ LstAt H' p ts ∧ BoxAt H' b (c + 3 + Bw e + i * Bw e) ∧ Exx [b] H H' ∧ GrP e ts ∧ ts.length ≤ Lw e + i * (Lw e + 1))
        ⟨none, p0, ts0, rfl, box_none hb3 e13 hp0, hl0.exx hb4 e5, hb5.mono (by omega), e45, hg0, by omega⟩ (fun _ _ _ _ _ => trivial) ?_ ?_
      · rintro i x σ Ha Hb hi ⟨o, p, ts, rfl, hpn, hl, hb6, e6, hg, hln⟩ ⟨rfl, rfl⟩
        have hi2 : i = 0 ∨ i = 1 := by omega
        have hmul : i * Bw e ≤ Bw e := by
          rcases hi2 with rfl | rfl <;> omega
        have hmul2 : i * (Lw e + 1) ≤ Lw e + 1 := by
          rcases hi2 with rfl | rfl <;> omega
        walk_at "v"
        intro q1 hq1
        have x1 := Ex.mut (Ex.refl Hb) hq1 (o := .lst [vS sg])
        have l1 : LstAt (upd Hb q1 (.lst [vS sg])) q1 [sg] := upd_same
        have l0 := x1 _ _ hl
        walk_at "v"
        intro q3 hq3
        rw [← List.map_append]
        have x3 := Ex.mut (Ex.refl (upd Hb q1 (.lst [vS sg]))) hq3 (o := .lst ((ts ++ [sg]).map vS))
        have l3 : LstAt (upd (upd Hb q1 (.lst [vS sg])) q3 (.lst ((ts ++ [sg]).map vS))) q3 (ts ++ [sg]) := upd_same
        obtain ⟨H7, hH7⟩ : ∃ H7, H7 = upd (upd Hb q1 (.lst [vS sg])) q3 (.lst ((ts ++ [sg]).map vS)) := ⟨_, rfl⟩
        rw [← hH7] at x3 l3 ⊢
        have e67 := (e6.trans (Exx.of x1)).trans (Exx.of x3)
        have hb7 := (hb6.ex x1).ex x3
        walk_at "v"
        refine rcl hb7 (by omega) (hp.exx hb e67) fun p2 ts2 H8 hp2 hl2 hb8 e8 hg2 hln2 => ?_
        have l8 := l3.exx hb7 e8
        refine r_cat l8 hl2 (by rw [List.length_map, List.length_map, List.length_append]; simp only [List.length_singleton]; omega) fun q9 hq9 => ?_
        rw [← List.map_append]
        have x9 := Ex.mut (Ex.refl H8) hq9 (o := .lst (((ts ++ [sg]) ++ ts2).map vS))
        walk_at "v"
        have e89 := (e67.trans e8).trans (Exx.of (S := [b]) x9)
        have hm : (i + 1) * Bw e = i * Bw e + Bw e := by rw [Nat.succ_mul]
        have hm2 : (i + 1) * (Lw e + 1) = i * (Lw e + 1) + (Lw e + 1) := by rw [Nat.succ_mul]
        refine ⟨_, q9, (ts ++ [sg]) ++ ts2, rfl, box_none hb8 (e67.trans e8) hq9, upd_same, (hb8.ex x9).mono (by omega), e89, ?_, ?_⟩
        · rw [List.append_assoc]
          rcases hsg with rfl | rfl
          · exact hg.and hg2
          · exact hg.or hg2
        · rw [hm2, List.length_append, List.length_append, List.length_singleton]
          omega
      · rintro σ Ha ⟨o, p, ts, rfl, hpn, hl, hb6, e6, hg, hln⟩
        have ht2 : (1 + (t : Int)).toNat = 1 ∨ (1 + (t : Int)).toNat = 2 := by omega
        walk_at "v"
        refine k p ts Ha hpn hl (hb6.mono ?_) e6 hg.up (Nat.le_trans hln ?_)
        · rcases ht2 with h | h <;> rw [h] <;> omega
        · rcases ht2 with h | h <;> rw [h] <;> omega
theorem ok_law_written (T : Txt K mg) : ∀ d, d ≤ 3 → GoodP P w K mg base "_law_written" (d + 3) ["_law_box_here", "_law_deep", "_law_keys", "_law_words"] (spWr d) := by
  intro d
  induction d with
  | zero =>
    intro _
    obtain ⟨fd, F⟩ := T.f_law_written
    exact good_of F sc_law_written (fun vs H Q E h => absurd h id) (fun _ _ _ _ _ _ us hl => match us, hl with | [_, _, _, _], _ => rfl) (fun cdv A outer s H vs Q E hr h => absurd h id)
  | succ d ih =>
    intro h
    exact law_written_step T (by omega) (by omega) (ih (by omega))
end
end
set_option Elab.async false
set_option linter.all false
set_option maxRecDepth 100000
set_option maxHeartbeats 4000000
/-! Blanks: a text of one sign, so many times. -/
section
open PySem PySem.Spec PyProof.Rows L2
open Evl (Ex given)
def rBl : R2 := fun x y H Q => ∃ n : Nat, x = .str " " ∧ y = .int (n : Nat) ∧ n ≤ 100 ∧ Q (.str (S (List.replicate n 32))) H
theorem r_bl {H : Hp} {Q : VK} {n : Nat} (hn : n ≤ 100) (q : Q (.str (S (List.replicate n 32))) H) : rBl (.str " ") (.int (n : Nat)) H Q := ⟨n, rfl, rfl, hn, q⟩
theorem fold_bl : ∀ (n : Nat) (l : List Nat), (List.replicate n (#[32] : Array Nat)).foldl (· ++ ·) l.toArray = (l ++ List.replicate n 32).toArray
  | 0, l => by simp
  | n + 1, l => by
    rw [List.replicate_succ, List.foldl_cons]
    have : l.toArray ++ #[32] = (l ++ [32]).toArray := by simp
    rw [this, fold_bl n (l ++ [32])]
    simp [List.replicate_succ]
theorem op_bl {X : Cx} : OpR X (binaryOp .Mult) rBl := by
  intro pins s σ H x y v u Q I rx ry h
  obtain ⟨n, rfl, rfl, hn, q⟩ := h
  obtain ⟨t, rfl⟩ := rx
  obtain ⟨t', rfl⟩ := ry
  refine PySem.P.mul_str ?_ (fun _ _ => ?_) (fun _ _ => ?_) ?_
  · have h1 : ¬ ((n : Nat) : Int) < -(2 ^ 63 : Int) := by omega
    have h2 : ¬ ((n : Nat) : Int) ≥ 2 ^ 63 := by omega
    rw [decide_eq_false h1, decide_eq_false h2]
    rfl
  · rename_i h1 h2
    have hl : ((" " : Str).length : Int) = 1 := rfl
    rw [hl]
    have hn1 : (0 : Int) < (n : Nat) := by omega
    have : (1 : Int) ≤ (2 ^ 63 - 1) / ((n : Nat) : Int) := by
      rw [Int.le_ediv_iff_mul_le hn1]
      omega
    omega
  · have key : ∀ k : Fin 101, Builtin.Str.tooLong ((" " : Str).length * k.val) = false := by decide
    have := key ⟨n, by omega⟩
    rw [Int.toNat_natCast]
    exact this
  · by_cases h0 : n = 0
    · subst h0
      rw [if_pos (by decide)]
      exact ⟨by decide, .str (S []), H, I.tok _, ⟨_, rfl⟩, q⟩
    · rw [if_neg (by omega)]
      by_cases h1 : n = 1
      · subst h1
        rw [if_pos (by decide)]
        exact ⟨.str (S [32]), H, I, ⟨_, rfl⟩, q⟩
      · rw [if_neg (by
          rw [Bool.or_eq_true, not_or]
          refine ⟨fun z => h1 ?_, by decide⟩
          have := of_decide_eq_true z
          omega)]
        have e : (⟨(List.replicate ((n : Nat) : Int).toNat (" " : Str).cps).foldl (· ++ ·) #[]⟩ : Str) = S (List.replicate n 32) := by
          have := fold_bl n []
          rw [List.nil_append] at this
          rw [Int.toNat_natCast]
          exact congrArg Str.mk this
        rw [e]
        exact ⟨by rw [S_len, List.length_replicate]; exact Nat.le_trans hn (by decide), .str (S (List.replicate n 32)), H, I.tok _, ⟨_, rfl⟩, q⟩
end
set_option Elab.async false
set_option linter.all false
set_option maxRecDepth 100000
set_option maxHeartbeats 4000000
/-! The law's joined text has the tokens that were joined. -/
section
open PySem PySem.Spec PyProof.Rows L2
open Evl (Ex given)

/-! ### tokens that may stand side by side -/
abbrev wordy (t : List Nat) : Prop := isFile (S t) = true
def signy (t : List Nat) : Prop := ∃ c, t = [c] ∧ c ∉ tl SIGNS ∧ c ≠ 32
def Jn : Toks → Prop
  | [] => True
  | [_] => True
  | a :: b :: r => (¬ wordy a ∨ ¬ wordy b) ∧ Jn (b :: r)
theorem Jn.mid {s : List Nat} (hs : ¬ wordy s) : ∀ {a b : Toks}, Jn a → Jn b → Jn (a ++ s :: b)
  | [], [], _, _ => trivial
  | [], y :: r, _, hb => ⟨.inl hs, hb⟩
  | [x], b, _, hb => ⟨.inr hs, Jn.mid (a := []) hs trivial hb⟩
  | x :: y :: r, b, ha, hb => ⟨ha.1, Jn.mid (a := y :: r) hs ha.2 hb⟩
theorem Jn.at {p t : List Nat} : ∀ {d r : Toks}, Jn (d ++ p :: t :: r) → ¬ wordy p ∨ ¬ wordy t
  | [], _, h => h.1
  | [x], _, h => h.2.1
  | x :: y :: d, r, h => Jn.at (d := y :: d) h.2
def JOk (ts : Toks) : Prop := (∀ t ∈ ts, wordy t ∨ signy t) ∧ Jn ts
theorem signy_not {t : List Nat} (h : signy t) : ¬ wordy t := fun z => by
  obtain ⟨c, rfl, hc, _⟩ := h
  exact hc (isFile_mem z c (by simp))
theorem JOk.mid {a b : Toks} {s : List Nat} (ha : JOk a) (hb : JOk b) (hs : signy s) : JOk (a ++ s :: b) := by
  refine ⟨fun t ht => ?_, ha.2.mid (signy_not hs) hb.2⟩
  rcases List.mem_append.mp ht with ht | ht
  · exact ha.1 t ht
  · rcases List.mem_cons.mp ht with rfl | ht
    · exact .inr hs
    · exact hb.1 t ht
theorem JOk.nil : JOk [] := ⟨fun _ h => (by cases h), trivial⟩
theorem JOk.one {t : List Nat} (h : wordy t) : JOk [t] := ⟨fun x hx => by rw [List.mem_singleton] at hx; rw [hx]; exact .inl h, trivial⟩
theorem JOk.inter {s : List Nat} (hs : signy s) : ∀ {l : List Toks}, (∀ x ∈ l, JOk x) → JOk (inter s l)
  | [], _ => JOk.nil
  | [a], h => h a (by simp)
  | a :: b :: r, h => (h a (by simp)).mid (JOk.inter hs fun x hx => h x (by simp [hx])) hs
theorem sgy {c : Nat} (h : c ∉ tl SIGNS ∧ c ≠ 32) : signy [c] := ⟨c, rfl, h⟩
theorem gram_jok : ∀ n, (∀ ts m, OneP n ts m → JOk ts) ∧ (∀ ts m, AnyP n ts m → JOk ts) := by
  have up : ∀ n, (∀ ts m, OneP n ts m → JOk ts) → ∀ ts m, AnyP n ts m → JOk ts := by
    rintro n h ts m ⟨xs, h1, h2, rfl, _⟩
    refine JOk.inter (sgy (by decide +kernel)) fun x hx => ?_
    obtain ⟨y, hy, rfl⟩ := List.mem_map.mp hx
    obtain ⟨ys, _, g2, g3, _⟩ := h2 y hy
    rw [g3]
    refine JOk.inter (sgy (by decide +kernel)) fun x hx => ?_
    obtain ⟨z, hz, rfl⟩ := List.mem_map.mp hx
    exact h _ _ (g2 z hz)
  have test : ∀ ts m, TestP ts m → JOk ts := by
    rintro ts m (⟨rfl, _⟩ | ⟨k, rfl, hk, _⟩ | ⟨k, x, rfl, hk, hx, _⟩)
    · exact JOk.one (by decide +kernel)
    · exact (JOk.one (isName_file hk)).mid (b := [pST]) (JOk.nil.mid (a := []) (b := []) JOk.nil (sgy (by decide +kernel))) (sgy (by decide +kernel))
    · exact (JOk.one (isName_file hk)).mid (JOk.one (isWord_file hx)) (sgy (by decide +kernel))
  intro n
  induction n with
  | zero => exact ⟨test, up 0 test⟩
  | succ n ih =>
    have h : ∀ ts m, OneP (n + 1) ts m → JOk ts := by
      rintro ts m (h | ⟨u, m', rfl, hu, e⟩ | ⟨u, rfl, hu⟩)
      · exact test _ _ h
      · exact JOk.nil.mid (a := []) (ih.1 _ _ hu) (sgy (by decide +kernel))
      · exact JOk.nil.mid (a := []) ((ih.2 _ _ hu).mid (b := []) JOk.nil (sgy (by decide +kernel))) (sgy (by decide +kernel))
    exact ⟨h, up (n + 1) h⟩
/-! ### the fold -/
def flush (st : Toks × List Nat) : Toks := st.1 ++ (if st.2 = [] then [] else [st.2])
theorem t_blanks (st : Toks × List Nat) : ∀ n, (List.replicate (n + 1) 32).foldl tstep st = (flush st, []) := by
  have h1 : ∀ st : Toks × List Nat, tstep st 32 = (flush st, []) := fun st => by
    unfold tstep
    rw [if_neg (by decide +kernel), if_pos rfl, List.append_nil]
    rfl
  intro n
  induction n generalizing st with
  | zero => exact h1 st
  | succ n ih =>
    rw [List.replicate_succ, List.foldl_cons, h1, ih]
    simp [flush]
theorem t_sign (st : Toks × List Nat) {c : Nat} (h : c ∉ tl SIGNS ∧ c ≠ 32) : tstep st c = (flush st ++ [[c]], []) := by
  unfold tstep
  rw [if_neg h.1, if_neg h.2]
  rfl
theorem t_word : ∀ (l : List Nat) (st : Toks × List Nat), (∀ c ∈ l, c ∈ tl SIGNS) → l.foldl tstep st = (st.1, st.2 ++ l)
  | [], st, _ => by simp
  | c :: l, st, h => by
    rw [List.foldl_cons, t_word l _ fun x hx => h x (by simp [hx])]
    unfold tstep
    rw [if_pos (h c (by simp))]
    simp
def StOk (done : Toks) (st : Toks × List Nat) : Prop := flush st = done ∧ (st.2 ≠ [] → ∃ d t, done = d ++ [t] ∧ wordy t)
theorem StOk.blanks {done : Toks} {st : Toks × List Nat} (h : StOk done st) (n : Nat) : StOk done ((List.replicate n 32).foldl tstep st) ∧ (n ≠ 0 → ((List.replicate n 32).foldl tstep st).2 = []) := by
  cases n with
  | zero => exact ⟨h, fun z => absurd rfl z⟩
  | succ n =>
    rw [t_blanks, h.1]
    exact ⟨⟨by simp [flush], fun z => absurd rfl z⟩, fun _ => rfl⟩
theorem StOk.part {ts : Toks} (hj : JOk ts) {i : Nat} {t : List Nat} (ht : ts[i]? = some t) {st : Toks × List Nat} (h : StOk (ts.take i) st) : StOk (ts.take (i + 1)) (t.foldl tstep st) := by
  obtain ⟨hi, et⟩ := List.getElem?_eq_some_iff.mp ht
  rw [← List.take_append_getElem hi, et]
  rcases hj.1 t (List.mem_of_getElem? ht) with hw | ⟨c, rfl, hc⟩
  · have hst : st.2 = [] := Classical.byContradiction fun z => by
      obtain ⟨d, p, hd, hp⟩ := h.2 z
      have e : ts = d ++ p :: t :: ts.drop (i + 1) := by
        have := (List.take_append_drop i ts).symm
        rw [hd, List.drop_eq_getElem_cons hi, et] at this
        exact this.trans (by simp)
      have h2 := hj.2
      rw [e] at h2
      rcases h2.at with q | q
      · exact q hp
      · exact q hw
    rw [t_word t st (isFile_mem hw), hst, List.nil_append]
    have hne : t ≠ [] := fun z => by
      have := isFile_len hw
      rw [z] at this
      exact absurd this.1 (by decide)
    refine ⟨?_, fun _ => ⟨_, t, rfl, hw⟩⟩
    unfold flush
    have h1 := h.1
    unfold flush at h1
    rw [hst, if_pos rfl, List.append_nil] at h1
    rw [if_neg hne]
    show st.1 ++ [t] = _
    rw [h1]
  · show StOk _ (tstep st c)
    rw [t_sign st hc, h.1]
    exact ⟨by simp [flush], fun z => absurd rfl z⟩
theorem StOk.toks {done : Toks} {l : List Nat} (h : StOk done (l.foldl tstep ([], []))) : toks l = done := by
  unfold Eg.toks
  rw [List.foldl_append]
  show ((List.replicate (0 + 1) 32).foldl tstep (l.foldl tstep ([], []))).1 = done
  rw [t_blanks]
  exact h.1
section
variable {P : Program} {w : World} {K : PySem.W.Frag} {mg : Str → Option Value} {base : Heap}
def spJoined : Sp := fun vs H Q _ => ∃ (b a : Addr) (ts : Toks) (c : Nat), vs = [.ref b, .ref a] ∧ BoxAt H b c ∧ c + 100 ≤ 1000000000 ∧ LstAt H a ts ∧ ts.length ≤ 40 ∧ (∀ t ∈ ts, t.length ≤ 24) ∧ JOk ts ∧
  ∀ l H', toks l = ts → l.length ≤ 2000 → BoxAt H' b (c + 100) → Exx [b] H H' → Q (vS l) H'
theorem sc_law_joined : FnScope ["_law_box_here", "_law_parts_here", "_law_found", "_law_wide", "_law_part"] ["_law_box_here", "_law_parts_here"] (defScope s_law_joined) := ⟨rfl, rfl, rfl, by decide +kernel, rfl, by decide +kernel, by decide +kernel⟩
theorem ok_law_joined (T : Txt K mg) : GoodP P w K mg base "_law_joined" 2 ["_law_box_here", "_law_parts_here"] spJoined := by
  have G_law_take := ok_law_take (P := P) (w := w) (base := base) T
  obtain ⟨fd, F⟩ := T.f_law_joined
  refine good_of F sc_law_joined (fun vs H Q E h => ?_) (fun _ _ _ _ _ _ us hl => match us, hl with | [_, _], _ => rfl) (fun cdv A outer s H vs Q E hr h => ?_)
  · obtain ⟨b, a, ts, c, rfl, _⟩ := h
    rfl
  · obtain ⟨b, a, ts, c, rfl, hb, hc, ha, hl, hts, hj, k⟩ := h
    refine ⟨_, (pss_cons (ps_par (i := 2) (j := 3) rfl sc_law_joined.nd rfl rfl (by decide) rfl rfl (pa_cons pe_str (pa_cons (pe_ix ix_list (pe_lst (pa_cons pe_int (pa_cons pe_int (pa_cons pe_int pa_nil)))) (pcall G_law_take hr T.g_law_take (pa_cons (pv 0) (pa_cons pe_int pa_nil))) (fun _ _ => rfl)) pa_nil)) rfl)
    (pss_cons (ps_for PassesOwn.never rfl (pi_list (pv 1)) (pg_name (i := 4) sc_law_joined.nd rfl (Or.inl rfl))
    (pss_one (ps_set (i := 2) sc_law_joined.nd rfl (Or.inl rfl) (pe_op op_addS (pe_op op_addS (pv 2) (pe_op op_bl pe_str (pe_ifExp (pt_cmpR op_eq (pv 3) pe_int (nomark _)) (pe_ix ix_list (pe_lst (pa_cons pe_int (pa_cons pe_int (pa_cons pe_int (pa_cons pe_int (pa_cons pe_int pa_nil)))))) (pcall G_law_take hr T.g_law_take (pa_cons (pv 0) (pa_cons pe_int pa_nil))) (fun _ _ => rfl)) (pv 3)))) (pv 4)))))
    (pss_one (ps_ret (pe_op op_addS (pv 2) (pe_op op_bl pe_str (pcall G_law_take hr T.g_law_take (pa_cons (pv 0) (pa_cons pe_int pa_nil))))))))), ?_⟩
    walk_at "v"
    intro p hp
    have x0 := Ex.mut (Ex.refl H) hp (o := .lst [V.int 0, V.int 1, V.int 4])
    have l0 : upd H p (.lst [V.int 0, V.int 1, V.int 4]) p = some (.lst [V.int 0, V.int 1, V.int 4]) := upd_same
    have pb : p ≠ b := fun z => by
      obtain ⟨g, big, m, n, h1, _⟩ := hb
      rw [← z, hp] at h1
      cases h1
    obtain ⟨H0, hH0⟩ : ∃ H0, H0 = upd H p (.lst [V.int 0, V.int 1, V.int 4]) := ⟨_, rfl⟩
    rw [← hH0] at x0 l0 ⊢
    walk_at "v"
    refine ⟨b, 3, c, rfl, by decide, by decide, hb.ex x0, by omega, fun n H1 hn hb1 e1 => ?_⟩
    have l1 := e1 _ _ l0 (by simpa using pb)
    obtain ⟨wd, hwd, hat⟩ : ∃ wd : Nat, wd ≤ 4 ∧ atI [V.int 0, V.int 1, V.int 4] (n : Nat) = some (.int (wd : Nat)) := by
      have : n = 0 ∨ n = 1 ∨ n = 2 := by omega
      rcases this with rfl | rfl | rfl
      · exact ⟨0, by decide, rfl⟩
      · exact ⟨1, by decide, rfl⟩
      · exact ⟨4, by decide, rfl⟩
    refine r_ixL (SqL.of l1) hat ?_
    have e01 := (Exx.of (S := [b]) x0).trans e1
    have ha1 := ha.exx hb e01
    have ha1' : H1 a = some (.lst (ts.map vS)) := ha1
    walk_at "v"
    refine for_it (walk_list (xs := ts.map vS)) (fun i σ H' => ∃ o l, σ = [some (.ref b), some (.ref a), some (vS l), some (.int (wd : Nat)), o] ∧ Exx [b] H H' ∧ LstAt H' a ts ∧ BoxAt H' b (c + 1 + i) ∧ l.length ≤ 30 * i ∧ StOk (ts.take i) (l.foldl tstep ([], [])))
      ⟨none, [], rfl, e01, ha1, hb1, by simp, ⟨rfl, fun z => absurd rfl z⟩⟩ (fun i σ H' _ h => ?_) ?_ ?_
    · obtain ⟨_, _, _, _, h, _⟩ := h
      exact SqL.of h
    · rintro i x σ Ha Hb hi ⟨o, l, rfl, e2, ha2, hb2, hll, hst⟩ ⟨rfl, hx⟩
      obtain ⟨t, ht, rfl⟩ : ∃ t, ts[i]? = some t ∧ x = vS t := by
        rw [List.getElem?_map] at hx
        cases e : ts[i]? with
        | none =>
          rw [e] at hx
          cases hx
        | some t =>
          rw [e] at hx
          exact ⟨t, rfl, (Option.some.inj hx).symm⟩
      have htl := hts t (List.mem_of_getElem? ht)
      rw [List.length_map] at hi
      walk_at "v"
      refine ite2 ?t ?f
      case' t =>
        intro hk
        walk_at "v"
        intro q1 hq1
        have x1 := Ex.mut (Ex.refl Hb) hq1 (o := .lst [V.int 0, V.int 1, V.int 0, V.int 2, V.int 0])
        have l1 : upd Hb q1 (.lst [V.int 0, V.int 1, V.int 0, V.int 2, V.int 0]) q1 = some (.lst [V.int 0, V.int 1, V.int 0, V.int 2, V.int 0]) := upd_same
        have qb : q1 ≠ b := fun z => by
          obtain ⟨g, big, m, n, h1, _⟩ := hb2
          rw [← z, hq1] at h1
          cases h1
        obtain ⟨Hy, hHy⟩ : ∃ Hy, Hy = upd Hb q1 (.lst [V.int 0, V.int 1, V.int 0, V.int 2, V.int 0]) := ⟨_, rfl⟩
        rw [← hHy] at x1 l1 ⊢
        walk_at "v"
        refine ⟨b, 5, c + 1 + i, rfl, by decide, by decide, hb2.ex x1, by omega, fun n3 Hx hn3 hb3 e3 => ?_⟩
        have l3 := e3 _ _ l1 (by simpa using qb)
        obtain ⟨nb, hnb, hat3⟩ : ∃ nb : Nat, nb ≤ 4 ∧ atI [V.int 0, V.int 1, V.int 0, V.int 2, V.int 0] (n3 : Nat) = some (.int (nb : Nat)) := by
          have : n3 = 0 ∨ n3 = 1 ∨ n3 = 2 ∨ n3 = 3 ∨ n3 = 4 := by omega
          rcases this with rfl | rfl | rfl | rfl | rfl
          · exact ⟨0, by decide, rfl⟩
          · exact ⟨1, by decide, rfl⟩
          · exact ⟨0, by decide, rfl⟩
          · exact ⟨2, by decide, rfl⟩
          · exact ⟨0, by decide, rfl⟩
        have eX : Exx [b] H Hx := (e2.trans (Exx.of x1)).trans e3
        have aX : LstAt Hx a ts := LstAt.exx (x1 _ _ ha2) (hb2.ex x1) e3
        refine r_ixL (SqL.of l3) hat3 ?_
        clear l3 l1 qb hq1 x1 e3 hat3 hn3 hHy
      case' f =>
        intro hk
        walk_at "v"
        obtain ⟨nb, hnb, hwn⟩ : ∃ nb : Nat, nb ≤ 4 ∧ wd = nb := ⟨wd, hwd, rfl⟩
        obtain ⟨Hx, hHx⟩ : ∃ Hx, Hx = Hb := ⟨_, rfl⟩
        have eX : Exx [b] H Hx := by rw [hHx]; exact e2
        have aX : LstAt Hx a ts := by rw [hHx]; exact ha2
        have hb3 : BoxAt Hx b (c + 1 + i + 1) := by rw [hHx]; exact hb2.mono (by omega)
        rw [← hHx]
        rw [show V.int (wd : Int) = V.int (nb : Nat) from by rw [hwn]]
      all_goals
        refine r_bl (by omega) ?_
        refine r_addS (by rw [S_len, S_len, List.length_replicate]; omega) ?_
        walk_at "v"
        refine r_addS (by rw [str_len_app, S_len, S_len, S_len, List.length_replicate]; omega) ?_
        walk_at "v"
        refine ⟨some (vS t), (l ++ List.replicate nb 32) ++ t, ?_, eX, aX, hb3, ?_, ?_⟩
        · rw [show vS ((l ++ List.replicate nb 32) ++ t) = .str (S l ++ S (List.replicate nb 32) ++ S t) from by rw [S_app, S_app]]
          rfl
        · rw [List.length_append, List.length_append, List.length_replicate]
          omega
        · rw [List.foldl_append, List.foldl_append]
          exact StOk.part hj ht (hst.blanks nb).1
    · rintro σ Ha ⟨o, l, rfl, e2, ha2, hb2, hll, hst⟩
      rw [List.length_map] at hb2 hll hst
      rw [List.take_length] at hst
      walk_at "v"
      refine ⟨b, 2, c + 1 + ts.length, rfl, by decide, by decide, hb2, by omega, fun n2 H5 hn2 hb5 e5 => ?_⟩
      refine r_bl (by omega) ?_
      refine r_addS (by rw [S_len, S_len, List.length_replicate]; omega) ?_
      have q := k (l ++ List.replicate n2 32) H5 (StOk.toks (by rw [List.foldl_append]; exact (hst.blanks n2).1)) (by rw [List.length_append, List.length_replicate]; omega) (hb5.mono (by omega)) (e2.trans e5)
      rw [show vS (l ++ List.replicate n2 32) = .str (S l ++ S (List.replicate n2 32)) from by rw [S_app]] at q
      exact q
end
end
set_option Elab.async false
set_option linter.all false
set_option maxRecDepth 100000
set_option maxHeartbeats 4000000
/-! How the law shows a series. -/
section
open PySem PySem.Spec PyProof.Rows L2
open Evl (Ex given)

section
variable {P : Program} {w : World} {K : PySem.W.Frag} {mg : Str → Option Value} {base : Heap}
def spShown : Sp := fun vs H Q _ => ∃ (o : V) (s : Ser), vs = [o] ∧ LSer H o s ∧ ∀ H', Ex H H' → Q (vS (textL s)) H'
theorem sc_law_shown : FnScope ["_law_one", "_law_key"] ["_law_one"] (defScope s_law_shown) := ⟨rfl, rfl, rfl, by decide +kernel, rfl, by decide +kernel, by decide +kernel⟩
theorem ok_law_shown (T : Txt K mg) : GoodP P w K mg base "_law_shown" 1 ["_law_one"] spShown := by
  obtain ⟨fd, F⟩ := T.f_law_shown
  refine good_of F sc_law_shown (fun vs H Q E h => ?_) (fun _ _ _ _ _ _ us hl => match us, hl with | [_], _ => rfl) (fun cdv A outer s H vs Q E hr h => ?_)
  · obtain ⟨o, s, rfl, _⟩ := h
    rfl
  · obtain ⟨o, sr, rfl, ho, k⟩ := h
    obtain ⟨⟨ao, dd, kvs, rfl, hao, hdd, hperm⟩, ok⟩ := ho
    have hu := hu_of hr
    refine ⟨_, (pss_one (ps_ret (pe_op op_addS (pe_op op_addS (pe_op op_addS (pe_ix ix_list (pv 0) pe_int (fun _ _ => rfl)) pe_str) (pe_joinN pe_str (pe_lc (own := [("_law_key", 1)]) rfl sc_law_shown.nd (pi_list (pe_callB (call_sortedD rfl) rfl T.z_sorted (by decide +kernel) (pa_cons (pe_ix ix_list (pv 0) pe_int (fun _ _ => rfl)) pa_nil))) (blkOk_by (N := ["_law_one", "_law_key"]) (sc := defScope s_law_shown) (by decide +kernel)) (fun _ _ _ _ _ => (pg_name (i := 1) sc_law_shown.nd rfl (Or.inl rfl))) (fun _ _ _ _ _ => pts_nil) (fun _ _ _ _ _ => (pe_op op_addS (pe_op op_addS (pv 1) pe_str) (pe_dget hu (pe_ix (ix_listK (K := K) rfl) (pv 0) pe_int (fun _ _ => rfl)) (pv 1) (fun _ _ => rfl))))))) pe_str))), ?_⟩
    walk_at "v"
    have hnl := name_len ok.1
    refine r_addS (by rw [S_len]; have e : ("{" : Str).length = 1 := rfl; omega) ?_
    walk_at "v"
    have hnd := keys_nodup ok.2.2.2
    refine ⟨dd, dKv kvs, kvs.map fun kv => S kv.1, rfl, .inl hdd, by simp [dKv], ?_, fun ys p hys hsort hp => ?_⟩
    · rw [List.length_map, hperm.length_eq]
      have := ok.2.1
      omega
    have eys : ys = (sr.tags.map (·.1)).map S := by
      refine sorted_uniq hsort (hys.trans ?_) (List.pairwise_map.mpr ok.2.2.2)
      rw [List.map_map]
      exact hperm.map fun kv => S kv.1
    subst eys
    have x0 := Ex.mut (Ex.refl H) hp (o := .lst (((sr.tags.map (·.1)).map S).map V.str))
    have l0 : upd H p (.lst (((sr.tags.map (·.1)).map S).map V.str)) p = some (.lst (sr.tags.map fun kv => vS kv.1)) := by
      rw [upd_same, List.map_map, List.map_map]
      rfl
    obtain ⟨H0, hH0⟩ : ∃ H0, H0 = upd H p (.lst (((sr.tags.map (·.1)).map S).map V.str)) := ⟨_, rfl⟩
    rw [← hH0] at x0 l0 ⊢
    refine ⟨p, rfl, ⟨_, SqL.of l0⟩, fun D hD => ?_⟩
    refine lc_v (walk_list (xs := sr.tags.map fun kv => vS kv.1)) (fun _ => true) (fun i => (sr.tags.map fun kw => vS (itemL kw)).getD i .non) hD (by rw [List.length_map]; have := ok.2.1; omega) (fun H1 e1 => SqL.of (e1 _ _ l0)) ?_ (fun H1 e1 hd => ?_)
    · rintro N i x H1 H2 hi e1 ⟨rfl, hx⟩ _ hyes
      obtain ⟨kw, hkw, rfl⟩ : ∃ q, sr.tags[i]? = some q ∧ x = vS q.1 := by
        rw [List.getElem?_map] at hx
        cases e : sr.tags[i]? with
        | none =>
          rw [e] at hx
          cases hx
        | some q =>
          rw [e] at hx
          exact ⟨q, rfl, (Option.some.inj hx).symm⟩
      have ho := ok.2.2.1 kw (List.mem_of_getElem? hkw)
      have l1 := name_len ho.1
      have l2 := word_len ho.2.2
      have ha2 := (x0.trans e1) _ _ hao
      have hd2 := (x0.trans e1) _ _ hdd
      have n0 : ("=" : Str).length = 1 := rfl
      have hget : valV (dKv kvs) (.inr (S kw.1)) = some (vS kw.2) := by
        rw [dKv_get, lookup_perm hperm hnd, (lookup_memN hnd).mpr (List.mem_of_getElem? hkw)]
        rfl
      have e0 : (S kw.1 ++ ("=" : Str)) ++ S kw.2 = S (itemL kw) := TL.ext_tl (by show tl _ = tl _; simp [tl_app, tl_S, itemL, t_eq, t_nil])
      walk_at "v"
      refine ⟨rfl, yes_ ?_⟩
      walk_at "v"
      refine x_dget hd2 hget ?_
      refine r_addS (by rw [str_len_app, S_len, S_len]; omega) ?_
      rw [e0]
      have q := hyes rfl H2 (Ex.refl _)
      rw [List.getD_eq_getElem?_getD, List.getElem?_map, hkw] at q
      exact q
    · have hg : given (sr.tags.map fun kv => vS kv.1).length (fun _ => true) (fun i => (sr.tags.map fun kw => vS (itemL kw)).getD i .non) = (sr.tags.map fun kw => S (itemL kw)).map V.str := by
        rw [List.length_map, given_all sr.tags (fun kw => vS (itemL kw))]
        · rw [List.map_map]
          rfl
        · intro i hi
          rw [List.getD_eq_getElem?_getD, List.getElem?_map, List.getElem?_eq_getElem hi]
          rfl
      rw [hg] at hd
      have hsum : ∀ l : List (List Nat × List Nat), (∀ kw ∈ l, isName (S kw.1) = true ∧ kw.1 ≠ nNAME ∧ isWord (S kw.2) = true) → ((l.map fun kw => S (itemL kw)).map (·.length)).sum ≤ 50 * l.length := by
        intro l
        induction l with
        | nil => intro _; simp
        | cons x l ih =>
          intro h
          have h1 := ih fun kw hk => h kw (by simp [hk])
          have h2 := item_len (h x (by simp)).1 (h x (by simp)).2.2
          simp only [List.map_cons, List.sum_cons, S_len, List.length_cons] at h1 ⊢
          omega
      have hs1 := hsum _ ok.2.2.1
      have hs2 := ok.2.1
      have hs3 : (("," : Str)).length = 1 := rfl
      refine r_join (SqL.of hd) (by simp only [List.length_map]; rw [hs3]; omega) ?_
      have ej : Txt.join ("," : Str) (sr.tags.map fun kw => S (itemL kw)) = S (insL sr.tags) := TL.ext_tl (by
        rw [TL.join_eq, TL.tl_join, List.map_map]
        rfl)
      rw [ej]
      have l1 := name_len ok.1
      have l2 := insL_len ok.2.2.1
      have n1 : (("{" : Str)).length = 1 := rfl
      have n2 : (("}" : Str)).length = 1 := rfl
      walk_at "v"
      have e3 : ((S sr.name ++ ("{" : Str)) ++ S (insL sr.tags)) ++ ("}" : Str) = S (textL sr) := TL.ext_tl (by show tl _ = tl _; simp [tl_app, tl_S, textL, t_lb, t_rb])
      rw [e3]
      exact k H1 (x0.trans e1)
end
end
set_option Elab.async false
set_option linter.all false
set_option maxRecDepth 100000
set_option maxHeartbeats 4000000
/-! The law's pool. -/
section
open PySem PySem.Spec PyProof.Rows L2
open Evl (Ex given)

section
variable {P : Program} {w : World} {K : PySem.W.Frag} {mg : Str → Option Value} {base : Heap}
structure FullPool (H : Hp) (p : Addr) (keys words names : Toks) : Prop where
  ob : ∃ ka wa na, H p = some (.lst [.ref ka, .ref wa, .ref na]) ∧ PoolAt H ka wa keys words ∧ LstAt H na names
  kn : keys.length = 3
  wn : words.length = 4
  nn : names.length = 3
  nk : ∀ x ∈ keys, x ≠ nNAME
  ns : ∀ x ∈ names, isName (S x) = true
def spPool : Sp := fun vs H Q _ => ∃ (b : Addr) (c : Nat), vs = [.ref b] ∧ BoxAt H b c ∧ c + 12 ≤ 1000000000 ∧ ∀ p keys words names H', BoxAt H' b (c + 12) → Exx [b] H H' → FullPool H' p keys words names → Q (.ref p) H'
theorem sc_law_pool : FnScope ["_law_box_here", "_law_keys", "_law_words"] ["_law_box_here"] (defScope s_law_pool) := ⟨rfl, rfl, rfl, by decide +kernel, rfl, by decide +kernel, by decide +kernel⟩
theorem ok_law_pool (T : Txt K mg) : GoodP P w K mg base "_law_pool" 3 ["_law_box_here"] spPool := by
  have G_law_word := ok_law_word (P := P) (w := w) (base := base) T
  obtain ⟨fd, F⟩ := T.f_law_pool
  refine good_of F sc_law_pool (fun vs H Q E h => ?_) (fun _ _ _ _ _ _ us hl => match us, hl with | [_], _ => rfl) (fun cdv A outer s H vs Q E hr h => ?_)
  · obtain ⟨b, c, rfl, _⟩ := h
    rfl
  · obtain ⟨b, c, rfl, hb, hc, k⟩ := h
    refine ⟨_, (pss_cons (ps_par (i := 1) (j := 2) rfl sc_law_pool.nd rfl rfl (by decide) rfl rfl (pa_cons (pe_lst (pa_cons pe_str (pa_cons pe_str (pa_cons (pcall G_law_word hr T.g_law_word (pa_cons (pv 0) (pa_cons pe_int pa_nil))) pa_nil)))) (pa_cons (pe_lst (pa_cons pe_str (pa_cons pe_str (pa_cons (pcall G_law_word hr T.g_law_word (pa_cons (pv 0) (pa_cons pe_int pa_nil))) (pa_cons (pcall G_law_word hr T.g_law_word (pa_cons (pv 0) (pa_cons pe_int pa_nil))) pa_nil))))) pa_nil)) rfl)
    (pss_one (ps_ret (pe_lst (pa_cons (pv 1) (pa_cons (pv 2) (pa_cons (pe_lst (pa_cons pe_str (pa_cons pe_str (pa_cons (pe_ix ix_list (pv 2) pe_int (fun _ _ => rfl)) pa_nil)))) pa_nil))))))), ?_⟩
    walk_at "v"
    refine ⟨b, 26, c, rfl, .inl rfl, hb, by omega, fun x1 H1 hb1 e1 hw1 hl1 hn1 => ?_⟩
    walk_at "v"
    intro p1 hp1
    have y1 := Ex.mut (Ex.refl H1) hp1 (o := .lst [V.str "host", V.str "all", vS x1])
    have m1 : LstAt (upd H1 p1 (.lst [V.str "host", V.str "all", vS x1])) p1 [tl "host", tl "all", x1] := by
      show upd _ _ _ _ = _
      rw [upd_same]
      rfl
    obtain ⟨H2, hH2⟩ : ∃ H2, H2 = upd H1 p1 (.lst [V.str "host", V.str "all", vS x1]) := ⟨_, rfl⟩
    rw [← hH2] at y1 m1 ⊢
    walk_at "v"
    refine ⟨b, 36, c + 4, rfl, .inr rfl, hb1.ex y1, by omega, fun x2 H3 hb3 e3 hw2 hl2 _ => ?_⟩
    have m3 := m1.exx (hb1.ex y1) e3
    walk_at "v"
    refine ⟨b, 26, c + 4 + 4, rfl, .inl rfl, hb3, by omega, fun x3 H4 hb4 e4 hw3 hl3 hn3 => ?_⟩
    have m4 := m3.exx hb3 e4
    walk_at "v"
    intro p2 hp2
    have y5 := Ex.mut (Ex.refl H4) hp2 (o := .lst [V.str "a", V.str "host", vS x2, vS x3])
    have m5 : LstAt (upd H4 p2 (.lst [V.str "a", V.str "host", vS x2, vS x3])) p2 [tl "a", tl "host", x2, x3] := by
      show upd _ _ _ _ = _
      rw [upd_same]
      rfl
    have m5' := m5
    unfold LstAt at m5'
    obtain ⟨H5, hH5⟩ : ∃ H5, H5 = upd H4 p2 (.lst [V.str "a", V.str "host", vS x2, vS x3]) := ⟨_, rfl⟩
    rw [← hH5] at y5 m5 m5' ⊢
    walk_at "v"
    intro p3 hp3
    have y6 := Ex.mut (Ex.refl H5) hp3 (o := .lst [V.str "load", V.str "a", vS x3])
    have m6 : LstAt (upd H5 p3 (.lst [V.str "load", V.str "a", vS x3])) p3 [tl "load", tl "a", x3] := by
      show upd _ _ _ _ = _
      rw [upd_same]
      rfl
    obtain ⟨H6, hH6⟩ : ∃ H6, H6 = upd H5 p3 (.lst [V.str "load", V.str "a", vS x3]) := ⟨_, rfl⟩
    rw [← hH6] at y6 m6 ⊢
    refine ⟨(by simp; decide), fun p hp => ?_⟩
    have y7 := Ex.mut (Ex.refl H6) hp (o := .lst [V.ref p1, V.ref p2, V.ref p3])
    have h3 := hn3 rfl
    have h1 := hn1 rfl
    have len4 : ∀ {x : List Nat}, x.length ≤ 3 → x ≠ nNAME := fun {x} hx z => by
      rw [z] at hx
      exact absurd hx (by decide)
    have eE := ((((e1.trans (Exx.of y1)).trans e3).trans e4).trans (Exx.of y5)).trans ((Exx.of y6).trans (Exx.of y7))
    refine k p [tl "host", tl "all", x1] [tl "a", tl "host", x2, x3] [tl "load", tl "a", x3] _ ((((hb4.ex y5).ex y6).ex y7).mono (by omega)) eE ⟨⟨p1, p2, p3, upd_same, ⟨y7 _ _ (y6 _ _ (y5 _ _ m4)), y7 _ _ (y6 _ _ m5), (by simp), (by simp), ?_, ?_⟩, y7 _ _ m6⟩, rfl, rfl, rfl, ?_, ?_⟩
    · intro x hx
      simp only [List.mem_cons, List.not_mem_nil, or_false] at hx
      rcases hx with rfl | rfl | rfl
      · decide +kernel
      · decide +kernel
      · exact h1
    · intro x hx
      simp only [List.mem_cons, List.not_mem_nil, or_false] at hx
      rcases hx with rfl | rfl | rfl | rfl
      · decide +kernel
      · decide +kernel
      · exact hw2
      · exact hw3
    · intro x hx
      simp only [List.mem_cons, List.not_mem_nil, or_false] at hx
      rcases hx with rfl | rfl | rfl
      · decide +kernel
      · decide +kernel
      · exact len4 hl1
    · intro x hx
      simp only [List.mem_cons, List.not_mem_nil, or_false] at hx
      rcases hx with rfl | rfl | rfl
      · decide +kernel
      · decide +kernel
      · exact h3
end
end
set_option Elab.async false
set_option linter.all false
set_option maxRecDepth 100000
set_option maxHeartbeats 4000000
/-! The law's series. -/
open PySem PySem.Spec PyProof.Rows L2
open Evl (Ex given)

/-! ### pairs laid into a dict; any dict's pairs by rising keys -/
theorem put_kv (k x : List Nat) : ∀ kvs : KVs, ∃ kvs' : KVs, putK (dKv kvs) (.inr (S k)) (vS x) = dKv kvs' ∧ (∀ kw ∈ kvs', kw ∈ kvs ∨ kw = (k, x)) ∧ ((kvs.map (·.1)).Nodup → (kvs'.map (·.1)).Nodup) ∧ kvs'.length ≤ kvs.length + 1 := by
  intro kvs
  by_cases h : k ∈ kvs.map (·.1)
  · refine ⟨kvs.map fun kw => if kw.1 = k then (kw.1, x) else kw, ?_, fun kw hk => ?_, fun hn => ?_, by rw [List.length_map]; omega⟩
    · have ha : ((dKv kvs).any fun kv => decide (kv.1 = (Sum.inr (S k) : Key))) = true := by
        obtain ⟨q, hq, e⟩ := List.mem_map.mp h
        refine List.any_eq_true.mpr ⟨(.inr (S q.1), vS q.2), List.mem_map.mpr ⟨q, hq, rfl⟩, ?_⟩
        rw [decide_eq_true_eq, e]
      unfold putK
      rw [if_pos ha]
      unfold dKv
      rw [List.map_map, List.map_map]
      refine List.map_congr_left fun kw _ => ?_
      show (if (Sum.inr (S kw.1) : Key) = .inr (S k) then ((Sum.inr (S kw.1) : Key), vS x) else (.inr (S kw.1), vS kw.2)) = _
      show _ = ((Sum.inr (S (if kw.1 = k then (kw.1, x) else kw).1) : Key), vS (if kw.1 = k then (kw.1, x) else kw).2)
      by_cases c : kw.1 = k
      · rw [if_pos (by rw [c]), if_pos c]
      · rw [if_neg (fun z => c (S_inj (Sum.inr.inj z))), if_neg c]
    · obtain ⟨q, hq, e⟩ := List.mem_map.mp hk
      by_cases c : q.1 = k
      · rw [if_pos c] at e
        rw [← e, c]
        exact .inr rfl
      · rw [if_neg c] at e
        rw [← e]
        exact .inl hq
    · rw [List.map_map]
      have e : kvs.map ((fun kw : List Nat × List Nat => kw.1) ∘ fun kw => if kw.1 = k then (kw.1, x) else kw) = kvs.map (·.1) := List.map_congr_left fun kw _ => by
        show (if kw.1 = k then (kw.1, x) else kw).1 = kw.1
        by_cases c : kw.1 = k
        · rw [if_pos c]
        · rw [if_neg c]
      rw [e]
      exact hn
  · refine ⟨kvs ++ [(k, x)], ?_, fun kw hk => ?_, fun hn => ?_, by simp⟩
    · have ha : ¬ ((dKv kvs).any fun kv => decide (kv.1 = (Sum.inr (S k) : Key))) = true := fun z => by
        obtain ⟨q, hq, e⟩ := List.any_eq_true.mp z
        obtain ⟨kw, hkw, rfl⟩ := List.mem_map.mp hq
        rw [decide_eq_true_eq] at e
        exact h (List.mem_map.mpr ⟨kw, hkw, S_inj (Sum.inr.inj e)⟩)
      unfold putK
      rw [if_neg ha]
      unfold dKv
      rw [List.map_append]
      rfl
    · rcases List.mem_append.mp hk with z | z
      · exact .inl z
      · exact .inr (List.mem_singleton.mp z)
    · rw [List.map_append, List.nodup_append]
      refine ⟨hn, by simp, fun a ha b hb z => ?_⟩
      rw [List.map_singleton, List.mem_singleton] at hb
      rw [z, hb] at ha
      exact h ha
theorem merge_kv : ∀ (more kvs : KVs), ∃ kvs' : KVs, mergeK (dKv kvs) (dKv more) = dKv kvs' ∧ (∀ kw ∈ kvs', kw ∈ kvs ∨ kw ∈ more) ∧ ((kvs.map (·.1)).Nodup → (kvs'.map (·.1)).Nodup) ∧ kvs'.length ≤ kvs.length + more.length
  | [], kvs => ⟨kvs, rfl, fun _ h => .inl h, id, by simp⟩
  | (k, x) :: more, kvs => by
    obtain ⟨k1, e1, m1, n1, l1⟩ := put_kv k x kvs
    obtain ⟨k2, e2, m2, n2, l2⟩ := merge_kv more k1
    refine ⟨k2, ?_, fun kw h => ?_, fun h => n2 (n1 h), by rw [List.length_cons]; omega⟩
    · show mergeK (putK (dKv kvs) (.inr (S k)) (vS x)) (dKv more) = _
      rw [e1, e2]
    · rcases m2 kw h with z | z
      · rcases m1 kw z with z | z
        · exact .inl z
        · exact .inr (by rw [z]; exact List.mem_cons_self)
      · exact .inr (List.mem_cons_of_mem _ z)
theorem lst_tri (a b : List Nat) : a < b ∨ a = b ∨ b < a := by
  by_cases h : a < b
  · exact .inl h
  · by_cases h2 : b < a
    · exact .inr (.inr h2)
    · exact .inr (.inl (List.le_antisymm (List.not_lt.mp h2) (List.not_lt.mp h)))
theorem rise_ins (x : List Nat × List Nat) : ∀ l : KVs, l.Pairwise (fun a b => a.1 < b.1) → x.1 ∉ l.map (·.1) → ∃ l' : KVs, l'.Perm (x :: l) ∧ l'.Pairwise fun a b => a.1 < b.1
  | [], _, _ => ⟨[x], List.Perm.refl _, List.pairwise_singleton _ _⟩
  | y :: l, h, hn => by
    obtain ⟨h1, h2⟩ := List.pairwise_cons.mp h
    rcases lst_tri x.1 y.1 with c | c | c
    · refine ⟨x :: y :: l, List.Perm.refl _, List.pairwise_cons.mpr ⟨fun z hz => ?_, h⟩⟩
      rcases List.mem_cons.mp hz with e | e
      · rw [e]; exact c
      · exact List.lt_trans c (h1 z e)
    · exact absurd (by rw [c]; simp) hn
    · obtain ⟨l', p, q⟩ := rise_ins x l h2 fun z => hn (by rw [List.map_cons]; exact List.mem_cons_of_mem _ z)
      refine ⟨y :: l', (p.cons y).trans (List.Perm.swap x y l), List.pairwise_cons.mpr ⟨fun z hz => ?_, q⟩⟩
      rcases List.mem_cons.mp (p.mem_iff.mp hz) with e | e
      · rw [e]; exact c
      · exact h1 z e
theorem rise_any : ∀ l : KVs, (l.map (·.1)).Nodup → ∃ l' : KVs, l'.Perm l ∧ l'.Pairwise fun a b => a.1 < b.1
  | [], _ => ⟨[], List.Perm.refl _, List.Pairwise.nil⟩
  | x :: l, h => by
    rw [List.map_cons, List.nodup_cons] at h
    obtain ⟨l1, p1, q1⟩ := rise_any l h.2
    obtain ⟨l2, p2, q2⟩ := rise_ins x l1 q1 fun z => h.1 ((p1.map (·.1)).mem_iff.mp z)
    exact ⟨l2, p2.trans (p1.cons x), q2⟩
/-- the law's series, of objects that N says something of -/
structure LSerN (N : Addr → Prop) (H : Hp) (v : V) (s : Ser) : Prop where
  ob : ∃ a d kvs, N a ∧ N d ∧ v = .ref a ∧ H a = some (.lst [vS s.name, .ref d]) ∧ H d = some (.dK (dKv kvs)) ∧ kvs.Perm s.tags
  ok : SerOk s
theorem LSerN.ser {N : Addr → Prop} {H : Hp} {v : V} {s : Ser} (h : LSerN N H v s) : LSer H v s := by
  obtain ⟨⟨a, d, kvs, _, _, h1, h2, h3, h4⟩, ok⟩ := h
  exact ⟨⟨a, d, kvs, h1, h2, h3, h4⟩, ok⟩
theorem LSerN.ex {N : Addr → Prop} {H H' : Hp} {v : V} {s : Ser} (h : LSerN N H v s) (e : Ex H H') : LSerN N H' v s := by
  obtain ⟨⟨a, d, kvs, n1, n2, h1, h2, h3, h4⟩, ok⟩ := h
  exact ⟨⟨a, d, kvs, n1, n2, h1, e _ _ h2, e _ _ h3, h4⟩, ok⟩
theorem LSerN.imp {N N' : Addr → Prop} {H : Hp} {v : V} {s : Ser} (h : LSerN N H v s) (q : ∀ a o, H a = some o → N a → N' a) : LSerN N' H v s := by
  obtain ⟨⟨a, d, kvs, n1, n2, h1, h2, h3, h4⟩, ok⟩ := h
  exact ⟨⟨a, d, kvs, q _ _ h2 n1, q _ _ h3 n2, h1, h2, h3, h4⟩, ok⟩
theorem LSerN.exx {M : List Addr} {S : List Addr} {H H' : Hp} {v : V} {s : Ser} (h : LSerN (fun a => a ∉ M) H v s) (e : Exx S H H') (hs : ∀ a ∈ S, a ∈ M) : LSerN (fun a => a ∉ M) H' v s := by
  obtain ⟨⟨a, d, kvs, n1, n2, h1, h2, h3, h4⟩, ok⟩ := h
  exact ⟨⟨a, d, kvs, n1, n2, h1, e _ _ h2 fun z => n1 (hs _ z), e _ _ h3 fun z => n2 (hs _ z), h4⟩, ok⟩
def nDictP (K : PySem.W.Frag) : List V → Hp → VK → Prop := fun xs H Q => ∃ (a : Addr) (ps : List Addr) (kvs : List (Key × V)), xs = [.ref a] ∧ SqL K H a (ps.map V.ref) ∧ Paired (fun p kv => SqT K H p [kV kv.1, kv.2]) ps kvs ∧ ∀ p, H p = none → Q (.ref p) (upd H p (.dK (mergeK [] kvs)))
theorem call_dictPN {X : Cx} (hc : X.calm = true) : CallR X (.type "dict") (nDictP X.K) := call_dictP hc
theorem r_unl {K : PySem.W.Frag} {σ : L2.St} {H : Hp} {QS : L2.St → Hp → Prop} {u : TGs} {n : Nat} {a : Addr} {xs : List V} (h : SqL K H a xs) (hl : xs.length = n) (q : u xs σ H QS) : gUnl K n u (.ref a) σ H QS := ⟨a, xs, rfl, h, hl, q⟩
local macro_rules | `(tactic| walk_at "v1") => `(tactic| ((with_reducible refine' r_unl ?hv ?hl ?_); (case hv => walk_at "sq"); (case hl => exact rfl)))
theorem lc_gen {J : It} {n : Nat} {G : Hp → Prop} {Y : Nat → Hp → V → Hp → Prop} (w : Walk J n G Y) {g : TG} {tt : TT} {te : TE} {vs : List Nat} {σ : L2.St} {H1 : Hp} {D : Addr} {Q : VK} (Pv : Nat → Hp → Prop) (h0 : Pv 0 (upd H1 D (.lst []))) (hG : ∀ i H, i ≤ n → Pv i H → G H)
    (hs : ∀ i x H H', i < n → Pv i H → Y i H x H' → g x (wipe σ vs) H' fun σ2 H2 => wipe σ2 vs = wipe σ vs ∧ tt σ2 H2 fun b H3 =>
      if b = true then te σ2 H3 fun y H4 => ∃ acc, H4 D = some (.lst acc) ∧ acc.length < sizeLine ∧ Pv (i + 1) (upd H4 D (.lst (acc ++ [y]))) else Pv (i + 1) H3) (hd : ∀ H, Pv n H → Q (.ref D) H) : LcW J g tt te vs Q σ H1 D :=
  lc_it w (Qd := fun H => Q (.ref D) H) Pv h0 hG hs hd
theorem keys_at {keys : Toks} {i : Nat} {x : V} (h : (keys.map vS)[i]? = some x) : ∃ k, keys[i]? = some k ∧ x = vS k := by
  rw [List.getElem?_map] at h
  cases e : keys[i]? with
  | none =>
    rw [e] at h
    cases h
  | some k =>
    rw [e] at h
    exact ⟨k, rfl, (Option.some.inj h).symm⟩
theorem box_free {H : Hp} {b D : Addr} {c : Nat} (hb : BoxAt H b c) (hD : H D = none) : b ≠ D := by
  obtain ⟨_, _, _, _, h, _⟩ := hb
  exact ne_of_none h hD
theorem BoxAt.upd_ne {H : Hp} {b D : Addr} {c : Nat} {o : HO} (h : BoxAt H b c) (n : b ≠ D) : BoxAt (upd H D o) b c := by
  obtain ⟨g, big, m, n', q, r⟩ := h
  exact ⟨g, big, m, n', (L2.upd_ne n).trans q, r⟩
theorem pair_exx {S : List Addr} {H H' : Hp} {q : Addr} {kw : List Nat × List Nat} (e : Exx S H H') (hS : ∀ a ∈ S, ∃ xs, H a = some (.lst xs)) (h : PairAt H q kw) : PairAt H' q kw := e _ _ h fun z => by
  obtain ⟨xs, hx⟩ := hS _ z
  rw [show H q = some (.tup [vS kw.1, vS kw.2]) from h] at hx
  cases hx
theorem box_lst {H : Hp} {b : Addr} {c : Nat} (hb : BoxAt H b c) : ∀ a ∈ [b], ∃ xs, H a = some (.lst xs) := fun a ha => by
  rw [List.mem_singleton] at ha
  subst ha
  obtain ⟨g, big, m, n, h, _⟩ := hb
  exact ⟨_, h⟩
theorem paired_len {α β : Type} {R : α → β → Prop} {xs : List α} {ys : List β} (h : Paired R xs ys) : xs.length = ys.length := Plen h
section
variable {P : Program} {w : World} {K : PySem.W.Frag} {mg : Str → Option Value} {base : Heap}
def spSeries : Sp := fun vs H Q _ => ∃ (b p : Addr) (keys words names : Toks) (c : Nat), vs = [.ref b, .ref p] ∧ BoxAt H b c ∧ c + 7 ≤ 1000000000 ∧ FullPool H p keys words names ∧ ∀ v s H', BoxAt H' b (c + 7) → Exx [b] H H' → LSerN (fun a => H a = none) H' v s → Q v H'
theorem sc_law_series : FnScope ["_law_box_here", "_law_pool_here", "_law_keys", "_law_words", "_law_names", "_law_tags", "_law_key"] ["_law_box_here", "_law_pool_here"] (defScope s_law_series) := ⟨rfl, rfl, rfl, by decide +kernel, rfl, by decide +kernel, by decide +kernel⟩
theorem ok_law_series (T : Txt K mg) : GoodP P w K mg base "_law_series" 2 ["_law_box_here", "_law_pool_here"] spSeries := by
  have G_law_take := ok_law_take (P := P) (w := w) (base := base) T
  obtain ⟨fd, F⟩ := T.f_law_series
  refine good_of F sc_law_series (fun vs H Q E h => ?_) (fun _ _ _ _ _ _ us hl => match us, hl with | [_, _], _ => rfl) (fun cdv A outer s H vs Q E hr h => ?_)
  · obtain ⟨b, p, keys, words, names, c, rfl, _⟩ := h
    rfl
  · obtain ⟨b, p, keys, words, names, c, rfl, hb, hc, hp, k⟩ := h
    obtain ⟨⟨ka, wa, na, hpp, pool, hna⟩, kn, wn, nn, nk, ns⟩ := hp
    refine ⟨_, (pss_cons (ps_asg (pv 1) (pg_unl rfl (pgs_cons (pg_name (i := 2) sc_law_series.nd rfl (Or.inl rfl)) (pgs_cons (pg_name (i := 3) sc_law_series.nd rfl (Or.inr rfl)) (pgs_cons (pg_name (i := 4) sc_law_series.nd rfl (Or.inl rfl)) pgs_nil)))))
    (pss_cons (ps_setLc (i := 5) (own := [("_law_key", 6)]) rfl sc_law_series.nd rfl rfl (sw_true rfl rfl rfl (by decide +kernel)) (pi_list (pv 2)) (blkOk_by (N := ["_law_box_here", "_law_pool_here", "_law_keys", "_law_words", "_law_names", "_law_tags", "_law_key"]) (sc := defScope s_law_series) (by decide +kernel)) (fun _ _ _ _ _ => (pg_name (i := 6) sc_law_series.nd rfl (Or.inl rfl))) (fun _ _ _ _ _ => (pts_one (pt_cmpR op_gt (pcall G_law_take hr T.g_law_take (pa_cons (pv 0) (pa_cons pe_int pa_nil))) pe_int (nomark _)))) (fun _ _ _ _ _ => (pe_tup (pa_cons (pv 6) (pa_cons (pe_ix (ix_listK (K := K) rfl) (pe_op op_cat (pv 3) (pe_lst (pa_cons pe_str pa_nil))) (pcall G_law_take hr T.g_law_take (pa_cons (pv 0) (pa_cons pe_int pa_nil))) (fun _ _ => rfl)) pa_nil)))))
    (pss_one (ps_ret (pe_lst (pa_cons (pe_ix ix_list (pv 4) (pcall G_law_take hr T.g_law_take (pa_cons (pv 0) (pa_cons pe_int pa_nil))) (fun _ _ => rfl)) (pa_cons (pe_callTy (call_dictPN rfl) rfl T.z_dict (by decide +kernel) (pa_cons (pv 5) pa_nil)) pa_nil))))))), ?_⟩
    walk_at "v"
    refine x_ilist (SqL.of (xs := keys.map vS) pool.k) ?_
    intro D hD
    have nbD := box_free hb hD
    refine lc_gen (walk_list (xs := keys.map vS)) (fun i H' => ∃ ps kvs, H' D = some (.lst (ps.map V.ref)) ∧ Paired (PairAt H') ps kvs ∧ ps.length ≤ i ∧ (∀ kw ∈ kvs, kw.1 ∈ keys ∧ kw.2 ∈ words ++ [tl "zz9"]) ∧ BoxAt H' b (c + 2 * i) ∧ Exx [b] H H')
      ⟨[], [], upd_same, .nil, Nat.le_refl _, by simp, hb.ex (Ex.new hD), Exx.of (Ex.new hD)⟩ (fun i H' _ p => SqL.of (pool.k.exx hb p.choose_spec.choose_spec.2.2.2.2.2)) ?_ ?_
    · rintro i x Ha Hb hi ⟨ps, kvs, hDl, hpr, hpl, hkv, hb1, e1⟩ ⟨rfl, hx⟩
      obtain ⟨kk, hkk, rfl⟩ := keys_at hx
      walk_at "v"
      refine ⟨rfl, ?_⟩
      walk_at "v"
      rw [List.length_map, kn] at hi
      refine ⟨b, 3, c + 2 * i, rfl, by omega, by omega, hb1, by omega, fun d H3 hd hb3 e3 => ?_⟩
      have hD3 := e3 _ _ hDl (by simpa using nbD.symm)
      have hp3 : Paired (PairAt H3) ps kvs := Pimp hpr fun _ _ => pair_exx e3 (box_lst hb1)
      have hw3 : H3 wa = some (.lst (words.map vS)) := pool.w.exx hb (e1.trans e3)
      walk_at "v"
      refine ite2 (fun _ => ?_) (fun _ => ?_)
      · walk_at "v"
        intro q1 hq1
        have y1 := Ex.mut (Ex.refl H3) hq1 (o := .lst [V.str "zz9"])
        have hw4 := y1 _ _ hw3
        have hz4 : upd H3 q1 (.lst [V.str "zz9"]) q1 = some (.lst [V.str "zz9"]) := upd_same
        obtain ⟨H4, hH4⟩ : ∃ H4, H4 = upd H3 q1 (.lst [V.str "zz9"]) := ⟨_, rfl⟩
        rw [← hH4] at y1 hw4 hz4 ⊢
        refine r_cat hw4 hz4 (by simp; omega) ?_
        intro q2 hq2
        have y2 := Ex.mut (Ex.refl H4) hq2 (o := .lst (words.map vS ++ [V.str "zz9"]))
        have hc5 : upd H4 q2 (.lst (words.map vS ++ [V.str "zz9"])) q2 = some (.lst ((words ++ [tl "zz9"]).map vS)) := by
          rw [upd_same, List.map_append]
          rfl
        obtain ⟨H5, hH5⟩ : ∃ H5, H5 = upd H4 q2 (.lst (words.map vS ++ [V.str "zz9"])) := ⟨_, rfl⟩
        rw [← hH5] at y2 hc5 ⊢
        have y35 := y1.trans y2
        have hb5 := hb3.ex y35
        walk_at "v"
        refine ⟨b, 5, c + 2 * i + 1, rfl, by omega, by omega, hb5, by omega, fun d2 H6 hd2 hb6 e6 => ?_⟩
        have hc6 := LstAt.exx (ts := words ++ [tl "zz9"]) hc5 hb5 e6
        have hl6 : d2 < (words ++ [tl "zz9"]).length := by rw [List.length_append, wn]; exact hd2
        walk_at "v"
        refine r_ixL (SqL.of hc6) (at_lt hl6) ?_
        walk_at "v"
        intro q3 hq3
        have y7 := Ex.mut (Ex.refl H6) hq3 (o := .tup [vS kk, vS (words ++ [tl "zz9"])[d2]])
        have e36 : Exx [b] H3 H6 := (Exx.of y35).trans e6
        have hD6 := e36 _ _ hD3 (by simpa using nbD.symm)
        have hD7 := y7 _ _ hD6
        have nq : D ≠ q3 := ne_of_none hD6 hq3
        refine ⟨ps.map V.ref, hD7, ?_, ps ++ [q3], kvs ++ [(kk, (words ++ [tl "zz9"])[d2])], ?_, ?_, ?_, ?_, ?_, ?_⟩
        · rw [List.length_map]
          exact Evl.sz_lt (by omega)
        · rw [upd_same, List.map_append]
          rfl
        · have hb3' := box_lst hb3
          refine Papp (Pimp hp3 fun q kw h => ?_) (.cons ?_ .nil)
          · have h6 := pair_exx e36 hb3' h
            show _ = _
            rw [upd_ne (fun z => by rw [← z] at hD7; rw [show _ = _ from y7 _ _ h6] at hD7; cases hD7)]
            exact y7 _ _ h6
          · show _ = _
            rw [upd_ne nq.symm]
            exact upd_same
        · rw [List.length_append, List.length_singleton]
          omega
        · intro kw hk
          rcases List.mem_append.mp hk with z | z
          · exact hkv kw z
          · rw [List.mem_singleton.mp z]
            exact ⟨List.mem_of_getElem? hkk, List.getElem_mem hl6⟩
        · exact ((hb6.ex y7).upd_ne nbD).mono (by omega)
        · exact (((e1.trans e3).trans e36).trans (Exx.of y7)).add hD
      · exact ⟨ps, kvs, hD3, hp3, by omega, hkv, hb3.mono (by omega), e1.trans e3⟩
    · rintro Ha ⟨ps, kvs, hDl, hpr, hpl, hkv, hb1, e1⟩
      rw [List.length_map, kn] at hpl hb1
      walk_at "v"
      refine ⟨b, 3, c + 2 * 3, rfl, by omega, by omega, hb1, by omega, fun d H3 hd hb3 e3 => ?_⟩
      have hn3 := hna.exx hb (e1.trans e3)
      have hld : d < names.length := by rw [nn]; exact hd
      have hD3 := e3 _ _ hDl (by simpa using nbD.symm)
      have hp3 : Paired (PairAt H3) ps kvs := Pimp hpr fun _ _ => pair_exx e3 (box_lst hb1)
      refine r_ixL (SqL.of hn3) (at_lt hld) ?_
      walk_at "v"
      obtain ⟨kv2, em, mm, nm, lm⟩ := merge_kv kvs []
      have hnd := nm (by simp)
      have hkl := paired_len hpr
      obtain ⟨tags, tp, tr⟩ := rise_any kv2 hnd
      refine ⟨D, ps, dKv kvs, rfl, SqL.of hD3, ?_, fun dd hdd => ?_⟩
      · have key : ∀ {as : List Addr} {bs : KVs}, Paired (PairAt H3) as bs → Paired (fun p kv => SqT K H3 p [kV kv.1, kv.2]) as (dKv bs) := by
          intro as bs h
          induction h with
          | nil => exact .nil
          | cons r _ ih => exact .cons (SqT.of r) ih
        exact key hp3
      · rw [show mergeK [] (dKv kvs) = dKv kv2 from em]
        have y4 := Ex.mut (Ex.refl H3) hdd (o := .dK (dKv kv2))
        have hd4 : upd H3 dd (.dK (dKv kv2)) dd = some (.dK (dKv kv2)) := upd_same
        obtain ⟨H4, hH4⟩ : ∃ H4, H4 = upd H3 dd (.dK (dKv kv2)) := ⟨_, rfl⟩
        rw [← hH4] at y4 hd4 ⊢
        walk_at "v"
        intro q hq
        have y5 := Ex.mut (Ex.refl H4) hq (o := .lst [vS names[d], .ref dd])
        have e03 := e1.trans e3
        refine k (.ref q) ⟨names[d], tags⟩ _ ((((hb3.ex y4).ex y5)).mono (by omega)) ((e03.trans (Exx.of y4)).trans (Exx.of y5)) ⟨⟨q, dd, kv2, box_none hb3 e03 (ex_none y4 hq), box_none hb3 e03 hdd, rfl, upd_same, y5 _ _ hd4, tp.symm⟩, ?_⟩
        refine ⟨ns _ (List.getElem_mem hld), ?_, fun kw hk => ?_, tr⟩
        · show tags.length ≤ 6
          rw [tp.length_eq]
          have : kv2.length ≤ 3 := by
            have := lm
            simp only [List.length_nil] at this
            omega
          omega
        · rcases mm kw (tp.mem_iff.mp hk) with z | z
          · cases z
          · obtain ⟨h1, h2⟩ := hkv kw z
            refine ⟨pool.ks _ h1, nk _ h1, ?_⟩
            rcases List.mem_append.mp h2 with z | z
            · exact pool.ws _ z
            · rw [List.mem_singleton.mp z]
              decide +kernel
end
set_option Elab.async false
set_option linter.all false
set_option maxRecDepth 100000
set_option maxHeartbeats 4000000
/-! Sets of texts: set(list), sorted(set). -/
section
open PySem PySem.Spec PyProof.Rows L2
open Evl (Ex given)
/-! ### what a set of texts is -/
abbrev Ens := Array (Int × Value)
def tKey (e : Int × Value) : Str := match e.2 with
  | .str k _ => k
  | _ => Str.empty
def TxE (w : World) (e : Int × Value) : Prop := ∃ k tk, e.2 = Value.str k tk ∧ e.1 = hashStr w k
def keysT (es : Ens) : List Str := es.toList.map tKey
def seen (w : World) (t : SetTable) : Prop := w.params.followText "set-order" = true ∨ t.led = true
/-- entries and table of a set whose members are f's -/
structure TxTab (w : World) (f : Str → Bool) (n : Nat) (es : Ens) (t : SetTable) : Prop where
  good : ∀ e ∈ es.toList, TxE w e
  nd : (keysT es).Nodup
  mem : ∀ k, f k = true ↔ k ∈ keysT es
  few : es.size < scanBound
  fit : t.fits es.size = true
  cnt : es.size = n
  ris : Ris t.place.toList
  led : seen w t
def TxSet (w : World) (h : Heap) (a : Addr) (f : Str → Bool) (n : Nat) : Prop := ∃ o es ep t, h.get? a = some o ∧ o.ExactSet ∧ o.data = .set es ep t ∧ TxTab w f n es t
section
variable {P : Program} {w : World} {h h' : Heap} {a : Addr} {f f' : Str → Bool} {n : Nat} {es : Ens} {t : SetTable}
theorem TxSet.keep (R : TxSet w h a f n) (k : ∀ o, h.get? a = some o → h'.get? a = some o) : TxSet w h' a f n := by
  obtain ⟨o, es, ep, t, ho, r⟩ := R
  exact ⟨o, es, ep, t, k o ho, r⟩
theorem TxSet.same (R : TxSet w h a f n) (e : ∀ k, f' k = f k) : TxSet w h a f' n := by
  rw [funext e]
  exact R
theorem txe_elems {l : List (Int × Value)} (g : ∀ e ∈ l, TxE w e) : ElemsOf (PySem.strKind P w) l := fun e he => by
  obtain ⟨k, tk, q1, q2⟩ := g e he
  refine ⟨⟨k, ?_, q2⟩, ?_⟩
  · rw [q1]
    exact strKind_is P w k tk
  · rw [q1]
    rfl
theorem txe_is {e : Int × Value} (g : TxE w e) (k : Str) : (PySem.strKind P w).is k e.2 = true ↔ tKey e = k := by
  obtain ⟨k0, tk, q1, _⟩ := g
  unfold tKey
  rw [q1]
  constructor
  · intro z
    exact (PySem.strKind P w).inj _ _ _ (strKind_is P w k0 tk) z
  · intro z
    rw [← z]
    exact strKind_is P w k0 tk
theorem txe_find {l : List (Int × Value)} (g : ∀ e ∈ l, TxE w e) (k : Str) : k ∈ l.map tKey ↔ ∃ e ∈ l, (PySem.strKind P w).is k e.2 = true := by
  constructor
  · intro z
    obtain ⟨e, he, q⟩ := List.mem_map.mp z
    exact ⟨e, he, (txe_is (g e he) k).mpr q⟩
  · rintro ⟨e, he, q⟩
    exact List.mem_map.mpr ⟨e, he, (txe_is (g e he) k).mp q⟩
theorem TxTab.perm {es2 : Ens} {t2 : SetTable} (T : TxTab w f n es t) (p : es2.toList.Perm es.toList) (hf : t2.fits es2.size = true) (hr : Ris t2.place.toList) (hl : seen w t2) : TxTab w f n es2 t2 := by
  have hz : es2.size = es.size := by
    have := p.length_eq
    simpa using this
  exact ⟨fun e he => T.good e (p.mem_iff.mp he), (p.map tKey).nodup_iff.mpr T.nd, fun k => (T.mem k).trans (p.map tKey).mem_iff.symm, by rw [hz]; exact T.few, hf, hz.trans T.cnt, hr, hl⟩
end
section
variable {P : Program} {w : World} {A : Around} {E : Value → Shared → Prop} {s : Shared} {a : Addr} {f : Str → Bool} {n : Nat}
/-- the end of an add: stored, and laid anew if too full -/
theorem tx_tail {g : Bool → Sem Unit} (hg : ∀ (b : Bool) (z : Shared) (Q' : Unit → Shared → Prop), Q' () z → wpAny (model P w) A (g b) Q' E z)
    {o : Obj} {es0 : Ens} {ep : Nat} {t0 : SetTable} (ho : s.heap.get? a = some o) (hx : o.ExactSet) (hd : o.data = .set es0 ep t0) {es : Ens} {t : SetTable} (T : TxTab w f n es t) {dm : Bool} {R : Option Bool → Shared → Prop}
    (hR : ∀ h', Heap.SameBut a s.heap h' → TxSet w h' a f n → R (some true) { s with heap := h' }) :
    wpAny (model P w) A (do
      storeSet a es t
      if (!dm && t.tooFull) = true then do
        g (relayAll t es (SetTable.grown es.size)).2.2
        storeSet a (relayAll t es (SetTable.grown es.size)).1 (relayAll t es (SetTable.grown es.size)).2.1
        pure (some true)
      else pure (some true)) R E s := by
  have q1 := store_at (es' := es) (t' := t) ho hd
  have b1 := Heap.SameBut.update s.heap a (Obj.putSet es t)
  refine wpAny_bind (wpAny_storeSet_of ho hd ?_ (fits_of_scanBound T.few))
  by_cases c : (!dm && t.tooFull) = true
  · rw [if_pos c]
    have T2 : TxTab w f n (relayAll t es (SetTable.grown es.size)).1 (relayAll t es (SetTable.grown es.size)).2.1 :=
      T.perm (relayAll_perm t es _) (relayAll_fits t es _) (relayAll_ris t es _) (T.led.imp id fun z => by rw [relayAll_led]; exact z)
    generalize relayAll t es (SetTable.grown es.size) = Z at T2 ⊢
    obtain ⟨es2, t2, gv⟩ := Z
    refine wpAny_bind (hg gv _ _ ?_)
    refine wpAny_bind (wpAny_storeSet_of q1 rfl ?_ (fits_of_scanBound T2.few))
    refine wpAny_pure (hR _ (b1.trans (Heap.SameBut.update _ a _)) ?_)
    exact ⟨_, es2, _, t2, store_at (es' := es2) (t' := t2) q1 rfl, hx, rfl, T2⟩
  · rw [if_neg c]
    exact wpAny_pure (hR _ b1 ⟨_, es, _, t, q1, hx, rfl, T⟩)
theorem tx_add {k : Str} {tk : Tok} {Q : Bool → Shared → Prop} (R : TxSet w s.heap a f n) (room : n + 1 < scanBound)
    (hQ : ∀ h', Heap.SameBut a s.heap h' → TxSet w h' a (fun j => f j || decide (j = k)) (if f k = true then n else n + 1) → Q (!f k) { s with heap := h' }) :
    wpAny (model P w) A (setAddHashed a (.str k tk) ((PySem.strKind P w).hash k)) Q E s := by
  obtain ⟨o, es, ep, t, ho, hx, hd, T⟩ := R
  have hsc : (Value.str k tk).scannable = true := rfl
  have hel : ElemsOf (PySem.strKind P w) es.toList := txe_elems T.good
  have quiet : ∀ (m : String) (b : Bool) {z : Shared} {Q' : Unit → Shared → Prop}, Q' () z → wpAny (model P w) A (match b with | true => rule m | false => pure ()) Q' E z := fun m b z Q' q => by
    cases b with
    | true => exact wpAny_rule q
    | false => exact wpAny_pure q
  (unfold setAddHashed setAddHashedIn)
  refine wpAny_holding (wpAny_bind (wpAny_setState_of ho hd T.fit ?_))
  dsimp only
  rw [byScan_of hsc T.few hel, if_pos rfl]
  unfold setAddByScan
  refine wpAny_bind (wpAny_bind (wpAny_rule (wpAny_bind (wpAny_setScan_of (strKind_is P w k tk) ho hd T.fit hel ?_))))
  cases hfi : es.toList.findIdx? (fun e => (PySem.strKind P w).is k e.2) with
  | some j =>
    obtain ⟨hj, pj, _⟩ := List.findIdx?_eq_some_iff_getElem.mp hfi
    have hk : f k = true := (T.mem k).mpr ((txe_find (P := P) T.good k).mpr ⟨_, List.getElem_mem hj, pj⟩)
    have q := hQ s.heap (Heap.SameBut.refl a s.heap) (by
      rw [if_pos hk]
      refine ⟨o, es, ep, t, ho, hx, hd, T.good, T.nd, fun i => ?_, T.few, T.fit, T.cnt, T.ris, T.led⟩
      rw [← T.mem i, Bool.or_eq_true, decide_eq_true_eq]
      refine ⟨fun z => ?_, .inl⟩
      rcases z with z | z
      · exact z
      · rw [z]
        exact hk)
    rw [hk] at q
    exact wpAny_pure (wpAny_pure q)
  | none =>
    have hnk : k ∉ keysT es := fun z => by
      obtain ⟨e, he, q⟩ := (txe_find (P := P) T.good k).mp z
      have c := List.findIdx?_eq_none_iff.mp hfi e he
      rw [q] at c
      cases c
    have hk : f k = false := by
      cases q : f k with
      | false => rfl
      | true => exact absurd ((T.mem k).mp q) hnk
    have pm := layNew_perm t es ((PySem.strKind P w).hash k) (.str k tk)
    have hf1 := layNew_fits t es ((PySem.strKind P w).hash k) (.str k tk)
    have hr1 := layNew_ris t es ((PySem.strKind P w).hash k) (.str k tk) T.ris
    have hl1 := layNew_led t es ((PySem.strKind P w).hash k) (.str k tk)
    dsimp only
    generalize layNew t es ((PySem.strKind P w).hash k) (.str k tk) = Z at pm hf1 hr1 hl1 ⊢
    obtain ⟨es1, t1, dm, gv⟩ := Z
    dsimp only at pm hf1 hr1 hl1 ⊢
    rw [Array.toList_push] at pm
    have pc := pm.trans (List.perm_append_singleton ((PySem.strKind P w).hash k, Value.str k tk) es.toList)
    have pk : (keysT es1).Perm (k :: keysT es) := pc.map tKey
    have hz : es1.size = n + 1 := by
      have := pc.length_eq
      rw [List.length_cons, Array.length_toList, Array.length_toList, T.cnt] at this
      exact this
    have T1 : ∀ t2 : SetTable, t2.fits es1.size = true → Ris t2.place.toList → seen w t2 → TxTab w (fun j => f j || decide (j = k)) (n + 1) es1 t2 := fun t2 a1 a2 a3 => by
      refine ⟨fun e he => ?_, pk.nodup_iff.mpr (List.nodup_cons.mpr ⟨hnk, T.nd⟩), fun i => ?_, by rw [hz]; exact room, a1, hz, a2, a3⟩
      · rcases List.mem_cons.mp (pc.mem_iff.mp he) with z | z
        · rw [z]
          exact ⟨k, tk, rfl, rfl⟩
        · exact T.good e z
      · rw [pk.mem_iff, List.mem_cons, ← T.mem i, Bool.or_eq_true, decide_eq_true_eq]
        exact Or.comm
    have led1 : seen w t1 := T.led.imp id fun z => by rw [hl1]; exact z
    have fin : ∀ h', Heap.SameBut a s.heap h' → TxSet w h' a (fun j => f j || decide (j = k)) (n + 1) → Q true { s with heap := h' } := fun h' sb r => by
      have q := hQ h' sb
      rw [hk] at q
      exact q r
    refine wpAny_bind (quiet _ gv ?_)
    split
    · refine wpAny_bind ?_
      rw [hashByValue_scannable 8 hsc]
      refine wpAny_pure (tx_tail (f := fun j => f j || decide (j = k)) (n := n + 1) (fun b z Q' q => quiet _ b q) ho hx hd (T1 _ ?_ ?_ ?_) fun h' sb r => wpAny_pure (fin h' sb r))
      · first
          | exact hf1
          | (split; all_goals first | exact hf1 | exact SetTable.fits_plain_off hf1)
      · first
          | exact hr1
          | (split; all_goals exact hr1)
      · first
          | exact led1
          | (split; all_goals exact led1)
    · refine wpAny_bind (wpAny_pure ?_)
      rw [if_pos rfl]
      exact tx_tail (f := fun j => f j || decide (j = k)) (n := n + 1) (fun b z Q' q => quiet _ b q) ho hx hd (T1 _ hf1 hr1 led1) fun h' sb r => wpAny_pure (fin h' sb r)
end
end
set_option Elab.async false
set_option linter.all false
set_option maxRecDepth 100000
set_option maxHeartbeats 8000000
/-! Sets of texts: set(list), sorted(set). -/
section
open PySem PySem.Spec PyProof.Rows L2
open Evl (Ex given)
/-- a set just made -/
abbrev newSet (w : World) : Obj := { cls := .type "set", dict := none, data := .set #[] 0 (.fresh 0 0 (!w.params.followText "set-order")) }
theorem tx_new {w : World} {h : Heap} {a : Addr} (ho : h.get? a = some (newSet w)) : TxSet w h a (fun _ => false) 0 := by
  refine ⟨_, #[], 0, _, ho, ⟨rfl, rfl, rfl⟩, rfl, fun e he => by simp at he, by simp [keysT], fun k => by simp [keysT], by decide, by rfl, rfl, List.Pairwise.nil, ?_⟩
  show _ ∨ (!w.params.followText "set-order") = true
  cases w.params.followText "set-order" with
  | true => exact .inl rfl
  | false => exact .inr rfl
section
variable {P : Program} {w : World} {A : Around} {E : Value → Shared → Prop} {s : Shared}
/-- the members put in, one by one -/
theorem tx_loop {I : Addr} {fp wr : List Addr} {G : Array GenState → Array GenState → Prop} {n : Nat} {Pv : Nat → Value → Prop} {St : Nat → Shared → Prop} {R : Result → Shared → Prop} (W : WalksS P w A.in1 I fp wr G n Pv St) (S : Addr) (hSf : S ∉ fp)
    (xs : List Str) (hn : n = xs.length) (hb : xs.length + 1 < scanBound) (hval : ∀ i v, Pv i v → ∃ k t, xs[i]? = some k ∧ v = .str k t) :
    ∀ (m i : Nat) (s : Shared), n - i = m → i ≤ n → St i s → (∃ c, c ≤ i ∧ TxSet w s.heap S (fun j => decide (j ∈ xs.take i)) c) →
      (∀ s' c, Moved (S :: wr) G s s' → c ≤ n → TxSet w s'.heap S (fun j => decide (j ∈ xs)) c → R (.ok (.ret .none)) s') →
      codeAny (model P w) A (.builtin "set.update.loop" ⟨[.ref S, .ref I], []⟩) R s := by
  have notW : S ∉ wr := fun z => hSf (W.sub _ z)
  intro m
  induction m with
  | zero =>
    intro i s hm hi hst hc hR
    obtain ⟨c, hc, T⟩ := hc
    have ei : i = n := by omega
    subst ei
    rw [List.take_of_length_le (by omega)] at T
    refine codeAny_builtin (PyProof.Rows.F.entry_set_update_loop) ?_
    rw [Around.under_plainId (PyProof.Rows.F.plain_set_update_loop) _]
    refine wpAny_bind (m := pyNext (.ref I)) (W.done s _ _ hst fun s' mv => wpAny_pure (hR s' c (mv.mono fun b z => List.mem_cons_of_mem _ z) hc (T.keep fun o e => mv.heap S o notW e)))
  | succ m ih =>
    intro i s hm hi hst hc hR
    obtain ⟨c, hc, T⟩ := hc
    have hlt : i < n := by omega
    refine codeAny_builtin (PyProof.Rows.F.entry_set_update_loop) ?_
    rw [Around.under_plainId (PyProof.Rows.F.plain_set_update_loop) _]
    refine wpAny_bind (m := pyNext (.ref I)) (W.item i s _ _ hlt hst fun v s' hP hst' mv => ?_)
    obtain ⟨z, t, hz, rfl⟩ := hval i v hP
    refine wpAny_bind (m := holding [Value.str z t] (setAdd S (.str z t))) (wpAny_holding ?_)
    unfold setAdd
    refine wpAny_holding (wpAny_bind ((PySem.strKind P w).pyHash (k := z) (strKind_is _ _ _ _) ?_))
    refine tx_add (s := { s' with toks := s'.toks + 1 }) (T.keep fun o e => mv.heap S o notW e) (by omega) fun h' sb T2 => ?_
    have T3 : TxSet w h' S (fun j => decide (j ∈ xs.take (i + 1))) (if decide (z ∈ xs.take i) = true then c else c + 1) := T2.same fun j => by
      rw [List.take_add_one, hz]
      simp [List.mem_append]
    have off : ∀ b o, b ≠ S → s'.heap.get? b = some o → h'.get? b = some o := fun b o hb e => (sb.2 b hb).trans e
    refine wpAny_pure ⟨plainId_quiet (PyProof.Rows.F.plain_set_update_loop) _, ih (i + 1) _ (by omega) hlt (W.frame _ s' _ _ hst' (Nat.le_succ _) fun b hb o e => off b o (fun q => hSf (q ▸ hb)) e) ⟨_, by split <;> omega, T3⟩ ?_⟩
    intro s2 c2 mv2 hc2 T4
    exact hR s2 c2 (Moved.trans W.gtrans ((mv.mono fun b q => List.mem_cons_of_mem _ q).then_heap (Nat.le_succ _) fun b o hb e => off b o (fun q => hb (by rw [q]; exact List.mem_cons_self)) e) mv2) hc2 T4
/-- set(xs) of a list of texts -/
theorem tx_set {l : Addr} {items : Array Value} (xs : List Str) {Q : Value → Shared → Prop} (hh : A.handled = none) (hl : s.heap.IsList l items) (hi : StrsAre items.toList xs) (hb : xs.length + 1 < scanBound)
    (h : ∀ (h' : Heap) (tk c : Nat), TxSet w h' s.heap.objs.size (fun j => decide (j ∈ xs)) c → c ≤ xs.length → (∀ b o, s.heap.get? b = some o → h'.get? b = some o) → Q (.ref s.heap.objs.size) { s with heap := h', toks := tk }) :
    wpAny (model P w) A (call (.type "set") [.ref l]) Q E s := by
  have hsz : items.size = xs.length := by
    have q := StrsAre.len_eq hi
    rw [Array.length_toList] at q
    exact q
  obtain ⟨cc, tl, hmro⟩ := PySem.F.called_set.mro
  have hmade := (PySem.F.called_set).made
  have hsub := (PySem.F.called_set).sub
  have c1 := (PySem.F.called_set).notType
  have c2 := (PySem.F.called_set).canCreate
  have c3 := (PySem.F.typeCall_set_1 (Value.ref l))
  refine wpAny_call (codeAny_of_tree (show wpAny _ _ (callAny (.type "set") _) _ _ _ from ?_))
  refine wpAny_pure ⟨Code.quiet_builtin _ (by decide +kernel), codeAny_builtin (PySem.F.entry_type_call) ?_⟩
  rw [Around.under_plain (weight_type_call_type "set" [Value.ref l] []) rfl]
  (repeat (any_goals (first | assumption | wp_step)))
  have made : ∀ z : Shared, z = { s with heap := s.heap.push (newSet w) } → z.heap.get? s.heap.objs.size = some (newSet w) := fun z e => by
    rw [e]
    exact Heap.get?_push_size _ rfl
  refine codeAny_mono (code_set_led1 (Value.ref l) (Q₁ := fun ob z => ob = .ref s.heap.objs.size ∧ z = { s with heap := s.heap.push (newSet w) }) (E := E) ⟨rfl, rfl⟩) ?_
  intro r z hr
  cases r with
  | error e => exact hr
  | ok fl =>
    cases fl with
    | next => exact (hr : False).elim
    | brk => exact (hr : False).elim
    | cont => exact (hr : False).elim
    | ret ob =>
      obtain ⟨rfl, ez⟩ := hr
      have hS := made z ez
      subst ez
      have hT : Shared.TypeIs { s with heap := s.heap.push (newSet w) } (.ref s.heap.objs.size) "set" := ⟨_, hS, rfl⟩
      have i1 := (PySem.F.called_set).init.lookup
      have i2 := (PySem.F.called_set).init.bind (.ref s.heap.objs.size)
      (repeat (any_goals (first | assumption | wp_step)))
      refine codeAny_mono (codeAny_call_builtin (R := wants (fun r z => r = .none ∧ ∃ h' tk c, z = { s with heap := h', toks := tk } ∧ TxSet w h' s.heap.objs.size (fun j => decide (j ∈ xs)) c ∧ c ≤ xs.length ∧ ∀ b o, s.heap.get? b = some o → h'.get? b = some o) E)
        (PySem.F.called_set).init.plain (PySem.F.entry_set_init) (check_set_init_1 hT ?_)) ?_
      · obtain ⟨ol, hol, hcl, nl, hdl⟩ := hl
        obtain ⟨k1, k2, k3, k4⟩ := ol
        simp only at hcl hdl
        subst hcl hdl
        have hl0 : l < s.heap.objs.size := Heap.lt_size hol
        have hl1 : (s.heap.push (newSet w)).IsList l items := ⟨_, Heap.get?_push_of_some _ hol, rfl, nl, rfl⟩
        have hol1 := Heap.get?_push_of_some (newSet w) hol
        have n1 := (PySem.F.sub_list_set)
        have n2 := (PySem.F.sub_list_frozenset)
        have n3 : (Value.type "list" == Value.type "dict") = false := by decide
        (unfold Builtin.«set.__init__» noKeywords Builtin.Frozenset.updateFrom)
        generalize ePI : pyIter = PI
        wp_walk
        subst ePI
        refine wpAny_pyIter_list hl1 (wpAny_bind (wpAny_runValue ?_))
        have hsz1 : (s.heap.push (newSet w)).objs.size = s.heap.objs.size + 1 := Heap.size_push ..
        have off : ∀ b, b ≤ s.heap.objs.size → b ≠ (s.heap.push (newSet w)).objs.size := fun b q => by
          rw [hsz1]
          omega
        have hSf : s.heap.objs.size ∉ [(s.heap.push (newSet w)).objs.size, l] := fun q => by
          rcases List.mem_cons.mp q with q | q
          · exact off _ (Nat.le_refl _) q
          · rw [List.mem_singleton] at q
            exact absurd (q ▸ hl0) (Nat.lt_irrefl _)
        have hval : ∀ (i : Nat) (v : Value), items[i]? = some v → ∃ k t, xs[i]? = some k ∧ v = .str k t := fun i v hv => by
          have hi2 : i < xs.length := by
            rw [← hsz]
            exact (Array.getElem?_eq_some_iff.mp hv).1
          obtain ⟨t, e⟩ := SS.strs_at hi i v (by rw [Array.getElem?_toList]; exact hv)
          refine ⟨xs[i], t, List.getElem?_eq_getElem hi2, ?_⟩
          rw [e, List.getD_eq_getElem?_getD, List.getElem?_eq_getElem hi2]
          rfl
        refine tx_loop ((Walks.list (by simp [hh]) _ l (off _ (Nat.le_of_lt hl0)) items).toS) s.heap.objs.size hSf xs hsz hb hval (items.size - 0) 0 _ (by omega) (Nat.zero_le _) ⟨⟨_, Heap.get?_push_size _ rfl, rfl, rfl⟩, hl1.push _⟩
          ⟨0, Nat.le_refl 0, tx_new (Heap.get?_push_of_some _ hS)⟩ ?_
        intro s2 c mv hc T
        obtain ⟨h2, g2, d2, tk2, os2⟩ := s2
        obtain rfl : g2 = s.gens := mv.gens
        obtain rfl : d2 = s.drawn := mv.drawn
        obtain rfl : os2 = s.os := mv.os
        rw [hsz] at hc
        refine wpAny_pure (wpAny_pure ⟨rfl, h2, tk2, c, rfl, T, hc, fun b o e => ?_⟩)
        have hb0 := Heap.lt_size e
        refine mv.heap b o (fun q => ?_) (Heap.get?_push_of_some _ (Heap.get?_push_of_some _ e))
        rcases List.mem_cons.mp q with q | q
        · exact absurd (q ▸ hb0) (Nat.lt_irrefl _)
        · rw [List.mem_singleton] at q
          exact off b (Nat.le_of_lt hb0) q
      · intro r2 z2 hr2
        cases r2 with
        | error e => exact hr2
        | ok fl2 =>
          cases fl2 with
          | next => exact (hr2 : False).elim
          | brk => exact (hr2 : False).elim
          | cont => exact (hr2 : False).elim
          | ret rv =>
            obtain ⟨rfl, h2, tk2, c, rfl, T, hc, hk⟩ := hr2
            (repeat (any_goals (first | assumption | wp_step)))
            exact h _ _ _ T hc hk
/-- sorted(a set of texts) -/
theorem tx_sorted {a : Addr} {f : Str → Bool} {n : Nat} {Q : Value → Shared → Prop} (R : TxSet w s.heap a f n) (hh : A.handled = none) (h64 : n < 64)
    (hQ : ∀ s2 p (out : Array Value) (c : Nat) (ys : List Str), (∀ b o, s.heap.get? b = some o → s2.heap.get? b = some o) → s2.gens = s.gens → s2.os = s.os → s.heap.objs.size ≤ p → s2.heap.get? p = some (seqObj "list" out c) →
      StrsAre out.toList ys → sortedS ys = true → ys.Nodup → (∀ k, k ∈ ys ↔ f k = true) → ys.length = n → Q (.ref p) s2) :
    wpAny (model P w) A (call (.builtin "sorted") [.ref a]) Q E s := by
  obtain ⟨o, es, ep, t, ho, hx, hd, T⟩ := R
  refine Calls.call_function_entry kind_sorted plain_sorted entry_sorted (args_sorted1 _) ?_
  unfold Builtin.«sorted»
  refine wpAny_bind (m := checkCount "sorted" 1 1 _) (wpAny_pure (wpAny_bind (collect_set (A := A.in1) hh ⟨o, ho, hx.1, hd⟩ T.fit T.few T.ris T.led fun s1 vs k1 hz g1 o1 pm => ?_)))
  have hvl : vs.length = n := by
    rw [pm.length_eq, List.length_map, Array.length_toList]
    exact T.cnt
  have hstr : ∀ l : List Value, (∀ v ∈ l, ∃ e ∈ es.toList, e.2 = v) → StrsAre l (l.map fun v => tKey (0, v)) := by
    intro l
    induction l with
    | nil => intro _; exact .nil
    | cons v l ih =>
      intro hl
      obtain ⟨e, he, rfl⟩ := hl v List.mem_cons_self
      obtain ⟨k, tk, q1, _⟩ := T.good e he
      rw [List.map_cons, q1]
      exact .cons k tk (ih fun u hu => hl u (List.mem_cons_of_mem _ hu))
  have hI : StrsAre vs (vs.map fun v => tKey (0, v)) := hstr vs fun v hv => by
    obtain ⟨e, he, q⟩ := List.mem_map.mp (pm.mem_iff.mp hv)
    exact ⟨e, he, q⟩
  have pk : (vs.map fun v => tKey (0, v)).Perm (keysT es) := by
    have q := pm.map fun v => tKey (0, v)
    rw [List.map_map] at q
    exact q
  have hoL : (s1.heap.push (seqObj "list" vs.toArray 0)).get? s1.heap.objs.size = some (seqObj "list" vs.toArray 0) := Heap.get?_push_size _ rfl
  refine wpAny_bind (wpAny_newList ?_ (by rw [hvl, sizeLine_eq]; omega))
  refine wpAny_bind (wpAny_holding (wpAny_call_entry slot_list_sort ⟨_, hoL, rfl⟩ entry_list_sort ?_ (args_list_sort _)))
  refine list_sort_treeKAny strKind_oneLt hoL hI.keysOf (fun v1 v2 rest e => keyKind_strs (by rw [← e]; exact hI)) (by rw [hvl, sizeLine_eq]; omega) fun st hp hs => ?_
  obtain ⟨ys, y1, y2, y3⟩ := sorted_out_str hI hp hs
  generalize (arrOf st).map (·.2) = out at y1 ⊢
  obtain ⟨c, hc⟩ := sortedHeap_at (vs := vs) (out := out) hoL
  have pn := y2.trans pk
  refine ⟨_, rfl, wpAny_pure ⟨_, rfl, hQ _ s1.heap.objs.size out c ys (fun b u e => ?_) g1 o1 hz hc y1 y3 (pn.nodup_iff.mpr T.nd) (fun k => by rw [pn.mem_iff, ← T.mem k]) ?_⟩⟩
  · have q := k1 b u e
    have hlt := Heap.lt_size q
    have q2 : (s1.heap.push (seqObj "list" vs.toArray 0)).get? b = some u := Heap.get?_push_of_some _ q
    rw [← q2]
    exact sortedHeap_old (Nat.ne_of_lt hlt) (by rw [size_push']; exact Nat.lt_succ_of_lt hlt)
  · rw [pn.length_eq]
    show (es.toList.map tKey).length = n
    rw [List.length_map, Array.length_toList]
    exact T.cnt
end
/-! ### over the layer -/
/-- the set of texts at a -/
def setO (w : World) (a : Addr) (f : Str → Bool) (n : Nat) : HO := .ext fun h => TxSet w h a f n
section
variable {X : Cx}
theorem setO_new {P : Program} {w : World} {H : Hp} {h : Heap} {a : Addr} {f : Str → Bool} {n : Nat} (R : TxSet w h a f n) : ObjOk P w H h a (setO w a f n) := by
  have ⟨o, _, _, _, ho, _⟩ := R
  exact ⟨R, ⟨o, ho⟩, fun h1 h2 p k => TxSet.keep p k⟩
/-- set(xs), xs a list of texts -/
def nSetS (w : World) (K : PySem.W.Frag) : List V → Hp → VK → Prop := fun vs H Q => ∃ (a : Addr) (xs : List Str), vs = [.ref a] ∧ SqL K H a (xs.map V.str) ∧ xs.length ≤ 60 ∧ ∀ p c, H p = none → c ≤ xs.length → Q (.ref p) (upd H p (setO w p (fun j => decide (j ∈ xs)) c))
theorem call_setS (hc : X.calm = true) : CallR X (.type "set") (nSetS X.w X.K) := by
  intro pins s σ H vs us Q I r h
  obtain ⟨a, xs, rfl, hs, hl, q⟩ := h
  obtain ⟨its, rv, hli, _⟩ := I.list hs
  rw [Vals.ref1 r]
  have hn : H s.heap.objs.size = none := I.hok.fresh (Nat.le_refl _)
  refine tx_set (P := X.prog) (w := X.w) xs (I.ok.hd hc) hli.isList (by simpa using rv.strs) (by unfold scanBound; omega) fun h' tk c T hcl hk => ?_
  exact ⟨.ref _, upd H s.heap.objs.size (setO X.w s.heap.objs.size (fun j => decide (j ∈ xs)) c), I.laid (t' := tk) hk (Nat.le_refl _) (setO_new T), rfl, q _ c hn hcl⟩
/-- sorted(that set) -/
def nSortedSet (w : World) : List V → Hp → VK → Prop := fun vs H Q => ∃ (a : Addr) (f : Str → Bool) (n : Nat), vs = [.ref a] ∧ H a = some (setO w a f n) ∧ n ≤ 60 ∧
  ∀ (ys : List Str) p, H p = none → sortedS ys = true → ys.Nodup → (∀ k, k ∈ ys ↔ f k = true) → ys.length = n → Q (.ref p) (upd H p (.lst (ys.map V.str)))
theorem cr_sortedSetS (hc : X.calm = true) : CallR X (.builtin "sorted") (nSortedSet X.w) := by
  intro pins s σ H vs us Q I r h
  obtain ⟨a, f, n, rfl, ha, h60, q⟩ := h
  have R : TxSet X.w s.heap a f n := (I.hok a _ ha).1
  rw [Vals.ref1 r]
  refine tx_sorted (P := X.prog) R (I.ok.hd hc) (by omega) fun s2 p out c ys k g o hp hg hi hs hnd hm hl => ?_
  have hn : H p = none := I.hok.fresh hp
  have hlen : (ys.map V.str).length ≤ sizeLine := by
    rw [List.length_map, hl, sizeLine_eq]
    omega
  have J : Inv X pins σ (upd H p (.lst (ys.map V.str))) s2 := I.call' (ch := []) o (Un.laid k hp hn) (I.hok.laid k hp ⟨hlen, out.toList, c, vals_of_strs hi, hg⟩) (by rw [g]; exact I.bare) (fun _ z => nomatch z)
  exact ⟨.ref p, _, J, rfl, q ys p hn hs hnd hm hl⟩
end
end
set_option Elab.async false
set_option linter.all false
set_option maxRecDepth 100000
set_option maxHeartbeats 4000000
/-! Defs that are called where nothing is being shown (guards = some []): their promise, their call, repr. -/
section
open PySem PySem.Spec PyProof.Rows L2
open Evl (Ex given)
abbrev Calm (A : Around) : Prop := A.guards = some []
/-- a def's promise, where nothing is being shown -/
structure FnG (P : Program) (w : World) (K : PySem.W.Frag) (mg : Str → Option Value) (base : Heap) (k : Nat) (f : Addr) (fd : FuncData) (ps : List Str) (sp : Sp) : Prop where
  arity : ∀ vs H Q E, sp vs H Q E → vs.length = ps.length
  run : ∀ (A : Around) (outer : List Env) (s : Shared) (H : Hp) (args : Args) (us : List Value) (vs : List V) (Q : VK) (E : XK), Calm A → Room k A → Env0 P w K mg base A outer s H → BindsTo s fd args (ps.zip us) → Vals vs us →
    sp vs H Q E → codeAny (model P w) A (.call (.ref f) args) (CR (L2.CX P w) outer P w H s Q E) s
structure GoodG (P : Program) (w : World) (K : PySem.W.Frag) (mg : Str → Option Value) (base : Heap) (f : Addr) (k : Nat) (ps : List Str) (sp : Sp) : Prop where
  ex : ∃ fd, FnG P w K mg base k f fd ps sp ∧ Binds K fd ps []
  kp : PySem.W.keepIn K (.ref f) = true
abbrev GoodPG (P : Program) (w : World) (K : PySem.W.Frag) (mg : Str → Option Value) (base : Heap) (x : Str) (k : Nat) (ps : List Str) (sp : Sp) : Prop := GoodG P w K mg base (He.ga K x) k ps sp
/-- where the body's frame is entered -/
def entered {P : Program} {w : World} {K : PySem.W.Frag} {mg : Str → Option Value} {base : Heap} {N : List Str} {qual : Str} {scope : Scope} {f : Addr} {cdv : Value} {A : Around} {outer : List Env} {s : Shared} {H : Hp} {E : XK} (X : Cx) : Prop :=
  X = cxOf (L2.CX P w) P w K mg base N qual scope f cdv A outer s H E
section
variable {P : Program} {w : World} {K : PySem.W.Frag} {mg : Str → Option Value} {base : Heap} {f : Addr} {k : Nat} {ps : List Str} {sp : Sp}
theorem FnG.of_fn {x qual : Str} {params : Arguments} {body : List Stmt} {sc : Scope} {dvs : List V} {kws : List (Str × V)} {fd : FuncData} {N : List Str} (F : FunD K x qual params body sc dvs kws f fd) (S : FnScope N ps sc)
    (ar : ∀ vs H Q E, sp vs H Q E → vs.length = ps.length)
    (hbody : ∀ (cdv : Value) (A : Around) (outer : List Env) (s : Shared) (H : Hp) (vs : List V) (Q : VK) (E : XK), Calm A → Room k (A.deeper (envOfC qual sc s.heap.objs.size f cdv)) → sp vs H Q E →
      ∃ t, PSs (cxOf (L2.CX P w) P w K mg base N qual sc f cdv A outer s H E) body t ∧ t { nx := fun _ H' => Q .non H', rt := Q } (start N vs) H) : FnG P w K mg base (k + 1) f fd ps sp := by
  obtain ⟨oc, od, dV, kV, doc, pm, an, cdv, ct, osl, rfl, lk, hcd, _, _⟩ := F.ex
  refine ⟨ar, ?_⟩
  intro A outer s H args us vs Q E hg hr e0 hb rv hsp
  have inK : K.In s.heap := e0.mod.kin.keeps fun b o e => (e0.bs b o e).1
  have nolim : s.heap.NoLimit := e0.mod.nolimit.keeps fun b o e => (e0.bs b o e).1
  refine codeAny_call_function hr.depth (inK _ _ lk) rfl S.co S.gen rfl (PySem.W.codeRec_of inK hcd) (hb _ _ _ _ ?_)
  refine wpAny_newFunctionEnv_cells S.kind (fun y hy => ?_) fun env he s1 x => ?_
  · obtain ⟨n, v⟩ := y
    exact (S.par n (List.of_mem_zip hy).1).imp id fun q => ⟨q, PySem.W.cellsFrom_some _ _ _ (.inl q)⟩
  · subst he
    obtain ⟨t, ht, hq⟩ := hbody cdv A outer s H vs Q E hg (hr.deeper _) hsp
    refine ⟨nolim.keeps x.toInCall.keep, codeAny_func ?_⟩
    have I := inv_start (CX := L2.CX P w) (mg := mg) (E := E) S hr.hd e0 (ar _ _ _ _ hsp) rv x
    refine wpAny_mono (ht.run [] s1 (start N vs) H _ I hq) ?_ fun e s' z => z
    intro fl s' z
    cases fl with
    | next =>
      obtain ⟨σ', H', J, q⟩ := z
      exact ⟨V.non, H', J.os, J.bare, J.base, J.hok, (rfl : RelV V.non Value.none), q⟩
    | ret u =>
      obtain ⟨v, σ', H', J, r2, q⟩ := z
      exact ⟨v, H', J.os, J.bare, J.base, J.hok, r2, q⟩
    | brk => exact (z.choose_spec.choose_spec.2 : False).elim
    | cont => exact (z.choose_spec.choose_spec.2 : False).elim
/-- a def by its body -/
theorem goodG_of {x qual : Str} {st : Stmt} {fd : FuncData} {N : List Str} (F : FunD K x qual (defArgs st) (defBody st) (defScope st) [] [] f fd) (S : FnScope N ps (defScope st)) (ar : ∀ vs H Q E, sp vs H Q E → vs.length = ps.length)
    (hb : ∀ (kV doc pm : Value) (an : Option Addr) (cdv ct : Value) (us : List Value), us.length = ps.length → bindArgs (PySem.W.fnOf x qual (defArgs st) (defBody st) (defScope st) .none kV doc pm an cdv ct) ⟨us, []⟩ = pure (ps.zip us))
    (hbody : ∀ (cdv : Value) (A : Around) (outer : List Env) (s : Shared) (H : Hp) (vs : List V) (Q : VK) (E : XK), Calm A → Room k (A.deeper (envOfC qual (defScope st) s.heap.objs.size f cdv)) → sp vs H Q E →
      ∃ t, PSs (cxOf (L2.CX P w) P w K mg base N qual (defScope st) f cdv A outer s H E).nox (defBody st) t ∧ t { nx := fun _ H' => Q .non H', rt := Q } (start N vs) H) : GoodG P w K mg base f (k + 1) ps sp := by
  refine ⟨⟨fd, FnG.of_fn F S ar (fun cdv A outer s H vs Q E hg hr hsp => ?_), F.bindsN hb⟩, F.kp⟩
  obtain ⟨t, ht, hq⟩ := hbody cdv A outer s H vs Q E hg hr hsp
  exact ⟨t, ht.nox, hq⟩
/-- .. one whose body raises and catches -/
theorem goodG_ofX {x qual : Str} {st : Stmt} {fd : FuncData} {N : List Str} (F : FunD K x qual (defArgs st) (defBody st) (defScope st) [] [] f fd) (S : FnScope N ps (defScope st)) (ar : ∀ vs H Q E, sp vs H Q E → vs.length = ps.length)
    (hb : ∀ (kV doc pm : Value) (an : Option Addr) (cdv ct : Value) (us : List Value), us.length = ps.length → bindArgs (PySem.W.fnOf x qual (defArgs st) (defBody st) (defScope st) .none kV doc pm an cdv ct) ⟨us, []⟩ = pure (ps.zip us))
    (hbody : ∀ (cdv : Value) (A : Around) (outer : List Env) (s : Shared) (H : Hp) (vs : List V) (Q : VK) (E : XK), Calm A → Room k (A.deeper (envOfC qual (defScope st) s.heap.objs.size f cdv)) → sp vs H Q E →
      ∃ t, PSs (cxOf (L2.CX P w) P w K mg base N qual (defScope st) f cdv A outer s H E) (defBody st) t ∧ t { nx := fun _ H' => Q .non H', rt := Q } (start N vs) H) : GoodG P w K mg base f (k + 1) ps sp :=
  ⟨⟨fd, FnG.of_fn F S ar fun cdv A outer s H vs Q E hg hr hsp => hbody cdv A outer s H vs Q E hg hr hsp, F.bindsN hb⟩, F.kp⟩
end
section
variable {X : Cx} {k j : Nat} {f : Addr} {fd : FuncData} {ps : List Str} {sp : Sp} {x : Str} {p pos : Pos} {e : Expr} {es : List Expr} {t : TA}
/-- f(e, ..) of such a def -/
theorem pcallG (G : GoodG X.prog X.w X.K X.mg X.base f k ps sp) (hr : Room j X.A) (hg' : Calm X.A) (hm : X.mg x = some (.ref f)) (ha : PA X (e :: es) t) (hx : Passes (L2.CX X.prog X.w) X E0 := by exact passL) (hj : k ≤ j := by first | decide | omega) (hg : Gl X x := by rfl)
    (hdb : (x == ("__debug__" : Str)) = false := by decide) (he : starEach (e :: es) X.env = (false, eval e X.env) :: starEach es X.env := by rfl) (hpl : (backTo pos (starEach es X.env)).any (·.1) = false := by rfl) :
    PE X (.Call (.Name x p) (e :: es) [] pos) (tCall sp [] E0 t) := by
  obtain ⟨⟨fd, F, b⟩, kp⟩ := G
  refine ⟨fun pins s σ H Q I h => wpAny_Call_Name_kw (ld_glob I hg hm (PySem.W.callWith_K (h₀ := X.base) I.ok.mod.kin kp ?_ he hpl) hdb)⟩
  refine thn (ha.run pos pins s σ H _ I h) fun us s1 z => ?_
  obtain ⟨vs, H1, I1, rv, q⟩ := z
  have rv2 : Vals (vs ++ []) us := by
    rw [List.append_nil]
    exact rv
  have hl : (us ++ []).length = ps.length := by
    rw [List.append_nil, ← rv2.length]
    exact F.arity _ _ _ _ q
  have hb := b s1 us I1.kIn hl
  rw [List.append_nil] at hb
  refine ⟨I1.kIn, wpAny_call (codeAny_mono (F.run X.A X.stack s1 H1 ⟨us, []⟩ us (vs ++ []) Q E0 hg' (hr.mono hj) I1.env0 hb rv2 q) fun r s' z => ?_)⟩
  cases r with
  | ok fl =>
    cases fl with
    | ret u => exact I1.after z
    | next => exact (z : False).elim
    | brk => exact (z : False).elim
    | cont => exact (z : False).elim
  | error er => exact hx pins σ H1 s1 er s' I1 z
end
/-! ### repr -/
def nRepr (K : PySem.W.Frag) : List V → Hp → VK → Prop := fun xs H Q => ∃ v d, xs = [v] ∧ Dp K H v d ∧ d.showable = true ∧ d.hasDict = false ∧ d.depth ≤ 32 ∧ d.shown.length ≤ sizeLine ∧ (∀ i, d = .int i → i.natAbs.log2 < 1920) ∧ Q (.str d.shown) H
theorem call_reprD {X : Cx} (hc : Calm X.A) (hu : X.A.units + 64 < cLine) : CallR X (.builtin "repr") (nRepr X.K) := by
  intro pins s σ H xs us Q I r h
  obtain ⟨v, d, rfl, hd, hs, hn, hdp, hz, hi, q⟩ := h
  obtain ⟨u, rfl, ru⟩ := vals1 r
  obtain ⟨as, R⟩ := Dp.reads I d v u hd ru
  cases R with
  | none => exact PySem.P.repr_of_none ⟨.str _, H, I.tok _, ⟨_, rfl⟩, q⟩
  | bool b =>
    refine PySem.P.repr_of_bool ⟨.str (PyData.bool b).shown, H, I.tok _, ⟨s.toks, ?_⟩, q⟩
    cases b <;> rfl
  | int i t => exact PySem.P.repr_of_int (hi i rfl) ⟨.str _, H, I.tok _, ⟨_, rfl⟩, q⟩
  | str y t => exact PySem.P.repr_of_str ⟨.str _, H, I.tok _, ⟨_, rfl⟩, q⟩ hz
  | list h1 h2 h3 h4 =>
    refine repr_of_reads' (.list h1 h2 h3 h4) hs (fun z => by rw [hn] at z; cases z) hc (by omega) (fun b o e => e) (fun h' u tk hk => ?_) hz
    exact ⟨.str _, H, I.kept (t' := tk) hk, ⟨u, rfl⟩, q⟩
  | tuple h1 h2 h3 h4 =>
    refine repr_of_reads' (.tuple h1 h2 h3 h4) hs (fun z => by rw [hn] at z; cases z) hc (by omega) (fun b o e => e) (fun h' u tk hk => ?_) hz
    exact ⟨.str _, H, I.kept (t' := tk) hk, ⟨u, rfl⟩, q⟩
  | dict h1 h2 h3 h4 h5 => exact absurd hn (by simp [PyData.hasDict])
end
end Eg
namespace Eg
set_option Elab.async false
set_option linter.all false
set_option maxRecDepth 100000
set_option maxHeartbeats 4000000
/-! The law's texts of told series; what is in. -/
open PySem PySem.Spec PyProof.Rows L2
open Evl (Ex given)
section
variable {K : PySem.W.Frag} {σ : L2.St} {H : Hp} {Q : VK} {te : TE} {tr : TA} {D : Ends} {a : Addr} {xs : List V} {i j l : Nat}
theorem r_revL (h : te σ H fun x H1 => ∃ a xs, x = .ref a ∧ SqL K H1 a xs ∧ ∀ p, H1 p = none → Q (.ref p) (upd H1 p (.lst xs.reverse))) : tRevL K te σ H Q := h
theorem x_revL (h : SqL K H a xs) (q : ∀ p, H p = none → Q (.ref p) (upd H p (.lst xs.reverse))) : ∃ a' xs', V.ref a = .ref a' ∧ SqL K H a' xs' ∧ ∀ p, H p = none → Q (.ref p) (upd H p (.lst xs'.reverse)) := ⟨a, xs, rfl, h, q⟩
theorem r_par3 (h : tr σ H fun vs H1 => ∃ u v w, vs = [u, v, w] ∧ D.nx (((σ.set i (some u)).set j (some v)).set l (some w)) H1) : tPar3 i j l tr D σ H := h
theorem x_three {u v w : V} {R : V → V → V → Prop} (h : R u v w) : ∃ u' v' w', [u, v, w] = [u', v', w'] ∧ R u' v' w' := ⟨u, v, w, rfl, h⟩
theorem r_isiL (h : H a = some (.lst xs)) (q : Q (.bl true) H) : rIsi K [.ref a, .ty "list"] H Q := ⟨_, _, _, _, true, rfl, .ty _, .base (.lst h), rfl, q⟩
end
local macro_rules | `(tactic| walk_at "ln") => `(tactic| first
  | assumption
  | omega
  | (simp only [S_len, str_len_app, str_len_nil, List.length_cons, List.length_append, List.length_nil, List.length_map]; omega))
local macro_rules | `(tactic| walk_at "ne") => `(tactic| first
  | assumption
  | exact Ne.symm (by assumption)
  | exact ne_of_none (by assumption) (by assumption)
  | exact Ne.symm (ne_of_none (by assumption) (by assumption))
  | exact ne_of (by assumption) (by assumption) (by intro z; cases z))
local macro_rules | `(tactic| walk_at "hp") => `(tactic| first
  | assumption
  | exact upd_same
  | ((with_reducible refine' Eq.trans (upd_ne ?hn) ?hr); (case hn => walk_at "ne"); (case hr => walk_at "hp"))
  | ((with_reducible refine' ex_at ?hn ?hr); (case hn => assumption); (case hr => walk_at "hp")))
local macro_rules | `(tactic| walk_at "cc") => `(tactic| first | omega | (dsimp only; omega) | decide | (unfold CPow; omega) | (unfold CMul; omega) | (unfold CDiv; omega) | (dsimp only; decide))
local macro_rules | `(tactic| walk_at "sq") => `(tactic| first | assumption | ((with_reducible apply SqL.of); walk_at "hp") | ((with_reducible apply SqT.of); walk_at "hp"))
local macro_rules | `(tactic| walk_at "v1") => `(tactic| first
  | ((with_reducible refine' r_var ?hv ?_); (case hv => exact rfl))
  | (with_reducible refine r_c ?_) | (with_reducible refine r_op ?_) | (with_reducible refine r_cons ?_) | (with_reducible refine r_nil ?_) | (with_reducible refine r_cb ?_) | (with_reducible refine r_call ?_) | (with_reducible refine r_un ?_)
  | (with_reducible refine r_seq ?_) | (with_reducible refine r_asg ?_) | (with_reducible refine r_gname ?_) | (with_reducible refine r_ret ?_) | (with_reducible refine r_retN ?_) | (with_reducible refine r_next ?_) | (with_reducible refine r_cont ?_) | (with_reducible refine r_drop ?_) | (with_reducible refine r_ifs ?_) | (with_reducible refine r_par ?_) | (with_reducible refine x_two ?_)
  | (with_reducible refine r_I0 ?_) | (with_reducible refine r_neg ?_) | ((with_reducible refine r_eq ?hv ?_); (case hv => exact rfl)) | ((with_reducible refine r_ne ?hv ?_); (case hv => exact rfl))
  | (with_reducible refine r_test ?_) | (with_reducible refine r_B ?_) | (with_reducible refine r_and ?_) | (with_reducible refine r_or ?_) | (with_reducible refine r_not ?_) | (with_reducible refine r_yes ?_) | (with_reducible refine r_ifE ?_)
  | (with_reducible refine r_andV ?_) | (with_reducible refine r_orV ?_) | (with_reducible refine r_notV ?_) | (with_reducible refine x_bl ?_)
  | (with_reducible refine r_meth ?_) | (with_reducible refine r_make ?_) | (with_reducible refine r_tup ?_) | (with_reducible refine r_lst ?_) | (with_reducible refine r_dnew ?_) | (with_reducible refine r_sfld ?_) | (with_reducible refine r_fldA ?_) | (with_reducible refine iteT ?_) | (with_reducible refine iteF ?_) | (with_reducible refine iteNf ?_) | (with_reducible refine iteNt ?_)
  | ((with_reducible refine' x_at ?hv ?_); (case hv => assumption))
  | ((with_reducible refine' r_lenS ?hv ?_); (case hv => walk_at "ln")) | ((with_reducible refine' r_lenL ?hv ?_); (case hv => walk_at "sq")) | ((with_reducible refine' r_lenT ?hv ?_); (case hv => walk_at "sq"))
  | (with_reducible refine r_inS ?_) | (with_reducible refine r_ninS ?_) | (with_reducible refine r_isN ?_) | (with_reducible refine r_notN ?_)
  | (with_reducible refine r_bm ?_) | ((with_reducible refine' x_tyL ?hv ?_); (case hv => walk_at "sq")) | (with_reducible refine r_for ?_) | (with_reducible refine i_str ?_) | (with_reducible refine x_str ?_)
  | (with_reducible refine i_tup ?_) | (with_reducible refine i_list ?_) | ((with_reducible refine' x_itup ?hv ?_); (case hv => walk_at "sq")) | ((with_reducible refine' x_ilist ?hv ?_); (case hv => walk_at "sq"))
  | ((with_reducible refine' g_tup ?hv ?hl ?_); (case hv => walk_at "sq"); (case hl => exact rfl)) | (with_reducible refine g_cons ?_) | (with_reducible refine g_nil ?_) | (with_reducible refine r_lc ?_)
  | (with_reducible refine r_star ?_) | ((with_reducible refine' x_starT ?hv ?_); (case hv => walk_at "sq")) | ((with_reducible refine' r_cat ?h1 ?h2 ?hv ?_); (case h1 => walk_at "hp"); (case h2 => walk_at "hp"); (case hv => walk_at "ln"))
  | ((with_reducible refine' r_shl ?hv ?_); (case hv => walk_at "ln")) | (with_reducible refine r_shr ?_) | (with_reducible refine r_andN ?_) | (with_reducible refine r_orN ?_) | (with_reducible refine r_xorN ?_)
  | (with_reducible refine i_enum ?_) | ((with_reducible refine' x_enum ?hv ?_); (case hv => walk_at "sq")) | (with_reducible refine r_dget ?_)
  | (with_reducible refine r_bget2 ?_) | ((with_reducible refine' x_bits ?hv ?_); (case hv => assumption)) | ((with_reducible refine' r_slL ?hv ?_); (case hv => walk_at "sq"))
  | (with_reducible refine r_int1 ?_) | (with_reducible refine r_intB ?_) | (with_reducible refine r_abs ?_) | (with_reducible refine r_max2 ?_) | (with_reducible refine r_min2 ?_) | (with_reducible refine i_rng1 ?_) | ((with_reducible refine' x_rng1 ?h1 ?h2 ?_); (case h1 => walk_at "cc"); (case h2 => walk_at "cc"))
  | ((with_reducible refine' r_I ?hc ?_); (case hc => walk_at "cc")) | ((with_reducible refine' r_listL ?hv ?_); (case hv => walk_at "sq")) | (with_reducible refine r_gsub ?_) | (with_reducible refine r_din ?_) | (with_reducible refine r_dnotin ?_) | (with_reducible refine r_dput ?_) | (with_reducible refine r_dc ?_)
  | ((with_reducible refine' r_setL ?hv ?hj ?_); (case hv => walk_at "hp"); (case hj => exact rfl)) | ((with_reducible refine' r_ixL ?hv ?ha ?_); (case hv => walk_at "sq"); (case ha => exact rfl))
  | (with_reducible refine r_m1 ?_) | (with_reducible refine x_isstr ?_) | (with_reducible refine r_fs ?_) | (with_reducible refine r_jsc ?_) | (with_reducible refine r_jsn ?_) | (with_reducible refine r_fmt ?_) | (with_reducible refine r_sl ?_) | (with_reducible refine o_none ?_) | (with_reducible refine o_part ?_) | (with_reducible refine x_int ?_)
  | ((with_reducible refine' x_js ?hv ?_); (case hv => walk_at "ln")) | ((with_reducible refine' x_fmtS ?hv ?_); (case hv => walk_at "ln")) | ((with_reducible refine' r_split ?hb ?hv ?_); (case hb => exact rfl); (case hv => walk_at "ln")) | ((with_reducible refine' r_partition ?hb ?hv ?_); (case hb => exact rfl); (case hv => walk_at "ln")) | (with_reducible refine r_ends ?_)
  | ((with_reducible refine' x_sz ?hv ?_); (case hv => first | decide | walk_at "ln"))
  | ((with_reducible refine' r_addS ?hv ?_); (case hv => walk_at "ln"))
  | ((with_reducible refine' r_aug ?hv ?_); (case hv => exact rfl)))
local macro_rules | `(tactic| walk_at "v") => `(tactic| (repeat (walk_at "v1")))
local macro_rules | `(tactic| walk_at "v1") => `(tactic| first
  | ((with_reducible refine' r_unl ?hv ?hl ?_); (case hv => walk_at "sq"); (case hl => exact rfl))
  | (with_reducible refine r_dc ?_) | (with_reducible refine r_revL ?_) | ((with_reducible refine' x_revL ?hv ?_); (case hv => walk_at "sq")) | (with_reducible refine r_par3 ?_) | (with_reducible refine x_three ?_))
local macro_rules | `(tactic| walk_at "v1") => `(tactic| first
  | (with_reducible refine r_methK ?_))

section
variable {P : Program} {w : World} {K : PySem.W.Frag} {mg : Str → Option Value} {base : Heap}
def spTexts (K : PySem.W.Frag) : Sp := fun vs H Q _ => ∃ (a : Addr) (xs : List V) (rows : List Ser), vs = [.ref a] ∧ H a = some (.lst xs) ∧ Paired (SerAt K H) xs rows ∧ rows.length ≤ 1000 ∧
  ∀ p H', Ex H H' → H p = none → LstAt H' p (rows.map textL) → Q (.ref p) H'
theorem sc_law_texts : FnScope ["_law_series_here", "_law_one"] ["_law_series_here"] (defScope s_law_texts) := ⟨rfl, rfl, rfl, by decide +kernel, rfl, by decide +kernel, by decide +kernel⟩
theorem ok_law_texts (T : Txt K mg) : GoodP P w K mg base "_law_texts" 2 ["_law_series_here"] (spTexts K) := by
  have G_Series_text := ok_Series_text (P := P) (w := w) (base := base) T
  obtain ⟨fd, F⟩ := T.f_law_texts
  refine good_of F sc_law_texts (fun vs H Q E h => ?_) (fun _ _ _ _ _ _ us hl => match us, hl with | [_], _ => rfl) (fun cdv A outer s H vs Q E hr h => ?_)
  · obtain ⟨a, xs, rows, rfl, _⟩ := h
    rfl
  · obtain ⟨a, xs, rows, rfl, ha, hp, hl, k⟩ := h
    have hxl := Plen hp
    refine ⟨_, (pss_one (ps_ret (pe_ifExp (pt_val (pe_callB call_isi rfl T.z_isinstance (by decide +kernel) (pa_cons (pv 0) (pa_cons (pe_ty (n := "list") T.z_list (by decide +kernel)) pa_nil)))) (pe_lc (own := [("_law_one", 1)]) rfl sc_law_texts.nd (pi_list (pv 0)) (blkOk_by (N := ["_law_series_here", "_law_one"]) (sc := defScope s_law_texts) (by decide +kernel)) (fun _ _ _ _ _ => (pg_name (i := 1) sc_law_texts.nd rfl (Or.inl rfl))) (fun _ _ _ _ _ => pts_nil) (fun _ _ _ _ _ => (pmeth0 (pv 1) T.c_Series T.m_Series_text G_Series_text hr))) pe_non))), ?_⟩
    walk_at "v"
    refine r_isiL ha ?_
    walk_at "v"
    intro D hD
    refine lc_v walk_list (fun _ => true) (fun i => (rows.map fun r => vS (textL r)).getD i .non) hD (by omega) (fun H1 e1 => SqL.of (e1 _ _ ha)) ?_ (fun H1 e1 hd => ?_)
    · rintro N i x Ha Hb hi ea ⟨rfl, hx⟩ _ hyes
      obtain ⟨r, hr1, hxs⟩ := Pat hp hx
      have hxs' := hxs.ex ea
      obtain ⟨⟨b, dx, tp, qs, rfl, h2, _⟩, _⟩ := id hxs'
      walk_at "v"
      refine ⟨rfl, yes_ ?_⟩
      walk_at "v"
      refine ⟨is_ins h2 ((lk_tl (by decide +kernel)).trans ((lk_tl (by decide +kernel)).trans rfl)), ?_⟩
      walk_at "v"
      refine ⟨_, r, rfl, hxs', fun H3 e3 => ?_⟩
      have q := hyes rfl H3 e3
      rw [List.getD_eq_getElem?_getD, List.getElem?_map, hr1] at q
      exact q
    · have hg : given xs.length (fun _ => true) (fun i => (rows.map fun r => vS (textL r)).getD i .non) = (rows.map textL).map vS := by
        rw [hxl, given_all rows (fun r => vS (textL r))]
        · rw [List.map_map]
          rfl
        · intro i hi
          rw [List.getD_eq_getElem?_getD, List.getElem?_map, List.getElem?_eq_getElem hi]
          rfl
      rw [hg] at hd
      exact k D H1 e1 hD hd
/-! ### a table of series by their texts -/
def TabR (N : Addr → Prop) (H : Hp) (ss : List Ser) (m : List (Ser × V)) : Prop := (m.map fun x => textL x.1).Nodup ∧ (∀ x ∈ m, LSerN N H x.2 x.1 ∧ x.1 ∈ ss) ∧ (∀ s ∈ ss, ∃ x ∈ m, x.1 = s) ∧ m.length ≤ ss.length
theorem TabR.ex {N : Addr → Prop} {H H' : Hp} {ss : List Ser} {m : List (Ser × V)} (h : TabR N H ss m) (e : Ex H H') : TabR N H' ss m := ⟨h.1, fun x hx => ⟨(h.2.1 x hx).1.ex e, (h.2.1 x hx).2⟩, h.2.2⟩
theorem TabR.nil (N : Addr → Prop) (H : Hp) : TabR N H [] [] := ⟨List.nodup_nil, fun _ h => (nomatch h), fun _ h => (nomatch h), Nat.le_refl _⟩
theorem tab_put {N : Addr → Prop} {H : Hp} {ss : List Ser} {m : List (Ser × V)} {s : Ser} {v : V} (h : TabR N H ss m) (hv : LSerN N H v s) : ∃ m', putK (kvsOf m) (.inr (S (textL s))) v = kvsOf m' ∧ TabR N H (ss ++ [s]) m' := by
  obtain ⟨hn, hm, hs, hl⟩ := h
  by_cases c : textL s ∈ m.map fun x => textL x.1
  · refine ⟨m.map fun x => if textL x.1 = textL s then (x.1, v) else x, ?_, ?_, fun x hx => ?_, fun t ht => ?_, by rw [List.length_map, List.length_append]; omega⟩
    · have ha : ((kvsOf m).any fun kv => decide (kv.1 = (Sum.inr (S (textL s)) : Key))) = true := by
        obtain ⟨q, hq, e⟩ := List.mem_map.mp c
        refine List.any_eq_true.mpr ⟨(.inr (S (textL q.1)), q.2), List.mem_map.mpr ⟨q, hq, rfl⟩, ?_⟩
        rw [decide_eq_true_eq, e]
      unfold putK
      rw [if_pos ha]
      unfold kvsOf
      rw [List.map_map, List.map_map]
      refine List.map_congr_left fun x _ => ?_
      show (if (Sum.inr (S (textL x.1)) : Key) = .inr (S (textL s)) then ((Sum.inr (S (textL x.1)) : Key), v) else (.inr (S (textL x.1)), x.2)) = ((Sum.inr (S (textL (if textL x.1 = textL s then (x.1, v) else x).1)) : Key), (if textL x.1 = textL s then (x.1, v) else x).2)
      by_cases d : textL x.1 = textL s
      · rw [if_pos (by rw [d]), if_pos d]
      · rw [if_neg (fun z => d (S_inj (Sum.inr.inj z))), if_neg d]
    · rw [List.map_map]
      have e : m.map ((fun x : Ser × V => textL x.1) ∘ fun x => if textL x.1 = textL s then (x.1, v) else x) = m.map fun x => textL x.1 := List.map_congr_left fun x _ => by
        show textL (if textL x.1 = textL s then (x.1, v) else x).1 = textL x.1
        by_cases d : textL x.1 = textL s
        · rw [if_pos d]
        · rw [if_neg d]
      rw [e]
      exact hn
    · obtain ⟨y, hy, e⟩ := List.mem_map.mp hx
      obtain ⟨h1, h2⟩ := hm y hy
      by_cases d : textL y.1 = textL s
      · rw [if_pos d] at e
        rw [← e, textL_inj h1.ok hv.ok d]
        exact ⟨hv, by simp⟩
      · rw [if_neg d] at e
        rw [← e]
        exact ⟨h1, by simp [h2]⟩
    · have key : ∃ x ∈ m, x.1 = t := by
        rcases List.mem_append.mp ht with z | z
        · exact hs t z
        · rw [List.mem_singleton.mp z]
          obtain ⟨q, hq, e⟩ := List.mem_map.mp c
          exact ⟨q, hq, textL_inj (hm q hq).1.ok hv.ok e⟩
      obtain ⟨x, hx, e⟩ := key
      refine ⟨_, List.mem_map.mpr ⟨x, hx, rfl⟩, ?_⟩
      by_cases d : textL x.1 = textL s
      · rw [if_pos d]
        exact e
      · rw [if_neg d]
        exact e
  · refine ⟨m ++ [(s, v)], ?_, ?_, fun x hx => ?_, fun t ht => ?_, by simp; omega⟩
    · have ha : ¬ ((kvsOf m).any fun kv => decide (kv.1 = (Sum.inr (S (textL s)) : Key))) = true := fun z => by
        obtain ⟨q, hq, e⟩ := List.any_eq_true.mp z
        obtain ⟨x, hx, rfl⟩ := List.mem_map.mp hq
        rw [decide_eq_true_eq] at e
        exact c (List.mem_map.mpr ⟨x, hx, S_inj (Sum.inr.inj e)⟩)
      unfold putK
      rw [if_neg ha]
      unfold kvsOf
      rw [List.map_append]
      rfl
    · rw [List.map_append, List.nodup_append]
      refine ⟨hn, by simp, fun a ha b hb z => ?_⟩
      rw [List.map_singleton, List.mem_singleton] at hb
      rw [z, hb] at ha
      exact c ha
    · rcases List.mem_append.mp hx with z | z
      · exact ⟨(hm x z).1, by simp [(hm x z).2]⟩
      · rw [List.mem_singleton.mp z]
        exact ⟨hv, by simp⟩
    · rcases List.mem_append.mp ht with z | z
      · obtain ⟨x, hx, e⟩ := hs t z
        exact ⟨x, by simp [hx], e⟩
      · rw [List.mem_singleton.mp z]
        exact ⟨(s, v), by simp, rfl⟩
theorem tab_merge {N : Addr → Prop} {H : Hp} : ∀ (vs : List V) (ss : List Ser) (kvs : List (Key × V)) (s0 : List Ser) (m0 : List (Ser × V)), kvs = kvsOf (ss.zip vs) → Paired (LSerN N H) vs ss → TabR N H s0 m0 → ∃ m, mergeK (kvsOf m0) kvs = kvsOf m ∧ TabR N H (s0 ++ ss) m
  | [], [], kvs, s0, m0, hk, _, h => ⟨m0, by rw [hk]; rfl, by rw [List.append_nil]; exact h⟩
  | v :: vs, s :: ss, kvs, s0, m0, hk, hp, h => by
    cases hp with
    | cons hv ht =>
      obtain ⟨m1, e1, h1⟩ := tab_put h hv
      obtain ⟨m, e2, h2⟩ := tab_merge vs ss (kvsOf (ss.zip vs)) (s0 ++ [s]) m1 rfl ht h1
      refine ⟨m, ?_, ?_⟩
      · rw [hk]
        show mergeK (putK (kvsOf m0) (.inr (S (textL s))) v) (kvsOf (ss.zip vs)) = _
        rw [e1, e2]
      · rw [List.append_assoc] at h2
        exact h2
  | [], _ :: _, _, _, _, _, hp, _ => by cases hp
  | _ :: _, [], _, _, _, _, hp, _ => by cases hp
def spInside : Sp := fun vs H Q _ => ∃ (wa ha : Addr) (vs0 : List V) (ss : List Ser) (ts : Toks) (N : Addr → Prop), vs = [.ref wa, .ref ha] ∧ H wa = some (.lst vs0) ∧ Paired (LSerN N H) vs0 ss ∧ ss.length ≤ 40 ∧ LstAt H ha ts ∧
  ∀ p ys rows H', Ex H H' → H p = none → H' p = some (.lst ys) → Paired (LSerN N H') ys rows → RiseTx rows → (∀ s, s ∈ rows ↔ s ∈ ss ∧ textL s ∈ ts) → rows.length ≤ ss.length → Q (.ref p) H'
theorem sc_law_inside : FnScope ["_law_world", "_law_held", "_law_table", "_law_text", "_law_one"] ["_law_world", "_law_held"] (defScope s_law_inside) := ⟨rfl, rfl, rfl, by decide +kernel, rfl, by decide +kernel, by decide +kernel⟩
theorem ok_law_inside (T : Txt K mg) : GoodP P w K mg base "_law_inside" 2 ["_law_world", "_law_held"] spInside := by
  have G_law_shown := ok_law_shown (P := P) (w := w) (base := base) T
  obtain ⟨fd, F⟩ := T.f_law_inside
  refine good_of F sc_law_inside (fun vs H Q E h => ?_) (fun _ _ _ _ _ _ us hl => match us, hl with | [_, _], _ => rfl) (fun cdv A outer s H vs Q E hr h => ?_)
  · obtain ⟨wa, ha, vs0, ss, ts, N, rfl, _⟩ := h
    rfl
  · obtain ⟨wa, ha, vs0, ss, ts, N, rfl, hw, hp, hl, ht, k⟩ := h
    have hxl := Plen hp
    have hu := hu_of hr
    refine ⟨_, (pss_cons (ps_set (i := 2) sc_law_inside.nd rfl (Or.inr rfl) (pe_callTy (call_dictPN rfl) rfl T.z_dict (by decide +kernel) (pa_cons (pe_lc (own := [("_law_one", 4)]) rfl sc_law_inside.nd (pi_list (pv 0)) (blkOk_by (N := ["_law_world", "_law_held", "_law_table", "_law_text", "_law_one"]) (sc := defScope s_law_inside) (by decide +kernel)) (fun _ _ _ _ _ => (pg_name (i := 4) sc_law_inside.nd rfl (Or.inl rfl))) (fun _ _ _ _ _ => pts_nil) (fun _ _ _ _ _ => (pe_tup (pa_cons (pcall G_law_shown hr T.g_law_shown (pa_cons (pv 4) pa_nil)) (pa_cons (pv 4) pa_nil))))) pa_nil)))
    (pss_one (ps_ret (pe_lc (own := [("_law_text", 3)]) rfl sc_law_inside.nd (pi_list (pe_callB (call_sortedD rfl) rfl T.z_sorted (by decide +kernel) (pa_cons (pv 2) pa_nil))) (blkOk_by (N := ["_law_world", "_law_held", "_law_table", "_law_text", "_law_one"]) (sc := defScope s_law_inside) (by decide +kernel)) (fun _ _ _ _ _ => (pg_name (i := 3) sc_law_inside.nd rfl (Or.inl rfl))) (fun _ _ _ _ _ => (pts_one (pt_cmpR (op_in_seqK (K := K) rfl) (pv 3) (pv 1) (by rfl)))) (fun _ _ _ _ _ => (pe_dget hu (pv 2) (pv 3) (fun _ _ => rfl))))))), ?_⟩
    walk_at "v"
    intro D hD
    refine lc_rel walk_list (fun _ => true) (fun i y H' => ∃ q s v, y = .ref q ∧ q ≠ D ∧ ss[i]? = some s ∧ vs0[i]? = some v ∧ H' q = some (.tup [vS (textL s), v])) hD (by omega) (fun H1 e1 => SqL.of (e1 _ _ hw)) ?_ ?_ (fun H1 ys e1 hd hpr => ?_)
    · rintro i y Ha Hb e ⟨q, s, v, rfl, hq, h1, h2, h3⟩
      exact ⟨q, s, v, rfl, hq, h1, h2, e _ _ h3 (by simpa using hq)⟩
    · rintro N' i x Ha Hb hi ea ⟨acc0, hacc0⟩ ⟨rfl, hx⟩ _ hyes
      obtain ⟨s1, hs1, hxs⟩ := Pat hp hx
      have hxs' := (hxs.ex ea).ser
      walk_at "v"
      refine ⟨rfl, yes_ ?_⟩
      walk_at "v"
      refine ⟨x, s1, rfl, hxs', fun H3 e3 => ?_⟩
      walk_at "v"
      intro q hq
      have hD3 := e3 _ _ hacc0
      exact hyes rfl (.ref q) _ (Ex.mut e3 (ex_none e3 hq)) ⟨q, s1, x, rfl, (ne_of_none hD3 hq).symm, hs1, hx, upd_same⟩
    · rw [hxl] at hpr
      obtain ⟨hyl, hy⟩ := Prange hpr
      obtain ⟨qs, rfl, hqs⟩ := refs_list (ys := ys) (R := fun i q => ∃ s v, q ≠ D ∧ ss[i]? = some s ∧ vs0[i]? = some v ∧ H1 q = some (.tup [vS (textL s), v])) fun i y hy1 => by
        obtain ⟨q, s, v, e, r⟩ := hy i y hy1
        exact ⟨q, e, s, v, r⟩
      rw [List.length_map] at hyl
      have hp1 := Pimp hp fun v s h => h.ex e1
      obtain ⟨m, em, hm1, hm2, hm3, hm4⟩ := tab_merge vs0 ss _ [] [] rfl hp1 (TabR.nil N H1)
      rw [List.nil_append] at hm2 hm3 hm4
      refine ⟨D, qs, kvsOf (ss.zip vs0), rfl, SqL.of hd, ?_, fun dd hdd => ?_⟩
      · refine Pof (by unfold kvsOf; rw [List.length_map, List.length_zip]; omega) fun i q kv h1 h2 => ?_
        obtain ⟨s, v, _, h3, h4, h5⟩ := hqs i q h1
        have h6 : (ss.zip vs0)[i]? = some (s, v) := by
          rw [List.getElem?_zip_eq_some]
          exact ⟨h3, h4⟩
        unfold kvsOf at h2
        rw [List.getElem?_map, h6] at h2
        cases h2
        exact SqT.of h5
      · rw [show mergeK [] (kvsOf (ss.zip vs0)) = kvsOf m from em]
        have y2 := Ex.mut (Ex.refl H1) hdd (o := .dK (kvsOf m))
        have hd2 : upd H1 dd (.dK (kvsOf m)) dd = some (.dK (kvsOf m)) := upd_same
        obtain ⟨H2, hH2⟩ : ∃ H2, H2 = upd H1 dd (.dK (kvsOf m)) := ⟨_, rfl⟩
        rw [← hH2] at y2 hd2 ⊢
        walk_at "v"
        refine ⟨dd, _, (m.map fun x => textL x.1).map S, rfl, .inl hd2, ?_, ?_, fun zs q hperm hsort hq => ?_⟩
        · unfold kvsOf
          rw [List.map_map, List.map_map, List.map_map]
          rfl
        · rw [List.length_map, List.length_map]
          omega
        · obtain ⟨l, lp, lr, rfl⟩ := rise_of (l := m.map (·.1)) hsort (hperm.trans (by rw [List.map_map, List.map_map]; exact List.Perm.refl _)) (by rw [List.map_map]; exact hm1)
          have y3 := Ex.mut (Ex.refl H2) hq (o := .lst ((l.map fun s => S (textL s)).map V.str))
          have hq3 : upd H2 q (.lst ((l.map fun s => S (textL s)).map V.str)) q = some (.lst (l.map fun s => vS (textL s))) := by
            rw [upd_same, List.map_map]
            rfl
          obtain ⟨H3, hH3⟩ : ∃ H3, H3 = upd H2 q (.lst ((l.map fun s => S (textL s)).map V.str)) := ⟨_, rfl⟩
          rw [← hH3] at y3 hq3 ⊢
          have e03 := (e1.trans y2).trans y3
          have hd3 := y3 _ _ hd2
          have hts3 := e03 _ _ ht
          have hll : l.length = m.length := by rw [lp.length_eq, List.length_map]
          refine ⟨q, rfl, ⟨_, SqL.of hq3⟩, fun D2 hD2 => ?_⟩
          have pick : ∀ s ∈ l, ∃ v, valV (kvsOf m) (.inr (S (textL s))) = some v ∧ LSerN N H1 v s ∧ s ∈ ss := fun s hs => by
            obtain ⟨x, hx, rfl⟩ := List.mem_map.mp (lp.mem_iff.mp hs)
            obtain ⟨i, hi, e⟩ := List.getElem_of_mem hx
            exact ⟨x.2, kvs_at hm1 (by rw [List.getElem?_eq_getElem hi, e]), hm2 x hx⟩
          refine lc_v (walk_list (xs := l.map fun s => vS (textL s))) (fun i => ((l[i]?).map fun s => decide (textL s ∈ ts)).getD false) (fun i => ((l[i]?).bind fun s => valV (kvsOf m) (.inr (S (textL s)))).getD .non) hD2 (by rw [List.length_map]; omega) (fun H4 e4 => SqL.of (e4 _ _ hq3)) ?_ (fun H4 e4 hd4 => ?_)
          · rintro N2 i x Ha Hb hi ea ⟨rfl, hx⟩ hno hyes
            obtain ⟨s, hs, rfl⟩ : ∃ s, l[i]? = some s ∧ x = vS (textL s) := by
              rw [List.getElem?_map] at hx
              cases e : l[i]? with
              | none =>
                rw [e] at hx
                cases hx
              | some s =>
                rw [e] at hx
                exact ⟨s, rfl, (Option.some.inj hx).symm⟩
            obtain ⟨v, hv, _, _⟩ := pick s (List.mem_of_getElem? hs)
            simp only [hs, Option.map_some, Option.getD_some, Option.bind_some, hv] at hno hyes
            have htb := ea _ _ hts3
            have hdb := ea _ _ hd3
            walk_at "v"
            refine ⟨rfl, ?_⟩
            walk_at "v"
            refine r_inLS (SqL.of htb) ?_
            walk_at "v"
            refine ite2 (fun c => ?_) (fun c => ?_)
            · walk_at "v"
              exact x_dget hdb hv (hyes c Hb (Ex.refl _))
            · exact hno (by simpa using c) Hb (Ex.refl _)
          · have hlm : (l.map fun s => vS (textL s)).length = l.length := List.length_map _
            have hg := given_map l (fun s => decide (textL s ∈ ts)) (fun s => (valV (kvsOf m) (.inr (S (textL s)))).getD .non) (fun i => ((l[i]?).map fun s => decide (textL s ∈ ts)).getD false) (fun i => ((l[i]?).bind fun s => valV (kvsOf m) (.inr (S (textL s)))).getD .non)
              (fun i hi => by rw [List.getElem?_eq_getElem hi]; rfl) (fun i hi _ => by rw [List.getElem?_eq_getElem hi]; rfl)
            rw [hlm, hg] at hd4
            refine k D2 _ (l.filter fun s => decide (textL s ∈ ts)) H4 (e03.trans e4) (ex_none e03 hD2) hd4 ?_ (riseTx_filter lr _) (fun s => ?_) ?_
            · have key : ∀ l2 : List Ser, (∀ s ∈ l2, s ∈ l) → Paired (LSerN N H4) (l2.map fun s => (valV (kvsOf m) (.inr (S (textL s)))).getD .non) l2 := by
                intro l2
                induction l2 with
                | nil => intro _; exact .nil
                | cons s l2 ih =>
                  intro h
                  obtain ⟨v, hv, hs, _⟩ := pick s (h s (by simp))
                  refine .cons ?_ (ih fun t ht2 => h t (by simp [ht2]))
                  show LSerN N H4 ((valV (kvsOf m) (.inr (S (textL s)))).getD .non) s
                  rw [hv]
                  exact hs.ex ((y2.trans y3).trans e4)
              exact key _ fun s hs => (List.mem_filter.mp hs).1
            · rw [List.mem_filter, decide_eq_true_eq, lp.mem_iff]
              refine and_congr_left fun _ => ⟨fun z => ?_, fun z => ?_⟩
              · obtain ⟨x, hx, rfl⟩ := List.mem_map.mp z
                exact (hm2 x hx).2
              · obtain ⟨x, hx, rfl⟩ := hm3 s z
                exact List.mem_map.mpr ⟨x, hx, rfl⟩
            · have := List.length_filter_le (fun s => decide (textL s ∈ ts)) l
              omega
end
set_option Elab.async false
set_option linter.all false
set_option maxRecDepth 100000
set_option maxHeartbeats 4000000
/-! What an index is due to tell. -/
section
open PySem PySem.Spec PyProof.Rows L2
open Evl (Ex given)

theorem lc_rows {K : PySem.W.Frag} {ra : Addr} {vs0 : List V} {rows : List Ser} {g : TG} {tt : TT} {te : TE} {vs : List Nat} {σ : L2.St} {H1 : Hp} {D : Addr} {Q : VK} (f : Ser → Bool) (v : Ser → V) (hw : H1 ra = some (.lst vs0)) (hp : Paired (LSer H1) vs0 rows) (hD : H1 D = none) (hn : rows.length ≤ 1000)
    (hs : ∀ (N : Hp → Prop) (x : V) (s : Ser) (Ha : Hp), s ∈ rows → LSer Ha x s → Ex H1 Ha → (f s = false → ∀ H2, Ex Ha H2 → N H2) →
      (f s = true → ∀ H2, Ex Ha H2 → ∃ acc, H2 D = some (.lst acc) ∧ acc.length < sizeLine ∧ N (upd H2 D (.lst (acc ++ [v s])))) →
      g x (wipe σ vs) Ha fun σ2 H2 => wipe σ2 vs = wipe σ vs ∧ tt σ2 H2 fun b H3 =>
        if b = true then te σ2 H3 fun y H4 => ∃ acc, H4 D = some (.lst acc) ∧ acc.length < sizeLine ∧ N (upd H4 D (.lst (acc ++ [y]))) else N H3)
    (hd : ∀ H, Ex H1 H → H D = some (.lst ((rows.filter f).map v)) → Q (.ref D) H) : LcW (Itl K ra) g tt te vs Q σ H1 D := by
  have hl := Plen hp
  refine lc_v (walk_list (xs := vs0)) (fun i => ((rows[i]?).map f).getD false) (fun i => ((rows[i]?).map v).getD .non) hD (by omega) (fun H2 e2 => SqL.of (e2 _ _ hw)) ?_ (fun H2 e2 h2 => hd H2 e2 ?_)
  · rintro N i x Ha Hb hi ea ⟨rfl, hx⟩ hno hyes
    obtain ⟨s, h1, h2⟩ := Pat hp hx
    simp only [h1, Option.map_some, Option.getD_some] at hno hyes
    exact hs N x s Hb (List.mem_of_getElem? h1) (h2.ex ea) ea hno hyes
  · rw [hl, given_map rows f v _ _ (fun i hi => by rw [List.getElem?_eq_getElem hi]; rfl) (fun i hi _ => by rw [List.getElem?_eq_getElem hi]; rfl)] at h2
    exact h2
theorem some_words (f : Ser → Option (List Nat)) : ∀ rows : List Ser, (rows.filter fun s => (f s).isSome).map (fun s => oV (f s)) = ((rows.filterMap f).map S).map V.str
  | [] => rfl
  | s :: r => by
    have ih := some_words f r
    cases e : f s with
    | none =>
      rw [List.filter_cons_of_neg (by rw [e]; exact Bool.false_ne_true), List.filterMap_cons_none e]
      exact ih
    | some z =>
      rw [List.filter_cons_of_pos (by rw [e]; rfl), List.filterMap_cons_some e, List.map_cons, List.map_cons, List.map_cons, ih, e]
      rfl
/-- lists of texts, one behind another -/
def DuesAt (H : Hp) (p : Addr) (L : List Toks) : Prop := ∃ qs : List Addr, H p = some (.lst (qs.map V.ref)) ∧ Paired (LstAt H) qs L
def WordsR (rows : List Ser) (k : List Nat) (ws : Toks) : Prop := ws.Pairwise (fun a b => a < b) ∧ ∀ x, x ∈ ws ↔ ∃ s ∈ rows, wordOf s k = some x
def dueL (rows : List Ser) (m : Mn) (k x : List Nat) (ws : Toks) : List Toks := [rows.map textL, (rows.filter m).map textL, (rows.filter fun s => decide (wordOf s k = some x)).map textL, ws]
section
variable {P : Program} {w : World} {K : PySem.W.Frag} {mg : Str → Option Value} {base : Heap}
def spDues : Sp := fun vs H Q _ => ∃ (ra : Addr) (vs0 : List V) (rows : List Ser) (l kk x : List Nat) (n : Nat) (m : Mn), vs = [.ref ra, vS l, vS kk, vS x] ∧ H ra = some (.lst vs0) ∧ Paired (LSer H) vs0 rows ∧ rows.length ≤ 40 ∧ l.length ≤ 2000 ∧ AnyP n (toks l) m ∧ (toks l).length ≤ 40 ∧
  ∀ p ws H', Ex H H' → WordsR rows kk ws → DuesAt H' p (dueL rows m kk x ws) → Q (.ref p) H'
theorem sc_law_dues : FnScope ["_law_rows", "_law_text", "_law_key", "_law_word_here", "_law_tree", "_law_meant", "_law_tagged", "_law_words", "_law_one"] ["_law_rows", "_law_text", "_law_key", "_law_word_here"] (defScope s_law_dues) := ⟨rfl, rfl, rfl, by decide +kernel, rfl, by decide +kernel, by decide +kernel⟩
theorem ok_law_dues (T : Txt K mg) : GoodP P w K mg base "_law_dues" 44 ["_law_rows", "_law_text", "_law_key", "_law_word_here"] spDues := by
  have G_law_shown := ok_law_shown (P := P) (w := w) (base := base) T
  have G_law_parts := ok_law_parts (P := P) (w := w) (base := base) T
  have G_law_word_of := ok_law_word_of (P := P) (w := w) (base := base) T
  have G_law_read := ok_law_read (P := P) (w := w) (base := base) T 40
  have G_law_means := ok_law_means (P := P) (w := w) (base := base) T 41
  obtain ⟨fd, F⟩ := T.f_law_dues
  refine good_of F sc_law_dues (fun vs H Q E h => ?_) (fun _ _ _ _ _ _ us hl => match us, hl with | [_, _, _, _], _ => rfl) (fun cdv A outer s H vs Q E hr h => ?_)
  · obtain ⟨ra, vs0, rows, l, kk, x, n, m, rfl, _⟩ := h
    rfl
  · obtain ⟨ra, vs0, rows, l, kk, x, n, m, rfl, hw, hp, hl, hll, hm, hk, k⟩ := h
    refine ⟨_, (pss_cons (ps_set (i := 4) sc_law_dues.nd rfl (Or.inr rfl) (pcall G_law_read hr T.g_law_read (pa_cons (pcall G_law_parts hr T.g_law_parts (pa_cons (pv 1) pa_nil)) pa_nil)))
    (pss_cons (ps_setLc (i := 5) (own := [("_law_one", 8)]) rfl sc_law_dues.nd rfl rfl (sw_true rfl rfl rfl (by decide +kernel)) (pi_list (pv 0)) (blkOk_by (N := ["_law_rows", "_law_text", "_law_key", "_law_word_here", "_law_tree", "_law_meant", "_law_tagged", "_law_words", "_law_one"]) (sc := defScope s_law_dues) (by decide +kernel)) (fun _ _ _ _ _ => (pg_name (i := 8) sc_law_dues.nd rfl (Or.inl rfl))) (fun _ _ _ _ _ => (pts_one (pt_val (pcall G_law_means hr T.g_law_means (pa_cons (pv 4) (pa_cons (pv 8) pa_nil)))))) (fun _ _ _ _ _ => (pcall G_law_shown hr T.g_law_shown (pa_cons (pv 8) pa_nil))))
    (pss_cons (ps_setLc (i := 6) (own := [("_law_one", 8)]) rfl sc_law_dues.nd rfl rfl (sw_true rfl rfl rfl (by decide +kernel)) (pi_list (pv 0)) (blkOk_by (N := ["_law_rows", "_law_text", "_law_key", "_law_word_here", "_law_tree", "_law_meant", "_law_tagged", "_law_words", "_law_one"]) (sc := defScope s_law_dues) (by decide +kernel)) (fun _ _ _ _ _ => (pg_name (i := 8) sc_law_dues.nd rfl (Or.inl rfl))) (fun _ _ _ _ _ => (pts_one (pt_cmpR op_eq (pcall G_law_word_of hr T.g_law_word_of (pa_cons (pv 8) (pa_cons (pv 2) pa_nil))) (pv 3) (nomark _)))) (fun _ _ _ _ _ => (pcall G_law_shown hr T.g_law_shown (pa_cons (pv 8) pa_nil))))
    (pss_cons (ps_set (i := 7) sc_law_dues.nd rfl (Or.inl rfl) (pe_callB (cr_sortedSetS rfl) rfl T.z_sorted (by decide +kernel) (pa_cons (pe_callTy (call_setS rfl) rfl T.z_set (by decide +kernel) (pa_cons (pe_lc (own := [("_law_one", 8)]) rfl sc_law_dues.nd (pi_list (pv 0)) (blkOk_by (N := ["_law_rows", "_law_text", "_law_key", "_law_word_here", "_law_tree", "_law_meant", "_law_tagged", "_law_words", "_law_one"]) (sc := defScope s_law_dues) (by decide +kernel)) (fun _ _ _ _ _ => (pg_name (i := 8) sc_law_dues.nd rfl (Or.inl rfl))) (fun _ _ _ _ _ => (pts_one (pt_cmpR op_notN1 (pcall G_law_word_of hr T.g_law_word_of (pa_cons (pv 8) (pa_cons (pv 2) pa_nil))) pe_non (nomark _)))) (fun _ _ _ _ _ => (pcall G_law_word_of hr T.g_law_word_of (pa_cons (pv 8) (pa_cons (pv 2) pa_nil))))) pa_nil)) pa_nil)))
    (pss_one (ps_ret (pe_lst (pa_cons (pe_lc (own := [("_law_one", 8)]) rfl sc_law_dues.nd (pi_list (pv 0)) (blkOk_by (N := ["_law_rows", "_law_text", "_law_key", "_law_word_here", "_law_tree", "_law_meant", "_law_tagged", "_law_words", "_law_one"]) (sc := defScope s_law_dues) (by decide +kernel)) (fun _ _ _ _ _ => (pg_name (i := 8) sc_law_dues.nd rfl (Or.inl rfl))) (fun _ _ _ _ _ => pts_nil) (fun _ _ _ _ _ => (pcall G_law_shown hr T.g_law_shown (pa_cons (pv 8) pa_nil)))) (pa_cons (pv 5) (pa_cons (pv 6) (pa_cons (pv 7) pa_nil))))))))))), ?_⟩
    walk_at "v"
    refine ⟨S l, rfl, by rw [S_len]; omega, fun p1 H1 hp1 e1 hl1 => ?_⟩
    walk_at "v"
    refine ⟨p1, toks l, n, m, rfl, hl1, hk, by decide, hm, fun tv H2 e2 ht => ?_⟩
    have hw2 := (e1.trans e2) _ _ hw
    have hp2 : Paired (LSer H2) vs0 rows := Pimp hp fun v s h => h.ex (e1.trans e2)
    walk_at "v"
    have hq : ∀ Ha, Ex H2 Ha → LTq Ha 41 tv m := fun Ha ea => (LTr.mono (ht H2 New.rfl) hk).ex ea
    intro D hD
    refine lc_rows m (fun s => vS (textL s)) hw2 hp2 hD (by omega) ?_ (fun H3 e3 h3 => ?_)
    · intro N y s Ha hs hy ea hno hyes
      walk_at "v"
      refine ⟨rfl, ?_⟩
      walk_at "v"
      refine ⟨tv, y, m, s, rfl, hq Ha ea, hy, fun Hc ec => x_bl ?_⟩
      refine ite2 (fun c => ?_) (fun c => hno (by simpa using c) Hc ec)
      walk_at "v"
      exact ⟨y, s, rfl, hy.ex ec, fun Hd ed => hyes c Hd (ec.trans ed)⟩
    · have hw3 := e3 _ _ hw2
      have hp3 : Paired (LSer H3) vs0 rows := Pimp hp2 fun v s h => h.ex e3
      walk_at "v"
      intro D2 hD2
      refine lc_rows (fun s => decide (wordOf s kk = some x)) (fun s => vS (textL s)) hw3 hp3 hD2 (by omega) ?_ (fun H4 e4 h4 => ?_)
      · intro N y s Ha hs hy ea hno hyes
        walk_at "v"
        refine ⟨rfl, ?_⟩
        walk_at "v"
        refine ⟨y, kk, s, rfl, hy, ?_⟩
        walk_at "v"
        have hsc : scal (oV (wordOf s kk)) (vS x) = true := by cases wordOf s kk <;> rfl
        refine r_eq hsc ?_
        have hd : decide (oV (wordOf s kk) = vS x) = decide (wordOf s kk = some x) := by
          cases wordOf s kk with
          | none => rfl
          | some z =>
            rw [decide_eq_decide]
            exact vS_eq.trans ⟨fun e => by rw [e], fun e => Option.some.inj e⟩
        rw [hd]
        refine x_bl ?_
        refine ite2 (fun c => ?_) (fun c => hno (by simpa using c) Ha (Ex.refl _))
        walk_at "v"
        exact ⟨y, s, rfl, hy, fun Hd ed => hyes c Hd ed⟩
      · have hw4 := e4 _ _ hw3
        have hp4 : Paired (LSer H4) vs0 rows := Pimp hp3 fun v s h => h.ex e4
        walk_at "v"
        intro D3 hD3
        refine lc_rows (fun s => (wordOf s kk).isSome) (fun s => oV (wordOf s kk)) hw4 hp4 hD3 (by omega) ?_ (fun H5 e5 h5 => ?_)
        · intro N y s Ha hs hy ea hno hyes
          walk_at "v"
          refine ⟨rfl, ?_⟩
          walk_at "v"
          refine ⟨y, kk, s, rfl, hy, ?_⟩
          walk_at "v"
          have hd : (!decide (oV (wordOf s kk) = V.non)) = (wordOf s kk).isSome := by
            cases wordOf s kk with
            | none => rfl
            | some z => rfl
          rw [hd]
          refine ite2 (fun c => ?_) (fun c => hno (by simpa using c) Ha (Ex.refl _))
          walk_at "v"
          exact ⟨y, kk, s, rfl, hy, hyes c Ha (Ex.refl _)⟩
        · have hw5 := e5 _ _ hw4
          have hp5 : Paired (LSer H5) vs0 rows := Pimp hp4 fun v s h => h.ex e5
          have hxs : (rows.filter fun s => (wordOf s kk).isSome).map (fun s => oV (wordOf s kk)) = (((rows.filterMap fun s => wordOf s kk).map S).map V.str) := some_words (fun s => wordOf s kk) rows
          rw [hxs] at h5
          have hxl : (rows.filterMap fun s => wordOf s kk).length ≤ rows.length := List.length_filterMap_le _ _
          walk_at "v"
          refine ⟨D3, _, rfl, SqL.of h5, by rw [List.length_map]; omega, fun p6 c6 hp6 hc6 => ?_⟩
          rw [List.length_map] at hc6
          have y6 := Ex.mut (Ex.refl H5) hp6 (o := setO w p6 (fun j => decide (j ∈ (rows.filterMap fun s => wordOf s kk).map S)) c6)
          have hs6 : upd H5 p6 (setO w p6 (fun j => decide (j ∈ (rows.filterMap fun s => wordOf s kk).map S)) c6) p6 = some (setO w p6 (fun j => decide (j ∈ (rows.filterMap fun s => wordOf s kk).map S)) c6) := upd_same
          obtain ⟨H6, hH6⟩ : ∃ H6, H6 = upd H5 p6 (setO w p6 (fun j => decide (j ∈ (rows.filterMap fun s => wordOf s kk).map S)) c6) := ⟨_, rfl⟩
          show tNil _ (upd H5 p6 (setO w p6 (fun j => decide (j ∈ (rows.filterMap fun s => wordOf s kk).map S)) c6)) _
          rw [← hH6] at y6 hs6 ⊢
          walk_at "v"
          refine ⟨p6, _, c6, rfl, hs6, by omega, fun ys p7 hp7 hsort hnd hmem hlen => ?_⟩
          have y7 := Ex.mut (Ex.refl H6) hp7 (o := .lst (ys.map V.str))
          have hs7 : LstAt (upd H6 p7 (.lst (ys.map V.str))) p7 (ys.map tl) := by
            show _ = _
            rw [upd_same, List.map_map]
            refine congrArg some (congrArg HO.lst (List.map_congr_left fun z _ => ?_))
            show V.str z = V.str (S (tl z))
            rw [S_tl]
          obtain ⟨H7, hH7⟩ : ∃ H7, H7 = upd H6 p7 (.lst (ys.map V.str)) := ⟨_, rfl⟩
          rw [← hH7] at y7 hs7 ⊢
          have e57 := y6.trans y7
          have hw7 := e57 _ _ hw5
          have hp7' : Paired (LSer H7) vs0 rows := Pimp hp5 fun v s h => h.ex e57
          walk_at "v"
          intro D8 hD8
          refine lc_rows (fun _ => true) (fun s => vS (textL s)) hw7 hp7' hD8 (by omega) ?_ (fun H8 e8 h8 => ?_)
          · intro N y s Ha hs hy ea hno hyes
            walk_at "v"
            refine ⟨rfl, yes_ ?_⟩
            walk_at "v"
            exact ⟨y, s, rfl, hy, fun Hd ed => hyes rfl Hd ed⟩
          · rw [List.filter_eq_self.mpr fun _ _ => rfl] at h8
            walk_at "v"
            intro p9 hp9
            have y9 := Ex.mut (Ex.refl H8) hp9 (o := .lst [V.ref D8, V.ref D, V.ref D2, V.ref p7])
            have e37 := ((e4.trans e5).trans e57).trans (e8.trans y9)
            have l2 : ∀ {r2 : List Ser}, r2.map (fun s => vS (textL s)) = (r2.map textL).map vS := fun {r2} => by
              rw [List.map_map]
              rfl
            refine k p9 (ys.map tl) _ ((e1.trans e2).trans (e3.trans e37)) ⟨sorted_rising hsort hnd, fun z => ?_⟩ ⟨[D8, D, D2, p7], upd_same, ?_⟩
            · have hz : z ∈ ys.map tl ↔ S z ∈ ys := ⟨fun h => by
                obtain ⟨q, hq2, e⟩ := List.mem_map.mp h
                rw [← e, S_tl]
                exact hq2, fun h => List.mem_map.mpr ⟨S z, h, rfl⟩⟩
              rw [hz, hmem, decide_eq_true_eq, List.mem_map]
              constructor
              · rintro ⟨q, hq2, e⟩
                obtain ⟨s, hs, e2⟩ := List.mem_filterMap.mp hq2
                exact ⟨s, hs, by rw [e2, S_inj e]⟩
              · rintro ⟨s, hs, e⟩
                exact ⟨z, List.mem_filterMap.mpr ⟨s, hs, e⟩, rfl⟩
            · rw [l2] at h3 h4 h8
              exact .cons (y9 _ _ h8) (.cons (e37 _ _ h3) (.cons (((e5.trans e57).trans (e8.trans y9)) _ _ h4) (.cons ((e8.trans y9) _ _ hs7) .nil)))
end
end
set_option Elab.async false
set_option linter.all false
set_option maxRecDepth 100000
set_option maxHeartbeats 4000000
/-! Methods called by keywords alone. -/
section
open PySem PySem.Spec PyProof.Rows L2
open Evl (Ex given)
def flipIf {α : Type} (b : Bool) (l : List α) : List α := if b = true then l.reverse else l
theorem vals_flip {b : Bool} {zs : List V} {ws : List Value} (h : Vals zs ws) : Vals (flipIf b zs) (flipIf b ws) := by
  cases b with
  | true => exact h.reverse
  | false => exact h
/-- o.m(k = v, ..) of n keywords; b: they stand in the other order -/
def tMethK (C : Addr) (m : Str) (sp : Sp) (n : Nat) (b : Bool) (ta : TE) (tk : TA) : TE := fun σ H Q => ta σ H fun x H1 => IsIns C m x H1 ∧ tk σ H1 fun zs H2 => zs.length = n ∧ sp (x :: flipIf b zs) H2 Q E0
section
variable {X : Cx} {k j : Nat} {f C : Addr} {ps ks : List Str} {sp : Sp} {m x qual : Str} {pos apos : Pos} {o : Expr} {kws : List Keyword} {ta : TE} {tk : TA} {params : Arguments} {body : List Stmt} {sc : Scope}
theorem pmethK {pl : Sem Bool} (he : PE X o ta) (c : Cls X.K C) (hm : Meth X.K C m f) (G : Good X.prog X.w X.K X.mg X.base f k ps sp) (D : ∃ fd, FunD X.K x qual params body sc [] [] f fd) (hr : Room j X.A) (b : Bool) (ks : List Str) (hk : PK X kws tk)
    (hb : ∀ (kV doc pm : Value) (an : Option Addr) (cdv ct u : Value) (ws : List Value), ws.length = ks.length → bindArgs (PySem.W.fnOf x qual params body sc .none kV doc pm an cdv ct) ⟨[u], ks.zip ws⟩ = pure (ps.zip (u :: flipIf b ws)))
    (hj : k ≤ j := by first | decide | omega) (hall : (backToKw pos (keywordEach kws X.env)).all (·.1.isSome) = true := by rfl) (hks : (backToKw pos (keywordEach kws X.env)).filterMap (·.1) = ks := by rfl)
    (hpl : ((backTo pos (starEach [] X.env)).any (·.1) || (backToKw pos (keywordEach kws X.env)).any (·.1.isNone)) = false := by rfl) (ht : MCall X o m apos pos [] kws pl := by rfl) :
    PE X (.Call (.Attribute o m apos) [] kws pos) (tMethK C m sp ks.length b ta tk) := by
  obtain ⟨⟨fd, F, _, lk⟩, kp⟩ := G
  obtain ⟨fd', FD⟩ := D
  obtain rfl := lk.one (stands_of FD)
  obtain ⟨oc, od, dV, kV, doc, pm, an, cdv, ct, osl, efd, _, _, hD, _⟩ := FD.ex
  obtain rfl : dV = .none := by
    rcases hD with ⟨_, q⟩ | ⟨q, _⟩
    · exact q
    · exact absurd rfl q
  refine ⟨fun pins s σ H Q I h => PySem.W.methodCall_KW (pl := pl) (thn (he.run pins s σ H _ I h) fun u s1 z => ?_) ht⟩
  obtain ⟨v, H1, I1, rv, ⟨a, dx, fs, rfl, ea, l⟩, q⟩ := z
  obtain rfl : u = Value.ref a := rv
  refine getmeth_ok I1 ea c hm l ?_
  refine PySem.W.callWith_KW0 (first := [.ref a]) (h₀ := X.base) I.ok.mod.kin kp hall (thn (hk.run pos pins s1 σ H1 _ I1 q) fun ws s2 z => ?_) hpl
  obtain ⟨zs, H2, I2, rz, hz, q2⟩ := z
  have rw2 : Vals (V.ref a :: flipIf b zs) (Value.ref a :: flipIf b ws) := .cons rfl (vals_flip rz)
  have hb2 : BindsTo s2 fd ⟨[Value.ref a], ks.zip ws⟩ (ps.zip (Value.ref a :: flipIf b ws)) := by
    rw [efd]
    exact .of_eq (hb kV doc pm an cdv ct _ ws (by rw [← rz.length]; exact hz))
  rw [hks]
  refine ⟨I2.kIn, wpAny_call (codeAny_mono (F.run X.A X.stack s2 H2 ⟨[Value.ref a], ks.zip ws⟩ _ _ Q E0 (hr.mono hj) I2.env0 hb2 rw2 q2) fun r s' z => ?_)⟩
  cases r with
  | ok fl =>
    cases fl with
    | ret u => exact I2.after z
    | next => exact (z : False).elim
    | brk => exact (z : False).elim
    | cont => exact (z : False).elim
  | error er => exact passL pins σ H2 s2 er s' I2 z
end
section
variable {C : Addr} {m : Str} {sp : Sp} {n : Nat} {b : Bool} {ta : TE} {tk : TA} {σ : L2.St} {H : Hp} {Q : VK}
theorem r_methK (h : ta σ H fun x H1 => IsIns C m x H1 ∧ tk σ H1 fun zs H2 => zs.length = n ∧ sp (x :: flipIf b zs) H2 Q E0) : tMethK C m sp n b ta tk σ H Q := h
end
end
set_option Elab.async false
set_option linter.all false
set_option maxRecDepth 100000
set_option maxHeartbeats 4000000
/-! What an index tells. -/
open PySem PySem.Spec PyProof.Rows L2
open Evl (Ex given)
local macro_rules | `(tactic| walk_at "v1") => `(tactic| first
  | (with_reducible refine r_methK ?_))

theorem rows_tru {sl : Slots} {rows r2 : List Ser} (hr : RiseTx rows) (hp : rows.Perm (occ sl)) (p : Ser → Bool) (h : r2.Perm ((occ sl).filter p)) (h2 : RiseTx r2) : r2 = rows.filter p :=
  riseTx_uniq h2 (riseTx_filter hr p) (h.trans (hp.filter p).symm)
theorem filter_tru (rows : List Ser) : rows.filter tru = rows := List.filter_eq_self.mpr fun _ _ => rfl
theorem told_lst {K : PySem.W.Frag} {H0 H : Hp} {v : V} {rows : List Ser} (h : ToldAt K H0 H v rows) : ∃ p vs, v = .ref p ∧ H0 p = none ∧ H p = some (.lst vs) ∧ Paired (SerAt K H) vs rows := h
theorem words_rows {sl : Slots} {rows : List Ser} {k : List Nat} {ws : Toks} (hp : rows.Perm (occ sl)) (h : WordsOf sl k ws) : WordsR rows k ws := by
  refine ⟨h.1, fun x => (h.2 x).trans ⟨?_, ?_⟩⟩
  · rintro ⟨s, hs, e⟩
    exact ⟨s, hp.mem_iff.mpr hs, e⟩
  · rintro ⟨s, hs, e⟩
    exact ⟨s, hp.mem_iff.mp hs, e⟩
section
variable {P : Program} {w : World} {K : PySem.W.Frag} {mg : Str → Option Value} {base : Heap}
/-- a selection is made -/
theorem sel_made {x dx : Addr} {l : List Nat} {m : Mn} {H : Hp} {R : Hp → Prop} {E : XK} (hx : H x = none) (hd : H dx = none) (hne : dx ≠ x) (hl : l.length ≤ 2000) (hm : AnyP 2 (toks l) m) (hk : (toks l).length ≤ 40) (q : ∀ H', Ex H H' → SelAt K H' (.ref x) m → R H') :
    spSelInit K (.ref x :: [vS l]) (upd (upd H dx (.own x)) x (.ins (He.ga K "Selection") dx [])) (fun v H2 => v = .non ∧ R H2) E := by
  refine ⟨x, dx, S l, m, rfl, upd_same, by rw [S_len]; omega, hm, hk, fun tv H' h1 h2 h3 => ⟨rfl, q H' (made_ex hx hd h3) ⟨x, dx, tv, _, rfl, h1, h2⟩⟩⟩
def spLTold (P : Program) (w : World) (K : PySem.W.Frag) : Sp := fun vs H Q _ => ∃ (a sa ka ba : Addr) (sl : Slots) (l kk x : List Nat) (named : Bool) (rows : List Ser) (m : Mn), vs = [.ref a, vS l, vS kk, vS x, .bl named] ∧ IdxAt P w K H a sa ka ba sl ∧ RiseTx rows ∧ rows.Perm (occ sl) ∧ rows.length ≤ 40 ∧
  l.length ≤ 2000 ∧ AnyP 2 (toks l) m ∧ (toks l).length ≤ 40 ∧ isName (S kk) = true ∧ isWord (S x) = true ∧ ∀ p ws H', Ex H H' → WordsR rows kk ws → DuesAt H' p (dueL rows m kk x ws) → Q (.ref p) H'
theorem sc_law_told : FnScope ["_law_index", "_law_text", "_law_key", "_law_word_here", "_law_named", "_law_made", "_law_found"] ["_law_index", "_law_text", "_law_key", "_law_word_here", "_law_named"] (defScope s_law_told) := ⟨rfl, rfl, rfl, by decide +kernel, rfl, by decide +kernel, by decide +kernel⟩
theorem ok_law_told (T : Txt K mg) : GoodP P w K mg base "_law_told" 16 ["_law_index", "_law_text", "_law_key", "_law_word_here", "_law_named"] (spLTold P w K) := by
  have G_Selection_init := ok_Selection_init (P := P) (w := w) (base := base) T
  have G_Index_words := ok_Index_words (P := P) (w := w) (base := base) T
  have G_Index_of_tag := ok_Index_of_tag (P := P) (w := w) (base := base) T
  have G_Index_chosen := ok_Index_chosen (P := P) (w := w) (base := base) T
  have G_Index_series := ok_Index_series (P := P) (w := w) (base := base) T
  have G_law_texts := ok_law_texts (P := P) (w := w) (base := base) T
  obtain ⟨fd, F⟩ := T.f_law_told
  refine good_of F sc_law_told (fun vs H Q E h => ?_) (fun _ _ _ _ _ _ us hl => match us, hl with | [_, _, _, _, _], _ => rfl) (fun cdv A outer s H vs Q E hr h => ?_)
  · obtain ⟨a, sa, ka, ba, sl, l, kk, x, named, rows, m, rfl, _⟩ := h
    rfl
  · obtain ⟨a, sa, ka, ba, sl, l, kk, x, named, rows, m, rfl, hi, hrt, hrp, hl, hll, hm, hk, hkn, hxw, k⟩ := h
    refine ⟨_, (pss_cons (ps_set (i := 5) sc_law_told.nd rfl (Or.inl rfl) (pmake T.mk_Selection G_Selection_init hr T.g_Selection (pa_cons (pv 1) pa_nil)))
    (pss_cons (ps_if (pt_val (pv 4)) (pss_cons (ps_set (i := 6) sc_law_told.nd rfl (Or.inl rfl) (pe_lst (pa_cons (pmethK (pv 0) T.c_Index T.m_Index_words G_Index_words T.f_Index_words hr false ["key"] (pk_cons (pv 2) pk_nil) (fun _ _ _ _ _ _ _ ws hl => match ws, hl with | [_], _ => rfl)) (pa_cons (pcall G_law_texts hr T.g_law_texts (pa_cons (pmethK (pv 0) T.c_Index T.m_Index_of_tag G_Index_of_tag T.f_Index_of_tag hr true ["word", "key"] (pk_cons (pv 3) (pk_cons (pv 2) pk_nil)) (fun _ _ _ _ _ _ _ ws hl => match ws, hl with | [_, _], _ => rfl)) pa_nil)) pa_nil))))
    (pss_cons (ps_set (i := 6) sc_law_told.nd rfl (Or.inl rfl) (pe_op op_cat (pv 6) (pe_lst (pa_cons (pcall G_law_texts hr T.g_law_texts (pa_cons (pmethK (pv 0) T.c_Index T.m_Index_chosen G_Index_chosen T.f_Index_chosen hr false ["selection"] (pk_cons (pv 5) pk_nil) (fun _ _ _ _ _ _ _ ws hl => match ws, hl with | [_], _ => rfl)) pa_nil)) (pa_cons (pcall G_law_texts hr T.g_law_texts (pa_cons (pmeth0 (pv 0) T.c_Index T.m_Index_series G_Index_series hr) pa_nil)) pa_nil)))))
    (pss_one (ps_ret (pe_revL (pv 6)))))) pss_nil)
    (pss_cons (ps_set (i := 6) sc_law_told.nd rfl (Or.inl rfl) (pe_lst (pa_cons (pcall G_law_texts hr T.g_law_texts (pa_cons (pmeth0 (pv 0) T.c_Index T.m_Index_series G_Index_series hr) pa_nil)) (pa_cons (pcall G_law_texts hr T.g_law_texts (pa_cons (pmeth (pv 0) T.c_Index T.m_Index_chosen G_Index_chosen hr (pa_cons (pv 5) pa_nil)) pa_nil)) (pa_cons (pcall G_law_texts hr T.g_law_texts (pa_cons (pmeth (pv 0) T.c_Index T.m_Index_of_tag G_Index_of_tag hr (pa_cons (pv 2) (pa_cons (pv 3) pa_nil))) pa_nil)) pa_nil)))))
    (pss_one (ps_ret (pe_op op_cat (pv 6) (pe_lst (pa_cons (pmeth (pv 0) T.c_Index T.m_Index_words G_Index_words hr (pa_cons (pv 2) pa_nil)) pa_nil)))))))), ?_⟩
    walk_at "v"
    intro sx sdx hsx hsd hsn
    refine sel_made hsx hsd hsn hll hm hk fun H1 e1 hs1 => ?_
    have hi1 := hi.ex e1
    have lenf : ∀ f : Ser → Bool, (rows.filter f).length ≤ 1000 := fun f => Nat.le_trans (List.length_filter_le f rows) (by omega)
    walk_at "v"
    refine ite2 (fun c => ?_) (fun c => ?_)
    · walk_at "v"
      refine ⟨hi1.is, ?_⟩
      walk_at "v"
      refine ⟨rfl, a, sa, ka, ba, sl, _, rfl, hi1, .inl ⟨kk, rfl, hkn, fun p1 ws H2 e2 hp1 hw1 hws => ?_⟩⟩
      have hi2 := hi1.ex e2
      walk_at "v"
      refine ⟨hi2.is, ?_⟩
      walk_at "v"
      refine ⟨rfl, a, sa, ka, ba, sl, vS kk, vS x, rfl, hi2, .inl ⟨kk, rfl, hkn, .inl ⟨x, rfl, hxw, fun v r3 H3 e3 ht3 hp3 hr3 => ?_⟩⟩⟩
      obtain rfl := rows_tru hrt hrp _ hp3 hr3
      obtain ⟨q3, vs3, rfl, _, hq3, hs3⟩ := ht3
      walk_at "v"
      refine ⟨q3, vs3, _, rfl, hq3, hs3, lenf _, fun p2 H4 e4 hp2 hl2 => ?_⟩
      walk_at "v"
      intro f1 hf1
      have y5 := Ex.mut (Ex.refl H4) hf1 (o := .lst [V.ref p1, V.ref p2])
      have hf5 : upd H4 f1 (.lst [V.ref p1, V.ref p2]) f1 = some (.lst [V.ref p1, V.ref p2]) := upd_same
      obtain ⟨H5, hH5⟩ : ∃ H5, H5 = upd H4 f1 (.lst [V.ref p1, V.ref p2]) := ⟨_, rfl⟩
      rw [← hH5] at y5 hf5 ⊢
      have hi5 := hi2.ex ((e3.trans e4).trans y5)
      have hs5 := hs1.ex (e2.trans ((e3.trans e4).trans y5))
      walk_at "v"
      refine ⟨hi5.is, ?_⟩
      walk_at "v"
      refine ⟨rfl, a, sa, ka, ba, sl, .ref sx, rfl, hi5, .inl ⟨m, hs5, fun v r6 H6 e6 ht6 hp6 hr6 => ?_⟩⟩
      obtain rfl := rows_tru hrt hrp _ hp6 hr6
      obtain ⟨q6, vs6, rfl, _, hq6, hs6⟩ := ht6
      walk_at "v"
      refine ⟨q6, vs6, _, rfl, hq6, hs6, lenf _, fun p3 H7 e7 hp3' hl3 => ?_⟩
      have hi7 := hi5.ex (e6.trans e7)
      walk_at "v"
      refine ⟨hi7.is, ?_⟩
      walk_at "v"
      refine ⟨a, sa, ka, ba, sl, rfl, hi7, fun v r8 H8 e8 ht8 hp8 hr8 => ?_⟩
      obtain rfl := rows_tru hrt hrp _ hp8 hr8
      obtain ⟨q8, vs8, rfl, _, hq8, hs8⟩ := ht8
      walk_at "v"
      refine ⟨q8, vs8, _, rfl, hq8, hs8, lenf _, fun p4 H9 e9 hp4 hl4 => ?_⟩
      walk_at "v"
      intro f2 hf2
      have y10 := Ex.mut (Ex.refl H9) hf2 (o := .lst [V.ref p3, V.ref p4])
      have hg2 : upd H9 f2 (.lst [V.ref p3, V.ref p4]) f2 = some (.lst [V.ref p3, V.ref p4]) := upd_same
      obtain ⟨H10, hH10⟩ : ∃ H10, H10 = upd H9 f2 (.lst [V.ref p3, V.ref p4]) := ⟨_, rfl⟩
      rw [← hH10] at y10 hg2 ⊢
      have e510 := (((e6.trans e7).trans e8).trans e9).trans y10
      have hg1 := e510 _ _ hf5
      refine r_cat hg1 hg2 (by simp) ?_
      intro f3 hf3
      have y11 := Ex.mut (Ex.refl H10) hf3 (o := .lst ([V.ref p1, V.ref p2] ++ [V.ref p3, V.ref p4]))
      have hg3 : upd H10 f3 (.lst ([V.ref p1, V.ref p2] ++ [V.ref p3, V.ref p4])) f3 = some (.lst [V.ref p1, V.ref p2, V.ref p3, V.ref p4]) := upd_same
      obtain ⟨H11, hH11⟩ : ∃ H11, H11 = upd H10 f3 (.lst ([V.ref p1, V.ref p2] ++ [V.ref p3, V.ref p4])) := ⟨_, rfl⟩
      rw [← hH11] at y11 hg3 ⊢
      walk_at "v"
      intro f4 hf4
      have y12 := Ex.mut (Ex.refl H11) hf4 (o := .lst [V.ref p1, V.ref p2, V.ref p3, V.ref p4].reverse)
      have e512 := (e510.trans y11).trans y12
      rw [filter_tru] at hl4
      refine k f4 ws _ ((e1.trans e2).trans (((e3.trans e4).trans y5).trans e512)) (words_rows hrp hws) ⟨[p4, p3, p2, p1], upd_same, ?_⟩
      exact .cons (((y10.trans y11).trans y12) _ _ hl4) (.cons ((((e8.trans e9).trans (y10.trans y11)).trans y12) _ _ hl3) (.cons ((y5.trans e512) _ _ hl2) (.cons (((e3.trans e4).trans (y5.trans e512)) _ _ hw1) .nil)))
    · walk_at "v"
      refine ⟨hi1.is, ?_⟩
      walk_at "v"
      refine ⟨a, sa, ka, ba, sl, rfl, hi1, fun v r8 H2 e2 ht8 hp8 hr8 => ?_⟩
      obtain rfl := rows_tru hrt hrp _ hp8 hr8
      obtain ⟨q8, vs8, rfl, _, hq8, hs8⟩ := ht8
      walk_at "v"
      refine ⟨q8, vs8, _, rfl, hq8, hs8, lenf _, fun p1 H3 e3 hp1 hl1 => ?_⟩
      have hi3 := hi1.ex (e2.trans e3)
      have hs3 := hs1.ex (e2.trans e3)
      walk_at "v"
      refine ⟨hi3.is, ?_⟩
      walk_at "v"
      refine ⟨a, sa, ka, ba, sl, .ref sx, rfl, hi3, .inl ⟨m, hs3, fun v r6 H4 e4 ht6 hp6 hr6 => ?_⟩⟩
      obtain rfl := rows_tru hrt hrp _ hp6 hr6
      obtain ⟨q6, vs6, rfl, _, hq6, hs6⟩ := ht6
      walk_at "v"
      refine ⟨q6, vs6, _, rfl, hq6, hs6, lenf _, fun p2 H5 e5 hp2' hl2 => ?_⟩
      have hi5 := hi3.ex (e4.trans e5)
      walk_at "v"
      refine ⟨hi5.is, ?_⟩
      walk_at "v"
      refine ⟨a, sa, ka, ba, sl, vS kk, vS x, rfl, hi5, .inl ⟨kk, rfl, hkn, .inl ⟨x, rfl, hxw, fun v r3 H6 e6 ht3 hp3 hr3 => ?_⟩⟩⟩
      obtain rfl := rows_tru hrt hrp _ hp3 hr3
      obtain ⟨q3, vs3, rfl, _, hq3, hs3⟩ := ht3
      walk_at "v"
      refine ⟨q3, vs3, _, rfl, hq3, hs3, lenf _, fun p3 H7 e7 hp3' hl3 => ?_⟩
      walk_at "v"
      intro f1 hf1
      have y8 := Ex.mut (Ex.refl H7) hf1 (o := .lst [V.ref p1, V.ref p2, V.ref p3])
      have hf8 : upd H7 f1 (.lst [V.ref p1, V.ref p2, V.ref p3]) f1 = some (.lst [V.ref p1, V.ref p2, V.ref p3]) := upd_same
      obtain ⟨H8, hH8⟩ : ∃ H8, H8 = upd H7 f1 (.lst [V.ref p1, V.ref p2, V.ref p3]) := ⟨_, rfl⟩
      rw [← hH8] at y8 hf8 ⊢
      have hi8 := hi5.ex ((e6.trans e7).trans y8)
      walk_at "v"
      refine ⟨hi8.is, ?_⟩
      walk_at "v"
      refine ⟨a, sa, ka, ba, sl, _, rfl, hi8, .inl ⟨kk, rfl, hkn, fun p4 ws H9 e9 hp4 hw4 hws => ?_⟩⟩
      walk_at "v"
      intro f2 hf2
      have y10 := Ex.mut (Ex.refl H9) hf2 (o := .lst [V.ref p4])
      have hg2 : upd H9 f2 (.lst [V.ref p4]) f2 = some (.lst [V.ref p4]) := upd_same
      obtain ⟨H10, hH10⟩ : ∃ H10, H10 = upd H9 f2 (.lst [V.ref p4]) := ⟨_, rfl⟩
      rw [← hH10] at y10 hg2 ⊢
      have hg1 := (e9.trans y10) _ _ hf8
      refine r_cat hg1 hg2 (by simp) ?_
      intro f3 hf3
      have y11 := Ex.mut (Ex.refl H10) hf3 (o := .lst ([V.ref p1, V.ref p2, V.ref p3] ++ [V.ref p4]))
      rw [filter_tru] at hl1
      have e811 := (e9.trans y10).trans y11
      have e611 := ((e6.trans e7).trans y8).trans e811
      refine k f3 ws _ ((e1.trans e2).trans ((e3.trans (e4.trans e5)).trans e611)) (words_rows hrp hws) ⟨[p1, p2, p3, p4], upd_same, ?_⟩
      exact .cons (((e4.trans e5).trans e611) _ _ hl1) (.cons (e611 _ _ hl2) (.cons ((y8.trans e811) _ _ hl3) (.cons ((y10.trans y11) _ _ hw4) .nil)))
end
set_option Elab.async false
set_option linter.all false
set_option maxRecDepth 100000
set_option maxHeartbeats 4000000
/-! xs[:] = ys. -/
section
open PySem PySem.Spec PyProof.Rows L2
open Evl (Ex given)
section
variable {prog : Program} {w : World} {A : Around} {E : Value → Shared → Prop} {s : Shared}
theorem bounds_whole (n : Nat) : sliceBounds none none none n = (0, (n : Int), 1) := rfl
/-- the whole list stored anew -/
theorem set_whole {l b sl : Addr} {items new : Array Value} {n n2 : Nat} {Q : Unit → Shared → Prop} (e : s.heap.get? l = some { cls := .type "list", data := .seq items n }) (e2 : s.heap.get? b = some { cls := .type "list", data := .seq new n2 }) (hne : l ≠ b)
    (hs : s.heap.IsSliceOf sl .none .none .none) (hz : items.size + new.size ≤ sizeLine) (h : Q () { s with heap := s.heap.update l (Obj.mapSeq fun xs => xs.extract 0 0 ++ new ++ xs.extract items.size xs.size) }) :
    wpAny (model prog w) A (setItem (.ref l) (.ref sl) (.ref b)) Q E s := by
  have isl : s.heap.IsList l items := PySem.IsL.isList e
  have isb : s.heap.IsList b new := PySem.IsL.isList e2
  obtain ⟨os, hos, hcs, hds⟩ := id hs
  have hT : s.TypeIs (.ref sl) "slice" := ⟨os, hos, hcs⟩
  have two : Builtin.List.listSameRef (.ref l) (.ref b) = false := by
    show (l == b) = false
    exact beq_eq_false_iff_ne.mpr hne
  have few : ((fun xs : Array Value => xs.extract 0 0 ++ new ++ xs.extract items.size xs.size) items).size ≤ sizeLine + 1 := by
    simp only [Array.size_append, Array.size_extract]
    omega
  unfold setItem
  try with_reducible refine wpAny_holding ?_
  first | refine wpAny_bind (wpAny_pure ?_) | skip
  refine wpAny_bind (wpAny_sequenceKey isl.typeIs (by decide) (wpAny_bind (wpAny_callSpecial?_slot (name := Str.ofString "__setitem__") isl.typeIs slot_list_setitem (wpAny_call_entry slot_list_setitem isl.typeIs entry_list_setitem ?_ (args_list_setitem _ _ _)))))
  refine wpAny_bind (m := Builtin.List.listSubscript? (.ref sl)) ?_
  unfold Builtin.List.listSubscript?
  refine wpAny_bind (wpAny_specialOf hT slice_no_index ?_)
  simp only [Option.isNone_none, if_true]
  refine wpAny_pure (wpAny_bind (m := typeOf (.ref sl)) (wpAny_typeOf hT ?_))
  first
    | refine PySem.W.KFB.if_not (by decide) ?_
    | rw [if_neg (by decide)]
  rw [listSliceParts_eq]
  refine wpAny_bind (wpAny_bind (wpAny_field hos hds (x := .none) rfl (wpAny_bind (wpAny_listPart .none ?_))))
  rw [if_neg (show ¬ ((rawPart none == rawInt 0) = true) from Bool.false_ne_true)]
  refine wpAny_bind (wpAny_field hos hds (x := .none) rfl (wpAny_bind (wpAny_listPart .none (wpAny_bind (wpAny_field hos hds (x := .none) rfl (wpAny_bind (wpAny_listPart .none (wpAny_pure ?_))))))))
  first
    | (simp only [two, Bool.false_eq_true, if_false]; done)
    | refine PySem.W.KFB.if_not two ?_
    | (dsimp only; rw [if_neg (by rw [two]; exact Bool.false_ne_true)])
  refine wpAny_bind (m := Builtin.List.listAllItems (.ref b) "must assign iterable to extended slice") ?_
  unfold Builtin.List.listAllItems
  refine wpAny_bind (wpAny_typeOf isb.typeIs ?_)
  first
    | refine PySem.W.KFB.if_so (by decide) ?_
    | rw [if_pos (by decide)]
  unfold Builtin.List.listItems
  refine wpAny_bind (wpAny_seqItems e2 rfl (wpAny_pure (wpAny_bind (wpAny_bind (wpAny_seqItems e rfl (wpAny_pure ?_))))))
  refine wpAny_bind (wpAny_of_eq ((sliceIndices_raw none none none items.size (by simp)).trans (congrArg (pure : Int × Int × Int → Sem (Int × Int × Int)) (bounds_whole _))) ?_)
  refine (if_pos (c := ((1 : Int) == 1) = true) (by decide)).symm ▸ ?_
  refine wpAny_bind (wpAny_rule ?_)
  first
    | refine PySem.W.KFB.if_not (notLongL hz) ?_
    | simp only [notLongL hz, Bool.false_eq_true, if_false]
  first | refine wpAny_bind (wpAny_pure ?_) | skip
  have hm : (max (0 : Int) (items.size : Int)).toNat = items.size := by omega
  dsimp only
  rw [hm]
  refine wpAny_bind (m := updateSeq l (fun xs => xs.extract 0 0 ++ new ++ xs.extract items.size xs.size)) (wpAny_updateSeq (hz := Nat.le_trans (Nat.le_add_right _ _) hz) (_hz' := few) e rfl ?_)
  refine wpAny_bind (wpAny_letGo ?_)
  first
    | exact wpAny_pure ⟨.none, rfl, wpAny_pure h⟩
    | exact wpAny_bind (wpAny_pure (wpAny_pure ⟨.none, rfl, wpAny_pure h⟩))
end
section
variable {X : Cx} {o : Expr} {to : TE} {p1 pos : Pos}
/-- o[:] = v, another list -/
def gWhole (to : TE) : TG := fun v σ H Q => to σ H fun x H1 => ∃ l b xs ys, x = .ref l ∧ v = .ref b ∧ H1 l = some (.lst xs) ∧ H1 b = some (.lst ys) ∧ l ≠ b ∧ xs.length + ys.length ≤ 100000 ∧ Q σ (upd H1 l (.lst ys))
theorem pg_whole (ho : PE X o to)
    (ha : ∀ v, assign (.Subscript o (.Slice none none none p1) pos) X.env v = (do
      let x ← holding [v] (eval o X.env)
      let i ← holding [v, x] (eval (.Slice none none none p1) X.env)
      standAt pos
      holding [v, x, i] (setItem x i v)
      release [i, v, x] []) := by intro _; rfl) : PG X (.Subscript o (.Slice none none none p1) pos) (gWhole to) := by
  refine ⟨fun pins s σ H v u Q I r h => ?_⟩
  rw [ha]
  refine wpAny_bind (wpAny_holding (thn (ho.run pins s σ H _ I h) fun ov s1 z => ?_))
  obtain ⟨x, H1, I1, r1, l, b, xs, ys, rfl, rfl, hl, hb, hne, hz, q⟩ := z
  obtain rfl : ov = Value.ref l := r1
  obtain rfl : u = Value.ref b := r
  refine wpAny_bind (wpAny_holding (wpAny_Slice (thn (po_none.run pins s1 σ H1 (fun o H2 => o = none ∧ H2 = H1) I1 ⟨rfl, rfl⟩) fun v1 s2 z1 => ?_)))
  obtain ⟨o1, H2, I2, q1, rfl, rfl⟩ := z1
  refine thn (po_none.run pins s2 σ H2 (fun o H3 => o = none ∧ H3 = H2) I2 ⟨rfl, rfl⟩) fun v2 s3 z2 => ?_
  obtain ⟨o2, H3, I3, q2, rfl, rfl⟩ := z2
  refine thn (po_none.run pins s3 σ H3 (fun o H4 => o = none ∧ H4 = H3) I3 ⟨rfl, rfl⟩) fun v3 s4 z3 => ?_
  obtain ⟨o3, H4, I4, q3, rfl, rfl⟩ := z3
  cases q1
  cases q2
  cases q3
  have I5 : Inv X pins σ H4 { s4 with heap := s4.heap.push { cls := .type "slice", data := .fields #[.none, .none, .none] } } := I4.kept (t' := s4.toks) fun b ob q => Heap.get?_push_of_some _ q
  obtain ⟨z1, its, n1, rv1, hl1, e1⟩ := I5.lstM hl
  obtain ⟨z2, its2, n2, rv2, hl2, e2⟩ := I5.lstM hb
  have hlen : its.length + its2.length ≤ 100000 := by omega
  refine wpAny_bind (wpAny_standAt (wpAny_bind (wpAny_holding (set_whole e1 e2 hne (Heap.IsSliceOf.new _ .none .none .none) (sz100k (by rw [List.size_toArray, List.size_toArray]; exact hlen)) ?_))))
  refine wpAny_release ⟨σ, _, I5.lset (its' := its2) (t' := s4.toks) hl e1 ?_ rv2 z2, q⟩
  apply Array.toList_inj.mp
  simp
end
end
set_option Elab.async false
set_option linter.all false
set_option maxRecDepth 100000
set_option maxHeartbeats 4000000
/-! Told lists are changed. -/
open PySem PySem.Spec PyProof.Rows L2
open Evl (Ex given)
theorem r_whole {to : TE} {v : V} {σ : L2.St} {H : Hp} {Q : L2.St → Hp → Prop} (h : to σ H fun x H1 => ∃ l b xs ys, x = .ref l ∧ v = .ref b ∧ H1 l = some (.lst xs) ∧ H1 b = some (.lst ys) ∧ l ≠ b ∧ xs.length + ys.length ≤ 100000 ∧ Q σ (upd H1 l (.lst ys))) : gWhole to v σ H Q := h
local macro_rules | `(tactic| walk_at "v1") => `(tactic| first
  | (with_reducible refine r_whole ?_))

def zzS : Ser := ⟨tl "zzzzz", []⟩
theorem zz_text : V.str "zzzzz{}" = vS (textL zzS) := congrArg V.str (TL.ext_tl (by decide +kernel))
theorem zz_ok : SerOk zzS := ⟨by decide +kernel, by decide, fun _ h => (nomatch h), List.Pairwise.nil⟩
theorem occ_small {P : Program} {w : World} {K : PySem.W.Frag} {H : Hp} {a sa ka ba : Addr} {sl : Slots} (h : IdxAt P w K H a sa ka ba sl) : (occ sl).length ≤ 50 := Nat.le_trans (occ_len sl) h.small
section
variable {P : Program} {w : World} {K : PySem.W.Frag} {mg : Str → Option Value} {base : Heap}
def spSpoil (P : Program) (w : World) (K : PySem.W.Frag) : Sp := fun vs H Q _ => ∃ (a sa ka ba : Addr) (sl : Slots) (l kk x : List Nat) (m : Mn), vs = [.ref a, vS l, vS kk, vS x] ∧ IdxAt P w K H a sa ka ba sl ∧
  l.length ≤ 2000 ∧ AnyP 2 (toks l) m ∧ (toks l).length ≤ 40 ∧ isName (S kk) = true ∧ isWord (S x) = true ∧ ∀ H', Ex H H' → Q .non H'
theorem sc_law_spoil : FnScope ["_law_index", "_law_text", "_law_key", "_law_word_here", "_law_told_here"] ["_law_index", "_law_text", "_law_key", "_law_word_here"] (defScope s_law_spoil) := ⟨rfl, rfl, rfl, by decide +kernel, rfl, by decide +kernel, by decide +kernel⟩
theorem ok_law_spoil (T : Txt K mg) : GoodP P w K mg base "_law_spoil" 16 ["_law_index", "_law_text", "_law_key", "_law_word_here"] (spSpoil P w K) := by
  have G_Selection_init := ok_Selection_init (P := P) (w := w) (base := base) T
  have G_Index_words := ok_Index_words (P := P) (w := w) (base := base) T
  have G_Index_of_tag := ok_Index_of_tag (P := P) (w := w) (base := base) T
  have G_Index_chosen := ok_Index_chosen (P := P) (w := w) (base := base) T
  have G_Index_series := ok_Index_series (P := P) (w := w) (base := base) T
  have G_read_series := ok_read_series (P := P) (w := w) (base := base) T
  obtain ⟨fd, F⟩ := T.f_law_spoil
  refine good_of F sc_law_spoil (fun vs H Q E h => ?_) (fun _ _ _ _ _ _ us hl => match us, hl with | [_, _, _, _], _ => rfl) (fun cdv A outer s H vs Q E hr h => ?_)
  · obtain ⟨a, sa, ka, ba, sl, l, kk, x, m, rfl, _⟩ := h
    rfl
  · obtain ⟨a, sa, ka, ba, sl, l, kk, x, m, rfl, hi, hll, hm, hk, hkn, hxw, k⟩ := h
    have hos := occ_small hi
    refine ⟨_, (pss_one (ps_for PassesOwn.never rfl (pi_list (pe_lst (pa_cons (pmeth0 (pv 0) T.c_Index T.m_Index_series G_Index_series hr) (pa_cons (pmeth (pv 0) T.c_Index T.m_Index_chosen G_Index_chosen hr (pa_cons (pmake T.mk_Selection G_Selection_init hr T.g_Selection (pa_cons (pv 1) pa_nil)) pa_nil)) (pa_cons (pmeth (pv 0) T.c_Index T.m_Index_of_tag G_Index_of_tag hr (pa_cons (pv 2) (pa_cons (pv 3) pa_nil))) (pa_cons (pmeth (pv 0) T.c_Index T.m_Index_words G_Index_words hr (pa_cons (pv 2) pa_nil)) pa_nil)))))) (pg_name (i := 4) sc_law_spoil.nd rfl (Or.inl rfl))
    (pss_cons (ps_expr (pe_bm PySem.F.plainAttrs_list PySem.F.slot_list_append PySem.F.type_list_append mt_append (pv 4) (pa_cons (pcall G_read_series hr T.g_read_series (pa_cons pe_str pa_nil)) pa_nil)))
    (pss_one (ps_asg (pe_revL (pv 4)) (pg_whole (pv 4))))))), ?_⟩
    walk_at "v"
    refine ⟨hi.is, ?_⟩
    walk_at "v"
    refine ⟨a, sa, ka, ba, sl, rfl, hi, fun v r1 H1 e1 ht1 hp1 _ => ?_⟩
    obtain ⟨p1, vs1, rfl, hn1, hq1, hs1⟩ := ht1
    have hi1 := hi.ex e1
    walk_at "v"
    refine ⟨hi1.is, ?_⟩
    walk_at "v"
    intro sx sdx hsx hsd hsn
    refine sel_made hsx hsd hsn hll hm hk fun H2 e2 hs2 => ?_
    have hi2 := hi1.ex e2
    walk_at "v"
    refine ⟨a, sa, ka, ba, sl, .ref sx, rfl, hi2, .inl ⟨m, hs2, fun v r3 H3 e3 ht3 hp3 _ => ?_⟩⟩
    obtain ⟨p3, vs3, rfl, hn3, hq3, hs3⟩ := ht3
    have hi3 := hi2.ex e3
    walk_at "v"
    refine ⟨hi3.is, ?_⟩
    walk_at "v"
    refine ⟨a, sa, ka, ba, sl, vS kk, vS x, rfl, hi3, .inl ⟨kk, rfl, hkn, .inl ⟨x, rfl, hxw, fun v r4 H4 e4 ht4 hp4 _ => ?_⟩⟩⟩
    obtain ⟨p4, vs4, rfl, hn4, hq4, hs4⟩ := ht4
    have hi4 := hi3.ex e4
    walk_at "v"
    refine ⟨hi4.is, ?_⟩
    walk_at "v"
    refine ⟨a, sa, ka, ba, sl, _, rfl, hi4, .inl ⟨kk, rfl, hkn, fun p5 ws H5 e5 hn5 hw5 hws => ?_⟩⟩
    walk_at "v"
    intro f hf
    have e05 := ((e1.trans e2).trans e3).trans (e4.trans e5)
    have y6 := Ex.mut (Ex.refl H5) hf (o := .lst [V.ref p1, V.ref p3, V.ref p4, V.ref p5])
    have hf6 : upd H5 f (.lst [V.ref p1, V.ref p3, V.ref p4, V.ref p5]) f = some (.lst [V.ref p1, V.ref p3, V.ref p4, V.ref p5]) := upd_same
    obtain ⟨H6, hH6⟩ : ∃ H6, H6 = upd H5 f (.lst [V.ref p1, V.ref p3, V.ref p4, V.ref p5]) := ⟨_, rfl⟩
    rw [← hH6] at y6 hf6 ⊢
    have hfH : H f = none := ex_none e05 hf
    have g1 := (((e2.trans e3).trans (e4.trans e5)).trans y6) _ _ hq1
    have g3 := ((e4.trans e5).trans y6) _ _ hq3
    have g4 := (e5.trans y6) _ _ hq4
    have g5 := y6 _ _ hw5
    have b1 : vs1.length ≤ 50 := by
      have := Plen hs1
      have := hp1.length_eq
      have := List.length_filter_le tru (occ sl)
      omega
    have b3 : vs3.length ≤ 50 := by
      have := Plen hs3
      have := hp3.length_eq
      have := List.length_filter_le m (occ sl)
      omega
    have b4 : vs4.length ≤ 50 := by
      have := Plen hs4
      have := hp4.length_eq
      have := List.length_filter_le (fun s => decide (wordOf s kk = some x)) (occ sl)
      omega
    have b5 : (ws.map vS).length ≤ 50 := by
      rw [List.length_map]
      have hnd : ws.Nodup := by
        rw [List.nodup_iff_pairwise_ne]
        exact hws.1.imp fun {y z} hlt e => by
          rw [e] at hlt
          exact absurd hlt (List.lt_irrefl _)
      have := nodup_bound (f := fun s => wordOf s kk) hnd fun y hy => (hws.2 y).mp hy
      omega
    have key : ∀ p, p ∈ [p1, p3, p4, p5] → H p = none ∧ p ≠ f ∧ ∃ xs, H6 p = some (.lst xs) ∧ xs.length ≤ 50 := by
      intro p hp
      simp only [List.mem_cons, List.not_mem_nil, or_false] at hp
      rcases hp with rfl | rfl | rfl | rfl
      · exact ⟨hn1, ne_of_none (((e2.trans e3).trans (e4.trans e5)) _ _ hq1) hf, _, g1, b1⟩
      · exact ⟨ex_none (e1.trans e2) hn3, ne_of_none ((e4.trans e5) _ _ hq3) hf, _, g3, b3⟩
      · exact ⟨ex_none ((e1.trans e2).trans e3) hn4, ne_of_none (e5 _ _ hq4) hf, _, g4, b4⟩
      · exact ⟨ex_none (((e1.trans e2).trans e3).trans e4) hn5, ne_of_none hw5 hf, _, g5, b5⟩
    walk_at "v"
    refine for_it (walk_list (xs := [V.ref p1, V.ref p3, V.ref p4, V.ref p5])) (fun i σ H' => ∃ o, σ = [some (.ref a), some (vS l), some (vS kk), some (vS x), o] ∧ Ex H H' ∧ H' f = some (.lst [V.ref p1, V.ref p3, V.ref p4, V.ref p5]) ∧ ∀ p ∈ [p1, p3, p4, p5], ∃ xs, H' p = some (.lst xs) ∧ xs.length ≤ 50 + i)
      ⟨none, rfl, e05.trans y6, hf6, fun p hp => (key p hp).2.2⟩ (fun i σ H' _ q => SqL.of q.choose_spec.2.2.1) ?_ ?_
    · rintro i v σ Ha Hb hi6 ⟨o, rfl, ea, hfa, hall⟩ ⟨rfl, hx⟩
      obtain ⟨p, hp, rfl⟩ : ∃ p ∈ [p1, p3, p4, p5], v = .ref p := by
        have := List.mem_of_getElem? hx
        simp only [List.mem_cons, List.not_mem_nil, or_false] at this
        rcases this with rfl | rfl | rfl | rfl
        · exact ⟨p1, by simp, rfl⟩
        · exact ⟨p3, by simp, rfl⟩
        · exact ⟨p4, by simp, rfl⟩
        · exact ⟨p5, by simp, rfl⟩
      obtain ⟨hpn, hpf, _⟩ := key p hp
      obtain ⟨xs, hxs, hxl⟩ := hall p hp
      have hi4 : i < 4 := hi6
      walk_at "v"
      refine ⟨zzS, by rw [zz_text], zz_ok, fun z Hc ec hz => ?_⟩
      have hxc := ec _ _ hxs
      walk_at "v"
      refine r_append hxc (by omega) ?_
      have hxd : upd Hc p (.lst (xs ++ [z])) p = some (.lst (xs ++ [z])) := upd_same
      have ed := Ex.mut (ea.trans ec) hpn (o := .lst (xs ++ [z]))
      have hfd : upd Hc p (.lst (xs ++ [z])) f = some (.lst [V.ref p1, V.ref p3, V.ref p4, V.ref p5]) := (upd_ne hpf.symm).trans (ec _ _ hfa)
      have hoth : ∀ q ∈ [p1, p3, p4, p5], ∃ ys, upd Hc p (.lst (xs ++ [z])) q = some (.lst ys) ∧ ys.length ≤ 50 + (i + 1) := fun q hq => by
        by_cases c : q = p
        · subst c
          exact ⟨_, upd_same, by rw [List.length_append, List.length_singleton]; omega⟩
        · obtain ⟨ys, h1, h2⟩ := hall q hq
          exact ⟨ys, (upd_ne c).trans (ec _ _ h1), by omega⟩
      obtain ⟨Hd, hHd⟩ : ∃ Hd, Hd = upd Hc p (.lst (xs ++ [z])) := ⟨_, rfl⟩
      rw [← hHd] at hxd ed hfd hoth ⊢
      walk_at "v"
      refine ⟨p, _, rfl, SqL.of hxd, fun r hr2 => ?_⟩
      walk_at "v"
      have ye := Ex.mut (Ex.refl Hd) hr2 (o := .lst (xs ++ [z]).reverse)
      refine ⟨p, r, xs ++ [z], (xs ++ [z]).reverse, rfl, rfl, ye _ _ hxd, upd_same, ne_of_none hxd hr2, by rw [List.length_reverse, List.length_append, List.length_singleton]; omega, ?_⟩
      refine ⟨_, rfl, Ex.mut (ed.trans ye) hpn, (upd_ne hpf.symm).trans (ye _ _ hfd), fun q hq => ?_⟩
      by_cases c : q = p
      · subst c
        exact ⟨_, upd_same, by rw [List.length_reverse, List.length_append, List.length_singleton]; omega⟩
      · obtain ⟨ys, h1, h2⟩ := hoth q hq
        exact ⟨ys, (upd_ne c).trans (ye _ _ h1), h2⟩
    · rintro σ Ha ⟨o, rfl, ea, _⟩
      exact k Ha ea
end
set_option Elab.async false
set_option linter.all false
set_option maxRecDepth 100000
set_option maxHeartbeats 4000000
/-! An index while others change; what repr shows of lists of texts. -/
section
open PySem PySem.Spec PyProof.Rows L2
open Evl (Ex given)
/-! ### carried over changes elsewhere -/
theorem nf_lst {H : Hp} {b : Addr} {xs : List V} (h : H b = some (.lst xs)) : NotFix H b := ⟨fun _ q => (by rw [h] at q; cases q), fun _ _ _ _ q => (by rw [h] at q; cases q)⟩
theorem BoxAt.nf {H : Hp} {b : Addr} {c : Nat} (h : BoxAt H b c) : NotFix H b := by
  obtain ⟨_, _, _, _, q, _⟩ := h
  exact nf_lst q
section
variable {P : Program} {w : World} {K : PySem.W.Frag} {H H' : Hp} {S : List Addr} {a sa ka ba : Addr} {sl : Slots}
theorem IdxAt.exx (h : IdxAt P w K H a sa ka ba sl) (e : Exx S H H') (hn : ∀ x ∈ S, x ∉ [a, sa, ka, ba]) (hf : ∀ x ∈ S, NotFix H x) : IdxAt P w K H' a sa ka ba sl := by
  have off : ∀ x ∈ [a, sa, ka, ba], x ∉ S := fun x hx z => hn x z hx
  obtain ⟨⟨dx, h1⟩, h2, h3, ⟨kvs, k1, k2, k3, k4, k5⟩, ⟨es, ⟨⟨ob, b1⟩, b2, b3⟩, h6, h7⟩, h8, h9⟩ := h
  refine ⟨⟨dx, e _ _ h1 (off _ (by simp))⟩, e _ _ h2 (off _ (by simp)), h3, ⟨kvs, e _ _ k1 (off _ (by simp)), k2, k3, fun x hx => ?_, k5⟩, ⟨es, ⟨⟨ob, e _ _ b1 (off _ (by simp))⟩, fun t ht => ?_, b3⟩, h6, h7⟩, h8, h9⟩
  · obtain ⟨v, q1, q2⟩ := k4 x hx
    exact ⟨v, q1, q2.exx e hf⟩
  · exact e _ _ (b2 t ht) fun z => (hf _ z).1 _ (b2 t ht)
theorem IdxAt.bx {b : Addr} {c : Nat} (h : IdxAt P w K H a sa ka ba sl) (hb : BoxAt H b c) (e : Exx [b] H H') : IdxAt P w K H' a sa ka ba sl := by
  refine h.exx e (fun x hx z => ?_) (fun x hx => ?_)
  · rw [List.mem_singleton] at hx
    subst hx
    obtain ⟨g, big, m, n, q, _⟩ := hb
    obtain ⟨dx, h1⟩ := h.ob
    have h2 := h.slots
    obtain ⟨kvs, h3, _⟩ := h.known.ex
    obtain ⟨es, ⟨⟨ob, h4⟩, _, _⟩, _⟩ := h.bits.ex
    simp only [List.mem_cons, List.not_mem_nil, or_false] at z
    rcases z with rfl | rfl | rfl | rfl
    · rw [h1] at q
      cases q
    · rw [h2] at q
      cases hs : sl with
      | nil =>
        rw [hs] at q
        cases q
      | cons o r =>
        rw [hs] at q
        injection q with q
        injection q with q
        injection q with q _
        cases q
    · rw [h3] at q
      cases q
    · rw [h4] at q
      injection q with q
      have q' : HO.ext _ = HO.lst _ := q
      cases q'
  · rw [List.mem_singleton] at hx
    subst hx
    exact hb.nf
end
theorem LSer.bx {H H' : Hp} {b : Addr} {c : Nat} {v : V} {s : Ser} (h : LSer H v s) (hb : BoxAt H b c) (e : Exx [b] H H') : LSer H' v s := by
  obtain ⟨⟨x, d, kvs, h1, h2, h3, h4⟩, ok⟩ := h
  obtain ⟨g, big, m, n, q, _⟩ := hb
  refine ⟨⟨x, d, kvs, h1, e _ _ h2 fun z => ?_, e _ _ h3 fun z => ?_, h4⟩, ok⟩
  · rw [List.mem_singleton] at z
    subst z
    rw [h2] at q
    cases q
  · rw [List.mem_singleton] at z
    subst z
    rw [h3] at q
    cases q
theorem LSerN.bx {N : Addr → Prop} {H H' : Hp} {b : Addr} {c : Nat} {v : V} {s : Ser} (h : LSerN N H v s) (hb : BoxAt H b c) (e : Exx [b] H H') : LSerN N H' v s := by
  obtain ⟨⟨x, d, kvs, n1, n2, h1, h2, h3, h4⟩, ok⟩ := h
  obtain ⟨g, big, m, n, q, _⟩ := hb
  refine ⟨⟨x, d, kvs, n1, n2, h1, e _ _ h2 fun z => ?_, e _ _ h3 fun z => ?_, h4⟩, ok⟩
  · rw [List.mem_singleton] at z
    subst z
    rw [h2] at q
    cases q
  · rw [List.mem_singleton] at z
    subst z
    rw [h3] at q
    cases q
theorem rows_ne {H : Hp} {b ra : Addr} {c : Nat} {vs : List V} {rows : List Ser} (hb : BoxAt H b c) (h : H ra = some (.lst vs)) (hp : Paired (LSer H) vs rows) : ra ≠ b := fun z => by
  obtain ⟨g, big, m, n, q, _⟩ := hb
  subst z
  rw [h] at q
  cases q
  cases hp with
  | cons r _ =>
    obtain ⟨⟨_, _, _, z, _⟩, _⟩ := r
    cases z
/-! ### what repr shows -/
theorem from_len : ∀ (ts : List Str) (k : Nat) (acc : Str) (B : Nat), (∀ t ∈ ts, t.length ≤ B) → (textFrom k acc ts).length ≤ acc.length + ts.length * (B + 2)
  | [], k, acc, B, _ => by simp [textFrom]
  | t :: ts, k, acc, B, h => by
    have ih := from_len ts (k + 1) (acc ++ (if k > 0 then ", " else "" : String) ++ t) B fun x hx => h x (by simp [hx])
    have h1 := h t (by simp)
    have h2 : (acc ++ (if k > 0 then ", " else "" : String) ++ t).length ≤ acc.length + 2 + t.length := by
      rw [strLen_append, strLen_append]
      have : (Str.ofString (if k > 0 then ", " else "" : String)).length ≤ 2 := by
        split <;> decide
      omega
    show (textFrom (k + 1) _ ts).length ≤ _
    rw [List.length_cons, Nat.add_one_mul]
    omega
theorem list_len {ts : List Str} {B : Nat} (h : ∀ t ∈ ts, t.length ≤ B) : (listText ts).length ≤ 2 + ts.length * (B + 2) := by
  unfold listText
  rw [strLen_append]
  have := from_len ts 0 "[" B h
  have e1 : ("[" : Str).length = 1 := rfl
  have e2 : ("]" : Str).length = 1 := rfl
  omega
/-- texts that are not long, of small signs -/
def TokB (t : Toks) : Prop := t.length ≤ 50 ∧ ∀ x ∈ t, x.length ≤ 400 ∧ ∀ c ∈ x, c < 200
abbrev dTs (t : Toks) : PyData := .list (t.map dS)
abbrev dLs (L : List Toks) : PyData := .list (L.map dTs)
theorem shown_S {x : List Nat} (h : x.length ≤ 400 ∧ ∀ c ∈ x, c < 200) : (dS x).shown.length ≤ 4002 := by
  have := PySem.StrLaws.reprText_len (S x) fun c hc => Nat.lt_trans (h.2 c hc) (by decide)
  rw [S_len] at this
  show (reprText (S x)).length ≤ 4002
  omega
theorem shownAll_map {α : Type} (f : α → PyData) : ∀ l : List α, PyData.shownAll (l.map f) = l.map fun a => (f a).shown
  | [] => rfl
  | a :: l => by
    rw [List.map_cons, List.map_cons, ← shownAll_map f l]
    rfl
theorem shown_Ts {t : Toks} (h : TokB t) : (dTs t).shown.length ≤ 200302 := by
  show (listText (PyData.shownAll (t.map dS))).length ≤ _
  rw [shownAll_map]
  have := list_len (ts := t.map fun a => (dS a).shown) (B := 4002) fun x hx => by
    obtain ⟨a, ha, rfl⟩ := List.mem_map.mp hx
    exact shown_S (h.2 a ha)
  rw [List.length_map] at this
  have h1 := h.1
  have : t.length * 4004 ≤ 50 * 4004 := Nat.mul_le_mul_right _ h1
  omega
theorem shown_Ls {L : List Toks} (hl : L.length ≤ 10) (h : ∀ t ∈ L, TokB t) : (dLs L).shown.length ≤ 3000000 := by
  show (listText (PyData.shownAll (L.map dTs))).length ≤ _
  rw [shownAll_map]
  have := list_len (ts := L.map fun a => (dTs a).shown) (B := 200302) fun x hx => by
    obtain ⟨a, ha, rfl⟩ := List.mem_map.mp hx
    exact shown_Ts (h a ha)
  rw [List.length_map] at this
  have : L.length * 200304 ≤ 10 * 200304 := Nat.mul_le_mul_right _ hl
  omega
theorem showable_Ts (t : Toks) : (dTs t).showable = true ∧ (dTs t).hasDict = false ∧ (dTs t).depth ≤ 1 := by
  have key : ∀ l : Toks, PyData.showableAll (l.map dS) = true ∧ PyData.hasDictAll (l.map dS) = false ∧ PyData.depthAll (l.map dS) = 0 := by
    intro l
    induction l with
    | nil => exact ⟨rfl, rfl, rfl⟩
    | cons a l ih =>
      obtain ⟨h1, h2, h3⟩ := ih
      simp [PyData.showableAll, PyData.showable, PyData.hasDictAll, PyData.hasDict, PyData.depthAll, PyData.depth, h1, h2, h3]
  obtain ⟨h1, h2, h3⟩ := key t
  simp [PyData.showable, PyData.hasDict, PyData.depth, h1, h2, h3]
theorem showable_Ls (L : List Toks) : (dLs L).showable = true ∧ (dLs L).hasDict = false ∧ (dLs L).depth ≤ 2 := by
  have key : ∀ l : List Toks, PyData.showableAll (l.map dTs) = true ∧ PyData.hasDictAll (l.map dTs) = false ∧ PyData.depthAll (l.map dTs) ≤ 1 := by
    intro l
    induction l with
    | nil => exact ⟨rfl, rfl, Nat.zero_le _⟩
    | cons a l ih =>
      obtain ⟨h1, h2, h3⟩ := ih
      obtain ⟨g1, g2, g3⟩ := showable_Ts a
      rw [List.map_cons]
      refine ⟨?_, ?_, ?_⟩
      · simp only [PyData.showableAll, g1, h1, Bool.and_self]
      · simp only [PyData.hasDictAll, g2, h2, Bool.or_self]
      · simp only [PyData.depthAll]
        omega
  obtain ⟨h1, h2, h3⟩ := key L
  refine ⟨?_, ?_, ?_⟩
  · simp only [PyData.showable, h1]
  · simp only [PyData.hasDict, h2]
  · simp only [PyData.depth]
    omega
theorem dp_Ts {K : PySem.W.Frag} {H : Hp} {p : Addr} {t : Toks} (h : LstAt H p t) : Dp K H (.ref p) (dTs t) := .lst (SqL.of h) (dp_strs t)
theorem dp_Ls {K : PySem.W.Frag} {H : Hp} {p : Addr} {L : List Toks} (h : DuesAt H p L) : Dp K H (.ref p) (dLs L) := by
  obtain ⟨qs, h1, h2⟩ := h
  refine .lst (SqL.of h1) ?_
  clear h1
  induction h2 with
  | nil => exact .nil
  | cons r _ ih => exact .cons (dp_Ts r) ih
section
variable {K : PySem.W.Frag} {H : Hp} {Q : VK} {p : Addr}
theorem sz16 {n : Nat} (h : n ≤ 3000000) : n ≤ sizeLine := by
  rw [sizeLine_eq]
  omega
theorem r_reprT {t : Toks} (h : LstAt H p t) (hb : TokB t) (q : Q (.str (dTs t).shown) H) : nRepr K [.ref p] H Q := by
  obtain ⟨h1, h2, h3⟩ := showable_Ts t
  have := shown_Ts hb
  exact ⟨_, dTs t, rfl, dp_Ts h, h1, h2, by omega, sz16 (by omega), fun i z => (by cases z), q⟩
theorem r_reprL {L : List Toks} (h : DuesAt H p L) (hl : L.length ≤ 10) (hb : ∀ t ∈ L, TokB t) (q : Q (.str (dLs L).shown) H) : nRepr K [.ref p] H Q := by
  obtain ⟨h1, h2, h3⟩ := showable_Ls L
  exact ⟨_, dLs L, rfl, dp_Ls h, h1, h2, by omega, sz16 (shown_Ls hl hb), fun i z => (by cases z), q⟩
end
theorem sign_small : ∀ c ∈ tl SIGNS, c < 200 := by decide +kernel
theorem file_small {l : List Nat} (h : isFile (S l) = true) : ∀ c ∈ l, c < 200 := fun c hc => sign_small c (isFile_mem h c hc)
theorem insL_small : ∀ {l : List (List Nat × List Nat)}, (∀ kw ∈ l, isName (S kw.1) = true ∧ kw.1 ≠ nNAME ∧ isWord (S kw.2) = true) → ∀ c ∈ insL l, c < 200
  | [], _ => fun c hc => nomatch (show c ∈ ([] : List Nat) from hc)
  | [a], h => fun c hc => by
    have h1 := h a (by simp)
    have e : insL [a] = itemL a := by simp [insL, TL.joinL]
    rw [e] at hc
    rcases List.mem_append.mp hc with z | z
    · exact file_small (isName_file h1.1) c z
    · rcases List.mem_cons.mp z with z | z
      · rw [z]; decide
      · exact file_small (isWord_file h1.2.2) c z
  | a :: b :: r, h => fun c hc => by
    have h1 := h a (by simp)
    have e : insL (a :: b :: r) = itemL a ++ ([44] ++ insL (b :: r)) := by
      unfold insL
      rw [List.map_cons, List.map_cons, joinL_cons]
    rw [e] at hc
    rcases List.mem_append.mp hc with z | z
    · rcases List.mem_append.mp z with z | z
      · exact file_small (isName_file h1.1) c z
      · rcases List.mem_cons.mp z with z | z
        · rw [z]; decide
        · exact file_small (isWord_file h1.2.2) c z
    · rcases List.mem_append.mp z with z | z
      · rw [List.mem_singleton.mp z]; decide
      · exact insL_small (fun kw hk => h kw (by simp only [List.mem_cons] at hk ⊢; exact .inr hk)) c z
theorem textL_small {s : Ser} (h : SerOk s) : ∀ c ∈ textL s, c < 200 := fun c hc => by
  rcases List.mem_append.mp hc with z | z
  · exact file_small (isName_file h.1) c z
  · rcases List.mem_cons.mp z with z | z
    · rw [z]; decide
    · rcases List.mem_append.mp z with z | z
      · exact insL_small h.2.2.1 c z
      · rw [List.mem_singleton.mp z]; decide
theorem tokB_rows {rows : List Ser} (hl : rows.length ≤ 50) (h : ∀ s ∈ rows, SerOk s) : TokB (rows.map textL) := ⟨by rw [List.length_map]; exact hl, fun x hx => by
  obtain ⟨s, hs, rfl⟩ := List.mem_map.mp hx
  exact ⟨textL_len (h s hs), textL_small (h s hs)⟩⟩
theorem wordOf_ok {s : Ser} (h : SerOk s) {k x : List Nat} (e : wordOf s k = some x) : isFile (S x) = true := by
  rw [wordOf_mem h] at e
  rcases List.mem_cons.mp e with z | z
  · rw [(Prod.mk.inj z).2]
    exact isName_file h.1
  · exact isWord_file (h.2.2.1 _ z).2.2
theorem tokB_words {rows : List Ser} {k : List Nat} {ws : Toks} (hl : rows.length ≤ 50) (h : ∀ s ∈ rows, SerOk s) (hw : WordsR rows k ws) : TokB ws := by
  have hnd : ws.Nodup := by
    rw [List.nodup_iff_pairwise_ne]
    exact hw.1.imp fun {y z} hlt e => by
      rw [e] at hlt
      exact absurd hlt (List.lt_irrefl _)
  have hle := nodup_bound (f := fun s => wordOf s k) hnd fun y hy => (hw.2 y).mp hy
  refine ⟨by omega, fun x hx => ?_⟩
  obtain ⟨s, hs, e⟩ := (hw.2 x).mp hx
  have hf := wordOf_ok (h s hs) e
  have h1 := (isFile_len hf).2
  rw [S_len] at h1
  exact ⟨by omega, file_small hf⟩
theorem tokB_due {rows : List Ser} {m : Mn} {k x : List Nat} {ws : Toks} (hl : rows.length ≤ 50) (h : ∀ s ∈ rows, SerOk s) (hw : WordsR rows k ws) : ∀ t ∈ dueL rows m k x ws, TokB t := by
  intro t ht
  simp only [dueL, List.mem_cons, List.not_mem_nil, or_false] at ht
  have sub : ∀ f : Ser → Bool, TokB ((rows.filter f).map textL) := fun f => tokB_rows (Nat.le_trans (List.length_filter_le f rows) hl) fun s hs => h s (List.mem_filter.mp hs).1
  rcases ht with rfl | rfl | rfl | rfl
  · exact tokB_rows hl h
  · exact sub m
  · exact sub _
  · exact tokB_words hl h hw
theorem words_one {rows : List Ser} {k : List Nat} {ws ws' : Toks} (h : WordsR rows k ws) (h' : WordsR rows k ws') : ws = ws' := rising_uniq h.1 h'.1 fun x => (h.2 x).trans (h'.2 x).symm
end
set_option Elab.async false
set_option linter.all false
set_option maxRecDepth 100000
set_option maxHeartbeats 4000000
/-! One question, asked twice. -/
section
open PySem PySem.Spec PyProof.Rows L2
open Evl (Ex given)

theorem ex_more {H H' : Hp} {p : Addr} {o : HO} (e : Ex H H') (h : H' p = none) : Ex H (upd H' p o) := e.trans (Ex.mut (Ex.refl _) h)
theorem LstAt.ex {H H' : Hp} {p : Addr} {t : Toks} (h : LstAt H p t) (e : Ex H H') : LstAt H' p t := e _ _ h
theorem ite_no {c : Bool} {A B : Prop} (h : c = false) (q : B) : if c = true then A else B := by
  subst h
  exact iteF q
theorem Pat' {α β : Type} {R : α → β → Prop} {xs : List α} {ys : List β} (hp : Paired R xs ys) : ∀ {i : Nat} {y : β}, ys[i]? = some y → ∃ x, xs[i]? = some x ∧ R x y := by
  induction hp with
  | nil =>
    intro i y h
    simp at h
  | @cons a b xs ys r _ ih =>
    intro i y h
    cases i with
    | zero =>
      simp only [List.getElem?_cons_zero, Option.some.injEq] at h
      subst h
      exact ⟨a, rfl, r⟩
    | succ i =>
      simp only [List.getElem?_cons_succ] at h ⊢
      exact ih h
/-- a pool of keys and words to ask of -/
structure AskPool (H : Hp) (p : Addr) (keys words : Toks) : Prop where
  ob : ∃ ka wa rest, H p = some (.lst (.ref ka :: .ref wa :: rest)) ∧ LstAt H ka keys ∧ LstAt H wa words
  kn : keys.length = 3
  wn : words.length = 4
  ks : ∀ x ∈ keys, isName (S x) = true
  ws : ∀ x ∈ words, isWord (S x) = true
section
variable {P : Program} {w : World} {K : PySem.W.Frag} {mg : Str → Option Value} {base : Heap}
def spAsk (P : Program) (w : World) (K : PySem.W.Frag) : Sp := fun vs H Q _ => ∃ (b a sa ka ba ra p : Addr) (sl : Slots) (vs0 : List V) (rows : List Ser) (keys words : Toks) (c : Nat), vs = [.ref b, .ref a, .ref ra, .ref p] ∧ BoxAt H b c ∧ c + 160 ≤ 1000000000 ∧ IdxAt P w K H a sa ka ba sl ∧
  H ra = some (.lst vs0) ∧ Paired (LSer H) vs0 rows ∧ RiseTx rows ∧ rows.Perm (occ sl) ∧ rows.length ≤ 40 ∧ AskPool H p keys words ∧ ∀ H', BoxAt H' b (c + 160) → Exx [b] H H' → Q (.bl true) H'
theorem sc_law_asked_right : FnScope ["_law_box_here", "_law_index", "_law_rows", "_law_pool_here", "_law_keys", "_law_words", "_law_text", "_law_key", "_law_word_here", "_law_first", "_law_due", "_law_turn", "_law_told_here"] ["_law_box_here", "_law_index", "_law_rows", "_law_pool_here"] (defScope s_law_asked_right) := ⟨rfl, rfl, rfl, by decide +kernel, rfl, by decide +kernel, by decide +kernel⟩
theorem ok_law_asked_right (T : Txt K mg) : GoodPG P w K mg base "_law_asked_right" 45 ["_law_box_here", "_law_index", "_law_rows", "_law_pool_here"] (spAsk P w K) := by
  have G_law_take := ok_law_take (P := P) (w := w) (base := base) T
  have G_law_joined := ok_law_joined (P := P) (w := w) (base := base) T
  have G_law_written := ok_law_written (P := P) (w := w) (base := base) T 3 (by decide)
  have G_law_dues := ok_law_dues (P := P) (w := w) (base := base) T
  have G_law_told := ok_law_told (P := P) (w := w) (base := base) T
  have G_law_spoil := ok_law_spoil (P := P) (w := w) (base := base) T
  have G_law_texts := ok_law_texts (P := P) (w := w) (base := base) T
  have G_Selection_init := ok_Selection_init (P := P) (w := w) (base := base) T
  have G_Index_series := ok_Index_series (P := P) (w := w) (base := base) T
  have G_chosen := ok_chosen (P := P) (w := w) (base := base) T
  obtain ⟨fd, F⟩ := T.f_law_asked_right
  refine goodG_of F sc_law_asked_right (fun vs H Q E h => ?_) (fun _ _ _ _ _ _ us hl => match us, hl with | [_, _, _, _], _ => rfl) (fun cdv A outer s H vs Q E hg hr h => ?_)
  · obtain ⟨b, a, sa, ka, ba, ra, p, sl, vs0, rows, keys, words, c, rfl, _⟩ := h
    rfl
  · obtain ⟨b, a, sa, ka, ba, ra, p, sl, vs0, rows, keys, words, c, rfl, hb, hc, hi, hra, hp, hrt, hrp, hl, hpool, k⟩ := h
    have hgd : Calm (A.deeper (envOfC "_law_asked_right" (defScope s_law_asked_right) s.heap.objs.size (He.ga K "_law_asked_right") cdv)) := hg
    obtain ⟨⟨pk, pw, rest, hpp, hpk, hpw⟩, kn, wn, ks, ws⟩ := hpool
    have hnb := rows_ne hb hra hp
    refine ⟨_, (pss_cons (ps_par (i := 4) (j := 5) rfl sc_law_asked_right.nd rfl rfl (by decide) rfl rfl (pa_cons (pe_op op_cat (pe_ix ix_list (pv 3) pe_int (fun _ _ => rfl)) (pe_lst (pa_cons pe_str (pa_cons pe_str pa_nil)))) (pa_cons (pe_op op_cat (pe_ix ix_list (pv 3) pe_int (fun _ _ => rfl)) (pe_lst (pa_cons pe_str (pa_cons pe_str pa_nil)))) pa_nil)) rfl)
    (pss_cons (ps_set (i := 6) sc_law_asked_right.nd rfl (Or.inl rfl) (pcall G_law_joined hr T.g_law_joined (pa_cons (pv 0) (pa_cons (pcall G_law_written hr T.g_law_written (pa_cons (pv 0) (pa_cons pe_int (pa_cons (pe_op op_cat (pe_ix ix_list (pv 3) pe_int (fun _ _ => rfl)) (pe_lst (pa_cons pe_str pa_nil))) (pa_cons (pe_ix ix_list (pv 3) pe_int (fun _ _ => rfl)) pa_nil))))) pa_nil))))
    (pss_cons (ps_par3 (i := 7) (j := 8) (l := 9) rfl sc_law_asked_right.nd rfl rfl rfl (by decide) (by decide) (by decide) rfl rfl rfl (pa_cons (pe_ix ix_list (pv 4) (pcall G_law_take hr T.g_law_take (pa_cons (pv 0) (pa_cons pe_int pa_nil))) (fun _ _ => rfl)) (pa_cons (pe_ix ix_list (pv 5) (pcall G_law_take hr T.g_law_take (pa_cons (pv 0) (pa_cons pe_int pa_nil))) (fun _ _ => rfl)) (pa_cons (pcall G_law_take hr T.g_law_take (pa_cons (pv 0) (pa_cons pe_int pa_nil))) pa_nil))) rfl)
    (pss_cons (ps_set (i := 10) sc_law_asked_right.nd rfl (Or.inl rfl) (pe_callB (call_reprD hgd hr.units) rfl T.z_repr (by decide +kernel) (pa_cons (pcall G_law_dues hr T.g_law_dues (pa_cons (pv 2) (pa_cons (pv 6) (pa_cons (pv 7) (pa_cons (pv 8) pa_nil))))) pa_nil)))
    (pss_cons (ps_for PassesOwn.never rfl (pi_range1 rfl T.z_range (pa_cons pe_int pa_nil)) (pg_name (i := 11) sc_law_asked_right.nd rfl (Or.inl rfl))
    (pss_cons (ps_if (pt_cmpR op_ne (pe_callB (call_reprD hgd hr.units) rfl T.z_repr (by decide +kernel) (pa_cons (pcall G_law_told hr T.g_law_told (pa_cons (pv 1) (pa_cons (pv 6) (pa_cons (pv 7) (pa_cons (pv 8) (pa_cons (pe_cmpR op_eq (pe_op op_mod (pe_callTy call_int1N rfl T.z_int (by decide +kernel) (pa_cons (pe_op op_add (pv 11) (pv 9)) pa_nil)) pe_int) pe_int (nomark _)) pa_nil)))))) pa_nil)) (pv 10) (nomark _)) (pss_one (ps_ret pe_bl)) pss_nil)
    (pss_one (ps_expr (pcall G_law_spoil hr T.g_law_spoil (pa_cons (pv 1) (pa_cons (pv 6) (pa_cons (pv 7) (pa_cons (pv 8) pa_nil)))))))))
    (pss_cons (ps_set (i := 12) sc_law_asked_right.nd rfl (Or.inl rfl) (pmeth0 (pv 1) T.c_Index T.m_Index_series G_Index_series hr))
    (pss_one (ps_ret (pe_cmpR op_eq (pe_callB (call_reprD hgd hr.units) rfl T.z_repr (by decide +kernel) (pa_cons (pcall G_law_texts hr T.g_law_texts (pa_cons (pcall G_chosen hr T.g_chosen (pa_cons (pmake T.mk_Selection G_Selection_init hr T.g_Selection (pa_cons (pv 6) pa_nil)) (pa_cons (pv 12) pa_nil))) pa_nil)) pa_nil)) (pe_callB (call_reprD hgd hr.units) rfl T.z_repr (by decide +kernel) (pa_cons (pe_ix ix_list (pcall G_law_dues hr T.g_law_dues (pa_cons (pv 2) (pa_cons (pv 6) (pa_cons (pv 7) (pa_cons (pv 8) pa_nil))))) pe_int (fun _ _ => rfl)) pa_nil)) (nomark _)))))))))), ?_⟩
    have hk0 : H pk = some (.lst (keys.map vS)) := hpk
    have hw0 : H pw = some (.lst (words.map vS)) := hpw
    walk_at "v"
    refine r_ixL (v := .ref pk) (SqL.of hpp) (atI_nat (j := 0) rfl) ?_
    walk_at "v"
    intro q1 hq1
    have y1 := Ex.mut (Ex.refl H) hq1 (o := .lst [V.str "name", V.str "gone"])
    refine r_cat (y1 _ _ hk0) upd_same (by simp; omega) ?_
    intro q2 hq2
    have y2 := ex_more y1 hq2 (o := .lst (keys.map vS ++ [V.str "name", V.str "gone"]))
    have hk2 : LstAt (upd (upd H q1 (.lst [V.str "name", V.str "gone"])) q2 (.lst (keys.map vS ++ [V.str "name", V.str "gone"]))) q2 (keys ++ [tl "name", tl "gone"]) := by
      show _ = _
      rw [upd_same, List.map_append]
      rfl
    obtain ⟨H2, hH2⟩ : ∃ H2, H2 = upd (upd H q1 (.lst [V.str "name", V.str "gone"])) q2 (.lst (keys.map vS ++ [V.str "name", V.str "gone"])) := ⟨_, rfl⟩
    rw [← hH2] at y2 hk2 ⊢
    have hpp2 := y2 _ _ hpp
    have hw2 := y2 _ _ hw0
    walk_at "v"
    refine r_ixL (v := .ref pw) (SqL.of hpp2) (atI_nat (j := 1) rfl) ?_
    walk_at "v"
    intro q3 hq3
    have y3 := Ex.mut (Ex.refl H2) hq3 (o := .lst [V.str "load", V.str "zz9"])
    refine r_cat (y3 _ _ hw2) upd_same (by simp; omega) ?_
    intro q4 hq4
    have y4 := ex_more y3 hq4 (o := .lst (words.map vS ++ [V.str "load", V.str "zz9"]))
    have hw4 : LstAt (upd (upd H2 q3 (.lst [V.str "load", V.str "zz9"])) q4 (.lst (words.map vS ++ [V.str "load", V.str "zz9"]))) q4 (words ++ [tl "load", tl "zz9"]) := by
      show _ = _
      rw [upd_same, List.map_append]
      rfl
    obtain ⟨H4, hH4⟩ : ∃ H4, H4 = upd (upd H2 q3 (.lst [V.str "load", V.str "zz9"])) q4 (.lst (words.map vS ++ [V.str "load", V.str "zz9"])) := ⟨_, rfl⟩
    rw [← hH4] at y4 hw4 ⊢
    have hpp4 := y4 _ _ hpp2
    have hk4 := y4 _ _ (y2 _ _ hk0)
    walk_at "v"
    refine r_ixL (v := .ref pk) (SqL.of hpp4) (atI_nat (j := 0) rfl) ?_
    walk_at "v"
    intro q5 hq5
    have y5 := Ex.mut (Ex.refl H4) hq5 (o := .lst [V.str "name"])
    refine r_cat (y5 _ _ hk4) upd_same (by simp; omega) ?_
    intro q6 hq6
    have y6 := ex_more y5 hq6 (o := .lst (keys.map vS ++ [V.str "name"]))
    have hk6 : LstAt (upd (upd H4 q5 (.lst [V.str "name"])) q6 (.lst (keys.map vS ++ [V.str "name"]))) q6 (keys ++ [tl "name"]) := by
      show _ = _
      rw [upd_same, List.map_append]
      rfl
    obtain ⟨H6, hH6⟩ : ∃ H6, H6 = upd (upd H4 q5 (.lst [V.str "name"])) q6 (.lst (keys.map vS ++ [V.str "name"])) := ⟨_, rfl⟩
    rw [← hH6] at y6 hk6 ⊢
    have hpp6 := y6 _ _ hpp4
    have x06 := (y2.trans y4).trans y6
    have hw6 : LstAt H6 pw words := x06 _ _ hw0
    have hb6 := hb.ex x06
    walk_at "v"
    refine r_ixL (v := .ref pw) (SqL.of hpp6) (atI_nat (j := 1) rfl) ?_
    walk_at "v"
    have hn0 : isName (S (tl "name")) = true := by decide +kernel
    refine ⟨b, q6, pw, keys ++ [tl "name"], words, c, rfl, hb6, by unfold Bw Bw Bw; omega, ⟨hk6, hw6, by rw [List.length_append, kn]; decide, by rw [wn]; decide, fun z hz => ?_, ws⟩, fun r7 ts H7 hr7 hl7 hb7 e7 hg7 hn7 => ?_⟩
    · rcases List.mem_append.mp hz with z1 | z1
      · exact ks z z1
      · rw [List.mem_singleton.mp z1]
        exact hn0
    obtain ⟨m, hm⟩ := hg7
    have hjok := (gram_jok 2).2 ts m hm
    have hts : ts.length ≤ 40 := Nat.le_trans hn7 (by decide)
    walk_at "v"
    refine ⟨b, r7, ts, c + Bw 2, rfl, hb7, by unfold Bw Bw Bw; omega, hl7, hts, fun t ht => ?_, hjok, fun l H8 htk hll hb8 e8 => ?_⟩
    · rcases hjok.1 t ht with z | z
      · have := (isFile_len z).2
        rw [S_len] at this
        exact this
      · obtain ⟨q, rfl, _⟩ := z
        show 1 ≤ 24
        decide
    have hm' : AnyP 2 (toks l) m := by rw [htk]; exact hm
    have hk' : (toks l).length ≤ 40 := by rw [htk]; exact hts
    have hB : c + Bw 2 + 100 = c + 148 := rfl
    rw [hB] at hb8
    have hkq := ((hk2.ex y4).ex y6).exx hb6 (e7.trans e8)
    have hwq := (hw4.ex y6).exx hb6 (e7.trans e8)
    walk_at "v"
    refine ⟨b, 5, c + 148, rfl, by omega, by omega, hb8, by omega, fun d5 H9 hd5 hb9 e9 => ?_⟩
    have hkq9 := hkq.exx hb8 e9
    have hwq9 := hwq.exx hb8 e9
    have hl5 : d5 < (keys ++ [tl "name", tl "gone"]).length := by rw [List.length_append, kn]; exact hd5
    refine r_ixL (SqL.of hkq9) (at_lt hl5) ?_
    walk_at "v"
    refine ⟨b, 6, c + 149, rfl, by omega, by omega, hb9, by omega, fun d6 H10 hd6 hb10 e10 => ?_⟩
    have hwq10 := hwq9.exx hb9 e10
    have hl6 : d6 < (words ++ [tl "load", tl "zz9"]).length := by rw [List.length_append, wn]; exact hd6
    refine r_ixL (SqL.of hwq10) (at_lt hl6) ?_
    walk_at "v"
    refine ⟨b, 2, c + 150, rfl, by omega, by omega, hb10, by omega, fun d7 H11 hd7 hb11 e11 => ?_⟩
    have hkn : isName (S (keys ++ [tl "name", tl "gone"])[d5]) = true := by
      rcases List.mem_append.mp (List.getElem_mem hl5) with z | z
      · exact ks _ z
      · simp only [List.mem_cons, List.not_mem_nil, or_false] at z
        rcases z with z | z
        · rw [z]; decide +kernel
        · rw [z]; decide +kernel
    have hxw : isWord (S (words ++ [tl "load", tl "zz9"])[d6]) = true := by
      rcases List.mem_append.mp (List.getElem_mem hl6) with z | z
      · exact ws _ z
      · simp only [List.mem_cons, List.not_mem_nil, or_false] at z
        rcases z with z | z
        · rw [z]; decide +kernel
        · rw [z]; decide +kernel
    generalize (keys ++ [tl "name", tl "gone"])[d5] = kk at hkn
    generalize (words ++ [tl "load", tl "zz9"])[d6] = xx at hxw
    have z6 : Exx [b] H6 H11 := (e7.trans e8).trans ((e9.trans e10).trans e11)
    have z0 : Exx [b] H H11 := (Exx.of x06).trans z6
    have hi11 := (hi.ex x06).bx hb6 z6
    have hra11 := z0 _ _ hra (by simpa using hnb)
    have hp11 : Paired (LSer H11) vs0 rows := Pimp hp fun v s h => (h.ex x06).bx hb6 z6
    have hb11' : BoxAt H11 b (c + 160) := hb11.mono (by omega)
    have hok : ∀ s ∈ rows, SerOk s := fun s hs => hi.sers s (hrp.mem_iff.mp hs)
    have hl50 : rows.length ≤ 50 := by omega
    clear hb7 hb8 hb9 hb10 hb11 e7 e8 e9 e10 e11 hkq hkq9 hwq hwq9 hwq10
    walk_at "v"
    refine ⟨ra, vs0, rows, l, kk, xx, 2, m, rfl, hra11, hp11, hl, hll, hm', hk', fun p12 wz H12 e12 hwz hd12 => ?_⟩
    have hlen4 : (dueL rows m kk xx wz).length ≤ 10 := by
      show 4 ≤ 10
      decide
    walk_at "v"
    refine r_reprL hd12 hlen4 (tokB_due hl50 hok hwz) ?_
    have hi12 := hi11.ex e12
    walk_at "v"
    refine for_it (walk_range (lo := 0) (n := 2)) (fun i σ H' => ∃ o, σ = [some (.ref b), some (.ref a), some (.ref ra), some (.ref p), some (.ref q2), some (.ref q4), some (vS l), some (vS kk), some (vS xx), some (.int (d7 : Nat)), some (.str (dLs (dueL rows m kk xx wz)).shown), o, none] ∧ Ex H12 H')
      ⟨none, rfl, Ex.refl _⟩ (fun _ _ _ _ _ => trivial) ?_ ?_
    · rintro i v σ Ha Hb hi2 ⟨o, rfl, ea⟩ ⟨rfl, rfl⟩
      have hia := hi12.ex ea
      walk_at "v"
      refine ⟨a, sa, ka, ba, sl, l, kk, xx, _, rows, m, rfl, hia, hrt, hrp, hl, hll, hm', hk', hkn, hxw, fun p13 wy H13 e13 hwy hd13 => ?_⟩
      obtain rfl := words_one hwz hwy
      walk_at "v"
      refine r_reprL hd13 hlen4 (tokB_due hl50 hok hwz) ?_
      walk_at "v"
      refine ite_no (by simp) ?_
      walk_at "v"
      have hi13 := hia.ex e13
      refine ⟨a, sa, ka, ba, sl, l, kk, xx, m, rfl, hi13, hll, hm', hk', hkn, hxw, fun H14 e14 => ?_⟩
      walk_at "v"
      exact ⟨_, rfl, (ea.trans e13).trans e14⟩
    · rintro σ Ha ⟨o, rfl, ea⟩
      have hia := hi12.ex ea
      have xa := e12.trans ea
      walk_at "v"
      refine ⟨hia.is, ?_⟩
      walk_at "v"
      refine ⟨a, sa, ka, ba, sl, rfl, hia, fun v r1 H1 e1 ht1 hp1 hr1 => ?_⟩
      obtain rfl := rows_tru hrt hrp _ hp1 hr1
      rw [filter_tru] at ht1
      obtain ⟨q8, vs8, rfl, _, hq8, hs8⟩ := ht1
      walk_at "v"
      intro sx sdx hsx hsd hsn
      refine sel_made hsx hsd hsn hll hm' hk' fun H2' e2 hs2 => ?_
      have hq9 := e2 _ _ hq8
      have hs9 : Paired (SerAt K H2') vs8 rows := Pimp hs8 fun v s h => h.ex e2
      walk_at "v"
      refine ⟨.ref sx, q8, vs8, rows, m, rfl, hs2, hq9, hs9, hrt, hl50, fun u H3 e3 ht3 => ?_⟩
      obtain ⟨q10, vs10, rfl, _, hq10, hs10⟩ := ht3
      walk_at "v"
      refine ⟨q10, vs10, _, rfl, hq10, hs10, Nat.le_trans (List.length_filter_le m rows) (by omega), fun p4 H4' e4 hp4 hl4 => ?_⟩
      have hT : TokB ((rows.filter m).map textL) := tokB_rows (Nat.le_trans (List.length_filter_le m rows) hl50) fun s hs => hok s (List.mem_filter.mp hs).1
      walk_at "v"
      refine r_reprT hl4 hT ?_
      walk_at "v"
      have xb := xa.trans ((e1.trans e2).trans (e3.trans e4))
      have hra5 := xb _ _ hra11
      have hp5 : Paired (LSer H4') vs0 rows := Pimp hp11 fun v s h => h.ex xb
      refine ⟨ra, vs0, rows, l, kk, xx, 2, m, rfl, hra5, hp5, hl, hll, hm', hk', fun p6 wy H6' e6 hwy hd6' => ?_⟩
      obtain ⟨qs, hq6, hL6⟩ := hd6'
      obtain ⟨u0, h0, hu0⟩ := Pat' hL6 (i := 1) (y := (rows.filter m).map textL) rfl
      walk_at "v"
      refine r_ixL (v := .ref u0) (SqL.of hq6) (atI_nat (j := 1) (by rw [List.getElem?_map, h0]; rfl)) ?_
      walk_at "v"
      refine r_reprT hu0 hT ?_
      refine r_eq rfl ?_
      rw [decide_eq_true rfl]
      exact k H6' (hb11'.ex ((xa.trans ((e1.trans e2).trans (e3.trans e4))).trans e6)) (z0.trans (Exx.of (xb.trans e6)))
end
end
set_option Elab.async false
set_option linter.all false
set_option maxRecDepth 100000
set_option maxHeartbeats 4000000
/-! A put or a drop. -/
section
open PySem PySem.Spec PyProof.Rows L2
open Evl (Ex given)

/-- what a put (0) or a drop does to a set -/
def Eff {α : Type} (d : Nat) (x : α) (l l' : List α) : Prop := (d = 0 → ∀ y, y ∈ l' ↔ y ∈ l ∨ y = x) ∧ (d ≠ 0 → ∀ y, y ∈ l' ↔ y ∈ l ∧ y ≠ x)
section
variable {P : Program} {w : World} {K : PySem.W.Frag} {mg : Str → Option Value} {base : Heap}
def spDo (P : Program) (w : World) (K : PySem.W.Frag) : Sp := fun vs H Q _ => ∃ (a sa ka ba ha : Addr) (sl : Slots) (ts : Toks) (d : Nat) (o : V) (s : Ser), vs = [.ref a, .ref ha, .int (d : Nat), o] ∧ IdxAt P w K H a sa ka ba sl ∧ LstAt H ha ts ∧ ha ∉ [a, sa, ka, ba] ∧ LSer H o s ∧ ts.length ≤ 1000 ∧ (occ sl).length < 50 ∧
  ∀ sl' ts' H', IdxAt P w K H' a sa ka ba sl' → LstAt H' ha ts' → Exx [a, sa, ka, ba, ha] H H' → Eff d s (occ sl) (occ sl') → Eff d (textL s) ts ts' → ts'.length ≤ ts.length + 1 → Q (.bl true) H'
theorem sc_law_do : FnScope ["_law_index", "_law_held", "_law_way", "_law_one", "_law_series_here", "_law_text", "_law_other"] ["_law_index", "_law_held", "_law_way", "_law_one"] (defScope s_law_do) := ⟨rfl, rfl, rfl, by decide +kernel, rfl, by decide +kernel, by decide +kernel⟩
theorem ok_law_do (T : Txt K mg) : GoodP P w K mg base "_law_do" 7 ["_law_index", "_law_held", "_law_way", "_law_one"] (spDo P w K) := by
  have G_law_shown := ok_law_shown (P := P) (w := w) (base := base) T
  have G_read_series := ok_read_series (P := P) (w := w) (base := base) T
  have G_Index_put := ok_Index_put (P := P) (w := w) (base := base) T
  have G_Index_drop := ok_Index_drop (P := P) (w := w) (base := base) T
  obtain ⟨fd, F⟩ := T.f_law_do
  refine good_of F sc_law_do (fun vs H Q E h => ?_) (fun _ _ _ _ _ _ us hl => match us, hl with | [_, _, _, _], _ => rfl) (fun cdv A outer s H vs Q E hr h => ?_)
  · obtain ⟨a, sa, ka, ba, ha, sl, ts, d, o, sr, rfl, _⟩ := h
    rfl
  · obtain ⟨a, sa, ka, ba, ha, sl, ts, d, o, sr, rfl, hi, ht, hn, ho, htl, hol, k⟩ := h
    refine ⟨_, (pss_cons (ps_asg (pe_tup (pa_cons (pcall G_read_series hr T.g_read_series (pa_cons (pcall G_law_shown hr T.g_law_shown (pa_cons (pv 3) pa_nil)) pa_nil)) (pa_cons (pcall G_law_shown hr T.g_law_shown (pa_cons (pv 3) pa_nil)) pa_nil))) (pg_tup rfl (pgs_cons (pg_name (i := 4) sc_law_do.nd rfl (Or.inl rfl)) (pgs_cons (pg_name (i := 5) sc_law_do.nd rfl (Or.inr rfl)) pgs_nil))))
    (pss_cons (ps_if (pt_cmpR op_eq (pv 2) pe_int (nomark _)) (pss_cons (ps_if (pt_cmpR op_notIn_seq (pv 5) (pv 1) (by rfl)) (pss_one (ps_expr (pe_bm PySem.F.plainAttrs_list PySem.F.slot_list_append PySem.F.type_list_append mt_append (pv 1) (pa_cons (pv 5) pa_nil)))) pss_nil)
    (pss_one (ps_ret (pe_cmpR op_isN1 (pe_ifExp (pt_cmpR op_gt (pe_callB call_lenN rfl T.z_len (by decide +kernel) (pa_cons (pv 1) pa_nil)) pe_int (nomark _)) (pmeth (pv 0) T.c_Index T.m_Index_put G_Index_put hr (pa_cons (pv 4) pa_nil)) (pmethK (pv 0) T.c_Index T.m_Index_put G_Index_put T.f_Index_put hr false ["series"] (pk_cons (pv 4) pk_nil) (fun _ _ _ _ _ _ _ ws hl => match ws, hl with | [_], _ => rfl))) pe_non (nomark _))))) pss_nil)
    (pss_cons (ps_asg (pe_lc (own := [("_law_other", 6)]) rfl sc_law_do.nd (pi_list (pv 1)) (blkOk_by (N := ["_law_index", "_law_held", "_law_way", "_law_one", "_law_series_here", "_law_text", "_law_other"]) (sc := defScope s_law_do) (by decide +kernel)) (fun _ _ _ _ _ => (pg_name (i := 6) sc_law_do.nd rfl (Or.inl rfl))) (fun _ _ _ _ _ => (pts_one (pt_cmpR op_ne (pv 6) (pv 5) (nomark _)))) (fun _ _ _ _ _ => (pv 6))) (pg_whole (pv 1)))
    (pss_one (ps_ret (pe_cmpR op_isN1 (pe_ifExp (pt_cmpR op_gt (pe_callB call_lenN rfl T.z_len (by decide +kernel) (pa_cons (pv 1) pa_nil)) pe_int (nomark _)) (pmeth (pv 0) T.c_Index T.m_Index_drop G_Index_drop hr (pa_cons (pv 4) pa_nil)) (pmethK (pv 0) T.c_Index T.m_Index_drop G_Index_drop T.f_Index_drop hr false ["series"] (pk_cons (pv 4) pk_nil) (fun _ _ _ _ _ _ _ ws hl => match ws, hl with | [_], _ => rfl))) pe_non (nomark _))))))), ?_⟩
    walk_at "v"
    refine ⟨o, sr, rfl, ho, fun H1 e1 => ?_⟩
    walk_at "v"
    refine ⟨sr, rfl, ho.ok, fun v H2 e2 hv => ?_⟩
    walk_at "v"
    refine ⟨o, sr, rfl, ho.ex (e1.trans e2), fun H3 e3 => ?_⟩
    walk_at "v"
    intro p hp
    have e04 := ex_more ((e1.trans e2).trans e3) hp (o := .tup [v, vS (textL sr)])
    have hv4 : SerAt K (upd H3 p (.tup [v, vS (textL sr)])) v sr := hv.ex (ex_more e3 hp)
    have hp4 : upd H3 p (.tup [v, vS (textL sr)]) p = some (.tup [v, vS (textL sr)]) := upd_same
    obtain ⟨H4, hH4⟩ : ∃ H4, H4 = upd H3 p (.tup [v, vS (textL sr)]) := ⟨_, rfl⟩
    rw [← hH4] at e04 hv4 hp4 ⊢
    have hi4 := hi.ex e04
    have ht4 := ht.ex e04
    walk_at "v"
    refine ite2 (fun c0 => ?_) (fun c0 => ?_)
    · have hd0 : d = 0 := by
        have := of_decide_eq_true c0
        injection this with this
        omega
      walk_at "v"
      refine r_ninLS (SqL.of ht4) ?_
      walk_at "v"
      refine ite2 (fun c1 => ?_) (fun c1 => ?_)
      · walk_at "v"
        refine r_append ht4 (by rw [List.length_map]; omega) ?_
        have hnf := nf_lst ht4
        have e45 : Exx [ha] H4 (upd H4 ha (.lst (ts.map vS ++ [vS (textL sr)]))) := (Exx.refl _ _).wr (by simp)
        have hi5 := hi4.exx e45 (fun x hx => by rw [List.mem_singleton] at hx; rw [hx]; exact hn) (fun x hx => by rw [List.mem_singleton] at hx; rw [hx]; exact hnf)
        have hv5 := hv4.exx e45 (fun x hx => by rw [List.mem_singleton] at hx; rw [hx]; exact hnf)
        obtain ⟨ts5, hts5⟩ : ∃ ts5, ts5 = ts ++ [textL sr] := ⟨_, rfl⟩
        have ht5 : LstAt (upd H4 ha (.lst (ts.map vS ++ [vS (textL sr)]))) ha ts5 := by
          show _ = _
          rw [upd_same, hts5, List.map_append]
          rfl
        have hEff : Eff d (textL sr) ts ts5 := ⟨fun _ y => by rw [hts5, List.mem_append, List.mem_singleton], fun z => absurd hd0 z⟩
        have hlen5 : ts5.length ≤ ts.length + 1 := by rw [hts5, List.length_append, List.length_singleton]; omega
        have e05 : Exx [a, sa, ka, ba, ha] H (upd H4 ha (.lst (ts.map vS ++ [vS (textL sr)]))) := (Exx.of e04).trans (e45.mono fun x hx => by rw [List.mem_singleton] at hx; simp [hx])
        obtain ⟨H5, hH5⟩ : ∃ H5, H5 = upd H4 ha (.lst (ts.map vS ++ [vS (textL sr)])) := ⟨_, rfl⟩
        rw [← hH5] at hi5 hv5 ht5 e05 ⊢
        walk_at "v"
        refine ite2 (fun _ => ?_) (fun _ => ?_)
        · walk_at "v"
          refine ⟨hi5.is, ?_⟩
          walk_at "v"
          refine ⟨a, sa, ka, ba, sl, v, rfl, hi5, .inl ⟨sr, hv5, .inr hol, fun sl' H6 hi6 e6 hm6 => ?_⟩⟩
          walk_at "v"
          refine k sl' ts5 H6 hi6 (e6 _ _ ht5 hn) (e05.trans (e6.mono fun x hx => by simp only [List.mem_cons, List.not_mem_nil, or_false] at hx ⊢; rcases hx with h | h | h | h <;> simp [h])) ⟨fun _ => hm6, fun z => absurd hd0 z⟩ hEff hlen5
        · walk_at "v"
          refine ⟨hi5.is, ?_⟩
          walk_at "v"
          refine ⟨rfl, a, sa, ka, ba, sl, v, rfl, hi5, .inl ⟨sr, hv5, .inr hol, fun sl' H6 hi6 e6 hm6 => ?_⟩⟩
          walk_at "v"
          refine k sl' ts5 H6 hi6 (e6 _ _ ht5 hn) (e05.trans (e6.mono fun x hx => by simp only [List.mem_cons, List.not_mem_nil, or_false] at hx ⊢; rcases hx with h | h | h | h <;> simp [h])) ⟨fun _ => hm6, fun z => absurd hd0 z⟩ hEff hlen5
      · have hi5 := hi4
        have hv5 := hv4
        obtain ⟨ts5, hts5⟩ : ∃ ts5, ts5 = ts := ⟨_, rfl⟩
        have ht5 : LstAt H4 ha ts5 := by rw [hts5]; exact ht4
        have hEff : Eff d (textL sr) ts ts5 := ⟨fun _ y => by
          rw [hts5]
          refine ⟨.inl, fun z => ?_⟩
          rcases z with z | z
          · exact z
          · rw [z]
            simpa using c1, fun z => absurd hd0 z⟩
        have hlen5 : ts5.length ≤ ts.length + 1 := by rw [hts5]; omega
        have e05 : Exx [a, sa, ka, ba, ha] H H4 := Exx.of e04
        walk_at "v"
        refine ite2 (fun _ => ?_) (fun _ => ?_)
        · walk_at "v"
          refine ⟨hi5.is, ?_⟩
          walk_at "v"
          refine ⟨a, sa, ka, ba, sl, v, rfl, hi5, .inl ⟨sr, hv5, .inr hol, fun sl' H6 hi6 e6 hm6 => ?_⟩⟩
          walk_at "v"
          refine k sl' ts5 H6 hi6 (e6 _ _ ht5 hn) (e05.trans (e6.mono fun x hx => by simp only [List.mem_cons, List.not_mem_nil, or_false] at hx ⊢; rcases hx with h | h | h | h <;> simp [h])) ⟨fun _ => hm6, fun z => absurd hd0 z⟩ hEff hlen5
        · walk_at "v"
          refine ⟨hi5.is, ?_⟩
          walk_at "v"
          refine ⟨rfl, a, sa, ka, ba, sl, v, rfl, hi5, .inl ⟨sr, hv5, .inr hol, fun sl' H6 hi6 e6 hm6 => ?_⟩⟩
          walk_at "v"
          refine k sl' ts5 H6 hi6 (e6 _ _ ht5 hn) (e05.trans (e6.mono fun x hx => by simp only [List.mem_cons, List.not_mem_nil, or_false] at hx ⊢; rcases hx with h | h | h | h <;> simp [h])) ⟨fun _ => hm6, fun z => absurd hd0 z⟩ hEff hlen5
    · have hd0 : d ≠ 0 := fun z => by
        rw [z] at c0
        exact c0 rfl
      walk_at "v"
      intro D hD
      refine lc_v (walk_list (xs := ts.map vS)) (fun i => ((ts[i]?).map fun t => !decide (t = textL sr)).getD false) (fun i => ((ts[i]?).map vS).getD .non) hD (by rw [List.length_map]; omega) (fun H5 e5 => SqL.of (e5 _ _ ht4)) ?_ (fun H5 e5 hD5 => ?_)
      · rintro N i x Ha Hb hi ea ⟨rfl, hx⟩ hno hyes
        obtain ⟨t, ht1, rfl⟩ := keys_at hx
        simp only [ht1, Option.map_some, Option.getD_some] at hno hyes
        walk_at "v"
        refine ⟨rfl, ?_⟩
        walk_at "v"
        rw [vS_dec]
        refine ite2 (fun c => ?_) (fun c => ?_)
        · walk_at "v"
          exact hyes c Hb (Ex.refl _)
        · exact hno (by simpa using c) Hb (Ex.refl _)
      · rw [List.length_map, given_map ts (fun t => !decide (t = textL sr)) vS _ _ (fun i hi => by rw [List.getElem?_eq_getElem hi]; rfl) (fun i hi _ => by rw [List.getElem?_eq_getElem hi]; rfl)] at hD5
        have ht45 := ht4.ex e5
        have hnD : ha ≠ D := ne_of_none ht4 hD
        have hfl := List.length_filter_le (fun t => !decide (t = textL sr)) ts
        walk_at "v"
        refine ⟨ha, D, _, _, rfl, rfl, ht45, hD5, hnD, by rw [List.length_map, List.length_map]; omega, ?_⟩
        have hnf := nf_lst ht45
        have e45 : Exx [ha] H4 (upd H5 ha (.lst ((ts.filter fun t => !decide (t = textL sr)).map vS))) := (Exx.of e5).wr (by simp)
        have hnf4 := nf_lst ht4
        have hi5 := hi4.exx e45 (fun x hx => by rw [List.mem_singleton] at hx; rw [hx]; exact hn) (fun x hx => by rw [List.mem_singleton] at hx; rw [hx]; exact hnf4)
        have hv5 := hv4.exx e45 (fun x hx => by rw [List.mem_singleton] at hx; rw [hx]; exact hnf4)
        obtain ⟨ts5, hts5⟩ : ∃ ts5, ts5 = ts.filter fun t => !decide (t = textL sr) := ⟨_, rfl⟩
        have ht5 : LstAt (upd H5 ha (.lst ((ts.filter fun t => !decide (t = textL sr)).map vS))) ha ts5 := by
          show _ = _
          rw [upd_same, hts5]
        have hEff : Eff d (textL sr) ts ts5 := ⟨fun z => absurd z hd0, fun _ y => by rw [hts5, List.mem_filter]; simp⟩
        have hlen5 : ts5.length ≤ ts.length + 1 := by rw [hts5]; omega
        have e05 : Exx [a, sa, ka, ba, ha] H (upd H5 ha (.lst ((ts.filter fun t => !decide (t = textL sr)).map vS))) := (Exx.of e04).trans (e45.mono fun x hx => by rw [List.mem_singleton] at hx; simp [hx])
        obtain ⟨H6', hH6⟩ : ∃ H6', H6' = upd H5 ha (.lst ((ts.filter fun t => !decide (t = textL sr)).map vS)) := ⟨_, rfl⟩
        rw [← hH6] at hi5 hv5 ht5 e05 ⊢
        walk_at "v"
        refine ite2 (fun _ => ?_) (fun _ => ?_)
        · walk_at "v"
          refine ⟨hi5.is, ?_⟩
          walk_at "v"
          refine ⟨a, sa, ka, ba, sl, v, rfl, hi5, .inl ⟨sr, hv5, fun sl' H6 hi6 e6 hm6 => ?_⟩⟩
          walk_at "v"
          refine k sl' ts5 H6 hi6 (e6 _ _ ht5 hn) (e05.trans (e6.mono fun x hx => by simp only [List.mem_cons, List.not_mem_nil, or_false] at hx ⊢; rcases hx with h | h | h | h <;> simp [h])) ⟨fun z => absurd z hd0, fun _ => hm6⟩ hEff hlen5
        · walk_at "v"
          refine ⟨hi5.is, ?_⟩
          walk_at "v"
          refine ⟨rfl, a, sa, ka, ba, sl, v, rfl, hi5, .inl ⟨sr, hv5, fun sl' H6 hi6 e6 hm6 => ?_⟩⟩
          walk_at "v"
          refine k sl' ts5 H6 hi6 (e6 _ _ ht5 hn) (e05.trans (e6.mono fun x hx => by simp only [List.mem_cons, List.not_mem_nil, or_false] at hx ⊢; rcases hx with h | h | h | h <;> simp [h])) ⟨fun z => absurd z hd0, fun _ => hm6⟩ hEff hlen5
end
end
set_option Elab.async false
set_option linter.all false
set_option maxRecDepth 100000
set_option maxHeartbeats 4000000
/-! try with several clauses that name what is caught. -/
section
open PySem PySem.Spec PyProof.Rows L2
open Evl (Ex given)
abbrev Suite : Type := Addr → Value → Option Addr → TS
/-- the ends of a suite: behind it slot i is empty -/
def offE (i : Nat) (D : Ends) : Ends := { nx := fun σ H => D.nx (σ.set i none) H, rt := D.rt, bk := fun σ H => D.bk (σ.set i none) H, ct := fun σ H => D.ct (σ.set i none) H }
/-- what clauses 'except c as n' wish, one behind another; slot i is n's -/
def wClauses (K : PySem.W.Frag) (i : Nat) (Wout : WX) (D : Ends) : List (Value × Suite) → WX
  | [] => Wout
  | (c, t) :: r => fun cls d σ H => ∃ b, PySem.W.exmOne K cls c = some b ∧ (b = true → ∀ a, H a = none → t a cls d (offE i D) (σ.set i (some (.ref a))) H) ∧ (b = false → wClauses K i Wout D r cls d σ H)
/-- the clauses and their suites -/
inductive Clauses (X : Cx) (n : Str) : List ExceptHandler → List (Value × Suite) → Prop
  | nil : Clauses X n [] []
  | cons {x : Str} {c : Value} {t : Suite} {b0 : Stmt} {bs : List Stmt} {p p' : Pos} {hds : List ExceptHandler} {l : List (Value × Suite)} (nm : Names X x c)
      (ok : ∀ (a : Addr) (oe : Obj) (cls : Value) (d : Option Addr) (pn : List (Addr × Obj)), Zc cls d oe → (∃ vs, oe.data = .fields vs) → PSs (X.suite a ((a, oe) :: pn)) (b0 :: bs) (t a cls d)) (r : Clauses X n hds l) :
      Clauses X n (.ExceptHandler (some (.Name x p)) (some n) (b0 :: bs) p' :: hds) ((c, t) :: l)
section
variable {X : Cx} {n : Str} {i : Nat} {body : List Stmt} {h0 : ExceptHandler} {hds : List ExceptHandler} {l : List (Value × Suite)} {pos : Pos} {tb : WX → TS} {Wout : WX}
theorem ps_try_clauses (hs : X.stack = X.env :: X.outer) (hf : X.env.frame = some X.env.locals) (hN : X.N.Nodup) (hi : X.N[i]? = some n) (hn : X.env.kindOf n = some .local) (tk : Takes X Wout)
    (hb : ∀ (W : WX) (pn : List (Addr × Obj)) (xe : Value → Shared → Prop), Takes (X.tr pn xe) W → PassesOwn (model X.prog X.w) X.A X.env xe → PSs (X.tr pn xe) body (tb W)) (hk : Clauses X n (h0 :: hds) l) :
    PS X (.Try body (h0 :: hds) [] [] pos) (fun D σ H => tb (wClauses X.K i Wout D l) D σ H) := by
  refine ⟨fun pins s σ H D I h => wpAny_Try_except ?_⟩
  have ok := I.ok
  have frames : X.A.frames = some (X.env :: X.outer) := by
    rw [ok.frames, hs]
  have asLoc : Loc X.env.scope n := .inl hn
  have bodyRun := (hb (wClauses X.K i Wout D l) (X.pn ++ pins) (fun e z => wpAny (model X.prog X.w) X.A (noteFrame e X.env) (fun _ z2 => wpAny (model X.prog X.w) X.A (setFlight e none) (fun _ z3 => wpAny (model X.prog X.w) X.A (handleBy e X.env (h0 :: hds)) (SP X pins D) X.xe z3) X.xe z2) X.xe z)
    (fun u z caught => ?_) PassesOwn.looking).run [] s σ H D (I.toTry _) h
  · refine wpAny_mono bodyRun (fun fl z q => ?_) fun _ _ q => q
    cases fl with
    | ret u =>
      obtain ⟨v, σ1, H1, J, r, q⟩ := q
      exact ⟨v, σ1, H1, J.ofTry ok, r, q⟩
    | next =>
      obtain ⟨σ1, H1, J, q⟩ := q
      exact wpAny_execs_nil ⟨σ1, H1, J.ofTry ok, q⟩
    | cont =>
      obtain ⟨σ1, H1, J, q⟩ := q
      exact ⟨σ1, H1, J.ofTry ok, q⟩
    | brk =>
      obtain ⟨σ1, H1, J, q⟩ := q
      exact ⟨σ1, H1, J.ofTry ok, q⟩
  · obtain ⟨a, B, sI, pins1, σ1, H1, cls, d, rfl, J0, nb, up, sky, na, os, ag, wish⟩ := caught
    have J : Inv X pins σ1 H1 sI := J0.ofTry ok
    have sky1 : Sky B (X.env :: X.outer) a (Zc cls d) X.env.locals z.heap := by
      rw [← hs]
      exact sky
    refine Sky.land Zc.steady frames hf sky1 fun h3 fl up3 => ?_
    have J3 : Inv X pins σ1 H1 { z with heap := h3 } := J.landed nb fl.1 (up.trans up3) os ag
    obtain ⟨oe, es, he, hz, hd⟩ := fl.there
    have apart : a ∉ frs (X.env :: X.outer) := fun hm => by
      obtain ⟨_, o2, e2, q2⟩ := fl.2.2.1.mem hm
      rw [he] at e2
      cases e2
      exact q2 _ hd
    have offL : a ≠ X.env.locals := fun q => apart (List.mem_filterMap.mpr ⟨X.env, List.mem_cons_self, by rw [hf, q]⟩)
    have offF : a ∉ X.fs := fun hm => by
      obtain ⟨e, m1, m2⟩ := List.mem_filterMap.mp hm
      exact apart (List.mem_filterMap.mpr ⟨e, List.mem_cons_of_mem _ m1, m2⟩)
    have S3 := J3.suite he hd na offL offF
    have go : ∀ {hs2 : List ExceptHandler} {l2 : List (Value × Suite)}, Clauses X n hs2 l2 → wClauses X.K i Wout D l2 cls d σ1 H1 → wpAny (model X.prog X.w) X.A (handleBy (.ref a) X.env hs2) (SP X pins D) X.xe { z with heap := h3 } := by
      intro hs2 l2 hk2
      induction hk2 with
      | nil =>
        intro wish
        refine wpAny_handleBy_nil ?_
        obtain ⟨_, _, _, o3, v3, T3, _, _, e3, _, d3, f3, _⟩ := id fl
        have passed : wpAny (model X.prog X.w) X.A (setFlight (.ref a) X.env.frame) (fun _ z4 => wpAny (model X.prog X.w) X.A (throw (.ref a) : Sem Flow) (SP X pins D) X.xe z4) X.xe { z with heap := h3 } := by
          rw [hf]
          refine HandSPX.setFlight_upZ fl fun h4 q4 up4 => wpAny_throw (tk _ _ ⟨a, B, sI, pins, σ1, H1, cls, d, rfl, J, nb, (up.trans up3).trans up4, .inr (.inr ?_), na, os, ag, wish⟩)
          rw [hs]
          exact q4
        unfold PySem.passOn
        refine wpAny_bind (wpAny_field e3 d3 f3 ?_)
        rw [if_neg (by simp : ¬ ((Value.ref T3 == Value.none) = true))]
        first
          | exact wpAny_bind passed
          | exact wpAny_bind (wpAny_pure (wpAny_bind passed))
      | @cons x c t b0 bs p p' hds2 l2 nm okS r ih =>
        intro wish
        obtain ⟨b, exm, yes, no⟩ := wish
        refine wpAny_handleBy_cons (codeAny_handlers_test ?_) (by intro q; cases q)
        have looks : PySem.W.Looks (model X.prog X.w) h3 (typeOf (.ref a)) cls := fun A Q E s k q => wpAny_typeOf_ref (k _ _ he) (hz.1 ▸ q)
        have named : ∀ {Q E : Value → Shared → Prop}, Q c { z with heap := h3 } → wpAny (model X.prog X.w) (X.A.mark (some (.ref a))) (eval (.Name x p) X.env) Q E { z with heap := h3 } := fun {Q E} q => by
          obtain ⟨g1, g2, m | ⟨m1, m2, m3⟩⟩ := nm
          · exact ld_glob (X := X.suite a ((a, oe) :: (X.pn ++ pins))) S3 g1 m q g2
          · exact ld_blt (X := X.suite a ((a, oe) :: (X.pn ++ pins))) S3 g1 m1 m2 q m3 g2
        refine named ((PySem.W.exm_one (M := model X.prog X.w) J3.kIn looks exm).here ?_)
        cases b with
        | false => exact ih (no rfl)
        | true =>
          refine codeAny_handlers_suite_as (HandSPX.lands_againZ fl fun h4 fl4 up4 => ?_)
          have J4 : Inv X pins σ1 H1 { z with heap := h4 } := J.landed nb fl4.1 ((up.trans up3).trans up4) os ag
          obtain ⟨oe4, es4, he4, hz4, hd4⟩ := fl4.there
          refine store_ok (X := X.suite a ((a, oe4) :: (X.pn ++ pins))) (v := .ref a) (J4.suite he4 hd4 na offL offF) hN hi asLoc rfl (fun s5 S5 => ?_) (.inr hn)
          have fin : ∀ {s6 : Shared} {σ6 : L2.St} {H6 : Hp} {Q : Shared → Prop}, Inv (X.suite a ((a, oe4) :: (X.pn ++ pins))) [] σ6 H6 s6 → (∀ s7, Inv X pins (σ6.set i none) H6 s7 → Q s7) →
              wpAny (model X.prog X.w) X.A (do bindName X.env n .none; unbindBehindTheSuite X.env n p') (fun _ s7 => Q s7) X.xe s6 := fun S6 q => gone_ok (S6.unsuite ok) hN hi hn q
          refine wpAny_mono ((okS a oe4 cls d (X.pn ++ pins) hz4 ⟨_, hd4⟩).run [] s5 _ H1 _ S5 (yes rfl a na)) (fun fl6 s6 q => ?_) fun _ _ q => False.elim q
          cases fl6 with
          | ret u =>
            obtain ⟨v6, σ6, H6, S6, r6, q6⟩ := q
            exact fin S6 fun s7 J7 => ⟨_, _, _, J7, r6, q6⟩
          | next =>
            obtain ⟨σ6, H6, S6, q6⟩ := q
            exact fin S6 fun s7 J7 => ⟨_, _, J7, q6⟩
          | cont =>
            obtain ⟨σ6, H6, S6, q6⟩ := q
            exact fin S6 fun s7 J7 => ⟨_, _, J7, q6⟩
          | brk =>
            obtain ⟨σ6, H6, S6, q6⟩ := q
            exact fin S6 fun s7 J7 => ⟨_, _, J7, q6⟩
    exact go hk wish
end
end
set_option Elab.async false
set_option linter.all false
set_option maxRecDepth 100000
set_option maxHeartbeats 4000000
/-! Methods that may raise within a try; repr of any of the law's wrong values. -/
section
open PySem PySem.Spec PyProof.Rows L2
open Evl (Ex given)
/-- o.m(e, ..) whose exceptions are wished for by W at the slots -/
def tMethS (C : Addr) (m : Str) (sp : Sp) (W : WX) (ta : TE) (t : TA) : TE := fun σ H Q => ta σ H fun x H1 => IsIns C m x H1 ∧ t σ H1 fun vs H2 => sp (x :: vs) H2 Q fun c d H3 => W c d σ H3
section
variable {X : Cx} {k j : Nat} {f C : Addr} {ps : List Str} {sp : Sp} {m : Str} {pos apos : Pos} {e o : Expr} {es : List Expr} {ta : TE} {t : TA} {W : WX}
theorem pmethS {pl : Sem Bool} (he : PE X o ta) (c : Cls X.K C) (hm : Meth X.K C m f) (G : Good X.prog X.w X.K X.mg X.base f k ps sp) (hr : Room j X.A) (tk : Takes X W) (ha : PA X (e :: es) t) (hj : k ≤ j := by first | decide | omega)
    (hst : starEach (e :: es) X.env = (false, eval e X.env) :: starEach es X.env := by rfl) (hpl : (backTo pos (starEach es X.env)).any (·.1) = false := by rfl) (ht : MCall X o m apos pos (e :: es) [] pl := by rfl) :
    PE X (.Call (.Attribute o m apos) (e :: es) [] pos) (tMethS C m sp W ta t) := by
  obtain ⟨⟨fd, F, b, _⟩, kp⟩ := G
  refine ⟨fun pins s σ H Q I h => PySem.W.methodCall_KW (pl := pl) (thn (he.run pins s σ H _ I h) fun u s1 z => ?_) ht⟩
  obtain ⟨v, H1, I1, rv, ⟨a, dx, fs, rfl, ea, l⟩, q⟩ := z
  obtain rfl : u = Value.ref a := rv
  refine getmeth_ok I1 ea c hm l (PySem.W.callWith_K (first := [.ref a]) (h₀ := X.base) I.ok.mod.kin hm.kp (thn (ha.run pos pins s1 σ H1 _ I1 q) fun us s2 z => ?_) hst hpl)
  obtain ⟨vs, H2, I2, r2, q2⟩ := z
  exact ⟨I2.kIn, run_fnS (us := .ref a :: us) (vs := .ref a :: vs) (E := WE W) F (hr.mono hj) b (passAt tk σ) I2 (.cons rfl r2) q2⟩
end
section
variable {C : Addr} {m : Str} {sp : Sp} {W : WX} {ta : TE} {t : TA} {σ : L2.St} {H : Hp} {Q : VK}
theorem r_methS (h : ta σ H fun x H1 => IsIns C m x H1 ∧ t σ H1 fun vs H2 => sp (x :: vs) H2 Q fun c d H3 => W c d σ H3) : tMethS C m sp W ta t σ H Q := h
end
/-! ### repr -/
def nReprE (K : PySem.W.Frag) : List V → Hp → VK → Prop := fun xs H Q => nRepr K xs H Q ∨ ∃ p, xs = [.ref p] ∧ H p = some (.dK []) ∧ Q (.str "{}") H
theorem call_reprE {X : Cx} (hc : Calm X.A) (hu : X.A.units + 64 < cLine) : CallR X (.builtin "repr") (nReprE X.K) := by
  intro pins s σ H xs us Q I r h
  rcases h with h | ⟨p, rfl, hp, q⟩
  · exact call_reprD hc hu pins s σ H xs us Q I r h
  · obtain ⟨_, hm, vs, kv, o, es, ep, h1, h2, h3, _, h5, _⟩ := dk_of I.hok hp
    cases kv
    have hes : es.toList = [] := by
      cases e : es.toList with
      | nil => rfl
      | cons a l =>
        rw [e] at h5
        cases h5
    rw [Vals.ref1 r]
    have R : Reads s.heap (.ref p) (.dict []) (p :: [] ++ []) := .dict h1 h2.1 h3 (by rw [hes]; exact .nil) (by rw [hes]; exact .nil)
    refine repr_of_reads' R rfl (fun _ z => ?_) hc (by show _ + (1 + 1) < _; omega) (fun b o e => e) (fun h' u tk hk => ?_) (by decide +kernel)
    · rw [List.append_nil, List.mem_singleton] at z
      rw [z] at hm
      simp at hm
    · have e : (PyData.dict []).shown = ("{}" : Str) := by decide +kernel
      rw [e]
      exact ⟨.str "{}", H, I.kept (t' := tk) hk, ⟨u, rfl⟩, q⟩
theorem call_reprEK {X : Cx} {K : PySem.W.Frag} (hK : X.K = K) (hc : Calm X.A) (hu : X.A.units + 64 < cLine) : CallR X (.builtin "repr") (nReprE K) := by
  subst hK
  exact call_reprE hc hu
/-- repr(v) is z, as long as what stands stands -/
def ShowsAs (K : PySem.W.Frag) (H : Hp) (v : V) (z : Str) : Prop := ∀ (H' : Hp) (Q : VK), Ex H H' → Q (.str z) H' → nReprE K [v] H' Q
theorem ShowsAs.ex {K : PySem.W.Frag} {H H' : Hp} {v : V} {z : Str} (h : ShowsAs K H v z) (e : Ex H H') : ShowsAs K H' v z := fun H2 Q e2 q => h H2 Q (e.trans e2) q
theorem shows_dp {K : PySem.W.Frag} {H : Hp} {v : V} {d : PyData} (h : ∀ H', Ex H H' → Dp K H' v d) (hs : d.showable = true := by decide +kernel) (hd : d.hasDict = false := by decide +kernel) (hn : d.depth ≤ 32 := by decide +kernel) (hl : d.shown.length ≤ 3000000 := by decide +kernel)
    (hi : ∀ i, d = .int i → i.natAbs.log2 < 1920 := by intro i z; cases z) : ShowsAs K H v d.shown := fun H' Q e q => .inl ⟨v, d, rfl, h H' e, hs, hd, hn, sz16 hl, hi, q⟩
theorem shows_empty {K : PySem.W.Frag} {H : Hp} {p : Addr} (h : H p = some (.dK [])) : ShowsAs K H (.ref p) "{}" := fun H' Q e q => .inr ⟨p, rfl, e _ _ h, q⟩
end
set_option Elab.async false
set_option linter.all false
set_option maxRecDepth 100000
set_option maxHeartbeats 4000000
/-! A refusal. -/
open PySem PySem.Spec PyProof.Rows L2
open Evl (Ex given)
local macro_rules | `(tactic| walk_at "v1") => `(tactic| first
  | (with_reducible refine r_methS ?_))

section
variable {P : Program} {w : World} {K : PySem.W.Frag} {mg : Str → Option Value} {base : Heap}
theorem ite_yes {c : Bool} {A B : Prop} (h : c = true) (q : A) : if c = true then A else B := by
  subst h
  exact iteT q
theorem suite_go {K : PySem.W.Frag} {H : Hp} {Q : VK} {x t z : Str} {v : V} {d aE : Addr} {σ : L2.St} {D : Ends} (hD : ∀ v H, Q v H → D.rt v H) (hσ : (σ.set 4 (some (.ref aE)))[4]? = some (some (.ref aE))) (hxd : H d = some (.xd [("given", v)])) (hsh : ShowsAs K H v z)
    (k : ∀ p H', Ex H H' → H p = none → H' p = some (.lst [.str t, .str z]) → Q (.ref p) H') :
    tRet (tLst (tCons (tC (.str t)) (tCons (tCB (nReprE K) (tCons (tXf aE (.ref (He.ga K x)) (some d) (He.ga K x) "given" (tVar 4)) tNil)) tNil))) (offE 4 D) (σ.set 4 (some (.ref aE))) H := by
  refine ⟨_, hσ, rfl, rfl, d, _, v, rfl, hxd, lk_hd, ?_⟩
  refine hsh H _ (Ex.refl H) ⟨sz100k (n := 2) (by decide), fun p hp => hD _ _ ?_⟩
  exact k p _ (Ex.mut (Ex.refl _) hp) hp upd_same
theorem Txt.exb {K : PySem.W.Frag} {mg : Str → Option Value} (T : Txt K mg) {x y : Str} (b : Bool) (hx : x ∈ exc4 := by decide +kernel) (hy : y ∈ exc4 := by decide +kernel) (hb : (x == y) = b := by decide +kernel) : PySem.W.exmOne K (.ref (He.ga K x)) (.ref (He.ga K y)) = some b :=
  (T.exm hx hy).trans (congrArg some hb)
/-- what is refused, by which door, with what answer -/
def Refusal (K : PySem.W.Frag) (H : Hp) (door : Int) (kv wv : V) (out : List V) : Prop :=
  ((door = 0 ∨ door = 1) ∧ Bi K H kv ∧ ∃ z, ShowsAs K H kv z ∧ out = [.str "series", .str z]) ∨
  (door = 2 ∧ Bi K H kv ∧ ∃ z, ShowsAs K H kv z ∧ out = [.str "selection", .str z]) ∨
  ((door = 3 ∨ door = 4) ∧ BadOf K isName H kv ∧ ∃ z, ShowsAs K H kv z ∧ out = [.str "name", .str z]) ∨
  (door = 3 ∧ ∃ k, kv = vS k ∧ isName (S k) = true ∧ BadOf K isWord H wv ∧ ∃ z, ShowsAs K H wv z ∧ out = [.str "word", .str z]) ∨
  (((door = 3 ∧ ∃ x, wv = vS x ∧ isWord (S x) = true) ∨ door = 4) ∧ (∃ k, kv = vS k ∧ isName (S k) = true) ∧ out = [.str "told"])
def spRefused (P : Program) (w : World) (K : PySem.W.Frag) : Sp := fun vs H Q _ => ∃ (a sa ka ba : Addr) (sl : Slots) (door : Int) (kv wv : V) (out : List V), vs = [.ref a, .int door, kv, wv] ∧ IdxAt P w K H a sa ka ba sl ∧ Refusal K H door kv wv out ∧
  ∀ p H', Ex H H' → H p = none → H' p = some (.lst out) → Q (.ref p) H'
theorem sc_law_refused : FnScope ["_law_index", "_law_door", "_law_key", "_law_word_here", "e"] ["_law_index", "_law_door", "_law_key", "_law_word_here"] (defScope s_law_refused) := ⟨rfl, rfl, rfl, by decide +kernel, rfl, by decide +kernel, by decide +kernel⟩
theorem ok_law_refused (T : Txt K mg) : GoodPG P w K mg base "_law_refused" 13 ["_law_index", "_law_door", "_law_key", "_law_word_here"] (spRefused P w K) := by
  have G_Index_put := ok_Index_put (P := P) (w := w) (base := base) T
  have G_Index_drop := ok_Index_drop (P := P) (w := w) (base := base) T
  have G_Index_words := ok_Index_words (P := P) (w := w) (base := base) T
  have G_Index_of_tag := ok_Index_of_tag (P := P) (w := w) (base := base) T
  have G_Index_chosen := ok_Index_chosen (P := P) (w := w) (base := base) T
  obtain ⟨fd, F⟩ := T.f_law_refused
  refine goodG_of F sc_law_refused (fun vs H Q E h => ?_) (fun _ _ _ _ _ _ us hl => match us, hl with | [_, _, _, _], _ => rfl) (fun cdv A outer s H vs Q E hg hr h => ?_)
  · obtain ⟨a, sa, ka, ba, sl, door, kv, wv, out, rfl, _⟩ := h
    rfl
  · obtain ⟨a, sa, ka, ba, sl, door, kv, wv, out, rfl, hi, hR, k⟩ := h
    have hgd : Calm (A.deeper (envOfC "_law_refused" (defScope s_law_refused) s.heap.objs.size (He.ga K "_law_refused") cdv)) := hg
    refine ⟨_, (pss_cons (ps_try_clauses (i := 4) (tb := fun W => _) rfl rfl sc_law_refused.nd rfl rfl takes0 (fun W pn xe tk _ => (pss_one (ps_if (pt_cmpR op_eq (pv 1) pe_int (nomark _)) (pss_one (ps_expr (pmethS (pv 0) T.c_Index T.m_Index_put G_Index_put hr tk (pa_cons (pv 2) pa_nil)))) (pss_one (ps_if (pt_cmpR op_eq (pv 1) pe_int (nomark _)) (pss_one (ps_expr (pmethS (pv 0) T.c_Index T.m_Index_drop G_Index_drop hr tk (pa_cons (pv 2) pa_nil)))) (pss_one (ps_if (pt_cmpR op_eq (pv 1) pe_int (nomark _)) (pss_one (ps_expr (pmethS (pv 0) T.c_Index T.m_Index_chosen G_Index_chosen hr tk (pa_cons (pv 2) pa_nil)))) (pss_one (ps_if (pt_cmpR op_eq (pv 1) pe_int (nomark _)) (pss_one (ps_expr (pmethS (pv 0) T.c_Index T.m_Index_of_tag G_Index_of_tag hr tk (pa_cons (pv 2) (pa_cons (pv 3) pa_nil))))) (pss_one (ps_expr (pmethS (pv 0) T.c_Index T.m_Index_words G_Index_words hr tk (pa_cons (pv 2) pa_nil)))))))))))))
    (.cons ⟨rfl, by decide, .inl T.g_InvalidSeries⟩ (fun a oe cls d pn hz hf => (pss_one (ps_ret (pe_lst (pa_cons pe_str (pa_cons (pe_callB (call_reprEK (K := K) rfl hgd hr.units) rfl T.z_repr (by decide +kernel) (pa_cons (pe_xf (T.gx_InvalidSeries).xf (T.gx_InvalidSeries).no hz hf (pv 4)) pa_nil)) pa_nil))))))
    (.cons ⟨rfl, by decide, .inl T.g_InvalidSelection⟩ (fun a oe cls d pn hz hf => (pss_one (ps_ret (pe_lst (pa_cons pe_str (pa_cons (pe_callB (call_reprEK (K := K) rfl hgd hr.units) rfl T.z_repr (by decide +kernel) (pa_cons (pe_xf (T.gx_InvalidSelection).xf (T.gx_InvalidSelection).no hz hf (pv 4)) pa_nil)) pa_nil))))))
    (.cons ⟨rfl, by decide, .inl T.g_InvalidName⟩ (fun a oe cls d pn hz hf => (pss_one (ps_ret (pe_lst (pa_cons pe_str (pa_cons (pe_callB (call_reprEK (K := K) rfl hgd hr.units) rfl T.z_repr (by decide +kernel) (pa_cons (pe_xf (T.gx_InvalidName).xf (T.gx_InvalidName).no hz hf (pv 4)) pa_nil)) pa_nil))))))
    (.cons ⟨rfl, by decide, .inl T.g_InvalidWord⟩ (fun a oe cls d pn hz hf => (pss_one (ps_ret (pe_lst (pa_cons pe_str (pa_cons (pe_callB (call_reprEK (K := K) rfl hgd hr.units) rfl T.z_repr (by decide +kernel) (pa_cons (pe_xf (T.gx_InvalidWord).xf (T.gx_InvalidWord).no hz hf (pv 4)) pa_nil)) pa_nil))))))
    .nil)))))
    (pss_one (ps_ret (pe_lst (pa_cons pe_str pa_nil))))), ?_⟩
    walk_at "v"
    rcases hR with ⟨hd, hb, z, hz, rfl⟩ | ⟨rfl, hb, z, hz, rfl⟩ | ⟨hd, hb, z, hz, rfl⟩ | ⟨rfl, kk, rfl, hk, hb, z, hz, rfl⟩ | ⟨hd, ⟨kk, rfl, hk⟩, rfl⟩
    · rcases hd with rfl | rfl
      · refine ite_yes (by decide) ?_
        walk_at "v"
        refine ⟨hi.is, ?_⟩
        walk_at "v"
        refine ⟨a, sa, ka, ba, sl, kv, rfl, hi, .inr ⟨hb, fun d H1 e hdn hxd => ⟨true, T.exb true, fun _ aE _ => suite_go (fun _ _ q => q) rfl hxd (hz.ex e) fun p H2 e2 hp h2 => k p H2 (e.trans e2) (ex_none e hp) h2, fun z => (nomatch z)⟩⟩⟩
      · refine ite_no (by decide) ?_
        walk_at "v"
        refine ite_yes (by decide) ?_
        walk_at "v"
        refine ⟨hi.is, ?_⟩
        walk_at "v"
        refine ⟨a, sa, ka, ba, sl, kv, rfl, hi, .inr ⟨hb, fun d H1 e hdn hxd => ⟨true, T.exb true, fun _ aE _ => suite_go (fun _ _ q => q) rfl hxd (hz.ex e) fun p H2 e2 hp h2 => k p H2 (e.trans e2) (ex_none e hp) h2, fun z => (nomatch z)⟩⟩⟩
    · refine ite_no (by decide) ?_
      walk_at "v"
      refine ite_no (by decide) ?_
      walk_at "v"
      refine ite_yes (by decide) ?_
      walk_at "v"
      refine ⟨hi.is, ?_⟩
      walk_at "v"
      refine ⟨a, sa, ka, ba, sl, kv, rfl, hi, .inr ⟨hb, fun d H1 e hdn hxd => ⟨false, T.exb false, fun z => (nomatch z), fun _ => ⟨true, T.exb true, fun _ aE _ => suite_go (fun _ _ q => q) rfl hxd (hz.ex e) fun p H2 e2 hp h2 => k p H2 (e.trans e2) (ex_none e hp) h2, fun z => (nomatch z)⟩⟩⟩⟩
    · rcases hd with rfl | rfl
      · refine ite_no (by decide) ?_
        walk_at "v"
        refine ite_no (by decide) ?_
        walk_at "v"
        refine ite_no (by decide) ?_
        walk_at "v"
        refine ite_yes (by decide) ?_
        walk_at "v"
        refine ⟨hi.is, ?_⟩
        walk_at "v"
        refine ⟨a, sa, ka, ba, sl, kv, wv, rfl, hi, .inr ⟨hb, fun d H1 e hdn hxd => ⟨false, T.exb false, fun z => (nomatch z), fun _ => ⟨false, T.exb false, fun z => (nomatch z), fun _ => ⟨true, T.exb true, fun _ aE _ => suite_go (fun _ _ q => q) rfl hxd (hz.ex e) fun p H2 e2 hp h2 => k p H2 (e.trans e2) (ex_none e hp) h2, fun z => (nomatch z)⟩⟩⟩⟩⟩
      · refine ite_no (by decide) ?_
        walk_at "v"
        refine ite_no (by decide) ?_
        walk_at "v"
        refine ite_no (by decide) ?_
        walk_at "v"
        refine ite_no (by decide) ?_
        walk_at "v"
        refine ⟨hi.is, ?_⟩
        walk_at "v"
        refine ⟨a, sa, ka, ba, sl, kv, rfl, hi, .inr ⟨hb, fun d H1 e hdn hxd => ⟨false, T.exb false, fun z => (nomatch z), fun _ => ⟨false, T.exb false, fun z => (nomatch z), fun _ => ⟨true, T.exb true, fun _ aE _ => suite_go (fun _ _ q => q) rfl hxd (hz.ex e) fun p H2 e2 hp h2 => k p H2 (e.trans e2) (ex_none e hp) h2, fun z => (nomatch z)⟩⟩⟩⟩⟩
    · refine ite_no (by decide) ?_
      walk_at "v"
      refine ite_no (by decide) ?_
      walk_at "v"
      refine ite_no (by decide) ?_
      walk_at "v"
      refine ite_yes (by decide) ?_
      walk_at "v"
      refine ⟨hi.is, ?_⟩
      walk_at "v"
      refine ⟨a, sa, ka, ba, sl, vS kk, wv, rfl, hi, .inl ⟨kk, rfl, hk, .inr ⟨hb, fun d H1 e hdn hxd => ⟨false, T.exb false, fun z => (nomatch z), fun _ => ⟨false, T.exb false, fun z => (nomatch z), fun _ => ⟨false, T.exb false, fun z => (nomatch z), fun _ => ⟨true, T.exb true, fun _ aE _ => suite_go (fun _ _ q => q) rfl hxd (hz.ex e) fun p H2 e2 hp h2 => k p H2 (e.trans e2) (ex_none e hp) h2, fun z => (nomatch z)⟩⟩⟩⟩⟩⟩⟩
    · rcases hd with ⟨rfl, xx, rfl, hx⟩ | rfl
      · refine ite_no (by decide) ?_
        walk_at "v"
        refine ite_no (by decide) ?_
        walk_at "v"
        refine ite_no (by decide) ?_
        walk_at "v"
        refine ite_yes (by decide) ?_
        walk_at "v"
        refine ⟨hi.is, ?_⟩
        walk_at "v"
        refine ⟨a, sa, ka, ba, sl, vS kk, vS xx, rfl, hi, .inl ⟨kk, rfl, hk, .inl ⟨xx, rfl, hx, fun v rr H1 e _ _ _ => ?_⟩⟩⟩
        walk_at "v"
        exact fun p hp => k p _ (e.trans (Ex.mut (Ex.refl _) hp)) (ex_none e hp) upd_same
      · refine ite_no (by decide) ?_
        walk_at "v"
        refine ite_no (by decide) ?_
        walk_at "v"
        refine ite_no (by decide) ?_
        walk_at "v"
        refine ite_no (by decide) ?_
        walk_at "v"
        refine ⟨hi.is, ?_⟩
        walk_at "v"
        refine ⟨a, sa, ka, ba, sl, vS kk, rfl, hi, .inl ⟨kk, rfl, hk, fun pw ws H1 e _ _ _ => ?_⟩⟩
        walk_at "v"
        exact fun p hp => k p _ (e.trans (Ex.mut (Ex.refl _) hp)) (ex_none e hp) upd_same
end
set_option Elab.async false
set_option linter.all false
set_option maxRecDepth 100000
set_option maxHeartbeats 4000000
/-! Refusals, each in order. -/
section
open PySem PySem.Spec PyProof.Rows L2
open Evl (Ex given)

/-! ### a sign, so many times -/
def rRepS : R2 := fun x y H Q => ∃ (ch n : Nat), x = .str ⟨#[ch]⟩ ∧ y = .int (n : Nat) ∧ n ≤ 100 ∧ Q (.str (S (List.replicate n ch))) H
theorem fold_ch (ch : Nat) : ∀ (n : Nat) (l : List Nat), (List.replicate n (#[ch] : Array Nat)).foldl (· ++ ·) l.toArray = (l ++ List.replicate n ch).toArray
  | 0, l => by simp
  | n + 1, l => by
    rw [List.replicate_succ, List.foldl_cons]
    have : l.toArray ++ #[ch] = (l ++ [ch]).toArray := by simp
    rw [this, fold_ch ch n (l ++ [ch])]
    simp [List.replicate_succ]
theorem op_repS {X : Cx} : OpR X (binaryOp .Mult) rRepS := by
  intro pins s σ H x y v u Q I rx ry h
  obtain ⟨ch, n, rfl, rfl, hn, q⟩ := h
  obtain ⟨t, rfl⟩ := rx
  obtain ⟨t', rfl⟩ := ry
  refine PySem.P.mul_str ?_ (fun _ _ => ?_) (fun _ _ => ?_) ?_
  · have h1 : ¬ ((n : Nat) : Int) < -(2 ^ 63 : Int) := by omega
    have h2 : ¬ ((n : Nat) : Int) ≥ 2 ^ 63 := by omega
    rw [decide_eq_false h1, decide_eq_false h2]
    rfl
  · rename_i h1 h2
    have hl : (((⟨#[ch]⟩ : Str)).length : Int) = 1 := rfl
    rw [hl]
    have hn1 : (0 : Int) < (n : Nat) := by omega
    have : (1 : Int) ≤ (2 ^ 63 - 1) / ((n : Nat) : Int) := by
      rw [Int.le_ediv_iff_mul_le hn1]
      omega
    omega
  · have key : ∀ k : Fin 101, Builtin.Str.tooLong (1 * k.val) = false := by decide
    have := key ⟨n, by omega⟩
    rw [Int.toNat_natCast]
    exact this
  · by_cases h0 : n = 0
    · subst h0
      rw [if_pos (by decide)]
      exact ⟨by show 0 ≤ sizeLine; exact Nat.zero_le _, .str (S []), H, I.tok _, ⟨_, rfl⟩, q⟩
    · rw [if_neg (by omega)]
      by_cases h1 : n = 1
      · subst h1
        rw [if_pos (by simp)]
        exact ⟨.str (S [ch]), H, I, ⟨_, rfl⟩, q⟩
      · rw [if_neg (by
          rw [Bool.or_eq_true, not_or]
          refine ⟨fun z => h1 ?_, by simp [Str.length]⟩
          have := of_decide_eq_true z
          omega)]
        have e : (⟨(List.replicate ((n : Nat) : Int).toNat (⟨#[ch]⟩ : Str).cps).foldl (· ++ ·) #[]⟩ : Str) = S (List.replicate n ch) := by
          have := fold_ch ch n []
          rw [List.nil_append] at this
          rw [Int.toNat_natCast]
          exact congrArg Str.mk this
        rw [e]
        exact ⟨by rw [S_len, List.length_replicate]; exact Nat.le_trans hn (by decide), .str (S (List.replicate n ch)), H, I.tok _, ⟨_, rfl⟩, q⟩
theorem r_repS {H : Hp} {Q : VK} {ch n : Nat} (hn : n ≤ 100) (q : Q (.str (S (List.replicate n ch))) H) : rRepS (.str ⟨#[ch]⟩) (.int (n : Nat)) H Q := ⟨ch, n, rfl, rfl, hn, q⟩
/-! ### lists of two texts -/
theorem r_ne2 {K : PySem.W.Frag} {H : Hp} {Q : VK} {a b : Addr} {zs : List Str} (h1 : H a = some (.lst (zs.map V.str))) (h2 : H b = some (.lst (zs.map V.str))) (hs : ∀ z ∈ zs, PyData.strOk z = true) (q : Q (.bl false) H) : rNeD K (.ref a) (.ref b) H Q := by
  have dp : ∀ l : List Str, DpAll K H (l.map V.str) (l.map PyData.str) := by
    intro l
    induction l with
    | nil => exact .nil
    | cons x l ih => exact .cons (.str x) ih
  have cl : ∀ l : List Str, (∀ z ∈ l, PyData.strOk z = true) → PyData.canLayAll0 (l.map PyData.str) = true ∧ PyData.depthAll (l.map PyData.str) = 0 := by
    intro l
    induction l with
    | nil => intro _; exact ⟨rfl, rfl⟩
    | cons x l ih =>
      intro h
      obtain ⟨g1, g2⟩ := ih fun z hz => h z (by simp [hz])
      have g3 := h x (by simp)
      simp [PyData.canLayAll0, PyData.canLay0, PyData.depthAll, PyData.depth, g1, g2, g3]
  obtain ⟨c1, c2⟩ := cl zs hs
  have hsh : SeqAt.shaped (.list (zs.map PyData.str)) = true := by
    unfold SeqAt.shaped
    simp [PyData.canLay0, PyData.depth, c1, c2]
  refine ⟨_, _, .lst (SqL.of h1) (dp zs), .lst (SqL.of h2) (dp zs), hsh, hsh, ?_⟩
  rw [SeqAt.eqv_refl _ (by simpa [PyData.canLay0] using c1)]
  exact q
/-- a value with its repr -/
def Shown (K : PySem.W.Frag) (H : Hp) (v : V) : Prop := ∃ z, ShowsAs K H v z ∧ PyData.strOk z = true
theorem Bi.ex {K : PySem.W.Frag} {H H' : Hp} {v : V} (h : Bi K H v) (e : Ex H H') : Bi K H' v := by
  obtain ⟨t, ht, ty⟩ := h
  refine ⟨t, ht, ?_⟩
  cases ty with
  | base h =>
    refine .base ?_
    cases h with
    | non => exact .non
    | bl x => exact .bl x
    | int i => exact .int i
    | str x => exact .str x
    | flt x => exact .flt x
    | lst q => exact .lst (e _ _ q)
    | frz q => exact .frz (e _ _ q)
    | tup q => exact .tup (e _ _ q)
    | dK q => exact .dK (e _ _ q)
    | dT q => exact .dT (e _ _ q)
  | byt b => exact .byt b
  | set q => exact .set (e _ _ q)
  | kList q c => exact .kList q c
  | kTuple q c => exact .kTuple q c
  | kDict q c => exact .kDict q c
  | fTuple q => exact .fTuple (e _ _ q)
  | fDict q => exact .fDict (e _ _ q)
theorem BadOf.ex {K : PySem.W.Frag} {f : Str → Bool} {H H' : Hp} {v : V} (h : BadOf K f H v) (e : Ex H H') : BadOf K f H' v := h.imp id fun q => q.ex e
theorem str2 {t z : Str} (h : PyData.strOk z = true) (ht : PyData.strOk t = true := by decide +kernel) : ∀ x ∈ [t, z], PyData.strOk x = true := fun x hx => by
  simp only [List.mem_cons, List.not_mem_nil, or_false] at hx
  rcases hx with rfl | rfl
  · exact ht
  · exact h
theorem one_k : V.str "k" = V.str ⟨#[107]⟩ := congrArg V.str (TL.ext_tl (by decide +kernel))
theorem one_9 : V.str "9" = V.str ⟨#[57]⟩ := congrArg V.str (TL.ext_tl (by decide +kernel))
section
variable {K : PySem.W.Frag} {H : Hp} {q : Addr}
theorem sh_non : Shown K H .non := ⟨_, shows_dp (d := .none) fun _ _ => .non, by decide +kernel⟩
theorem sh_five : Shown K H (.int 5) := ⟨_, shows_dp (d := .int 5) (fun _ _ => .int 5) (hi := fun i e => by injection e with e; rw [← e]; decide), by decide +kernel⟩
theorem sh_true : Shown K H (.bl true) := ⟨_, shows_dp (d := .bool true) fun _ _ => .bl true, by decide +kernel⟩
theorem sh_str (z : Str) (hl : (PyData.str z).shown.length ≤ 3000000 := by decide +kernel) (hk : PyData.strOk (PyData.str z).shown = true := by decide +kernel) : Shown K H (.str z) := ⟨_, shows_dp (d := .str z) (fun _ _ => .str z) rfl rfl (Nat.zero_le _) hl, hk⟩
theorem sh_nil (h : H q = some (.lst [])) : Shown K H (.ref q) := ⟨_, shows_dp (d := .list []) fun _ e => .lst (SqL.of (e _ _ h)) .nil, by decide +kernel⟩
theorem sh_a (h : H q = some (.lst [V.str "a"])) : Shown K H (.ref q) := ⟨_, shows_dp (d := .list [.str "a"]) fun _ e => .lst (SqL.of (e _ _ h)) (.cons (.str _) .nil), by decide +kernel⟩
theorem sh_two (h : H q = some (.tup [V.str "host", V.str "a"])) : Shown K H (.ref q) := ⟨_, shows_dp (d := .tuple [.str "host", .str "a"]) fun _ e => .tup (SqT.of (e _ _ h)) (.cons (.str _) (.cons (.str _) .nil)), by decide +kernel⟩
theorem sh_dict (h : H q = some (.dK [])) : Shown K H (.ref q) := ⟨_, shows_empty h, by decide +kernel⟩
theorem bi_non : Bi K H .non := ⟨"NoneType", by decide, .base .non⟩
theorem bi_int (i : Int) : Bi K H (.int i) := ⟨"int", by decide, .base (.int i)⟩
theorem bi_str (z : Str) : Bi K H (.str z) := ⟨"str", by decide, .base (.str z)⟩
theorem bi_bl (b : Bool) : Bi K H (.bl b) := ⟨"bool", by decide, .base (.bl b)⟩
theorem bi_lst {xs : List V} (h : H q = some (.lst xs)) : Bi K H (.ref q) := ⟨"list", by decide, .base (.lst h)⟩
theorem bi_tup {xs : List V} (h : H q = some (.tup xs)) : Bi K H (.ref q) := ⟨"tuple", by decide, .base (.tup h)⟩
theorem bi_dK {xs : List (Key × V)} (h : H q = some (.dK xs)) : Bi K H (.ref q) := ⟨"dict", by decide, .base (.dK h)⟩
theorem no_non : NoStr K H .non := ⟨"NoneType", .base .non, by decide +kernel⟩
theorem no_int (i : Int) : NoStr K H (.int i) := ⟨"int", .base (.int i), by decide +kernel⟩
theorem no_bl (b : Bool) : NoStr K H (.bl b) := ⟨"bool", .base (.bl b), by decide +kernel⟩
theorem no_lst {xs : List V} (h : H q = some (.lst xs)) : NoStr K H (.ref q) := ⟨"list", .base (.lst h), by decide +kernel⟩
end
theorem Shown.ex {K : PySem.W.Frag} {H H' : Hp} {v : V} (h : Shown K H v) (e : Ex H H') : Shown K H' v := by
  obtain ⟨z, h1, h2⟩ := h
  exact ⟨z, h1.ex e, h2⟩
section
variable {P : Program} {w : World} {K : PySem.W.Frag} {mg : Str → Option Value} {base : Heap}
def spRR (P : Program) (w : World) (K : PySem.W.Frag) : Sp := fun vs H Q _ => ∃ (a sa ka ba ra : Addr) (sl : Slots) (vs0 : List V) (rows : List Ser), vs = [.ref a, .ref ra] ∧ IdxAt P w K H a sa ka ba sl ∧ H ra = some (.lst vs0) ∧ Paired (LSer H) vs0 rows ∧ RiseTx rows ∧ rows.Perm (occ sl) ∧ rows.length ≤ 40 ∧
  ∀ H', Ex H H' → Q (.bl true) H'
theorem sc_law_refused_right : FnScope ["_law_index", "_law_rows", "_law_shown_here", "_law_bad", "_law_word_here", "_law_one"] ["_law_index", "_law_rows"] (defScope s_law_refused_right) := ⟨rfl, rfl, rfl, by decide +kernel, rfl, by decide +kernel, by decide +kernel⟩
theorem ok_law_refused_right (T : Txt K mg) : GoodPG P w K mg base "_law_refused_right" 14 ["_law_index", "_law_rows"] (spRR P w K) := by
  have G_law_refused := ok_law_refused (P := P) (w := w) (base := base) T
  have G_law_shown := ok_law_shown (P := P) (w := w) (base := base) T
  have G_law_texts := ok_law_texts (P := P) (w := w) (base := base) T
  have G_Index_series := ok_Index_series (P := P) (w := w) (base := base) T
  obtain ⟨fd, F⟩ := T.f_law_refused_right
  refine goodG_of F sc_law_refused_right (fun vs H Q E h => ?_) (fun _ _ _ _ _ _ us hl => match us, hl with | [_, _], _ => rfl) (fun cdv A outer s H vs Q E hg hr h => ?_)
  · obtain ⟨a, sa, ka, ba, ra, sl, vs0, rows, rfl, _⟩ := h
    rfl
  · obtain ⟨a, sa, ka, ba, ra, sl, vs0, rows, rfl, hi, hra, hp, hrt, hrp, hl, k⟩ := h
    have hgd : Calm (A.deeper (envOfC "_law_refused_right" (defScope s_law_refused_right) s.heap.objs.size (He.ga K "_law_refused_right") cdv)) := hg
    refine ⟨_, (pss_cons (ps_setLc (i := 2) (own := [("_law_one", 5)]) rfl sc_law_refused_right.nd rfl rfl (sw_true rfl rfl rfl (by decide +kernel)) (pi_list (pv 1)) (blkOk_by (N := ["_law_index", "_law_rows", "_law_shown_here", "_law_bad", "_law_word_here", "_law_one"]) (sc := defScope s_law_refused_right) (by decide +kernel)) (fun _ _ _ _ _ => (pg_name (i := 5) sc_law_refused_right.nd rfl (Or.inl rfl))) (fun _ _ _ _ _ => pts_nil) (fun _ _ _ _ _ => (pcall G_law_shown hr T.g_law_shown (pa_cons (pv 5) pa_nil))))
    (pss_cons (ps_for PassesOwn.never rfl (pi_list (pe_lst (pa_cons pe_non (pa_cons pe_int (pa_cons pe_str (pa_cons pe_str (pa_cons (pe_lst pa_nil) (pa_cons pe_bl (pa_cons pe_dnewK (pa_cons (pe_tup (pa_cons pe_str (pa_cons pe_str pa_nil))) pa_nil)))))))))) (pg_name (i := 3) sc_law_refused_right.nd rfl (Or.inl rfl))
    (pss_cons (ps_if (pt_cmpR (op_neD hr.units) (pcallG G_law_refused hr hgd T.g_law_refused (pa_cons (pv 0) (pa_cons pe_int (pa_cons (pv 3) (pa_cons pe_non pa_nil))))) (pe_lst (pa_cons pe_str (pa_cons (pe_callB (call_reprE hgd hr.units) rfl T.z_repr (by decide +kernel) (pa_cons (pv 3) pa_nil)) pa_nil))) (nomark _)) (pss_one (ps_ret pe_bl)) pss_nil)
    (pss_cons (ps_if (pt_cmpR (op_neD hr.units) (pcallG G_law_refused hr hgd T.g_law_refused (pa_cons (pv 0) (pa_cons pe_int (pa_cons (pv 3) (pa_cons pe_non pa_nil))))) (pe_lst (pa_cons pe_str (pa_cons (pe_callB (call_reprE hgd hr.units) rfl T.z_repr (by decide +kernel) (pa_cons (pv 3) pa_nil)) pa_nil))) (nomark _)) (pss_one (ps_ret pe_bl)) pss_nil)
    (pss_one (ps_if (pt_cmpR (op_neD hr.units) (pcallG G_law_refused hr hgd T.g_law_refused (pa_cons (pv 0) (pa_cons pe_int (pa_cons (pv 3) (pa_cons pe_non pa_nil))))) (pe_lst (pa_cons pe_str (pa_cons (pe_callB (call_reprE hgd hr.units) rfl T.z_repr (by decide +kernel) (pa_cons (pv 3) pa_nil)) pa_nil))) (nomark _)) (pss_one (ps_ret pe_bl)) pss_nil)))))
    (pss_cons (ps_for PassesOwn.never rfl (pi_list (pe_lst (pa_cons pe_non (pa_cons pe_int (pa_cons pe_str (pa_cons pe_str (pa_cons pe_str (pa_cons pe_str (pa_cons pe_str (pa_cons (pe_op op_repS pe_str pe_int) (pa_cons (pe_lst pa_nil) (pa_cons pe_bl (pa_cons pe_str (pa_cons pe_str pa_nil)))))))))))))) (pg_name (i := 3) sc_law_refused_right.nd rfl (Or.inl rfl))
    (pss_cons (ps_for PassesOwn.never rfl (pi_list (pe_lst (pa_cons pe_str (pa_cons pe_str (pa_cons pe_non pa_nil))))) (pg_name (i := 4) sc_law_refused_right.nd rfl (Or.inl rfl))
    (pss_one (ps_if (pt_cmpR (op_neD hr.units) (pcallG G_law_refused hr hgd T.g_law_refused (pa_cons (pv 0) (pa_cons pe_int (pa_cons (pv 3) (pa_cons (pv 4) pa_nil))))) (pe_lst (pa_cons pe_str (pa_cons (pe_callB (call_reprE hgd hr.units) rfl T.z_repr (by decide +kernel) (pa_cons (pv 3) pa_nil)) pa_nil))) (nomark _)) (pss_one (ps_ret pe_bl)) pss_nil)))
    (pss_one (ps_if (pt_cmpR (op_neD hr.units) (pcallG G_law_refused hr hgd T.g_law_refused (pa_cons (pv 0) (pa_cons pe_int (pa_cons (pv 3) (pa_cons pe_non pa_nil))))) (pe_lst (pa_cons pe_str (pa_cons (pe_callB (call_reprE hgd hr.units) rfl T.z_repr (by decide +kernel) (pa_cons (pv 3) pa_nil)) pa_nil))) (nomark _)) (pss_one (ps_ret pe_bl)) pss_nil))))
    (pss_cons (ps_for PassesOwn.never rfl (pi_list (pe_lst (pa_cons pe_non (pa_cons pe_int (pa_cons pe_str (pa_cons pe_str (pa_cons pe_str (pa_cons pe_str (pa_cons pe_str (pa_cons (pe_op op_repS pe_str pe_int) (pa_cons (pe_lst (pa_cons pe_str pa_nil)) (pa_cons pe_bl pa_nil)))))))))))) (pg_name (i := 3) sc_law_refused_right.nd rfl (Or.inl rfl))
    (pss_one (ps_if (pt_cmpR (op_neD hr.units) (pcallG G_law_refused hr hgd T.g_law_refused (pa_cons (pv 0) (pa_cons pe_int (pa_cons pe_str (pa_cons (pv 3) pa_nil))))) (pe_lst (pa_cons pe_str (pa_cons (pe_callB (call_reprE hgd hr.units) rfl T.z_repr (by decide +kernel) (pa_cons (pv 3) pa_nil)) pa_nil))) (nomark _)) (pss_one (ps_ret pe_bl)) pss_nil)))
    (pss_cons (ps_if (PW.pt (pw_or (pt_cmpR (op_neD hr.units) (pcallG G_law_refused hr hgd T.g_law_refused (pa_cons (pv 0) (pa_cons pe_int (pa_cons (pe_op op_repS pe_str pe_int) (pa_cons (pe_op op_repS pe_str pe_int) pa_nil))))) (pe_lst (pa_cons pe_str pa_nil)) (nomark _)) (pw_or1 (pt_cmpR (op_neD hr.units) (pcallG G_law_refused hr hgd T.g_law_refused (pa_cons (pv 0) (pa_cons pe_int (pa_cons pe_str (pa_cons pe_non pa_nil))))) (pe_lst (pa_cons pe_str pa_nil)) (nomark _))))) (pss_one (ps_ret pe_bl)) pss_nil)
    (pss_one (ps_ret (pe_cmpR op_eq (pe_callB (call_reprE hgd hr.units) rfl T.z_repr (by decide +kernel) (pa_cons (pcall G_law_texts hr T.g_law_texts (pa_cons (pmeth0 (pv 0) T.c_Index T.m_Index_series G_Index_series hr) pa_nil)) pa_nil)) (pe_callB (call_reprE hgd hr.units) rfl T.z_repr (by decide +kernel) (pa_cons (pv 2) pa_nil)) (nomark _))))))))), ?_⟩
    walk_at "v"
    intro D hD
    refine lc_rows (fun _ => true) (fun s => vS (textL s)) hra hp hD (by omega) ?_ (fun H0 e0 h0 => ?_)
    · intro N y s Ha hs hy ea hno hyes
      walk_at "v"
      refine ⟨rfl, yes_ ?_⟩
      walk_at "v"
      exact ⟨y, s, rfl, hy, fun Hd ed => hyes rfl Hd ed⟩
    · rw [List.filter_eq_self.mpr fun _ _ => rfl] at h0
      have hsh : LstAt H0 D (rows.map textL) := by
        show _ = _
        rw [h0, List.map_map]
        rfl
      have hi1 := hi.ex e0
      walk_at "v"
      intro q1 hq1
      walk_at "v"
      intro q2 hq2
      walk_at "v"
      intro q3 hq3
      refine ⟨sz100k (n := 8) (by decide), fun f1 hf1 => ?_⟩
      have y1 := Ex.mut (Ex.refl H0) hq1 (o := .lst [])
      have y2 := ex_more (Ex.refl _) hq2 (o := .dK [])
      have y3 := ex_more (Ex.refl _) hq3 (o := .tup [V.str "host", V.str "a"])
      have y4 := ex_more (Ex.refl _) hf1 (o := .lst [V.non, V.int 5, V.str "load{}", V.str "all", V.ref q1, V.bl true, V.ref q2, V.ref q3])
      have g1 := ((y2.trans y3).trans y4) _ _ (upd_same (H := H0) (a := q1) (o := .lst []))
      have g2 := (y3.trans y4) _ _ (upd_same (H := upd H0 q1 (.lst [])) (a := q2) (o := .dK []))
      have g3 := y4 _ _ (upd_same (a := q3) (o := .tup [V.str "host", V.str "a"]))
      have xc := (y1.trans y2).trans (y3.trans y4)
      have gf : upd (upd (upd (upd H0 q1 (.lst [])) q2 (.dK [])) q3 (.tup [V.str "host", V.str "a"])) f1 (.lst [V.non, V.int 5, V.str "load{}", V.str "all", V.ref q1, V.bl true, V.ref q2, V.ref q3]) f1 = some (.lst [V.non, V.int 5, V.str "load{}", V.str "all", V.ref q1, V.bl true, V.ref q2, V.ref q3]) := upd_same
      obtain ⟨Hc, hHc⟩ : ∃ Hc, Hc = upd (upd (upd (upd H0 q1 (.lst [])) q2 (.dK [])) q3 (.tup [V.str "host", V.str "a"])) f1 (.lst [V.non, V.int 5, V.str "load{}", V.str "all", V.ref q1, V.bl true, V.ref q2, V.ref q3]) := ⟨_, rfl⟩
      rw [← hHc] at xc gf g1 g2 g3 ⊢
      have hic := hi1.ex xc
      have bad : ∀ v ∈ [V.non, V.int 5, V.str "load{}", V.str "all", V.ref q1, V.bl true, V.ref q2, V.ref q3], Bi K Hc v ∧ Shown K Hc v := by
        intro v hv
        simp only [List.mem_cons, List.not_mem_nil, or_false] at hv
        rcases hv with rfl | rfl | rfl | rfl | rfl | rfl | rfl | rfl
        · exact ⟨bi_non, sh_non⟩
        · exact ⟨bi_int 5, sh_five⟩
        · exact ⟨bi_str _, sh_str _⟩
        · exact ⟨bi_str _, sh_str _⟩
        · exact ⟨bi_lst g1, sh_nil g1⟩
        · exact ⟨bi_bl true, sh_true⟩
        · exact ⟨bi_dK g2, sh_dict g2⟩
        · exact ⟨bi_tup g3, sh_two g3⟩
      clear y1 y2 y3 y4 hHc
      walk_at "v"
      refine for_it (walk_list (xs := [V.non, V.int 5, V.str "load{}", V.str "all", V.ref q1, V.bl true, V.ref q2, V.ref q3])) (fun i σ H' => ∃ o, σ = [some (.ref a), some (.ref ra), some (.ref D), o, none, none] ∧ Ex Hc H') ⟨none, rfl, Ex.refl _⟩ (fun i σ H' _ q => SqL.of (q.choose_spec.2 _ _ gf)) ?_ ?_
      · rintro i v σ Ha Hb hi8 ⟨o, rfl, ea⟩ ⟨rfl, hx⟩
        obtain ⟨hb, z, hz, hok⟩ := bad v (List.mem_of_getElem? hx)
        walk_at "v"
        refine ⟨a, sa, ka, ba, sl, 0, v, .non, [.str "series", .str z], rfl, hic.ex ea, .inl ⟨.inl rfl, hb.ex ea, z, hz.ex ea, rfl⟩, fun p1 H1 e1 _ h1 => ?_⟩
        walk_at "v"
        refine (hz.ex (ea.trans e1)) _ _ (Ex.refl _) ?_
        walk_at "v"
        intro q1 hq1
        have y1 := Ex.mut (Ex.refl H1) hq1 (o := .lst [V.str "series", V.str z])
        refine r_ne2 (zs := ["series", z]) (y1 _ _ h1) upd_same (str2 hok) ?_
        have x1 := (ea.trans e1).trans y1
        walk_at "v"
        refine ⟨a, sa, ka, ba, sl, 1, v, .non, [.str "series", .str z], rfl, hic.ex x1, .inl ⟨.inr rfl, hb.ex x1, z, hz.ex x1, rfl⟩, fun p2 H2 e2 _ h2 => ?_⟩
        walk_at "v"
        refine (hz.ex (x1.trans e2)) _ _ (Ex.refl _) ?_
        walk_at "v"
        intro q2 hq2
        have y2 := Ex.mut (Ex.refl H2) hq2 (o := .lst [V.str "series", V.str z])
        refine r_ne2 (zs := ["series", z]) (y2 _ _ h2) upd_same (str2 hok) ?_
        have x2 := (x1.trans e2).trans y2
        walk_at "v"
        refine ⟨a, sa, ka, ba, sl, 2, v, .non, [.str "selection", .str z], rfl, hic.ex x2, .inr (.inl ⟨rfl, hb.ex x2, z, hz.ex x2, rfl⟩), fun p3 H3 e3 _ h3 => ?_⟩
        walk_at "v"
        refine (hz.ex (x2.trans e3)) _ _ (Ex.refl _) ?_
        walk_at "v"
        intro q3 hq3
        have y3 := Ex.mut (Ex.refl H3) hq3 (o := .lst [V.str "selection", V.str z])
        refine r_ne2 (zs := ["selection", z]) (y3 _ _ h3) upd_same (str2 hok) ?_
        have x3 := (x2.trans e3).trans y3
        walk_at "v"
        exact ⟨_, rfl, x3⟩
      · rintro σ Ha ⟨o, rfl, ea⟩
        have hia := hic.ex ea
        have xa := xc.trans ea
        clear bad g1 g2 g3 gf
        walk_at "v"
        refine ⟨107, 25, one_k, rfl, by decide, ?_⟩
        walk_at "v"
        intro q4 hq4
        refine ⟨sz100k (n := 12) (by decide), fun f2 hf2 => ?_⟩
        have y4 := Ex.mut (Ex.refl Ha) hq4 (o := .lst [])
        have y5 := ex_more (Ex.refl _) hf2 (o := .lst [V.non, V.int 5, V.str "", V.str "9a", V.str "-a", V.str "Host", V.str "a=1", vS (List.replicate 25 107), V.ref q4, V.bl true, V.str "a b", V.str "all "])
        have g4 := y5 _ _ (upd_same (H := Ha) (a := q4) (o := .lst []))
        have gf : upd (upd Ha q4 (.lst [])) f2 (.lst [V.non, V.int 5, V.str "", V.str "9a", V.str "-a", V.str "Host", V.str "a=1", vS (List.replicate 25 107), V.ref q4, V.bl true, V.str "a b", V.str "all "]) f2 = some (.lst [V.non, V.int 5, V.str "", V.str "9a", V.str "-a", V.str "Host", V.str "a=1", vS (List.replicate 25 107), V.ref q4, V.bl true, V.str "a b", V.str "all "]) := upd_same
        have xd := xa.trans (y4.trans y5)
        obtain ⟨Hd, hHd⟩ : ∃ Hd, Hd = upd (upd Ha q4 (.lst [])) f2 (.lst [V.non, V.int 5, V.str "", V.str "9a", V.str "-a", V.str "Host", V.str "a=1", vS (List.replicate 25 107), V.ref q4, V.bl true, V.str "a b", V.str "all "]) := ⟨_, rfl⟩
        rw [← hHd] at g4 gf xd ⊢
        have hic := hi1.ex xd
        have bad : ∀ v ∈ [V.non, V.int 5, V.str "", V.str "9a", V.str "-a", V.str "Host", V.str "a=1", vS (List.replicate 25 107), V.ref q4, V.bl true, V.str "a b", V.str "all "], BadOf K isName Hd v ∧ Shown K Hd v := by
          intro v hv
          simp only [List.mem_cons, List.not_mem_nil, or_false] at hv
          have tx : ∀ z : Str, z.length ≤ 100000 → isName z = false → BadOf K isName Hd (.str z) := fun z h1 h2 => .inl ⟨z, rfl, h1, h2⟩
          rcases hv with rfl | rfl | rfl | rfl | rfl | rfl | rfl | rfl | rfl | rfl | rfl | rfl
          · exact ⟨.inr no_non, sh_non⟩
          · exact ⟨.inr (no_int 5), sh_five⟩
          · exact ⟨tx _ (by decide) (by decide +kernel), sh_str _⟩
          · exact ⟨tx _ (by decide) (by decide +kernel), sh_str _⟩
          · exact ⟨tx _ (by decide) (by decide +kernel), sh_str _⟩
          · exact ⟨tx _ (by decide) (by decide +kernel), sh_str _⟩
          · exact ⟨tx _ (by decide) (by decide +kernel), sh_str _⟩
          · exact ⟨tx _ (by decide) (by decide +kernel), sh_str _⟩
          · exact ⟨.inr (no_lst g4), sh_nil g4⟩
          · exact ⟨.inr (no_bl true), sh_true⟩
          · exact ⟨tx _ (by decide) (by decide +kernel), sh_str _⟩
          · exact ⟨tx _ (by decide) (by decide +kernel), sh_str _⟩
        clear y4 y5
        walk_at "v"
        refine for_it (walk_list (xs := [V.non, V.int 5, V.str "", V.str "9a", V.str "-a", V.str "Host", V.str "a=1", vS (List.replicate 25 107), V.ref q4, V.bl true, V.str "a b", V.str "all "])) (fun i σ H' => ∃ o u, σ = [some (.ref a), some (.ref ra), some (.ref D), o, u, none] ∧ Ex Hd H') ⟨_, _, rfl, Ex.refl _⟩ (fun i σ H' _ q => SqL.of (q.choose_spec.choose_spec.2 _ _ gf)) ?_ ?_
        · rintro i v σ Hb Hb' hi12 ⟨o, u0, rfl, ea⟩ ⟨rfl, hx⟩
          obtain ⟨hb, z, hz, hok⟩ := bad v (List.mem_of_getElem? hx)
          walk_at "v"
          intro fw hfw
          have yw := Ex.mut (Ex.refl Hb') hfw (o := .lst [V.str "a", V.str "-", V.non])
          have gw : upd Hb' fw (.lst [V.str "a", V.str "-", V.non]) fw = some (.lst [V.str "a", V.str "-", V.non]) := upd_same
          obtain ⟨Hw, hHw⟩ : ∃ Hw, Hw = upd Hb' fw (.lst [V.str "a", V.str "-", V.non]) := ⟨_, rfl⟩
          rw [← hHw] at yw gw ⊢
          walk_at "v"
          refine for_it (walk_list (xs := [V.str "a", V.str "-", V.non])) (fun i σ H' => ∃ u, σ = [some (.ref a), some (.ref ra), some (.ref D), some v, u, none] ∧ Ex Hw H') ⟨_, rfl, Ex.refl _⟩ (fun i σ H' _ q => SqL.of (q.choose_spec.2 _ _ gw)) ?_ ?_
          · rintro j u σ Hx Hx' hj ⟨u1, rfl, ew⟩ ⟨rfl, hu⟩
            have eb := ea.trans (yw.trans ew)
            walk_at "v"
            refine ⟨a, sa, ka, ba, sl, 3, v, u, [.str "name", .str z], rfl, hic.ex eb, .inr (.inr (.inl ⟨.inl rfl, hb.ex eb, z, hz.ex eb, rfl⟩)), fun p1 H1 e1 _ h1 => ?_⟩
            walk_at "v"
            refine (hz.ex (eb.trans e1)) _ _ (Ex.refl _) ?_
            walk_at "v"
            intro q1 hq1
            have y1 := Ex.mut (Ex.refl H1) hq1 (o := .lst [V.str "name", V.str z])
            refine r_ne2 (zs := ["name", z]) (y1 _ _ h1) upd_same (str2 hok) ?_
            have x1 := (eb.trans e1).trans y1
            walk_at "v"
            exact ⟨_, rfl, ew.trans (e1.trans y1)⟩
          · rintro σ Hx ⟨u1, rfl, ew⟩
            have eb := ea.trans (yw.trans ew)
            walk_at "v"
            refine ⟨a, sa, ka, ba, sl, 4, v, .non, [.str "name", .str z], rfl, hic.ex eb, .inr (.inr (.inl ⟨.inr rfl, hb.ex eb, z, hz.ex eb, rfl⟩)), fun p2 H2 e2 _ h2 => ?_⟩
            walk_at "v"
            refine (hz.ex (eb.trans e2)) _ _ (Ex.refl _) ?_
            walk_at "v"
            intro q2 hq2
            have y2 := Ex.mut (Ex.refl H2) hq2 (o := .lst [V.str "name", V.str z])
            refine r_ne2 (zs := ["name", z]) (y2 _ _ h2) upd_same (str2 hok) ?_
            have x2 := (eb.trans e2).trans y2
            walk_at "v"
            exact ⟨_, _, rfl, x2⟩
        · rintro σ Hb ⟨o, u0, rfl, eb⟩
          have xe := xd.trans eb
          clear bad g4 gf hic
          walk_at "v"
          refine ⟨57, 25, one_9, rfl, by decide, ?_⟩
          walk_at "v"
          intro q5 hq5
          refine ⟨sz100k (n := 10) (by decide), fun f3 hf3 => ?_⟩
          have y4 := Ex.mut (Ex.refl Hb) hq5 (o := .lst [V.str "a"])
          have y5 := ex_more (Ex.refl _) hf3 (o := .lst [V.non, V.int 5, V.str "", V.str "*", V.str "-a", V.str "A", V.str "a,b", vS (List.replicate 25 57), V.ref q5, V.bl true])
          have g4 := y5 _ _ (upd_same (H := Hb) (a := q5) (o := .lst [V.str "a"]))
          have gf : upd (upd Hb q5 (.lst [V.str "a"])) f3 (.lst [V.non, V.int 5, V.str "", V.str "*", V.str "-a", V.str "A", V.str "a,b", vS (List.replicate 25 57), V.ref q5, V.bl true]) f3 = some (.lst [V.non, V.int 5, V.str "", V.str "*", V.str "-a", V.str "A", V.str "a,b", vS (List.replicate 25 57), V.ref q5, V.bl true]) := upd_same
          have xf := xe.trans (y4.trans y5)
          obtain ⟨He, hHe⟩ : ∃ He, He = upd (upd Hb q5 (.lst [V.str "a"])) f3 (.lst [V.non, V.int 5, V.str "", V.str "*", V.str "-a", V.str "A", V.str "a,b", vS (List.replicate 25 57), V.ref q5, V.bl true]) := ⟨_, rfl⟩
          rw [← hHe] at g4 gf xf ⊢
          have hic := hi1.ex xf
          have bad : ∀ v ∈ [V.non, V.int 5, V.str "", V.str "*", V.str "-a", V.str "A", V.str "a,b", vS (List.replicate 25 57), V.ref q5, V.bl true], BadOf K isWord He v ∧ Shown K He v := by
            intro v hv
            simp only [List.mem_cons, List.not_mem_nil, or_false] at hv
            have tx : ∀ z : Str, z.length ≤ 100000 → isWord z = false → BadOf K isWord He (.str z) := fun z h1 h2 => .inl ⟨z, rfl, h1, h2⟩
            rcases hv with rfl | rfl | rfl | rfl | rfl | rfl | rfl | rfl | rfl | rfl
            · exact ⟨.inr no_non, sh_non⟩
            · exact ⟨.inr (no_int 5), sh_five⟩
            · exact ⟨tx _ (by decide) (by decide +kernel), sh_str _⟩
            · exact ⟨tx _ (by decide) (by decide +kernel), sh_str _⟩
            · exact ⟨tx _ (by decide) (by decide +kernel), sh_str _⟩
            · exact ⟨tx _ (by decide) (by decide +kernel), sh_str _⟩
            · exact ⟨tx _ (by decide) (by decide +kernel), sh_str _⟩
            · exact ⟨tx _ (by decide) (by decide +kernel), sh_str _⟩
            · exact ⟨.inr (no_lst g4), sh_a g4⟩
            · exact ⟨.inr (no_bl true), sh_true⟩
          clear y4 y5
          walk_at "v"
          refine for_it (walk_list (xs := [V.non, V.int 5, V.str "", V.str "*", V.str "-a", V.str "A", V.str "a,b", vS (List.replicate 25 57), V.ref q5, V.bl true])) (fun i σ H' => ∃ o u, σ = [some (.ref a), some (.ref ra), some (.ref D), o, u, none] ∧ Ex He H') ⟨_, _, rfl, Ex.refl _⟩ (fun i σ H' _ q => SqL.of (q.choose_spec.choose_spec.2 _ _ gf)) ?_ ?_
          · rintro i v σ Hx Hx' hi10 ⟨o, u0, rfl, ea⟩ ⟨rfl, hx⟩
            obtain ⟨hb, z, hz, hok⟩ := bad v (List.mem_of_getElem? hx)
            walk_at "v"
            refine ⟨a, sa, ka, ba, sl, 3, _, v, [.str "word", .str z], rfl, hic.ex ea, .inr (.inr (.inr (.inl ⟨rfl, tl "host", rfl, by decide +kernel, hb.ex ea, z, hz.ex ea, rfl⟩))), fun p1 H1 e1 _ h1 => ?_⟩
            walk_at "v"
            refine (hz.ex (ea.trans e1)) _ _ (Ex.refl _) ?_
            walk_at "v"
            intro q1 hq1
            have y1 := Ex.mut (Ex.refl H1) hq1 (o := .lst [V.str "word", V.str z])
            refine r_ne2 (zs := ["word", z]) (y1 _ _ h1) upd_same (str2 hok) ?_
            have x1 := (ea.trans e1).trans y1
            walk_at "v"
            exact ⟨_, _, rfl, x1⟩
          · rintro σ Hx ⟨o, u0, rfl, ea⟩
            walk_at "v"
            refine ⟨107, 24, one_k, rfl, by decide, ?_⟩
            walk_at "v"
            refine ⟨57, 24, one_9, rfl, by decide, ?_⟩
            walk_at "v"
            refine ⟨a, sa, ka, ba, sl, 3, _, _, [.str "told"], rfl, hic.ex ea, .inr (.inr (.inr (.inr ⟨.inl ⟨rfl, List.replicate 24 57, rfl, by decide +kernel⟩, ⟨List.replicate 24 107, rfl, by decide +kernel⟩, rfl⟩))), fun p1 H1 e1 _ h1 => ?_⟩
            walk_at "v"
            intro q1 hq1
            have y1 := Ex.mut (Ex.refl H1) hq1 (o := .lst [V.str "told"])
            refine r_ne2 (zs := ["told"]) (y1 _ _ h1) upd_same (by decide +kernel) ?_
            have x1 := (ea.trans e1).trans y1
            walk_at "v"
            refine ⟨a, sa, ka, ba, sl, 4, _, .non, [.str "told"], rfl, hic.ex x1, .inr (.inr (.inr (.inr ⟨.inr rfl, ⟨tl "k", rfl, by decide +kernel⟩, rfl⟩))), fun p2 H2 e2 _ h2 => ?_⟩
            walk_at "v"
            intro q2 hq2
            have y2 := Ex.mut (Ex.refl H2) hq2 (o := .lst [V.str "told"])
            refine r_ne2 (zs := ["told"]) (y2 _ _ h2) upd_same (by decide +kernel) ?_
            have x2 := (x1.trans e2).trans y2
            walk_at "v"
            have hi2 := hic.ex x2
            walk_at "v"
            refine ⟨hi2.is, ?_⟩
            walk_at "v"
            refine ⟨a, sa, ka, ba, sl, rfl, hi2, fun v r8 H8 e8 ht8 hp8 hr8 => ?_⟩
            obtain rfl := rows_tru hrt hrp _ hp8 hr8
            rw [filter_tru] at ht8
            obtain ⟨q8, vs8, rfl, _, hq8, hs8⟩ := ht8
            walk_at "v"
            refine ⟨q8, vs8, rows, rfl, hq8, hs8, by omega, fun p9 H9 e9 _ hl9 => ?_⟩
            have hT : TokB (rows.map textL) := tokB_rows (by omega) fun s hs => hi.sers s (hrp.mem_iff.mp hs)
            walk_at "v"
            refine .inl (r_reprT hl9 hT ?_)
            walk_at "v"
            have xz := xf.trans ((x2.trans e8).trans e9)
            refine .inl (r_reprT (hsh.ex xz) hT ?_)
            refine r_eq rfl ?_
            rw [decide_eq_true rfl]
            exact k H9 (e0.trans xz)
end
end
set_option Elab.async false
set_option linter.all false
set_option maxRecDepth 100000
set_option maxHeartbeats 4000000
/-! The state of the law's walks: an index, a list of texts, a world of series. -/
section
open PySem PySem.Spec PyProof.Rows L2
open Evl (Ex given)
theorem nodup_more {M N : List Addr} {H : Hp} (hM : M.Nodup) (t : ∀ x ∈ M, H x ≠ none) (hN : N.Nodup) (f : ∀ x ∈ N, H x = none) : (M ++ N).Nodup :=
  List.nodup_append.mpr ⟨hM, hN, fun x hx y hy z => t x hx (by rw [z]; exact f y hy)⟩
def Trk (H : Hp) (M : List Addr) : Prop := ∀ x ∈ M, H x ≠ none
theorem trk_ex {H H' : Hp} {M : List Addr} (t : Trk H M) (e : Ex H H') : Trk H' M := fun x hx z => t x hx (ex_none e z)
theorem trk_app {H : Hp} {M N : List Addr} (t : Trk H M) (u : Trk H N) : Trk H (M ++ N) := fun x hx => (List.mem_append.mp hx).elim (t x) (u x)
theorem trk_exx {S : List Addr} {H H' : Hp} {M : List Addr} (t : Trk H M) (e : Exx S H H') (u : Trk H' S) : Trk H' M := fun x hx z => by
  by_cases c : x ∈ S
  · exact u x c z
  · cases q : H x with
    | none => exact t x hx q
    | some o =>
      rw [e x o q c] at z
      cases z
theorem some_ne {H : Hp} {x : Addr} {o : HO} (h : H x = some o) : H x ≠ none := fun z => by
  rw [h] at z
  cases z
section
variable {P : Program} {w : World} {K : PySem.W.Frag} {H H' : Hp} {a sa ka ba : Addr} {sl : Slots}
theorem IdxAt.trk (h : IdxAt P w K H a sa ka ba sl) : Trk H [a, sa, ka, ba] := by
  obtain ⟨dx, h1⟩ := h.ob
  have h2 := h.slots
  obtain ⟨kvs, h3, _⟩ := h.known.ex
  obtain ⟨es, ⟨⟨ob, h4⟩, _, _⟩, _⟩ := h.bits.ex
  intro x hx
  simp only [List.mem_cons, List.not_mem_nil, or_false] at hx
  rcases hx with rfl | rfl | rfl | rfl
  · exact some_ne h1
  · exact some_ne h2
  · exact some_ne h3
  · exact some_ne h4
theorem IdxAt.nodup (h : IdxAt P w K H a sa ka ba sl) : [a, sa, ka, ba].Nodup := by
  obtain ⟨dx, h1⟩ := h.ob
  have h2 := h.slots
  obtain ⟨kvs, h3, _⟩ := h.known.ex
  obtain ⟨es, ⟨⟨ob, h4⟩, _, _⟩, _⟩ := h.bits.ex
  have n12 : a ≠ sa := ne_of h1 h2 (by intro z; cases z)
  have n13 : a ≠ ka := ne_of h1 h3 (by intro z; cases z)
  have n14 : a ≠ ba := ne_of h1 h4 (by intro z; have q : HO.ins _ _ _ = HO.ext _ := z; cases q)
  have n23 : sa ≠ ka := ne_of h2 h3 (by intro z; cases z)
  have n24 : sa ≠ ba := ne_of h2 h4 (by intro z; have q : HO.lst _ = HO.ext _ := z; cases q)
  have n34 : ka ≠ ba := ne_of h3 h4 (by intro z; have q : HO.dK _ = HO.ext _ := z; cases q)
  simp [n12, n13, n14, n23, n24, n34]
end
/-! ### one index with its list of texts and its world -/
structure SR where
  w : Addr
  h : Addr
  a : Addr
  sa : Addr
  ka : Addr
  ba : Addr
  ss : List Ser
def SR.ix (r : SR) : List Addr := [r.a, r.sa, r.ka, r.ba]
def SR.mt (r : SR) : List Addr := [r.a, r.sa, r.ka, r.ba, r.h]
structure Side (P : Program) (w : World) (K : PySem.W.Frag) (M : List Addr) (H : Hp) (r : SR) (ts : Toks) (sl : Slots) (n : Nat) : Prop where
  world : ∃ vs, H r.w = some (.lst vs) ∧ Paired (LSerN (fun x => x ∉ M) H) vs r.ss
  wM : r.w ∉ M
  few : 1 ≤ r.ss.length ∧ r.ss.length ≤ 40
  held : LstAt H r.h ts
  hM : r.h ∈ M
  hn : ts.length ≤ n
  hx : r.h ∉ r.ix
  idx : IdxAt P w K H r.a r.sa r.ka r.ba sl
  iM : ∀ x ∈ r.ix, x ∈ M
  mem : ∀ x, x ∈ occ sl ↔ x ∈ r.ss ∧ textL x ∈ ts
section
variable {P : Program} {w : World} {K : PySem.W.Frag} {M : List Addr} {H H' : Hp} {r : SR} {ts : Toks} {sl : Slots} {n : Nat}
theorem Side.ok (h : Side P w K M H r ts sl n) : ∀ s ∈ r.ss, SerOk s := fun s hs => by
  obtain ⟨vs, _, hp⟩ := h.world
  obtain ⟨i, hi, e⟩ := List.getElem_of_mem hs
  obtain ⟨v, _, hv⟩ := Pat' hp (i := i) (y := s) (by rw [List.getElem?_eq_getElem hi, e])
  exact hv.ok
theorem Side.small (h : Side P w K M H r ts sl n) : (occ sl).length ≤ r.ss.length := by
  have hnd : ((occ sl).map textL).Nodup := by
    rw [List.nodup_iff_pairwise_ne, List.pairwise_map]
    have := h.idx.nd
    rw [List.nodup_iff_pairwise_ne] at this
    refine this.imp_of_mem ?_
    intro x y hx hy hne e
    exact hne (textL_inj (h.idx.sers x hx) (h.idx.sers y hy) e)
  have := nodup_bound (f := fun s => some (textL s)) (os := r.ss) hnd fun y hy => by
    obtain ⟨s, hs, e⟩ := List.mem_map.mp hy
    exact ⟨s, ((h.mem s).mp hs).1, by rw [e]⟩
  rw [List.length_map] at this
  exact this
/-- elsewhere something changes -/
theorem Side.exx {S : List Addr} (h : Side P w K M H r ts sl n) (e : Exx S H H') (hS : ∀ x ∈ S, x ∈ M) (hd : ∀ x ∈ S, x ∉ r.mt) (hf : ∀ x ∈ S, NotFix H x) : Side P w K M H' r ts sl n := by
  obtain ⟨vs, h1, h2⟩ := h.world
  have ih : r.h ∉ S := fun z => hd _ z (by simp [SR.mt])
  refine ⟨⟨vs, e _ _ h1 fun z => h.wM (hS _ z), Pimp h2 fun v s q => q.exx e hS⟩, h.wM, h.few, e _ _ h.held ih, h.hM, h.hn, h.hx, h.idx.exx e (fun x hx z => hd x hx ?_) hf, h.iM, h.mem⟩
  simp only [List.mem_cons, List.not_mem_nil, or_false] at z
  simp only [SR.mt, List.mem_cons, List.not_mem_nil, or_false]
  rcases z with z | z | z | z <;> simp [z]
theorem Side.ex (h : Side P w K M H r ts sl n) (e : Ex H H') : Side P w K M H' r ts sl n :=
  h.exx (S := []) (Exx.of e) (fun _ z => (nomatch z)) (fun _ z => (nomatch z)) fun _ z => (nomatch z)
theorem Side.more {M' : List Addr} (h : Side P w K M H r ts sl n) (hM : ∀ x ∈ M, x ∈ M') (hN : ∀ x ∈ M', x ∈ M ∨ H x = none) : Side P w K M' H r ts sl n := by
  obtain ⟨vs, h1, h2⟩ := h.world
  have out : ∀ x o, H x = some o → x ∉ M → x ∉ M' := fun x o q m z => by
    rcases hN x z with c | c
    · exact m c
    · rw [q] at c
      cases c
  exact ⟨⟨vs, h1, Pimp h2 fun v s q => q.imp out⟩, out _ _ h1 h.wM, h.few, h.held, hM _ h.hM, h.hn, h.hx, h.idx, fun x hx => hM _ (h.iM x hx), h.mem⟩
/-- a put, a drop -/
theorem Side.step {sl' : Slots} {ts' : Toks} {d : Nat} {s : Ser} (h : Side P w K M H r ts sl n) (hi : IdxAt P w K H' r.a r.sa r.ka r.ba sl') (ht : LstAt H' r.h ts') (e : Exx r.mt H H') (he : Eff d s (occ sl) (occ sl')) (hf : Eff d (textL s) ts ts') (hl : ts'.length ≤ ts.length + 1) (hs : s ∈ r.ss) :
    Side P w K M H' r ts' sl' (n + 1) := by
  obtain ⟨vs, h1, h2⟩ := h.world
  have hS : ∀ x ∈ r.mt, x ∈ M := fun x hx => by
    simp only [SR.mt, List.mem_cons, List.not_mem_nil, or_false] at hx
    have := h.iM
    simp only [SR.ix, List.mem_cons, List.not_mem_nil, or_false] at this
    rcases hx with z | z | z | z | z
    · exact this x (by simp [z])
    · exact this x (by simp [z])
    · exact this x (by simp [z])
    · exact this x (by simp [z])
    · rw [z]
      exact h.hM
  refine ⟨⟨vs, e _ _ h1 fun z => h.wM (hS _ z), Pimp h2 fun v s q => q.exx e hS⟩, h.wM, h.few, ht, h.hM, Nat.le_trans hl (Nat.succ_le_succ h.hn), h.hx, hi, h.iM, fun x => ?_⟩
  have hok := h.ok s hs
  have inj : x ∈ r.ss → (textL x = textL s ↔ x = s) := fun hx => ⟨textL_inj (h.ok x hx) hok, fun z => by rw [z]⟩
  by_cases c : d = 0
  · rw [he.1 c, hf.1 c, h.mem]
    constructor
    · rintro (⟨q1, q2⟩ | q)
      · exact ⟨q1, .inl q2⟩
      · rw [q]
        exact ⟨hs, .inr rfl⟩
    · rintro ⟨q1, q2 | q2⟩
      · exact .inl ⟨q1, q2⟩
      · exact .inr ((inj q1).mp q2)
  · rw [he.2 c, hf.2 c, h.mem]
    constructor
    · rintro ⟨⟨q1, q2⟩, q3⟩
      exact ⟨q1, q2, fun z => q3 ((inj q1).mp z)⟩
    · rintro ⟨q1, q2, q3⟩
      exact ⟨⟨q1, q2⟩, fun z => q3 ((inj q1).mpr z)⟩
/-- the rows that are in are those of the index -/
theorem Side.rows (h : Side P w K M H r ts sl n) {rows : List Ser} (hr : RiseTx rows) (hm : ∀ s, s ∈ rows ↔ s ∈ r.ss ∧ textL s ∈ ts) : rows.Perm (occ sl) := by
  have nd1 : rows.Nodup := by
    have := riseTx_nodup hr
    rw [List.nodup_iff_pairwise_ne, List.pairwise_map] at this
    rw [List.nodup_iff_pairwise_ne]
    exact this.imp fun {x y} q z => q (by rw [z])
  have key : ∀ (l1 l2 : List Ser), l1.Nodup → l2.Nodup → (∀ x, x ∈ l1 ↔ x ∈ l2) → l1.Perm l2 := by
    intro l1
    induction l1 with
    | nil =>
      intro l2 _ _ hx
      cases l2 with
      | nil => exact .refl _
      | cons y l => exact absurd ((hx y).mpr (by simp)) (by simp)
    | cons x l ih =>
      intro l2 n1 n2 hx
      obtain ⟨p, q, rfl⟩ := List.append_of_mem ((hx x).mp (by simp))
      have n1' := List.nodup_cons.mp n1
      have pm : (p ++ x :: q).Perm (x :: (p ++ q)) := List.perm_middle
      have n2' := List.nodup_cons.mp (pm.nodup_iff.mp n2)
      refine (List.Perm.cons x (ih (p ++ q) n1'.2 n2'.2 fun y => ?_)).trans pm.symm
      have h1 := hx y
      rw [pm.mem_iff, List.mem_cons, List.mem_cons] at h1
      constructor
      · intro z
        rcases h1.mp (.inr z) with c | c
        · rw [c] at z
          exact absurd z n1'.1
        · exact c
      · intro z
        rcases h1.mpr (.inr z) with c | c
        · rw [c] at z
          exact absurd z n2'.1
        · exact c
  exact key rows (occ sl) nd1 h.idx.nd fun x => (hm x).trans (h.mem x).symm
end
end
set_option Elab.async false
set_option linter.all false
set_option maxRecDepth 100000
set_option maxHeartbeats 4000000
/-! Many series. -/
section
open PySem PySem.Spec PyProof.Rows L2
open Evl (Ex given)

theorem call_dictPK {X : Cx} {K : PySem.W.Frag} (hK : X.K = K) (hc : X.calm = true) : CallR X (.type "dict") (nDictP K) := by
  subst hK
  exact call_dictPN hc
theorem exx_new {b : Addr} {S : List Addr} {H H1 H2 : Hp} (e : Exx [b] H H1) (e2 : Exx S H1 H2) (hS : ∀ x ∈ S, H x = none) : Exx [b] H H2 := fun a o h n => e2 a o (e a o h n) fun z => by
  rw [hS a z] at h
  cases h
theorem world_at {N : Addr → Prop} {H : Hp} {vs : List V} {ss : List Ser} (hp : Paired (LSerN N H) vs ss) {v : V} (hv : v ∈ vs) : ∃ s ∈ ss, LSerN N H v s := by
  obtain ⟨i, hi, e⟩ := List.getElem_of_mem hv
  obtain ⟨s, h1, h2⟩ := Pat hp (i := i) (x := v) (by rw [List.getElem?_eq_getElem hi, e])
  exact ⟨s, List.mem_of_getElem? h1, h2⟩
theorem BoxAt.exx {S : List Addr} {H H' : Hp} {b : Addr} {c : Nat} (h : BoxAt H b c) (e : Exx S H H') (hb : b ∉ S) : BoxAt H' b c := by
  obtain ⟨g, big, m, n, q, r⟩ := h
  exact ⟨g, big, m, n, e _ _ q hb, r⟩
theorem SR.mt_eq (r : SR) : r.mt = [r.a, r.sa, r.ka, r.ba, r.h] := rfl
section
variable {P : Program} {w : World} {K : PySem.W.Frag} {mg : Str → Option Value} {base : Heap}
theorem Side.box {M : List Addr} {H H' : Hp} {r : SR} {ts : Toks} {sl : Slots} {n : Nat} {b : Addr} {c : Nat} (h : Side P w K M H r ts sl n) (hb : BoxAt H b c) (e : Exx [b] H H') (hM : b ∈ M) (hn : b ∉ r.mt) : Side P w K M H' r ts sl n :=
  h.exx e (fun x hx => by rw [List.mem_singleton] at hx; rw [hx]; exact hM) (fun x hx => by rw [List.mem_singleton] at hx; rw [hx]; exact hn) fun x hx => by rw [List.mem_singleton] at hx; rw [hx]; exact hb.nf
theorem Side.mtM {M : List Addr} {H : Hp} {r : SR} {ts : Toks} {sl : Slots} {n : Nat} (h : Side P w K M H r ts sl n) : ∀ x ∈ r.mt, x ∈ M := fun x hx => by
  simp only [SR.mt, List.mem_cons, List.not_mem_nil, or_false] at hx
  have := h.iM
  simp only [SR.ix, List.mem_cons, List.not_mem_nil, or_false] at this
  rcases hx with z | z | z | z | z
  · exact this x (by simp [z])
  · exact this x (by simp [z])
  · exact this x (by simp [z])
  · exact this x (by simp [z])
  · rw [z]
    exact h.hM
theorem Side.trk_mt {M : List Addr} {H : Hp} {r : SR} {ts : Toks} {sl : Slots} {n : Nat} (h : Side P w K M H r ts sl n) : Trk H r.mt := fun y hy => by
  have t := h.idx.trk
  simp only [SR.mt, List.mem_cons, List.not_mem_nil, or_false] at hy
  rcases hy with z | z | z | z | z
  · exact t y (by simp [z])
  · exact t y (by simp [z])
  · exact t y (by simp [z])
  · exact t y (by simp [z])
  · rw [z]
    exact some_ne h.held
theorem trk_cons {H : Hp} {b : Addr} {c : Nat} {M : List Addr} (hb : BoxAt H b c) (t : Trk H M) : Trk H (b :: M) := fun y hy => by
  rcases List.mem_cons.mp hy with z | z
  · obtain ⟨_, _, _, _, q, _⟩ := hb
    rw [z]
    exact some_ne q
  · exact t y z
/-- one deed -/
theorem do_ready {M : List Addr} {H : Hp} {r : SR} {ts : Toks} {sl : Slots} {n d : Nat} {vs : List V} {v : V} {Q : V → Hp → Prop} {E : XK} (S : Side P w K M H r ts sl n) (hw : H r.w = some (.lst vs)) (hv : v ∈ vs) (hn : n ≤ 1000)
    (q : ∀ ts' sl' H', Exx r.mt H H' → Side P w K M H' r ts' sl' (n + 1) → Q (.bl true) H') : spDo P w K [.ref r.a, .ref r.h, .int (d : Nat), v] H Q E := by
  obtain ⟨vs', h1, h2⟩ := S.world
  rw [hw] at h1
  cases h1
  obtain ⟨s, hs, hv'⟩ := world_at h2 hv
  have hsm := S.small
  have hfew := S.few
  have hhn := S.hn
  have e5 : [r.a, r.sa, r.ka, r.ba, r.h] = r.mt := rfl
  refine ⟨r.a, r.sa, r.ka, r.ba, r.h, sl, ts, d, v, s, rfl, S.idx, S.held, S.hx, hv'.ser, by omega, by omega, fun sl' ts' H' hi ht e he hf hl => ?_⟩
  exact q ts' sl' H' e (S.step hi ht e he hf hl hs)
def nmK (i : Nat) : Str := Str.ofString "s" ++ Str.ofString (toString ((0 : Int) + (i : Int)))
def znK (i : Nat) : Str := Str.ofString "z" ++ Str.ofString (toString (((0 : Int) + (i : Int)) / 5))
def serK (words : Toks) (i : Nat) : Ser := ⟨tl (nmK i), [(tl "host", words.getD (i % 3) []), (tl "zone", tl (znK i))]⟩
theorem nmK_ok : ∀ i : Fin 24, isName (nmK i.val) = true := by decide +kernel
theorem znK_ok : ∀ i : Fin 24, isWord (znK i.val) = true := by decide +kernel
theorem len_nm : ∀ i : Fin 24, (Str.ofString (toString ((0 : Int) + ((i.val : Nat) : Int)))).length ≤ 20 := by decide +kernel
theorem len_zn : ∀ i : Fin 24, (Str.ofString (toString (((0 : Int) + ((i.val : Nat) : Int)) / 5))).length ≤ 20 := by decide +kernel
theorem merge_two (x y : List Nat) : mergeK [] (dKv [(tl "host", x), (tl "zone", y)]) = dKv [(tl "host", x), (tl "zone", y)] := by
  have hne : ¬ (Sum.inr (S (tl "host")) : Key) = Sum.inr (S (tl "zone")) := fun z => absurd (S_inj (Sum.inr.inj z)) (by decide +kernel)
  show putK (putK ([] : List (Key × V)) (.inr (S (tl "host"))) (vS x)) (.inr (S (tl "zone"))) (vS y) = _
  have e1 : putK ([] : List (Key × V)) (.inr (S (tl "host"))) (vS x) = [(.inr (S (tl "host")), vS x)] := by simp [putK]
  rw [e1]
  simp only [putK, List.any_cons, List.any_nil, Bool.or_false, decide_eq_true_eq, hne, if_false]
  rfl
theorem serK_ok {words : Toks} (hw : words.length = 4) (ws : ∀ x ∈ words, isWord (S x) = true) {i : Nat} (hi : i < 24) : SerOk (serK words i) := by
  have h1 : isName (S (tl (nmK i))) = true := by rw [S_tl]; exact nmK_ok ⟨i, hi⟩
  have h2 : isWord (S (tl (znK i))) = true := by rw [S_tl]; exact znK_ok ⟨i, hi⟩
  have hm : i % 3 < words.length := by rw [hw]; omega
  have h3 : isWord (S (words.getD (i % 3) [])) = true := by
    rw [List.getD_eq_getElem?_getD, List.getElem?_eq_getElem hm]
    exact ws _ (List.getElem_mem hm)
  refine ⟨h1, ?_, fun kw hk => ?_, ?_⟩
  · show 2 ≤ 6
    decide
  · simp only [serK, List.mem_cons, List.not_mem_nil, or_false] at hk
    rcases hk with rfl | rfl
    · exact ⟨(by decide +kernel : isName (S (tl "host")) = true), (by decide +kernel : tl "host" ≠ nNAME), h3⟩
    · exact ⟨(by decide +kernel : isName (S (tl "zone")) = true), (by decide +kernel : tl "zone" ≠ nNAME), h2⟩
  · refine List.pairwise_cons.mpr ⟨fun y hy => ?_, List.pairwise_singleton _ _⟩
    rw [List.mem_singleton] at hy
    rw [hy]
    show tl "host" < tl "zone"
    decide +kernel
/-- an index is made -/
theorem idx_made {x dx : Addr} {H : Hp} {R : Hp → Prop} {E : XK} (hx : H x = none) (hd : H dx = none) (q : ∀ sa ka ba H', Ex H H' → IdxAt P w K H' x sa ka ba [] → (∀ y ∈ [x, sa, ka, ba], H y = none) → R H') :
    spIInit P w K [.ref x] (upd (upd H dx (.own x)) x (.ins (He.ga K "Index") dx [])) (fun v H2 => v = .non ∧ R H2) E := by
  have back : ∀ y, upd (upd H dx (.own x)) x (.ins (He.ga K "Index") dx []) y = none → H y = none := fun y z => by
    by_cases c : y = x
    · rw [c]; exact hx
    · rw [upd_ne c] at z
      by_cases c2 : y = dx
      · rw [c2]; exact hd
      · rw [upd_ne c2] at z
        exact z
  refine ⟨x, dx, rfl, upd_same, fun sa ka ba H' hi e h1 h2 h3 => ⟨rfl, q sa ka ba H' (made_ex hx hd e) hi fun y hy => ?_⟩⟩
  simp only [List.mem_cons, List.not_mem_nil, or_false] at hy
  rcases hy with rfl | rfl | rfl | rfl
  · exact hx
  · exact back _ h1
  · exact back _ h2
  · exact back _ h3
def spMany : Sp := fun vs H Q _ => ∃ (b : Addr) (c : Nat), vs = [.ref b] ∧ BoxAt H b c ∧ c ≤ 1000000 ∧ ∀ H', Exx [b] H H' → Q (.bl true) H'
theorem sc_law_many_right : FnScope ["_law_box_here", "_law_pool_here", "_law_index", "_law_held", "_law_world", "_law_one", "_law_rows", "_law_k"] ["_law_box_here"] (defScope s_law_many_right) := ⟨rfl, rfl, rfl, by decide +kernel, rfl, by decide +kernel, by decide +kernel⟩
theorem ok_law_many_right (T : Txt K mg) : GoodPG P w K mg base "_law_many_right" 46 ["_law_box_here"] spMany := by
  have G_law_take := ok_law_take (P := P) (w := w) (base := base) T
  have G_law_pool := ok_law_pool (P := P) (w := w) (base := base) T
  have G_law_mixed := ok_law_mixed (P := P) (w := w) (base := base) T
  have G_law_inside := ok_law_inside (P := P) (w := w) (base := base) T
  have G_law_do := ok_law_do (P := P) (w := w) (base := base) T
  have G_law_asked_right := ok_law_asked_right (P := P) (w := w) (base := base) T
  have G_Index_init := ok_Index_init (P := P) (w := w) (base := base) T
  obtain ⟨fd, F⟩ := T.f_law_many_right
  refine goodG_of F sc_law_many_right (fun vs H Q E h => ?_) (fun _ _ _ _ _ _ us hl => match us, hl with | [_], _ => rfl) (fun cdv A outer s H vs Q E hg hr h => ?_)
  · obtain ⟨b, c, rfl, _⟩ := h
    rfl
  · obtain ⟨b, c, rfl, hb, hc, k⟩ := h
    have hgd : Calm (A.deeper (envOfC "_law_many_right" (defScope s_law_many_right) s.heap.objs.size (He.ga K "_law_many_right") cdv)) := hg
    refine ⟨_, (pss_cons (ps_asg (pe_tup (pa_cons (pcall G_law_pool hr T.g_law_pool (pa_cons (pv 0) pa_nil)) (pa_cons (pmake0 T.mk_Index G_Index_init hr T.g_Index) (pa_cons (pe_lst pa_nil) pa_nil)))) (pg_tup rfl (pgs_cons (pg_name (i := 1) sc_law_many_right.nd rfl (Or.inr rfl)) (pgs_cons (pg_name (i := 2) sc_law_many_right.nd rfl (Or.inl rfl)) (pgs_cons (pg_name (i := 3) sc_law_many_right.nd rfl (Or.inl rfl)) pgs_nil)))))
    (pss_cons (ps_setLc (i := 4) (own := [("_law_k", 7)]) rfl sc_law_many_right.nd rfl rfl (sw_true rfl rfl rfl (by decide +kernel)) (pi_range1 rfl T.z_range (pa_cons pe_int pa_nil)) (blkOk_by (N := ["_law_box_here", "_law_pool_here", "_law_index", "_law_held", "_law_world", "_law_one", "_law_rows", "_law_k"]) (sc := defScope s_law_many_right) (by decide +kernel)) (fun _ _ _ _ _ => (pg_name (i := 7) sc_law_many_right.nd rfl (Or.inl rfl))) (fun _ _ _ _ _ => pts_nil) (fun _ _ _ _ _ => (pe_lst (pa_cons (pe_op op_addS pe_str (pe_callTy call_str_intN rfl T.z_str (by decide +kernel) (pa_cons (pv 7) pa_nil))) (pa_cons (pe_callTy (call_dictPK (K := K) rfl rfl) rfl T.z_dict (by decide +kernel) (pa_cons (pe_lst (pa_cons (pe_tup (pa_cons pe_str (pa_cons (pe_ix (ix_listK (K := K) rfl) (pe_ix (ix_listK (K := K) rfl) (pv 1) pe_int (fun _ _ => rfl)) (pe_op op_mod (pe_callTy call_int1N rfl T.z_int (by decide +kernel) (pa_cons (pv 7) pa_nil)) pe_int) (fun _ _ => rfl)) pa_nil))) (pa_cons (pe_tup (pa_cons pe_str (pa_cons (pe_op op_addS pe_str (pe_callTy call_str_intN rfl T.z_str (by decide +kernel) (pa_cons (pe_op op_fdiv (pv 7) pe_int) pa_nil))) pa_nil))) pa_nil))) pa_nil)) pa_nil)))))
    (pss_cons (ps_for PassesOwn.never rfl (pi_list (pcall G_law_mixed hr T.g_law_mixed (pa_cons (pv 0) (pa_cons (pv 4) pa_nil)))) (pg_name (i := 5) sc_law_many_right.nd rfl (Or.inl rfl))
    (pss_one (ps_if (pt_not (pt_val (pcall G_law_do hr T.g_law_do (pa_cons (pv 2) (pa_cons (pv 3) (pa_cons pe_int (pa_cons (pv 5) pa_nil))))))) (pss_one (ps_ret pe_bl)) pss_nil)))
    (pss_cons (ps_for PassesOwn.never rfl (pi_list (pe_op op_cat (pe_slice sl_list (pcall G_law_mixed hr T.g_law_mixed (pa_cons (pv 0) (pa_cons (pv 4) pa_nil))) po_none (po_some pe_int)) (pe_slice sl_list (pv 4) po_none (po_some pe_int)))) (pg_name (i := 5) sc_law_many_right.nd rfl (Or.inl rfl))
    (pss_one (ps_if (pt_not (pt_val (pcall G_law_do hr T.g_law_do (pa_cons (pv 2) (pa_cons (pv 3) (pa_cons (pe_ix ix_list (pe_lst (pa_cons pe_int (pa_cons pe_int (pa_cons pe_int (pa_cons pe_int (pa_cons pe_int pa_nil)))))) (pcall G_law_take hr T.g_law_take (pa_cons (pv 0) (pa_cons pe_int pa_nil))) (fun _ _ => rfl)) (pa_cons (pv 5) pa_nil))))))) (pss_one (ps_ret pe_bl)) pss_nil)))
    (pss_cons (ps_set (i := 6) sc_law_many_right.nd rfl (Or.inl rfl) (pcall G_law_inside hr T.g_law_inside (pa_cons (pv 4) (pa_cons (pv 3) pa_nil))))
    (pss_one (ps_ret (pcallG G_law_asked_right hr hgd T.g_law_asked_right (pa_cons (pv 0) (pa_cons (pv 2) (pa_cons (pv 6) (pa_cons (pe_lst (pa_cons (pe_lst (pa_cons pe_str (pa_cons pe_str (pa_cons pe_str pa_nil)))) (pa_cons (pe_lst (pa_cons pe_str (pa_cons pe_str (pa_cons pe_str (pa_cons pe_str pa_nil))))) (pa_cons (pe_lst (pa_cons pe_str pa_nil)) pa_nil)))) pa_nil)))))))))))), ?_⟩
    walk_at "v"
    refine ⟨b, c, rfl, hb, by omega, fun p keys words names H1 hb1 e1 hpool => ?_⟩
    walk_at "v"
    intro x dx hx hdx hdn
    refine idx_made hx hdx fun sa ka ba H2 e2 hi2 hnew => ?_
    walk_at "v"
    intro h0 hh0
    refine ⟨sz100k (n := 3) (by decide), fun tp htp => ?_⟩
    have y3 := Ex.mut (Ex.refl H2) hh0 (o := .lst [])
    have y4 := ex_more (Ex.refl _) htp (o := .tup [V.ref p, V.ref x, V.ref h0])
    have gh : LstAt (upd (upd H2 h0 (.lst [])) tp (.tup [V.ref p, V.ref x, V.ref h0])) h0 [] := y4 _ _ (upd_same (H := H2) (a := h0) (o := .lst []))
    have gt : upd (upd H2 h0 (.lst [])) tp (.tup [V.ref p, V.ref x, V.ref h0]) tp = some (.tup [V.ref p, V.ref x, V.ref h0]) := upd_same
    have x24 := y3.trans y4
    obtain ⟨H4, hH4⟩ : ∃ H4, H4 = upd (upd H2 h0 (.lst [])) tp (.tup [V.ref p, V.ref x, V.ref h0]) := ⟨_, rfl⟩
    rw [← hH4] at gh gt x24 ⊢
    have hi4 := hi2.ex x24
    have hb4 := hb1.ex (e2.trans x24)
    have e4 : Exx [b] H H4 := e1.trans (Exx.of (e2.trans x24))
    have x14 := e2.trans x24
    have fresh : ∀ y ∈ [x, sa, ka, ba, h0], H y = none := fun y hy => by
      refine box_none hb1 e1 ?_
      simp only [List.mem_cons, List.not_mem_nil, or_false] at hy hnew
      rcases hy with z | z | z | z | z
      · exact hnew y (by simp [z])
      · exact hnew y (by simp [z])
      · exact hnew y (by simp [z])
      · exact hnew y (by simp [z])
      · rw [z]
        exact ex_none e2 hh0
    obtain ⟨M, hM⟩ : ∃ M, M = b :: [x, sa, ka, ba, h0] := ⟨_, rfl⟩
    have trk4 : Trk H4 M := by
      rw [hM]
      intro y hy
      rcases List.mem_cons.mp hy with z | z
      · obtain ⟨_, _, _, _, q, _⟩ := hb4
        rw [z]
        exact some_ne q
      · have := hi4.trk
        simp only [List.mem_cons, List.not_mem_nil, or_false] at z
        rcases z with z | z | z | z | z
        · exact this y (by simp [z])
        · exact this y (by simp [z])
        · exact this y (by simp [z])
        · exact this y (by simp [z])
        · rw [z]
          exact some_ne gh
    obtain ⟨⟨ka1, wa1, na1, hpp, pool, hna⟩, kn, wn, nn, nk, ns⟩ := hpool
    have hpp4 := x14 _ _ hpp
    have pool4 := pool.ex x14
    walk_at "v"
    intro D hD
    refine lc_rel (walk_range (lo := 0) (n := 24)) (fun _ => true) (fun i y H' => LSerN (fun q => q ∉ D :: M) H' y (serK words i)) hD (by decide) (fun _ _ => trivial) (fun i y Ha Hb e q => q.exx e fun z hz => by rw [List.mem_singleton] at hz; simp [hz]) ?_ (fun H5 ys e5 h5 hpr => ?_)
    · rintro N i v Ha Hb hi24 ea ⟨acc0, hacc0⟩ ⟨rfl, rfl⟩ _ hyes
      have hlog : ((0 : Int) + (i : Int)).natAbs.log2 < 1920 := by
        have : ((0 : Int) + (i : Int)).natAbs = i := by omega
        rw [this]
        exact Nat.lt_of_le_of_lt (Nat.log2_le_self i) (by omega)
      have hlog5 : (((0 : Int) + (i : Int)) / 5).natAbs.log2 < 1920 := by
        have : (((0 : Int) + (i : Int)) / 5).natAbs = i / 5 := by omega
        rw [this]
        exact Nat.lt_of_le_of_lt (Nat.log2_le_self _) (by omega)
      have hidx : ((0 : Int) + (i : Int)) % 3 = ((i % 3 : Nat) : Int) := by omega
      have hppb := ea _ _ hpp4
      have hwb := ea _ _ pool4.w
      walk_at "v"
      refine ⟨rfl, yes_ ?_⟩
      walk_at "v"
      have l1 := len_nm ⟨i, hi24⟩
      have l2 := len_zn ⟨i, hi24⟩
      have l3 : (Str.ofString "s").length = 1 := rfl
      have l4 : (Str.ofString "z").length = 1 := rfl
      dsimp only at l1 l2
      refine r_strInt hlog ?_
      walk_at "v"
      have hm : i % 3 < words.length := by rw [wn]; omega
      refine r_ixL (v := vS (words.getD (i % 3) [])) (SqL.of hwb) ?_ ?_
      · rw [hidx]
        refine atI_nat ?_
        rw [List.getElem?_map, List.getD_eq_getElem?_getD, List.getElem?_eq_getElem hm]
        rfl
      walk_at "v"
      intro q1 hq1
      have z1 := Ex.mut (Ex.refl Hb) hq1 (o := .tup [V.str "host", vS (words.getD (i % 3) [])])
      walk_at "v"
      refine r_strInt hlog5 ?_
      walk_at "v"
      intro q2 hq2
      have z2 := ex_more (Ex.refl _) hq2 (o := .tup [V.str "zone", V.str (znK i)])
      walk_at "v"
      intro q3 hq3
      have z3 := ex_more (Ex.refl _) hq3 (o := .lst [V.ref q1, V.ref q2])
      have g1 := (z2.trans z3) _ _ (upd_same (H := Hb) (a := q1) (o := .tup [V.str "host", vS (words.getD (i % 3) [])]))
      have g2 := z3 _ _ (upd_same (a := q2) (o := .tup [V.str "zone", V.str (znK i)]))
      walk_at "v"
      refine ⟨q3, [q1, q2], dKv [(tl "host", words.getD (i % 3) []), (tl "zone", tl (znK i))], rfl, SqL.of upd_same, .cons (SqT.of g1) (.cons (SqT.of ?_) .nil), fun dd hdd => ?_⟩
      · show _ = some (HO.tup [V.str (S (tl "zone")), V.str (S (tl (znK i)))])
        rw [S_tl, S_tl]
        exact g2
      have z4 := ex_more (Ex.refl _) hdd (o := .dK (mergeK [] (dKv [(tl "host", words.getD (i % 3) []), (tl "zone", tl (znK i))])))
      have zz := (z1.trans z2).trans (z3.trans z4)
      walk_at "v"
      intro q hq
      have z5 := ex_more (Ex.refl _) hq (o := .lst [V.str (nmK i), V.ref dd])
      have gd := z5 _ _ (upd_same (a := dd) (o := .dK (mergeK [] (dKv [(tl "host", words.getD (i % 3) []), (tl "zone", tl (znK i))]))))
      rw [merge_two] at gd
      have trkD : Trk Hb (D :: M) := fun y hy => by
        rcases List.mem_cons.mp hy with z | z
        · rw [z]
          exact some_ne hacc0
        · exact trk_ex trk4 ea y z
      have nq : q ∉ D :: M := fun z => trk_ex trkD zz q z hq
      have nd : dd ∉ D :: M := fun z => trk_ex trkD ((z1.trans z2).trans z3) dd z hdd
      refine hyes rfl (.ref q) _ (zz.trans z5) ⟨⟨q, dd, _, nq, nd, rfl, ?_, gd, List.Perm.refl _⟩, serK_ok wn pool.ws hi24⟩
      rw [upd_same]
      show _ = some (HO.lst [V.str (S (tl (nmK i))), V.ref dd])
      rw [S_tl]
      rfl
    · obtain ⟨hyl, hy⟩ := Prange hpr
      obtain ⟨ss, hss⟩ : ∃ ss, ss = (List.range 24).map (serK words) := ⟨_, rfl⟩
      have hsl : ss.length = 24 := by rw [hss, List.length_map, List.length_range]
      obtain ⟨r, hr0⟩ : ∃ r : SR, r = ⟨D, h0, x, sa, ka, ba, ss⟩ := ⟨_, rfl⟩
      have hmt : r.mt = [x, sa, ka, ba, h0] := by rw [hr0]; rfl
      have hMr : M = b :: r.mt := by rw [hM, hmt]
      have hbM : b ∈ M := by rw [hM]; simp
      have hbtrk : H b ≠ none := by
        obtain ⟨_, _, _, _, q, _⟩ := hb
        exact some_ne q
      have hbm : b ∉ r.mt := fun z => by
        rw [hmt] at z
        exact hbtrk (fresh b z)
      have frm : ∀ y ∈ r.mt, H y = none := fun y hy => fresh y (by rw [← hmt]; exact hy)
      have hb5 := hb4.ex e5
      have S5 : Side P w K M H5 r [] [] 0 := by
        subst hr0
        refine ⟨⟨ys, h5, Pof (by rw [hyl, hsl]) fun i y z h1 h2 => ?_⟩, fun z => trk4 D z hD, ⟨by show 1 ≤ ss.length; omega, by show ss.length ≤ 40; omega⟩, e5 _ _ gh, by rw [hM]; simp, Nat.le_refl _, fun z => ?_, hi4.ex e5, fun y hy => ?_, fun y => by simp [occ]⟩
        · have hq := (hy i y h1).imp (N' := fun q => q ∉ M) fun q o _ hn z => hn (List.mem_cons_of_mem _ z)
          rw [hss, List.getElem?_map] at h2
          cases hr : (List.range 24)[i]? with
          | none =>
            rw [hr] at h2
            cases h2
          | some j =>
            rw [hr] at h2
            have hij : j = i := by
              have := (List.getElem?_eq_some_iff.mp hr).2
              simpa using this.symm
            subst hij
            cases h2
            exact hq
        · exact hi2.trk h0 z hh0
        · simp only [SR.ix, List.mem_cons, List.not_mem_nil, or_false] at hy
          rw [hM]
          rcases hy with z | z | z | z <;> simp [z]
      walk_at "v"
      refine ⟨b, D, ys, c + 12, rfl, hb5, by rw [hyl]; omega, h5, by rw [hyl]; decide, fun f zs H6 perm hf hfz hb6 e6 => ?_⟩
      rw [hyl] at hb6
      have S6 := S5.box hb5 e6 hbM hbm
      have trk5 := trk_ex trk4 e5
      have hfM : f ∉ M := fun z => trk5 f z hf
      have E6 : Exx [b] H H6 := (e4.trans (Exx.of e5)).trans e6
      have hzl : zs.length = 24 := by rw [perm.length_eq, hyl]
      have hrw : r.w = D := by rw [hr0]
      have hra : r.a = x := by rw [hr0]
      have hrh : r.h = h0 := by rw [hr0]
      have hmM := S6.mtM
      have hwm : r.w ∉ r.mt := fun z => S6.wM (hmM _ z)
      have hwb : r.w ≠ b := fun z => S6.wM (by rw [z]; exact hbM)
      have hfm : f ∉ r.mt := fun z => hfM (hmM _ z)
      have hw6 : H6 r.w = some (.lst ys) := e6 _ _ (by rw [hrw]; exact h5) (by rw [List.mem_singleton]; exact hwb)
      walk_at "v"
      refine for_it (walk_list (xs := zs)) (fun i σ H' => ∃ o ts sl, σ = [some (.ref b), some (.ref p), some (.ref x), some (.ref h0), some (.ref D), o, none, none] ∧ Side P w K M H' r ts sl i ∧ BoxAt H' b (c + 36) ∧ H' f = some (.lst zs) ∧ H' r.w = some (.lst ys) ∧ Exx [b] H H')
        ⟨none, [], [], rfl, S6, hb6, hfz, hw6, E6⟩ (fun i σ H' _ q => SqL.of q.choose_spec.choose_spec.choose_spec.2.2.2.1) ?_ ?_
      · rintro i v σ Ha Hb hi ⟨o, ts, sl, rfl, Sa, hba, hfa, hwa, ea⟩ ⟨rfl, hv⟩
        walk_at "v"
        rw [hzl] at hi
        have hdo := fun (Q : V → Hp → Prop) (E : XK) q => do_ready (d := 0) (Q := Q) (E := E) Sa hwa (perm.mem_iff.mp (List.mem_of_getElem? hv)) (by omega) q
        rw [hra, hrh] at hdo
        refine hdo _ _ fun ts' sl' Hc ec Sc => ?_
        have hbc := hba.exx ec hbm
        have hfc := ec _ _ hfa hfm
        have hwc := ec _ _ hwa hwm
        have Ec := exx_new ea ec frm
        walk_at "v"
        exact ⟨some v, ts', sl', rfl, Sc, hbc, hfc, hwc, Ec⟩
      · rintro σ H7 ⟨o, ts, sl, rfl, S7, hb7, hf7, hw7, E7⟩
        walk_at "v"
        have hD7 : H7 D = some (.lst ys) := by rw [← hrw]; exact hw7
        refine ⟨b, D, ys, c + 36, rfl, hb7, by rw [hyl]; omega, hD7, by rw [hyl]; decide, fun f2 zs2 H8 perm2 hf2 hfz2 hb8 e8 => ?_⟩
        rw [hyl] at hb8
        rw [hzl] at S7
        have S8 := S7.box hb7 e8 hbM hbm
        have E8 := E7.trans e8
        have hw8 : H8 r.w = some (.lst ys) := e8 _ _ hw7 (by rw [List.mem_singleton]; exact hwb)
        have hD8 : H8 D = some (.lst ys) := by rw [← hrw]; exact hw8
        have trk_M8 : Trk H8 M := by rw [hMr]; exact trk_cons hb8 S8.trk_mt
        have hzl2 : zs2.length = 24 := by rw [perm2.length_eq, hyl]
        walk_at "v"
        intro u1 hu1
        have c1 : cutV zs2 none (some 12) = zs2.take 12 := cutV_to zs2 12
        have c2 : cutV ys none (some 3) = ys.take 3 := cutV_to ys 3
        have l1 : (zs2.take 12).length = 12 := by rw [List.length_take, hzl2]; rfl
        have l2 : (ys.take 3).length = 3 := by rw [List.length_take, hyl]; rfl
        rw [c1]
        have hD9 := (Ex.mut (Ex.refl H8) hu1 (o := .lst (zs2.take 12))) _ _ hD8
        walk_at "v"
        intro u2 hu2
        rw [c2]
        have w1 := Ex.mut (Ex.refl H8) hu1 (o := .lst (zs2.take 12))
        have w2 := ex_more (Ex.refl _) hu2 (o := .lst (ys.take 3))
        refine r_cat (w2 _ _ upd_same) upd_same (by rw [l1, l2]; decide) fun u3 hu3 => ?_
        have w3 := ex_more (Ex.refl _) hu3 (o := .lst (zs2.take 12 ++ ys.take 3))
        have wz := (w1.trans w2).trans w3
        obtain ⟨xs3, hxs3⟩ : ∃ xs3, xs3 = zs2.take 12 ++ ys.take 3 := ⟨_, rfl⟩
        have hf3 : upd (upd (upd H8 u1 (.lst (zs2.take 12))) u2 (.lst (ys.take 3))) u3 (.lst xs3) u3 = some (.lst xs3) := upd_same
        rw [← hxs3] at wz ⊢
        obtain ⟨H9, hH9⟩ : ∃ H9, H9 = upd (upd (upd H8 u1 (.lst (zs2.take 12))) u2 (.lst (ys.take 3))) u3 (.lst xs3) := ⟨_, rfl⟩
        rw [← hH9] at hf3 wz ⊢
        have hl3 : xs3.length = 15 := by rw [hxs3, List.length_append, l1, l2]
        have hin : ∀ v ∈ xs3, v ∈ ys := fun v hv => by
          rw [hxs3] at hv
          rcases List.mem_append.mp hv with z | z
          · exact perm2.mem_iff.mp (List.mem_of_mem_take z)
          · exact List.mem_of_mem_take z
        have hu3M : u3 ∉ M := fun z => trk_ex trk_M8 (w1.trans w2) u3 z hu3
        have hu3m : u3 ∉ r.mt := fun z => hu3M (hmM _ z)
        have hu3b : u3 ≠ b := fun z => hu3M (by rw [z]; exact hbM)
        walk_at "v"
        refine for_it (walk_list (xs := xs3)) (fun i σ H' => ∃ o ts sl, σ = [some (.ref b), some (.ref p), some (.ref x), some (.ref h0), some (.ref D), o, none, none] ∧ Side P w K M H' r ts sl (24 + i) ∧ BoxAt H' b (c + 60 + i) ∧ H' u3 = some (.lst xs3) ∧ H' r.w = some (.lst ys) ∧ Exx [b] H H')
          ⟨o, ts, sl, rfl, S8.ex wz, hb8.ex wz, hf3, wz _ _ hw8, E8.trans (Exx.of wz)⟩ (fun i σ H' _ q => SqL.of q.choose_spec.choose_spec.choose_spec.2.2.2.1) ?_ ?_
        · rintro i v σ Ha Hb hi ⟨o, ts, sl, rfl, Sa, hba, hfa, hwa, ea⟩ ⟨rfl, hv⟩
          rw [hl3] at hi
          walk_at "v"
          intro q1 hq1
          have z1 := Ex.mut (Ex.refl Hb) hq1 (o := .lst [V.int 1, V.int 1, V.int 1, V.int 1, V.int 0])
          have hq1' : upd Hb q1 (.lst [V.int 1, V.int 1, V.int 1, V.int 1, V.int 0]) q1 = some (.lst [V.int 1, V.int 1, V.int 1, V.int 1, V.int 0]) := upd_same
          have hqb : q1 ≠ b := fun z => by
            obtain ⟨_, _, _, _, q, _⟩ := hba
            rw [← z, hq1] at q
            cases q
          have Sb := Sa.ex z1
          have hbb := hba.ex z1
          have hfb := z1 _ _ hfa
          have hwb2 := z1 _ _ hwa
          have eb := ea.trans (Exx.of z1)
          obtain ⟨Hd, hHd⟩ : ∃ Hd, Hd = upd Hb q1 (.lst [V.int 1, V.int 1, V.int 1, V.int 1, V.int 0]) := ⟨_, rfl⟩
          rw [← hHd] at hq1' Sb hbb hfb hwb2 eb ⊢
          walk_at "v"
          refine ⟨b, 5, c + 60 + i, rfl, by omega, by omega, hbb, by omega, fun d Hc hd hbc ec => ?_⟩
          have Sc := Sb.box hbb ec hbM hbm
          have hq1c := ec _ _ hq1' (by rw [List.mem_singleton]; exact hqb)
          have hfc := ec _ _ hfb (by rw [List.mem_singleton]; exact hu3b)
          have hwc := ec _ _ hwb2 (by rw [List.mem_singleton]; exact hwb)
          have eC := eb.trans ec
          walk_at "v"
          refine r_ixL (v := .int (([1, 1, 1, 1, 0].getD d 0 : Nat) : Int)) (SqL.of hq1c) ?_ ?_
          · refine atI_nat ?_
            match d, hd with
            | 0, _ => rfl
            | 1, _ => rfl
            | 2, _ => rfl
            | 3, _ => rfl
            | 4, _ => rfl
          walk_at "v"
          have hdo := fun (Q : V → Hp → Prop) (E : XK) q => do_ready (d := [1, 1, 1, 1, 0].getD d 0) (Q := Q) (E := E) Sc hwc (hin v (List.mem_of_getElem? hv)) (by omega) q
          rw [hra, hrh] at hdo
          refine hdo _ _ fun ts' sl' He ee Se => ?_
          have hbe := hbc.exx ee hbm
          have hfe := ee _ _ hfc hu3m
          have hwe := ee _ _ hwc hwm
          have Ee := exx_new eC ee frm
          walk_at "v"
          exact ⟨some v, ts', sl', rfl, Se, hbe, hfe, hwe, Ee⟩
        · rintro σ H10 ⟨o, ts, sl, rfl, Sa, hba, hfa, hwa, ea⟩
          rw [hl3] at Sa hba
          walk_at "v"
          obtain ⟨vs', g1, g2⟩ := Sa.world
          rw [hrw] at g1
          refine ⟨D, h0, vs', r.ss, ts, (fun y => y ∉ M), rfl, g1, g2, Sa.few.2, by rw [← hrh]; exact Sa.held, fun pr yr rows H11 e11 hpr hgr hyr hrt hrm hrl => ?_⟩
          have Sb := Sa.ex e11
          have hbb := hba.ex e11
          have eb := ea.trans (Exx.of e11)
          have hyr' : Paired (LSer H11) yr rows := Pimp hyr fun v s q => q.ser
          walk_at "v"
          intro q1 hq1
          have z1 := Ex.mut (Ex.refl H11) hq1 (o := .lst [V.str "host", V.str "zone", V.str "name"])
          walk_at "v"
          intro q2 hq2
          have z2 := ex_more (Ex.refl _) hq2 (o := .lst [V.str "z0", V.str "z4", V.str "a", V.str "host"])
          walk_at "v"
          intro q3 hq3
          have z3 := ex_more (Ex.refl _) hq3 (o := .lst [V.str "s0"])
          walk_at "v"
          intro q4 hq4
          have z4 := ex_more (Ex.refl _) hq4 (o := .lst [V.ref q1, V.ref q2, V.ref q3])
          have g1 := ((z2.trans z3).trans z4) _ _ upd_same
          have g2 := (z3.trans z4) _ _ upd_same
          have zz := ((z1.trans z2).trans z3).trans z4
          walk_at "v"
          have few := Sb.few
          refine ⟨b, x, r.sa, r.ka, r.ba, pr, q4, sl, yr, rows, [tl "host", tl "zone", tl "name"], [tl "z0", tl "z4", tl "a", tl "host"], c + 75, rfl, hbb.ex zz, by omega, ?_, zz _ _ hgr, Pimp hyr' fun v s q => q.ex zz, hrt, Sb.rows hrt hrm, by omega, ⟨⟨q1, q2, [V.ref q3], upd_same, g1, g2⟩, rfl, rfl, by decide +kernel, by decide +kernel⟩, fun H12 hb12 e12 => ?_⟩
          · have := Sb.idx.ex zz
            rw [hra] at this
            exact this
          walk_at "v"
          exact k _ ((eb.trans (Exx.of zz)).trans e12)
end
end
set_option Elab.async false
set_option linter.all false
set_option maxRecDepth 100000
set_option maxHeartbeats 4000000
/-! Two sides at once. -/
section
open PySem PySem.Spec PyProof.Rows L2
open Evl (Ex given)
theorem two_cases {k : Nat} (h : k < 2) : k = 0 ∨ k = 1 := by omega
theorem FullPool.bx {H H' : Hp} {b p : Addr} {c : Nat} {keys words names : Toks} (h : FullPool H p keys words names) (hb : BoxAt H b c) (e : Exx [b] H H') : FullPool H' p keys words names := by
  obtain ⟨⟨ka, wa, na, h1, h2, h3⟩, r1, r2, r3, r4, r5⟩ := h
  refine ⟨⟨ka, wa, na, e _ _ h1 ?_, h2.exx hb e, h3.exx hb e⟩, r1, r2, r3, r4, r5⟩
  intro z
  rw [List.mem_singleton] at z
  obtain ⟨_, _, _, _, q, _⟩ := hb
  rw [← z, h1] at q
  cases q
theorem FullPool.ask {H : Hp} {p : Addr} {keys words names : Toks} (h : FullPool H p keys words names) : AskPool H p keys words := by
  obtain ⟨⟨ka, wa, na, h1, h2, h3⟩, r1, r2, r3, r4, r5⟩ := h
  exact ⟨⟨ka, wa, _, h1, h2.k, h2.w⟩, r1, r2, h2.ks, h2.ws⟩
theorem paired_some {α β : Type} {R : α → β → Prop} : ∀ {xs : List α}, (∀ x ∈ xs, ∃ y, R x y) → ∃ ys, Paired R xs ys
  | [], _ => ⟨[], .nil⟩
  | x :: xs, h => by
    obtain ⟨y, hy⟩ := h x (by simp)
    obtain ⟨ys, hys⟩ := paired_some (xs := xs) fun z hz => h z (by simp [hz])
    exact ⟨y :: ys, .cons hy hys⟩
theorem paired_perm {α β : Type} {R : α → β → Prop} {zs xs : List α} (p : zs.Perm xs) : ∀ {ys : List β}, Paired R xs ys → ∃ ws, ws.Perm ys ∧ Paired R zs ws := by
  induction p with
  | nil => intro ys h; exact ⟨ys, .refl _, h⟩
  | cons x _ ih =>
    intro ys h
    cases h with
    | cons r t =>
      obtain ⟨ws, p1, q1⟩ := ih t
      exact ⟨_ :: ws, p1.cons _, .cons r q1⟩
  | swap x y l =>
    intro ys h
    cases h with
    | cons r t =>
      cases t with
      | cons r2 t2 => exact ⟨_, List.Perm.swap _ _ _, .cons r2 (.cons r t2)⟩
  | trans _ _ ih1 ih2 =>
    intro ys h
    obtain ⟨ws, p1, q1⟩ := ih2 h
    obtain ⟨us, p2, q2⟩ := ih1 q1
    exact ⟨us, p2.trans p1, q2⟩
theorem riseTx_nd {rows : List Ser} (hr : RiseTx rows) : rows.Nodup := by
  have := riseTx_nodup hr
  rw [List.nodup_iff_pairwise_ne, List.pairwise_map] at this
  rw [List.nodup_iff_pairwise_ne]
  exact this.imp fun {x y} q z => q (by rw [z])
section
variable {P : Program} {w : World} {K : PySem.W.Frag} {M : List Addr} {b : Addr} {rs : Nat → SR} {H0 HC H H' : Hp} {n C : Nat}
theorem Side.mono {r : SR} {ts : Toks} {sl : Slots} {n' : Nat} (h : Side P w K M H r ts sl n) (l : n ≤ n') : Side P w K M H r ts sl n' :=
  ⟨h.world, h.wM, h.few, h.held, h.hM, Nat.le_trans h.hn l, h.hx, h.idx, h.iM, h.mem⟩
theorem Side.nf {r : SR} {ts : Toks} {sl : Slots} (h : Side P w K M H r ts sl n) : ∀ x ∈ r.mt, NotFix H x := fun x hx => by
  have t := h.idx.nf
  simp only [SR.mt, List.mem_cons, List.not_mem_nil, or_false] at hx
  rcases hx with z | z | z | z | z
  · exact t x (by simp [z])
  · exact t x (by simp [z])
  · exact t x (by simp [z])
  · exact t x (by simp [z])
  · rw [z]
    exact nf_lst h.held
/-- two sides, at a turn -/
structure Duo (P : Program) (w : World) (K : PySem.W.Frag) (M : List Addr) (b : Addr) (rs : Nat → SR) (H0 HC H : Hp) (n C : Nat) : Prop where
  mM : M = b :: ((rs 0).mt ++ (rs 1).mt)
  dis : ∀ x ∈ (rs 0).mt, x ∉ (rs 1).mt
  fr : ∀ k, k < 2 → ∀ x ∈ (rs k).mt, H0 x = none
  bt : H0 b ≠ none
  side : ∀ k, k < 2 → ∃ ts sl, Side P w K M H (rs k) ts sl n
  box : BoxAt H b C
  e1 : Exx [b] H0 H
  eC : Exx M HC H
theorem Duo.bM (d : Duo P w K M b rs H0 HC H n C) : b ∈ M := by rw [d.mM]; simp
theorem Duo.bn (d : Duo P w K M b rs H0 HC H n C) {k : Nat} (hk : k < 2) : b ∉ (rs k).mt := fun z => d.bt (d.fr k hk b z)
theorem Duo.mt (d : Duo P w K M b rs H0 HC H n C) {k : Nat} (hk : k < 2) : ∀ x ∈ (rs k).mt, x ∈ M := fun x hx => by
  rw [d.mM]
  rcases two_cases hk with z | z
  · rw [z] at hx
    simp [hx]
  · rw [z] at hx
    simp [hx]
theorem Duo.off (d : Duo P w K M b rs H0 HC H n C) {i j : Nat} (hi : i < 2) (hj : j < 2) (n : i ≠ j) : ∀ x ∈ (rs i).mt, x ∉ (rs j).mt := fun x hx hy => by
  rcases two_cases hi with z | z <;> rcases two_cases hj with u | u
  · omega
  · rw [z] at hx
    rw [u] at hy
    exact d.dis x hx hy
  · rw [z] at hx
    rw [u] at hy
    exact d.dis x hy hx
  · omega
theorem Duo.trk (d : Duo P w K M b rs H0 HC H n C) : Trk H M := by
  obtain ⟨_, _, s0⟩ := d.side 0 (by decide)
  obtain ⟨_, _, s1⟩ := d.side 1 (by decide)
  rw [d.mM]
  exact trk_cons d.box (trk_app s0.trk_mt s1.trk_mt)
theorem Duo.exb {C' : Nat} (d : Duo P w K M b rs H0 HC H n C) (e : Exx [b] H H') (hb : BoxAt H' b C') : Duo P w K M b rs H0 HC H' n C' :=
  ⟨d.mM, d.dis, d.fr, d.bt, fun k hk => by
    obtain ⟨ts, sl, s⟩ := d.side k hk
    exact ⟨ts, sl, s.box d.box e d.bM (d.bn hk)⟩, hb, d.e1.trans e, d.eC.trans (e.mono fun a ha => by rw [List.mem_singleton] at ha; rw [ha]; exact d.bM)⟩
theorem Duo.ex (d : Duo P w K M b rs H0 HC H n C) (e : Ex H H') : Duo P w K M b rs H0 HC H' n C := d.exb (Exx.of e) (d.box.ex e)
theorem Duo.more {n' C' : Nat} (d : Duo P w K M b rs H0 HC H n C) (h1 : n ≤ n') (h2 : C ≤ C') : Duo P w K M b rs H0 HC H n' C' :=
  ⟨d.mM, d.dis, d.fr, d.bt, fun k hk => by
    obtain ⟨ts, sl, s⟩ := d.side k hk
    exact ⟨ts, sl, s.mono h1⟩, d.box.mono h2, d.e1, d.eC⟩
theorem Duo.deed {k dd : Nat} {vs : List V} {v : V} {Q : V → Hp → Prop} {E : XK} (d : Duo P w K M b rs H0 HC H n C) (hk : k < 2) (hw : H (rs k).w = some (.lst vs)) (hv : v ∈ vs) (hn : n ≤ 1000)
    (q : ∀ H', Exx M H H' → Duo P w K M b rs H0 HC H' (n + 1) C → Q (.bl true) H') : spDo P w K [.ref (rs k).a, .ref (rs k).h, .int (dd : Nat), v] H Q E := by
  obtain ⟨ts, sl, s⟩ := d.side k hk
  refine do_ready s hw hv hn fun ts' sl' H2 e s2 => ?_
  have eM := e.mono (d.mt hk)
  refine q H2 eM ⟨d.mM, d.dis, d.fr, d.bt, fun j hj => ?_, d.box.exx e (d.bn hk), exx_new d.e1 e (d.fr k hk), d.eC.trans eM⟩
  by_cases c : j = k
  · rw [c]
    exact ⟨ts', sl', s2⟩
  · obtain ⟨tj, sj, s'⟩ := d.side j hj
    exact ⟨tj, sj, (s'.exx e (d.mt hk) (d.off hk hj fun z => c z.symm) s.nf).mono (by omega)⟩
/-- rows of a side -/
structure RowsAt (H : Hp) (pr : Addr) (rows : List Ser) : Prop where
  ob : ∃ yr, H pr = some (.lst yr) ∧ Paired (LSer H) yr rows
  ri : RiseTx rows
theorem RowsAt.ex {pr : Addr} {rows : List Ser} (h : RowsAt H pr rows) (e : Ex H H') : RowsAt H' pr rows := by
  obtain ⟨⟨yr, h1, h2⟩, h3⟩ := h
  exact ⟨⟨yr, e _ _ h1, Pimp h2 fun _ _ q => q.ex e⟩, h3⟩
theorem RowsAt.bx {pr : Addr} {rows : List Ser} {c : Nat} (h : RowsAt H pr rows) (hb : BoxAt H b c) (e : Exx [b] H H') : RowsAt H' pr rows := by
  obtain ⟨⟨yr, h1, h2⟩, h3⟩ := h
  exact ⟨⟨yr, e _ _ h1 (by rw [List.mem_singleton]; exact rows_ne hb h1 h2), Pimp h2 fun _ _ q => q.bx hb e⟩, h3⟩
theorem ask_ready {a sa ka ba p pr : Addr} {sl : Slots} {rows : List Ser} {keys words names : Toks} {Q : V → Hp → Prop} {E : XK} (hi : IdxAt P w K H a sa ka ba sl) (hb : BoxAt H b C) (hc : C ≤ 100000) (hr : RowsAt H pr rows) (hp : rows.Perm (occ sl)) (hl : rows.length ≤ 40) (hq : FullPool H p keys words names)
    (q : ∀ H', BoxAt H' b (C + 160) → Exx [b] H H' → Q (.bl true) H') : spAsk P w K [.ref b, .ref a, .ref pr, .ref p] H Q E := by
  obtain ⟨⟨yr, h1, h2⟩, h3⟩ := hr
  exact ⟨b, a, sa, ka, ba, pr, p, sl, yr, rows, keys, words, C, rfl, hb, by omega, hi, h1, h2, h3, hp, hl, hq.ask, q⟩
/-- the rows that are in, of a side -/
theorem Side.inside {r : SR} {ts : Toks} {sl : Slots} {Q : V → Hp → Prop} {E : XK} (s : Side P w K M H r ts sl n) (q : ∀ pr rows H', Ex H H' → H pr = none → RowsAt H' pr rows → rows.Perm (occ sl) → rows.length ≤ 40 → rows.length ≤ r.ss.length → Q (.ref pr) H') : spInside [.ref r.w, .ref r.h] H Q E := by
  obtain ⟨vs, h1, h2⟩ := s.world
  have few := s.few
  refine ⟨r.w, r.h, vs, r.ss, ts, (fun y => y ∉ M), rfl, h1, h2, few.2, s.held, fun pr yr rows H2 e hpr hgr hyr hrt hrm hrl => ?_⟩
  exact q pr rows H2 e hpr ⟨⟨yr, hgr, Pimp hyr fun _ _ z => z.ser⟩, hrt⟩ (s.rows hrt hrm) (by omega) hrl
/-- a put of a row -/
theorem put_ready {a sa ka ba : Addr} {sl : Slots} {v : V} {s : Ser} {Q : V → Hp → Prop} {E : XK} (hi : IdxAt P w K H a sa ka ba sl) (hs : SerAt K H v s) (hl : (occ sl).length < 50) (q : ∀ sl' H', IdxAt P w K H' a sa ka ba sl' → Exx [a, sa, ka, ba] H H' → (∀ x, x ∈ occ sl' ↔ x ∈ occ sl ∨ x = s) → Q .non H') :
    spPut P w K [.ref a, v] H Q E := ⟨a, sa, ka, ba, sl, v, rfl, hi, .inl ⟨s, hs, .inr hl, q⟩⟩
end
end
set_option Elab.async false
set_option linter.all false
set_option maxRecDepth 100000
set_option maxHeartbeats 4000000
/-! Two indexes, side by side. -/
section
open PySem PySem.Spec PyProof.Rows L2
open Evl (Ex given)

theorem at2 {f : Nat → V} {k : Nat} (hk : k < 2) : atI [f 0, f 1] (k : Nat) = some (f k) := atI_nat (by
  match k, hk with
  | 0, _ => rfl
  | 1, _ => rfl)
theorem at_ix {vs : List V} {d : Nat} (h : d < vs.length) : atI vs (d : Nat) = some vs[d] := atI_nat (List.getElem?_eq_getElem h)
section
variable {P : Program} {w : World} {K : PySem.W.Frag} {mg : Str → Option Value} {base : Heap}
def spRight : Sp := fun vs H Q _ => ∃ (b : Addr), vs = [.ref b] ∧ BoxAt H b 0 ∧ ∀ H', Exx [b] H H' → Q (.bl true) H'
theorem sc_law_right : FnScope ["_law_box_here", "_law_pool_here", "_law_worlds", "_law_helds", "_law_made", "_law_k", "_law_turn", "_law_one", "_law_rows", "_law_fresh"] ["_law_box_here"] (defScope s_law_right) := ⟨rfl, rfl, rfl, by decide +kernel, rfl, by decide +kernel, by decide +kernel⟩
theorem ok_law_right (T : Txt K mg) : GoodPG P w K mg base "_law_right" 46 ["_law_box_here"] spRight := by
  have G_law_take := ok_law_take (P := P) (w := w) (base := base) T
  have G_law_pool := ok_law_pool (P := P) (w := w) (base := base) T
  have G_law_series := ok_law_series (P := P) (w := w) (base := base) T
  have G_law_mixed := ok_law_mixed (P := P) (w := w) (base := base) T
  have G_law_inside := ok_law_inside (P := P) (w := w) (base := base) T
  have G_law_do := ok_law_do (P := P) (w := w) (base := base) T
  have G_law_shown := ok_law_shown (P := P) (w := w) (base := base) T
  have G_read_series := ok_read_series (P := P) (w := w) (base := base) T
  have G_law_asked_right := ok_law_asked_right (P := P) (w := w) (base := base) T
  have G_law_refused_right := ok_law_refused_right (P := P) (w := w) (base := base) T
  have G_Index_init := ok_Index_init (P := P) (w := w) (base := base) T
  have G_Index_put := ok_Index_put (P := P) (w := w) (base := base) T
  obtain ⟨fd, F⟩ := T.f_law_right
  refine goodG_of F sc_law_right (fun vs H Q E h => ?_) (fun _ _ _ _ _ _ us hl => match us, hl with | [_], _ => rfl) (fun cdv A outer s H vs Q E hg hr h => ?_)
  · obtain ⟨b, rfl, _⟩ := h
    rfl
  · obtain ⟨b, rfl, hb, k⟩ := h
    have hgd : Calm (A.deeper (envOfC "_law_right" (defScope s_law_right) s.heap.objs.size (He.ga K "_law_right") cdv)) := hg
    refine ⟨_, (pss_cons (ps_asg (pe_tup (pa_cons (pcall G_law_pool hr T.g_law_pool (pa_cons (pv 0) pa_nil)) (pa_cons (pe_lst pa_nil) (pa_cons (pe_lst (pa_cons (pe_lst pa_nil) (pa_cons (pe_lst pa_nil) pa_nil))) (pa_cons (pe_lst (pa_cons (pmake0 T.mk_Index G_Index_init hr T.g_Index) (pa_cons (pmake0 T.mk_Index G_Index_init hr T.g_Index) pa_nil))) pa_nil))))) (pg_tup rfl (pgs_cons (pg_name (i := 1) sc_law_right.nd rfl (Or.inr rfl)) (pgs_cons (pg_name (i := 2) sc_law_right.nd rfl (Or.inl rfl)) (pgs_cons (pg_name (i := 3) sc_law_right.nd rfl (Or.inl rfl)) (pgs_cons (pg_name (i := 4) sc_law_right.nd rfl (Or.inl rfl)) pgs_nil))))))
    (pss_cons (ps_for PassesOwn.never rfl (pi_list (pe_lst (pa_cons pe_int (pa_cons pe_int pa_nil)))) (pg_name (i := 5) sc_law_right.nd rfl (Or.inl rfl))
    (pss_one (ps_expr (pe_bm PySem.F.plainAttrs_list PySem.F.slot_list_append PySem.F.type_list_append mt_append (pv 2) (pa_cons (pe_lc (own := [("_law_turn", 6)]) rfl sc_law_right.nd (pi_range1 rfl T.z_range (pa_cons (pe_op op_add pe_int (pcall G_law_take hr T.g_law_take (pa_cons (pv 0) (pa_cons pe_int pa_nil)))) pa_nil)) (blkOk_by (N := ["_law_box_here", "_law_pool_here", "_law_worlds", "_law_helds", "_law_made", "_law_k", "_law_turn", "_law_one", "_law_rows", "_law_fresh"]) (sc := defScope s_law_right) (by decide +kernel)) (fun _ _ _ _ _ => (pg_name (i := 6) sc_law_right.nd rfl (Or.inl rfl))) (fun _ _ _ _ _ => pts_nil) (fun _ _ _ _ _ => (pcall G_law_series hr T.g_law_series (pa_cons (pv 0) (pa_cons (pv 1) pa_nil))))) pa_nil)))))
    (pss_cons (ps_for PassesOwn.never rfl (pi_range1 rfl T.z_range (pa_cons (pe_op op_add pe_int (pcall G_law_take hr T.g_law_take (pa_cons (pv 0) (pa_cons pe_int pa_nil)))) pa_nil)) (pg_name (i := 6) sc_law_right.nd rfl (Or.inl rfl))
    (pss_cons (ps_for PassesOwn.never rfl (pi_list (pe_lst (pa_cons pe_int (pa_cons pe_int pa_nil)))) (pg_name (i := 5) sc_law_right.nd rfl (Or.inl rfl))
    (pss_cons (ps_set (i := 7) sc_law_right.nd rfl (Or.inl rfl) (pe_ix ix_list (pe_ix ix_list (pv 2) (pv 5) (fun _ _ => rfl)) (pcall G_law_take hr T.g_law_take (pa_cons (pv 0) (pa_cons (pe_callB call_lenN rfl T.z_len (by decide +kernel) (pa_cons (pe_ix ix_list (pv 2) (pv 5) (fun _ _ => rfl)) pa_nil)) pa_nil))) (fun _ _ => rfl)))
    (pss_one (ps_if (pt_not (pt_val (pcall G_law_do hr T.g_law_do (pa_cons (pe_ix ix_list (pv 4) (pv 5) (fun _ _ => rfl)) (pa_cons (pe_ix ix_list (pv 3) (pv 5) (fun _ _ => rfl)) (pa_cons (pe_ix ix_list (pe_lst (pa_cons pe_int (pa_cons pe_int (pa_cons pe_int pa_nil)))) (pcall G_law_take hr T.g_law_take (pa_cons (pv 0) (pa_cons pe_int pa_nil))) (fun _ _ => rfl)) (pa_cons (pv 7) pa_nil))))))) (pss_one (ps_ret pe_bl)) pss_nil))))
    (pss_one (ps_if (pt_cmpR op_eq (pe_op op_mod (pe_callTy call_int1N rfl T.z_int (by decide +kernel) (pa_cons (pv 6) pa_nil)) pe_int) pe_int (nomark _)) (pss_one (ps_for PassesOwn.never rfl (pi_list (pe_lst (pa_cons pe_int (pa_cons pe_int pa_nil)))) (pg_name (i := 5) sc_law_right.nd rfl (Or.inl rfl))
    (pss_one (ps_if (pt_not (pt_val (pcallG G_law_asked_right hr hgd T.g_law_asked_right (pa_cons (pv 0) (pa_cons (pe_ix ix_list (pv 4) (pv 5) (fun _ _ => rfl)) (pa_cons (pcall G_law_inside hr T.g_law_inside (pa_cons (pe_ix ix_list (pv 2) (pv 5) (fun _ _ => rfl)) (pa_cons (pe_ix ix_list (pv 3) (pv 5) (fun _ _ => rfl)) pa_nil))) (pa_cons (pv 1) pa_nil))))))) (pss_one (ps_ret pe_bl)) pss_nil)))) pss_nil))))
    (pss_cons (ps_for PassesOwn.never rfl (pi_list (pe_lst (pa_cons pe_int (pa_cons pe_int pa_nil)))) (pg_name (i := 5) sc_law_right.nd rfl (Or.inl rfl))
    (pss_cons (ps_par (i := 8) (j := 9) rfl sc_law_right.nd rfl rfl (by decide) rfl rfl (pa_cons (pcall G_law_inside hr T.g_law_inside (pa_cons (pe_ix ix_list (pv 2) (pv 5) (fun _ _ => rfl)) (pa_cons (pe_ix ix_list (pv 3) (pv 5) (fun _ _ => rfl)) pa_nil))) (pa_cons (pmake0 T.mk_Index G_Index_init hr T.g_Index) pa_nil)) rfl)
    (pss_cons (ps_for PassesOwn.never rfl (pi_list (pcall G_law_mixed hr T.g_law_mixed (pa_cons (pv 0) (pa_cons (pv 8) pa_nil)))) (pg_name (i := 7) sc_law_right.nd rfl (Or.inl rfl))
    (pss_one (ps_if (pt_cmpR op_notN1 (pmeth (pv 9) T.c_Index T.m_Index_put G_Index_put hr (pa_cons (pcall G_read_series hr T.g_read_series (pa_cons (pcall G_law_shown hr T.g_law_shown (pa_cons (pv 7) pa_nil)) pa_nil)) pa_nil)) pe_non (nomark _)) (pss_one (ps_ret pe_bl)) pss_nil)))
    (pss_one (ps_if (PW.pt (pw_or (pt_not (pt_val (pcallG G_law_asked_right hr hgd T.g_law_asked_right (pa_cons (pv 0) (pa_cons (pv 9) (pa_cons (pv 8) (pa_cons (pv 1) pa_nil))))))) (pw_or1 (pt_not (pt_val (pcallG G_law_asked_right hr hgd T.g_law_asked_right (pa_cons (pv 0) (pa_cons (pe_ix ix_list (pv 4) (pv 5) (fun _ _ => rfl)) (pa_cons (pv 8) (pa_cons (pv 1) pa_nil)))))))))) (pss_one (ps_ret pe_bl)) pss_nil)))))
    (pss_one (ps_ret (pcallG G_law_refused_right hr hgd T.g_law_refused_right (pa_cons (pe_ix ix_list (pv 4) pe_int (fun _ _ => rfl)) (pa_cons (pcall G_law_inside hr T.g_law_inside (pa_cons (pe_ix ix_list (pv 2) pe_int (fun _ _ => rfl)) (pa_cons (pe_ix ix_list (pv 3) pe_int (fun _ _ => rfl)) pa_nil))) pa_nil))))))))), ?_⟩
    walk_at "v"
    refine ⟨b, 0, rfl, hb, by omega, fun p keys words names H1 hb1 e1 hpool => ?_⟩
    walk_at "v"
    intro wl hwl
    have y2 := Ex.mut (Ex.refl H1) hwl (o := .lst [])
    have gwl : upd H1 wl (.lst []) wl = some (.lst []) := upd_same
    generalize upd H1 wl (.lst []) = H2 at y2 gwl ⊢
    walk_at "v"
    intro h0 hh0
    have y3 := Ex.mut (Ex.refl H2) hh0 (o := .lst [])
    have gh0 : upd H2 h0 (.lst []) h0 = some (.lst []) := upd_same
    generalize upd H2 h0 (.lst []) = H3 at y3 gh0 ⊢
    walk_at "v"
    intro h1 hh1
    have y4 := Ex.mut (Ex.refl H3) hh1 (o := .lst [])
    have gh1 : upd H3 h1 (.lst []) h1 = some (.lst []) := upd_same
    generalize upd H3 h1 (.lst []) = H4 at y4 gh1 ⊢
    walk_at "v"
    intro he hhe
    have y5 := Ex.mut (Ex.refl H4) hhe (o := .lst [.ref h0, .ref h1])
    have ghe : upd H4 he (.lst [.ref h0, .ref h1]) he = some (.lst [.ref h0, .ref h1]) := upd_same
    generalize upd H4 he (.lst [.ref h0, .ref h1]) = H5 at y5 ghe ⊢
    walk_at "v"
    intro x0 dx0 hx0 hdx0 hdn0
    refine idx_made hx0 hdx0 fun sa0 ka0 ba0 H6 y6 hi0 new0 => ?_
    walk_at "v"
    intro x1 dx1 hx1 hdx1 hdn1
    refine idx_made hx1 hdx1 fun sa1 ka1 ba1 H7 y7 hi1 new1 => ?_
    walk_at "v"
    intro md hmd
    have y8 := Ex.mut (Ex.refl H7) hmd (o := .lst [.ref x0, .ref x1])
    have gmd : upd H7 md (.lst [.ref x0, .ref x1]) md = some (.lst [.ref x0, .ref x1]) := upd_same
    generalize upd H7 md (.lst [.ref x0, .ref x1]) = H8 at y8 gmd ⊢
    walk_at "v"
    intro tq htq
    have y9 := Ex.mut (Ex.refl H8) htq (o := .tup [.ref p, .ref wl, .ref he, .ref md])
    have gtq : upd H8 tq (.tup [.ref p, .ref wl, .ref he, .ref md]) tq = some (.tup [.ref p, .ref wl, .ref he, .ref md]) := upd_same
    generalize upd H8 tq (.tup [.ref p, .ref wl, .ref he, .ref md]) = H9 at y9 gtq ⊢
    walk_at "v"
    intro f1 hf1
    have ya := Ex.mut (Ex.refl H9) hf1 (o := .lst [.int 0, .int 1])
    have gf1 : upd H9 f1 (.lst [.int 0, .int 1]) f1 = some (.lst [.int 0, .int 1]) := upd_same
    generalize upd H9 f1 (.lst [.int 0, .int 1]) = HB at ya gf1 ⊢
    -- what was made
    have z8 := y8.trans (y9.trans ya)
    have z7 := y7.trans z8
    have z5 := y6.trans z7
    have z4 := y5.trans z5
    have z3 := y4.trans z4
    have z2 := y3.trans z3
    have zB := y2.trans z2
    obtain ⟨M, hM⟩ : ∃ M, M = b :: ([x0, sa0, ka0, ba0, h0] ++ [x1, sa1, ka1, ba1, h1]) := ⟨_, rfl⟩
    have n16 : ∀ {y}, H6 y = none → H1 y = none := fun {y} q => ex_none y2 (ex_none y3 (ex_none y4 (ex_none y5 (ex_none y6 q))))
    have n15 : ∀ {y}, H5 y = none → H1 y = none := fun {y} q => ex_none y2 (ex_none y3 (ex_none y4 (ex_none y5 q)))
    have fr0 : ∀ y ∈ [x0, sa0, ka0, ba0, h0], H1 y = none := fun y hy => by
      rcases List.mem_append.mp (show y ∈ [x0, sa0, ka0, ba0] ++ [h0] from hy) with z | z
      · exact n15 (new0 y z)
      · rw [List.mem_singleton.mp z]
        exact ex_none y2 hh0
    have fr1 : ∀ y ∈ [x1, sa1, ka1, ba1, h1], H1 y = none := fun y hy => by
      rcases List.mem_append.mp (show y ∈ [x1, sa1, ka1, ba1] ++ [h1] from hy) with z | z
      · exact n16 (new1 y z)
      · rw [List.mem_singleton.mp z]
        exact ex_none y2 (ex_none y3 hh1)
    have t6 : Trk H6 [x0, sa0, ka0, ba0, h0] := fun y hy => by
      rcases List.mem_append.mp (show y ∈ [x0, sa0, ka0, ba0] ++ [h0] from hy) with z | z
      · exact hi0.trk y z
      · rw [List.mem_singleton.mp z]
        exact some_ne ((y4.trans (y5.trans y6)) _ _ gh0)
    have dis : ∀ y ∈ [x0, sa0, ka0, ba0, h0], y ∉ [x1, sa1, ka1, ba1, h1] := fun y hy hz => by
      rcases List.mem_append.mp (show y ∈ [x1, sa1, ka1, ba1] ++ [h1] from hz) with z | z
      · exact t6 y hy (new1 y z)
      · rw [List.mem_singleton] at z
        subst z
        rcases List.mem_append.mp (show y ∈ [x0, sa0, ka0, ba0] ++ [h0] from hy) with u | u
        · exact some_ne (y5 _ _ gh1) (new0 y u)
        · rw [List.mem_singleton] at u
          subst u
          exact some_ne gh0 hh1
    have bt1 : H1 b ≠ none := by
      obtain ⟨_, _, _, _, q, _⟩ := hb1
      exact some_ne q
    have hbB := hb1.ex zB
    have trkM : Trk HB M := by
      rw [hM]
      refine trk_cons hbB (trk_app (trk_ex t6 z7) fun y hy => ?_)
      rcases List.mem_append.mp (show y ∈ [x1, sa1, ka1, ba1] ++ [h1] from hy) with z | z
      · exact trk_ex hi1.trk z8 y z
      · rw [List.mem_singleton.mp z]
        exact some_ne (z4 _ _ gh1)
    have hbM : b ∈ M := by rw [hM]; simp
    have hi0B := hi0.ex z7
    have hi1B := hi1.ex z8
    have hwlM : wl ∉ M := fun z => by
      rw [hM] at z
      rcases List.mem_cons.mp z with u | u
      · rw [u] at hwl
        exact bt1 hwl
      · rcases List.mem_append.mp u with v | v
        · rcases List.mem_append.mp (show wl ∈ [x0, sa0, ka0, ba0] ++ [h0] from v) with q | q
          · exact some_ne (y3.trans (y4.trans y5) _ _ gwl) (new0 _ q)
          · rw [List.mem_singleton.mp q] at gwl
            exact some_ne gwl hh0
        · rcases List.mem_append.mp (show wl ∈ [x1, sa1, ka1, ba1] ++ [h1] from v) with q | q
          · exact some_ne (y3.trans (y4.trans (y5.trans y6)) _ _ gwl) (new1 _ q)
          · rw [List.mem_singleton.mp q] at gwl
            exact some_ne (y3 _ _ gwl) hh1
    have hwlB := z2 _ _ gwl
    have zz9 := y2.trans (y3.trans (y4.trans (y5.trans (y6.trans (y7.trans (y8.trans y9))))))
    have f1n : f1 ∉ [b, wl] := fun z => by
      simp only [List.mem_cons, List.not_mem_nil, or_false] at z
      rcases z with u | u
      · rw [u] at hf1
        exact bt1 (ex_none zz9 hf1)
      · rw [u] at hf1
        exact some_ne gwl (ex_none (y3.trans (y4.trans (y5.trans (y6.trans (y7.trans (y8.trans y9)))))) hf1)
    have eH : ∀ H', Exx [b, wl] HB H' → Exx [b] H1 H' := fun H' e a o h n => e a o (zB _ _ h) fun z => by
      simp only [List.mem_cons, List.not_mem_nil, or_false] at z
      rcases z with u | u
      · exact n (by rw [u]; simp)
      · rw [u, hwl] at h
        cases h
    have trk7 : Trk H7 M := by
      rw [hM]
      refine trk_cons (hb1.ex (y2.trans (y3.trans (y4.trans (y5.trans (y6.trans y7)))))) (trk_app (trk_ex t6 y7) fun y hy => ?_)
      rcases List.mem_append.mp (show y ∈ [x1, sa1, ka1, ba1] ++ [h1] from hy) with z | z
      · exact hi1.trk y z
      · rw [List.mem_singleton.mp z]
        exact some_ne ((y5.trans (y6.trans y7)) _ _ gh1)
    have hmdM : md ∉ M := fun z => trk7 md z hmd
    have hmdw : md ≠ wl := fun z => by
      rw [z] at hmd
      exact some_ne ((y3.trans (y4.trans (y5.trans (y6.trans y7)))) _ _ gwl) hmd
    have hheM : he ∉ M := fun z => by
      rw [hM] at z
      rcases List.mem_cons.mp z with u | u
      · rw [u] at hhe
        exact bt1 (ex_none y2 (ex_none y3 (ex_none y4 hhe)))
      · rcases List.mem_append.mp u with v | v
        · rcases List.mem_append.mp (show he ∈ [x0, sa0, ka0, ba0] ++ [h0] from v) with q | q
          · exact some_ne ghe (new0 _ q)
          · rw [List.mem_singleton.mp q] at hhe
            exact some_ne (y4 _ _ gh0) hhe
        · rcases List.mem_append.mp (show he ∈ [x1, sa1, ka1, ba1] ++ [h1] from v) with q | q
          · exact some_ne (y6 _ _ ghe) (new1 _ q)
          · rw [List.mem_singleton.mp q] at hhe
            exact some_ne gh1 hhe
    have hhew : he ≠ wl := fun z => by
      rw [z] at hhe
      exact some_ne ((y3.trans y4) _ _ gwl) hhe
    have hh0x : h0 ∉ [x0, sa0, ka0, ba0] := fun z => some_ne ((y4.trans y5) _ _ gh0) (new0 _ z)
    have hh1x : h1 ∉ [x1, sa1, ka1, ba1] := fun z => some_ne ((y5.trans y6) _ _ gh1) (new1 _ z)
    have hpB := hpool.bx hb1 (Exx.of zB)
    walk_at "v"
    refine for_it (walk_list (xs := [V.int 0, V.int 1])) (fun i σ H' => ∃ o, σ = [some (.ref b), some (.ref p), some (.ref wl), some (.ref he), some (.ref md), o, none, none, none, none] ∧ ∃ ws : List (Addr × List Ser), ws.length = i ∧ H' wl = some (.lst (ws.map fun q => V.ref q.1)) ∧
        (∀ q ∈ ws, q.1 ∉ wl :: M ∧ 2 ≤ q.2.length ∧ q.2.length ≤ 7 ∧ ∃ vs, H' q.1 = some (.lst vs) ∧ Paired (LSerN (fun y => y ∉ wl :: M) H') vs q.2) ∧ BoxAt H' b (12 + 50 * i) ∧ Exx [b, wl] HB H')
      ⟨_, rfl, [], rfl, hwlB, by simp, hbB, Exx.refl _ _⟩ (fun i σ H' _ q => SqL.of (q.choose_spec.2.choose_spec.2.2.2.2 _ _ gf1 f1n)) ?_ ?_
    · rintro i v σ Ha Hb hi ⟨o, rfl, ws, hwsl, hwla, hws, hba, ea⟩ ⟨rfl, hv⟩
      walk_at "v"
      refine ⟨b, 6, 12 + 50 * i, rfl, by omega, by omega, hba, by simp at hi; omega, fun d Hc hd hbc ec => ?_⟩
      walk_at "v"
      have trkb : Trk Hb [b, wl] := fun y hy => by
        simp only [List.mem_cons, List.not_mem_nil, or_false] at hy
        rcases hy with z | z
        · obtain ⟨_, _, _, _, q, _⟩ := hba
          rw [z]
          exact some_ne q
        · rw [z]
          exact some_ne hwla
      have trkA : Trk Hb (wl :: M) := fun y hy => by
        rcases List.mem_cons.mp hy with z | z
        · rw [z]
          exact some_ne hwla
        · exact trk_exx trkM ea trkb y z
      have hwln : wl ≠ b := fun z => hwlM (by rw [z]; exact hbM)
      have hwlc := ec _ _ hwla (by rw [List.mem_singleton]; exact hwln)
      have trkC : Trk Hc (wl :: M) := trk_exx trkA ec fun y hy => by
        obtain ⟨_, _, _, _, q, _⟩ := hbc
        rw [List.mem_singleton.mp hy]
        exact some_ne q
      have eH1 := eH Hb ea
      have hpc := hpool.bx hb1 (eH1.trans ec)
      have ecM : Exx [b, wl] HB Hc := ea.trans (ec.mono fun a ha => by rw [List.mem_singleton] at ha; rw [ha]; simp)
      have hn2 : (2 + (d : Int)).toNat = 2 + d := by omega
      rw [hn2]
      intro D hD
      have nbD := box_free hbc hD
      have hDw : D ∉ wl :: M := fun z => trkC D z hD
      have bDM : ∀ a ∈ [b], a ∈ D :: wl :: M := fun a ha => by
        rw [List.mem_singleton] at ha
        rw [ha]
        exact List.mem_cons_of_mem _ (List.mem_cons_of_mem _ hbM)
      have DDM : ∀ a ∈ [D], a ∈ D :: wl :: M := fun a ha => by
        rw [List.mem_singleton] at ha
        rw [ha]
        exact List.mem_cons_self
      have hi2 : i < 2 := hi
      refine lc_gen (walk_range (lo := 0) (n := 2 + d)) (fun j H' => ∃ vs ss, H' D = some (.lst vs) ∧ Paired (LSerN (fun y => y ∉ D :: wl :: M) H') vs ss ∧ vs.length = j ∧ BoxAt H' b (12 + 50 * i + 1 + 7 * j) ∧ Exx [b] Hc H')
        ⟨[], [], upd_same, .nil, rfl, hbc.ex (Ex.new hD), Exx.of (Ex.new hD)⟩ (fun _ _ _ _ => trivial) ?_ ?_
      · rintro j x Hd Hd' hj ⟨vs, ss, hDl, hpr, hvl, hbd, ed⟩ ⟨rfl, rfl⟩
        walk_at "v"
        refine ⟨rfl, yes_ ?_⟩
        walk_at "v"
        refine ⟨b, p, keys, words, names, 12 + 50 * i + 1 + 7 * j, rfl, hbd, by omega, hpc.bx hbc ed, fun v s He hbe ee hls => ?_⟩
        have trkD : Trk Hd' (D :: wl :: M) := fun y hy => by
          rcases List.mem_cons.mp hy with z | z
          · rw [z]
            exact some_ne hDl
          · refine trk_exx trkC ed (fun y hy => ?_) y z
            obtain ⟨_, _, _, _, q, _⟩ := hbd
            rw [List.mem_singleton.mp hy]
            exact some_ne q
        have hDe := ee _ _ hDl (by simpa using nbD.symm)
        have wD : Exx [D] He (upd He D (.lst (vs ++ [v]))) := (Exx.refl _ _).wr (by simp)
        refine ⟨vs, hDe, Evl.sz_lt (by omega), vs ++ [v], ss ++ [s], upd_same, ?_, by simp [hvl], (hbe.upd_ne nbD).mono (by omega), (ed.trans ee).add hD⟩
        refine Papp (Pimp hpr fun v s q => (q.exx ee bDM).exx wD DDM) (.cons ((hls.imp (N' := fun y => y ∉ D :: wl :: M) fun a o _ hn z => trkD a z hn).exx wD DDM) .nil)
      · rintro Hd ⟨vs, ss, hDl, hpr, hvl, hbd, ed⟩
        walk_at "v"
        have hwld := ed _ _ hwlc (by rw [List.mem_singleton]; exact hwln)
        refine r_append hwld (by rw [List.length_map]; omega) ?_
        have wW : Exx [wl] Hd (upd Hd wl (.lst (ws.map (fun q => V.ref q.1) ++ [V.ref D]))) := (Exx.refl _ _).wr (by simp)
        have bWM : ∀ a ∈ [b], a ∈ wl :: M := fun a ha => by
          rw [List.mem_singleton] at ha
          rw [ha]
          exact List.mem_cons_of_mem _ hbM
        have wWM : ∀ a ∈ [wl], a ∈ wl :: M := fun a ha => by
          rw [List.mem_singleton] at ha
          rw [ha]
          exact List.mem_cons_self
        have hssl := Plen hpr
        refine ⟨_, rfl, ws ++ [(D, ss)], by simp [hwsl], ?_, fun q hq => ?_, ?_, ?_⟩
        · rw [upd_same, List.map_append]
          rfl
        · rcases List.mem_append.mp hq with z | z
          · obtain ⟨m1, m2, m3, vs', m4, m5⟩ := hws q z
            have nb : q.1 ∉ [b] := fun u => m1 (bWM _ u)
            have nw : q.1 ∉ [wl] := fun u => m1 (wWM _ u)
            exact ⟨m1, m2, m3, vs', wW _ _ (ed _ _ (ec _ _ m4 nb) nb) nw, Pimp m5 fun v s r => ((r.exx ec bWM).exx ed bWM).exx wW wWM⟩
          · rw [List.mem_singleton] at z
            subst z
            refine ⟨hDw, by show 2 ≤ ss.length; omega, by show ss.length ≤ 7; omega, vs, wW _ _ hDl fun u => hDw (wWM _ u), Pimp hpr fun v s r => ?_⟩
            exact (r.imp (N' := fun y => y ∉ wl :: M) fun a o _ hn z => hn (List.mem_cons_of_mem _ z)).exx wW wWM
        · exact (hbd.upd_ne hwln.symm).mono (by omega)
        · exact (ecM.trans (ed.mono fun a ha => by rw [List.mem_singleton] at ha; rw [ha]; simp)).wr (by simp)
    · rintro σ Hc ⟨o, rfl, ws, hwsl, hwla, hws, hba, ea⟩
      walk_at "v"
      obtain ⟨q0, q1, hwq⟩ : ∃ q0 q1, ws = [q0, q1] := by
        match ws, hwsl with
        | [u, v], _ => exact ⟨u, v, rfl⟩
      rw [hwq] at hwla hws
      obtain ⟨rs, hrs0, hrs1⟩ : ∃ rs : Nat → SR, rs 0 = ⟨q0.1, h0, x0, sa0, ka0, ba0, q0.2⟩ ∧ rs 1 = ⟨q1.1, h1, x1, sa1, ka1, ba1, q1.2⟩ := ⟨fun k => if k = 0 then ⟨q0.1, h0, x0, sa0, ka0, ba0, q0.2⟩ else ⟨q1.1, h1, x1, sa1, ka1, ba1, q1.2⟩, rfl, rfl⟩
      have off2 : ∀ y ∈ M, y ≠ b → y ∉ [b, wl] := fun y hy hn z => by
        simp only [List.mem_cons, List.not_mem_nil, or_false] at z
        rcases z with u | u
        · exact hn u
        · rw [u] at hy
          exact hwlM hy
      have mM0 : ∀ y ∈ [x0, sa0, ka0, ba0, h0], y ∈ M := fun y hy => by
        rw [hM]
        exact List.mem_cons_of_mem _ (List.mem_append.mpr (.inl hy))
      have mM1 : ∀ y ∈ [x1, sa1, ka1, ba1, h1], y ∈ M := fun y hy => by
        rw [hM]
        exact List.mem_cons_of_mem _ (List.mem_append.mpr (.inr hy))
      have nfS : ∀ y ∈ [b, wl], NotFix HB y := fun y hy => by
        simp only [List.mem_cons, List.not_mem_nil, or_false] at hy
        rcases hy with u | u
        · rw [u]
          exact hbB.nf
        · rw [u]
          exact nf_lst hwlB
      have offS : ∀ (I : List Addr), (∀ y ∈ I, y ∈ M) → (∀ y ∈ I, H1 y = none) → ∀ y ∈ [b, wl], y ∉ I := fun I h1 h2 y hy z => by
        simp only [List.mem_cons, List.not_mem_nil, or_false] at hy
        rcases hy with u | u
        · rw [u] at z
          exact bt1 (h2 _ z)
        · rw [u] at z
          exact hwlM (h1 _ z)
      have sub4 : ∀ {a1 a2 a3 a4 a5 : Addr}, ∀ y ∈ [a1, a2, a3, a4], y ∈ [a1, a2, a3, a4, a5] := fun y hy => (List.mem_append.mpr (.inl hy) : y ∈ _ ++ [_])
      have duo : Duo P w K M b rs H1 Hc Hc 0 112 := by
        refine ⟨by rw [hM, hrs0, hrs1]; rfl, by rw [hrs0, hrs1]; exact dis, fun k hk => ?_, bt1, fun k hk => ?_, hba, eH _ ea, Exx.refl _ _⟩
        · rcases two_cases hk with z | z
          · rw [z, hrs0]
            exact fr0
          · rw [z, hrs1]
            exact fr1
        · rcases two_cases hk with z | z
          · rw [z, hrs0]
            obtain ⟨m1, m2, m3, vs, m4, m5⟩ := hws q0 (by simp)
            refine ⟨[], [], ⟨vs, m4, Pimp m5 fun v s r => r.imp fun a o _ hn z => hn (List.mem_cons_of_mem _ z)⟩, fun z => m1 (List.mem_cons_of_mem _ z), ⟨by show 1 ≤ q0.2.length; omega, by show q0.2.length ≤ 40; omega⟩, ea _ _ (z3 _ _ gh0) (off2 _ (mM0 _ (by simp)) fun z => ?_), mM0 _ (by simp), Nat.le_refl _, hh0x, ?_, fun y hy => mM0 y (sub4 y hy), fun y => by simp [occ]⟩
            · exact bt1 (by rw [← show h0 = b from z]; exact fr0 h0 (by simp))
            · exact hi0B.exx ea (offS _ (fun y hy => mM0 y (sub4 y hy)) fun y hy => fr0 y (sub4 y hy)) nfS
          · rw [z, hrs1]
            obtain ⟨m1, m2, m3, vs, m4, m5⟩ := hws q1 (by simp)
            refine ⟨[], [], ⟨vs, m4, Pimp m5 fun v s r => r.imp fun a o _ hn z => hn (List.mem_cons_of_mem _ z)⟩, fun z => m1 (List.mem_cons_of_mem _ z), ⟨by show 1 ≤ q1.2.length; omega, by show q1.2.length ≤ 40; omega⟩, ea _ _ (z4 _ _ gh1) (off2 _ (mM1 _ (by simp)) fun z => ?_), mM1 _ (by simp), Nat.le_refl _, hh1x, ?_, fun y hy => mM1 y (sub4 y hy), fun y => by simp [occ]⟩
            · exact bt1 (by rw [← show h1 = b from z]; exact fr1 h1 (by simp))
            · exact hi1B.exx ea (offS _ (fun y hy => mM1 y (sub4 y hy)) fun y hy => fr1 y (sub4 y hy)) nfS
      have gW : Hc wl = some (.lst [.ref (rs 0).w, .ref (rs 1).w]) := by
        rw [hrs0, hrs1]
        exact hwla
      have off3 : ∀ y, y ∉ M → y ≠ wl → y ∉ [b, wl] := fun y hy hn z => by
        simp only [List.mem_cons, List.not_mem_nil, or_false] at z
        rcases z with u | u
        · rw [u] at hy
          exact hy hbM
        · exact hn u
      have gH : Hc he = some (.lst [.ref (rs 0).h, .ref (rs 1).h]) := by
        rw [hrs0, hrs1]
        exact ea _ _ (z5 _ _ ghe) (off3 _ hheM hhew)
      have gD : Hc md = some (.lst [.ref (rs 0).a, .ref (rs 1).a]) := by
        rw [hrs0, hrs1]
        exact ea _ _ ((y9.trans ya) _ _ gmd) (off3 _ hmdM hmdw)
      have few7 : ∀ k, k < 2 → (rs k).ss.length ≤ 7 := fun k hk => by
        rcases two_cases hk with z | z
        · rw [z, hrs0]
          exact (hws q0 (by simp)).2.2.1
        · rw [z, hrs1]
          exact (hws q1 (by simp)).2.2.1
      clear hws hwla hwq hi0B hi1B hi0 hi1 hrs0 hrs1
      refine ⟨b, 7, 112, rfl, by omega, by omega, duo.box, by omega, fun dn Hd0 hdn hbd0 ed0 => ?_⟩
      have duo0 := duo.exb ed0 hbd0
      walk_at "v"
      have hn4 : (4 + (dn : Int)).toNat = 4 + dn := by omega
      rw [hn4]
      refine for_it (walk_range (lo := 0) (n := 4 + dn)) (fun i σ H' => ∃ o5 o6 o7, σ = [some (.ref b), some (.ref p), some (.ref wl), some (.ref he), some (.ref md), o5, o6, o7, none, none] ∧ Duo P w K M b rs H1 Hc H' (2 * i) (200 + 400 * i))
        ⟨_, _, _, rfl, duo0.more (Nat.zero_le _) (by omega)⟩ (fun _ _ _ _ _ => trivial) ?_ ?_
      · rintro i x σ Ha Hb hi ⟨o5, o6, o7, rfl, da⟩ ⟨rfl, rfl⟩
        walk_at "v"
        intro f2 hf2
        have f2M : f2 ∉ M := fun z => da.trk f2 z hf2
        have u1 := Ex.mut (Ex.refl Hb) hf2 (o := .lst [.int 0, .int 1])
        have gf2 : upd Hb f2 (.lst [.int 0, .int 1]) f2 = some (.lst [.int 0, .int 1]) := upd_same
        generalize upd Hb f2 (.lst [.int 0, .int 1]) = Hf at u1 gf2 ⊢
        have df := da.ex u1
        walk_at "v"
        refine for_it (walk_list (xs := [V.int 0, V.int 1])) (fun j σ H' => ∃ o5 o7, σ = [some (.ref b), some (.ref p), some (.ref wl), some (.ref he), some (.ref md), o5, some (.int (0 + (i : Int))), o7, none, none] ∧ Duo P w K M b rs H1 Hc H' (2 * i + j) (200 + 400 * i + 2 * j) ∧ Exx M Hf H')
          ⟨_, _, rfl, df, Exx.refl _ _⟩ (fun _ _ _ _ q => SqL.of (q.choose_spec.choose_spec.2.2 _ _ gf2 f2M)) ?_ ?_
        · rintro j v σ Hg Hh hj ⟨o5, o7, rfl, dg, eg⟩ ⟨rfl, hv⟩
          obtain ⟨kk, hk, rfl⟩ : ∃ kk : Nat, kk < 2 ∧ v = .int (kk : Nat) := by
            match j, hj, hv with
            | 0, _, hv => exact ⟨0, by decide, (Option.some.inj hv).symm⟩
            | 1, _, hv => exact ⟨1, by decide, (Option.some.inj hv).symm⟩
          have hj2 : j < 2 := hj
          have hi11 : i < 11 := by omega
          obtain ⟨ts, sl, sd⟩ := dg.side kk hk
          obtain ⟨vs, hw, hvp⟩ := sd.world
          have fw := sd.few
          have hvl := Plen hvp
          have gWh := dg.eC _ _ gW hwlM
          walk_at "v"
          refine r_ixL (v := .ref (rs kk).w) (SqL.of gWh) (at2 (f := fun k => V.ref (rs k).w) hk) ?_
          walk_at "v"
          refine r_ixL (v := .ref (rs kk).w) (SqL.of gWh) (at2 (f := fun k => V.ref (rs k).w) hk) ?_
          walk_at "v"
          refine ⟨b, vs.length, 200 + 400 * i + 2 * j, rfl, by omega, by omega, dg.box, by omega, fun d Hi hd hbi ei => ?_⟩
          have di := dg.exb ei hbi
          have hwi : Hi (rs kk).w = some (.lst vs) := ei _ _ hw (by rw [List.mem_singleton]; intro z; exact sd.wM (by rw [z]; exact dg.bM))
          walk_at "v"
          refine r_ixL (v := vs[d]) (SqL.of hwi) (at_ix hd) ?_
          have gDi := di.eC _ _ gD hmdM
          have gHi := di.eC _ _ gH hheM
          walk_at "v"
          refine r_ixL (v := .ref (rs kk).a) (SqL.of gDi) (at2 (f := fun k => V.ref (rs k).a) hk) ?_
          walk_at "v"
          refine r_ixL (v := .ref (rs kk).h) (SqL.of gHi) (at2 (f := fun k => V.ref (rs k).h) hk) ?_
          walk_at "v"
          intro f3 hf3
          have f3M : f3 ∉ M := fun z => di.trk f3 z hf3
          have u2 := Ex.mut (Ex.refl Hi) hf3 (o := .lst [.int 0, .int 0, .int 1])
          have gf3 : upd Hi f3 (.lst [.int 0, .int 0, .int 1]) f3 = some (.lst [.int 0, .int 0, .int 1]) := upd_same
          generalize upd Hi f3 (.lst [.int 0, .int 0, .int 1]) = Hj at u2 gf3 ⊢
          have dj := di.ex u2
          walk_at "v"
          refine ⟨b, 3, 200 + 400 * i + 2 * j + 1, rfl, by omega, by omega, dj.box, by omega, fun d3 Hk hd3 hbk ek => ?_⟩
          have dk := dj.exb ek hbk
          have gf3k := ek _ _ gf3 (by rw [List.mem_singleton]; intro z; exact f3M (by rw [z]; exact dg.bM))
          have hwk := ek _ _ (u2 _ _ hwi) (by rw [List.mem_singleton]; intro z; exact sd.wM (by rw [z]; exact dg.bM))
          have bs : ∀ a ∈ [b], a ∈ M := fun a ha => by
            rw [List.mem_singleton] at ha
            rw [ha]
            exact dg.bM
          walk_at "v"
          refine r_ixL (v := .int (([0, 0, 1].getD d3 0 : Nat) : Int)) (SqL.of gf3k) ?_ ?_
          · refine atI_nat ?_
            match d3, hd3 with
            | 0, _ => rfl
            | 1, _ => rfl
            | 2, _ => rfl
          walk_at "v"
          refine dk.deed hk hwk (List.getElem_mem hd) (by omega) fun Hl el dl => ?_
          walk_at "v"
          exact ⟨_, _, rfl, dl, (eg.trans (ei.mono bs)).trans ((Exx.of u2).trans ((ek.mono bs).trans el))⟩
        · rintro σ Hg ⟨o5, o7, rfl, dg, eg⟩
          walk_at "v"
          have hi11 : i < 11 := by omega
          have dg2 : Duo P w K M b rs H1 Hc Hg (2 * i + 2) (200 + 400 * i + 4) := dg
          refine ite2 (fun _ => ?_) (fun _ => ?_)
          · walk_at "v"
            intro f4 hf4
            have f4M : f4 ∉ M := fun z => dg2.trk f4 z hf4
            have u1 := Ex.mut (Ex.refl Hg) hf4 (o := .lst [.int 1, .int 0])
            have gf4 : upd Hg f4 (.lst [.int 1, .int 0]) f4 = some (.lst [.int 1, .int 0]) := upd_same
            generalize upd Hg f4 (.lst [.int 1, .int 0]) = Hi at u1 gf4 ⊢
            have di := dg2.ex u1
            walk_at "v"
            refine for_it (walk_list (xs := [V.int 1, V.int 0])) (fun j σ H' => ∃ o5 o7, σ = [some (.ref b), some (.ref p), some (.ref wl), some (.ref he), some (.ref md), o5, some (.int (0 + (i : Int))), o7, none, none] ∧ Duo P w K M b rs H1 Hc H' (2 * i + 2) (200 + 400 * i + 4 + 160 * j) ∧ Exx M Hi H')
              ⟨_, _, rfl, di, Exx.refl _ _⟩ (fun _ _ _ _ q => SqL.of (q.choose_spec.choose_spec.2.2 _ _ gf4 f4M)) ?_ ?_
            · rintro j v σ Hj Hk hj ⟨o5, o7, rfl, dj, ej⟩ ⟨rfl, hv⟩
              obtain ⟨kk, hk, rfl⟩ : ∃ kk : Nat, kk < 2 ∧ v = .int (kk : Nat) := by
                match j, hj, hv with
                | 0, _, hv => exact ⟨1, by decide, (Option.some.inj hv).symm⟩
                | 1, _, hv => exact ⟨0, by decide, (Option.some.inj hv).symm⟩
              have hj2 : j < 2 := hj
              obtain ⟨ts, sl, sd⟩ := dj.side kk hk
              have gWj := dj.eC _ _ gW hwlM
              have gDj := dj.eC _ _ gD hmdM
              have gHj := dj.eC _ _ gH hheM
              walk_at "v"
              refine r_ixL (v := .ref (rs kk).a) (SqL.of gDj) (at2 (f := fun k => V.ref (rs k).a) hk) ?_
              walk_at "v"
              refine r_ixL (v := .ref (rs kk).w) (SqL.of gWj) (at2 (f := fun k => V.ref (rs k).w) hk) ?_
              walk_at "v"
              refine r_ixL (v := .ref (rs kk).h) (SqL.of gHj) (at2 (f := fun k => V.ref (rs k).h) hk) ?_
              walk_at "v"
              refine sd.inside fun pr rows Hl el hpr hra hrp hrl _ => ?_
              have dl := dj.ex el
              walk_at "v"
              refine ask_ready (sd.idx.ex el) dl.box (by omega) hra hrp hrl (hpool.bx hb1 dl.e1) fun Hm hbm em => ?_
              have dm := dl.exb em hbm
              have bs : ∀ a ∈ [b], a ∈ M := fun a ha => by
                rw [List.mem_singleton] at ha
                rw [ha]
                exact dg.bM
              walk_at "v"
              exact ⟨_, _, rfl, dm, (ej.trans (Exx.of el)).trans (em.mono bs)⟩
            · rintro σ Hj ⟨o5, o7, rfl, dj, ej⟩
              have dj2 : Duo P w K M b rs H1 Hc Hj (2 * i + 2) (200 + 400 * i + 4 + 320) := dj
              exact ⟨_, _, _, rfl, dj2.more (by omega) (by omega)⟩
          · exact ⟨_, _, _, rfl, dg2.more (by omega) (by omega)⟩
      · rintro σ Hd ⟨o5, o6, o7, rfl, dd⟩
        walk_at "v"
        intro f5 hf5
        have dd2 : Duo P w K M b rs H1 Hc Hd 20 4400 := dd.more (by omega) (by omega)
        have f5M : f5 ∉ M := fun z => dd2.trk f5 z hf5
        have u1 := Ex.mut (Ex.refl Hd) hf5 (o := .lst [.int 0, .int 1])
        have gf5 : upd Hd f5 (.lst [.int 0, .int 1]) f5 = some (.lst [.int 0, .int 1]) := upd_same
        generalize upd Hd f5 (.lst [.int 0, .int 1]) = Hi at u1 gf5 ⊢
        have di := dd2.ex u1
        have bs : ∀ a ∈ [b], a ∈ M := fun a ha => by
          rw [List.mem_singleton] at ha
          rw [ha]
          exact di.bM
        walk_at "v"
        refine for_it (walk_list (xs := [V.int 0, V.int 1])) (fun j σ H' => ∃ o5 o7 o8 o9, σ = [some (.ref b), some (.ref p), some (.ref wl), some (.ref he), some (.ref md), o5, o6, o7, o8, o9] ∧ Duo P w K M b rs H1 Hc H' 20 (4400 + 400 * j) ∧ Exx M Hi H')
          ⟨_, _, _, _, rfl, di, Exx.refl _ _⟩ (fun _ _ _ _ q => SqL.of (q.choose_spec.choose_spec.choose_spec.choose_spec.2.2 _ _ gf5 f5M)) ?_ ?_
        · rintro j v σ Hj Hk hj ⟨o5, o7, o8, o9, rfl, dj, ej⟩ ⟨rfl, hv⟩
          obtain ⟨kk, hk, rfl⟩ : ∃ kk : Nat, kk < 2 ∧ v = .int (kk : Nat) := by
            match j, hj, hv with
            | 0, _, hv => exact ⟨0, by decide, (Option.some.inj hv).symm⟩
            | 1, _, hv => exact ⟨1, by decide, (Option.some.inj hv).symm⟩
          have hj2 : j < 2 := hj
          obtain ⟨ts, sl, sd⟩ := dj.side kk hk
          have gWj := dj.eC _ _ gW hwlM
          have gHj := dj.eC _ _ gH hheM
          walk_at "v"
          refine r_ixL (v := .ref (rs kk).w) (SqL.of gWj) (at2 (f := fun k => V.ref (rs k).w) hk) ?_
          walk_at "v"
          refine r_ixL (v := .ref (rs kk).h) (SqL.of gHj) (at2 (f := fun k => V.ref (rs k).h) hk) ?_
          walk_at "v"
          refine sd.inside fun pr rows Hl el hpr hra hrp hrl hrl7 => ?_
          have dl := dj.ex el
          walk_at "v"
          intro x dx hx hdx hdn
          refine idx_made hx hdx fun sa ka ba Hm em hi new => ?_
          walk_at "v"
          obtain ⟨⟨yr, hyr, hyp⟩, hri⟩ := id hra
          have hyl := Plen hyp
          have f7 := few7 kk hk
          have dm := dl.ex em
          refine ⟨b, pr, yr, 4400 + 400 * j, rfl, dm.box, by omega, em _ _ hyr, by omega, fun f zs Hn perm hf hfz hbn en => ?_⟩
          have dn := dm.exb en hbn
          obtain ⟨ws, wp, hwp⟩ := paired_perm perm hyp
          have hfx : f ∉ [x, sa, ka, ba] := fun z => hi.trk f z hf
          have hbx : b ∉ [x, sa, ka, ba] := fun z => by
            have := new b z
            obtain ⟨_, _, _, _, q, _⟩ := dl.box
            rw [q] at this
            cases this
          have hwl7 : ws.length ≤ 7 := by rw [wp.length_eq]; omega
          have hyl7 : yr.length ≤ 7 := by omega
          have hzl := Plen hwp
          walk_at "v"
          refine for_it (walk_list (xs := zs)) (fun m σ H' => ∃ o7, σ = [some (.ref b), some (.ref p), some (.ref wl), some (.ref he), some (.ref md), some (.int (kk : Nat)), o6, o7, some (.ref pr), some (.ref x)] ∧ BoxAt H' b (4400 + 400 * j + 7) ∧ Exx [b] Hl H' ∧ H' f = some (.lst zs) ∧ ∃ sl', IdxAt P w K H' x sa ka ba sl' ∧ ∀ s, s ∈ occ sl' ↔ s ∈ ws.take m)
            ⟨_, rfl, hbn.mono (by omega), (Exx.of em).trans en, hfz, [], hi.bx dm.box en, by simp [occ]⟩ (fun _ _ _ _ q => SqL.of q.choose_spec.2.2.2.1) ?_ ?_
          · rintro m v σ Ho Hp hm ⟨o7, rfl, hbo, eo, hfo, sl', hio, hoc⟩ ⟨rfl, hv⟩
            obtain ⟨s, hs, hvs⟩ := Pat hwp hv
            have hvo := hvs.bx dl.box eo
            have hlt : (occ sl').length < 50 := by
              have := List.Nodup.length_le_of_subset hio.nd (l₂ := ws) fun y hy => List.mem_of_mem_take ((hoc y).mp hy)
              omega
            walk_at "v"
            refine ⟨hio.is, ?_⟩
            walk_at "v"
            refine ⟨v, s, rfl, hvo, fun Hq eq => ?_⟩
            walk_at "v"
            refine ⟨s, rfl, hvo.ok, fun v2 Hr er hv2 => ?_⟩
            have e2 := eq.trans er
            walk_at "v"
            refine put_ready (hio.ex e2) hv2 hlt fun sl2 Ht hit et hot => ?_
            have eTot := exx_new (eo.trans (Exx.of e2)) et new
            have hbt := (hbo.ex e2).exx et hbx
            have hft := et _ _ (e2 _ _ hfo) hfx
            walk_at "v"
            refine ⟨_, rfl, hbt, eTot, hft, sl2, hit, fun y => ?_⟩
            rw [hot, hoc, List.take_succ, hs]
            simp
          · rintro σ Ho ⟨o7, rfl, hbo, eo, hfo, sl', hio, hoc⟩
            rw [hzl, List.take_length] at hoc
            have hpp : rows.Perm (occ sl') := (List.perm_ext_iff_of_nodup (riseTx_nd hri) hio.nd).mpr fun y => by rw [hoc, wp.mem_iff]
            have dO := dl.exb eo hbo
            walk_at "v"
            refine ask_ready hio hbo (by omega) (hra.bx dl.box eo) hpp hrl (hpool.bx hb1 dO.e1) fun Hq hbq eq => ?_
            have dq := dl.exb (eo.trans eq) hbq
            have sq := (sd.ex el).box dl.box (eo.trans eq) dl.bM (dl.bn hk)
            have gDq := dq.eC _ _ gD hmdM
            walk_at "v"
            refine r_ixL (v := .ref (rs kk).a) (SqL.of gDq) (at2 (f := fun k => V.ref (rs k).a) hk) ?_
            walk_at "v"
            refine ask_ready sq.idx hbq (by omega) (hra.bx dl.box (eo.trans eq)) hrp hrl (hpool.bx hb1 dq.e1) fun Hr hbr er => ?_
            have dr := dq.exb er hbr
            walk_at "v"
            exact ⟨_, _, _, _, rfl, dr.more (Nat.le_refl _) (by omega), (ej.trans (Exx.of el)).trans (((eo.trans eq).trans er).mono bs)⟩
        · rintro σ Hj ⟨o5, o7, o8, o9, rfl, dj, ej⟩
          obtain ⟨ts, sl, sd⟩ := dj.side 0 (by decide)
          have gWj := dj.eC _ _ gW hwlM
          have gHj := dj.eC _ _ gH hheM
          have gDj := dj.eC _ _ gD hmdM
          walk_at "v"
          refine sd.inside fun pr rows Hl el hpr hra hrp hrl hrl7 => ?_
          have dl := dj.ex el
          obtain ⟨⟨yr, hyr, hyp⟩, hri⟩ := id hra
          walk_at "v"
          refine ⟨(rs 0).a, (rs 0).sa, (rs 0).ka, (rs 0).ba, pr, sl, yr, rows, rfl, sd.idx.ex el, hyr, hyp, hri, hrp, hrl, fun Hm em => ?_⟩
          walk_at "v"
          exact k _ ((e1.trans dl.e1).trans (Exx.of em))
end
end
set_option Elab.async false
set_option linter.all false
set_option maxRecDepth 100000
set_option maxHeartbeats 4000000
/-! The law. -/
section
open PySem PySem.Spec PyProof.Rows L2
open Evl (Ex given)

theorem sq_ex {K : PySem.W.Frag} {H H' : Hp} {a : Addr} {xs : List V} (h : SqL K H a xs) (e : Ex H H') : SqL K H' a xs := by
  rcases h with (q | ⟨o, q⟩) | q
  · exact .inl (.inl (e _ _ q))
  · exact .inl (.inr ⟨o, e _ _ q⟩)
  · exact .inr q
theorem exx_fresh {b : Addr} {H H1 H2 : Hp} (hb : H b = none) (e : Ex H H1) (e2 : Exx [b] H1 H2) : Ex H H2 := fun x o h => e2 x o (e x o h) fun z => by
  rw [List.mem_singleton] at z
  rw [z, hb] at h
  cases h
section
variable {P : Program} {w : World} {K : PySem.W.Frag} {mg : Str → Option Value} {base : Heap}
def spLaw (K : PySem.W.Frag) : Sp := fun vs H Q _ => ∃ (a : Addr) (ns : List Int), vs = [.ref a] ∧ SqL K H a (ns.map V.int) ∧ ns.length ≤ 63 ∧ ∀ H', Q (.bl true) H'
theorem sc_law : FnScope ["_law_script", "_law_k"] ["_law_script"] (defScope s_law) := ⟨rfl, rfl, rfl, by decide +kernel, rfl, by decide +kernel, by decide +kernel⟩
theorem ok_law (T : Txt K mg) : GoodPG P w K mg base "law" 47 ["_law_script"] (spLaw K) := by
  have G_law_cell := ok_law_cell (P := P) (w := w) (base := base) T
  have G_law_box := ok_law_box (P := P) (w := w) (base := base) T
  have G_law_right := ok_law_right (P := P) (w := w) (base := base) T
  have G_law_many_right := ok_law_many_right (P := P) (w := w) (base := base) T
  obtain ⟨fd, F⟩ := T.f_law
  refine goodG_of F sc_law (fun vs H Q E h => ?_) (fun _ _ _ _ _ _ us hl => match us, hl with | [_], _ => rfl) (fun cdv A outer s H vs Q E hg hr h => ?_)
  · obtain ⟨a, ns, rfl, _⟩ := h
    rfl
  · obtain ⟨a, ns, rfl, hs, hl, k⟩ := h
    have hgd : Calm (A.deeper (envOfC "law" (defScope s_law) s.heap.objs.size (He.ga K "law") cdv)) := hg
    refine ⟨_, (pss_cons (ps_for PassesOwn.never rfl (pi_range1 rfl T.z_range (pa_cons (pe_callB (call_max2N rfl) rfl T.z_max (by decide +kernel) (pa_cons pe_int (pa_cons (pe_callB (call_min2N rfl) rfl T.z_min (by decide +kernel) (pa_cons pe_int (pa_cons (pe_callB call_lenN rfl T.z_len (by decide +kernel) (pa_cons (pv 0) pa_nil)) pa_nil))) pa_nil))) pa_nil)) (pg_name (i := 1) sc_law.nd rfl (Or.inl rfl))
    (pss_one (ps_if (pt_not (pt_val (pcallG G_law_right hr hgd T.g_law_right (pa_cons (pcall G_law_box hr T.g_law_box (pa_cons (pcall G_law_cell hr T.g_law_cell (pa_cons (pv 0) (pa_cons (pv 1) pa_nil))) pa_nil)) pa_nil)))) (pss_one (ps_ret pe_bl)) pss_nil)))
    (pss_one (ps_ret (pcallG G_law_many_right hr hgd T.g_law_many_right (pa_cons (pcall G_law_box hr T.g_law_box (pa_cons (pcall G_law_cell hr T.g_law_cell (pa_cons (pv 0) (pa_cons pe_int pa_nil))) pa_nil)) pa_nil))))), ?_⟩
    walk_at "v"
    have hm : ((if (if ((ns.map V.int).length : Int) < 3 then ((ns.map V.int).length : Int) else 3) > 2 then (if ((ns.map V.int).length : Int) < 3 then ((ns.map V.int).length : Int) else 3) else 2) : Int).toNat ≤ 3 := by
      split <;> split <;> omega
    generalize ((if (if ((ns.map V.int).length : Int) < 3 then ((ns.map V.int).length : Int) else 3) > 2 then (if ((ns.map V.int).length : Int) < 3 then ((ns.map V.int).length : Int) else 3) else 2) : Int).toNat = m at hm ⊢
    refine for_it (walk_range (lo := 0) (n := m)) (fun i σ H' => ∃ o, σ = [some (.ref a), o] ∧ Ex H H') ⟨_, rfl, Ex.refl _⟩ (fun _ _ _ _ _ => trivial) ?_ ?_
    · rintro i x σ Ha Hb hi ⟨o, rfl, e⟩ ⟨rfl, rfl⟩
      walk_at "v"
      refine ⟨a, ns, i, ?_, sq_ex hs e, by omega, by omega, fun g H1 e1 => ?_⟩
      · show [V.ref a, V.int (0 + (i : Int))] = _
        rw [Int.zero_add]
      walk_at "v"
      refine ⟨g, rfl, fun b H2 hb e2 hbx => ?_⟩
      walk_at "v"
      refine ⟨b, rfl, hbx, fun H3 e3 => ?_⟩
      walk_at "v"
      exact ⟨_, rfl, e.trans (e1.trans (exx_fresh hb e2 e3))⟩
    · rintro σ Ha ⟨o, rfl, e⟩
      walk_at "v"
      refine ⟨a, ns, 0, rfl, sq_ex hs e, by omega, by omega, fun g H1 e1 => ?_⟩
      walk_at "v"
      refine ⟨g, rfl, fun b H2 hb e2 hbx => ?_⟩
      walk_at "v"
      refine ⟨b, 0, rfl, hbx, by omega, fun H3 e3 => ?_⟩
      walk_at "v"
      exact k _
end
end
set_option Elab.async false
set_option linter.all false
set_option maxRecDepth 100000
set_option maxHeartbeats 4000000
/-! The law's end: a promise that asks for calm, met at the caller; the head's facts; the law. -/
section
open PySem PySem.Spec PyProof.Rows L2
/-- the heap in which the script alone may be tracked -/
theorem start_heap {P : Program} {w : World} {K : PySem.W.Frag} {h : Heap} {a : Addr} {vs : List Value} {ns : List Int} (KX : K.In h) (ha : h.get? a = some { cls := .type "list", data := .seq vs.toArray }) (hi : IntsAre vs ns) (hl : ns.length ≤ sizeLine) :
    ∃ H0 : Hp, (∀ b, H0 b = none ∨ b = a ∧ K.lookup a = none ∧ ∃ o, H0 b = some (.frz o (.lst (ns.map V.int)))) ∧ SqL K H0 a (ns.map V.int) ∧ HOk P w H0 h := by
  have values := vals_ints hi
  have many := hi.length
  cases look : K.lookup a with
  | some o =>
    have same := (KX a o look).symm.trans ha
    cases same
    refine ⟨fun _ => none, fun _ => .inl rfl, .inr ⟨_, vs.toArray, _, look, rfl, rfl, rfl, ?_, by simpa using values⟩, fun b u z => nomatch z⟩
    rw [List.size_toArray, many]
    exact hl
  | none =>
    obtain ⟨H0, hH⟩ : ∃ H0 : Hp, ∀ b, H0 b = if b = a then some (.frz { cls := .type "list", data := .seq vs.toArray } (.lst (ns.map V.int))) else none := ⟨_, fun _ => rfl⟩
    refine ⟨H0, fun b => ?_, .inl (.inr ⟨_, (hH a).trans (if_pos rfl)⟩), fun b u z => ?_⟩
    · by_cases c : b = a
      · exact .inr ⟨c, rfl, _, (hH b).trans (if_pos c)⟩
      · exact .inl ((hH b).trans (if_neg c))
    · by_cases c : b = a
      · have z2 := ((hH b).trans (if_pos c)).symm.trans z
        cases z2
        rw [c]
        refine ⟨ha, ?_, vs, _, values, ha⟩
        rw [List.length_map]
        exact hl
      · have z2 := ((hH b).trans (if_neg c)).symm.trans z
        cases z2
theorem ends_calm {l : PySem.W.OpenLaw} {n k : Nat} {q : Program} {loose : List Str} {XP : (Str → Option Value) → Heap → Prop} {YP : World → Heap → Prop} {d : DefRec} {x : Str}
    (most : l.most = some n) (line : n ≤ sizeLine) (plain : d.params.defaults = []) (room : Room k callerA)
    (F : ∀ (w : World) (mg : Str → Option Value) (fa : Addr) (h : Heap), YP w h → h.Ns mainGlobals mg → mg d.name = some (.ref fa) → ∃ (K : PySem.W.Frag) (sp : Sp), K.In h ∧
      (∀ base : Heap, GoodG l.prog w K mg base fa k [x] sp) ∧ ∀ (H : Hp) (a : Addr) (ns : List Int), ns.length ≤ n → SqL K H a (ns.map V.int) → sp [.ref a] H (fun v _ => v = .bl true) fun _ _ _ => False) :
    PySem.W.WalkO q loose XP YP l.row.toRowW d [] (fun f vs => PySem.call f vs) := by
  refine Att.attach_call most plain fun w s0 s1 mg mb fa o pm cd doc a vs ns G Y ho hd hcd hmg hobj hints hlen hg => ?_
  obtain ⟨K, sp, KX, good, promise⟩ := F w mg fa _ Y G.T.g hmg
  obtain ⟨H0, only, script, fits⟩ := start_heap (P := l.prog) (w := w) KX hobj hints (Nat.le_trans hlen line)
  have isA : ∀ b, H0 b ≠ none → b = a ∧ K.lookup a = none := fun b z => (only b).elim (fun q => absurd q z) fun q => ⟨q.1, q.2.1⟩
  have stays : ∀ {b : Addr} {o : Obj}, s1.heap.get? b = some o → H0 b = none → (hidT s1.heap H0).get? b = some o := fun e z => hidT_get e z
  have dicts : ∀ {b : Addr} {m : Str → Option Value}, s1.heap.Ns b m → (hidT s1.heap H0).Ns b m := by
    rintro b m ⟨ob, es, ep, e, dd, r⟩
    refine ⟨ob, es, ep, stays e ?_, dd, r⟩
    cases c : H0 b with
    | none => rfl
    | some u =>
      obtain ⟨ba, _⟩ := isA b fun z => by
        rw [c] at z
        cases z
      rw [ba, hobj] at e
      cases e
      exact nomatch (dd : Data.seq vs.toArray _ = Data.dict es ep)
  have kin : K.In (hidT s1.heap H0) := fun b ob e => stays (KX b ob e) (by
    cases c : H0 b with
    | none => rfl
    | some u =>
      obtain ⟨ba, look⟩ := isA b fun z => by
        rw [c] at z
        cases z
      rw [ba, look] at e
      cases e)
  have modul : Mod K mg (hidT s1.heap H0) := by
    obtain ⟨mc, c1, c2⟩ := G.T.nolimit
    exact ⟨kin, dicts G.T.g, ⟨mb, dicts G.T.b, G.T.builtins⟩, mc, dicts c1, c2⟩
  have start : Env0 l.prog w K mg (hidT s1.heap H0) callerA [] s1 H0 := ⟨rfl, modul, fun b ob e => of_hidT e, Nat.le_of_eq (hidT_size _ _), trivial, (fun b hb => nomatch hb), fits, .of_eq hg⟩
  obtain ⟨⟨fd, fn, binds⟩, _⟩ := good (hidT s1.heap H0)
  have bound := binds s1 [.ref a] KX rfl
  refine codeAny_mono (fn.run callerA [] s1 H0 _ _ [.ref a] _ _ rfl room start bound (.cons rfl .nil) (promise H0 a ns hlen script)) ?_
  rintro (er | fl) s2 z
  · obtain ⟨_, _, _, _, _, _, _, _, _, _, _, _, no⟩ := z
    exact no.elim
  · cases fl with
    | next => exact False.elim z
    | brk => exact False.elim z
    | cont => exact False.elim z
    | ret u =>
      obtain ⟨v, H2, os, bare, un, ok2, same, told⟩ := z
      have told2 : v = .bl true := told
      subst told2
      obtain rfl : u = Value.bool true := same
      refine ⟨rfl, OldK.of_keep fun b ob e => ?_, os, bare⟩
      rcases only b with c | ⟨_, _, ofr, c⟩
      · exact un.keep b ob e c (fun z => nomatch z) (by simp)
      · have c2 := un.frzs b ofr _ c
        have e1 := (fits b _ c).1
        rw [e] at e1
        cases e1
        exact (ok2 b _ c2).1
end
end Eg
set_option Elab.async false
set_option linter.all false
set_option maxRecDepth 100000
set_option maxHeartbeats 4000000
/-! The law. -/
open PySem PySem.W PySem.Calls PyProof.Rows
theorem PySem.Challenge.cw_everygrain_k48_whole_index_by_looking_holds : PySem.Challenge.rw_everygrain_k48_whole_index_by_looking.Holds := by
  refine Eg.head_law (Eg.ends_calm (l := PySem.Challenge.rw_everygrain_k48_whole_index_by_looking) (n := 63) (k := 47) (x := "_law_script") rfl (by decide) Eg.law_plain ⟨rfl, by decide, by decide⟩ ?F)
  intro w mg fa h Y G named
  obtain ⟨K, KX, c, x⟩ := Y
  rw [Eg.law_name] at named
  have T : Eg.Txt K mg := ⟨⟨h, KX, G⟩, c, x⟩
  have same := named.symm.trans T.g_law
  cases same
  exact ⟨K, Eg.spLaw K, KX, fun base => Eg.ok_law T, fun H a ns hl hs => ⟨a, ns, rfl, hs, hl, fun _ => rfl⟩⟩

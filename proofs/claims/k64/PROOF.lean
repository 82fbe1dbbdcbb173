import PyProof.Rows.All
import Wide.All
import OpenK.AllK
import Wide.FinOn
import HandS.ForMost
import HandS.Evl
import HandS.Strs
import HandS.SetFor
import HandS.SortKw
import HandS.WideBits
import HandS.Conv
import HandS.IsInst
import HandS.Defaults
import HandS.Flow
import HandS.Exc
import HandS.OwnEq
import HandS.IterVal
import KE.GoesEnum
import PyProof.InstNe
import HandS.Zip
import HandS.SetBool
import PySem.Challenge.RW_lowerwords_k64_whole_products_and_striki
import KE.KStateDown
import HandS.Head0
import HandS.Head1
import HandS.Head2
import HandS.HeadEnd
import HandS.HeadHook1
import HandS.HeadHook2

set_option Elab.async false
set_option linter.all false
set_option maxRecDepth 100000
set_option maxHeartbeats 0

namespace KW
open PySem PySem.Spec PyProof.Rows L2
/-! ### the text by places -/
def topS (i : Nat) : Stmt := PySem.Challenge.pw_lowerwords_k64_whole_products_and_striki.main.body.getD i (.Pass ⟨0, 0, 0, 0⟩)
abbrev s_is_whole : Stmt := topS 13
abbrev s_check_letters : Stmt := topS 14
abbrev s_check_letter : Stmt := topS 15
abbrev s_check_bit : Stmt := topS 16
abbrev s_check_heap : Stmt := topS 17
abbrev s_check_heaps : Stmt := topS 18
abbrev s_letters_of : Stmt := topS 19
abbrev s_count_ones : Stmt := topS 20
abbrev s_parity_of : Stmt := topS 21
abbrev s_all_letters : Stmt := topS 22
abbrev s_complement_of : Stmt := topS 23
abbrev s_all_heaps : Stmt := topS 24
abbrev s_full_word : Stmt := topS 27
abbrev s_check_word : Stmt := topS 28
abbrev s_stepped_word : Stmt := topS 29
abbrev s_ones_of : Stmt := topS 30
abbrev s_heap_word : Stmt := topS 31
abbrev s_heaps_of : Stmt := topS 32
abbrev s_meets_evenly : Stmt := topS 33
abbrev s_checked_letters : Stmt := topS 35
abbrev s_checked_heaps : Stmt := topS 36
abbrev s_check_same : Stmt := topS 37
abbrev s_Choice_init : Stmt := inClass (topS 38) 0
abbrev s_Choice_contains : Stmt := inClass (topS 38) 3
abbrev s_Choice_iter : Stmt := inClass (topS 38) 4
abbrev s_Choice_eq : Stmt := inClass (topS 38) 5
abbrev s_strange_heap : Stmt := topS 39
abbrev s_holds : Stmt := topS 40
abbrev s_closed_gap : Stmt := topS 42
abbrev s_check_closed : Stmt := topS 43
abbrev s_Escapes_init : Stmt := inClass (topS 45) 0
abbrev s_product_of : Stmt := topS 46
abbrev s_kept_in : Stmt := topS 47
abbrev s_quotient_of : Stmt := topS 48
abbrev s_check_long : Stmt := topS 50
abbrev s_without_letter : Stmt := topS 51
abbrev s_strike_word : Stmt := topS 52
abbrev s_widen_word : Stmt := topS 53
abbrev s_strike : Stmt := topS 54
abbrev s_shorten : Stmt := topS 55
abbrev s_check_below : Stmt := topS 59
abbrev s_check_words : Stmt := topS 60
abbrev s_check_single : Stmt := topS 61
abbrev s_taken_off : Stmt := topS 62
abbrev s_with_row : Stmt := topS 63
abbrev s_reduced_rows : Stmt := topS 64
abbrev s_remainder_of : Stmt := topS 65
abbrev s_in_span : Stmt := topS 66
abbrev s_even_rows : Stmt := topS 67
abbrev s_Against_init : Stmt := inClass (topS 69) 0
abbrev s_code_rows : Stmt := topS 70
abbrev s_rest_rows : Stmt := topS 71
abbrev s_rest_of : Stmt := topS 72
abbrev s_meets_rest : Stmt := topS 73
abbrev s__law_mix : Stmt := topS 75
abbrev s__law_hand : Stmt := topS 76
abbrev s__law_draw : Stmt := topS 77
abbrev s__law_wide : Stmt := topS 78
abbrev s__law_letters : Stmt := topS 79
abbrev s__law_ones : Stmt := topS 80
abbrev s__law_heap_word : Stmt := topS 81
abbrev s__law_is_below : Stmt := topS 82
abbrev s__law_falling : Stmt := topS 83
abbrev s__law_closed : Stmt := topS 84
abbrev s__law_seeds : Stmt := topS 85
abbrev s__law_choice : Stmt := topS 86
abbrev s__law_any_word : Stmt := topS 87
abbrev s__law_code_word : Stmt := topS 88
abbrev s__law_hrows : Stmt := topS 89
abbrev s__law_hcut : Stmt := topS 90
abbrev s__law_lies : Stmt := topS 91
abbrev s__law_closed_choice : Stmt := topS 92
abbrev s__law_struck_right : Stmt := topS 93
abbrev s__law_quotient_right : Stmt := topS 94
abbrev s__law_kept_right : Stmt := topS 95
abbrev s__law_rows_right : Stmt := topS 96
abbrev s_law : Stmt := topS 97
end KW

namespace KW
open PySem PySem.Spec PyProof.Rows L2
/-! ### the head -/
def d_is_whole : He.DefD := ⟨("is_whole", none), "is_whole", "is_whole", defArgs s_is_whole, defBody s_is_whole, defScope s_is_whole, [], []⟩
def d_check_letters : He.DefD := ⟨("check_letters", none), "check_letters", "check_letters", defArgs s_check_letters, defBody s_check_letters, defScope s_check_letters, [], []⟩
def d_check_letter : He.DefD := ⟨("check_letter", none), "check_letter", "check_letter", defArgs s_check_letter, defBody s_check_letter, defScope s_check_letter, [], []⟩
def d_check_bit : He.DefD := ⟨("check_bit", none), "check_bit", "check_bit", defArgs s_check_bit, defBody s_check_bit, defScope s_check_bit, [], []⟩
def d_check_heap : He.DefD := ⟨("check_heap", none), "check_heap", "check_heap", defArgs s_check_heap, defBody s_check_heap, defScope s_check_heap, [], []⟩
def d_check_heaps : He.DefD := ⟨("check_heaps", none), "check_heaps", "check_heaps", defArgs s_check_heaps, defBody s_check_heaps, defScope s_check_heaps, [], []⟩
def d_letters_of : He.DefD := ⟨("letters_of", none), "letters_of", "letters_of", defArgs s_letters_of, defBody s_letters_of, defScope s_letters_of, [], []⟩
def d_count_ones : He.DefD := ⟨("count_ones", none), "count_ones", "count_ones", defArgs s_count_ones, defBody s_count_ones, defScope s_count_ones, [], []⟩
def d_parity_of : He.DefD := ⟨("parity_of", none), "parity_of", "parity_of", defArgs s_parity_of, defBody s_parity_of, defScope s_parity_of, [], []⟩
def d_all_letters : He.DefD := ⟨("all_letters", none), "all_letters", "all_letters", defArgs s_all_letters, defBody s_all_letters, defScope s_all_letters, [], []⟩
def d_complement_of : He.DefD := ⟨("complement_of", none), "complement_of", "complement_of", defArgs s_complement_of, defBody s_complement_of, defScope s_complement_of, [], []⟩
def d_all_heaps : He.DefD := ⟨("all_heaps", none), "all_heaps", "all_heaps", defArgs s_all_heaps, defBody s_all_heaps, defScope s_all_heaps, [], []⟩
def d_full_word : He.DefD := ⟨("full_word", none), "full_word", "full_word", defArgs s_full_word, defBody s_full_word, defScope s_full_word, [], []⟩
def d_check_word : He.DefD := ⟨("check_word", none), "check_word", "check_word", defArgs s_check_word, defBody s_check_word, defScope s_check_word, [], []⟩
def d_stepped_word : He.DefD := ⟨("stepped_word", none), "stepped_word", "stepped_word", defArgs s_stepped_word, defBody s_stepped_word, defScope s_stepped_word, [], []⟩
def d_ones_of : He.DefD := ⟨("ones_of", none), "ones_of", "ones_of", defArgs s_ones_of, defBody s_ones_of, defScope s_ones_of, [], []⟩
def d_heap_word : He.DefD := ⟨("heap_word", none), "heap_word", "heap_word", defArgs s_heap_word, defBody s_heap_word, defScope s_heap_word, [], []⟩
def d_heaps_of : He.DefD := ⟨("heaps_of", none), "heaps_of", "heaps_of", defArgs s_heaps_of, defBody s_heaps_of, defScope s_heaps_of, [], []⟩
def d_meets_evenly : He.DefD := ⟨("meets_evenly", none), "meets_evenly", "meets_evenly", defArgs s_meets_evenly, defBody s_meets_evenly, defScope s_meets_evenly, [], []⟩
def d_checked_letters : He.DefD := ⟨("checked_letters", none), "checked_letters", "checked_letters", defArgs s_checked_letters, defBody s_checked_letters, defScope s_checked_letters, [], []⟩
def d_checked_heaps : He.DefD := ⟨("checked_heaps", none), "checked_heaps", "checked_heaps", defArgs s_checked_heaps, defBody s_checked_heaps, defScope s_checked_heaps, [], []⟩
def d_check_same : He.DefD := ⟨("check_same", none), "check_same", "check_same", defArgs s_check_same, defBody s_check_same, defScope s_check_same, [], []⟩
def d_Choice_init : He.DefD := ⟨("Choice", some "__init__"), "__init__", "Choice.__init__", defArgs s_Choice_init, defBody s_Choice_init, defScope s_Choice_init, [], []⟩
def d_Choice_contains : He.DefD := ⟨("Choice", some "__contains__"), "__contains__", "Choice.__contains__", defArgs s_Choice_contains, defBody s_Choice_contains, defScope s_Choice_contains, [], []⟩
def d_Choice_iter : He.DefD := ⟨("Choice", some "__iter__"), "__iter__", "Choice.__iter__", defArgs s_Choice_iter, defBody s_Choice_iter, defScope s_Choice_iter, [], []⟩
def d_Choice_eq : He.DefD := ⟨("Choice", some "__eq__"), "__eq__", "Choice.__eq__", defArgs s_Choice_eq, defBody s_Choice_eq, defScope s_Choice_eq, [], []⟩
def d_strange_heap : He.DefD := ⟨("strange_heap", none), "strange_heap", "strange_heap", defArgs s_strange_heap, defBody s_strange_heap, defScope s_strange_heap, [], []⟩
def d_holds : He.DefD := ⟨("holds", none), "holds", "holds", defArgs s_holds, defBody s_holds, defScope s_holds, [], []⟩
def d_closed_gap : He.DefD := ⟨("closed_gap", none), "closed_gap", "closed_gap", defArgs s_closed_gap, defBody s_closed_gap, defScope s_closed_gap, [], []⟩
def d_check_closed : He.DefD := ⟨("check_closed", none), "check_closed", "check_closed", defArgs s_check_closed, defBody s_check_closed, defScope s_check_closed, [], []⟩
def d_Escapes_init : He.DefD := ⟨("Escapes", some "__init__"), "__init__", "Escapes.__init__", defArgs s_Escapes_init, defBody s_Escapes_init, defScope s_Escapes_init, [], []⟩
def d_product_of : He.DefD := ⟨("product_of", none), "product_of", "product_of", defArgs s_product_of, defBody s_product_of, defScope s_product_of, [], []⟩
def d_kept_in : He.DefD := ⟨("kept_in", none), "kept_in", "kept_in", defArgs s_kept_in, defBody s_kept_in, defScope s_kept_in, [], []⟩
def d_quotient_of : He.DefD := ⟨("quotient_of", none), "quotient_of", "quotient_of", defArgs s_quotient_of, defBody s_quotient_of, defScope s_quotient_of, [], []⟩
def d_check_long : He.DefD := ⟨("check_long", none), "check_long", "check_long", defArgs s_check_long, defBody s_check_long, defScope s_check_long, [], []⟩
def d_without_letter : He.DefD := ⟨("without_letter", none), "without_letter", "without_letter", defArgs s_without_letter, defBody s_without_letter, defScope s_without_letter, [], []⟩
def d_strike_word : He.DefD := ⟨("strike_word", none), "strike_word", "strike_word", defArgs s_strike_word, defBody s_strike_word, defScope s_strike_word, [], []⟩
def d_widen_word : He.DefD := ⟨("widen_word", none), "widen_word", "widen_word", defArgs s_widen_word, defBody s_widen_word, defScope s_widen_word, [], []⟩
def d_strike : He.DefD := ⟨("strike", none), "strike", "strike", defArgs s_strike, defBody s_strike, defScope s_strike, [], []⟩
def d_shorten : He.DefD := ⟨("shorten", none), "shorten", "shorten", defArgs s_shorten, defBody s_shorten, defScope s_shorten, [], []⟩
def d_check_below : He.DefD := ⟨("check_below", none), "check_below", "check_below", defArgs s_check_below, defBody s_check_below, defScope s_check_below, [], []⟩
def d_check_words : He.DefD := ⟨("check_words", none), "check_words", "check_words", defArgs s_check_words, defBody s_check_words, defScope s_check_words, [], []⟩
def d_check_single : He.DefD := ⟨("check_single", none), "check_single", "check_single", defArgs s_check_single, defBody s_check_single, defScope s_check_single, [], []⟩
def d_taken_off : He.DefD := ⟨("taken_off", none), "taken_off", "taken_off", defArgs s_taken_off, defBody s_taken_off, defScope s_taken_off, [], []⟩
def d_with_row : He.DefD := ⟨("with_row", none), "with_row", "with_row", defArgs s_with_row, defBody s_with_row, defScope s_with_row, [], []⟩
def d_reduced_rows : He.DefD := ⟨("reduced_rows", none), "reduced_rows", "reduced_rows", defArgs s_reduced_rows, defBody s_reduced_rows, defScope s_reduced_rows, [], []⟩
def d_remainder_of : He.DefD := ⟨("remainder_of", none), "remainder_of", "remainder_of", defArgs s_remainder_of, defBody s_remainder_of, defScope s_remainder_of, [], []⟩
def d_in_span : He.DefD := ⟨("in_span", none), "in_span", "in_span", defArgs s_in_span, defBody s_in_span, defScope s_in_span, [], []⟩
def d_even_rows : He.DefD := ⟨("even_rows", none), "even_rows", "even_rows", defArgs s_even_rows, defBody s_even_rows, defScope s_even_rows, [], []⟩
def d_Against_init : He.DefD := ⟨("Against", some "__init__"), "__init__", "Against.__init__", defArgs s_Against_init, defBody s_Against_init, defScope s_Against_init, [], []⟩
def d_code_rows : He.DefD := ⟨("code_rows", none), "code_rows", "code_rows", defArgs s_code_rows, defBody s_code_rows, defScope s_code_rows, [], []⟩
def d_rest_rows : He.DefD := ⟨("rest_rows", none), "rest_rows", "rest_rows", defArgs s_rest_rows, defBody s_rest_rows, defScope s_rest_rows, [], []⟩
def d_rest_of : He.DefD := ⟨("rest_of", none), "rest_of", "rest_of", defArgs s_rest_of, defBody s_rest_of, defScope s_rest_of, [], []⟩
def d_meets_rest : He.DefD := ⟨("meets_rest", none), "meets_rest", "meets_rest", defArgs s_meets_rest, defBody s_meets_rest, defScope s_meets_rest, [], []⟩
def d__law_mix : He.DefD := ⟨("_law_mix", none), "_law_mix", "_law_mix", defArgs s__law_mix, defBody s__law_mix, defScope s__law_mix, [], []⟩
def d__law_hand : He.DefD := ⟨("_law_hand", none), "_law_hand", "_law_hand", defArgs s__law_hand, defBody s__law_hand, defScope s__law_hand, [], []⟩
def d__law_draw : He.DefD := ⟨("_law_draw", none), "_law_draw", "_law_draw", defArgs s__law_draw, defBody s__law_draw, defScope s__law_draw, [], []⟩
def d__law_wide : He.DefD := ⟨("_law_wide", none), "_law_wide", "_law_wide", defArgs s__law_wide, defBody s__law_wide, defScope s__law_wide, [], []⟩
def d__law_letters : He.DefD := ⟨("_law_letters", none), "_law_letters", "_law_letters", defArgs s__law_letters, defBody s__law_letters, defScope s__law_letters, [], []⟩
def d__law_ones : He.DefD := ⟨("_law_ones", none), "_law_ones", "_law_ones", defArgs s__law_ones, defBody s__law_ones, defScope s__law_ones, [], []⟩
def d__law_heap_word : He.DefD := ⟨("_law_heap_word", none), "_law_heap_word", "_law_heap_word", defArgs s__law_heap_word, defBody s__law_heap_word, defScope s__law_heap_word, [], []⟩
def d__law_is_below : He.DefD := ⟨("_law_is_below", none), "_law_is_below", "_law_is_below", defArgs s__law_is_below, defBody s__law_is_below, defScope s__law_is_below, [], []⟩
def d__law_falling : He.DefD := ⟨("_law_falling", none), "_law_falling", "_law_falling", defArgs s__law_falling, defBody s__law_falling, defScope s__law_falling, [], []⟩
def d__law_closed : He.DefD := ⟨("_law_closed", none), "_law_closed", "_law_closed", defArgs s__law_closed, defBody s__law_closed, defScope s__law_closed, [], []⟩
def d__law_seeds : He.DefD := ⟨("_law_seeds", none), "_law_seeds", "_law_seeds", defArgs s__law_seeds, defBody s__law_seeds, defScope s__law_seeds, [], []⟩
def d__law_choice : He.DefD := ⟨("_law_choice", none), "_law_choice", "_law_choice", defArgs s__law_choice, defBody s__law_choice, defScope s__law_choice, [], []⟩
def d__law_any_word : He.DefD := ⟨("_law_any_word", none), "_law_any_word", "_law_any_word", defArgs s__law_any_word, defBody s__law_any_word, defScope s__law_any_word, [], []⟩
def d__law_code_word : He.DefD := ⟨("_law_code_word", none), "_law_code_word", "_law_code_word", defArgs s__law_code_word, defBody s__law_code_word, defScope s__law_code_word, [], []⟩
def d__law_hrows : He.DefD := ⟨("_law_hrows", none), "_law_hrows", "_law_hrows", defArgs s__law_hrows, defBody s__law_hrows, defScope s__law_hrows, [], []⟩
def d__law_hcut : He.DefD := ⟨("_law_hcut", none), "_law_hcut", "_law_hcut", defArgs s__law_hcut, defBody s__law_hcut, defScope s__law_hcut, [], []⟩
def d__law_lies : He.DefD := ⟨("_law_lies", none), "_law_lies", "_law_lies", defArgs s__law_lies, defBody s__law_lies, defScope s__law_lies, [], []⟩
def d__law_closed_choice : He.DefD := ⟨("_law_closed_choice", none), "_law_closed_choice", "_law_closed_choice", defArgs s__law_closed_choice, defBody s__law_closed_choice, defScope s__law_closed_choice, [], []⟩
def d__law_struck_right : He.DefD := ⟨("_law_struck_right", none), "_law_struck_right", "_law_struck_right", defArgs s__law_struck_right, defBody s__law_struck_right, defScope s__law_struck_right, [], []⟩
def d__law_quotient_right : He.DefD := ⟨("_law_quotient_right", none), "_law_quotient_right", "_law_quotient_right", defArgs s__law_quotient_right, defBody s__law_quotient_right, defScope s__law_quotient_right, [], []⟩
def d__law_kept_right : He.DefD := ⟨("_law_kept_right", none), "_law_kept_right", "_law_kept_right", defArgs s__law_kept_right, defBody s__law_kept_right, defScope s__law_kept_right, [], []⟩
def d__law_rows_right : He.DefD := ⟨("_law_rows_right", none), "_law_rows_right", "_law_rows_right", defArgs s__law_rows_right, defBody s__law_rows_right, defScope s__law_rows_right, [], []⟩
def d_law : He.DefD := ⟨("law", none), "law", "law", defArgs s_law, defBody s_law, defScope s_law, [], []⟩
def fnL : List He.DefD := [d_is_whole, d_check_letters, d_check_letter, d_check_bit, d_check_heap, d_check_heaps, d_letters_of, d_count_ones, d_parity_of, d_all_letters, d_complement_of, d_all_heaps, d_full_word, d_check_word, d_stepped_word, d_ones_of, d_heap_word, d_heaps_of, d_meets_evenly, d_checked_letters, d_checked_heaps, d_check_same, d_Choice_init, d_Choice_contains, d_Choice_iter, d_Choice_eq, d_strange_heap, d_holds, d_closed_gap, d_check_closed, d_Escapes_init, d_product_of, d_kept_in, d_quotient_of, d_check_long, d_without_letter, d_strike_word, d_widen_word, d_strike, d_shorten, d_check_below, d_check_words, d_check_single, d_taken_off, d_with_row, d_reduced_rows, d_remainder_of, d_in_span, d_even_rows, d_Against_init, d_code_rows, d_rest_rows, d_rest_of, d_meets_rest, d__law_mix, d__law_hand, d__law_draw, d__law_wide, d__law_letters, d__law_ones, d__law_heap_word, d__law_is_below, d__law_falling, d__law_closed, d__law_seeds, d__law_choice, d__law_any_word, d__law_code_word, d__law_hrows, d__law_hcut, d__law_lies, d__law_closed_choice, d__law_struck_right, d__law_quotient_right, d__law_kept_right, d__law_rows_right, d_law]
def faL : List He.Fa := [.glo "is_whole", .glo "check_letters", .glo "check_letter", .glo "check_bit", .glo "check_heap", .glo "check_heaps", .glo "letters_of", .glo "count_ones", .glo "parity_of", .glo "all_letters", .glo "complement_of", .glo "all_heaps", .glo "full_word", .glo "check_word", .glo "stepped_word", .glo "ones_of", .glo "heap_word", .glo "heaps_of", .glo "meets_evenly", .glo "checked_letters", .glo "checked_heaps", .glo "check_same", .glo "strange_heap", .glo "holds", .glo "closed_gap", .glo "check_closed", .glo "product_of", .glo "kept_in", .glo "quotient_of", .glo "check_long", .glo "without_letter", .glo "strike_word", .glo "widen_word", .glo "strike", .glo "shorten", .glo "check_below", .glo "check_words", .glo "check_single", .glo "taken_off", .glo "with_row", .glo "reduced_rows", .glo "remainder_of", .glo "in_span", .glo "even_rows", .glo "code_rows", .glo "rest_rows", .glo "rest_of", .glo "meets_rest", .glo "_law_mix", .glo "_law_hand", .glo "_law_draw", .glo "_law_wide", .glo "_law_letters", .glo "_law_ones", .glo "_law_heap_word", .glo "_law_is_below", .glo "_law_falling", .glo "_law_closed", .glo "_law_seeds", .glo "_law_choice", .glo "_law_any_word", .glo "_law_code_word", .glo "_law_hrows", .glo "_law_hcut", .glo "_law_lies", .glo "_law_closed_choice", .glo "_law_struck_right", .glo "_law_quotient_right", .glo "_law_kept_right", .glo "_law_rows_right", .glo "law", .free "isinstance", .free "int", .free "bool", .free "list", .free "tuple", .free "enumerate", .free "sorted", .free "set", .free "range", .free "len", .free "any", .free "all", .free "abs", .free "iter", .int "MOST_LETTERS" 5, .int "GREATEST" 4294967295, .int "MOST_WORDS" 5000, .glo "Choice", .cls "Choice", .mkr "Choice", .glo "Escapes", .cls "Escapes", .mkr "Escapes", .glo "Against", .cls "Against", .mkr "Against", .noat "Choice" "letters", .noat "Choice" "heaps", .noat "Escapes" "heap", .noat "Escapes" "word", .noat "Against" "row", .meth "Choice" "__contains__", .meth "Choice" "__iter__", .meth "Choice" "__eq__", .glo "WITHOUT"]

def loose0 : List PySem.Str := ["_wall", "WordError", "BadLetters", "BadLetter", "BadBit", "BadHeap", "BadWord", "BadChoice", "OtherLetters", "NotClosed", "MOST_LETTERS", "is_whole", "check_letters", "check_letter", "check_bit", "check_heap", "check_heaps", "letters_of", "count_ones", "parity_of", "all_letters", "complement_of", "all_heaps", "WITHOUT", "full_word", "check_word", "stepped_word", "ones_of", "heap_word", "heaps_of"]
def loose1 : List PySem.Str := ["meets_evenly", "checked_letters", "checked_heaps", "check_same", "Choice", "strange_heap", "holds", "closed_gap", "check_closed", "Escapes", "product_of", "kept_in", "quotient_of", "check_long", "without_letter", "strike_word", "widen_word", "strike", "shorten", "GREATEST", "MOST_WORDS", "check_below", "check_words", "check_single", "taken_off", "with_row", "reduced_rows", "remainder_of", "in_span", "even_rows"]
def loose2 : List PySem.Str := ["Against", "code_rows", "rest_rows", "rest_of", "meets_rest", "_law_mix", "_law_hand", "_law_draw", "_law_wide", "_law_letters", "_law_ones", "_law_heap_word", "_law_is_below", "_law_falling", "_law_closed", "_law_seeds", "_law_choice", "_law_any_word", "_law_code_word", "_law_hrows", "_law_hcut", "_law_lies", "_law_closed_choice", "_law_struck_right", "_law_quotient_right", "_law_kept_right", "_law_rows_right"]
def looseL : List PySem.Str := loose0 ++ loose1 ++ loose2

abbrev Rw : PySem.W.OpenRow := PySem.W.OpenLaw.row PySem.Challenge.rw_lowerwords_k64_whole_products_and_striki
def as0 : List Addr := [3, 209, 216, 223, 230, 237, 244, 249, 256, 263, 270, 277, 284, 285, 292, 299, 306, 311, 318, 325, 332, 339, 346, 353, 435, 446, 453, 458, 465, 489, 498, 505, 510, 517, 524, 531, 538, 543, 550, 557]
def as1 : List Addr := [564, 571, 578, 583, 590, 597, 604, 609, 633, 642, 649, 654, 661, 668, 673, 680, 687, 694, 701, 708, 715, 720, 725, 730, 735, 742, 749, 754, 761, 766, 771, 778, 785, 790, 795, 802, 208, 215, 222, 229]
def as2 : List Addr := [236, 243, 248, 255, 262, 269, 276, 283, 291, 298, 305, 310, 317, 324, 331, 338, 345, 352, 434, 445, 452, 457, 464, 488, 497, 504, 509, 516, 523, 530, 537, 542, 549, 556, 563, 570, 577, 582, 589, 596]
def as3 : List Addr := [603, 608, 632, 641, 648, 653, 660, 667, 672, 679, 686, 693, 700, 707, 714, 719, 724, 729, 734, 741, 748, 753, 760, 765, 770, 777, 784, 789, 794, 801, 367, 390, 397, 404, 479, 623, 366, 389, 396, 403]
def as4 : List Addr := [478, 622]
def asL : List Addr := as0 ++ as1 ++ as2 ++ as3 ++ as4
def exF (K : PySem.W.Frag) : List Bool := [He.tupB K "WITHOUT" [.int 1431655765, .int 858993459, .int 252645135, .int 16711935, .int 65535],
  He.eqO (PySem.W.findIn K (.ref (He.ga K "Choice")) "__class__") (some (some (Value.builtin "object.__class__"))), He.eqO (PySem.W.specialIn K (.builtin "object.__class__") "__get__") (some (some (Value.builtin "getset_descriptor.__get__"))),
  decide (PySem.W.takesIn K (.builtin "object.__class__") = some true), decide (PySem.W.mroIn K (He.ga K "Choice") (.type "object") = some true), He.eqO (PySem.W.findIn K (.ref (He.ga K "Choice")) "__ne__") (some (some (Value.builtin "object.__ne__"))),
  decide (PySem.W.kitOne K (.ref (He.ga K "Choice")) (.ref (He.ga K "Choice")) = some true)]
def exB (K : PySem.W.Frag) : Bool := (exF K).all id

def obsA (g : Addr → Option Obj) : He.AlD × Bool := (He.obsD faL fnL (He.frG g asL), exB (He.frG g asL))
def hk : PySem.W.Hook where
  α := He.AlD × Bool
  obs := fun s => obsA s.heap.get?
  val := fun _ => (He.valD fnL, true)
  says := fun _ h => ∃ K : PySem.W.Frag, K.In h ∧ He.SaysD faL fnL K ∧ exB K = true
  of := fun _ _ e => ⟨_, He.frG_in, congrArg Prod.fst e, congrArg Prod.snd e⟩
  keeps := fun _ _ _ ⟨K, hK, c⟩ k => ⟨K, PySem.W.Frag.In.keeps hK k, c⟩
def ob (s : PySem.W.SharedT) : hk.α := obsA (HandSHeadRun.getT s)
theorem ob_eq (s : PySem.W.SharedT) : ob s = hk.obs s.abs := by
  have e : HandSHeadRun.getT s = s.abs.heap.get? := funext (HandSHeadRun.getT_eq s)
  show obsA (HandSHeadRun.getT s) = obsA s.abs.heap.get?
  rw [e]

theorem run (w : World) : HandSHeadRun.RunEq Rw (PySem.W.view Rw.prog [97]) hk ob 6000 looseL w := by
  intro os
  kernel_rfl

end KW

/-! Rules beside the layer: an own class's «in», «==», «!=». -/
namespace K64
open PySem PySem.Spec PyProof.Rows L2

section
variable {X : Cx} {pins : List (Addr × Obj)} {σ : L2.St} {H : Hp} {s : Shared} {A : Around} {CX : CXT} {k : Nat} {f : Addr} {fd : FuncData} {ps : List Str} {sp : Sp} {E : XK}
/-- a def of the text called at values, the frames being this body's -/
theorem call_at (F : FnOk X.prog X.w X.K X.mg X.base CX k f fd ps sp) (hr : Room k A) (fr : A.frames = X.A.frames) (hb : Binds X.K fd ps []) (hx : Passes CX X E) {vs : List V} {us : List Value} {Q : VK}
    (I : Inv X pins σ H s) (r : Vals vs us) (h : sp vs H Q E) : wpAny (model X.prog X.w) A (call (.ref f) us) (EP X pins σ Q) X.xe s := by
  have e0 := I.env0
  have e1 : Env0 X.prog X.w X.K X.mg X.base A X.stack s H := ⟨fr.trans e0.frames, e0.mod, e0.bs, e0.bsz, e0.funs, e0.frf, e0.hok, e0.bare⟩
  have hl : (us ++ []).length = ps.length := by
    rw [List.append_nil, ← r.length]
    exact F.len _ _ _ _ h
  have bt := hb s us I.kIn hl
  rw [List.append_nil] at bt
  refine wpAny_call (codeAny_mono (F.run A X.stack s H ⟨us, []⟩ us vs Q E hr e1 bt r h) fun res s2 hq => ?_)
  match res, hq with
  | .error er, hq => exact hx pins σ H s er s2 I hq
  | .ok (.ret u), hq => exact I.after hq
end

/-! ### != of an instance whose class has == alone -/
section
variable {prog : Program} {w : World} {A : Around} {E : Value → Shared → Prop} {s : Shared} {K : PySem.W.Frag} {x C f : Addr} {ox : Obj} {od : Option Obj} {b : Value}
open PySem.W Builtin in
theorem obj_ne {Q : PySem.Fin → Shared → Prop} (hu : A.units < cLine) (X : K.In s.heap) (I : InstAt s.heap x ox C od) (he : findIn K (.ref C) "__eq__" = some (some (.ref f))) (hf : isFn K (.ref f) = true)
    (h : wpAny (model prog w) A (call (.ref f) [.ref x, b]) (fun v s' => ∃ c, v = .bool c ∧ Q (.done (.ret (.bool (!c)))) s') E s) : wpAny (model prog w) A (Builtin.«object.__ne__» ⟨[.ref x, b], []⟩) Q E s := by
  unfold Builtin.«object.__ne__»
  refine wpAny_bind (m := slotArgs "__ne__" 1 _) (wpAny_pure ?_)
  refine wpAny_bind (m := cRoomFor _ _) (wpAny_cRoomFor hu ?_)
  refine wpAny_bind (m := callSpecialIfBound? (.ref x) (Str.ofString "__eq__") _) (ifBound_K X I he hf (wpAny_mono h (fun v s' hv => ?_) fun _ _ y => y))
  obtain ⟨c, rfl, hq⟩ := hv
  show wpAny _ _ (truthy (.bool c) >>= _) _ _ _
  exact wpAny_bind (wpAny_truthy_bool (wpAny_pure hq))
open PySem.W Builtin in
theorem ne_own {h0 : Heap} {L : Addr} {m : Str → Option Value} {tb : Value} {Q : Value → Shared → Prop} (hu : A.units + 1 < cLine) (F : Fr h0 L s.heap m) (X0 : K.In h0) (I : InstAt s.heap x ox C od) (hb : Looks (model prog w) s.heap (typeOf b) tb) (hn : notFirst K C tb = true)
    (hs : findIn K (.ref C) "__ne__" = some (some (.builtin "object.__ne__"))) (hm : mroIn K C (.type "object") = some true) (he : findIn K (.ref C) "__eq__" = some (some (.ref f))) (hf : isFn K (.ref f) = true)
    (h : wpAny (model prog w) A.in1 (call (.ref f) [.ref x, b]) (fun v s' => ∃ c, v = .bool c ∧ Q (.bool (!c)) s') E s) : wpAny (model prog w) A (richCompare .NotEq (.ref x) b) Q E s := by
  have X := X0.keeps F.keep
  have hu1 : A.in1.units < cLine := hu
  have inner : wpAny (model prog w) A (call (.builtin "object.__ne__") [.ref x, b]) (fun v s' => ∃ c, v = .bool c ∧ Q v s') E s := by
    refine wpAny_call (codeAny_call_builtin PySem.F.cmp_object.ne.plain PySem.F.cmpEntry_ne (check_slot (i := "object.__ne__") (owner := "object") (n := "__ne__") PySem.F.cmpKind_ne PySem.F.cmpSplit_ne (I.type.andThen (looks_mroIn X hm)) (PySem.F.cmpArgs_ne _ _) ?_))
    refine obj_ne hu1 X I he hf (wpAny_mono h (fun v s' hv => ?_) fun _ _ y => y)
    obtain ⟨c, rfl, hq⟩ := hv
    exact ⟨c, rfl, ⟨!c, rfl, hq⟩⟩
  have one : wpAny (model prog w) A (tryCompare (.ref x) "__ne__" b) (fun r s' => ∃ v, r = some v ∧ Q v s') E s := by
    unfold tryCompare
    have tail : ∀ R : Option Value → Shared → Prop, (∀ c s', Q (.bool c) s' → R (some (.bool c)) s') → wpAny (model prog w) A (call (.builtin "object.__ne__") ([.ref x] ++ [b]) >>= fun v => pure (some v)) R E s := fun R hR => by
      refine wpAny_bind (wpAny_mono inner (fun v s' hv => ?_) fun _ _ y => y)
      obtain ⟨c, rfl, hq⟩ := hv
      exact wpAny_pure (hR c s' hq)
    have back : ∀ c s', Q (.bool c) s' → wpAny (model prog w) A (pure (some (Value.bool c)) : Sem (Option Value)) (fun r s' => ∃ v, r = some v ∧ Q v s') E s' := fun c s' hq => wpAny_pure ⟨_, rfl, hq⟩
    refine wpAny_bind ?_
    simp only [callSpecialIfBound?, bindSpecialIfBound?]
    refine wpAny_holding (wpAny_bind (wpAny_bind (wpAny_bind (I.type.here ((looks_findIn X hs).here ?_)))))
    refine wpAny_bind (wpAny_askSetting (wpAny_ite ?_))
    split
    · exact wpAny_bind ((Looks.of_pure (PySem.F.cmp_object.ne.bind _)).here (wpAny_pure (by exact tail _ back)))
    · exact wpAny_tryCatch (wpAny_bind ((Looks.of_pure (PySem.F.cmp_object.ne.bind _)).here (wpAny_pure (by exact tail _ back))))
  unfold richCompare
  simp only [oneThing_ref]
  refine wpAny_holding (wpAny_bind (wpAny_cRoomFor (Nat.lt_of_succ_lt hu) ?_))
  refine wpAny_bind (I.type.here (wpAny_bind (hb.here ?_)))
  have fin : ∀ g : Option Value → Sem Value, (∀ v s', Q v s' → wpAny (model prog w) A (g (some v)) Q E s') → wpAny (model prog w) A (tryCompare (.ref x) "__ne__" b >>= g) Q E s := fun g hg =>
    wpAny_bind (wpAny_mono one (fun r s' z => by
      obtain ⟨v, rfl, hq⟩ := z
      exact hg v s' hq) fun _ _ y => y)
  split
  · rename_i q
    have e : subIn K tb (.ref C) = some false := by
      rcases Bool.or_eq_true_iff.mp hn with e | e
      · rw [beq_iff_eq.mp e] at q
        simp at q
      · exact beq_iff_eq.mp e
    refine wpAny_bind ((looks_subIn X e).here ?_)
    simp only [Bool.false_eq_true, if_false]
    exact fin _ fun v s' hq => wpAny_pure hq
  · refine wpAny_bind (wpAny_pure ?_)
    simp only [Bool.false_eq_true, if_false]
    exact fin _ fun v s' hq => wpAny_pure hq
end

/-! ### the three as rules of the layer -/
section
variable {X : Cx} {CX : CXT} {k : Nat} {C f : Addr} {fd : FuncData} {ps : List Str} {sp : Sp} {E : XK}
/-- what the method's promise gives, turned or not -/
def rOwnB (C : Addr) (sp : Sp) (E : XK) (neg : Bool) : R2 := fun x y H Q => ∃ a b dx dy fs gs, x = .ref a ∧ y = .ref b ∧ H a = some (.ins C dx fs) ∧ H b = some (.ins C dy gs) ∧ sp [.ref a, .ref b] H (fun v H' => ∃ c, v = .bl c ∧ Q (.bl (c ^^ neg)) H') E
theorem op_ownEq (F : FnOk X.prog X.w X.K X.mg X.base CX k f fd ps sp) (hr : Room (k + 1) X.A) (hb : Binds X.K fd ps []) (hx : Passes CX X E) (he : PySem.W.findIn X.K (.ref C) "__eq__" = some (some (.ref f))) (hf : PySem.W.isFn X.K (.ref f) = true) :
    OpR X (compareOp .Eq) (rOwnB C sp E false) := by
  intro pins s σ H x y v u Q I rx ry h
  obtain ⟨a, b, dx, dy, fs, gs, rfl, rfl, ha, hb', h⟩ := h
  cases rx
  cases ry
  obtain ⟨mA, J, _⟩ := ins_get I.hok ha
  obtain ⟨mB, J', _⟩ := ins_get I.hok hb'
  obtain ⟨od, J, _⟩ := J.look
  obtain ⟨od', J', _⟩ := J'.look
  obtain ⟨m, hF⟩ := I.fr
  show wpAny (model X.prog X.w) X.A (richCompare .Eq (.ref a) (.ref b)) (EP X pins σ Q) X.xe s
  refine PySem.W.cmp_K (op := .Eq) (tb := .ref C) hr.units0 hF I.ok.mod.kin J J'.type (by simp [PySem.W.notFirst]) he hf ?_
  refine thn (call_at F (hr.mono (Nat.le_succ k)) rfl hb hx I (vs := [.ref a, .ref b]) (.cons rfl (.cons rfl .nil)) h) fun r s' q => ?_
  obtain ⟨v, H', I', rv, c, rfl, q⟩ := q
  cases rv
  have e : (c ^^ false) = c := by cases c <;> rfl
  rw [e] at q
  exact ⟨.bl c, H', I', rfl, q⟩
theorem op_ownNe (F : FnOk X.prog X.w X.K X.mg X.base CX k f fd ps sp) (hr : Room (k + 1) X.A) (hb : Binds X.K fd ps []) (hx : Passes CX X E) (he : PySem.W.findIn X.K (.ref C) "__eq__" = some (some (.ref f))) (hf : PySem.W.isFn X.K (.ref f) = true)
    (hs : PySem.W.findIn X.K (.ref C) "__ne__" = some (some (.builtin "object.__ne__"))) (hm : PySem.W.mroIn X.K C (.type "object") = some true) : OpR X (compareOp .NotEq) (rOwnB C sp E true) := by
  intro pins s σ H x y v u Q I rx ry h
  obtain ⟨a, b, dx, dy, fs, gs, rfl, rfl, ha, hb', h⟩ := h
  cases rx
  cases ry
  obtain ⟨mA, J, _⟩ := ins_get I.hok ha
  obtain ⟨mB, J', _⟩ := ins_get I.hok hb'
  obtain ⟨od, J, _⟩ := J.look
  obtain ⟨od', J', _⟩ := J'.look
  obtain ⟨m, hF⟩ := I.fr
  show wpAny (model X.prog X.w) X.A (richCompare .NotEq (.ref a) (.ref b)) (EP X pins σ Q) X.xe s
  have hu := hr.units
  refine ne_own (tb := .ref C) (by omega) hF I.ok.mod.kin J J'.type (by simp [PySem.W.notFirst]) hs hm he hf ?_
  refine thn (call_at F hr.in1 rfl hb hx I (vs := [.ref a, .ref b]) (.cons rfl (.cons rfl .nil)) h) fun r s' q => ?_
  obtain ⟨v, H', I', rv, c, rfl, q⟩ := q
  cases rv
  have e : (c ^^ true) = !c := by cases c <;> rfl
  rw [e] at q
  exact ⟨c, rfl, .bl (!c), H', I', rfl, q⟩
/-- x not in o, by o's own __contains__ -/
def rOwnNotIn (C : Addr) (sp : Sp) (E : XK) : R2 := fun x y H Q => ∃ a dx fs, y = .ref a ∧ H a = some (.ins C dx fs) ∧ sp [.ref a, x] H (fun v H' => ∃ c, v = .bl c ∧ Q (.bl (!c)) H') E
theorem op_ownNotIn (F : FnOk X.prog X.w X.K X.mg X.base CX k f fd ps sp) (hr : Room k X.A) (hb : Binds X.K fd ps []) (hx : Passes CX X E) (he : PySem.W.findIn X.K (.ref C) "__contains__" = some (some (.ref f))) (hf : PySem.W.isFn X.K (.ref f) = true) :
    OpR X (compareOp .NotIn) (rOwnNotIn C sp E) := by
  intro pins s σ H x y v u Q I rx ry h
  obtain ⟨a, dx, fs, rfl, ha, h⟩ := h
  cases ry
  obtain ⟨mA, J, _⟩ := ins_get I.hok ha
  obtain ⟨od, J, _⟩ := J.look
  obtain ⟨m, hF⟩ := I.fr
  refine PySem.W.notIn_K hF I.ok.mod.kin J he hf ?_
  refine thn (call_at F hr rfl hb hx I (vs := [.ref a, x]) (.cons rfl (.cons rx .nil)) h) fun r s' q => ?_
  obtain ⟨v, H', I', rv, c, rfl, q⟩ := q
  cases rv
  exact wpAny_truthy_bool ⟨.bl (!c), H', I', rfl, q⟩
end
end K64

/-! enumerate over a tuple. -/
namespace K64
open PySem PySem.Spec PyProof.Rows L2

theorem meets_enum1 {v : Value} {o : Obj} {G : Heap → Prop} (B : Begins v o G) :
    Meets (Builtin.«enumerate.__new__» ⟨[.type "enumerate", v], []⟩) (fun _ R s => G s.heap ∧
      R (.ok (.ret (.ref (s.heap.push o).objs.size))) { s with heap := (s.heap.push o).push { cls := .type "enumerate", data := .fields #[.none, .bool false, .ref s.heap.objs.size, rawInt 0, .none, .none] } }) :=
  .of_wp fun prog w A R s h => by
    obtain ⟨hp, g, d, tk, os⟩ := s
    obtain ⟨h1, h⟩ := h
    have hsub := sub_enumerate
    have walk : ∀ {A' : Around} {E : Value → Shared → Prop} {Q : Value → Shared → Prop}, Q (.ref hp.objs.size) ⟨hp.push o, g, d, tk, os⟩ → wpAny (model prog w) A' (pyIter v) Q E ⟨hp, g, d, tk, os⟩ :=
      fun q => B.iter prog w _ _ ⟨hp, g, d, tk, os⟩ _ h1 q
    wp_walk using walk
    refine wpAny_stack_any fun st => wpAny_pure ?_
    split
    · rename_i c _ _ _ _ _
      cases (c == Value.type "enumerate")
      · wp_walk using walk
        exact ⟨_, rfl, h⟩
      · wp_walk using walk
        exact ⟨_, rfl, h⟩
    · wp_walk using walk
      exact ⟨_, rfl, h⟩
theorem enum_tuple {prog : Program} {w : World} {A : Around} {E : Value → Shared → Prop} {s : Shared} {t : Addr} {items : Array Value} {Q : Value → Shared → Prop} (h1 : s.heap.IsTuple t items)
    (h : ∀ h', IsEnum h' (s.heap.objs.size + 1) s.heap.objs.size 0 .none → h'.IsTupleIter s.heap.objs.size t 0 → h'.objs.size = s.heap.objs.size + 2 →
      (∀ b o, s.heap.get? b = some o → h'.get? b = some o) → Q (.ref (s.heap.objs.size + 1)) { s with heap := h' }) :
    wpAny (model prog w) A (call (.type "enumerate") [.ref t]) Q E s := by
  refine callType_new F.called_enumerate (by decide) (F.typeCall_enumerate_1 _) (F.newCall_enumerate_1 _) (fun obj => F.args_object_init_2 obj _) F.entry_enumerate_new (meets_enum1 (begins_tuple t items)) ⟨h1, ?_⟩
  generalize ho : ({ cls := .type "tuple_iterator", data := .fields #[.ref t, .int 0 0] } : Obj) = o
  have hz : (s.heap.push o).objs.size = s.heap.objs.size + 1 := Heap.size_push ..
  generalize hoe : ({ cls := .type "enumerate", data := .fields #[.none, .bool false, .ref s.heap.objs.size, rawInt 0, .none, .none] } : Obj) = oe
  have hfree : o.isFreed = false := by rw [← ho] <;> rfl
  have hfree2 : oe.isFreed = false := by rw [← hoe] <;> rfl
  have g1 : ((s.heap.push o).push oe).get? (s.heap.objs.size + 1) = some oe := by
    have q := Heap.get?_push_size (s.heap.push o) (o := oe) hfree2
    rw [hz] at q
    exact q
  show _ ∧ _
  rw [hz]
  rw [← hoe] at g1 ⊢
  refine ⟨⟨_, g1, rfl⟩, h _ g1 ⟨o, Heap.get?_push_of_some _ (Heap.get?_push_size _ hfree), by rw [← ho], by rw [← ho] <;> rfl⟩ (by rw [Heap.size_push, hz]) fun b u x => Heap.get?_push_of_some _ (Heap.get?_push_of_some _ x)⟩
/-- the tuple at a, each item in a new pair -/
def IteT (K : PySem.W.Frag) (a : Addr) : It where
  go := fun i H => ∃ (xs : List V) (x : V), SqT K H a xs ∧ xs[i]? = some x
  yld := fun i H v H' => ∃ T x, v = .ref T ∧ H T = none ∧ H' = upd H T (.tup [.int (i : Nat), x]) ∧ ∀ xs, SqT K H a xs → xs[i]? = some x
  stop := fun i H => ∃ xs : List V, SqT K H a xs ∧ xs.length ≤ i
theorem turn_enumT {P : Program} {w : World} {K : PySem.W.Frag} {elts : List Expr} {kk : Nat} {tpos : Pos} (a e it : Addr) :
    Turn P w K (.Tuple elts kk tpos) (IteT K a) [e, it] e (fun i h => (∃ old, IsEnum h e it ((i : Nat) : Int) old) ∧ h.IsTupleIter it a i ∧ e ≠ it ∧ it ≠ a ∧ e ≠ a) where
  mem := by simp
  obj := by
    rintro i h ⟨⟨old, he⟩, ⟨o, ho, _, hd⟩, _⟩ b hb
    rcases List.mem_cons.mp hb with z | z
    · subst z
      exact ⟨_, he, fun v q => nomatch q⟩
    · have z : b = it := by simpa using z
      subst z
      exact ⟨o, ho, fun v q => by rw [hd] at q; cases q⟩
  keep := by
    rintro i h h' ⟨⟨old, he⟩, hi, hne⟩ k
    exact ⟨⟨old, k e (by simp) _ he⟩, hi.at fun o q => k it (by simp) o q, hne⟩
  item := by
    rintro X rfl rfl rfl hc i pins s σ H E I hf ⟨⟨old, he⟩, hit, hne, hia, hea⟩ ⟨xs, x, hq, hx⟩
    obtain ⟨its, rv, p, hz⟩ := I.tuple hq
    obtain ⟨u, hu, ru⟩ := rv.get hx
    have hel : e < s.heap.objs.size := Heap.lt_size he
    have hil : it < s.heap.objs.size := by obtain ⟨_, q, _⟩ := hit; exact Heap.lt_size q
    have D := Draws.tuple (prog := X.prog) (w := X.w) (A := X.A.in1) (show X.A.in1.handled = none from I.ok.hd hc) it a (Ne.symm hia) its.toArray
    have hi : i < its.toArray.size := by
      have := (List.getElem?_eq_some_iff.mp hu).1
      simpa using this
    have nef : e ∉ [it, a] := by
      intro z
      rcases List.mem_cons.mp z with z | z
      · exact hne z
      · exact hea (by simpa using z)
    refine wpAny_pyNext_enum_itemD D he ⟨hit, p⟩ hi hne nef fun v h1 tk hv ho hs1 hT hsz hk => ?_
    have hvu : v = u := by
      have q : its.toArray[i]? = some v := hv
      have q2 : its[i]? = some v := by simpa using q
      rw [hu] at q2
      exact (Option.some.inj q2).symm
    subst hvu
    refine ⟨_, rfl, wpAny_letOwnedTupleGo_enum (s := { s with heap := h1, toks := tk + 1 }) ho fun h2 he2 sb => ?_⟩
    generalize hT0 : s.heap.objs.size = T at *
    have hT2 : h2.get? T = some { cls := .type "tuple", data := .seq #[.int i tk, v] } := (sb.2 _ (Nat.ne_of_gt hel)).trans hT
    have new : ObjOk X.prog X.w (upd H T (.tup [.int (i : Nat), x])) h2 T (.tup [.int (i : Nat), x]) :=
      ⟨by show 2 ≤ sizeLine; decide, [.int i tk, v], .cons ⟨_, rfl⟩ (.cons ru .nil), ⟨_, hT2, rfl, _, rfl⟩⟩
    have I1 : Inv X pins σ (upd H T (.tup [.int (i : Nat), x])) { s with heap := h2, toks := tk + 1 } := by
      refine I.turnedNew (ch := [e, it]) (fun b ob hb q => ?_) hf (Nat.le_of_eq hT0) new
      have b1 : b ≠ e := fun z => hb (by simp [z])
      have b2 : b ≠ it := fun z => hb (by simp [z])
      exact (sb.2 b b1).trans (hk b ob b1 b2 q)
    refine ⟨.ref T, _, I1, rfl, ⟨_, x, rfl, I.hok.fresh (Nat.le_of_eq hT0), rfl, fun ys hy => by rw [I.tuple_inj hy hq]; exact hx⟩, ⟨⟨v, ?_⟩, hs1.1.at fun o q => (sb.2 it (Ne.symm hne)).trans q, hne, hia, hea⟩, fun b hb => ?_⟩
    · have e1 : ((i + 1 : Nat) : Int) = (i : Int) + 1 := by omega
      rw [e1]
      exact he2
    · have lt : b < T := by
        rcases List.mem_cons.mp hb with z | z
        · rw [z]; exact hel
        · have z : b = it := by simpa using z
          rw [z]; exact hil
      rw [upd_ne (Nat.ne_of_lt lt)]
      exact (hf b hb).1
  done := by
    rintro X rfl rfl rfl hc i pins s σ H E I hf ⟨⟨old, he⟩, hit, hne, hia, hea⟩ ⟨xs, hq, hx⟩
    obtain ⟨its, rv, p, hz⟩ := I.tuple hq
    obtain ⟨f0, f1, f2, f3, f4, f5⟩ := hf it (by simp)
    have hl := rv.length
    have D := Draws.tuple (prog := X.prog) (w := X.w) (A := X.A.in1) (show X.A.in1.handled = none from I.ok.hd hc) it a (Ne.symm hia) its.toArray
    have endD : ∀ j : Nat, s.heap.IsTupleIter it a j → its.length ≤ j → wpAny (model X.prog X.w) X.A (pyNext (.ref e)) (fun r s1 => r = none ∧ Inv X pins σ H s1) E s := fun j hj hle => by
      have hT : s.TypeIs (.ref e) "enumerate" := ⟨_, he, rfl⟩
      unfold pyNext
      refine wpAny_bind (wpAny_attempt (wpAny_callSpecial?_slot (name := Str.ofString "__next__") hT F.slot_enumerate_next
        (wpAny_call_entry F.slot_enumerate_next hT F.entry_enumerate_next ?_ (F.args_enumerate_next_1 _))))
      show wpAny _ _ (field (.ref e) 2 >>= _) _ _ _
      refine wpAny_bind (wpAny_field he rfl (x := .ref it) rfl ?_)
      refine wpAny_bind (wpAny_nextOf_tuple_end (show X.A.in1.handled = none from I.ok.hd hc) hj p (by simpa using hle) fun h' x hx1 hx2 => ?_)
      obtain ⟨o, ho, hcl⟩ := hx2
      refine wpAny_bind (wpAny_isInstance (T := "StopIteration") (b := true) ⟨o, ho, hcl⟩ isSubtype_stop ?_)
      exact wpAny_pure ⟨rfl, I.turned (t' := s.toks) (fun b o hb q => hx1 b o hb q) f0 f1 f3 f4 f5⟩
    exact endD i hit (by omega)
  self := fun A i s Q E st h => let ⟨⟨_, he⟩, _⟩ := st; wpAny_pyIter_enum he h
def iEnumT (K : PySem.W.Frag) (ta : TA) : TI := fun σ H R => ta σ H fun vs H1 => ∃ a xs, vs = [.ref a] ∧ SqT K H1 a xs ∧ R (IteT K a) H1
theorem pi_enumT {X : Cx} {e : Expr} {ta : TA} {p pos tpos : Pos} {elts : List Expr} {kk : Nat} (hg : Gl X "enumerate") (hm : X.mg "enumerate" = none) (ha : PA X [e] ta) (hs : starEach [e] X.env = [(false, eval e X.env)] := by rfl) :
    PI X (.Tuple elts kk tpos) (.Call (.Name "enumerate" p) [e] [] pos) (iEnumT X.K ta) := by
  constructor
  intro pins s σ H R I h
  refine Call_ (ld_blt I hg hm boot_enumerate (PyProof.Rows.callWith_type1 (thn (ha.run pos pins s σ H _ I h) fun us s1 ⟨vs, H1, I1, r1, a, xs, ex, hq, q⟩ => ?_) hs rfl))
  subst ex
  obtain ⟨u, rfl, ru⟩ := vals1 r1
  cases ru
  obtain ⟨its, rv, pt, hz⟩ := I1.tuple hq
  have alt : a < s1.heap.objs.size := pt.lt
  refine enum_tuple pt fun h' he hit hsz hk => wpAny_pyIter_enum he ?_
  have I2 : Inv X pins σ H1 { s1 with heap := h' } := I1.kept (t' := s1.toks) hk
  generalize hn : s1.heap.objs.size = n at *
  refine ⟨n + 1, [n + 1, n], _, _, H1, rfl, I2, turn_enumT a (n + 1) n, ⟨⟨.none, he⟩, hit, Nat.succ_ne_self _, Nat.ne_of_gt alt, Nat.ne_of_gt (Nat.lt_succ_of_lt alt)⟩, fun b hb => ?_, q⟩
  have hle : s1.heap.objs.size ≤ b := by
    rw [hn]
    rcases List.mem_cons.mp hb with z | z
    · rw [z]; exact Nat.le_succ n
    · have z : b = n := by simpa using z
      rw [z]; exact Nat.le_refl n
  exact I1.fpOk hle (I1.hok.fresh hle)
/-- for i, x in enumerate(t), the tuple standing still -/
theorem for_enumT {K : PySem.W.Frag} {a : Addr} {xs : List V} {g : TG} {tb : TS} {D : Ends} {σ : L2.St} {H : Hp} (Pv : Nat → L2.St → Hp → Prop) (h0 : Pv 0 σ H) (hl : ∀ i σ H, i ≤ xs.length → Pv i σ H → SqT K H a xs)
    (hs : ∀ (i : Nat) x T σ H, xs[i]? = some x → Pv i σ H → H T = none → g (.ref T) σ (upd H T (.tup [.int (i : Nat), x])) fun σ2 H2 => tb { D with nx := Pv (i + 1), ct := Pv (i + 1), bk := D.nx } σ2 H2) (hd : ∀ σ H, Pv xs.length σ H → D.nx σ H) :
    ∃ W : Nat → Nat → L2.St → Hp → Prop, (∃ m, W 0 m σ H) ∧ ∀ i m σ H, W i m σ H →
      ((IteT K a).stop i H ∧ D.nx σ H) ∨ ((IteT K a).go i H ∧ ∃ N : L2.St → Hp → Prop, (∀ σ' H', N σ' H' → ∃ m', m' < m ∧ W (i + 1) m' σ' H') ∧ ∀ x H', (IteT K a).yld i H x H' → g x σ H' fun σ2 H2 => tb { D with nx := N, ct := N, bk := D.nx } σ2 H2) := by
  refine ⟨fun i m σ H => m + i = xs.length ∧ Pv i σ H, ⟨xs.length, rfl, h0⟩, ?_⟩
  rintro i m σ H ⟨em, p⟩
  have q := hl i σ H (by omega) p
  by_cases hlt : i < xs.length
  · refine .inr ⟨⟨xs, xs[i], q, List.getElem?_eq_getElem hlt⟩, Pv (i + 1), fun σ' H' p' => ⟨m - 1, by omega, by omega, p'⟩, ?_⟩
    rintro v H' ⟨T, x, rfl, hT, rfl, hy⟩
    exact hs i x T σ H (hy xs q) p hT
  · have e : i = xs.length := by omega
    subst e
    exact .inl ⟨⟨xs, q, Nat.le_refl _⟩, hd σ H p⟩
end K64

/-! set(xs) of a list of ints. -/
namespace K64
open PySem PySem.Spec PyProof.Rows L2

abbrev soBlank (w : World) : Obj := { cls := .type "set", dict := none, data := .set #[] 0 (.fresh 0 0 (!w.params.followText "set-order")) }
section
variable {P : Program} {w : World} {A : Around} {E : Value → Shared → Prop} {s : Shared}
set_option maxHeartbeats 3200000 in
theorem set_of_list {l : Addr} {items : Array Value} (ns : List Int) {Q : Value → Shared → Prop} (hh : A.handled = none) (hl : s.heap.IsList l items) (hit : IntsAre items.toList ns) (hb : ns.length + 1 < scanBound)
    (h : ∀ (h' : Heap) (tk c : Nat), SetR w h' s.heap.objs.size (fun j => decide (j ∈ ns)) c → c ≤ ns.length → (∀ b o, s.heap.get? b = some o → h'.get? b = some o) → Q (.ref s.heap.objs.size) { s with heap := h', toks := tk }) :
    wpAny (model P w) A (call (.type "set") [.ref l]) Q E s := by
  have isz : items.size = ns.length := by
    have q := IntsAre.length hit
    rw [Array.length_toList] at q
    exact q
  obtain ⟨c, tl, hmro⟩ := F.called_set.mro
  have hmade := F.called_set.made
  have hsub := F.called_set.sub
  refine wpAny_call (codeAny_of_tree ?_)
  show wpAny _ _ (callAny (.type "set") _) _ _ _
  refine wpAny_pure ⟨Code.quiet_builtin _ (by decide +kernel), codeAny_builtin F.entry_type_call ?_⟩
  rw [Around.under_plain (weight_type_call_type "set" [.ref l] []) rfl]
  have h1 := F.called_set.notType
  have h2 := F.called_set.canCreate
  have hct := F.typeCall_set_1 (.ref l)
  repeat (any_goals (first | assumption | wp_step))

  refine codeAny_mono (code_set_led1 (.ref l) (E := E) (Q₁ := fun obj s1 => obj = .ref s.heap.objs.size ∧ s1 = { s with heap := s.heap.push (soBlank w) }) ⟨rfl, rfl⟩) fun r s1 hr => ?_
  match r, hr with
  | .error e, hr => exact hr
  | .ok (.ret obj), hr =>
    obtain ⟨rfl, rfl⟩ := hr
    have hS : (s.heap.push (soBlank w)).get? s.heap.objs.size = some (soBlank w) := Heap.get?_push_size _ rfl
    have hT : Shared.TypeIs { s with heap := s.heap.push (soBlank w) } (.ref s.heap.objs.size) "set" := ⟨_, hS, rfl⟩
    have hli := F.called_set.init.lookup
    have hbi := F.called_set.init.bind (.ref s.heap.objs.size)
    repeat (any_goals (first | assumption | wp_step))

    refine codeAny_mono (codeAny_call_builtin (R := wants (fun r s2 => r = .none ∧ ∃ h' tk c, s2 = { s with heap := h', toks := tk } ∧ SetR w h' s.heap.objs.size (fun j => decide (j ∈ ns)) c ∧ c ≤ ns.length ∧
        (∀ b o, s.heap.get? b = some o → h'.get? b = some o)) E) F.called_set.init.plain F.entry_set_init (check_set_init_1 hT ?_)) fun r2 s2 hr2 => ?_
    · obtain ⟨⟨ocls, odict, odata, oslots⟩, hol, hcl, nl, hdl⟩ := hl
      simp only at hcl hdl
      subst hcl; subst hdl
      have hol' : (s.heap.push (soBlank w)).get? l = some { cls := .type "list", dict := odict, data := .seq items nl, slots := oslots } := Heap.get?_push_of_some _ hol
      have hsls := F.sub_list_set
      have hslf := F.sub_list_frozenset
      have hne : (Value.type "list" == Value.type "dict") = false := by decide
      have hl1 : (s.heap.push (soBlank w)).IsList l items := ⟨_, hol', rfl, nl, rfl⟩
      unfold Builtin.«set.__init__» noKeywords Builtin.Frozenset.updateFrom
      generalize hPI : pyIter = PI
      wp_walk
      subst hPI

      refine wpAny_pyIter_list hl1 ?_
      refine wpAny_bind (wpAny_runValue ?_)
      have hlS : l < s.heap.objs.size := Heap.lt_size hol
      have hh3 : A.in1.in1.in1.handled = none := by simp [hh]
      have hz1 : (s.heap.push (soBlank w)).objs.size = s.heap.objs.size + 1 := Heap.size_push ..
      have hneI : l ≠ (s.heap.push (soBlank w)).objs.size := by
        rw [hz1]; exact Nat.ne_of_lt (Nat.lt_succ_of_lt hlS)
      have hSf : s.heap.objs.size ∉ [(s.heap.push (soBlank w)).objs.size, l] := by
        rw [hz1]; simp only [List.mem_cons, List.mem_singleton, List.not_mem_nil, or_false, not_or]
        exact ⟨Nat.ne_of_lt (Nat.lt_succ_self _), Nat.ne_of_gt hlS⟩
      have hval : ∀ (i : Nat) (v : Value), items[i]? = some v → ∃ k t, ns[i]? = some k ∧ v = .int k t := fun i v hv => by
        have hi : i < ns.length := by rw [← isz]; exact (Array.getElem?_eq_some_iff.mp hv).1
        obtain ⟨t, e⟩ := PyProof.Rows.IntsAre.int_at hit i v (by rw [Array.getElem?_toList]; exact hv)
        refine ⟨ns[i], t, List.getElem?_eq_getElem hi, ?_⟩
        rw [e, List.getD_eq_getElem?_getD, List.getElem?_eq_getElem hi] <;> rfl
      refine set_update_ints ((Walks.list hh3 _ l hneI items).toS) s.heap.objs.size
        hSf ns isz hb hval (items.size - 0) 0 _ (by omega) (Nat.zero_le _)
        ⟨⟨_, Heap.get?_push_size _ rfl, rfl, rfl⟩, (hl1.push _)⟩ ?hS0 ?hR
      case hS0 =>
        have hget : ((s.heap.push (soBlank w)).push { cls := .type "list_iterator", data := .fields #[.ref l, .int 0 0] }).get? s.heap.objs.size = some (soBlank w) := Heap.get?_push_of_some _ hS
        exact ⟨0, Nat.le_refl 0, setR_new_at hget⟩
      case hR =>
        intro s' c' hm hc' hS'
        obtain ⟨h', g2, d', tk', os'⟩ := s'
        have eg : g2 = s.gens := hm.gens
        have ed : d' = s.drawn := hm.drawn
        have eo : os' = s.os := hm.os
        subst eg; subst ed; subst eo
        show wpAny _ _ _ _ _ _
        refine wpAny_pure ?_
        show wpAny _ _ (ret Value.none) _ _ _
        rw [isz] at hc'
        refine wpAny_pure ⟨rfl, h', tk', c', rfl, hS', hc', fun b o e => ?_⟩
        have hb0 : b < s.heap.objs.size := Heap.lt_size e
        have hb2 : b ≠ (s.heap.push (soBlank w)).objs.size := by
          rw [hz1]; exact Nat.ne_of_lt (Nat.lt_succ_of_lt hb0)
        exact hm.heap b o (by simp only [List.mem_cons, List.mem_singleton, List.not_mem_nil, or_false, not_or]; exact ⟨Nat.ne_of_lt hb0, hb2⟩) (Heap.get?_push_of_some _ (Heap.get?_push_of_some _ e))
    · match r2, hr2 with
      | .error e, hr2 => exact hr2
      | .ok (.ret r), hr2 =>
        obtain ⟨rfl, h', tk, c', rfl, hS', hc', hk'⟩ := hr2
        repeat (any_goals (first | assumption | wp_step))
        exact h _ _ _ hS' hc' hk'
end
section
variable {X : Cx}
/-- set(xs): the ints of a list -/
def rSetL (K : PySem.W.Frag) (w : World) : List V → Hp → VK → Prop := fun xs H Q => ∃ (l : Addr) (ns : List Int), xs = [.ref l] ∧ SqL K H l (ns.map V.int) ∧ ns.length ≤ 60 ∧
  ∀ (p : Addr) (c : Nat), H p = none → c ≤ ns.length → Q (.ref p) (upd H p (SetO w p (fun j => decide (j ∈ ns)) c))
theorem cr_setL (hc : X.calm = true) : CallR X (.type "set") (rSetL X.K X.w) := by
  intro pins s σ H xs us Q I r h
  obtain ⟨l, ns, rfl, hq, hz, q⟩ := h
  obtain ⟨u, rfl, ru⟩ := vals1 r
  cases ru
  obtain ⟨its, rv, pl, hz2⟩ := I.list hq
  have hi : IntsAre its.toArray.toList ns := by simpa using RZ.intsAre_vals rv
  refine set_of_list ns (I.ok.hd hc) pl.isList hi (by have : scanBound = scanBound := rfl; unfold scanBound; omega) fun h' tk c hS hcl kp => ?_
  have hn : H s.heap.objs.size = none := I.hok.fresh (Nat.le_refl _)
  exact ⟨.ref s.heap.objs.size, upd H s.heap.objs.size (SetO X.w s.heap.objs.size (fun j => decide (j ∈ ns)) c), I.laid (t' := tk) (fun b u e => kp b u e) (Nat.le_refl _) (setO_new hS), rfl, q _ c hn hcl⟩
end
end K64

/-! {elt for a in .. for b in ..}, the elements ints. -/
namespace K64
open PySem PySem.Spec PyProof.Rows L2

/-! what a turn of a set comprehension's clause is worth, without tests. -/
section
variable {prog : Program} {w : World} {A : Around} {R : Result → Shared → Prop} {s : Shared} {elt ta ia tb ib : Expr} {scope : Scope} {pos : Pos} {it acc : Value} {env : Env}
abbrev sc2 (elt ta ia tb ib : Expr) (scope : Scope) (pos : Pos) : Expr := .SetComp elt [⟨ta, ia, [], 0⟩, ⟨tb, ib, [], 0⟩] scope pos
theorem sc2_turn0 : compTurn (sc2 elt ta ia tb ib scope pos) 0 it acc env = (do
      standAt ia.pos
      match ← pyNext it with
      | none => pure (.done .next)
      | some v =>
        letOwnedTupleGo ta it v
        assign ta env v
        let x ← eval ib env
        standAt ib.pos
        let x ← foldedSetIterable ib env x
        let _ ← runOwn (.compStart (sc2 elt ta ia tb ib scope pos) 1 (← holding [x] (pyIter x)) acc env) env
        again (.compLoop (sc2 elt ta ia tb ib scope pos) 0 it acc env)) := by rfl
theorem sc2_turn1 : compTurn (sc2 elt ta ia tb ib scope pos) 1 it acc env = (do
      standAt ib.pos
      match ← pyNext it with
      | none => pure (.done .next)
      | some v =>
        letOwnedTupleGo tb it v
        assign tb env v
        (do let v ← eval elt env; standAt elt.pos; let _ ← call (.builtin "set.add") [acc, v])
        again (.compLoop (sc2 elt ta ia tb ib scope pos) 1 it acc env)) := by rfl
abbrev nB (prog : Program) (w : World) (A : Around) (env : Env) (R : Result → Shared → Prop) : Value → Shared → Prop := notedBy (model prog w) A env fun e s' => R (.error e) s'
theorem sc2_outer (hs : ∀ x, foldedSetIterable ib env x = pure x) (I : Nat → Shared → Prop)
    (turn : ∀ n s, I n s → wpAny (model prog w) A (pyNext it) (fun r s1 => match r with
      | none => R (.ok .next) s1
      | some v => wpAny (model prog w) A (letOwnedTupleGo ta it v) (fun _ s2 => wpAny (model prog w) A (assign ta env v) (fun _ s3 =>
          wpAny (model prog w) A (eval ib env) (fun x s4 => wpAny (model prog w) A (pyIter x) (fun jt s5 =>
              codeAny (model prog w) A (.compStart (sc2 elt ta ia tb ib scope pos) 1 jt acc env) (fun r s' => match r with
                | .ok _ => ∃ m, m < n ∧ I m s'
                | .error _ => False) s5) (nB prog w A env R) s4) (nB prog w A env R) s3) (nB prog w A env R) s2) (nB prog w A env R) s1) (nB prog w A env R) s)
    (n : Nat) (h : I n s) : codeAny (model prog w) A (.compLoop (sc2 elt ta ia tb ib scope pos) 0 it acc env) R s := by
  refine codeAny_loop rfl I (fun n s hI => ?_) n h
  show wpAny _ A ((compTurn (sc2 elt ta ia tb ib scope pos) 0 it acc env).onRaise (fun x => do noteFrame x env; theTreesLotGoes x)) _ _ s
  refine wpAny_noted ?_
  rw [sc2_turn0]
  refine wpAny_bind (wpAny_standAt (wpAny_bind (wpAny_mono (turn n s hI) (fun r s1 k1 => ?_) fun _ _ z => z)))
  match r, k1 with
  | none, k1 => exact wpAny_pure k1
  | some v, k1 =>
    refine wpAny_bind (wpAny_mono k1 (fun _ s2 k2 => ?_) fun _ _ z => z)
    refine wpAny_bind (wpAny_mono k2 (fun _ s3 k3 => ?_) fun _ _ z => z)
    refine wpAny_bind (wpAny_mono k3 (fun x s4 k4 => ?_) fun _ _ z => z)
    refine wpAny_bind (wpAny_standAt (wpAny_bind (wpAny_of_eq (hs x) (wpAny_bind (wpAny_holding (wpAny_mono k4 (fun jt s5 k5 => ?_) fun _ _ z => z))))))
    refine wpAny_bind (wpAny_runOwn ?_)
    rw [Around.mark_none]
    refine codeAny_mono k5 fun r s' hr => ?_
    match r, hr with
    | .ok f, hr => first | exact wpAny_pure ⟨rfl, hr⟩ | exact wpAny_bind (wpAny_pure (wpAny_pure ⟨rfl, hr⟩))
    | .error e, hr => exact hr.elim
theorem sc2_inner (I : Nat → Shared → Prop)
    (turn : ∀ n s, I n s → wpAny (model prog w) A (pyNext it) (fun r s1 => match r with
      | none => R (.ok .next) s1
      | some v => wpAny (model prog w) A (letOwnedTupleGo tb it v) (fun _ s2 => wpAny (model prog w) A (assign tb env v) (fun _ s3 =>
          wpAny (model prog w) A (eval elt env) (fun x s4 => wpAny (model prog w) A (call (.builtin "set.add") [acc, x]) (fun _ s5 => ∃ m, m < n ∧ I m s5) (nB prog w A env R) s4) (nB prog w A env R) s3) (nB prog w A env R) s2) (nB prog w A env R) s1) (nB prog w A env R) s)
    (n : Nat) (h : I n s) : codeAny (model prog w) A (.compLoop (sc2 elt ta ia tb ib scope pos) 1 it acc env) R s := by
  refine codeAny_loop rfl I (fun n s hI => ?_) n h
  show wpAny _ A ((compTurn (sc2 elt ta ia tb ib scope pos) 1 it acc env).onRaise (fun x => do noteFrame x env; theTreesLotGoes x)) _ _ s
  refine wpAny_noted ?_
  rw [sc2_turn1]
  refine wpAny_bind (wpAny_standAt (wpAny_bind (wpAny_mono (turn n s hI) (fun r s1 k1 => ?_) fun _ _ z => z)))
  match r, k1 with
  | none, k1 => exact wpAny_pure k1
  | some v, k1 =>
    refine wpAny_bind (wpAny_mono k1 (fun _ s2 k2 => ?_) fun _ _ z => z)
    refine wpAny_bind (wpAny_mono k2 (fun _ s3 k3 => ?_) fun _ _ z => z)
    exact wpAny_bind (wpAny_bind (wpAny_mono k3 (fun x s4 k4 => wpAny_bind (wpAny_standAt (wpAny_bind (wpAny_mono k4 (fun _ s5 k5 => wpAny_pure (wpAny_pure ⟨rfl, k5⟩)) fun _ _ z => z)))) fun _ _ z => z))
theorem sc2_start1 (h0 : codeAny (model prog w) A (.compLoop (sc2 elt ta ia tb ib scope pos) 1 it acc env) R s)
    (h : wpAny (model prog w) A (pyIter it) (fun jt s' => codeAny (model prog w) A (.compLoop (sc2 elt ta ia tb ib scope pos) 1 jt acc env) R s') (nB prog w A env R) s) :
    codeAny (model prog w) A (.compStart (sc2 elt ta ia tb ib scope pos) 1 it acc env) R s := by
  refine codeAny_of_tree ?_
  show wpAny _ _ ((compStart (sc2 elt ta ia tb ib scope pos) 1 it acc env).onRaise (fun x => do noteFrame x env; standAt theWindowsPlace)) _ _ s
  refine wpAny_notedAt ?_
  unfold compStart
  show wpAny _ _ (ask >>= _) _ _ s
  refine wpAny_bind (wpAny_askSetting (wpAny_ite ?_))
  split
  · first
      | exact wpAny_bind (wpAny_pure (wpAny_pure (And.intro rfl h0)))
      | exact wpAny_pure (And.intro rfl h0)
  · have go : ∀ {α : Type} (f : Value → Sem α) (Q : α → Shared → Prop), (∀ jt s', codeAny (model prog w) A (.compLoop (sc2 elt ta ia tb ib scope pos) 1 jt acc env) R s' → wpAny (model prog w) A (f jt) Q (nB prog w A env R) s') → wpAny (model prog w) A (pyIter it >>= f) Q (nB prog w A env R) s :=
      fun f Q k => wpAny_bind (wpAny_mono h (fun jt s' z => k jt s' z) fun _ _ z => z)
    first
      | exact wpAny_bind (wpAny_rule (wpAny_bind (wpAny_standAt (go _ _ fun jt s' z => wpAny_pure (And.intro rfl z)))))
      | (refine wpAny_bind (wpAny_rule ?_); show wpAny _ _ (standAt ib.pos >>= _) _ _ s; exact wpAny_bind (wpAny_standAt (go _ _ fun jt s' z => wpAny_pure (And.intro rfl z))))
end

section
variable {X : Cx}
/-- an int added to a tracked set -/
theorem add_ok {pins : List (Addr × Obj)} {σ : L2.St} {H : Hp} {s : Shared} {E : Value → Shared → Prop} {D : Addr} {S : Int → Bool} {n : Nat} {k : Int} {u : Value} {Q : Value → Shared → Prop} (I : Inv X pins σ H s) (hD : H D = some (SetO X.w D S n)) (room : n + 1 < scanBound) (ru : RelV (.int k) u)
    (h : ∀ s', Inv X pins σ (upd H D (SetO X.w D (fun j => S j || decide (j = k)) (if S k = true then n else n + 1))) s' → Q .none s') : wpAny (model X.prog X.w) X.A (call (.builtin "set.add") [.ref D, u]) Q E s := by
  obtain ⟨tk, rfl⟩ := ru
  refine setR_add (setO_get I hD) room fun h' sb new => ?_
  have he : ∃ u, h'.get? D = some u := by
    have ⟨o, _, _, _, ho, _⟩ := new
    exact ⟨o, ho⟩
  exact h _ (I.write (e := D) (t' := s.toks + 1) (by rw [hD]; trivial) (.inl rfl) (fun b u hb hu => (sb.2 b hb).trans hu) he (setO_new new))
/-- the reading: as that of a list comprehension with two clauses, the new object a set of ints -/
def tSc2 (w : World) (wi : TI) (g : TG) (wj : TI) (g1 : TG) (te : TE) (vs vs1 : List Nat) : TE := fun σ H Q => wi σ H fun J H1 => ∀ D, H1 D = none → ∃ W : Nat → Nat → Hp → Prop, (∃ m, W 0 m (upd H1 D (SetO w D (fun _ => false) 0))) ∧ ∀ i m H, W i m H →
  (J.stop i H ∧ Q (.ref D) H) ∨ (J.go i H ∧ ∃ Nx : Hp → Prop, (∀ H', Nx H' → ∃ m', m' < m ∧ W (i + 1) m' H') ∧ ∀ x H', J.yld i H x H' → g x (wipe σ vs) H' fun σ2 H2 => wipe σ2 vs = wipe σ vs ∧
    wj σ2 H2 fun J1 H4 => ∃ W1 : Nat → Nat → Hp → Prop, (∃ m, W1 0 m H4) ∧ ∀ j k H, W1 j k H →
      (J1.stop j H ∧ Nx H) ∨ (J1.go j H ∧ ∃ Nx1 : Hp → Prop, (∀ H', Nx1 H' → ∃ k', k' < k ∧ W1 (j + 1) k' H') ∧ ∀ x H', J1.yld j H x H' → g1 x (wipe σ2 vs1) H' fun σ3 H5 => wipe σ3 vs1 = wipe σ2 vs1 ∧
        te σ3 H5 fun y H7 => ∃ (c : Int) (S : Int → Bool) (n : Nat), y = .int c ∧ H7 D = some (SetO w D S n) ∧ n + 1 < scanBound ∧ Nx1 (upd H7 D (SetO w D (fun j => S j || decide (j = c)) (if S c = true then n else n + 1)))))
theorem pe_sc2 {elt ta ia tb ib : Expr} {scope : Scope} {own : List (PySem.Str × Nat)} {vs1 : List Nat} {pos : Pos} {wi wj : TI} {g g1 : TG} {te : TE} (hc : X.calm = true) (hN : X.N.Nodup) (hi : PI X ta ia wi) (ok : BlkOk X.N X.env.scope scope own) (hv : ∀ i ∈ vs1, i ∈ own.map (·.2))
    (hg : ∀ (s : Shared) (H : Hp) (C : Addr) (cl : List (PySem.Str × Addr)) (fp : List Addr), PG (X.blk s H scope (compEnvC scope cl C X.env) fp) ta g)
    (hi1 : ∀ (s : Shared) (H : Hp) (C : Addr) (cl : List (PySem.Str × Addr)) (fp : List Addr), PI (X.blk s H scope (compEnvC scope cl C X.env) fp) tb ib wj)
    (hg1 : ∀ (s : Shared) (H : Hp) (C : Addr) (cl : List (PySem.Str × Addr)) (fp : List Addr), PG (X.blk s H scope (compEnvC scope cl C X.env) fp) tb g1)
    (he : ∀ (s : Shared) (H : Hp) (C : Addr) (cl : List (PySem.Str × Addr)) (fp : List Addr), PE (X.blk s H scope (compEnvC scope cl C X.env) fp) elt te) (hs : ∀ x, foldedSetIterable ia X.env x = pure x := by intro _; rfl) (hs1 : ∀ env x, foldedSetIterable ib env x = pure x := by intro _ _; rfl) :
    PE X (.SetComp elt [⟨ta, ia, [], 0⟩, ⟨tb, ib, [], 0⟩] scope pos) (tSc2 X.w wi g wj g1 te (own.map (·.2)) vs1) := by
  constructor
  intro pins s σ H Q I h
  rw [PpSet.eval_SetComp]
  have cellsThere : ∀ y ∈ scope.names, y.2 = .free → ∃ c, X.env.cells.lookup y.1 = some c := fun y hy e =>
    (ok.free y hy e).elim (fun k => I.ok.has _ (.inl k)) (fun k => I.ok.has _ (.inr k))
  refine wpAny_comprehension_free (use := none) rfl hs (closure_ok cellsThere) ok.kind (fun y hy e => by rw [ok.uniq y hy, e])
    (thn (hi.run pins s σ H _ I h) fun xv s1 hx => thn hx fun itv s2 h2 => ?_)
  obtain ⟨it, fp, tn, J, H2, e, I2, T, st2, f2, q⟩ := h2
  subst e
  refine PpSet.newSet_ok (newEnv_comp ?_)
  generalize hD : s2.heap.objs.size = D
  have hDn : H2 D = none := I2.hok.fresh (Nat.le_of_eq hD)
  obtain ⟨W, ⟨m0, w0⟩, turn⟩ := q D hDn
  generalize hb : ({ cls := .type "set", dict := none, data := .set #[] 0 (.fresh 0 0 (!X.w.params.followText "set-order")) } : Obj) = blank
  generalize hs3 : ({ s2 with heap := s2.heap.push blank } : Shared) = s3
  have h3 : s3.heap = s2.heap.push blank := by rw [← hs3]
  generalize hH3 : upd H2 D (SetO X.w D (fun _ => false) 0) = H3 at w0
  have I3 : Inv X pins σ H3 s3 := by
    rw [← hs3, ← hH3]
    refine I2.laid (t' := s2.toks) (fun b o e => Heap.get?_push_of_some _ e) (Nat.le_of_eq hD) ?_
    rw [← hD, ← hb]
    exact setO_new (setR_fresh X.w)
  have young : ∀ b ∈ fp, FpOk X pins H3 b ∧ b < s3.heap.objs.size := fun b hb' => by
    obtain ⟨o, e, _⟩ := T.obj _ _ st2 b hb'
    have lt := Heap.lt_size e
    have ne : b ≠ D := by rw [← hD]; exact Nat.ne_of_lt lt
    refine ⟨⟨?_, (f2 b hb').2⟩, by rw [h3, Heap.size_push]; exact Nat.lt_succ_of_lt lt⟩
    rw [← hH3, upd_ne ne]
    exact (f2 b hb').1
  have I4 := block_start I3 ok hN young
  have kg := hg s3 H3 s3.heap.objs.size (cellsFrom (s3.heap.objs.size + 1) scope.names (cloFrom X.env.cells scope.names [])) fp
  have ki := hi1 s3 H3 s3.heap.objs.size (cellsFrom (s3.heap.objs.size + 1) scope.names (cloFrom X.env.cells scope.names [])) fp
  have kg1 := hg1 s3 H3 s3.heap.objs.size (cellsFrom (s3.heap.objs.size + 1) scope.names (cloFrom X.env.cells scope.names [])) fp
  have ke := he s3 H3 s3.heap.objs.size (cellsFrom (s3.heap.objs.size + 1) scope.names (cloFrom X.env.cells scope.names [])) fp
  show codeAny _ _ (.compStart (sc2 elt ta ia tb ib scope pos) 0 (.ref it) (.ref D) (compEnvC scope (cellsFrom (s3.heap.objs.size + 1) scope.names (cloFrom X.env.cells scope.names [])) s3.heap.objs.size X.env)) (compPost (model X.prog X.w) X.A X.xe none (EP X pins σ Q) (.ref D) s3.heap.objs.size) { s3 with heap := pushCells (s3.heap.push { cls := .type "dict", data := .dict #[] }) scope.names }
  generalize hce : compEnvC scope (cellsFrom (s3.heap.objs.size + 1) scope.names (cloFrom X.env.cells scope.names [])) s3.heap.objs.size X.env = ce at I4 kg ki kg1 ke ⊢
  have cL : ce.locals = s3.heap.objs.size := by subst hce; rfl
  generalize hs4 : ({ s3 with heap := pushCells (s3.heap.push { cls := .type "dict", data := .dict #[] }) scope.names } : Shared) = s4 at I4 ⊢
  have st4 : tn 0 s4.heap := T.keep _ _ _ st2 fun b _ o e => by
    rw [← hs4]
    exact pushCells_keeps _ _ _ _ (Heap.get?_push_of_some _ (by rw [h3]; exact Heap.get?_push_of_some _ e))
  generalize hB : X.blk s3 H3 scope ce fp = B at I4 kg ki kg1 ke
  have Bx : ∀ {σ' : L2.St} {H' : Hp} {s' : Shared}, Inv B [] σ' H' s' → (∀ b ∈ fp, H' b = none) → ∀ b ∈ fp, FpOk B [] H' b := fun {σ' H' s'} I' hn b hb' => by
    subst hB
    exact ⟨hn b hb', (I'.ok.exf b hb').1, I'.ok.exfs b hb', .inl hb', fun x c e => (I'.ok.exf b hb').2 x c e, fun p hp => absurd (show p ∈ ([] : List (Addr × Obj)) ++ [] from hp) (by simp)⟩
  have bp : B.prog = X.prog := by rw [← hB]
  have bw : B.w = X.w := by rw [← hB]
  have bK : B.K = X.K := by rw [← hB]
  have bA : B.A = X.A := by rw [← hB]
  have be : B.env = ce := by rw [← hB]
  have bc : B.calm = true := by rw [← hB]; exact hc
  have bx : B.xe = fun _ _ => False := by rw [← hB]
  -- the block's places between two turns
  let σ0 : L2.St := wipe σ (own.map (·.2))
  let St0 : Nat → Shared → Prop := fun n s' => ∃ i H', Inv B [] σ0 H' s' ∧ tn i s'.heap ∧ (∀ b ∈ fp, H' b = none) ∧ W i n H'
  have loop : codeAny (model X.prog X.w) X.A (.compLoop (sc2 elt ta ia tb ib scope pos) 0 (.ref it) (.ref D) ce) (compPost (model X.prog X.w) X.A X.xe none (EP X pins σ Q) (.ref D) s3.heap.objs.size) s4 := by
    refine sc2_outer (hs1 ce) St0 ?_ m0 ⟨0, H3, I4, st4, fun b hb' => (young b hb').1.1, w0⟩
    rintro n s5 ⟨i, H5, I5, st5, n5, w5⟩
    rcases turn i n H5 w5 with ⟨stop, qq⟩ | ⟨go, Nx, hNx, step⟩
    · have td := T.done B bp bw bK bc i [] s5 _ H5 (fun _ _ => False) I5 (Bx I5 n5) st5 stop
      rw [bA] at td
      refine thnF td fun r s6 ⟨hr, I6⟩ => ?_
      subst hr
      subst hB
      have I7 : Inv X pins σ H5 s6 := I3.call' (ch := fp) I6.os I6.base I6.hok I6.bare fun b hb' => ⟨(young b hb').1.2.2.2.1, (young b hb').1.2.1, (young b hb').1.2.2.2.2.1, (young b hb').1.2.2.2.2.2⟩
      have nC : H5 s3.heap.objs.size = none := by
        rw [← cL]
        exact I6.free
      obtain ⟨m, hn, _⟩ := I6.loc
      have hn : s6.heap.Ns ce.locals m := hn
      rw [cL] at hn
      refine ⟨m, hn, fun h'' sb => ?_⟩
      obtain ⟨f0, f1, f2', f3, f4, f5⟩ := I3.fpOk (H' := H5) (Nat.le_refl _) nC
      exact ⟨.ref D, H5, I7.turned (t' := s6.toks) (fun b o hb e => (sb.2 b hb).trans e) f0 f1 f3 f4 f5, rfl, qq⟩
    · have ti := T.item B bp bw bK bc i [] s5 _ H5 (fun _ _ => False) I5 (Bx I5 n5) st5 go
      rw [bA] at ti
      refine thnF ti fun r s6 ⟨u, hr, h6⟩ => ?_
      subst hr
      refine thnF h6 fun _ s7 ⟨x, H7, I7, r7, y7, st7, n7⟩ => ?_
      have I7' := I7.pinned (Bx I7 n7) (T.obj _ _ st7)
      have r8 := kg.run _ s7 _ H7 x u _ I7' r7 (step x H7 y7)
      rw [bp, bw, bA, be, bx] at r8
      refine thnF r8 fun _ s8 ⟨σ8, H8, I8, hw8, q8⟩ => ?_
      -- back at the turn's end, from any slots that know what the block knew at its start
      have fin : ∀ {σ9 : L2.St} {s' : Shared} {H' : Hp}, Inv B ([] ++ pinsAt fp s7.heap) σ9 H' s' → σ0.length = σ9.length → (∀ (j : Nat) v, σ0[j]? = some (some v) → σ9[j]? = some (some v)) → Nx H' → ∃ m, m < n ∧ St0 m s' := fun {σ9 s' H'} I' hl hk nx => by
        obtain ⟨m', hm, w'⟩ := hNx H' nx
        have stay : ∀ b ∈ fp, ∀ o, s7.heap.get? b = some o → s'.heap.get? b = some o ∧ H' b = none := fun b hb' o e =>
          ⟨(I'.pin (b, o) (List.mem_append_right _ (List.mem_append_right _ (mem_pinsAt hb' e)))).1, (I'.pin (b, o) (List.mem_append_right _ (List.mem_append_right _ (mem_pinsAt hb' e)))).2.1⟩
        refine ⟨m', hm, i + 1, H', (I'.unpinned (pins := [])).weak hl hk, T.keep _ _ _ st7 fun b hb' o e => (stay b hb' o e).1, fun b hb' => ?_, w'⟩
        obtain ⟨o, e, _⟩ := T.obj _ _ st7 b hb'
        exact (stay b hb' o e).2
      have len8 : σ0.length = σ8.length := by
        have q := congrArg List.length hw8
        rw [wipe_length, wipe_length] at q
        show (wipe σ (own.map (·.2))).length = σ8.length
        rw [wipe_length, q]
      have know : ∀ (j : Nat) v, σ0[j]? = some (some v) → (wipe σ8 vs1)[j]? = some (some v) := fun j v e => by
        have e : (wipe σ (own.map (·.2)))[j]? = some (some v) := e
        rw [← hw8] at e
        obtain ⟨e1, e2⟩ := wipe_some e
        rw [wipe_out fun z => e2 (hv j z)]
        exact e1
      have r9 := ki.run _ s8 σ8 H8 _ I8 q8
      rw [bp, bw, bA, be, bx] at r9
      refine thnF r9 fun xv s10 hx => thnF hx fun itv s11 h11 => ?_
      obtain ⟨it1, fp1, tn1, J1, H11, e1, I11, T1, st11, f11, W1, ⟨m1, w1⟩, turn1⟩ := h11
      subst e1
      rw [bp, bw, bK] at T1
      have young1 : ∀ {H' : Hp}, (∀ b ∈ fp1, H' b = none) → ∀ b ∈ fp1, FpOk B ([] ++ pinsAt fp s7.heap) H' b := fun hn b hb' => ⟨hn b hb', (f11 b hb').2⟩
      let St1 : Nat → Shared → Prop := fun k s' => ∃ j H', Inv B ([] ++ pinsAt fp s7.heap) (wipe σ8 vs1) H' s' ∧ tn1 j s'.heap ∧ (∀ b ∈ fp1, H' b = none) ∧ W1 j k H'
      have loop1 : codeAny (model X.prog X.w) X.A (.compLoop (sc2 elt ta ia tb ib scope pos) 1 (.ref it1) (.ref D) ce) (fun r s' => match r with | .ok _ => ∃ m, m < n ∧ St0 m s' | .error _ => False) s11 := by
        refine sc2_inner St1 ?_ m1 ⟨0, H11, I11.weak (wipe_length _ _) (fun j v e => (wipe_some e).1), st11, fun b hb' => (f11 b hb').1, w1⟩
        rintro k s12 ⟨j, H12, I12, st12, n12, w12⟩
        rcases turn1 j k H12 w12 with ⟨stop1, nx1⟩ | ⟨go1, Nx1, hNx1, step1⟩
        · have td := T1.done B bp bw bK bc j _ s12 _ H12 (fun _ _ => False) I12 (young1 n12) st12 stop1
          rw [bA] at td
          refine thnF td fun r s13 ⟨hr, I13⟩ => ?_
          subst hr
          exact fin I13 (len8.trans (wipe_length σ8 vs1).symm) know nx1
        · have ti := T1.item B bp bw bK bc j _ s12 _ H12 (fun _ _ => False) I12 (young1 n12) st12 go1
          rw [bA] at ti
          refine thnF ti fun r s13 ⟨u1, hr, h13⟩ => ?_
          subst hr
          refine thnF h13 fun _ s14 ⟨x1, H14, I14, r14, y14, st14, n14⟩ => ?_
          have I14' := I14.pinned (young1 n14) (T1.obj _ _ st14)
          have r15 := kg1.run _ s14 _ H14 x1 u1 _ I14' r14 (step1 x1 H14 y14)
          rw [bp, bw, bA, be, bx] at r15
          refine thnF r15 fun _ s15 ⟨σ15, H15, I15, hw15, q15⟩ => ?_
          have r16 := ke.run _ s15 σ15 H15 _ I15 q15
          rw [bp, bw, bA, be, bx] at r16
          refine thnF r16 fun z s16 ⟨yv, H16, I16, rz, cc, S0, n0, ey, hD16, hz16, nx⟩ => ?_
          subst ey
          have ad := add_ok (X := B) (E := nB X.prog X.w X.A ce fun r s' => match r with | .ok _ => ∃ m, m < n ∧ St0 m s' | .error _ => False) (Q := fun _ s5 => ∃ m, m < k ∧ St1 m s5) I16 (by rw [bw]; exact hD16) hz16 rz fun s17 I17 => by
            obtain ⟨m', hm, w'⟩ := hNx1 _ nx
            rw [bw] at I17
            have stay : ∀ b ∈ fp1, ∀ o, s14.heap.get? b = some o → s17.heap.get? b = some o ∧ _ := fun b hb' o e =>
              ⟨(I17.pin (b, o) (List.mem_append_right _ (List.mem_append_right _ (mem_pinsAt hb' e)))).1, (I17.pin (b, o) (List.mem_append_right _ (List.mem_append_right _ (mem_pinsAt hb' e)))).2.1⟩
            refine ⟨m', hm, j + 1, _, I17.unpinned.weak (by rw [← hw15, wipe_length]) (fun j v e => by rw [← hw15] at e; exact (wipe_some e).1), T1.keep _ _ _ st14 fun b hb' o e => (stay b hb' o e).1, fun b hb' => ?_, w'⟩
            obtain ⟨o, e, _⟩ := T1.obj _ _ st14 b hb'
            exact (stay b hb' o e).2
          rw [bp, bw, bA] at ad
          exact ad
      exact sc2_start1 loop1 (T1.self X.A 0 _ _ _ st11 loop1)
  exact PpSet.codeAny_compStart_set loop (T.self X.A 0 _ _ _ st4 loop)
end
end K64

/-! A loop over an own object whose __iter__ hands back iter(t) of a tuple. -/
namespace K64
open PySem PySem.Spec PyProof.Rows L2

/-- iter(t) -/
abbrev tiObj (t : Addr) (i : Nat) : Obj := { cls := .type "tuple_iterator", data := .fields #[.ref t, .int i 0] }
def ItTO (t it : Addr) : HO := .ext fun h => h.get? it = some (tiObj t 0)
theorem itTO_ok {P : Program} {w : World} {H : Hp} {h : Heap} {t it : Addr} (e : h.get? it = some (tiObj t 0)) : ObjOk P w H h it (ItTO t it) := ⟨e, ⟨_, e⟩, fun h1 h2 q k => k _ q⟩
def rIterT (K : PySem.W.Frag) (n : Nat) : List V → Hp → VK → Prop := fun xs H Q => ∃ (t : Addr) (zs : List V), xs = [.ref t] ∧ SqT K H t zs ∧ ∀ it, H it = none → n ≤ it → Q (.ref it) (upd H it (ItTO t it))
section
variable {X : Cx}
theorem cr_iterT : CallR X (.builtin "iter") (rIterT X.K X.s_0.heap.objs.size) := by
  intro pins s σ H xs us Q I r h
  obtain ⟨t, zs, rfl, hq, q⟩ := h
  obtain ⟨u, rfl, ru⟩ := vals1 r
  cases ru
  obtain ⟨its, rv, p, hz⟩ := I.tuple hq
  refine Calls.call_function_entry (by decide +kernel) (by decide +kernel) PySem.W.kdk_entry_iter (PySem.W.kdk_args_iter _) ?_
  unfold Builtin.«iter»
  refine wpAny_bind (m := someArgs "iter" 1 2 _) (wpAny_of_eq (a := [Value.ref t]) (by first | rfl | kernel_rfl!) ?_)
  show wpAny _ _ (pyIter (.ref t) >>= _) _ _ _
  refine wpAny_bind (wpAny_pyIter_tuple (show s.heap.IsTuple t its.toArray from p) (wpAny_pure ⟨_, rfl, ?_⟩))
  exact ⟨.ref s.heap.objs.size, _, I.laid (t' := s.toks) (fun b u e => Heap.get?_push_of_some _ e) (Nat.le_refl _) (itTO_ok (Heap.get?_push_size _ rfl)), rfl, q _ (I.hok.fresh (Nat.le_refl _)) I.sz⟩
end

/-- a def's promise that may speak of the heap's size at its entry -/
structure FnS (P : Program) (w : World) (K : PySem.W.Frag) (mg : Str → Option Value) (base : Heap) (CX : CXT) (k : Nat) (f : Addr) (fd : FuncData) (ps : List Str) (sp : Nat → Sp) : Prop where
  len : ∀ n vs H Q E, sp n vs H Q E → vs.length = ps.length
  run : ∀ (A : Around) (outer : List Env) (s : Shared) (H : Hp) (args : Args) (us : List Value) (vs : List V) (Q : VK) (E : XK), Room k A → Env0 P w K mg base A outer s H → BindsTo s fd args (ps.zip us) → Vals vs us → sp s.heap.objs.size vs H Q E →
    codeAny (model P w) A (.call (.ref f) args) (CR CX outer P w H s Q E) s
section
variable {P : Program} {w : World} {K : PySem.W.Frag} {mg : Str → Option Value} {base : Heap} {CX : CXT}
theorem fns_of {k : Nat} {f : Addr} {name qual : Str} {params : Arguments} {body : List Stmt} {scope : Scope} {dV kV doc pm cdv ct oc : Value} {an od : Option Addr} {osl : Array (Option Value)} {N ps : List Str} {sp : Nat → Sp}
    (lk : K.lookup f = some ⟨oc, od, .func (PySem.W.fnOf name qual params body scope dV kV doc pm an cdv ct), osl⟩) (hcd : PySem.W.codeIn K cdv qual = true) (S : FnScope N ps scope) (len : ∀ n vs H Q E, sp n vs H Q E → vs.length = ps.length)
    (hbody : ∀ (A : Around) (outer : List Env) (s : Shared) (H : Hp) (vs : List V) (Q : VK) (E : XK), Room k (A.deeper (envOfC qual scope s.heap.objs.size f cdv)) → sp s.heap.objs.size vs H Q E →
      ∃ t, PSs (cxOf CX P w K mg base N qual scope f cdv A outer s H E) body t ∧ t { nx := fun _ H' => Q .non H', rt := Q } (start N vs) H) :
    FnS P w K mg base CX (k + 1) f (PySem.W.fnOf name qual params body scope dV kV doc pm an cdv ct) ps sp := by
  refine ⟨len, fun A outer s H args us vs Q E hr e0 hb r hsp => ?_⟩
  have hl := len _ _ _ _ _ hsp
  have KX : K.In s.heap := e0.mod.kin.keeps fun b o e => (e0.bs b o e).1
  have lim : s.heap.NoLimit := e0.mod.nolimit.keeps fun b o e => (e0.bs b o e).1
  refine codeAny_call_function hr.depth (KX _ _ lk) rfl S.co S.gen rfl (PySem.W.codeRec_of KX hcd) (hb _ _ _ _ ?_)
  refine wpAny_newFunctionEnv_cells S.kind (fun ⟨n, v⟩ hy => ?_) fun env he s1 x => ?_
  · rcases S.par n (List.of_mem_zip hy).1 with q | q
    · exact .inl q
    · exact .inr ⟨q, PySem.W.cellsFrom_some _ _ _ (.inl q)⟩
  · subst he
    refine ⟨lim.keeps x.toInCall.keep, codeAny_func ?_⟩
    obtain ⟨t, ht, hq⟩ := hbody A outer s H vs Q E (hr.deeper _) hsp
    refine wpAny_mono (ht.run [] s1 (start N vs) H _ (inv_start S hr.hd e0 hl r x) hq) (fun fl s2 hs => ?_) fun e s2 hs => hs
    match fl, hs with
    | .ret u, hs =>
      obtain ⟨v, σ2, H2, J, rv, q⟩ := hs
      exact ⟨v, H2, J.os, J.bare, J.base, J.hok, rv, q⟩
    | .next, hs =>
      obtain ⟨σ2, H2, J, q⟩ := hs
      exact ⟨.non, H2, J.os, J.bare, J.base, J.hok, rfl, q⟩
    | .brk, hs =>
      obtain ⟨_, _, _, q⟩ := hs
      exact q.elim
    | .cont, hs =>
      obtain ⟨_, _, _, q⟩ := hs
      exact q.elim
end
/-- the promise of such an __iter__: tp tells the tuple of an object -/
def spIterT (tp : Hp → Addr → Addr → List V → Prop) : Nat → Sp := fun n vs H Q _ => ∃ a t xs, vs = [.ref a] ∧ tp H a t xs ∧ ∀ it, H it = none → n ≤ it → Q (.ref it) (upd H it (ItTO t it))
def iOwnT (C : Addr) (K : PySem.W.Frag) (tp : Hp → Addr → Addr → List V → Prop) (te : TE) : TI := fun σ H R => te σ H fun x H1 => ∃ a dx fs t xs, x = .ref a ∧ H1 a = some (.ins C dx fs) ∧ tp H1 a t xs ∧ SqT K H1 t xs ∧ R (Itt K t) H1
section
variable {X : Cx} {CX : CXT} {k : Nat} {C f : Addr} {fd : FuncData} {ps : List Str} {E : XK} {tp : Hp → Addr → Addr → List V → Prop}
theorem pi_ownT {tg e : Expr} {te : TE} (he : PE X e te) (F : FnS X.prog X.w X.K X.mg X.base CX k f fd ps (spIterT tp)) (hr : Room k X.A) (hb : Binds X.K fd ps []) (hx : Passes CX X E)
    (hs : PySem.W.findIn X.K (.ref C) "__iter__" = some (some (.ref f))) (hf : PySem.W.isFn X.K (.ref f) = true) : PI X tg e (iOwnT C X.K tp te) := by
  constructor
  intro pins s σ H R I h
  refine thn (he.run pins s σ H _ I h) fun v s1 ⟨x, H1, I1, r1, a, dx, fs, t, xs, ex, ha, htp, hq, q⟩ => ?_
  subst ex
  cases r1
  obtain ⟨mA, J, _⟩ := ins_get I1.hok ha
  obtain ⟨od, J, _⟩ := J.look
  obtain ⟨m, hF⟩ := I1.fr
  refine PySem.W.owit_iter hF I1.ok.mod.kin J hs hf ?_
  have hsp : spIterT tp s1.heap.objs.size [.ref a] H1 (fun v H' => ∃ it, v = .ref it ∧ H1 it = none ∧ s1.heap.objs.size ≤ it ∧ H' = upd H1 it (ItTO t it)) E := by
    refine ⟨a, t, xs, rfl, htp, fun it h1 h2 => ⟨it, rfl, h1, h2, rfl⟩⟩
  have hl : ([Value.ref a] ++ []).length = ps.length := by
    rw [← F.len _ _ _ _ _ hsp]
    rfl
  have bt := hb s1 [.ref a] I1.kIn hl
  refine wpAny_call (codeAny_mono (F.run X.A X.stack s1 H1 ⟨[.ref a], []⟩ [.ref a] [.ref a] _ E hr I1.env0 bt (.cons rfl .nil) hsp) fun res s2 hq2 => ?_)
  match res, hq2 with
  | .error er, hq2 => exact hx pins σ H1 s1 er s2 I1 hq2
  | .ok (.ret u), hq2 =>
    obtain ⟨v, H2, I2, rv, it, ev, hit, hle, eH⟩ := I1.after hq2
    subst ev
    subst eH
    cases rv
    have tracked : (upd H1 it (ItTO t it)) it = some (ItTO t it) := upd_same
    have ob : s2.heap.get? it = some (tiObj t 0) := (I2.hok it _ tracked).1
    have I3 := ItX.inv_drop I2 tracked
    have fp := ItX.inv_fp I2 tracked (Nat.le_trans I1.sz hle)
    rw [ItX.dropH_upd hit] at I3 fp
    have hT : s2.TypeIs (.ref it) "tuple_iterator" := ⟨_, ob, rfl⟩
    show wpAny _ _ (specialOf (.ref it) "__next__") _ _ _
    refine wpAny_specialOf hT PySem.F.slot_tuple_iterator_next.lookup ?_
    refine ⟨it, [it], _, _, H1, rfl, I3, turn_tuple t it, ⟨_, ob, rfl, rfl⟩, fun b hb' => ?_, q⟩
    have e : b = it := by simpa using hb'
    rw [e]
    exact fp
end
end K64

/-! The plain mathematics, part 1: words as numbers, maps that respect sums, parity, spans. -/
namespace K64

/-! ### maps that respect sums -/
def Lin (f : Nat → Nat) : Prop := ∀ a b, f (a ^^^ b) = f a ^^^ f b
def LinB (f : Nat → Bool) : Prop := ∀ a b, f (a ^^^ b) = (f a ^^ f b)
theorem Lin.zero {f : Nat → Nat} (h : Lin f) : f 0 = 0 := by
  have e := h 0 0
  rw [Nat.xor_self, Nat.xor_self] at e
  exact e
theorem LinB.zero {f : Nat → Bool} (h : LinB f) : f 0 = false := by
  have e := h 0 0
  rw [Nat.xor_self] at e
  cases q : f 0 with
  | false => rfl
  | true => rw [q] at e; cases e
theorem Lin.comp {f g : Nat → Nat} (hf : Lin f) (hg : Lin g) : Lin fun x => f (g x) := fun a b => by
  show f (g (a ^^^ b)) = _
  rw [hg, hf]
theorem LinB.comp {f : Nat → Bool} {g : Nat → Nat} (hf : LinB f) (hg : Lin g) : LinB fun x => f (g x) := fun a b => by
  show f (g (a ^^^ b)) = _
  rw [hg, hf]
theorem linB_bit (k : Nat) : LinB fun x => x.testBit k := fun a b => Nat.testBit_xor a b k
theorem lin_and (c : Nat) : Lin fun x => x &&& c := fun a b => Nat.and_xor_distrib_right
theorem lin_and' (c : Nat) : Lin fun x => c &&& x := fun a b => Nat.and_xor_distrib_left
theorem lin_id : Lin fun x => x := fun _ _ => rfl
theorem lin_shl (k : Nat) : Lin fun x => x <<< k := fun a b => Nat.shiftLeft_xor_distrib
theorem xor4 (a b c d : Nat) : (a ^^^ b) ^^^ (c ^^^ d) = (a ^^^ c) ^^^ (b ^^^ d) := by
  rw [Nat.xor_assoc, Nat.xor_assoc, ← Nat.xor_assoc b c d, Nat.xor_comm b c, Nat.xor_assoc c b d]
theorem xor_cancel (a b : Nat) : (a ^^^ b) ^^^ b = a := by
  rw [Nat.xor_assoc, Nat.xor_self, Nat.xor_zero]
theorem Lin.xor {f g : Nat → Nat} (hf : Lin f) (hg : Lin g) : Lin fun x => f x ^^^ g x := fun a b => by
  show f (a ^^^ b) ^^^ g (a ^^^ b) = _
  rw [hf, hg]
  exact xor4 _ _ _ _
theorem xor_eq_zero {a b : Nat} (h : a ^^^ b = 0) : a = b := by
  have e := xor_cancel a b
  rw [h, Nat.zero_xor] at e
  exact e.symm
theorem top_off {n w : Nat} (h : w < 2 ^ (n + 1)) (hb : w.testBit n = true) : w ^^^ 2 ^ n < 2 ^ n := by
  refine Nat.lt_pow_two_of_testBit _ fun i hi => ?_
  rw [Nat.testBit_xor, Nat.testBit_two_pow]
  by_cases e : n = i
  · subst e
    rw [hb]
    simp
  · rw [Nat.testBit_lt_two_pow (Nat.lt_of_lt_of_le h (Nat.pow_le_pow_right (by decide) (by omega)))]
    simp [e]
theorem low_of {n w : Nat} (h : w < 2 ^ (n + 1)) (hb : w.testBit n = false) : w < 2 ^ n := by
  refine Nat.lt_pow_two_of_testBit _ fun i hi => ?_
  by_cases e : n = i
  · subst e
    exact hb
  · exact Nat.testBit_lt_two_pow (Nat.lt_of_lt_of_le h (Nat.pow_le_pow_right (by decide) (by omega)))
/-- induction upon a word: 0, one more top bit -/
theorem word_ind {P : Nat → Prop} (n : Nat) (h0 : P 0) (hs : ∀ k w, k < n → w < 2 ^ k → P w → P (w ^^^ 2 ^ k)) : ∀ w, w < 2 ^ n → P w := by
  have go : ∀ j, j ≤ n → ∀ w, w < 2 ^ j → P w := by
    intro j
    induction j with
    | zero =>
      intro _ w h
      have e : w = 0 := by simpa using h
      rw [e]
      exact h0
    | succ j ih =>
      intro hj w h
      cases hb : w.testBit j with
      | false => exact ih (by omega) w (low_of h hb)
      | true =>
        have l := top_off h hb
        have q := hs j _ (by omega) l (ih (by omega) _ l)
        rw [xor_cancel] at q
        exact q
  exact go n (Nat.le_refl _)
theorem lin_ext {f g : Nat → Nat} (hf : Lin f) (hg : Lin g) (n : Nat) (h : ∀ k, k < n → f (2 ^ k) = g (2 ^ k)) : ∀ w, w < 2 ^ n → f w = g w :=
  word_ind n (by rw [hf.zero, hg.zero]) fun k w hk _ ih => by rw [hf, hg, ih, h k hk]
theorem linB_ext {f g : Nat → Bool} (hf : LinB f) (hg : LinB g) (n : Nat) (h : ∀ k, k < n → f (2 ^ k) = g (2 ^ k)) : ∀ w, w < 2 ^ n → f w = g w :=
  word_ind n (by rw [hf.zero, hg.zero]) fun k w hk _ ih => by rw [hf, hg, ih, h k hk]

/-! ### how many bits are 1 -/
def popF : Nat → Nat → Nat
  | 0, _ => 0
  | f + 1, n => n % 2 + popF f (n / 2)
theorem popF_zero : ∀ f, popF f 0 = 0
  | 0 => rfl
  | f + 1 => by
    show 0 % 2 + popF f (0 / 2) = 0
    rw [show 0 / 2 = 0 from rfl, popF_zero f]
theorem popF_more : ∀ (f n : Nat), n < 2 ^ f → popF (f + 1) n = popF f n
  | 0, n, h => by
    have e : n = 0 := by simpa using h
    subst e
    rfl
  | f + 1, n, h => by
    show n % 2 + popF (f + 1) (n / 2) = n % 2 + popF f (n / 2)
    rw [popF_more f (n / 2) (by rw [Nat.pow_succ] at h; omega)]
theorem popF_le {f g n : Nat} (h : n < 2 ^ f) (hg : f ≤ g) : popF g n = popF f n := by
  induction g with
  | zero =>
    have e : f = 0 := by omega
    rw [e]
  | succ g ih =>
    by_cases e : f = g + 1
    · rw [e]
    · rw [popF_more g n (Nat.lt_of_lt_of_le h (Nat.pow_le_pow_right (by decide) (by omega))), ih (by omega)]
theorem popF_xor (f : Nat) : ∀ a b, popF f (a ^^^ b) % 2 = (popF f a + popF f b) % 2 := by
  induction f with
  | zero => intro a b; rfl
  | succ f ih =>
    intro a b
    show ((a ^^^ b) % 2 + popF f ((a ^^^ b) / 2)) % 2 = ((a % 2 + popF f (a / 2)) + (b % 2 + popF f (b / 2))) % 2
    have e1 : (a ^^^ b) / 2 = a / 2 ^^^ b / 2 := Nat.xor_div_two
    have e2 : (a ^^^ b) % 2 = 1 ↔ ¬(a % 2 = 1 ↔ b % 2 = 1) := Nat.xor_mod_two_eq_one
    rw [e1]
    have i := ih (a / 2) (b / 2)
    omega
def pop (n : Nat) : Nat := popF 32 n
def par (n : Nat) : Bool := pop n % 2 == 1
theorem par_lin : LinB par := fun a b => by
  have h := popF_xor 32 a b
  show (popF 32 (a ^^^ b) % 2 == 1) = ((popF 32 a % 2 == 1) ^^ (popF 32 b % 2 == 1))
  rw [h]
  have ha : popF 32 a % 2 = 0 ∨ popF 32 a % 2 = 1 := by omega
  have hb : popF 32 b % 2 = 0 ∨ popF 32 b % 2 = 1 := by omega
  rcases ha with ha | ha <;> rcases hb with hb | hb <;> rw [Nat.add_mod, ha, hb] <;> rfl
/-- the product of two words has odd weight -/
def dot (a b : Nat) : Bool := par (a &&& b)
theorem dot_lin (a : Nat) : LinB (dot a) := par_lin.comp (lin_and' a)
theorem dot_lin' (b : Nat) : LinB fun a => dot a b := par_lin.comp (lin_and b)
theorem dot_comm (a b : Nat) : dot a b = dot b a := by unfold dot; rw [Nat.and_comm]
theorem par_pow : ∀ k, k < 32 → par (2 ^ k) = true := by decide +kernel
theorem and_pow (w k : Nat) : w &&& 2 ^ k = if w.testBit k then 2 ^ k else 0 := by
  apply Nat.eq_of_testBit_eq
  intro i
  rw [Nat.testBit_and, Nat.testBit_two_pow]
  by_cases e : k = i
  · subst e
    cases h : w.testBit k <;> simp [Nat.testBit_two_pow]
  · cases h : w.testBit k <;> simp [Nat.testBit_two_pow, e]
theorem dot_pow {w k : Nat} (hk : k < 32) : dot w (2 ^ k) = w.testBit k := by
  unfold dot
  rw [and_pow]
  cases h : w.testBit k with
  | true =>
    rw [if_pos rfl]
    exact par_pow k hk
  | false =>
    rw [if_neg Bool.false_ne_true]
    exact par_lin.zero

/-! ### spans -/
inductive Sp (ws : List Nat) : Nat → Prop
  | zero : Sp ws 0
  | step {x u : Nat} : x ∈ ws → Sp ws u → Sp ws (x ^^^ u)
theorem Sp.one {ws : List Nat} {x : Nat} (h : x ∈ ws) : Sp ws x := by
  have q := Sp.step h (Sp.zero (ws := ws))
  rw [Nat.xor_zero] at q
  exact q
theorem Sp.xor {ws : List Nat} {a b : Nat} (ha : Sp ws a) (hb : Sp ws b) : Sp ws (a ^^^ b) := by
  induction ha with
  | zero => rw [Nat.zero_xor]; exact hb
  | step hx _ ih => rw [Nat.xor_assoc]; exact .step hx ih
theorem Sp.of {ws vs : List Nat} (h : ∀ x ∈ ws, Sp vs x) {u : Nat} (hu : Sp ws u) : Sp vs u := by
  induction hu with
  | zero => exact .zero
  | step hx _ ih => exact (h _ hx).xor ih
theorem Sp.mono {ws vs : List Nat} (h : ∀ x ∈ ws, x ∈ vs) {u : Nat} (hu : Sp ws u) : Sp vs u := hu.of fun x hx => .one (h x hx)
theorem Sp.lt {ws : List Nat} {n u : Nat} (h : ∀ x ∈ ws, x < 2 ^ n) (hu : Sp ws u) : u < 2 ^ n := by
  induction hu with
  | zero => exact Nat.two_pow_pos n
  | step hx _ ih => exact Nat.xor_lt_two_pow (h _ hx) ih
theorem Sp.linB {ws : List Nat} {f : Nat → Bool} (hf : LinB f) (h : ∀ x ∈ ws, f x = false) {u : Nat} (hu : Sp ws u) : f u = false := by
  induction hu with
  | zero => exact hf.zero
  | step hx _ ih => rw [hf, h _ hx, ih]; rfl
theorem Sp.map {ws : List Nat} {f : Nat → Nat} (hf : Lin f) {u : Nat} (hu : Sp ws u) : Sp (ws.map f) (f u) := by
  induction hu with
  | zero => rw [hf.zero]; exact .zero
  | step hx _ ih => rw [hf]; exact .step (List.mem_map.mpr ⟨_, hx, rfl⟩) ih

/-! ### words and heaps -/
def wo : Nat → Nat
  | 0 => 1431655765
  | 1 => 858993459
  | 2 => 252645135
  | 3 => 16711935
  | _ => 65535
def full (m : Nat) : Nat := 2 ^ 2 ^ m - 1
def stepL (m l w : Nat) : Nat := w ^^^ (((w &&& wo l) <<< (1 <<< l)) &&& full m)
def stepW (m w : Nat) : Nat := (List.range m).foldl (fun w l => stepL m l w) w
theorem stepL_lin (m l : Nat) : Lin (stepL m l) := lin_id.xor ((lin_and (full m)).comp ((lin_shl (1 <<< l)).comp (lin_and (wo l))))
theorem foldl_lin {α : Type} {g : α → Nat → Nat} (hg : ∀ a, Lin (g a)) : ∀ l : List α, Lin fun w => l.foldl (fun w a => g a w) w
  | [] => lin_id
  | a :: r => fun x y => by
    show r.foldl _ (g a (x ^^^ y)) = _
    rw [hg a]
    exact foldl_lin hg r _ _
theorem stepW_lin (m : Nat) : Lin (stepW m) := foldl_lin (stepL_lin m) (List.range m)
theorem full_lt (m : Nat) : full m < 2 ^ 2 ^ m := by
  have := Nat.two_pow_pos (2 ^ m)
  unfold full
  omega
theorem stepL_lt {m w : Nat} (l : Nat) (h : w < 2 ^ 2 ^ m) : stepL m l w < 2 ^ 2 ^ m := Nat.xor_lt_two_pow h (Nat.and_lt_two_pow _ (full_lt m))
theorem stepW_lt {m w : Nat} (h : w < 2 ^ 2 ^ m) : stepW m w < 2 ^ 2 ^ m := by
  have go : ∀ (l : List Nat) w, w < 2 ^ 2 ^ m → l.foldl (fun w l => stepL m l w) w < 2 ^ 2 ^ m := by
    intro l
    induction l with
    | nil => intro w h; exact h
    | cons a r ih => intro w h; exact ih _ (stepL_lt a h)
  exact go _ w h
theorem two_basis : ∀ m, m < 6 → ∀ k, k < 2 ^ m → stepW m (stepW m (2 ^ k)) = 2 ^ k := by decide +kernel
/-- the steps done twice -/
theorem stepW_twice {m w : Nat} (hm : m < 6) (h : w < 2 ^ 2 ^ m) : stepW m (stepW m w) = w :=
  lin_ext ((stepW_lin m).comp (stepW_lin m)) lin_id (2 ^ m) (two_basis m hm) w h
/-- the word of a heap -/
def mon (m h : Nat) : Nat := stepW m (1 <<< h)
theorem one_shl (h : Nat) : 1 <<< h = 2 ^ h := by rw [Nat.one_shiftLeft]
theorem mon_eq (m h : Nat) : mon m h = stepW m (2 ^ h) := by unfold mon; rw [one_shl]
theorem pow_lt {m h : Nat} (hh : h < 2 ^ m) : 2 ^ h < 2 ^ 2 ^ m := Nat.pow_lt_pow_right (by decide) hh
theorem mon_lt {m h : Nat} (hh : h < 2 ^ m) : mon m h < 2 ^ 2 ^ m := by rw [mon_eq]; exact stepW_lt (pow_lt hh)
theorem step_mon {m h : Nat} (hm : m < 6) (hh : h < 2 ^ m) : stepW m (mon m h) = 2 ^ h := by rw [mon_eq]; exact stepW_twice hm (pow_lt hh)
theorem mon_and : ∀ m, m < 6 → ∀ f, f < 2 ^ m → ∀ g, g < 2 ^ m → mon m f &&& mon m g = mon m (f ||| g) := by decide +kernel
theorem par_mon : ∀ m, m < 6 → ∀ h, h < 2 ^ m → par (mon m h) = decide (h = 2 ^ m - 1) := by decide +kernel

/-! ### choices: m and a test of heaps -/
def heaps (m : Nat) (p : Nat → Bool) : List Nat := (List.range (2 ^ m)).filter p
theorem mem_heaps {m h : Nat} {p : Nat → Bool} : h ∈ heaps m p ↔ h < 2 ^ m ∧ p h = true := by
  unfold heaps
  rw [List.mem_filter, List.mem_range]
theorem heaps_congr {m : Nat} {p q : Nat → Bool} (h : ∀ x, x < 2 ^ m → p x = q x) : heaps m p = heaps m q := by
  unfold heaps
  exact List.filter_congr fun x hx => h x (List.mem_range.mp hx)
theorem heaps_inj {m : Nat} {p q : Nat → Bool} (e : heaps m p = heaps m q) : ∀ x, x < 2 ^ m → p x = q x := fun x hx => by
  have h1 : x ∈ heaps m p ↔ x ∈ heaps m q := by rw [e]
  rw [mem_heaps, mem_heaps] at h1
  cases hp : p x <;> cases hq : q x <;> simp_all
def inCode (m : Nat) (p : Nat → Bool) (w : Nat) : Prop := ∀ h, h < 2 ^ m → (stepW m w).testBit h = true → p h = true
/-- the words of the chosen heaps -/
def codeRows (m : Nat) (p : Nat → Bool) : List Nat := (heaps m p).map (mon m)
theorem codeRows_lt {m : Nat} {p : Nat → Bool} : ∀ x ∈ codeRows m p, x < 2 ^ 2 ^ m := fun x hx => by
  obtain ⟨h, hh, rfl⟩ := List.mem_map.mp hx
  exact mon_lt (mem_heaps.mp hh).1
theorem inCode_zero (m : Nat) (p : Nat → Bool) : inCode m p 0 := fun h _ e => by
  rw [(stepW_lin m).zero, Nat.zero_testBit] at e
  cases e
theorem inCode_xor {m : Nat} {p : Nat → Bool} {a b : Nat} (ha : inCode m p a) (hb : inCode m p b) : inCode m p (a ^^^ b) := fun h hh e => by
  rw [stepW_lin, Nat.testBit_xor] at e
  cases h1 : (stepW m a).testBit h with
  | true => exact ha h hh h1
  | false =>
    rw [h1] at e
    cases h2 : (stepW m b).testBit h with
    | true => exact hb h hh h2
    | false => rw [h2] at e; cases e
theorem inCode_mon {m h : Nat} {p : Nat → Bool} (hm : m < 6) (hh : h < 2 ^ m) (hp : p h = true) : inCode m p (mon m h) := fun g hg e => by
  rw [step_mon hm hh, Nat.testBit_two_pow] at e
  rw [← of_decide_eq_true e]
  exact hp
theorem inCode_of_sp {m : Nat} {p : Nat → Bool} (hm : m < 6) {w : Nat} (h : Sp (codeRows m p) w) : inCode m p w := by
  induction h with
  | zero => exact inCode_zero m p
  | step hx _ ih =>
    obtain ⟨g, hg, rfl⟩ := List.mem_map.mp hx
    exact inCode_xor (inCode_mon hm (mem_heaps.mp hg).1 (mem_heaps.mp hg).2) ih
/-- a word by its heaps -/
theorem sp_step {m : Nat} {p : Nat → Bool} : ∀ u, u < 2 ^ 2 ^ m → (∀ h, h < 2 ^ m → u.testBit h = true → p h = true) → Sp (codeRows m p) (stepW m u) := by
  refine word_ind (2 ^ m) (fun _ => by rw [(stepW_lin m).zero]; exact .zero) fun k w hk hw ih hp => ?_
  have hk2 : (w ^^^ 2 ^ k).testBit k = true := by
    rw [Nat.testBit_xor, Nat.testBit_lt_two_pow hw, Nat.testBit_two_pow]
    simp
  have i := ih fun h hh e => hp h hh (by
    rw [Nat.testBit_xor, e, Nat.testBit_two_pow]
    have hlt : h < k := by
      by_cases q : h < k
      · exact q
      · rw [Nat.testBit_lt_two_pow (Nat.lt_of_lt_of_le hw (Nat.pow_le_pow_right (by decide) (by omega)))] at e
        cases e
    have ne : ¬ k = h := by omega
    simp [ne])
  rw [stepW_lin, ← mon_eq]
  exact i.xor (.one (List.mem_map.mpr ⟨k, mem_heaps.mpr ⟨hk, hp k hk hk2⟩, rfl⟩))
theorem sp_of_inCode {m : Nat} {p : Nat → Bool} (hm : m < 6) {w : Nat} (hw : w < 2 ^ 2 ^ m) (h : inCode m p w) : Sp (codeRows m p) w := by
  have q := sp_step (p := p) (stepW m w) (stepW_lt hw) h
  rw [stepW_twice hm hw] at q
  exact q
theorem code_iff {m : Nat} {p : Nat → Bool} (hm : m < 6) {w : Nat} (hw : w < 2 ^ 2 ^ m) : Sp (codeRows m p) w ↔ inCode m p w := ⟨inCode_of_sp hm, sp_of_inCode hm hw⟩
theorem inCode_congr {m : Nat} {p q : Nat → Bool} (h : ∀ x, x < 2 ^ m → p x = q x) {w : Nat} : inCode m p w ↔ inCode m q w :=
  ⟨fun k x hx e => by rw [← h x hx]; exact k x hx e, fun k x hx e => by rw [h x hx]; exact k x hx e⟩
end K64

/-! The plain mathematics, part 2: reduced rows. -/
namespace K64

/-! ### taking rows off -/
def offOne (w r : Nat) : Nat := if w.testBit r.log2 then w ^^^ r else w
def takeOff (rows : List Nat) (w : Nat) : Nat := rows.foldl offOne w
theorem offOne_lin (r : Nat) : Lin fun w => offOne w r := fun a b => by
  show offOne (a ^^^ b) r = offOne a r ^^^ offOne b r
  unfold offOne
  rw [Nat.testBit_xor]
  cases ha : a.testBit r.log2 <;> cases hb : b.testBit r.log2 <;> simp
  · rw [Nat.xor_assoc]
  · rw [Nat.xor_assoc, Nat.xor_comm b r, Nat.xor_assoc]
  · have e := xor4 a r b r
    rw [Nat.xor_self, Nat.xor_zero] at e
    exact e.symm
theorem takeOff_lin (rows : List Nat) : Lin (takeOff rows) := foldl_lin (g := fun r w => offOne w r) offOne_lin rows
theorem takeOff_cons (r : Nat) (rs : List Nat) (w : Nat) : takeOff (r :: rs) w = takeOff rs (offOne w r) := rfl
theorem takeOff_sp : ∀ (rows : List Nat) (w : Nat), ∃ u, Sp rows u ∧ takeOff rows w = w ^^^ u
  | [], w => ⟨0, .zero, (Nat.xor_zero w).symm⟩
  | r :: rs, w => by
    obtain ⟨u, hu, e⟩ := takeOff_sp rs (offOne w r)
    have hu' : Sp (r :: rs) u := hu.mono fun x hx => List.mem_cons_of_mem _ hx
    rw [takeOff_cons, e]
    unfold offOne
    cases hb : w.testBit r.log2 with
    | true =>
      rw [if_pos rfl]
      exact ⟨r ^^^ u, .step List.mem_cons_self hu', Nat.xor_assoc _ _ _⟩
    | false =>
      rw [if_neg Bool.false_ne_true]
      exact ⟨u, hu', rfl⟩
/-- a bit that no row has stays -/
theorem takeOff_bit {q : Nat} : ∀ (rows : List Nat) (w : Nat), (∀ r ∈ rows, r.testBit q = false) → (takeOff rows w).testBit q = w.testBit q
  | [], _, _ => rfl
  | r :: rs, w, h => by
    rw [takeOff_cons, takeOff_bit rs _ fun s hs => h s (List.mem_cons_of_mem _ hs)]
    unfold offOne
    split
    · rw [Nat.testBit_xor, h r List.mem_cons_self]; simp
    · rfl
/-- nothing is taken off -/
theorem takeOff_none : ∀ (rows : List Nat) (w : Nat), (∀ r ∈ rows, w.testBit r.log2 = false) → takeOff rows w = w
  | [], _, _ => rfl
  | r :: rs, w, h => by
    rw [takeOff_cons]
    have e : offOne w r = w := by
      unfold offOne
      rw [h r List.mem_cons_self, if_neg Bool.false_ne_true]
    rw [e]
    exact takeOff_none rs w fun s hs => h s (List.mem_cons_of_mem _ hs)
theorem top_bit {r : Nat} (h : r ≠ 0) : r.testBit r.log2 = true := Nat.testBit_log2 h
theorem high_bit {r q : Nat} (h : r.log2 < q) : r.testBit q = false := by
  by_cases e : r = 0
  · rw [e]; exact Nat.zero_testBit q
  · exact Nat.testBit_lt_two_pow ((Nat.log2_lt e).mp h)
theorem log2_of {x q : Nat} (h1 : x.testBit q = true) (h2 : ∀ i, q < i → x.testBit i = false) : x.log2 = q := by
  have x0 : x ≠ 0 := by
    intro e
    rw [e, Nat.zero_testBit] at h1
    cases h1
  have l1 : q ≤ x.log2 := by
    by_cases l : q ≤ x.log2
    · exact l
    · rw [high_bit (by omega)] at h1
      cases h1
  by_cases l2 : q < x.log2
  · have := h2 _ l2
    rw [top_bit x0] at this
    cases this
  · omega

/-! ### reduced rows -/
/-- no row is 0, and the top bit of each is 0 in the others -/
structure Apart (rows : List Nat) : Prop where
  pos : ∀ r ∈ rows, r ≠ 0
  off : rows.Pairwise fun r s => r.testBit s.log2 = false ∧ s.testBit r.log2 = false
structure Red (rows : List Nat) : Prop extends Apart rows where
  down : rows.Pairwise (· > ·)
theorem Apart.tail {r : Nat} {rs : List Nat} (h : Apart (r :: rs)) : Apart rs := ⟨fun s hs => h.pos s (List.mem_cons_of_mem _ hs), (List.pairwise_cons.mp h.off).2⟩
theorem Apart.sep : ∀ {rows : List Nat}, Apart rows → ∀ {r s : Nat}, r ∈ rows → s ∈ rows → r ≠ s → r.testBit s.log2 = false
  | [], _, _, _, hr, _, _ => nomatch hr
  | a :: l, h, r, s, hr, hs, ne => by
    have h1 := (List.pairwise_cons.mp h.off).1
    rcases List.mem_cons.mp hr with e | hr
    · rcases List.mem_cons.mp hs with e' | hs
      · exact absurd (e.trans e'.symm) ne
      · rw [e]; exact (h1 s hs).1
    · rcases List.mem_cons.mp hs with e' | hs
      · rw [e']; exact (h1 r hr).2
      · exact h.tail.sep hr hs ne
theorem Apart.perm {l l' : List Nat} (p : l.Perm l') (h : Apart l) : Apart l' :=
  ⟨fun r hr => h.pos r (p.mem_iff.mpr hr), (p.pairwise_iff (fun {a b} q => ⟨q.2, q.1⟩)).mp h.off⟩
theorem Apart.nodup {rows : List Nat} (h : Apart rows) : rows.Nodup := by
  refine List.Pairwise.imp_of_mem (fun {a b} ha hb q e => ?_) h.off
  have t := top_bit (h.pos a ha)
  rw [e] at t
  rw [e] at q
  rw [q.1] at t
  cases t
theorem takeOff_off : ∀ {rows : List Nat}, Apart rows → ∀ (w : Nat), ∀ r ∈ rows, (takeOff rows w).testBit r.log2 = false
  | [], _, _, _, hr => nomatch hr
  | a :: l, h, w, r, hr => by
    rw [takeOff_cons]
    have h1 := (List.pairwise_cons.mp h.off).1
    rcases List.mem_cons.mp hr with e | hr
    · subst e
      rw [takeOff_bit l _ fun s hs => (h1 s hs).2]
      unfold offOne
      cases hb : w.testBit r.log2 with
      | true =>
        rw [if_pos rfl, Nat.testBit_xor, hb, top_bit (h.pos r List.mem_cons_self)]
        rfl
      | false => rw [if_neg Bool.false_ne_true]; exact hb
    · exact takeOff_off h.tail _ r hr
theorem takeOff_row : ∀ {rows : List Nat}, Apart rows → ∀ r ∈ rows, takeOff rows r = 0
  | [], _, _, hr => nomatch hr
  | a :: l, h, r, hr => by
    rw [takeOff_cons]
    have h1 := (List.pairwise_cons.mp h.off).1
    rcases List.mem_cons.mp hr with e | hr
    · subst e
      have e : offOne r r = 0 := by
        unfold offOne
        rw [top_bit (h.pos r List.mem_cons_self), if_pos rfl, Nat.xor_self]
      rw [e]
      exact (takeOff_lin l).zero
    · have e : offOne r a = r := by
        unfold offOne
        rw [(h1 r hr).2, if_neg Bool.false_ne_true]
      rw [e]
      exact takeOff_row h.tail r hr
theorem takeOff_in {rows : List Nat} (h : Apart rows) {u : Nat} (hu : Sp rows u) : takeOff rows u = 0 := by
  induction hu with
  | zero => exact (takeOff_lin rows).zero
  | step hx _ ih => rw [takeOff_lin rows, takeOff_row h _ hx, ih]; rfl
/-- a word is a sum of the rows exactly if nothing is left of it -/
theorem in_iff {rows : List Nat} (h : Apart rows) (w : Nat) : Sp rows w ↔ takeOff rows w = 0 := by
  refine ⟨takeOff_in h, fun e => ?_⟩
  obtain ⟨u, hu, e2⟩ := takeOff_sp rows w
  rw [e] at e2
  rw [xor_eq_zero e2.symm]
  exact hu
/-- the top bit of a sum is that of a row -/
theorem top_of_sum {rows : List Nat} (h : Apart rows) {x : Nat} (hx : Sp rows x) (x0 : x ≠ 0) : ∃ s ∈ rows, s.log2 = x.log2 := by
  by_cases hs : ∃ s ∈ rows, s.log2 = x.log2
  · exact hs
  · exfalso
    have go : ∀ (l : List Nat) (y : Nat), (∀ s ∈ l, s.log2 ≠ x.log2) → y.testBit x.log2 = true → (∀ i, x.log2 < i → y.testBit i = false) → (takeOff l y).testBit x.log2 = true := by
      intro l
      induction l with
      | nil => intro y _ h1 _; exact h1
      | cons s l ih =>
        intro y hl h1 h2
        rw [takeOff_cons]
        have ne := hl s List.mem_cons_self
        by_cases lt : x.log2 < s.log2
        · have e : offOne y s = y := by
            unfold offOne
            rw [h2 _ lt, if_neg Bool.false_ne_true]
          rw [e]
          exact ih y (fun t ht => hl t (List.mem_cons_of_mem _ ht)) h1 h2
        · have hi : ∀ i, x.log2 ≤ i → s.testBit i = false := fun i hi => high_bit (by omega)
          refine ih _ (fun t ht => hl t (List.mem_cons_of_mem _ ht)) ?_ fun i hi' => ?_
          · unfold offOne
            split
            · rw [Nat.testBit_xor, h1, hi _ (Nat.le_refl _)]; rfl
            · exact h1
          · unfold offOne
            split
            · rw [Nat.testBit_xor, h2 i hi', hi i (by omega)]; rfl
            · exact h2 i hi'
    have t := go rows x (fun s hs' e => hs ⟨s, hs', e⟩) (top_bit x0) (fun i hi => high_bit hi)
    rw [takeOff_in h hx, Nat.zero_testBit] at t
    cases t
theorem mem_red {rows : List Nat} (h : Apart rows) (r : Nat) :
    r ∈ rows ↔ Sp rows r ∧ r ≠ 0 ∧ ∀ x, Sp rows x → x ≠ 0 → x.log2 ≠ r.log2 → r.testBit x.log2 = false := by
  constructor
  · intro hr
    refine ⟨.one hr, h.pos r hr, fun x hx x0 ne => ?_⟩
    obtain ⟨s, hs, e⟩ := top_of_sum h hx x0
    rw [← e] at ne ⊢
    exact h.sep hr hs fun z => ne (by rw [z])
  · rintro ⟨hr, r0, k⟩
    obtain ⟨s, hs, es⟩ := top_of_sum h hr r0
    by_cases y0 : r ^^^ s = 0
    · rw [xor_eq_zero y0]; exact hs
    · exfalso
      have hy : Sp rows (r ^^^ s) := hr.xor (.one hs)
      obtain ⟨t, ht, et⟩ := top_of_sum h hy y0
      have b := top_bit y0
      rw [← et, Nat.testBit_xor] at b
      by_cases q : t = s
      · have e1 : r.testBit t.log2 = true := by rw [q, es]; exact top_bit r0
        have e2 : s.testBit t.log2 = true := by rw [q]; exact top_bit (h.pos s hs)
        rw [e1, e2] at b
        cases b
      · have e2 : s.testBit t.log2 = false := h.sep hs ht fun z => q z.symm
        have ne : t.log2 ≠ r.log2 := by
          intro z
          have z2 : t.log2 = s.log2 := z.trans es.symm
          have := h.sep ht hs q
          rw [← z2, top_bit (h.pos t ht)] at this
          cases this
        rw [k t (.one ht) (h.pos t ht) ne, e2] at b
        cases b
theorem sorted_ext {l l' : List Nat} (h : l.Pairwise (· > ·)) (h' : l'.Pairwise (· > ·)) (e : ∀ x, x ∈ l ↔ x ∈ l') : l = l' := by
  have nd : ∀ {l : List Nat}, l.Pairwise (· > ·) → l.Nodup := fun h => h.imp fun q e => by omega
  have p : l.Perm l' := (List.perm_ext_iff_of_nodup (nd h) (nd h')).mpr e
  exact List.Perm.eq_of_pairwise (le := (· > ·)) (fun a b _ _ x y => by omega) h h' p
/-- one row of reduced rows for each span -/
theorem red_ext {R S : List Nat} (hR : Red R) (hS : Red S) (e : ∀ u, Sp R u ↔ Sp S u) : R = S := by
  refine sorted_ext hR.down hS.down fun r => ?_
  rw [mem_red hR.toApart, mem_red hS.toApart, e r]
  constructor
  · rintro ⟨a, b, c⟩; exact ⟨a, b, fun x hx => c x ((e x).mpr hx)⟩
  · rintro ⟨a, b, c⟩; exact ⟨a, b, fun x hx => c x ((e x).mp hx)⟩

/-! ### one more row -/
def sortDown (l : List Nat) : List Nat := l.mergeSort fun a b => decide (b ≤ a)
theorem sortDown_perm (l : List Nat) : (sortDown l).Perm l := List.mergeSort_perm l _
theorem sortDown_ge (l : List Nat) : (sortDown l).Pairwise (· ≥ ·) := by
  have h := List.pairwise_mergeSort (le := fun a b : Nat => decide (b ≤ a)) (fun a b c h1 h2 => by simp at *; omega) (fun a b => by simp; omega) l
  exact h.imp fun q => by simpa using q
theorem sortDown_unique {l l' : List Nat} (p : l'.Perm l) (h : l'.Pairwise (· ≥ ·)) : l' = sortDown l :=
  List.Perm.eq_of_pairwise (le := (· ≥ ·)) (fun a b _ _ x y => by omega) h (sortDown_ge l) (p.trans (sortDown_perm l).symm)
def changed (rows : List Nat) (fresh : Nat) : List Nat := rows.map fun r => if r.testBit fresh.log2 then r ^^^ fresh else r
def withRow (rows : List Nat) (fresh : Nat) : List Nat := sortDown (changed rows fresh ++ [fresh])
theorem Sp.perm {l l' : List Nat} (p : l.Perm l') (u : Nat) : Sp l u ↔ Sp l' u := ⟨Sp.mono fun _ hx => p.mem_iff.mp hx, Sp.mono fun _ hx => p.mem_iff.mpr hx⟩
theorem changed_sp (rows : List Nat) (f u : Nat) : Sp (changed rows f ++ [f]) u ↔ Sp (rows ++ [f]) u := by
  constructor
  · refine Sp.of fun x hx => ?_
    rcases List.mem_append.mp hx with hx | hx
    · obtain ⟨r, hr, rfl⟩ := List.mem_map.mp hx
      have h1 : Sp (rows ++ [f]) r := .one (List.mem_append_left _ hr)
      split
      · exact h1.xor (.one (by simp))
      · exact h1
    · exact .one (List.mem_append_right _ hx)
  · refine Sp.of fun x hx => ?_
    rcases List.mem_append.mp hx with hx | hx
    · have hm : (if x.testBit f.log2 then x ^^^ f else x) ∈ changed rows f := List.mem_map.mpr ⟨x, hx, rfl⟩
      have h1 : Sp (changed rows f ++ [f]) (if x.testBit f.log2 then x ^^^ f else x) := .one (List.mem_append_left _ hm)
      cases hb : x.testBit f.log2 with
      | true =>
        rw [hb, if_pos rfl] at h1
        have h2 := h1.xor (Sp.one (ws := changed rows f ++ [f]) (x := f) (by simp))
        rw [xor_cancel] at h2
        exact h2
      | false =>
        rw [hb, if_neg Bool.false_ne_true] at h1
        exact h1
    · exact .one (List.mem_append_right _ hx)
theorem withRow_sp (rows : List Nat) (f u : Nat) : Sp (withRow rows f) u ↔ Sp (rows ++ [f]) u := (Sp.perm (sortDown_perm _) u).trans (changed_sp rows f u)
/-- the top bit stays where the fresh row comes to a row -/
theorem changed_log {r f : Nat} (r0 : r ≠ 0) (hf : f.testBit r.log2 = false) (f0 : f ≠ 0) : (if r.testBit f.log2 then r ^^^ f else r).log2 = r.log2 := by
  split
  · rename_i hb
    have ne : f.log2 ≠ r.log2 := fun e => by rw [← e, top_bit f0] at hf; cases hf
    have lt : f.log2 < r.log2 := by
      by_cases l : r.log2 < f.log2
      · rw [high_bit l] at hb; cases hb
      · omega
    refine log2_of ?_ fun i hi => ?_
    · rw [Nat.testBit_xor, top_bit r0, hf]; rfl
    · rw [Nat.testBit_xor, high_bit hi, high_bit (by omega)]; rfl
  · rfl
theorem withRow_red {rows : List Nat} {f : Nat} (h : Red rows) (f0 : f ≠ 0) (hf : ∀ r ∈ rows, f.testBit r.log2 = false) : Red (withRow rows f) := by
  have ap : Apart (changed rows f ++ [f]) := by
    have lg : ∀ r ∈ rows, (if r.testBit f.log2 then r ^^^ f else r).log2 = r.log2 := fun r hr => changed_log (h.pos r hr) (hf r hr) f0
    refine ⟨fun x hx => ?_, ?_⟩
    · rcases List.mem_append.mp hx with hx | hx
      · obtain ⟨r, hr, rfl⟩ := List.mem_map.mp hx
        intro e
        split at e
        · have z := xor_eq_zero e
          have t := hf r hr
          rw [← z, top_bit (h.pos r hr)] at t
          cases t
        · exact h.pos r hr e
      · have e : x = f := by simpa using hx
        rw [e]; exact f0
    · refine List.pairwise_append.mpr ⟨?_, List.pairwise_singleton _ _, fun x hx y hy => ?_⟩
      · refine List.pairwise_map.mpr (List.Pairwise.imp_of_mem (fun {a b} ha hb q => ?_) h.off)
        rw [lg a ha, lg b hb]
        have k : ∀ (c d : Nat), d ∈ rows → c.testBit d.log2 = false → (if c.testBit f.log2 then c ^^^ f else c).testBit d.log2 = false := fun c d hd e => by
          split
          · rw [Nat.testBit_xor, e, hf d hd]; rfl
          · exact e
        exact ⟨k a b hb q.1, k b a ha q.2⟩
      · obtain ⟨r, hr, rfl⟩ := List.mem_map.mp hx
        have e : y = f := by simpa using hy
        rw [e, lg r hr]
        refine ⟨?_, hf r hr⟩
        cases hb : r.testBit f.log2 with
        | true => rw [if_pos rfl, Nat.testBit_xor, hb, top_bit f0]; rfl
        | false => rw [if_neg Bool.false_ne_true]; exact hb
  have ap2 := ap.perm (sortDown_perm (changed rows f ++ [f])).symm
  refine ⟨ap2, ?_⟩
  have nd := ap2.nodup
  have ge := sortDown_ge (changed rows f ++ [f])
  exact (List.Pairwise.and ge nd).imp fun q => by
    obtain ⟨q1, q2⟩ := q
    omega

/-! ### the reduced rows of some words -/
def redStep (rows : List Nat) (w : Nat) : List Nat := if takeOff rows w = 0 then rows else withRow rows (takeOff rows w)
def reduced (ws : List Nat) : List Nat := ws.foldl redStep []
theorem redStep_red {rows : List Nat} (h : Red rows) (w : Nat) : Red (redStep rows w) := by
  unfold redStep
  split
  · exact h
  · rename_i n
    exact withRow_red h n fun r hr => takeOff_off h.toApart w r hr
theorem redStep_sp {rows : List Nat} (h : Red rows) (w u : Nat) : Sp (redStep rows w) u ↔ Sp (rows ++ [w]) u := by
  obtain ⟨v, hv, e⟩ := takeOff_sp rows w
  have hv' : Sp (rows ++ [w]) v := hv.mono fun x hx => List.mem_append_left _ hx
  have hw : Sp (rows ++ [w]) w := .one (by simp)
  unfold redStep
  split
  · rename_i z
    have hwr := (in_iff h.toApart w).mpr z
    exact ⟨Sp.mono fun x hx => List.mem_append_left _ hx, Sp.of fun x hx => (List.mem_append.mp hx).elim .one fun q => by
      have e : x = w := by simpa using q
      rw [e]; exact hwr⟩
  · rw [withRow_sp, e]
    constructor
    · refine Sp.of fun x hx => (List.mem_append.mp hx).elim (fun q => .one (List.mem_append_left _ q)) fun q => ?_
      have e : x = w ^^^ v := by simpa using q
      rw [e]; exact hw.xor hv'
    · refine Sp.of fun x hx => (List.mem_append.mp hx).elim (fun q => .one (List.mem_append_left _ q)) fun q => ?_
      have e : x = w := by simpa using q
      rw [e]
      have h1 : Sp (rows ++ [w ^^^ v]) (w ^^^ v) := .one (by simp)
      have h2 : Sp (rows ++ [w ^^^ v]) v := hv.mono fun x hx => List.mem_append_left _ hx
      have h3 := h1.xor h2
      rw [xor_cancel] at h3
      exact h3
theorem red_nil : Red [] := ⟨⟨fun _ h => (nomatch h), .nil⟩, .nil⟩
theorem foldl_red : ∀ (ws : List Nat) (rows : List Nat), Red rows → Red (ws.foldl redStep rows) ∧ ∀ u, Sp (ws.foldl redStep rows) u ↔ Sp (rows ++ ws) u
  | [], rows, h => ⟨h, fun u => by rw [List.append_nil]; exact Iff.rfl⟩
  | w :: ws, rows, h => by
    obtain ⟨h1, h2⟩ := foldl_red ws (redStep rows w) (redStep_red h w)
    refine ⟨h1, fun u => (h2 u).trans ?_⟩
    have k : ∀ u, Sp (redStep rows w) u ↔ Sp (rows ++ [w]) u := redStep_sp h w
    constructor
    · refine Sp.of fun x hx => (List.mem_append.mp hx).elim (fun q => ?_) fun q => .one (by simp [q])
      exact ((k x).mp (.one q)).mono fun y hy => by
        rcases List.mem_append.mp hy with z | z
        · simp [z]
        · simp at z; simp [z]
    · refine Sp.of fun x hx => ?_
      have hx' : x ∈ rows ++ [w] ∨ x ∈ ws := by
        rcases List.mem_append.mp hx with z | z
        · exact .inl (by simp [z])
        · rcases List.mem_cons.mp z with z | z
          · exact .inl (by simp [z])
          · exact .inr z
      rcases hx' with z | z
      · exact ((k x).mpr (.one z)).mono fun y hy => List.mem_append_left _ hy
      · exact .one (List.mem_append_right _ z)
theorem reduced_red (ws : List Nat) : Red (reduced ws) := (foldl_red ws [] red_nil).1
theorem reduced_sp (ws : List Nat) (u : Nat) : Sp (reduced ws) u ↔ Sp ws u := (foldl_red ws [] red_nil).2 u
theorem reduced_ext {ws vs : List Nat} (h : ∀ u, Sp ws u ↔ Sp vs u) : reduced ws = reduced vs :=
  red_ext (reduced_red ws) (reduced_red vs) fun u => (reduced_sp ws u).trans ((h u).trans (reduced_sp vs u).symm)
theorem reduced_lt {ws : List Nat} {n : Nat} (h : ∀ x ∈ ws, x < 2 ^ n) : ∀ r ∈ reduced ws, r < 2 ^ n := fun r hr => Sp.lt h ((reduced_sp ws r).mp (.one hr))
theorem withRow_length (rows : List Nat) (f : Nat) : (withRow rows f).length = rows.length + 1 := by
  unfold withRow
  rw [(sortDown_perm _).length_eq, List.length_append]
  unfold changed
  rw [List.length_map]
  rfl
theorem redStep_length_le (rows : List Nat) (w : Nat) : (redStep rows w).length ≤ rows.length + 1 := by
  unfold redStep
  split
  · exact Nat.le_succ _
  · rw [withRow_length]; exact Nat.le_refl _
theorem foldl_length_le : ∀ (ws rows : List Nat), (ws.foldl redStep rows).length ≤ rows.length + ws.length
  | [], rows => Nat.le_refl _
  | w :: ws, rows => by
    have h := foldl_length_le ws (redStep rows w)
    have h2 := redStep_length_le rows w
    show (ws.foldl redStep (redStep rows w)).length ≤ rows.length + (ws.length + 1)
    omega
theorem reduced_length_le (ws : List Nat) : (reduced ws).length ≤ ws.length := by
  have h := foldl_length_le ws []
  rw [List.length_nil, Nat.zero_add] at h
  exact h
/-- words of which none is a sum of those ahead of it: as many rows -/
theorem foldl_length : ∀ (ws rows : List Nat), Red rows → (∀ (pre : List Nat) (w : Nat) (post : List Nat), ws = pre ++ w :: post → ¬ Sp (rows ++ pre) w) → (ws.foldl redStep rows).length = rows.length + ws.length
  | [], rows, _, _ => rfl
  | w :: ws, rows, h, k => by
    have n0 : ¬ takeOff rows w = 0 := fun z => by
      have := k [] w ws rfl
      rw [List.append_nil] at this
      exact this ((in_iff h.toApart w).mpr z)
    have e : (redStep rows w).length = rows.length + 1 := by
      unfold redStep
      rw [if_neg n0, withRow_length]
    have ih := foldl_length ws (redStep rows w) (redStep_red h w) fun pre x post hx hs => by
      refine k (w :: pre) x post (by rw [hx]; rfl) (hs.of fun y hy => ?_)
      rcases List.mem_append.mp hy with z | z
      · exact ((redStep_sp h w y).mp (.one z)).mono fun t ht => by
          rcases List.mem_append.mp ht with q | q
          · simp [q]
          · simp at q; simp [q]
      · exact .one (by simp [z])
    show (ws.foldl redStep (redStep rows w)).length = rows.length + (ws.length + 1)
    omega
theorem reduced_length {ws : List Nat} (k : ∀ (pre : List Nat) (w : Nat) (post : List Nat), ws = pre ++ w :: post → ¬ Sp pre w) : (reduced ws).length = ws.length := by
  have h := foldl_length ws [] red_nil fun pre w post e => by
    rw [List.nil_append]
    exact k pre w post e
  rw [List.length_nil, Nat.zero_add] at h
  exact h

/-! ### the words that meet all rows evenly -/
def evenWord (rows : List Nat) (q : Nat) : Nat := rows.foldl (fun w r => if r.testBit q then w ||| (1 <<< r.log2) else w) (1 <<< q)
def evenFound (n : Nat) (rows : List Nat) : List Nat := ((List.range n).filter fun q => !(rows.map Nat.log2).contains q).map (evenWord rows)
def evenRows (m : Nat) (ws : List Nat) : List Nat := reduced (evenFound (2 ^ m) (reduced ws))
theorem evenWord_bit {q k : Nat} : ∀ (rows : List Nat) (w : Nat), (rows.foldl (fun w r => if r.testBit q then w ||| (1 <<< r.log2) else w) w).testBit k = (w.testBit k || rows.any fun r => r.testBit q && decide (r.log2 = k))
  | [], w => by simp
  | r :: rs, w => by
    rw [List.foldl_cons, evenWord_bit rs, List.any_cons]
    cases hb : r.testBit q with
    | true =>
      rw [if_pos rfl, Nat.testBit_or, one_shl, Nat.testBit_two_pow, Bool.true_and, Bool.or_assoc]
    | false =>
      rw [if_neg Bool.false_ne_true, Bool.false_and, Bool.false_or]
theorem takeOff_pow : ∀ {rows : List Nat}, Apart rows → ∀ (k q : Nat), (∀ r ∈ rows, r.log2 ≠ q) → (takeOff rows (2 ^ k)).testBit q = (decide (k = q) || rows.any fun r => r.testBit q && decide (r.log2 = k))
  | [], _, k, q, _ => by
    show (2 ^ k).testBit q = _
    rw [Nat.testBit_two_pow]
    simp
  | r :: rs, h, k, q, hq => by
    have h1 := (List.pairwise_cons.mp h.off).1
    rw [takeOff_cons, List.any_cons]
    by_cases e : r.log2 = k
    · -- the row whose top bit it is
      have e1 : offOne (2 ^ k) r = 2 ^ k ^^^ r := by
        unfold offOne
        rw [Nat.testBit_two_pow, e, decide_eq_true rfl, if_pos rfl]
      have none : ∀ s ∈ rs, (2 ^ k ^^^ r).testBit s.log2 = false := fun s hs => by
        have ne : k ≠ s.log2 := fun z => by
          have t := (h1 s hs).1
          rw [← z, ← e, top_bit (h.pos r List.mem_cons_self)] at t
          cases t
        rw [Nat.testBit_xor, Nat.testBit_two_pow, decide_eq_false ne, (h1 s hs).1]
        rfl
      rw [e1, takeOff_none rs _ none, Nat.testBit_xor, Nat.testBit_two_pow, e]
      have kq : k ≠ q := fun z => hq r List.mem_cons_self (e.trans z)
      have no : (rs.any fun s => s.testBit q && decide (s.log2 = k)) = false := by
        rw [List.any_eq_false]
        intro s hs z
        rw [Bool.and_eq_true] at z
        have z2 := of_decide_eq_true z.2
        have t := (h1 s hs).1
        rw [z2, ← e, top_bit (h.pos r List.mem_cons_self)] at t
        cases t
      rw [no, decide_eq_false kq]
      simp
    · have e1 : offOne (2 ^ k) r = 2 ^ k := by
        unfold offOne
        rw [Nat.testBit_two_pow, decide_eq_false (fun z => e z.symm), if_neg Bool.false_ne_true]
      rw [e1, takeOff_pow h.tail k q fun s hs => hq s (List.mem_cons_of_mem _ hs), decide_eq_false e, Bool.and_false, Bool.false_or]
theorem evenWord_dot {rows : List Nat} (h : Apart rows) {n q : Nat} (hn : n ≤ 32) (hq : ∀ r ∈ rows, r.log2 ≠ q) : ∀ w, w < 2 ^ n → dot (evenWord rows q) w = (takeOff rows w).testBit q :=
  linB_ext (dot_lin _) ((linB_bit q).comp (takeOff_lin rows)) n fun k hk => by
    rw [dot_pow (by omega), takeOff_pow h k q hq]
    unfold evenWord
    rw [evenWord_bit, one_shl, Nat.testBit_two_pow]
    have e : decide (q = k) = decide (k = q) := by
      by_cases z : q = k
      · rw [z]
      · rw [decide_eq_false z, decide_eq_false (fun y => z y.symm)]
    rw [e]
theorem takeOff_lt {rows : List Nat} {n w : Nat} (h : ∀ r ∈ rows, r < 2 ^ n) (hw : w < 2 ^ n) : takeOff rows w < 2 ^ n := by
  obtain ⟨u, hu, e⟩ := takeOff_sp rows w
  rw [e]
  exact Nat.xor_lt_two_pow hw (hu.lt h)
theorem found_iff {rows : List Nat} (h : Apart rows) {n w : Nat} (hn : n ≤ 32) (hr : ∀ r ∈ rows, r < 2 ^ n) (hw : w < 2 ^ n) : (∀ x ∈ evenFound n rows, dot x w = false) ↔ Sp rows w := by
  rw [in_iff h]
  constructor
  · intro k
    apply Nat.eq_of_testBit_eq
    intro q
    rw [Nat.zero_testBit]
    by_cases hq : q < n
    · by_cases ht : ∃ r ∈ rows, r.log2 = q
      · obtain ⟨r, hr, e⟩ := ht
        rw [← e]
        exact takeOff_off h w r hr
      · have ht' : ∀ r ∈ rows, r.log2 ≠ q := fun r hr e => ht ⟨r, hr, e⟩
        rw [← evenWord_dot h hn ht' w hw]
        refine k _ (List.mem_map.mpr ⟨q, List.mem_filter.mpr ⟨List.mem_range.mpr hq, ?_⟩, rfl⟩)
        have z : (rows.map Nat.log2).contains q = false := by
          rw [List.contains_eq_mem, decide_eq_false]
          intro z
          obtain ⟨r, hr, e⟩ := List.mem_map.mp z
          exact ht' r hr e
        rw [z]
        rfl
    · exact Nat.testBit_lt_two_pow (Nat.lt_of_lt_of_le (takeOff_lt hr hw) (Nat.pow_le_pow_right (by decide) (by omega)))
  · intro z x hx
    obtain ⟨q, hq, rfl⟩ := List.mem_map.mp hx
    obtain ⟨_, hc⟩ := List.mem_filter.mp hq
    have ht' : ∀ r ∈ rows, r.log2 ≠ q := fun r hr e => by
      have c : (rows.map Nat.log2).contains q = true := by
        rw [List.contains_eq_mem, decide_eq_true]
        exact List.mem_map.mpr ⟨r, hr, e⟩
      rw [c] at hc
      cases hc
    rw [evenWord_dot h hn ht' w hw, z, Nat.zero_testBit]
theorem evenFound_lt {rows : List Nat} {n : Nat} (h : ∀ r ∈ rows, r < 2 ^ n) (hp : ∀ r ∈ rows, r ≠ 0) : ∀ x ∈ evenFound n rows, x < 2 ^ n := fun x hx => by
  obtain ⟨q, hq, rfl⟩ := List.mem_map.mp hx
  obtain ⟨hq, _⟩ := List.mem_filter.mp hq
  have hq := List.mem_range.mp hq
  refine Nat.lt_pow_two_of_testBit _ fun i hi => ?_
  unfold evenWord
  rw [evenWord_bit, one_shl, Nat.testBit_two_pow, decide_eq_false (by omega), Bool.false_or, List.any_eq_false]
  intro r hr z
  rw [Bool.and_eq_true] at z
  have z2 := of_decide_eq_true z.2
  have := (Nat.log2_lt (hp r hr)).mpr (h r hr)
  omega
/-- a word meets all even rows evenly exactly if it is a sum of the words -/
theorem even_iff {m : Nat} (hm : m < 6) {ws : List Nat} (h : ∀ x ∈ ws, x < 2 ^ 2 ^ m) {w : Nat} (hw : w < 2 ^ 2 ^ m) : (∀ r ∈ evenRows m ws, dot r w = false) ↔ Sp ws w := by
  have hn : 2 ^ m ≤ 2 ^ 5 := Nat.pow_le_pow_right (by decide) (by omega)
  have R := reduced_red ws
  rw [← reduced_sp ws w, ← found_iff R.toApart hn (reduced_lt h) hw]
  constructor
  · intro k x hx
    exact Sp.linB (f := fun a => dot a w) (dot_lin' w) k ((reduced_sp _ x).mpr (.one hx))
  · intro k r hr
    exact Sp.linB (f := fun a => dot a w) (dot_lin' w) k ((reduced_sp _ r).mp (.one hr))
theorem evenRows_lt {m : Nat} {ws : List Nat} (h : ∀ x ∈ ws, x < 2 ^ 2 ^ m) : ∀ r ∈ evenRows m ws, r < 2 ^ 2 ^ m :=
  reduced_lt (evenFound_lt (reduced_lt h) (reduced_red ws).pos)
end K64

/-! The plain mathematics, part 3: heaps within heaps, closed choices, rests, products, quotients, strikings. -/
namespace K64

/-! ### heaps within heaps -/
def Sub (g h : Nat) : Prop := g &&& h = g
theorem sub_iff {g h : Nat} : Sub g h ↔ ∀ i, g.testBit i = true → h.testBit i = true := by
  constructor
  · intro e i hi
    have e2 : (g &&& h).testBit i = true := by rw [show g &&& h = g from e]; exact hi
    rw [Nat.testBit_and, hi] at e2
    simpa using e2
  · intro k
    show g &&& h = g
    apply Nat.eq_of_testBit_eq
    intro i
    rw [Nat.testBit_and]
    cases hg : g.testBit i with
    | false => rfl
    | true => rw [k i hg]; rfl
theorem Sub.le {g h : Nat} (s : Sub g h) : g ≤ h := by
  have e : g &&& h = g := s
  rw [← e]
  exact Nat.and_le_right
theorem Sub.lt {g h m : Nat} (s : Sub g h) (hh : h < 2 ^ m) : g < 2 ^ m := Nat.lt_of_le_of_lt s.le hh
theorem Sub.or {a b c d : Nat} (h1 : Sub a b) (h2 : Sub c d) : Sub (a ||| c) (b ||| d) := sub_iff.mpr fun i hi => by
  rw [Nat.testBit_or, Bool.or_eq_true] at hi ⊢
  exact hi.imp (sub_iff.mp h1 i) (sub_iff.mp h2 i)
theorem Sub.refl (a : Nat) : Sub a a := Nat.and_self a
theorem Sub.trans {a b c : Nat} (h1 : Sub a b) (h2 : Sub b c) : Sub a c := sub_iff.mpr fun i hi => sub_iff.mp h2 i (sub_iff.mp h1 i hi)
theorem or_lt {m a b : Nat} (ha : a < 2 ^ m) (hb : b < 2 ^ m) : a ||| b < 2 ^ m := Nat.or_lt_two_pow ha hb
/-- with a heap all that lie within it -/
def Clo (m : Nat) (p : Nat → Bool) : Prop := ∀ h, h < 2 ^ m → p h = true → ∀ g, Sub g h → p g = true
theorem Clo.congr {m : Nat} {p q : Nat → Bool} (e : ∀ x, x < 2 ^ m → p x = q x) (c : Clo m p) : Clo m q := fun h hh hp g s => by
  rw [← e g (s.lt hh)]
  exact c h hh (by rw [e h hh]; exact hp) g s
def comp (m h : Nat) : Nat := (2 ^ m - 1) ^^^ h
theorem comp_lt {m h : Nat} (hh : h < 2 ^ m) : comp m h < 2 ^ m := Nat.xor_lt_two_pow (by have := Nat.two_pow_pos m; omega) hh
theorem comp_bit {m h i : Nat} : (comp m h).testBit i = (decide (i < m) ^^ h.testBit i) := by
  unfold comp
  rw [Nat.testBit_xor, Nat.testBit_two_pow_sub_one]
theorem comp_comp (m h : Nat) : comp m (comp m h) = h := by
  unfold comp
  rw [← Nat.xor_assoc, Nat.xor_self, Nat.zero_xor]
theorem bit_lt {m h i : Nat} (hh : h < 2 ^ m) (hi : h.testBit i = true) : i < m := by
  by_cases l : i < m
  · exact l
  · rw [Nat.testBit_lt_two_pow (Nat.lt_of_lt_of_le hh (Nat.pow_le_pow_right (by decide) (by omega)))] at hi
    cases hi
theorem comp_sub {m g h : Nat} (hh : h < 2 ^ m) (s : Sub g h) : Sub (comp m h) (comp m g) := sub_iff.mpr fun i hi => by
  rw [comp_bit] at hi ⊢
  cases hg : g.testBit i with
  | true =>
    rw [sub_iff.mp s i hg] at hi
    exact hi
  | false =>
    cases hb : h.testBit i with
    | true =>
      rw [hb, decide_eq_true (bit_lt hh hb)] at hi
      cases hi
    | false =>
      rw [hb] at hi
      exact hi
/-! ### rests, products, quotients -/
def restP (m : Nat) (p : Nat → Bool) : Nat → Bool := fun h => !p (comp m h)
def prodP (m : Nat) (p q : Nat → Bool) : Nat → Bool := fun h => (heaps m p).any fun f => (heaps m q).any fun g => decide (f ||| g = h)
def quoP (m : Nat) (p q : Nat → Bool) : Nat → Bool := fun h => (heaps m q).all fun g => p (h ||| g)
theorem prodP_iff {m h : Nat} {p q : Nat → Bool} : prodP m p q h = true ↔ ∃ f g, (f < 2 ^ m ∧ p f = true) ∧ (g < 2 ^ m ∧ q g = true) ∧ f ||| g = h := by
  unfold prodP
  rw [List.any_eq_true]
  constructor
  · rintro ⟨f, hf, k⟩
    obtain ⟨g, hg, e⟩ := List.any_eq_true.mp k
    exact ⟨f, g, mem_heaps.mp hf, mem_heaps.mp hg, of_decide_eq_true e⟩
  · rintro ⟨f, g, hf, hg, e⟩
    exact ⟨f, mem_heaps.mpr hf, List.any_eq_true.mpr ⟨g, mem_heaps.mpr hg, decide_eq_true e⟩⟩
theorem quoP_iff {m h : Nat} {p q : Nat → Bool} : quoP m p q h = true ↔ ∀ g, g < 2 ^ m → q g = true → p (h ||| g) = true := by
  unfold quoP
  rw [List.all_eq_true]
  exact ⟨fun k g h1 h2 => k g (mem_heaps.mpr ⟨h1, h2⟩), fun k g hg => k g (mem_heaps.mp hg).1 (mem_heaps.mp hg).2⟩
theorem bool_ext {a b : Bool} (h : a = true ↔ b = true) : a = b := by
  cases a <;> cases b <;> simp_all
theorem clo_rest {m : Nat} {p : Nat → Bool} (c : Clo m p) : Clo m (restP m p) := fun h hh hp g s => by
  unfold restP at hp ⊢
  cases e : p (comp m g) with
  | false => rfl
  | true =>
    rw [c _ (comp_lt (s.lt hh)) e _ (comp_sub hh s)] at hp
    cases hp
theorem split_or {k f g : Nat} (s : Sub k (f ||| g)) : (k &&& f) ||| (k &&& g) = k := by
  rw [← Nat.and_or_distrib_left]
  exact s
theorem sub_and (k f : Nat) : Sub (k &&& f) f := by
  show (k &&& f) &&& f = k &&& f
  rw [Nat.and_assoc, Nat.and_self]
theorem clo_prod {m : Nat} {p q : Nat → Bool} (c : Clo m p) (d : Clo m q) : Clo m (prodP m p q) := fun h hh hp g s => by
  obtain ⟨f1, f2, h1, h2, e⟩ := prodP_iff.mp hp
  rw [← e] at s
  have s1 := sub_and g f1
  have s2 := sub_and g f2
  exact prodP_iff.mpr ⟨_, _, ⟨s1.lt h1.1, c _ h1.1 h1.2 _ s1⟩, ⟨s2.lt h2.1, d _ h2.1 h2.2 _ s2⟩, split_or s⟩
theorem clo_quo {m : Nat} {p q : Nat → Bool} (c : Clo m p) : Clo m (quoP m p q) := fun h hh hp g s => quoP_iff.mpr fun k hk hq =>
  c _ (or_lt hh hk) (quoP_iff.mp hp k hk hq) _ (s.or (Sub.refl k))
def minus (h g : Nat) : Nat := h ^^^ (h &&& g)
theorem minus_bit {h g i : Nat} : (minus h g).testBit i = (h.testBit i && !g.testBit i) := by
  unfold minus
  rw [Nat.testBit_xor, Nat.testBit_and]
  cases h.testBit i <;> cases g.testBit i <;> rfl
theorem minus_sub (h g : Nat) : Sub (minus h g) h := sub_iff.mpr fun i hi => by
  rw [minus_bit, Bool.and_eq_true] at hi
  exact hi.1
theorem or_minus (h g : Nat) : g ||| minus h g = g ||| h := by
  apply Nat.eq_of_testBit_eq
  intro i
  rw [Nat.testBit_or, Nat.testBit_or, minus_bit]
  cases h.testBit i <;> cases g.testBit i <;> rfl
/-- the quotient is the rest of the product with the rest -/
theorem quo_rest {m : Nat} {p q : Nat → Bool} (c : Clo m p) (d : Clo m q) : ∀ h, h < 2 ^ m → quoP m p q h = restP m (prodP m q (restP m p)) h := fun h hh => by
  apply bool_ext
  rw [quoP_iff]
  unfold restP
  rw [Bool.not_eq_true', ← Bool.not_eq_true, prodP_iff]
  constructor
  · rintro k ⟨f, g, ⟨hf, qf⟩, ⟨hg, pg⟩, e⟩
    have a := k f hf qf
    have s : Sub (comp m g) (h ||| f) := sub_iff.mpr fun i hi => by
      rw [comp_bit] at hi
      rw [Nat.testBit_or]
      have im : i < m := by
        cases hb : g.testBit i with
        | true => exact bit_lt hg hb
        | false => rw [hb] at hi; simpa using hi
      have e2 : (f ||| g).testBit i = (comp m h).testBit i := by rw [e]
      rw [Nat.testBit_or, comp_bit] at e2
      rw [decide_eq_true im] at hi e2
      cases h1 : h.testBit i <;> cases h2 : f.testBit i <;> cases h3 : g.testBit i <;> simp_all
    rw [c _ (or_lt hh hf) a _ s] at pg
    cases pg
  · intro k g hg qg
    cases e : p (h ||| g) with
    | true => rfl
    | false =>
      exfalso
      have s := minus_sub g h
      refine k ⟨minus g h, comp m (h ||| g), ⟨s.lt hg, d _ hg qg _ s⟩, ⟨comp_lt (or_lt hh hg), by rw [comp_comp, e]; rfl⟩, ?_⟩
      apply Nat.eq_of_testBit_eq
      intro i
      rw [Nat.testBit_or, minus_bit, comp_bit, comp_bit, Nat.testBit_or]
      cases h1 : h.testBit i with
      | true => simp
      | false =>
        cases h2 : g.testBit i with
        | true => rw [decide_eq_true (bit_lt hg h2)]; rfl
        | false => simp
def Lies (m : Nat) (p q : Nat → Bool) : Prop := ∀ h, h < 2 ^ m → p h = true → q h = true
theorem lies_left {m : Nat} {p q r : Nat → Bool} : Lies m (prodP m q r) p ↔ Lies m q (quoP m p r) := by
  constructor
  · intro k h hh hq
    exact quoP_iff.mpr fun g hg hr => k _ (or_lt hh hg) (prodP_iff.mpr ⟨h, g, ⟨hh, hq⟩, ⟨hg, hr⟩, rfl⟩)
  · intro k h hh hp
    obtain ⟨f, g, ⟨hf, qf⟩, ⟨hg, rg⟩, e⟩ := prodP_iff.mp hp
    rw [← e]
    exact quoP_iff.mp (k f hf qf) g hg rg
theorem lies_right {m : Nat} {p q r : Nat → Bool} : Lies m (prodP m q r) p ↔ Lies m r (quoP m p q) := by
  constructor
  · intro k h hh hr
    exact quoP_iff.mpr fun g hg hq => k _ (or_lt hh hg) (prodP_iff.mpr ⟨g, h, ⟨hg, hq⟩, ⟨hh, hr⟩, Nat.or_comm g h⟩)
  · intro k h hh hp
    obtain ⟨f, g, ⟨hf, qf⟩, ⟨hg, rg⟩, e⟩ := prodP_iff.mp hp
    rw [← e, Nat.or_comm]
    exact quoP_iff.mp (k g hg rg) f hf qf
theorem lies_whole {m : Nat} {p q : Nat → Bool} : Lies m q (quoP m p (quoP m p q)) := fun h hh hq => quoP_iff.mpr fun g hg k => by
  rw [Nat.or_comm]
  exact quoP_iff.mp k h hh hq
theorem quo_whole {m : Nat} {p q : Nat → Bool} : ∀ h, h < 2 ^ m → quoP m p (quoP m p (quoP m p q)) h = quoP m p q h := fun h hh => by
  apply bool_ext
  constructor
  · intro k
    exact quoP_iff.mpr fun g hg hq => quoP_iff.mp k g hg (lies_whole g hg hq)
  · intro k
    exact lies_whole h hh k

/-! ### one letter less -/
def wol (h i : Nat) : Nat := (h &&& ((1 <<< i) - 1)) ||| ((h >>> (i + 1)) <<< i)
def ins (g i b : Nat) : Nat := (g &&& ((1 <<< i) - 1)) ||| ((g >>> i) <<< (i + 1)) ||| (b <<< i)
theorem fin_wol : ∀ m, m < 5 → ∀ i, i < m + 1 → ∀ h, h < 2 ^ (m + 1) → wol h i < 2 ^ m ∧ ins (wol h i) i ((h >>> i) &&& 1) = h := by decide +kernel
set_option synthInstance.maxHeartbeats 1000000 in
set_option synthInstance.maxSize 4000 in
theorem fin_ins : ∀ m, m < 5 → ∀ i, i < m + 1 → ∀ g, g < 2 ^ m → ∀ b, b < 2 → ins g i b < 2 ^ (m + 1) ∧ wol (ins g i b) i = g ∧ (ins g i b >>> i) &&& 1 = b ∧ comp (m + 1) (ins g i b) = ins (comp m g) i (1 - b) ∧ ins g i 1 ^^^ (1 <<< i) = ins g i 0 ∧
    ins g i 0 &&& ins g i b = ins g i 0 := by decide +kernel
set_option synthInstance.maxHeartbeats 1000000 in
set_option synthInstance.maxSize 4000 in
theorem fin_ins2 : ∀ m, m < 5 → ∀ i, i < m + 1 → ∀ g, g < 2 ^ m → ∀ k, k < 2 ^ m → ins g i 0 ||| ins k i 0 = ins (g ||| k) i 0 ∧ ins g i 1 ||| ins k i 0 = ins (g ||| k) i 1 ∧ ins g i 0 ||| ins k i 1 = ins (g ||| k) i 1 ∧ ins g i 1 ||| ins k i 1 = ins (g ||| k) i 1 ∧
    (g &&& k = g → ins g i 0 &&& ins k i 0 = ins g i 0 ∧ ins g i 0 &&& ins k i 1 = ins g i 0 ∧ ins g i 1 &&& ins k i 1 = ins g i 1) := by decide +kernel
def strikeP (m : Nat) (p : Nat → Bool) (i b : Nat) : Nat → Bool := fun g => (heaps m p).any fun h => (b == 1 || (h >>> i) &&& 1 == 0) && decide (wol h i = g)
def shortP (m : Nat) (p : Nat → Bool) (i b : Nat) : Nat → Bool := fun g => (heaps m p).any fun h => (!((h >>> i) &&& 1 == 0)) && (b == 1 || p (h ^^^ (1 <<< i))) && decide (wol h i = g)
theorem bit01 (h i : Nat) : (h >>> i) &&& 1 = 0 ∨ (h >>> i) &&& 1 = 1 := by
  rw [Nat.and_one_is_mod]
  omega
section
variable {m i b g : Nat} {p q : Nat → Bool}
theorem strikeP_eq (hm : m < 5) (hi : i < m + 1) (hg : g < 2 ^ m) (hb : b < 2) : strikeP (m + 1) p i b g = (p (ins g i 0) || (b == 1 && p (ins g i 1))) := by
  obtain ⟨a1, a2, a3, _⟩ := fin_ins m hm i hi g hg 0 (by decide)
  obtain ⟨c1, c2, c3, _⟩ := fin_ins m hm i hi g hg 1 (by decide)
  apply bool_ext
  unfold strikeP
  rw [List.any_eq_true, Bool.or_eq_true, Bool.and_eq_true]
  constructor
  · rintro ⟨h, hh, k⟩
    obtain ⟨hh, hp⟩ := mem_heaps.mp hh
    rw [Bool.and_eq_true] at k
    obtain ⟨k1, k2⟩ := k
    have e := of_decide_eq_true k2
    have r := (fin_wol m hm i hi h hh).2
    rw [e] at r
    rcases bit01 h i with z | z
    · rw [z] at r
      rw [r]
      exact .inl hp
    · rw [z] at r k1
      rw [r]
      refine .inr ⟨?_, hp⟩
      simpa using k1
  · rintro (k | ⟨k1, k2⟩)
    · exact ⟨_, mem_heaps.mpr ⟨a1, k⟩, by rw [a3, decide_eq_true a2]; simp⟩
    · exact ⟨_, mem_heaps.mpr ⟨c1, k2⟩, by rw [k1, decide_eq_true c2]; simp⟩
theorem shortP_eq (hm : m < 5) (hi : i < m + 1) (hg : g < 2 ^ m) (hb : b < 2) : shortP (m + 1) p i b g = (p (ins g i 1) && (b == 1 || p (ins g i 0))) := by
  obtain ⟨c1, c2, c3, _, c5, _⟩ := fin_ins m hm i hi g hg 1 (by decide)
  apply bool_ext
  unfold shortP
  rw [List.any_eq_true, Bool.and_eq_true]
  constructor
  · rintro ⟨h, hh, k⟩
    obtain ⟨hh, hp⟩ := mem_heaps.mp hh
    rw [Bool.and_eq_true, Bool.and_eq_true] at k
    obtain ⟨⟨k0, k1⟩, k2⟩ := k
    have e := of_decide_eq_true k2
    have r := (fin_wol m hm i hi h hh).2
    rw [e] at r
    rcases bit01 h i with z | z
    · rw [z] at k0
      cases k0
    · rw [z] at r
      rw [← r, c5] at k1
      rw [r]
      exact ⟨hp, k1⟩
  · rintro ⟨k1, k2⟩
    exact ⟨_, mem_heaps.mpr ⟨c1, k1⟩, by rw [c3, c5, k2, decide_eq_true c2]; rfl⟩
theorem comp_ins0 (hm : m < 5) (hi : i < m + 1) (hg : g < 2 ^ m) : comp (m + 1) (ins g i 0) = ins (comp m g) i 1 := (fin_ins m hm i hi g hg 0 (by decide)).2.2.2.1
theorem comp_ins1 (hm : m < 5) (hi : i < m + 1) (hg : g < 2 ^ m) : comp (m + 1) (ins g i 1) = ins (comp m g) i 0 := (fin_ins m hm i hi g hg 1 (by decide)).2.2.2.1
theorem clo_ins (hm : m < 5) (hi : i < m + 1) (hg : g < 2 ^ m) (c : Clo (m + 1) p) (h : p (ins g i 1) = true) : p (ins g i 0) = true := by
  obtain ⟨c1, _, _, _, _, c6⟩ := fin_ins m hm i hi g hg 1 (by decide)
  exact c _ c1 h _ c6
theorem bit_cases (hb : b < 2) : b = 0 ∨ b = 1 := by omega
theorem clo_strike (hm : m < 5) (hi : i < m + 1) (hb : b < 2) (c : Clo (m + 1) p) : Clo m (strikeP (m + 1) p i b) := fun h hh hp g s => by
  rw [strikeP_eq hm hi hh hb] at hp
  rw [strikeP_eq hm hi (s.lt hh) hb]
  have s0 := ((fin_ins2 m hm i hi g (s.lt hh) h hh).2.2.2.2 s).1
  have s1 := ((fin_ins2 m hm i hi g (s.lt hh) h hh).2.2.2.2 s).2.1
  have h0 := (fin_ins m hm i hi h hh 0 (by decide)).1
  have h1 := (fin_ins m hm i hi h hh 1 (by decide)).1
  rw [Bool.or_eq_true] at hp ⊢
  refine .inl ?_
  rcases hp with hp | hp
  · exact c _ h0 hp _ s0
  · rw [Bool.and_eq_true] at hp
    exact c _ h1 hp.2 _ s1
theorem clo_short (hm : m < 5) (hi : i < m + 1) (hb : b < 2) (c : Clo (m + 1) p) : Clo m (shortP (m + 1) p i b) := fun h hh hp g s => by
  rw [shortP_eq hm hi hh hb, Bool.and_eq_true] at hp
  rw [shortP_eq hm hi (s.lt hh) hb, Bool.and_eq_true]
  obtain ⟨s0, _, s2⟩ := (fin_ins2 m hm i hi g (s.lt hh) h hh).2.2.2.2 s
  have h0 := (fin_ins m hm i hi h hh 0 (by decide)).1
  have h1 := (fin_ins m hm i hi h hh 1 (by decide)).1
  refine ⟨c _ h1 hp.1 _ s2, ?_⟩
  rw [c _ h0 (clo_ins hm hi hh c hp.1) _ s0, Bool.or_true]
/-- the rest of the struck choice is the shortened rest -/
theorem rest_strike (hm : m < 5) (hi : i < m + 1) (hg : g < 2 ^ m) (hb : b < 2) (c : Clo (m + 1) p) : restP m (strikeP (m + 1) p i b) g = shortP (m + 1) (restP (m + 1) p) i b g := by
  have hc := comp_lt hg
  unfold restP
  rw [strikeP_eq hm hi hc hb, shortP_eq hm hi hg hb, comp_ins0 hm hi hg, comp_ins1 hm hi hg]
  have k := clo_ins hm hi hc c
  rcases bit_cases hb with e | e <;> subst e
  · cases h0 : p (ins (comp m g) i 0) <;> cases h1 : p (ins (comp m g) i 1) <;> simp_all
  · cases h0 : p (ins (comp m g) i 0) <;> cases h1 : p (ins (comp m g) i 1) <;> simp_all
theorem rest_short (hm : m < 5) (hi : i < m + 1) (hg : g < 2 ^ m) (hb : b < 2) (c : Clo (m + 1) p) : restP m (shortP (m + 1) p i b) g = strikeP (m + 1) (restP (m + 1) p) i b g := by
  have hc := comp_lt hg
  unfold restP
  rw [shortP_eq hm hi hc hb, strikeP_eq hm hi hg hb, comp_ins0 hm hi hg, comp_ins1 hm hi hg]
  have k := clo_ins hm hi hc c
  rcases bit_cases hb with e | e <;> subst e
  · cases h0 : p (ins (comp m g) i 0) <;> cases h1 : p (ins (comp m g) i 1) <;> simp_all
  · cases h0 : p (ins (comp m g) i 0) <;> cases h1 : p (ins (comp m g) i 1) <;> simp_all
theorem strike_has (hm : m < 5) (hi : i < m + 1) {h : Nat} (hh : h < 2 ^ (m + 1)) (hp : p h = true) (hb : b = 1 ∨ (h >>> i) &&& 1 = 0) : strikeP (m + 1) p i b (wol h i) = true := by
  unfold strikeP
  rw [List.any_eq_true]
  refine ⟨h, mem_heaps.mpr ⟨hh, hp⟩, ?_⟩
  rw [decide_eq_true rfl, Bool.and_true, Bool.or_eq_true]
  exact hb.imp (fun e => by rw [e]; rfl) fun e => by rw [e]; rfl
theorem strike_iff (hm : m < 5) (hi : i < m + 1) : strikeP (m + 1) p i b g = true ↔ ∃ h, h < 2 ^ (m + 1) ∧ p h = true ∧ (b = 1 ∨ (h >>> i) &&& 1 = 0) ∧ wol h i = g := by
  unfold strikeP
  rw [List.any_eq_true]
  constructor
  · rintro ⟨h, hh, k⟩
    rw [Bool.and_eq_true, Bool.or_eq_true] at k
    exact ⟨h, (mem_heaps.mp hh).1, (mem_heaps.mp hh).2, k.1.imp (fun z => by simpa using z) (fun z => by simpa using z), of_decide_eq_true k.2⟩
  · rintro ⟨h, hh, hp, k, e⟩
    refine ⟨h, mem_heaps.mpr ⟨hh, hp⟩, ?_⟩
    rw [decide_eq_true e, Bool.and_true, Bool.or_eq_true]
    exact k.imp (fun e => by rw [e]; rfl) fun e => by rw [e]; rfl
theorem wol_or : ∀ m, m < 5 → ∀ i, i < m + 1 → ∀ h, h < 2 ^ (m + 1) → ∀ k, k < 2 ^ (m + 1) → wol (h ||| k) i = wol h i ||| wol k i := by decide +kernel
theorem bit_or (h k i : Nat) : ((h ||| k) >>> i) &&& 1 = 0 ↔ (h >>> i) &&& 1 = 0 ∧ (k >>> i) &&& 1 = 0 := by
  have e : ∀ x : Nat, (x >>> i) &&& 1 = 0 ↔ x.testBit i = false := fun x => by
    rw [Nat.testBit_eq_decide_div_mod_eq, Nat.and_one_is_mod, Nat.shiftRight_eq_div_pow]
    constructor
    · intro z; rw [z]; rfl
    · intro z
      have := of_decide_eq_false z
      omega
  rw [e, e, e, Nat.testBit_or, Bool.or_eq_false_iff]
/-- products and strikings change places -/
theorem prod_strike (hm : m < 5) (hi : i < m + 1) (hb : b < 2) : prodP m (strikeP (m + 1) p i b) (strikeP (m + 1) q i b) g = strikeP (m + 1) (prodP (m + 1) p q) i b g := by
  apply bool_ext
  rw [prodP_iff, strike_iff hm hi]
  constructor
  · rintro ⟨f, k, ⟨hf, sf⟩, ⟨hk, sk⟩, e⟩
    obtain ⟨h1, a1, a2, a3, a4⟩ := (strike_iff hm hi).mp sf
    obtain ⟨h2, c1, c2, c3, c4⟩ := (strike_iff hm hi).mp sk
    refine ⟨h1 ||| h2, or_lt a1 c1, prodP_iff.mpr ⟨h1, h2, ⟨a1, a2⟩, ⟨c1, c2⟩, rfl⟩, ?_, by rw [wol_or m hm i hi h1 a1 h2 c1, a4, c4, e]⟩
    rcases a3 with z | z
    · exact .inl z
    · rcases c3 with y | y
      · exact .inl y
      · exact .inr ((bit_or h1 h2 i).mpr ⟨z, y⟩)
  · rintro ⟨h, hh, hp, hb', e⟩
    obtain ⟨h1, h2, ⟨a1, a2⟩, ⟨c1, c2⟩, e2⟩ := prodP_iff.mp hp
    have z1 : b = 1 ∨ (h1 >>> i) &&& 1 = 0 := hb'.imp id fun z => by rw [← e2] at z; exact ((bit_or h1 h2 i).mp z).1
    have z2 : b = 1 ∨ (h2 >>> i) &&& 1 = 0 := hb'.imp id fun z => by rw [← e2] at z; exact ((bit_or h1 h2 i).mp z).2
    refine ⟨wol h1 i, wol h2 i, ⟨(fin_wol m hm i hi h1 a1).1, strike_has hm hi a1 a2 z1⟩, ⟨(fin_wol m hm i hi h2 c1).1, strike_has hm hi c1 c2 z2⟩, ?_⟩
    rw [← wol_or m hm i hi h1 a1 h2 c1, e2, e]
end
end K64

/-! The plain mathematics, part 4: words struck and widened, codes and their rests, products of words. -/
namespace K64

/-! ### bits gathered in a loop -/
theorem bit_one (w p k q : Nat) : (((w >>> p) &&& 1) <<< k).testBit q = (w.testBit p && decide (k = q)) := by
  have e : (w >>> p) &&& 1 = if w.testBit p then 1 else 0 := by
    rw [Nat.testBit_eq_decide_div_mod_eq, Nat.and_one_is_mod, Nat.shiftRight_eq_div_pow]
    by_cases z : w / 2 ^ p % 2 = 1
    · rw [decide_eq_true z, if_pos rfl, z]
    · rw [decide_eq_false z, if_neg Bool.false_ne_true]; omega
  rw [e]
  cases w.testBit p with
  | true => rw [if_pos rfl, one_shl, Nat.testBit_two_pow]; rfl
  | false => rw [if_neg Bool.false_ne_true, Nat.zero_shiftLeft, Nat.zero_testBit]; rfl
def gather (c : Nat → Bool) (a k : Nat → Nat) (w : Nat) (l : List Nat) (s : Nat) : Nat := l.foldl (fun s p => if c p then s ||| (((w >>> a p) &&& 1) <<< k p) else s) s
theorem gather_bit (c : Nat → Bool) (a k : Nat → Nat) (w q : Nat) : ∀ (l : List Nat) (s : Nat), (gather c a k w l s).testBit q = (s.testBit q || l.any fun p => c p && (w.testBit (a p) && decide (k p = q)))
  | [], s => by unfold gather; simp
  | p :: r, s => by
    show (gather c a k w r (if c p then s ||| (((w >>> a p) &&& 1) <<< k p) else s)).testBit q = _
    rw [gather_bit c a k w q r, List.any_cons]
    cases hc : c p with
    | true => rw [if_pos rfl, Nat.testBit_or, bit_one, Bool.true_and, Bool.or_assoc]
    | false => rw [if_neg Bool.false_ne_true, Bool.false_and, Bool.false_or]
def onBit (i b p : Nat) : Bool := (p >>> i) &&& 1 == b
def strkW (m w i b : Nat) : Nat := gather (onBit i b) (fun p => p) (fun p => wol p i) w (List.range (2 ^ m)) 0
def widW (m w i b : Nat) : Nat := gather (onBit i b) (fun p => wol p i) (fun p => p) w (List.range (2 ^ m)) 0
theorem widW_bit (m w i b q : Nat) : (widW m w i b).testBit q = (decide (q < 2 ^ m) && (onBit i b q && w.testBit (wol q i))) := by
  unfold widW
  rw [gather_bit, Nat.zero_testBit, Bool.false_or]
  apply bool_ext
  rw [List.any_eq_true, Bool.and_eq_true, Bool.and_eq_true]
  constructor
  · rintro ⟨p, hp, k⟩
    rw [Bool.and_eq_true, Bool.and_eq_true] at k
    have e := of_decide_eq_true k.2.2
    rw [← e]
    exact ⟨decide_eq_true (List.mem_range.mp hp), k.1, k.2.1⟩
  · rintro ⟨hq, k1, k2⟩
    refine ⟨q, List.mem_range.mpr (of_decide_eq_true hq), ?_⟩
    rw [k1, k2, decide_eq_true rfl]
    rfl
section
variable {m i b : Nat}
theorem strkW_bit (hm : m < 5) (hi : i < m + 1) (hb : b < 2) (w q : Nat) : (strkW (m + 1) w i b).testBit q = (decide (q < 2 ^ m) && w.testBit (ins q i b)) := by
  unfold strkW
  rw [gather_bit, Nat.zero_testBit, Bool.false_or]
  apply bool_ext
  rw [List.any_eq_true, Bool.and_eq_true]
  constructor
  · rintro ⟨p, hp, k⟩
    rw [Bool.and_eq_true, Bool.and_eq_true] at k
    have e := of_decide_eq_true k.2.2
    obtain ⟨r1, r2⟩ := fin_wol m hm i hi p (List.mem_range.mp hp)
    have hb' : (p >>> i) &&& 1 = b := by
      have := k.1
      unfold onBit at this
      simpa using this
    rw [e, hb'] at r2
    rw [e] at r1
    rw [r2]
    exact ⟨decide_eq_true r1, k.2.1⟩
  · rintro ⟨hq, k⟩
    obtain ⟨a1, a2, a3, _⟩ := fin_ins m hm i hi q (of_decide_eq_true hq) b hb
    refine ⟨ins q i b, List.mem_range.mpr a1, ?_⟩
    unfold onBit
    rw [k, a3, decide_eq_true a2]
    simp
theorem widW_lin (m i b : Nat) : Lin fun w => widW m w i b := fun x y => by
  apply Nat.eq_of_testBit_eq
  intro q
  show (widW m (x ^^^ y) i b).testBit q = (widW m x i b ^^^ widW m y i b).testBit q
  rw [Nat.testBit_xor, widW_bit, widW_bit, widW_bit, Nat.testBit_xor]
  cases decide (q < 2 ^ m) <;> cases onBit i b q <;> simp
theorem widW_lt (m w i b : Nat) : widW m w i b < 2 ^ 2 ^ m := Nat.lt_pow_two_of_testBit _ fun q hq => by
  rw [widW_bit, decide_eq_false (by omega), Bool.false_and]
theorem strkW_lt (hm : m < 5) (hi : i < m + 1) (hb : b < 2) (w : Nat) : strkW (m + 1) w i b < 2 ^ 2 ^ m := Nat.lt_pow_two_of_testBit _ fun q hq => by
  rw [strkW_bit hm hi hb, decide_eq_false (by omega), Bool.false_and]
/-- striking and widening are adjoint -/
theorem strk_wid (hm : m < 5) (hi : i < m + 1) (hb : b < 2) (c : Nat) : ∀ w, w < 2 ^ 2 ^ m → dot (strkW (m + 1) c i b) w = dot c (widW (m + 1) w i b) := by
  have h32 : 2 ^ m ≤ 2 ^ 4 := Nat.pow_le_pow_right (by decide) (by omega)
  refine linB_ext (dot_lin _) ((dot_lin c).comp (widW_lin (m + 1) i b)) (2 ^ m) fun k hk => ?_
  obtain ⟨a1, a2, a3, _⟩ := fin_ins m hm i hi k hk b hb
  have h64 : 2 ^ (m + 1) ≤ 2 ^ 5 := Nat.pow_le_pow_right (by decide) (by omega)
  have e : widW (m + 1) (2 ^ k) i b = 2 ^ ins k i b := by
    apply Nat.eq_of_testBit_eq
    intro q
    rw [widW_bit, Nat.testBit_two_pow, Nat.testBit_two_pow]
    apply bool_ext
    rw [Bool.and_eq_true, Bool.and_eq_true]
    constructor
    · rintro ⟨z1, z2, z3⟩
      have r := (fin_wol m hm i hi q (of_decide_eq_true z1)).2
      have z2' : (q >>> i) &&& 1 = b := by unfold onBit at z2; simpa using z2
      rw [← of_decide_eq_true z3, z2'] at r
      exact decide_eq_true r
    · intro z
      have z := of_decide_eq_true z
      rw [← z]
      unfold onBit
      rw [a2, a3]
      exact ⟨decide_eq_true a1, by simp, by simp⟩
  rw [e, dot_pow (by omega), dot_pow (by omega), strkW_bit hm hi hb, decide_eq_true hk, Bool.true_and]
/-- a widened word's heaps -/
def widU (m u i b : Nat) : Nat := gather (fun h => b == 0 || onBit i 1 h) (fun h => wol h i) (fun h => h) u (List.range (2 ^ m)) 0
theorem widU_bit (m u i b q : Nat) : (widU m u i b).testBit q = (decide (q < 2 ^ m) && ((b == 0 || onBit i 1 q) && u.testBit (wol q i))) := by
  unfold widU
  rw [gather_bit, Nat.zero_testBit, Bool.false_or]
  apply bool_ext
  rw [List.any_eq_true, Bool.and_eq_true, Bool.and_eq_true]
  constructor
  · rintro ⟨p, hp, k⟩
    rw [Bool.and_eq_true, Bool.and_eq_true] at k
    have e := of_decide_eq_true k.2.2
    rw [← e]
    exact ⟨decide_eq_true (List.mem_range.mp hp), k.1, k.2.1⟩
  · rintro ⟨hq, k1, k2⟩
    refine ⟨q, List.mem_range.mpr (of_decide_eq_true hq), ?_⟩
    rw [k1, k2, decide_eq_true rfl]
    rfl
theorem widU_lin (m i b : Nat) : Lin fun u => widU m u i b := fun x y => by
  apply Nat.eq_of_testBit_eq
  intro q
  show (widU m (x ^^^ y) i b).testBit q = (widU m x i b ^^^ widU m y i b).testBit q
  rw [Nat.testBit_xor, widU_bit, widU_bit, widU_bit, Nat.testBit_xor]
  cases decide (q < 2 ^ m) <;> cases (b == 0 || onBit i 1 q) <;> simp
set_option synthInstance.maxHeartbeats 1000000 in
theorem wid_basis : ∀ m, m < 5 → ∀ i, i < m + 1 → ∀ b, b < 2 → ∀ k, k < 2 ^ m → stepW (m + 1) (widW (m + 1) (2 ^ k) i b) = widU (m + 1) (stepW m (2 ^ k)) i b := by decide +kernel
theorem wid_heaps (hm : m < 5) (hi : i < m + 1) (hb : b < 2) : ∀ w, w < 2 ^ 2 ^ m → stepW (m + 1) (widW (m + 1) w i b) = widU (m + 1) (stepW m w) i b :=
  lin_ext ((stepW_lin (m + 1)).comp (widW_lin (m + 1) i b)) ((widU_lin (m + 1) i b).comp (stepW_lin m)) (2 ^ m) (wid_basis m hm i hi b hb)
/-- a word is in the shortened code exactly if the widened word is in the code -/
theorem wid_code (hm : m < 5) (hi : i < m + 1) (hb : b < 2) {p : Nat → Bool} {w : Nat} (hw : w < 2 ^ 2 ^ m) : inCode (m + 1) p (widW (m + 1) w i b) ↔ inCode m (shortP (m + 1) p i b) w := by
  unfold inCode
  rw [wid_heaps hm hi hb w hw]
  constructor
  · intro k g hg e
    obtain ⟨a1, a2, a3, _⟩ := fin_ins m hm i hi g hg 0 (by decide)
    obtain ⟨c1, c2, c3, _⟩ := fin_ins m hm i hi g hg 1 (by decide)
    rw [shortP_eq hm hi hg hb, Bool.and_eq_true]
    constructor
    · refine k _ c1 ?_
      rw [widU_bit, decide_eq_true c1, c2, e]
      unfold onBit
      rw [c3]
      simp
    · rcases bit_cases hb with z | z <;> subst z
      · have := k _ a1 (by rw [widU_bit, decide_eq_true a1, a2, e]; rfl)
        rw [this]
        rfl
      · rfl
  · intro k h hh e
    rw [widU_bit, decide_eq_true hh, Bool.true_and, Bool.and_eq_true, Bool.or_eq_true] at e
    obtain ⟨e1, e2⟩ := e
    obtain ⟨r1, r2⟩ := fin_wol m hm i hi h hh
    have q := k _ r1 e2
    rw [shortP_eq hm hi r1 hb, Bool.and_eq_true] at q
    rcases bit01 h i with z | z
    · rw [z] at r2
      rcases e1 with e1 | e1
      · have b0 : b = 0 := by simpa using e1
        rw [b0] at q
        rw [r2] at q
        simpa using q.2
      · unfold onBit at e1
        rw [z] at e1
        cases e1
    · rw [z] at r2
      rw [r2] at q
      exact q.1
end

/-! ### a code and its rest -/
theorem full_comp {m f g : Nat} (e : f ||| g = 2 ^ m - 1) : Sub (comp m g) f := sub_iff.mpr fun i hi => by
  have b : (f ||| g).testBit i = decide (i < m) := by rw [e, Nat.testBit_two_pow_sub_one]
  rw [Nat.testBit_or] at b
  rw [comp_bit] at hi
  cases h1 : f.testBit i <;> cases h2 : g.testBit i <;> cases h3 : decide (i < m) <;> simp_all
theorem dot_rest {m : Nat} (hm : m < 6) {p : Nat → Bool} (c : Clo m p) {x y : Nat} (hx : Sp (codeRows m p) x) (hy : Sp (codeRows m (restP m p)) y) : dot x y = false := by
  refine Sp.linB (dot_lin x) (fun v hv => ?_) hy
  obtain ⟨g, hg, rfl⟩ := List.mem_map.mp hv
  obtain ⟨hg, rg⟩ := mem_heaps.mp hg
  refine Sp.linB (f := fun a => dot a (mon m g)) (dot_lin' _) (fun u hu => ?_) hx
  obtain ⟨f, hf, rfl⟩ := List.mem_map.mp hu
  obtain ⟨hf, pf⟩ := mem_heaps.mp hf
  show par (mon m f &&& mon m g) = false
  rw [mon_and m hm f hf g hg, par_mon m hm _ (or_lt hf hg)]
  refine decide_eq_false fun e => ?_
  have := c f hf pf _ (full_comp e)
  unfold restP at rg
  rw [this] at rg
  cases rg
/-- a word meets all rows of the rest evenly exactly if it is in the code -/
theorem rest_rows_iff {m : Nat} (hm : m < 6) {p : Nat → Bool} {w : Nat} (hw : w < 2 ^ 2 ^ m) : (∀ r ∈ evenRows m (codeRows m p), dot r w = false) ↔ inCode m p w :=
  (even_iff hm codeRows_lt hw).trans (code_iff hm hw)

/-! ### products that stay in a code -/
theorem and_mon_lin (m h : Nat) : Lin fun w => stepW m (w &&& mon m h) := (stepW_lin m).comp (lin_and _)
theorem inCode_and {m : Nat} (hm : m < 6) {p q : Nat → Bool} {w h : Nat} (hw : w < 2 ^ 2 ^ m) (hh : h < 2 ^ m) (hq : q h = true) (k : inCode m (quoP m p q) w) : inCode m p (w &&& mon m h) := by
  have s := sp_of_inCode hm hw k
  induction s with
  | zero =>
    rw [Nat.zero_and]
    exact inCode_zero m p
  | @step x u hx hu ih =>
    obtain ⟨f, hf, rfl⟩ := List.mem_map.mp hx
    obtain ⟨hf, qf⟩ := mem_heaps.mp hf
    have hu' : u < 2 ^ 2 ^ m := hu.lt codeRows_lt
    rw [Nat.and_xor_distrib_right, mon_and m hm f hf h hh]
    exact inCode_xor (inCode_mon hm (or_lt hf hh) (quoP_iff.mp qf h hh hq)) (ih hu' (inCode_of_sp hm hu))
theorem kept_iff {m : Nat} (hm : m < 6) {p q : Nat → Bool} (d : Clo m q) {w : Nat} (hw : w < 2 ^ 2 ^ m) : (∀ h, h < 2 ^ m → q h = true → inCode m p (w &&& mon m h)) ↔ inCode m (quoP m p q) w := by
  constructor
  · intro k
    -- from the highest heap down
    have go : ∀ n f, f < 2 ^ m → 2 ^ m ≤ f + n → (stepW m w).testBit f = true → quoP m p q f = true := by
      intro n
      induction n with
      | zero => intro f hf hn _; omega
      | succ n ih =>
        intro f hf hn hb
        refine quoP_iff.mpr fun h hh hq => ?_
        cases e : p (f ||| h) with
        | true => rfl
        | false =>
          exfalso
          have s := minus_sub h f
          have hm' : minus h f < 2 ^ m := s.lt hh
          have qm : q (minus h f) = true := d _ hh hq _ s
          have ef : f ||| minus h f = f ||| h := or_minus h f
          -- the other heaps of the word
          have lt : stepW m w ^^^ 2 ^ f < 2 ^ 2 ^ m := Nat.xor_lt_two_pow (stepW_lt hw) (pow_lt hf)
          have ew : stepW m (stepW m w ^^^ 2 ^ f) = w ^^^ mon m f := by rw [stepW_lin, stepW_twice hm hw, ← mon_eq]
          have sp := sp_step (p := fun g => (stepW m w).testBit g && !decide (g = f)) (stepW m w ^^^ 2 ^ f) lt fun g hg hgb => by
            rw [Nat.testBit_xor, Nat.testBit_two_pow] at hgb
            by_cases z : f = g
            · subst z
              rw [hb] at hgb
              simp at hgb
            · rw [decide_eq_false z] at hgb
              have z' : ¬ g = f := fun y => z y.symm
              simp [z'] at hgb ⊢
              exact hgb
          rw [ew] at sp
          have zero : (stepW m ((w ^^^ mon m f) &&& mon m (minus h f))).testBit (f ||| h) = false := by
            refine Sp.linB (f := fun a => (stepW m (a &&& mon m (minus h f))).testBit (f ||| h)) ((linB_bit _).comp (and_mon_lin m _)) (fun v hv => ?_) sp
            obtain ⟨g, hg, rfl⟩ := List.mem_map.mp hv
            obtain ⟨hg, pg⟩ := mem_heaps.mp hg
            rw [Bool.and_eq_true] at pg
            obtain ⟨bg, ng⟩ := pg
            have ng : ¬ g = f := by simpa using ng
            show (stepW m (mon m g &&& mon m (minus h f))).testBit (f ||| h) = false
            rw [mon_and m hm g hg _ hm', step_mon hm (or_lt hg hm'), Nat.testBit_two_pow]
            refine decide_eq_false fun z => ?_
            have sf : Sub f g := sub_iff.mpr fun i hi => by
              have b : (g ||| minus h f).testBit i = (f ||| h).testBit i := by rw [z]
              rw [Nat.testBit_or, Nat.testBit_or, minus_bit, hi] at b
              simpa using b
            have lt' : f < g := by
              have := sf.le
              omega
            have qg := ih g hg (by omega) bg
            have := quoP_iff.mp qg _ hm' qm
            rw [z, e] at this
            cases this
          have one : (stepW m (w &&& mon m (minus h f))).testBit (f ||| h) = true := by
            have ed : w = (w ^^^ mon m f) ^^^ mon m f := (xor_cancel w (mon m f)).symm
            rw [ed, Nat.and_xor_distrib_right, stepW_lin, Nat.testBit_xor, zero, mon_and m hm f hf _ hm', step_mon hm (or_lt hf hm'), Nat.testBit_two_pow, ef, decide_eq_true rfl]
            rfl
          have := k _ hm' qm (f ||| h) (or_lt hf hh) one
          rw [e] at this
          cases this
    intro f hf hb
    exact go (2 ^ m) f hf (by omega) hb
  · intro k h hh hq
    exact inCode_and hm hw hh hq k

/-! ### rows of products -/
theorem sp_made {m : Nat} (hm : m < 6) {p q : Nat → Bool} {made : List Nat} (hmade : ∀ x, x ∈ made ↔ ∃ f g, (f < 2 ^ m ∧ p f = true) ∧ (g < 2 ^ m ∧ q g = true) ∧ mon m f &&& mon m g = x) (u : Nat) :
    Sp made u ↔ Sp (codeRows m (prodP m p q)) u := by
  constructor
  · refine Sp.mono fun x hx => ?_
    obtain ⟨f, g, hf, hg, e⟩ := (hmade x).mp hx
    rw [← e, mon_and m hm f hf.1 g hg.1]
    exact List.mem_map.mpr ⟨_, mem_heaps.mpr ⟨or_lt hf.1 hg.1, prodP_iff.mpr ⟨f, g, hf, hg, rfl⟩⟩, rfl⟩
  · refine Sp.mono fun x hx => ?_
    obtain ⟨h, hh, rfl⟩ := List.mem_map.mp hx
    obtain ⟨f, g, hf, hg, e⟩ := prodP_iff.mp (mem_heaps.mp hh).2
    exact (hmade _).mpr ⟨f, g, hf, hg, by rw [mon_and m hm f hf.1 g hg.1, e]⟩
theorem sp_and {ws vs made : List Nat} (h : ∀ x ∈ ws, ∀ y ∈ vs, x &&& y ∈ made) {a b : Nat} (ha : Sp ws a) (hb : Sp vs b) : Sp made (a &&& b) := by
  induction ha with
  | zero => rw [Nat.zero_and]; exact .zero
  | @step x u hx _ ih =>
    rw [Nat.and_xor_distrib_right]
    refine Sp.xor ?_ ih
    clear ih
    induction hb with
    | zero => rw [Nat.and_zero]; exact .zero
    | step hy _ ih2 =>
      rw [Nat.and_xor_distrib_left]
      exact (Sp.one (h _ hx _ hy)).xor ih2
theorem heaps_nodup (m : Nat) (p : Nat → Bool) : (heaps m p).Nodup := List.nodup_range.sublist List.filter_sublist
theorem codeRows_length {m : Nat} (hm : m < 6) (p : Nat → Bool) : (reduced (codeRows m p)).length = (heaps m p).length := by
  rw [reduced_length, codeRows, List.length_map]
  intro pre w post e hs
  obtain ⟨l1, l2, e1, e2, e3⟩ := List.map_eq_append_iff.mp (show (heaps m p).map (mon m) = pre ++ w :: post from e)
  obtain ⟨h, l3, e4, e5, e6⟩ := List.map_eq_cons_iff.mp e3
  have nd := heaps_nodup m p
  rw [e1, e4] at nd
  have hh : h < 2 ^ m := (mem_heaps (p := p)).mp (by rw [e1, e4]; simp) |>.1
  have z : (stepW m w).testBit h = false := by
    refine Sp.linB (f := fun a => (stepW m a).testBit h) ((linB_bit h).comp (stepW_lin m)) (fun v hv => ?_) hs
    rw [← e2] at hv
    obtain ⟨g, hg, rfl⟩ := List.mem_map.mp hv
    have hg' : g < 2 ^ m := (mem_heaps (p := p)).mp (by rw [e1]; simp [hg]) |>.1
    rw [step_mon hm hg', Nat.testBit_two_pow]
    refine decide_eq_false fun y => ?_
    rw [y] at hg
    have := (List.nodup_append.mp nd).2.2 h hg h (by simp)
    exact this rfl
  rw [← e5, step_mon hm hh, Nat.testBit_two_pow, decide_eq_true rfl] at z
  cases z
end K64

/-! The frame of the walk: a def by its name and promise; whole numbers; what evaluates to what. -/
namespace KW
open PySem PySem.Spec PyProof.Rows L2 Evl

/-! ### values -/
abbrev vN (n : Nat) : V := .int (n : Int)
abbrev nV (ns : List Nat) : List V := ns.map vN

/-! ### a def by its name -/
/-- the builtins and constants of the module -/
structure Bt (mg : Str → Option Value) : Prop where
  isinstance : mg "isinstance" = none
  int : mg "int" = none
  bool : mg "bool" = none
  list : mg "list" = none
  tuple : mg "tuple" = none
  enumerate : mg "enumerate" = none
  sorted : mg "sorted" = none
  set : mg "set" = none
  range : mg "range" = none
  len : mg "len" = none
  any : mg "any" = none
  all : mg "all" = none
  abs : mg "abs" = none
  iter : mg "iter" = none
  MOST : ∃ t, mg "MOST_LETTERS" = some (.int 5 t)
  GREATEST : ∃ t, mg "GREATEST" = some (.int 4294967295 t)
  WORDS : ∃ t, mg "MOST_WORDS" = some (.int 5000 t)
def Fx (P : Program) (w : World) (K : PySem.W.Frag) (mg : Str → Option Value) (base : Heap) (k : Nat) (x : Str) (ps : List Str) (sp : Sp) : Prop :=
  ∃ (f : Addr) (fd : FuncData), FnOk P w K mg base CX0 k f fd ps sp ∧ mg x = some (.ref f) ∧ PySem.W.keepIn K (.ref f) = true ∧ Binds K fd ps []
def Df (K : PySem.W.Frag) (mg : Str → Option Value) (x : Str) (st : Stmt) : Prop := ∃ (f : Addr) (fd : FuncData), FunD K x x (defArgs st) (defBody st) (defScope st) [] [] f fd ∧ mg x = some (.ref f)
section
variable {P : Program} {w : World} {K : PySem.W.Frag} {mg : Str → Option Value} {base : Heap} {x : Str} {st : Stmt} {N ps : List Str} {k : Nat} {sp : Sp}
theorem Df.fx (D : Df K mg x st) (S : FnScope N ps (defScope st)) (len : ∀ vs H Q E, sp vs H Q E → vs.length = ps.length)
    (hb : ∀ (kV doc pm : Value) (an : Option Addr) (cdv ct : Value) (us : List Value), us.length = ps.length → bindArgs (PySem.W.fnOf x x (defArgs st) (defBody st) (defScope st) .none kV doc pm an cdv ct) ⟨us, []⟩ = pure (ps.zip us))
    (hbody : ∀ (f : Addr) (cdv : Value) (A : Around) (outer : List Env) (s : Shared) (H : Hp) (vs : List V) (Q : VK) (E : XK), Room k (A.deeper (envOfC x (defScope st) s.heap.objs.size f cdv)) → sp vs H Q E →
      ∃ t, PSs (cxOf CX0 P w K mg base N x (defScope st) f cdv A outer s H E).nox (defBody st) t ∧ t { nx := fun _ H' => Q .non H', rt := Q } (start N vs) H) : Fx P w K mg base (k + 1) x ps sp := by
  obtain ⟨f, fd, F, m⟩ := D
  refine ⟨f, fd, F.ok S len fun cdv A outer s H vs Q E hr h => ?_, m, F.kp, F.bindsN hb⟩
  obtain ⟨t, h1, h2⟩ := hbody f cdv A outer s H vs Q E hr h
  exact ⟨t, h1.nox, h2⟩
end
section
variable {X : Cx} {k j : Nat} {ps : List Str} {sp : Sp} {x : Str} {p pos : Pos} {e : Expr} {es : List Expr} {t : TA}
theorem pe_f (F : Fx X.prog X.w X.K X.mg X.base k x ps sp) (hr : Room j X.A) (hg : Gl X x) (hj : k ≤ j)
    (ha : PA X (e :: es) t) (hdb : (x == ("__debug__" : Str)) = false := by decide) (he : starEach (e :: es) X.env = (false, eval e X.env) :: starEach es X.env := by rfl) (hpl : (backTo pos (starEach es X.env)).any (·.1) = false := by rfl) :
    PE X (.Call (.Name x p) (e :: es) [] pos) (tCall sp [] E0 t) := by
  obtain ⟨f, fd, F, m, kp, b⟩ := F
  exact pe_call F (hr.mono hj) hg m kp b .nil pass0 ha hdb he hpl
/-- a list or a tuple that stands in a slot, walked -/
def iSeqV (K : PySem.W.Frag) (i : Nat) : TI := fun σ H R => ∃ a, σ[i]? = some (some (.ref a)) ∧ (((∃ xs, SqL K H a xs) ∧ R (Itl K a) H) ∨ ((∃ xs, SqT K H a xs) ∧ R (Itt K a) H))
theorem pi_seqV {tg : Expr} {i : Nat} (he : PE X e (tVar i)) : PI X tg e (iSeqV X.K i) := by
  refine ⟨fun pins s σ H R I h => ?_⟩
  obtain ⟨a, e1, h⟩ := h
  rcases h with ⟨hx, h⟩ | ⟨hx, h⟩
  · exact (pi_list he).run pins s σ H R I ⟨_, e1, a, rfl, hx, h⟩
  · exact (pi_tup he).run pins s σ H R I ⟨_, e1, a, rfl, hx, h⟩
end

/-! ### what evaluates to what, a relation at the end -/
abbrev VP := V → Hp → Prop
def EvP (te : TE) (σ : L2.St) (H : Hp) (P : VP) : Prop := ∀ H1, Ex H H1 → ∀ Q : VK, (∀ v H2, Ex H1 H2 → P v H2 → Q v H2) → te σ H1 Q
def RetP (P : VP) (H : Hp) (Q : VK) : Prop := ∀ v H2, Ex H H2 → P v H2 → Q v H2
def RetT (xs : List V) (H : Hp) (Q : VK) : Prop := ∀ p H2, Ex H H2 → H2 p = some (.tup xs) → Q (.ref p) H2
def EvT' (te : TE) (σ : L2.St) (H : Hp) (xs : List V) : Prop := ∀ H1, Ex H H1 → ∀ Q : VK, (∀ p H2, Ex H1 H2 → H2 p = some (.tup xs) → Q (.ref p) H2) → te σ H1 Q
section
variable {K : PySem.W.Frag} {σ : L2.St} {H H' : Hp} {ta tb te : TE} {x y z v : V} {a b n : Nat} {D : Ends} {tz : TS} {P : VP}
theorem ev_n (n : Nat) (h : v = vN n) : Ev (tC v) σ H (vN n) := by
  subst h
  exact ev_c
theorem int_le {a b : Nat} : decide ((a : Int) ≤ (b : Int)) = decide (a ≤ b) := by
  by_cases h : a ≤ b
  · rw [decide_eq_true h, decide_eq_true (by omega : (a : Int) ≤ (b : Int))]
  · rw [decide_eq_false h, decide_eq_false (by omega : ¬ (a : Int) ≤ (b : Int))]
theorem int_lt {a b : Nat} : decide ((a : Int) < (b : Int)) = decide (a < b) := by
  by_cases h : a < b
  · rw [decide_eq_true h, decide_eq_true (by omega : (a : Int) < (b : Int))]
  · rw [decide_eq_false h, decide_eq_false (by omega : ¬ (a : Int) < (b : Int))]
theorem int_eq {a b : Nat} : decide (vN a = vN b) = decide (a = b) := by
  by_cases h : a = b
  · rw [decide_eq_true h, decide_eq_true (by rw [h])]
  · rw [decide_eq_false h, decide_eq_false (fun e => h (by injection e with e; omega))]
/-- from a value told otherwise -/
theorem rv_is {r : R2} {z' : V} (h : RV r x y H z) (e : z = z') : RV r x y H z' := by
  rw [← e]
  exact h
theorem rv_and : RV (rI0 fun i j => .int (Builtin.bitAnd i j)) (vN a) (vN b) H (vN (a &&& b)) := rv_is rv_I0 (by rw [bitAnd_pp (Int.natCast_nonneg _) (Int.natCast_nonneg _)]; rfl)
theorem rv_or : RV (rI0 fun i j => .int (Builtin.bitOr i j)) (vN a) (vN b) H (vN (a ||| b)) := rv_is rv_I0 (by rw [L2.bitOr_nn (Int.natCast_nonneg _) (Int.natCast_nonneg _)]; rfl)
theorem rv_xor : RV (rI0 fun i j => .int (Builtin.bitXor i j)) (vN a) (vN b) H (vN (a ^^^ b)) := rv_is rv_I0 (by rw [Bits.bitXor_pp (Int.natCast_nonneg _) (Int.natCast_nonneg _)]; rfl)
theorem rv_add : RV (rI0 fun i j => .int (i + j)) (vN a) (vN b) H (vN (a + b)) := rv_is rv_I0 (by show V.int ((a : Int) + b) = V.int ((a + b : Nat) : Int); rw [Int.natCast_add])
theorem rv_sub (h : b ≤ a) : RV (rI0 fun i j => .int (i - j)) (vN a) (vN b) H (vN (a - b)) := rv_is rv_I0 (by show V.int ((a : Int) - b) = V.int ((a - b : Nat) : Int); rw [Int.ofNat_sub h])
theorem rv_mul (h : a < 2 ^ 64) : RV (rI CMul fun i j => .int (i * j)) (vN a) (vN b) H (vN (a * b)) := rv_is (rv_I (.inl ⟨by omega, by omega⟩)) (by show V.int ((a : Int) * b) = V.int ((a * b : Nat) : Int); rw [Int.natCast_mul])
theorem rv_shl (h1 : a < 2 ^ 64) (h2 : b ≤ 1000000) : RV (rI CPow fun i j => .int (i * 2 ^ j.toNat)) (vN a) (vN b) H (vN (a <<< b)) := rv_is (rv_I ⟨by omega, by omega, by simpa using h1⟩) (by
  show V.int ((a : Int) * 2 ^ ((b : Int)).toNat) = V.int ((a <<< b : Nat) : Int)
  rw [Nat.shiftLeft_eq, Int.toNat_natCast]
  simp)
theorem rv_shr : RV (rI (fun _ j => 0 ≤ j) fun i j => .int (i / 2 ^ j.toNat)) (vN a) (vN b) H (vN (a >>> b)) := rv_is (rv_I (by omega)) (by
  show V.int ((a : Int) / 2 ^ ((b : Int)).toNat) = V.int ((a >>> b : Nat) : Int)
  rw [Nat.shiftRight_eq_div_pow, Int.toNat_natCast]
  simp)
theorem rv_mod (h : 0 < b) : RV (rI (fun _ j => 0 < j) fun i j => .int (i % j)) (vN a) (vN b) H (vN (a % b)) := rv_is (rv_I (by omega)) (by simp)
theorem rv_div (h : 0 < b) (h2 : b < 1073741824) : RV (rI CDivN fun i j => .int (i.fdiv j)) (vN a) (vN b) H (vN (a / b)) := rv_is (rv_I ⟨by omega, by omega⟩) (by
  show V.int ((a : Int).fdiv b) = _
  rw [Int.fdiv_eq_ediv_of_nonneg _ (by omega)]
  simp)
theorem rv_lt : RV (rI0 fun i j => .bl (decide (i < j))) (vN a) (vN b) H (.bl (decide (a < b))) := rv_is rv_I0 (by rw [int_lt])
theorem rv_le : RV (rI0 fun i j => .bl (decide (i ≤ j))) (vN a) (vN b) H (.bl (decide (a ≤ b))) := rv_is rv_I0 (by rw [int_le])
theorem rv_gt : RV (rI0 fun i j => .bl (decide (j < i))) (vN a) (vN b) H (.bl (decide (b < a))) := rv_is rv_I0 (by rw [int_lt])
theorem rv_ge : RV (rI0 fun i j => .bl (decide (j ≤ i))) (vN a) (vN b) H (.bl (decide (b ≤ a))) := rv_is rv_I0 (by rw [int_le])
theorem rv_eqN : RV rEq (vN a) (vN b) H (.bl (decide (a = b))) := rv_is (rv_eq rfl) (by rw [int_eq])
theorem rv_neN : RV rNe (vN a) (vN b) H (.bl (!decide (a = b))) := rv_is (rv_ne rfl) (by rw [int_eq])
theorem rv_isN : RV (fun x y H Q => y = .non ∧ Q (.bl (decide (x = .non))) H) x .non H (.bl (decide (x = .non))) := fun H1 _ _ q => ⟨rfl, q H1 (Ex.refl H1)⟩
theorem rv_notN : RV (fun x y H Q => y = .non ∧ Q (.bl (!decide (x = .non))) H) x .non H (.bl (!decide (x = .non))) := fun H1 _ _ q => ⟨rfl, q H1 (Ex.refl H1)⟩
/-- a whole number as a test -/
theorem et_tru {te : TE} (h : Ev te σ H (vN n)) : EvT (fun σ H Q => te σ H fun x H' => ∃ k, TruV K x H' k ∧ Q k H') σ H (decide (n ≠ 0)) := fun H1 e Q q =>
  h H1 e _ fun H2 e2 => ⟨decide (n ≠ 0), by
    show decide (n ≠ 0) = ((n : Int) != 0)
    by_cases h0 : n = 0
    · subst h0
      rfl
    · rw [decide_eq_true h0]
      symm
      rw [bne_iff_ne]
      omega, q H2 e2⟩
/-- a chain of two comparisons -/
theorem ev_chain {r r' : R2} {tc : TE} {w' : V} {k1 k2 : Bool} (ha : Ev ta σ H x) (hb : Ev tb σ H y) (h1 : RV r x y H (.bl k1)) (hc : Ev tc σ H w') (h2 : RV r' y w' H (.bl k2)) : Ev (tChain r r' ta tb tc) σ H (.bl (k1 && k2)) := fun H1 e Q q =>
  ha H1 e _ fun H2 e2 => hb H2 (e.trans e2) _ fun H3 e3 => h1 H3 ((e.trans e2).trans e3) _ fun H4 e4 => ⟨k1, rfl, by
    cases k1 with
    | true =>
      show tc σ H4 fun w' H5 => r' y w' H5 Q
      exact hc H4 (((e.trans e2).trans e3).trans e4) _ fun H5 e5 => h2 H5 ((((e.trans e2).trans e3).trans e4).trans e5) Q fun H6 e6 => q H6 ((((e2.trans e3).trans e4).trans e5).trans e6)
    | false =>
      show Q (.bl false) H4
      exact q H4 ((e2.trans e3).trans e4)⟩
/-! calls -/
theorem ev_f {sp : Sp} {vs : List V} {ta : TA} (h : EvA ta σ H vs) (hs : ∀ H1, Ex H H1 → ∀ Q : VK, RetV z H1 Q → sp vs H1 Q E0) : Ev (tCall sp [] E0 ta) σ H z := fun H1 e Q q =>
  h H1 e _ fun H2 e2 => by
    rw [List.append_nil]
    exact hs H2 (e.trans e2) Q fun H3 e3 => q H3 (e2.trans e3)
theorem el_f {sp : Sp} {vs xs : List V} {ta : TA} (h : EvA ta σ H vs) (hs : ∀ H1, Ex H H1 → ∀ Q : VK, RetL xs H1 Q → sp vs H1 Q E0) : EvL (tCall sp [] E0 ta) σ H xs := fun H1 e Q q =>
  h H1 e _ fun H2 e2 => by
    rw [List.append_nil]
    exact hs H2 (e.trans e2) Q fun p H3 hp e3 h3 => q p H3 (fresh_back e2 hp) (e2.trans e3) h3
theorem ett_f {sp : Sp} {vs xs : List V} {ta : TA} (h : EvA ta σ H vs) (hs : ∀ H1, Ex H H1 → ∀ Q : VK, RetT xs H1 Q → sp vs H1 Q E0) : EvT' (tCall sp [] E0 ta) σ H xs := fun H1 e Q q =>
  h H1 e _ fun H2 e2 => by
    rw [List.append_nil]
    exact hs H2 (e.trans e2) Q fun p H3 e3 h3 => q p H3 (e2.trans e3) h3
theorem ep_f {sp : Sp} {vs : List V} {ta : TA} (h : EvA ta σ H vs) (hs : ∀ H1, Ex H H1 → ∀ Q : VK, RetP P H1 Q → sp vs H1 Q E0) : EvP (tCall sp [] E0 ta) σ H P := fun H1 e Q q =>
  h H1 e _ fun H2 e2 => by
    rw [List.append_nil]
    exact hs H2 (e.trans e2) Q fun v H3 e3 h3 => q v H3 (e2.trans e3) h3
theorem EvP.mono (e : Ex H H') (h : EvP te σ H P) : EvP te σ H' P := fun H1 a Q q => h H1 (e.trans a) Q q
theorem EvT'.mono {xs : List V} (e : Ex H H') (h : EvT' te σ H xs) : EvT' te σ H' xs := fun H1 a Q q => h H1 (e.trans a) Q q
theorem Ev.ep (h : Ev te σ H v) : EvP te σ H (fun u _ => u = v) := fun H1 e Q q => h H1 e Q fun H2 e2 => q v H2 e2 rfl
theorem EvU.ett {xs : List V} (h : EvU te σ H xs) : EvT' te σ H xs := fun H1 e Q q => h H1 e Q fun p H2 _ e2 h2 => q p H2 e2 h2
/-- one argument told by a relation, the rest of the call told by its promise -/
theorem ep_f1 {sp : Sp} {A : VP} (h : EvP ta σ H A) (hs : ∀ v H1, Ex H H1 → A v H1 → ∀ Q : VK, RetP P H1 Q → sp [v] H1 Q E0) : EvP (tCall sp [] E0 (tCons ta tNil)) σ H P := fun H1 e Q q =>
  h H1 e _ fun v H2 e2 hv => hs v H2 (e.trans e2) hv Q fun u H3 e3 h3 => q u H3 (e2.trans e3) h3
theorem q_asgP {i : Nat} (h : EvP te σ H P) (k : ∀ v H1, Ex H H1 → P v H1 → tz D (σ.set i (some v)) H1) : tSeq (tAsg te (gName i)) tz D σ H := h H (Ex.refl H) _ fun v H1 e hv => k v H1 e hv
theorem s_retP (h : EvP te σ H P) (k : ∀ v H1, Ex H H1 → P v H1 → D.rt v H1) : tRet te D σ H := h H (Ex.refl H) _ fun v H1 e hv => k v H1 e hv
theorem q_asgT {i : Nat} {xs : List V} (h : EvT' te σ H xs) (k : ∀ p H1, Ex H H1 → H1 p = some (.tup xs) → tz D (σ.set i (some (.ref p))) H1) : tSeq (tAsg te (gName i)) tz D σ H := h H (Ex.refl H) _ fun p H1 e h1 => k p H1 e h1
theorem s_retT {xs : List V} (h : EvT' te σ H xs) (k : ∀ p H1, Ex H H1 → H1 p = some (.tup xs) → D.rt (.ref p) H1) : tRet te D σ H := h H (Ex.refl H) _ fun p H1 e h1 => k p H1 e h1
theorem RetV.mono {Q : VK} (k : RetV v H Q) (e : Ex H H') : RetV v H' Q := fun H2 e2 => k H2 (e.trans e2)
theorem RetP.mono {Q : VK} (k : RetP P H Q) (e : Ex H H') : RetP P H' Q := fun u H2 e2 => k u H2 (e.trans e2)
theorem RetT.mono {xs : List V} {Q : VK} (k : RetT xs H Q) (e : Ex H H') : RetT xs H' Q := fun u H2 e2 => k u H2 (e.trans e2)
theorem RetL.mono {xs : List V} {Q : VK} (k : RetL xs H Q) (e : Ex H H') : RetL xs H' Q := fun p H2 hp e2 h2 => k p H2 (fresh_back e hp) (e.trans e2) h2
/-- a field -/
theorem ev_fld {C : Addr} {dx : Addr} {fs : List (Str × V)} {f : Str} {p : Addr} (hc : Cls K C) (hn : NoAttr K C f) (h : Ev ta σ H (.ref p)) (hp : H p = some (.ins C dx fs)) (hl : fs.lookup f = some v) : Ev (tFld K ta f) σ H v := fun H1 e Q q =>
  h H1 e _ fun H2 e2 => ⟨p, C, dx, fs, v, rfl, (e.trans e2) p _ hp, hc, hn, hl, q H2 e2⟩
theorem ev_ifV {t : TT} {b : Bool} {x y : V} (h : EvT t σ H b) (h1 : b = true → Ev ta σ H x) (h2 : b = false → Ev tb σ H y) : Ev (tIf t ta tb) σ H (if b = true then x else y) := by
  cases b with
  | true => exact ev_if h (fun _ => h1 rfl) (fun z => absurd z (by decide))
  | false => exact ev_if h (fun z => absurd z (by decide)) (fun _ => h2 rfl)
theorem ep_if {t : TT} {b : Bool} (h : EvT t σ H b) (h1 : b = true → EvP ta σ H P) (h2 : b = false → EvP tb σ H P) : EvP (tIf t ta tb) σ H P := fun H1 e Q q => h H1 e _ fun H2 e2 => by
  cases b with
  | true =>
    show ta σ H2 Q
    exact h1 rfl H2 (e.trans e2) Q fun v H3 e3 => q v H3 (e2.trans e3)
  | false =>
    show tb σ H2 Q
    exact h2 rfl H2 (e.trans e2) Q fun v H3 e3 => q v H3 (e2.trans e3)
theorem lt64 {n : Nat} (h : n < 2 ^ 32) : n < 2 ^ 64 := Nat.lt_of_lt_of_le h (by decide)
end
end KW

/-! What each def promises. -/
namespace KW
open PySem PySem.Spec PyProof.Rows L2 Evl

/-! ### choices -/
/-- the class Choice -/
structure CH (K : PySem.W.Frag) (mg : Str → Option Value) (C : Addr) : Prop where
  mg : mg "Choice" = some (.ref C)
  cls : Cls K C
  nl : NoAttr K C "letters"
  nh : NoAttr K C "heaps"
/-- an instance with m letters and the heaps of p -/
def ChAt (C : Addr) (H : Hp) (a : Addr) (m : Nat) (p : Nat → Bool) : Prop := (1 ≤ m ∧ m ≤ 5) ∧ ∃ dx t, H a = some (.ins C dx [("letters", vN m), ("heaps", .ref t)]) ∧ H t = some (.tup (nV (K64.heaps m p)))
theorem ChAt.mono {C : Addr} {H H' : Hp} {a : Addr} {m : Nat} {p : Nat → Bool} (e : Ex H H') (h : ChAt C H a m p) : ChAt C H' a m p := by
  obtain ⟨hm, dx, t, h1, h2⟩ := h
  exact ⟨hm, dx, t, e a _ h1, e t _ h2⟩
/-- a value that is such an instance -/
def IsCh (C : Addr) (m : Nat) (p : Nat → Bool) : VP := fun v H => ∃ a, v = .ref a ∧ ChAt C H a m p
/-- a list or a tuple -/
def SqA (K : PySem.W.Frag) (H : Hp) (a : Addr) (xs : List V) : Prop := SqL K H a xs ∨ SqT K H a xs
theorem SqA.mono {K : PySem.W.Frag} {H H' : Hp} {a : Addr} {xs : List V} (e : Ex H H') (h : SqA K H a xs) : SqA K H' a xs := h.elim (fun z => .inl (ex_l e z)) fun z => .inr (ex_t e z)
/-- a list, or a tuple that is tracked -/
def SqB (K : PySem.W.Frag) (H : Hp) (a : Addr) (xs : List V) : Prop := SqL K H a xs ∨ H a = some (.tup xs)
theorem SqB.mono {K : PySem.W.Frag} {H H' : Hp} {a : Addr} {xs : List V} (e : Ex H H') (h : SqB K H a xs) : SqB K H' a xs := h.elim (fun z => .inl (ex_l e z)) fun z => .inr (e a _ z)
theorem SqB.a {K : PySem.W.Frag} {H : Hp} {a : Addr} {xs : List V} (h : SqB K H a xs) : SqA K H a xs := h.elim .inl fun z => .inr (st_of z)
/-- the set of a list's numbers -/
abbrev inL (ns : List Nat) : Nat → Bool := fun h => decide (h ∈ ns)
abbrev Lt (n : Nat) (ns : List Nat) : Prop := ∀ x ∈ ns, x < n

/-! ### whole numbers -/
def sp_is_whole : Sp := fun vs H Q _ => ∃ t lo hi : Int, vs = [.int t, .int lo, .int hi] ∧ RetV (.bl (decide (lo ≤ t) && decide (t ≤ hi))) H Q
def sp_check_letters : Sp := fun vs H Q _ => ∃ m : Nat, vs = [vN m] ∧ (1 ≤ m ∧ m ≤ 5) ∧ RetV (vN m) H Q
def sp_check_letter : Sp := fun vs H Q _ => ∃ m l : Nat, vs = [vN m, vN l] ∧ ((1 ≤ m ∧ m ≤ 5) ∧ l < m) ∧ RetV (vN l) H Q
def sp_check_bit : Sp := fun vs H Q _ => ∃ b : Nat, vs = [vN b] ∧ b < 2 ∧ RetV (vN b) H Q
def sp_check_heap : Sp := fun vs H Q _ => ∃ m h : Nat, vs = [vN m, vN h] ∧ ((1 ≤ m ∧ m ≤ 5) ∧ h < 2 ^ m) ∧ RetV (vN h) H Q
def sp_check_heaps (K : PySem.W.Frag) : Sp := fun vs H Q _ => ∃ (m : Nat) (l : Addr) (ns : List Nat), vs = [vN m, .ref l] ∧ ((1 ≤ m ∧ m ≤ 5) ∧ ns.length ≤ 60 ∧ Lt (2 ^ m) ns ∧ SqL K H l (nV ns)) ∧ RetT (nV (K64.heaps m (inL ns))) H Q
def bitsOf (n h : Nat) : List Nat := (List.range n).filter fun i => h.testBit i
def sp_letters_of : Sp := fun vs H Q _ => ∃ h : Nat, vs = [vN h] ∧ h < 32 ∧ RetT (nV (bitsOf 5 h)) H Q
def sp_count_ones : Sp := fun vs H Q _ => ∃ n : Nat, vs = [vN n] ∧ n < 2 ^ 32 ∧ RetV (vN (K64.pop n)) H Q
def sp_parity_of : Sp := fun vs H Q _ => ∃ n : Nat, vs = [vN n] ∧ n < 2 ^ 32 ∧ RetV (vN (K64.pop n % 2)) H Q
def sp_all_letters : Sp := fun vs H Q _ => ∃ m : Nat, vs = [vN m] ∧ (1 ≤ m ∧ m ≤ 5) ∧ RetV (vN (2 ^ m - 1)) H Q
def sp_complement_of : Sp := fun vs H Q _ => ∃ m h : Nat, vs = [vN m, vN h] ∧ ((1 ≤ m ∧ m ≤ 5) ∧ h < 2 ^ m) ∧ RetV (vN (K64.comp m h)) H Q
def sp_all_heaps : Sp := fun vs H Q _ => ∃ m : Nat, vs = [vN m] ∧ (1 ≤ m ∧ m ≤ 5) ∧ RetT (nV (List.range (2 ^ m))) H Q
def sp_full_word : Sp := fun vs H Q _ => ∃ m : Nat, vs = [vN m] ∧ (1 ≤ m ∧ m ≤ 5) ∧ RetV (vN (K64.full m)) H Q
def sp_check_word : Sp := fun vs H Q _ => ∃ m w : Nat, vs = [vN m, vN w] ∧ ((1 ≤ m ∧ m ≤ 5) ∧ w < 2 ^ 2 ^ m) ∧ RetV (vN w) H Q
def sp_stepped_word : Sp := fun vs H Q _ => ∃ m w : Nat, vs = [vN m, vN w] ∧ ((1 ≤ m ∧ m ≤ 5) ∧ w < 2 ^ 2 ^ m) ∧ RetV (vN (K64.stepW m w)) H Q
def sp_ones_of : Sp := fun vs H Q _ => ∃ m n : Nat, vs = [vN m, vN n] ∧ (1 ≤ m ∧ m ≤ 5) ∧ RetT (nV (bitsOf (2 ^ m) n)) H Q
def sp_heap_word : Sp := fun vs H Q _ => ∃ m h : Nat, vs = [vN m, vN h] ∧ ((1 ≤ m ∧ m ≤ 5) ∧ h < 2 ^ m) ∧ RetV (vN (K64.mon m h)) H Q
def sp_heaps_of : Sp := fun vs H Q _ => ∃ m w : Nat, vs = [vN m, vN w] ∧ ((1 ≤ m ∧ m ≤ 5) ∧ w < 2 ^ 2 ^ m) ∧ RetT (nV (bitsOf (2 ^ m) (K64.stepW m w))) H Q
def sp_meets_evenly : Sp := fun vs H Q _ => ∃ m w u : Nat, vs = [vN m, vN w, vN u] ∧ ((1 ≤ m ∧ m ≤ 5) ∧ w < 2 ^ 2 ^ m ∧ u < 2 ^ 2 ^ m) ∧ RetV (.bl (!K64.dot w u)) H Q
def sp_checked_letters : Sp := sp_check_letters
def sp_checked_heaps (K : PySem.W.Frag) : Sp := sp_check_heaps K
def sp_check_same : Sp := fun vs H Q _ => ∃ m : Nat, vs = [vN m, vN m] ∧ RetV .non H Q
/-- Choice.__init__: the new instance at a, all else as in H0 -/
def sp_init (K : PySem.W.Frag) (C : Addr) : Sp := fun vs H Q _ => ∃ (a : Addr) (m : Nat) (l : Addr) (ns : List Nat) (H0 : Hp) (dx : Addr), vs = [.ref a, vN m, .ref l] ∧ (H0 a = none ∧ H = upd H0 a (.ins C dx [])) ∧ ((1 ≤ m ∧ m ≤ 5) ∧ ns.length ≤ 60 ∧ Lt (2 ^ m) ns ∧ SqL K H0 l (nV ns)) ∧
  ∀ H2, Ex H0 H2 → ChAt C H2 a m (inL ns) → Q .non H2
def sp_contains (C : Addr) : Sp := fun vs H Q _ => ∃ (a : Addr) (h m : Nat) (p : Nat → Bool), vs = [.ref a, vN h] ∧ (ChAt C H a m p ∧ h < 2 ^ m) ∧ RetV (.bl (p h)) H Q
def sp_eq (C : Addr) : Sp := fun vs H Q _ => ∃ (a b : Addr) (m n : Nat) (p q : Nat → Bool), vs = [.ref a, .ref b] ∧ (ChAt C H a m p ∧ ChAt C H b n q) ∧ RetV (.bl (decide (m = n) && decide (K64.heaps m p = K64.heaps n q))) H Q
def sp_strange_heap (C : Addr) : Sp := fun vs H Q _ => ∃ (a : Addr) (w m : Nat) (p : Nat → Bool), vs = [.ref a, vN w] ∧ (ChAt C H a m p ∧ w < 2 ^ 2 ^ m) ∧ RetP (fun v _ => v = .non ↔ K64.inCode m p w) H Q
def sp_holds (C : Addr) : Sp := fun vs H Q _ => ∃ (a : Addr) (w m : Nat) (p : Nat → Bool), vs = [.ref a, vN w] ∧ (ChAt C H a m p ∧ w < 2 ^ 2 ^ m) ∧ RetP (fun v _ => ∃ b : Bool, v = .bl b ∧ (b = true ↔ K64.inCode m p w)) H Q
def sp_closed_gap (C : Addr) : Sp := fun vs H Q _ => ∃ (a : Addr) (m : Nat) (p : Nat → Bool), vs = [.ref a] ∧ (ChAt C H a m p ∧ K64.Clo m p) ∧ RetV .non H Q
def sp_check_closed (C : Addr) : Sp := fun vs H Q _ => ∃ (a : Addr) (m : Nat) (p : Nat → Bool), vs = [.ref a] ∧ (ChAt C H a m p ∧ K64.Clo m p) ∧ RetV (.ref a) H Q
def sp_product_of (C : Addr) : Sp := fun vs H Q _ => ∃ (a b : Addr) (m : Nat) (p q : Nat → Bool), vs = [.ref a, .ref b] ∧ (ChAt C H a m p ∧ ChAt C H b m q) ∧ RetP (IsCh C m (K64.prodP m p q)) H Q
def sp_kept_in (C : Addr) : Sp := fun vs H Q _ => ∃ (a b : Addr) (w m : Nat) (p q : Nat → Bool), vs = [.ref a, .ref b, vN w] ∧ (ChAt C H a m p ∧ ChAt C H b m q ∧ w < 2 ^ 2 ^ m) ∧
  RetP (fun v _ => v = .non ↔ ∀ h, h < 2 ^ m → q h = true → K64.inCode m p (w &&& K64.mon m h)) H Q
def sp_quotient_of (C : Addr) : Sp := fun vs H Q _ => ∃ (a b : Addr) (m : Nat) (p q : Nat → Bool), vs = [.ref a, .ref b] ∧ (ChAt C H a m p ∧ ChAt C H b m q ∧ K64.Clo m p ∧ K64.Clo m q) ∧ RetP (IsCh C m (K64.quoP m p q)) H Q
def sp_check_long : Sp := fun vs H Q _ => ∃ m : Nat, vs = [vN m] ∧ (2 ≤ m ∧ m ≤ 5) ∧ RetV (vN m) H Q
def sp_without_letter : Sp := fun vs H Q _ => ∃ n i : Nat, vs = [vN n, vN i] ∧ (n < 32 ∧ i < 5) ∧ RetV (vN (K64.wol n i)) H Q
def sp_strike_word : Sp := fun vs H Q _ => ∃ m w i b : Nat, vs = [vN (m + 1), vN w, vN i, vN b] ∧ ((1 ≤ m ∧ m < 5) ∧ w < 2 ^ 2 ^ (m + 1) ∧ i < m + 1 ∧ b < 2) ∧ RetV (vN (K64.strkW (m + 1) w i b)) H Q
def sp_widen_word : Sp := fun vs H Q _ => ∃ m w i b : Nat, vs = [vN (m + 1), vN w, vN i, vN b] ∧ ((1 ≤ m ∧ m < 5) ∧ w < 2 ^ 2 ^ m ∧ i < m + 1 ∧ b < 2) ∧ RetV (vN (K64.widW (m + 1) w i b)) H Q
def sp_strike (C : Addr) : Sp := fun vs H Q _ => ∃ (a : Addr) (m i b : Nat) (p : Nat → Bool), vs = [.ref a, vN i, vN b] ∧ (ChAt C H a (m + 1) p ∧ (1 ≤ m ∧ m < 5) ∧ i < m + 1 ∧ b < 2) ∧ RetP (IsCh C m (K64.strikeP (m + 1) p i b)) H Q
def sp_shorten (C : Addr) : Sp := fun vs H Q _ => ∃ (a : Addr) (m i b : Nat) (p : Nat → Bool), vs = [.ref a, vN i, vN b] ∧ (ChAt C H a (m + 1) p ∧ (1 ≤ m ∧ m < 5) ∧ i < m + 1 ∧ b < 2) ∧ RetP (IsCh C m (K64.shortP (m + 1) p i b)) H Q
def sp_check_below (K : PySem.W.Frag) : Sp := fun vs H Q _ => ∃ (a : Addr) (ns : List Nat) (g : Nat), vs = [.ref a, vN g] ∧ (SqB K H a (nV ns) ∧ ns.length ≤ 1000 ∧ ∀ x ∈ ns, x ≤ g) ∧ RetT (nV ns) H Q
def sp_check_words (K : PySem.W.Frag) : Sp := fun vs H Q _ => ∃ (a : Addr) (ns : List Nat), vs = [.ref a] ∧ (SqB K H a (nV ns) ∧ ns.length ≤ 1000 ∧ Lt (2 ^ 32) ns) ∧ RetT (nV ns) H Q
def sp_check_single : Sp := fun vs H Q _ => ∃ n : Nat, vs = [vN n] ∧ n < 2 ^ 32 ∧ RetV (vN n) H Q
def sp_taken_off (K : PySem.W.Frag) : Sp := fun vs H Q _ => ∃ (a : Addr) (ns : List Nat) (w : Nat), vs = [.ref a, vN w] ∧ (SqB K H a (nV ns) ∧ ns.length ≤ 1000 ∧ Lt (2 ^ 32) ns ∧ (∀ x ∈ ns, x ≠ 0) ∧ w < 2 ^ 32) ∧ RetV (vN (K64.takeOff ns w)) H Q
def sp_with_row (K : PySem.W.Frag) : Sp := fun vs H Q _ => ∃ (a : Addr) (ns : List Nat) (f : Nat), vs = [.ref a, vN f] ∧ (SqL K H a (nV ns) ∧ ns.length ≤ 32 ∧ f ≠ 0) ∧ RetL (nV (K64.withRow ns f)) H Q
def sp_reduced_rows (K : PySem.W.Frag) : Sp := fun vs H Q _ => ∃ (a : Addr) (ns : List Nat), vs = [.ref a] ∧ (SqB K H a (nV ns) ∧ ns.length ≤ 1000 ∧ Lt (2 ^ 32) ns) ∧ RetT (nV (K64.reduced ns)) H Q
def sp_remainder_of (K : PySem.W.Frag) : Sp := fun vs H Q _ => ∃ (a : Addr) (ns : List Nat) (w : Nat), vs = [.ref a, vN w] ∧ (SqB K H a (nV ns) ∧ ns.length ≤ 1000 ∧ Lt (2 ^ 32) ns ∧ w < 2 ^ 32) ∧ RetV (vN (K64.takeOff (K64.reduced ns) w)) H Q
def sp_in_span (K : PySem.W.Frag) : Sp := fun vs H Q _ => ∃ (a : Addr) (ns : List Nat) (w : Nat), vs = [.ref a, vN w] ∧ (SqB K H a (nV ns) ∧ ns.length ≤ 1000 ∧ Lt (2 ^ 32) ns ∧ w < 2 ^ 32) ∧ RetV (.bl (decide (K64.takeOff (K64.reduced ns) w = 0))) H Q
def sp_even_rows (K : PySem.W.Frag) : Sp := fun vs H Q _ => ∃ (m : Nat) (a : Addr) (ns : List Nat), vs = [vN m, .ref a] ∧ ((1 ≤ m ∧ m ≤ 5) ∧ SqL K H a (nV ns) ∧ ns.length ≤ 1000 ∧ Lt (2 ^ 2 ^ m) ns) ∧ RetT (nV (K64.evenRows m ns)) H Q
def sp_code_rows (C : Addr) : Sp := fun vs H Q _ => ∃ (a : Addr) (m : Nat) (p : Nat → Bool), vs = [.ref a] ∧ ChAt C H a m p ∧ RetL (nV (K64.codeRows m p)) H Q
def sp_rest_rows (C : Addr) : Sp := fun vs H Q _ => ∃ (a : Addr) (m : Nat) (p : Nat → Bool), vs = [.ref a] ∧ ChAt C H a m p ∧ RetT (nV (K64.evenRows m (K64.codeRows m p))) H Q
def sp_rest_of (C : Addr) : Sp := fun vs H Q _ => ∃ (a : Addr) (m : Nat) (p : Nat → Bool), vs = [.ref a] ∧ (ChAt C H a m p ∧ K64.Clo m p) ∧ RetP (IsCh C m (K64.restP m p)) H Q
def sp_meets_rest (C : Addr) : Sp := fun vs H Q _ => ∃ (a : Addr) (w m : Nat) (p : Nat → Bool), vs = [.ref a, vN w] ∧ (ChAt C H a m p ∧ w < 2 ^ 2 ^ m) ∧ RetP (fun v _ => v = .non ↔ K64.inCode m p w) H Q

/-! ### the law's own -/
end KW
namespace KW
open PySem PySem.Spec PyProof.Rows L2 Evl
def wos : List Nat := [1431655765, 858993459, 252645135, 16711935, 65535]
/-- the module's WITHOUT -/
def WT (K : PySem.W.Frag) (mg : Str → Option Value) (W : Addr) : Prop := mg "WITHOUT" = some (.ref W) ∧ ∀ H, SqT K H W (nV wos)
/-! other classes: nothing is asked of their instances but that they are none -/
def sp_einit (C : Addr) : Sp := fun vs H Q _ => ∃ (a : Addr) (h x : Nat) (H0 : Hp) (dx : Addr), vs = [.ref a, vN h, vN x] ∧ (H0 a = none ∧ H = upd H0 a (.ins C dx [])) ∧ ∀ H2, Ex H0 H2 → Q .non H2
def sp_ainit (C : Addr) : Sp := fun vs H Q _ => ∃ (a : Addr) (x : Nat) (H0 : Hp) (dx : Addr), vs = [.ref a, vN x] ∧ (H0 a = none ∧ H = upd H0 a (.ins C dx [])) ∧ ∀ H2, Ex H0 H2 → Q .non H2
end KW

/-! Loops and comprehensions over whatever is walked, by words of the part that is done. -/
namespace KW
open PySem PySem.Spec PyProof.Rows L2 Evl

/-- J walks xs as long as Hb stands -/
structure Turns (J : It) (Hb : Hp) (xs : List V) : Prop where
  go : ∀ i H, Ex Hb H → i < xs.length → J.go i H
  yld : ∀ i H x H', Ex Hb H → i < xs.length → J.yld i H x H' → H' = H ∧ xs[i]? = some x
  stop : ∀ H, Ex Hb H → J.stop xs.length H
structure TurnsE (J : It) (Hb : Hp) (xs : List V) : Prop where
  go : ∀ i H, Ex Hb H → i < xs.length → J.go i H
  yld : ∀ i H v H', Ex Hb H → i < xs.length → J.yld i H v H' → ∃ T x, v = .ref T ∧ H T = none ∧ H' = upd H T (.tup [vN i, x]) ∧ xs[i]? = some x
  stop : ∀ H, Ex Hb H → J.stop xs.length H
def EvI (ti : TI) (σ : L2.St) (H : Hp) (xs : List V) : Prop := ∀ H1, Ex H H1 → ∀ R : It → Hp → Prop, (∀ J H2, Ex H1 H2 → Turns J H2 xs → R J H2) → ti σ H1 R
def EvB (ti : TI) (σ : L2.St) (H0 H : Hp) (xs : List V) : Prop := ∀ H1, Ex H H1 → ∀ R : It → Hp → Prop, (∀ J H2, Ex H1 H2 → Turns J H0 xs → R J H2) → ti σ H1 R
def EvE (ti : TI) (σ : L2.St) (H : Hp) (xs : List V) : Prop := ∀ H1, Ex H H1 → ∀ R : It → Hp → Prop, (∀ J H2, Ex H1 H2 → TurnsE J H2 xs → R J H2) → ti σ H1 R
section
variable {K : PySem.W.Frag} {σ : L2.St} {H H' H0 Hb : Hp} {tl : TE} {ta : TA} {a : Addr} {xs : List V} {n : Nat}
theorem turns_list (h : SqL K Hb a xs) : Turns (Itl K a) Hb xs :=
  ⟨fun i H e hi => ⟨xs, xs[i], ex_l e h, List.getElem?_eq_getElem hi⟩, fun i H x H' e hi y => ⟨y.1, y.2 xs (ex_l e h)⟩, fun H e => ⟨xs, ex_l e h, Nat.le_refl _⟩⟩
theorem turns_tup (h : SqT K Hb a xs) : Turns (Itt K a) Hb xs :=
  ⟨fun i H e hi => ⟨xs, xs[i], ex_t e h, List.getElem?_eq_getElem hi⟩, fun i H x H' e hi y => ⟨y.1, y.2 xs (ex_t e h)⟩, fun H e => ⟨xs, ex_t e h, Nat.le_refl _⟩⟩
theorem turns_rng : Turns (Itr 0 n) Hb (nV (List.range n)) :=
  ⟨fun i H e hi => by show i < n; simpa using hi, fun i H x H' e hi y => ⟨y.1, by
    have h : i < n := by simpa using hi
    rw [y.2, List.getElem?_map, List.getElem?_range h, Int.zero_add]
    rfl⟩, fun H e => by show n ≤ (nV (List.range n)).length; simp⟩
theorem ei_list (h : Ev tl σ H (.ref a)) (hx : SqL K H a xs) : EvI (iList K tl) σ H xs := fun H1 e R k => h H1 e _ fun H2 e2 => ⟨a, rfl, ⟨xs, ex_l (e.trans e2) hx⟩, k _ H2 e2 (turns_list (ex_l (e.trans e2) hx))⟩
theorem ei_listN (h : EvL tl σ H xs) : EvI (iList K tl) σ H xs := fun H1 e R k => h H1 e _ fun p H2 _ e2 h2 => ⟨p, rfl, ⟨xs, sq_of h2⟩, k _ H2 e2 (turns_list (sq_of h2))⟩
theorem ei_tup (h : Ev tl σ H (.ref a)) (hx : SqT K H a xs) : EvI (iTup K tl) σ H xs := fun H1 e R k => h H1 e _ fun H2 e2 => ⟨a, rfl, ⟨xs, ex_t (e.trans e2) hx⟩, k _ H2 e2 (turns_tup (ex_t (e.trans e2) hx))⟩
theorem ei_tupN (h : EvT' tl σ H xs) : EvI (iTup K tl) σ H xs := fun H1 e R k => h H1 e _ fun p H2 e2 h2 => ⟨p, rfl, ⟨xs, st_of h2⟩, k _ H2 e2 (turns_tup (st_of h2))⟩
theorem ei_rng (h : EvA ta σ H [vN n]) (hn : n ≤ 1000000) : EvI (iRng1 ta) σ H (nV (List.range n)) := fun H1 e R k => h H1 e _ fun H2 e2 => ⟨(n : Int), rfl, by omega, by omega, k _ H2 e2 turns_rng⟩
theorem ei_seqV {i : Nat} (h : σ[i]? = some (some (.ref a))) (hx : SqA K H a xs) : EvI (iSeqV K i) σ H xs := fun H1 e R k => ⟨a, h, by
  rcases hx with hx | hx
  · exact .inl ⟨⟨xs, ex_l e hx⟩, k _ H1 (Ex.refl H1) (turns_list (ex_l e hx))⟩
  · exact .inr ⟨⟨xs, ex_t e hx⟩, k _ H1 (Ex.refl H1) (turns_tup (ex_t e hx))⟩⟩
theorem eb_tup (e0 : Ex H0 H) (h : Ev tl σ H (.ref a)) (hx : SqT K H0 a xs) : EvB (iTup K tl) σ H0 H xs := fun H1 e R k => h H1 e _ fun H2 e2 => ⟨a, rfl, ⟨xs, ex_t ((e0.trans e).trans e2) hx⟩, k _ H2 e2 (turns_tup hx)⟩
theorem eb_list (e0 : Ex H0 H) (h : Ev tl σ H (.ref a)) (hx : SqL K H0 a xs) : EvB (iList K tl) σ H0 H xs := fun H1 e R k => h H1 e _ fun H2 e2 => ⟨a, rfl, ⟨xs, ex_l ((e0.trans e).trans e2) hx⟩, k _ H2 e2 (turns_list hx)⟩
theorem eb_rng (h : EvA ta σ H [vN n]) (hn : n ≤ 1000000) : EvB (iRng1 ta) σ H0 H (nV (List.range n)) := fun H1 e R k => h H1 e _ fun H2 e2 => ⟨(n : Int), rfl, by omega, by omega, k _ H2 e2 turns_rng⟩
/-! enumerate -/
theorem turnsE_list (h : SqL K Hb a xs) : TurnsE (Ite K a) Hb xs :=
  ⟨fun i H e hi => ⟨xs, xs[i], ex_l e h, List.getElem?_eq_getElem hi⟩, fun i H v H' e hi y => by
    obtain ⟨T, x, h1, h2, h3, h4⟩ := y
    exact ⟨T, x, h1, h2, h3, h4 xs (ex_l e h)⟩, fun H e => ⟨xs, ex_l e h, Nat.le_refl _⟩⟩
theorem turnsE_tup (h : SqT K Hb a xs) : TurnsE (K64.IteT K a) Hb xs :=
  ⟨fun i H e hi => ⟨xs, xs[i], ex_t e h, List.getElem?_eq_getElem hi⟩, fun i H v H' e hi y => by
    obtain ⟨T, x, h1, h2, h3, h4⟩ := y
    exact ⟨T, x, h1, h2, h3, h4 xs (ex_t e h)⟩, fun H e => ⟨xs, ex_t e h, Nat.le_refl _⟩⟩
theorem ee_list (h : EvA ta σ H [.ref a]) (hx : SqL K H a xs) : EvE (iEnum K ta) σ H xs := fun H1 e R k => h H1 e _ fun H2 e2 => ⟨a, xs, rfl, ex_l (e.trans e2) hx, k _ H2 e2 (turnsE_list (ex_l (e.trans e2) hx))⟩
theorem ee_tup (h : EvA ta σ H [.ref a]) (hx : SqT K H a xs) : EvE (K64.iEnumT K ta) σ H xs := fun H1 e R k => h H1 e _ fun H2 e2 => ⟨a, xs, rfl, ex_t (e.trans e2) hx, k _ H2 e2 (turnsE_tup (ex_t (e.trans e2) hx))⟩
/-- enumerate(x), x a list or a tuple in a slot -/
def iEnumV (K : PySem.W.Frag) (i : Nat) : TI := fun σ H R => ∃ a xs, σ[i]? = some (some (.ref a)) ∧ ((SqL K H a xs ∧ R (Ite K a) H) ∨ (SqT K H a xs ∧ R (K64.IteT K a) H))
theorem pi_enumV {X : Cx} {e : Expr} {p pos tpos : Pos} {elts : List Expr} {kk : Nat} {i : Nat} (hg : Gl X "enumerate") (hm : X.mg "enumerate" = none) (ha : PA X [e] (tCons (tVar i) tNil)) (hs : starEach [e] X.env = [(false, eval e X.env)] := by rfl) :
    PI X (.Tuple elts kk tpos) (.Call (.Name "enumerate" p) [e] [] pos) (iEnumV X.K i) := by
  refine ⟨fun pins s σ H R I h => ?_⟩
  obtain ⟨a, xs, e1, h⟩ := h
  rcases h with ⟨hx, h⟩ | ⟨hx, h⟩
  · exact (pi_enum hg hm ha hs).run pins s σ H R I ⟨_, e1, a, xs, rfl, hx, h⟩
  · exact (K64.pi_enumT hg hm ha hs).run pins s σ H R I ⟨_, e1, a, xs, rfl, hx, h⟩
theorem ee_seqV {i : Nat} (h : σ[i]? = some (some (.ref a))) (hx : SqA K H a xs) : EvE (iEnumV K i) σ H xs := fun H1 e R k => ⟨a, xs, h, by
  rcases hx with hx | hx
  · exact .inl ⟨ex_l e hx, k _ H1 (Ex.refl H1) (turnsE_list (ex_l e hx))⟩
  · exact .inr ⟨ex_t e hx, k _ H1 (Ex.refl H1) (turnsE_tup (ex_t e hx))⟩⟩
end

/-! ### for -/
section
variable {K : PySem.W.Frag} {α : Type} {φ : α → V} {l : List α} {J : It} {Hb H0 : Hp} {g : TG} {tb : TS} {tz : TS} {D : Ends} {σ : L2.St} {H : Hp} {ti : TI} {j : Nat}
theorem at_map {i : Nat} {x : V} (hi : i < (l.map φ).length) (h : (l.map φ)[i]? = some x) : ∃ a, x = φ a ∧ l = l.take i ++ a :: l.drop (i + 1) ∧ l.take (i + 1) = l.take i ++ [a] := by
  have hi' : i < l.length := by simpa using hi
  rw [List.getElem?_map, List.getElem?_eq_getElem hi'] at h
  cases h
  refine ⟨l[i], rfl, ?_, ?_⟩
  · rw [← List.drop_eq_getElem_cons hi', List.take_append_drop]
  · rw [List.take_succ_eq_append_getElem hi']
def Nxt (Hb : Hp) (P : L2.St → Hp → Prop) : L2.St → Hp → Prop := fun σ H => Ex Hb H ∧ P σ H
theorem for_core (T : Turns J Hb (l.map φ)) (e : Ex Hb H) (Pv : List α → L2.St → Hp → Prop) (h0 : Pv [] σ H)
    (hs : ∀ pre a post σ' H', l = pre ++ a :: post → Ex Hb H' → Pv pre σ' H' → g (φ a) σ' H' fun σ2 H2 => tb { D with nx := Nxt Hb (Pv (pre ++ [a])), ct := Nxt Hb (Pv (pre ++ [a])), bk := D.nx } σ2 H2) (hd : ∀ σ' H', Ex Hb H' → Pv l σ' H' → D.nx σ' H') :
    ∃ W : Nat → Nat → L2.St → Hp → Prop, (∃ m, W 0 m σ H) ∧ ∀ i m σ H, W i m σ H →
      (J.stop i H ∧ D.nx σ H) ∨ (J.go i H ∧ ∃ N : L2.St → Hp → Prop, (∀ σ' H', N σ' H' → ∃ m', m' < m ∧ W (i + 1) m' σ' H') ∧ ∀ x H', J.yld i H x H' → g x σ H' fun σ2 H2 => tb { D with nx := N, ct := N, bk := D.nx } σ2 H2) := by
  refine ⟨fun i m σ H => m + i = l.length ∧ Ex Hb H ∧ Pv (l.take i) σ H, ⟨l.length, rfl, e, by rw [List.take_zero]; exact h0⟩, ?_⟩
  rintro i m σ1 H1 ⟨hm, e1, p⟩
  by_cases hlt : i < l.length
  · have hl : i < (l.map φ).length := by simpa using hlt
    refine .inr ⟨T.go i H1 e1 hl, Nxt Hb (Pv (l.take (i + 1))), fun σ' H' q => ⟨m - 1, by omega, by omega, q.1, q.2⟩, fun x H' y => ?_⟩
    obtain ⟨rfl, hx⟩ := T.yld i H1 x H' e1 hl y
    obtain ⟨a, rfl, e2, e3⟩ := at_map hl hx
    rw [e3]
    exact hs _ a _ σ1 _ e2 e1 p
  · have hi : i = l.length := by omega
    subst hi
    rw [List.take_length] at p
    refine .inl ⟨?_, hd σ1 H1 e1 p⟩
    have := T.stop H1 e1
    rwa [List.length_map] at this
theorem for_coreE {K : PySem.W.Frag} {gt : TGs} (T : TurnsE J Hb (l.map φ)) (e : Ex Hb H) (Pv : List α → L2.St → Hp → Prop) (h0 : Pv [] σ H)
    (hs : ∀ pre a post σ' H', l = pre ++ a :: post → Ex Hb H' → Pv pre σ' H' → gt [vN pre.length, φ a] σ' H' fun σ2 H2 => tb { D with nx := Nxt Hb (Pv (pre ++ [a])), ct := Nxt Hb (Pv (pre ++ [a])), bk := D.nx } σ2 H2) (hd : ∀ σ' H', Ex Hb H' → Pv l σ' H' → D.nx σ' H')
    (hp : ∀ pre σ' H' T o, Ex Hb H' → H' T = none → Pv pre σ' H' → Pv pre σ' (upd H' T o)) :
    ∃ W : Nat → Nat → L2.St → Hp → Prop, (∃ m, W 0 m σ H) ∧ ∀ i m σ H, W i m σ H →
      (J.stop i H ∧ D.nx σ H) ∨ (J.go i H ∧ ∃ N : L2.St → Hp → Prop, (∀ σ' H', N σ' H' → ∃ m', m' < m ∧ W (i + 1) m' σ' H') ∧ ∀ x H', J.yld i H x H' → gTup K 2 gt x σ H' fun σ2 H2 => tb { D with nx := N, ct := N, bk := D.nx } σ2 H2) := by
  refine ⟨fun i m σ H => m + i = l.length ∧ Ex Hb H ∧ Pv (l.take i) σ H, ⟨l.length, rfl, e, by rw [List.take_zero]; exact h0⟩, ?_⟩
  rintro i m σ1 H1 ⟨hm, e1, p⟩
  by_cases hlt : i < l.length
  · have hl : i < (l.map φ).length := by simpa using hlt
    refine .inr ⟨T.go i H1 e1 hl, Nxt Hb (Pv (l.take (i + 1))), fun σ' H' q => ⟨m - 1, by omega, by omega, q.1, q.2⟩, fun v H' y => ?_⟩
    obtain ⟨T', x, rfl, hT, rfl, hx⟩ := T.yld i H1 v H' e1 hl y
    obtain ⟨a, rfl, e2, e3⟩ := at_map hl hx
    rw [e3]
    refine ⟨T', _, rfl, .inl (.inl upd_same), rfl, ?_⟩
    have q := hs _ a _ σ1 (upd H1 T' (.tup [vN i, φ a])) e2 (e1.trans (Ex.new hT)) (hp _ _ _ _ _ e1 hT p)
    rw [List.length_take, Nat.min_eq_left (Nat.le_of_lt hlt)] at q
    exact q
  · have hi : i = l.length := by omega
    subst hi
    rw [List.take_length] at p
    refine .inl ⟨?_, hd σ1 H1 e1 p⟩
    have := T.stop H1 e1
    rwa [List.length_map] at this

/-- for x in .. : the body sees what stood when the loop began -/
theorem s_for (h : EvI ti σ H (l.map φ)) (Pv : List α → L2.St → Hp → Prop) (h0 : ∀ H1, Ex H H1 → Pv [] σ H1)
    (hs : ∀ Hb, Ex H Hb → ∀ pre a post σ' H', l = pre ++ a :: post → Ex Hb H' → Pv pre σ' H' → tb { D with nx := Nxt Hb (Pv (pre ++ [a])), ct := Nxt Hb (Pv (pre ++ [a])), bk := D.nx } (σ'.set j (some (φ a))) H') (hd : ∀ σ' H', Ex H H' → Pv l σ' H' → D.nx σ' H') :
    tFor ti (gName j) tb D σ H := h H (Ex.refl H) _ fun J H2 e2 T => for_core T (Ex.refl H2) Pv (h0 H2 e2) (fun pre a post σ' H' el e p => hs H2 e2 pre a post σ' H' el e p) fun σ' H' e p => hd σ' H' (e2.trans e) p
theorem q_for (h : EvI ti σ H (l.map φ)) (Pv : List α → L2.St → Hp → Prop) (h0 : ∀ H1, Ex H H1 → Pv [] σ H1)
    (hs : ∀ Hb, Ex H Hb → ∀ pre a post σ' H', l = pre ++ a :: post → Ex Hb H' → Pv pre σ' H' → tb { D with nx := Nxt Hb (Pv (pre ++ [a])), ct := Nxt Hb (Pv (pre ++ [a])), bk := tz D } (σ'.set j (some (φ a))) H') (hd : ∀ σ' H', Ex H H' → Pv l σ' H' → tz D σ' H') :
    tSeq (tFor ti (gName j) tb) tz D σ H := s_for (D := { D with nx := tz D }) h Pv h0 hs hd
/-- .. that changes a list which H0 does not know -/
theorem s_forB (e0 : Ex H0 H) (h : EvB ti σ H0 H (l.map φ)) (Pv : List α → L2.St → Hp → Prop) (h0 : ∀ H1, Ex H H1 → Pv [] σ H1)
    (hs : ∀ pre a post σ' H', l = pre ++ a :: post → Ex H0 H' → Pv pre σ' H' → tb { D with nx := Nxt H0 (Pv (pre ++ [a])), ct := Nxt H0 (Pv (pre ++ [a])), bk := D.nx } (σ'.set j (some (φ a))) H') (hd : ∀ σ' H', Ex H0 H' → Pv l σ' H' → D.nx σ' H') :
    tFor ti (gName j) tb D σ H := h H (Ex.refl H) _ fun J H2 e2 T => for_core T (e0.trans e2) Pv (h0 H2 e2) (fun pre a post σ' H' el e p => hs pre a post σ' H' el e p) fun σ' H' e p => hd σ' H' e p
theorem q_forB (e0 : Ex H0 H) (h : EvB ti σ H0 H (l.map φ)) (Pv : List α → L2.St → Hp → Prop) (h0 : ∀ H1, Ex H H1 → Pv [] σ H1)
    (hs : ∀ pre a post σ' H', l = pre ++ a :: post → Ex H0 H' → Pv pre σ' H' → tb { D with nx := Nxt H0 (Pv (pre ++ [a])), ct := Nxt H0 (Pv (pre ++ [a])), bk := tz D } (σ'.set j (some (φ a))) H') (hd : ∀ σ' H', Ex H0 H' → Pv l σ' H' → tz D σ' H') :
    tSeq (tFor ti (gName j) tb) tz D σ H := s_forB (D := { D with nx := tz D }) e0 h Pv h0 hs hd
/-- for i, x in enumerate(..) -/
theorem s_forE {i : Nat} (h : EvE ti σ H (l.map φ)) (Pv : List α → L2.St → Hp → Prop) (hp : ∀ pre σ' H' H'', Ex H' H'' → Pv pre σ' H' → Pv pre σ' H'') (h0 : ∀ H1, Ex H H1 → Pv [] σ H1)
    (hs : ∀ Hb, Ex H Hb → ∀ pre a post σ' H', l = pre ++ a :: post → Ex Hb H' → Pv pre σ' H' → tb { D with nx := Nxt Hb (Pv (pre ++ [a])), ct := Nxt Hb (Pv (pre ++ [a])), bk := D.nx } ((σ'.set i (some (vN pre.length))).set j (some (φ a))) H') (hd : ∀ σ' H', Ex H H' → Pv l σ' H' → D.nx σ' H') :
    tFor ti (gTup K 2 (gCons (gName i) (gCons (gName j) gNil))) tb D σ H := h H (Ex.refl H) _ fun J H2 e2 T => for_coreE T (Ex.refl H2) Pv (h0 H2 e2)
      (fun pre a post σ' H' el e p => ⟨_, _, rfl, _, _, rfl, rfl, hs H2 e2 pre a post σ' H' el e p⟩) (fun σ' H' e p => hd σ' H' (e2.trans e) p) fun pre σ' H' T o e hT p => hp pre σ' H' _ (Ex.new hT) p
theorem q_forE {i : Nat} (h : EvE ti σ H (l.map φ)) (Pv : List α → L2.St → Hp → Prop) (hp : ∀ pre σ' H' H'', Ex H' H'' → Pv pre σ' H' → Pv pre σ' H'') (h0 : ∀ H1, Ex H H1 → Pv [] σ H1)
    (hs : ∀ Hb, Ex H Hb → ∀ pre a post σ' H', l = pre ++ a :: post → Ex Hb H' → Pv pre σ' H' → tb { D with nx := Nxt Hb (Pv (pre ++ [a])), ct := Nxt Hb (Pv (pre ++ [a])), bk := tz D } ((σ'.set i (some (vN pre.length))).set j (some (φ a))) H') (hd : ∀ σ' H', Ex H H' → Pv l σ' H' → tz D σ' H') :
    tSeq (tFor ti (gTup K 2 (gCons (gName i) (gCons (gName j) gNil))) tb) tz D σ H := s_forE (D := { D with nx := tz D }) h Pv hp h0 hs hd
end

/-! ### list comprehensions -/
/-- a new list, its content told by a relation -/
def EvLP (te : TE) (σ : L2.St) (H : Hp) (P : List V → Prop) : Prop := ∀ H1, Ex H H1 → ∀ Q : VK, (∀ p H2 xs, H1 p = none → Ex H1 H2 → H2 p = some (.lst xs) → P xs → Q (.ref p) H2) → te σ H1 Q
theorem EvLP.mono {te : TE} {σ : L2.St} {H H' : Hp} {P : List V → Prop} (e : Ex H H') (h : EvLP te σ H P) : EvLP te σ H' P := fun H1 a Q q => h H1 (e.trans a) Q q
theorem EvLP.el {te : TE} {σ : L2.St} {H : Hp} {P : List V → Prop} {xs : List V} (h : EvLP te σ H P) (k : ∀ ys, P ys → ys = xs) : EvL te σ H xs := fun H1 e Q q =>
  h H1 e Q fun p H2 ys hp e2 h2 hy => q p H2 hp e2 (by rw [← k ys hy]; exact h2)
section
variable {K : PySem.W.Frag} {α : Type} {φ : α → V} {l : List α} {J : It} {Hb H0 : Hp} {tt : TT} {te : TE} {σ : L2.St} {H : Hp} {ti : TI} {j : Nat} {vs : List Nat}
theorem lc_turns (T : Turns J Hb (l.map φ)) {D : Addr} {Qd : Hp → Prop} {H1 : Hp} (hD : H1 D = none) (e1 : Ex Hb H1) (hz : l.length ≤ 90000) (hw : ∀ x, wipe ((wipe σ vs).set j (some x)) vs = wipe σ vs) (Pv : List α → List V → Prop) (h0 : Pv [] [])
    (hs : ∀ pre a post acc H', l = pre ++ a :: post → Ex H1 H' → Pv pre acc → ∃ b, EvT tt ((wipe σ vs).set j (some (φ a))) H' b ∧ (b = false → Pv (pre ++ [a]) acc) ∧ (b = true → EvP te ((wipe σ vs).set j (some (φ a))) H' fun y _ => Pv (pre ++ [a]) (acc ++ [y])))
    (hd : ∀ H' acc, Ex H1 H' → H' D = some (.lst acc) → Pv l acc → Qd H') :
    ∃ W : Nat → Nat → Hp → Prop, (∃ m, W 0 m (upd H1 D (.lst []))) ∧ ∀ i m H, W i m H →
      (J.stop i H ∧ Qd H) ∨ (J.go i H ∧ ∃ Nx : Hp → Prop, (∀ H', Nx H' → ∃ m', m' < m ∧ W (i + 1) m' H') ∧ ∀ x H', J.yld i H x H' → gName j x (wipe σ vs) H' fun σ2 H2 => wipe σ2 vs = wipe σ vs ∧ tt σ2 H2 fun b H3 =>
        if b = true then te σ2 H3 fun y H4 => ∃ acc, H4 D = some (.lst acc) ∧ acc.length < sizeLine ∧ Nx (upd H4 D (.lst (acc ++ [y]))) else Nx H3) := by
  refine ⟨fun i m H => m + i = l.length ∧ Ex H1 H ∧ ∃ acc, H D = some (.lst acc) ∧ acc.length ≤ i ∧ Pv (l.take i) acc, ⟨l.length, rfl, Ex.new hD, [], upd_same, Nat.le_refl _, by rw [List.take_zero]; exact h0⟩, ?_⟩
  rintro i m H2 ⟨hm, e2, acc, ha, hac, p⟩
  by_cases hlt : i < l.length
  · have hl : i < (l.map φ).length := by simpa using hlt
    refine .inr ⟨T.go i H2 (e1.trans e2) hl, fun H' => Ex H1 H' ∧ ∃ acc, H' D = some (.lst acc) ∧ acc.length ≤ i + 1 ∧ Pv (l.take (i + 1)) acc, fun H' q => ⟨m - 1, by omega, by omega, q⟩, fun x H' y => ?_⟩
    obtain ⟨rfl, hx⟩ := T.yld i H2 x H' (e1.trans e2) hl y
    obtain ⟨a, rfl, e3, e4⟩ := at_map hl hx
    rw [e4]
    obtain ⟨b, hb, hf, ht⟩ := hs _ a _ acc _ e3 e2 p
    refine ⟨hw _, hb _ (Ex.refl _) _ fun H3 ex3 => ?_⟩
    cases b with
    | false => exact ⟨e2.trans ex3, acc, ex3 D _ ha, by omega, hf rfl⟩
    | true =>
      refine ht rfl H3 ex3 _ fun y H4 ex4 hy => ⟨acc, ex4 D _ (ex3 D _ ha), sz_lt (by omega), Ex.mut ((e2.trans ex3).trans ex4) hD, acc ++ [y], upd_same, ?_, hy⟩
      rw [List.length_append]
      show acc.length + 1 ≤ i + 1
      omega
  · have hi : i = l.length := by omega
    subst hi
    rw [List.take_length] at p
    refine .inl ⟨?_, hd H2 acc e2 ha p⟩
    have := T.stop H2 (e1.trans e2)
    rwa [List.length_map] at this
/-- [e for x in .. if t], by a relation of what is done and what is made -/
theorem elp_lc (h : EvI ti σ H (l.map φ)) (hz : l.length ≤ 90000) (hw : ∀ x, wipe ((wipe σ vs).set j (some x)) vs = wipe σ vs) (Pv : List α → List V → Prop) (h0 : Pv [] [])
    (hs : ∀ pre a post acc H', l = pre ++ a :: post → Ex H H' → Pv pre acc → ∃ b, EvT tt ((wipe σ vs).set j (some (φ a))) H' b ∧ (b = false → Pv (pre ++ [a]) acc) ∧ (b = true → EvP te ((wipe σ vs).set j (some (φ a))) H' fun y _ => Pv (pre ++ [a]) (acc ++ [y]))) :
    EvLP (tLc ti (gName j) tt te vs) σ H (Pv l) := fun H1 e Q q => h H1 e _ fun J H2 e2 T D hD =>
  lc_turns T hD (Ex.refl H2) hz hw Pv h0 (fun pre a post acc H' el e3 p => hs pre a post acc H' el ((e.trans e2).trans e3) p) fun H' acc e3 ha p => q D H' acc (fresh_back e2 hD) (e2.trans e3) ha p
/-- what each turn gives is known -/
theorem el_lc (f : α → Bool) (v : α → V) (h : EvI ti σ H (l.map φ)) (hz : l.length ≤ 90000) (hw : ∀ x, wipe ((wipe σ vs).set j (some x)) vs = wipe σ vs)
    (ht : ∀ a H', a ∈ l → Ex H H' → EvT tt ((wipe σ vs).set j (some (φ a))) H' (f a)) (he : ∀ a H', a ∈ l → Ex H H' → f a = true → Ev te ((wipe σ vs).set j (some (φ a))) H' (v a)) :
    EvL (tLc ti (gName j) tt te vs) σ H ((l.filter f).map v) :=
  (elp_lc h hz hw (fun pre acc => acc = (pre.filter f).map v) rfl fun pre a post acc H' el e p => by
    have hm : a ∈ l := by rw [el]; simp
    refine ⟨f a, ht a H' hm e, fun hf => ?_, fun hf => ?_⟩
    · rw [p, List.filter_append, List.filter_cons, if_neg (by rw [hf]; decide)]
      simp
    · refine fun H1 e1 Q q => he a H' hm e hf H1 e1 Q fun H2 e2 => q _ H2 e2 ?_
      rw [p, List.filter_append, List.filter_cons, if_pos hf]
      simp).el fun ys k => k
theorem et_yes : EvT tYes σ H true := fun H1 _ _ q => q H1 (Ex.refl H1)
theorem filter_yes (l : List α) : l.filter (fun _ => true) = l := List.filter_eq_self.mpr fun _ _ => rfl
/-- without a test -/
theorem el_lcY (v : α → V) (h : EvI ti σ H (l.map φ)) (hz : l.length ≤ 90000) (hw : ∀ x, wipe ((wipe σ vs).set j (some x)) vs = wipe σ vs)
    (he : ∀ a H', a ∈ l → Ex H H' → Ev te ((wipe σ vs).set j (some (φ a))) H' (v a)) : EvL (tLc ti (gName j) tYes te vs) σ H (l.map v) := by
  have k := el_lc (f := fun _ => true) v h hz hw (fun _ _ _ _ => et_yes) fun a H' ha e _ => he a H' ha e
  rw [filter_yes] at k
  exact k
/-- numbers -/
theorem map_nV (l : List α) (g : α → Nat) : l.map (fun a => vN (g a)) = nV (l.map g) := by
  show _ = (l.map g).map vN
  rw [List.map_map]
  rfl
end
end KW
namespace KW
open PySem PySem.Spec PyProof.Rows L2 Evl
section
variable {K : PySem.W.Frag} {σ : L2.St} {H H' : Hp} {ta tb tc td te : TE} {x y z v : V} {D : Ends} {tz : TS} {t : TT} {xs : List V} {P : VP}
theorem ea1 (h : Ev ta σ H x) : EvA (tCons ta tNil) σ H [x] := ea_cons h ea_nil
theorem ea2 (h : Ev ta σ H x) (h2 : Ev tb σ H y) : EvA (tCons ta (tCons tb tNil)) σ H [x, y] := ea_cons h (ea1 h2)
theorem ea3 (h : Ev ta σ H x) (h2 : Ev tb σ H y) (h3 : Ev tc σ H z) : EvA (tCons ta (tCons tb (tCons tc tNil))) σ H [x, y, z] := ea_cons h (ea2 h2 h3)
theorem ea4 (h : Ev ta σ H x) (h2 : Ev tb σ H y) (h3 : Ev tc σ H z) (h4 : Ev td σ H v) : EvA (tCons ta (tCons tb (tCons tc (tCons td tNil)))) σ H [x, y, z, v] := ea_cons h (ea3 h2 h3 h4)
/-- if not c: raise .. -/
theorem q_guard (h : EvT t σ H true) (k : ∀ H1, Ex H H1 → tz D σ H1) : tSeq (tIfS (tNot t) tNever tNext) tz D σ H := q_when (et_not h) (fun z => absurd z (by decide)) fun _ H1 e1 => k H1 e1
theorem q_guardN (h : EvT t σ H false) (k : ∀ H1, Ex H H1 → tz D σ H1) : tSeq (tIfS t tNever tNext) tz D σ H := q_when h (fun z => absurd z (by decide)) fun _ H1 e1 => k H1 e1
theorem s_guard (h : EvT t σ H true) (k : ∀ H1, Ex H H1 → D.nx σ H1) : tIfS (tNot t) tNever tNext D σ H := s_when (et_not h) (fun z => absurd z (by decide)) fun _ H1 e1 => k H1 e1
theorem s_guardN (h : EvT t σ H false) (k : ∀ H1, Ex H H1 → D.nx σ H1) : tIfS t tNever tNext D σ H := s_when h (fun z => absurd z (by decide)) fun _ H1 e1 => k H1 e1
theorem q_dropP (h : EvP te σ H P) (k : ∀ H1, Ex H H1 → tz D σ H1) : tSeq (tDrop te) tz D σ H := h H (Ex.refl H) _ fun v H1 e hv => k H1 e
/-- tuple(..) of a new list -/
abbrev rTupOf (K : PySem.W.Frag) : List V → Hp → VK → Prop := fun xs H Q => ∃ p ys, xs = [.ref p] ∧ ((SqL K H p ys ∧ ∀ l, H l = none → Q (.ref l) (upd H l (.tup ys))) ∨ (SqT K H p ys ∧ Q (.ref p) H))
theorem ett_tupN (h : EvL ta σ H xs) : EvT' (tCB (rTupOf K) (tCons ta tNil)) σ H xs := fun H1 e Q q =>
  h H1 e _ fun p H2 hp e2 h2 => ⟨p, xs, rfl, .inl ⟨sq_of h2, fun l hl => q l _ (e2.trans (Ex.new hl)) upd_same⟩⟩
theorem ett_tup {a : Addr} (h : Ev ta σ H (.ref a)) (hx : SqA K H a xs) (ht : ∀ H1, Ex H H1 → SqT K H1 a xs → H1 a = some (.tup xs)) : EvT' (tCB (rTupOf K) (tCons ta tNil)) σ H xs := fun H1 e Q q =>
  h H1 e _ fun H2 e2 => ⟨a, xs, rfl, (hx.mono (e.trans e2)).elim (fun z => .inl ⟨z, fun l hl => q l _ (e2.trans (Ex.new hl)) upd_same⟩) fun z => .inr ⟨z, q a H2 e2 (ht H2 (e.trans e2) z)⟩⟩
abbrev rLstOf (K : PySem.W.Frag) : List V → Hp → VK → Prop := fun xs H Q => ∃ p ys, xs = [.ref p] ∧ (SqL K H p ys ∨ SqT K H p ys) ∧ ∀ l, H l = none → Q (.ref l) (upd H l (.lst ys))
theorem el_lstOf {a : Addr} (h : Ev ta σ H (.ref a)) (hx : SqA K H a xs) : EvL (tCB (rLstOf K) (tCons ta tNil)) σ H xs := fun H1 e Q q =>
  h H1 e _ fun H2 e2 => ⟨a, xs, rfl, hx.mono (e.trans e2), fun l hl => q l _ (fresh_back e2 hl) (e2.trans (Ex.new hl)) upd_same⟩
abbrev rLenSq (K : PySem.W.Frag) : List V → Hp → VK → Prop := fun xs H Q => ∃ p ys, xs = [.ref p] ∧ (SqL K H p ys ∨ SqT K H p ys) ∧ Q (.int ys.length) H
theorem ev_lenSq {a : Addr} (h : Ev ta σ H (.ref a)) (hx : SqA K H a xs) : Ev (tCB (rLenSq K) (tCons ta tNil)) σ H (vN xs.length) := fun H1 e Q q =>
  h H1 e _ fun H2 e2 => ⟨a, xs, rfl, hx.mono (e.trans e2), q H2 e2⟩
theorem nV_length (ns : List Nat) : (nV ns).length = ns.length := List.length_map _
end
end KW
namespace KW
open PySem PySem.Spec PyProof.Rows L2 Evl
/-! ### rules with the fragment named, for use within comprehensions -/
def tTru (K : PySem.W.Frag) (ta : TE) : TT := fun σ H Q => ta σ H fun x H' => ∃ k, TruV K x H' k ∧ Q k H'
section
variable {X : Cx} {K : PySem.W.Frag} {a e : Expr} {ta te : TE} {f : Str} {pos : Pos} {tg : Expr}
theorem pt_truthK (hK : X.K = K) (ha : PE X a ta) (he : ∀ whole, isTrue a X.env whole = (do let v ← whole; standAt a.pos; holding [v] (truthy v))) : PT X a (tTru K ta) := by
  subst hK
  exact pt_truth ha he
theorem op_inK (hK : X.K = K) : OpR X (compareOp .In) (rIn K false) := by
  subst hK
  exact op_in_seq
theorem op_notInK (hK : X.K = K) : OpR X (compareOp .NotIn) (rIn K true) := by
  subst hK
  exact op_notIn_seq
theorem ix_listK (hK : X.K = K) : IxR X (rIxL K) := by
  subst hK
  exact ix_list
theorem ix_tupK (hK : X.K = K) : IxR X (rIxT K) := by
  subst hK
  exact ix_tup
theorem pe_fldK (hK : X.K = K) (he : PE X e ta) (hb : attributeBase e f X.env (eval e X.env) = eval e X.env) : PE X (.Attribute e f pos) (tFld K ta f) := by
  subst hK
  exact pe_fld he hb
theorem pi_listK (hK : X.K = K) (hl : PE X e te) : PI X tg e (iList K te) := by
  subst hK
  exact pi_list hl
theorem pi_tupK (hK : X.K = K) (hl : PE X e te) : PI X tg e (iTup K te) := by
  subst hK
  exact pi_tup hl
theorem cr_anyK (hK : X.K = K) (hc : X.calm = true) : CallR X (.builtin "any") (rAny K) := by
  subst hK
  exact cr_any hc
theorem cr_allK (hK : X.K = K) (hc : X.calm = true) : CallR X (.builtin "all") (rAll K) := by
  subst hK
  exact cr_all hc
end
section
variable {K : PySem.W.Frag} {σ : L2.St} {H H' : Hp} {ta tb tc td te : TE} {n : Nat}
theorem et_truK (h : Ev te σ H (vN n)) : EvT (tTru K te) σ H (decide (n ≠ 0)) := et_tru h
theorem rv_inSet {neg : Bool} {p : Addr} {ns : List Nat} (h : SqA K H p (nV ns)) : RV (rIn K neg) (vN n) (.ref p) H (.bl (if neg then !decide (n ∈ ns) else decide (n ∈ ns))) := by
  have e : inV (vN n) (nV ns) = decide (n ∈ ns) := by
    clear h
    induction ns with
    | nil => rfl
    | cons a l ih =>
      have s : inV (vN n) (nV (a :: l)) = (eqV (vN a) (vN n) || inV (vN n) (nV l)) := rfl
      have s2 : eqV (vN a) (vN n) = decide (a = n) := by
        show ((a : Int) == (n : Int)) = decide (a = n)
        by_cases e : a = n
        · rw [e, decide_eq_true rfl, beq_self_eq_true]
        · rw [decide_eq_false e]
          exact beq_eq_false_iff_ne.mpr (by omega)
      rw [s, ih, s2]
      by_cases e : a = n
      · rw [decide_eq_true e, Bool.true_or, decide_eq_true (by rw [e]; exact List.mem_cons_self ..)]
      · rw [decide_eq_false e, Bool.false_or]
        by_cases e2 : n ∈ l
        · rw [decide_eq_true e2, decide_eq_true (List.mem_cons_of_mem _ e2)]
        · rw [decide_eq_false e2, decide_eq_false (fun z => (List.mem_cons.mp z).elim (fun y => e y.symm) e2)]
  have f : (nV ns).all flatV = true := by
    rw [List.all_eq_true]
    intro x hx
    obtain ⟨m, _, rfl⟩ := List.mem_map.mp hx
    rfl
  rw [← e]
  rcases h with h | h
  · exact rv_inL h rfl f
  · exact rv_inT h rfl f
end
end KW
namespace KW
open PySem PySem.Spec PyProof.Rows L2 Evl
/-- what is walked is some list of Pl -/
def EvIP {α : Type} (ti : TI) (σ : L2.St) (H : Hp) (φ : α → V) (Pl : List α → Prop) : Prop := ∀ H1, Ex H H1 → ∀ R : It → Hp → Prop, (∀ l J H2, Pl l → Ex H1 H2 → Turns J H2 (l.map φ) → R J H2) → ti σ H1 R
section
variable {K : PySem.W.Frag} {α : Type} {φ : α → V} {Pl : List α → Prop} {σ : L2.St} {H : Hp} {ti : TI} {tl : TE} {tb tz : TS} {D : Ends} {j : Nat}
theorem eip_list (h : EvLP tl σ H fun xs => ∃ l, Pl l ∧ xs = l.map φ) : EvIP (iList K tl) σ H φ Pl := fun H1 e R k => h H1 e _ fun p H2 xs _ e2 h2 hx => by
  obtain ⟨l, hl, rfl⟩ := hx
  exact ⟨p, rfl, ⟨_, sq_of h2⟩, k l _ H2 hl e2 (turns_list (sq_of h2))⟩
theorem s_forP (h : EvIP ti σ H φ Pl) (Pv : List α → L2.St → Hp → Prop) (h0 : ∀ H1, Ex H H1 → Pv [] σ H1)
    (hs : ∀ l, Pl l → ∀ Hb, Ex H Hb → ∀ pre a post σ' H', l = pre ++ a :: post → Ex Hb H' → Pv pre σ' H' → tb { D with nx := Nxt Hb (Pv (pre ++ [a])), ct := Nxt Hb (Pv (pre ++ [a])), bk := D.nx } (σ'.set j (some (φ a))) H') (hd : ∀ l, Pl l → ∀ σ' H', Ex H H' → Pv l σ' H' → D.nx σ' H') :
    tFor ti (gName j) tb D σ H := h H (Ex.refl H) _ fun l J H2 hl e2 T => for_core T (Ex.refl H2) Pv (h0 H2 e2) (fun pre a post σ' H' el e p => hs l hl H2 e2 pre a post σ' H' el e p) fun σ' H' e p => hd l hl σ' H' (e2.trans e) p
end
end KW
namespace KW
open PySem PySem.Spec PyProof.Rows L2 Evl
theorem dec_is {P : Prop} [Decidable P] {b : Bool} (h : P ↔ b = true) : decide P = b := by
  cases b with
  | true => exact decide_eq_true (h.mpr rfl)
  | false => exact decide_eq_false fun z => Bool.noConfusion (h.mp z)
theorem nV_append (a b : List Nat) : nV (a ++ b) = nV a ++ nV b := List.map_append
/-- without the object at L -/
def cutH (H : Hp) (L : Addr) : Hp := fun u => if u = L then none else H u
theorem cutH_at {H : Hp} {L : Addr} : cutH H L L = none := if_pos rfl
theorem cutH_ex {H : Hp} {L : Addr} : Ex (cutH H L) H := fun u o h => by
  unfold cutH at h
  by_cases e : u = L
  · rw [if_pos e] at h
    cases h
  · rw [if_neg e] at h
    exact h
theorem cutH_of {H0 H : Hp} {L : Addr} (e : Ex H0 H) (h : H0 L = none) : Ex H0 (cutH H L) := fun u o hu => by
  unfold cutH
  rw [if_neg (ne_of_none hu h)]
  exact e u o hu
section
variable {K : PySem.W.Frag} {α : Type} {φ : α → V} {l : List α} {H0 : Hp} {L : Addr} {σ : L2.St} {H : Hp} {tl : TE} {tb tz : TS} {D : Ends} {j : Nat}
/-- over a tuple made on the way, while the list at L is changed -/
theorem s_forBT (e0 : Ex H0 H) (hL0 : H0 L = none) (hL : ∃ ys, H L = some (.lst ys)) (h : EvT' tl σ H (l.map φ)) (Pv : List α → L2.St → Hp → Prop) (h0 : ∀ H1, Ex H H1 → Pv [] σ H1)
    (hs : ∀ Hb, Ex H0 Hb → Hb L = none → ∀ pre a post σ' H', l = pre ++ a :: post → Ex Hb H' → Pv pre σ' H' → tb { D with nx := Nxt Hb (Pv (pre ++ [a])), ct := Nxt Hb (Pv (pre ++ [a])), bk := D.nx } (σ'.set j (some (φ a))) H') (hd : ∀ σ' H', Ex H0 H' → Pv l σ' H' → D.nx σ' H') :
    tFor (iTup K tl) (gName j) tb D σ H := h H (Ex.refl H) _ fun p H2 e2 h2 => by
  obtain ⟨ys, hL⟩ := hL
  have hp : cutH H2 L p = some (.tup (l.map φ)) := by
    unfold cutH
    rw [if_neg (ne_of h2 (e2 L _ hL) (by intro z; cases z))]
    exact h2
  have eb : Ex H0 (cutH H2 L) := cutH_of (e0.trans e2) hL0
  exact ⟨p, rfl, ⟨_, st_of h2⟩, for_core (turns_tup (st_of hp)) cutH_ex Pv (h0 H2 e2) (fun pre a post σ' H' el e p => hs _ eb cutH_at pre a post σ' H' el e p) fun σ' H' e p => hd σ' H' (eb.trans e) p⟩
theorem q_forBT (e0 : Ex H0 H) (hL0 : H0 L = none) (hL : ∃ ys, H L = some (.lst ys)) (h : EvT' tl σ H (l.map φ)) (Pv : List α → L2.St → Hp → Prop) (h0 : ∀ H1, Ex H H1 → Pv [] σ H1)
    (hs : ∀ Hb, Ex H0 Hb → Hb L = none → ∀ pre a post σ' H', l = pre ++ a :: post → Ex Hb H' → Pv pre σ' H' → tb { D with nx := Nxt Hb (Pv (pre ++ [a])), ct := Nxt Hb (Pv (pre ++ [a])), bk := tz D } (σ'.set j (some (φ a))) H') (hd : ∀ σ' H', Ex H0 H' → Pv l σ' H' → tz D σ' H') :
    tSeq (tFor (iTup K tl) (gName j) tb) tz D σ H := s_forBT (D := { D with nx := tz D }) e0 hL0 hL h Pv h0 hs hd
end
end KW

/-! Classes: making, own operators. -/
namespace KW
open PySem PySem.Spec PyProof.Rows L2 Evl

def Dm (K : PySem.W.Frag) (C : Addr) (m qual : Str) (st : Stmt) : Prop := ∃ (f : Addr) (fd : FuncData), FunD K m qual (defArgs st) (defBody st) (defScope st) [] [] f fd ∧ Meth K C m f
def Di (K : PySem.W.Frag) (C : Addr) (qual : Str) (st : Stmt) : Prop := ∃ (f : Addr) (fd : FuncData), FunD K "__init__" qual (defArgs st) (defBody st) (defScope st) [] [] f fd ∧ Mk K C f
def Mx (P : Program) (w : World) (K : PySem.W.Frag) (mg : Str → Option Value) (base : Heap) (k : Nat) (x : Str) (C : Addr) (ps : List Str) (sp : Sp) : Prop :=
  ∃ (f : Addr) (fd : FuncData), FnOk P w K mg base CX0 k f fd ps sp ∧ mg x = some (.ref C) ∧ Mk K C f ∧ Binds K fd ps []
def Ox (P : Program) (w : World) (K : PySem.W.Frag) (mg : Str → Option Value) (base : Heap) (k : Nat) (C : Addr) (m : Str) (ps : List Str) (sp : Sp) : Prop :=
  ∃ (f : Addr) (fd : FuncData), FnOk P w K mg base CX0 k f fd ps sp ∧ Meth K C m f ∧ Binds K fd ps []
/-- what isinstance and != ask of the class -/
structure OwnC (K : PySem.W.Frag) (C : Addr) : Prop where
  cl : PySem.W.findIn K (.ref C) "__class__" = some (some (.builtin "object.__class__"))
  gt : PySem.W.specialIn K (.builtin "object.__class__") "__get__" = some (some (.builtin "getset_descriptor.__get__"))
  tk : PySem.W.takesIn K (.builtin "object.__class__") = some true
  mo : PySem.W.mroIn K C (.type "object") = some true
  ne : PySem.W.findIn K (.ref C) "__ne__" = some (some (.builtin "object.__ne__"))
  kit : PySem.W.kitOne K (.ref C) (.ref C) = some true
section
variable {P : Program} {w : World} {K : PySem.W.Frag} {mg : Str → Option Value} {base : Heap} {m qual : Str} {C : Addr} {st : Stmt} {N ps : List Str} {k : Nat} {sp : Sp}
theorem Dm.ox (D : Dm K C m qual st) (S : FnScope N ps (defScope st)) (len : ∀ vs H Q E, sp vs H Q E → vs.length = ps.length)
    (hb : ∀ (kV doc pm : Value) (an : Option Addr) (cdv ct : Value) (us : List Value), us.length = ps.length → bindArgs (PySem.W.fnOf m qual (defArgs st) (defBody st) (defScope st) .none kV doc pm an cdv ct) ⟨us, []⟩ = pure (ps.zip us))
    (hbody : ∀ (f : Addr) (cdv : Value) (A : Around) (outer : List Env) (s : Shared) (H : Hp) (vs : List V) (Q : VK) (E : XK), Room k (A.deeper (envOfC qual (defScope st) s.heap.objs.size f cdv)) → sp vs H Q E →
      ∃ t, PSs (cxOf CX0 P w K mg base N qual (defScope st) f cdv A outer s H E).nox (defBody st) t ∧ t { nx := fun _ H' => Q .non H', rt := Q } (start N vs) H) : Ox P w K mg base (k + 1) C m ps sp := by
  obtain ⟨f, fd, F, m⟩ := D
  refine ⟨f, fd, F.ok S len fun cdv A outer s H vs Q E hr h => ?_, m, F.bindsN hb⟩
  obtain ⟨t, h1, h2⟩ := hbody f cdv A outer s H vs Q E hr h
  exact ⟨t, h1.nox, h2⟩
theorem Di.mx {x : Str} (D : Di K C qual st) (hm : mg x = some (.ref C)) (S : FnScope N ps (defScope st)) (len : ∀ vs H Q E, sp vs H Q E → vs.length = ps.length)
    (hb : ∀ (kV doc pm : Value) (an : Option Addr) (cdv ct : Value) (us : List Value), us.length = ps.length → bindArgs (PySem.W.fnOf "__init__" qual (defArgs st) (defBody st) (defScope st) .none kV doc pm an cdv ct) ⟨us, []⟩ = pure (ps.zip us))
    (hbody : ∀ (f : Addr) (cdv : Value) (A : Around) (outer : List Env) (s : Shared) (H : Hp) (vs : List V) (Q : VK) (E : XK), Room k (A.deeper (envOfC qual (defScope st) s.heap.objs.size f cdv)) → sp vs H Q E →
      ∃ t, PSs (cxOf CX0 P w K mg base N qual (defScope st) f cdv A outer s H E).nox (defBody st) t ∧ t { nx := fun _ H' => Q .non H', rt := Q } (start N vs) H) : Mx P w K mg base (k + 1) x C ps sp := by
  obtain ⟨f, fd, F, mk⟩ := D
  refine ⟨f, fd, F.ok S len fun cdv A outer s H vs Q E hr h => ?_, hm, mk, F.bindsN hb⟩
  obtain ⟨t, h1, h2⟩ := hbody f cdv A outer s H vs Q E hr h
  exact ⟨t, h1.nox, h2⟩
end
/-- __iter__ of the class: iter(t) of the object's tuple -/
def TupOf (C : Addr) : Hp → Addr → Addr → List V → Prop := fun H a t xs => ∃ dx m, H a = some (.ins C dx [("letters", vN m), ("heaps", .ref t)]) ∧ H t = some (.tup xs)
def Ix (P : Program) (w : World) (K : PySem.W.Frag) (mg : Str → Option Value) (base : Heap) (k : Nat) (C : Addr) : Prop :=
  ∃ (f : Addr) (fd : FuncData), K64.FnS P w K mg base CX0 k f fd ["self"] (K64.spIterT (TupOf C)) ∧ Meth K C "__iter__" f ∧ Binds K fd ["self"] []
section
variable {X : Cx} {k j : Nat} {C : Addr} {ps : List Str} {sp : Sp} {x m : Str} {p pos : Pos} {e tg : Expr} {es : List Expr} {t : TA} {te : TE}
theorem pe_mk (F : Mx X.prog X.w X.K X.mg X.base k x C ps sp) (hr : Room j X.A) (hg : Gl X x) (hj : k + 1 ≤ j)
    (ha : PA X (e :: es) t) (hdb : (x == ("__debug__" : Str)) = false := by decide) (he : starEach (e :: es) X.env = (false, eval e X.env) :: starEach es X.env := by rfl) (hpl : (backTo pos (starEach es X.env)).any (·.1) = false := by rfl) :
    PE X (.Call (.Name x p) (e :: es) [] pos) (tMake C sp [] E0 t) := by
  obtain ⟨f, fd, F, m, mk, b⟩ := F
  exact pe_make mk F (hr.mono hj) hg m b .nil pass0 ha hdb he hpl
theorem own_notin (F : Ox X.prog X.w X.K X.mg X.base k C "__contains__" ps sp) (hr : Room j X.A) (hj : k ≤ j) : OpR X (compareOp .NotIn) (K64.rOwnNotIn C sp E0) := by
  obtain ⟨f, fd, F, m, b⟩ := F
  exact K64.op_ownNotIn F (hr.mono hj) b pass0 m.at_ m.fn
theorem own_eq (F : Ox X.prog X.w X.K X.mg X.base k C "__eq__" ps sp) (hr : Room j X.A) (hj : k + 1 ≤ j) : OpR X (compareOp .Eq) (K64.rOwnB C sp E0 false) := by
  obtain ⟨f, fd, F, m, b⟩ := F
  exact K64.op_ownEq F (hr.mono hj) b pass0 m.at_ m.fn
theorem own_ne (F : Ox X.prog X.w X.K X.mg X.base k C "__eq__" ps sp) (O : OwnC X.K C) (hr : Room j X.A) (hj : k + 1 ≤ j) : OpR X (compareOp .NotEq) (K64.rOwnB C sp E0 true) := by
  obtain ⟨f, fd, F, m, b⟩ := F
  exact K64.op_ownNe F (hr.mono hj) b pass0 m.at_ m.fn O.ne O.mo
theorem pi_own {K : PySem.W.Frag} (hK : X.K = K) (F : Ix X.prog X.w X.K X.mg X.base k C) (hr : Room j X.A) (hj : k ≤ j) (he : PE X e te) : PI X tg e (K64.iOwnT C K (TupOf C) te) := by
  obtain ⟨f, fd, F, m, b⟩ := F
  subst hK
  exact K64.pi_ownT he F (hr.mono hj) b pass0 m.at_ m.fn
end

/-! ### what evaluates to what -/
section
variable {K : PySem.W.Frag} {mg : Str → Option Value} {σ : L2.St} {H H' : Hp} {ta tb te tv : TE} {t : TA} {C a : Addr} {m n : Nat} {p q : Nat → Bool} {D : Ends} {tz : TS} {v : V}
theorem ChAt.congr (e : ∀ x, x < 2 ^ m → p x = q x) (h : ChAt C H a m p) : ChAt C H a m q := by
  obtain ⟨hm, dx, t, h1, h2⟩ := h
  refine ⟨hm, dx, t, h1, ?_⟩
  rw [← K64.heaps_congr e]
  exact h2
theorem ev_letters_of (X : CH K mg C) (h : Ev ta σ H (.ref a)) (c : ChAt C H a m p) : Ev (tFld K ta "letters") σ H (vN m) := by
  obtain ⟨_, dx, t, h1, _⟩ := c
  exact ev_fld X.cls X.nl h h1 rfl
/-- choice.heaps -/
theorem ev_heaps_of (X : CH K mg C) (h : Ev ta σ H (.ref a)) (c : ChAt C H a m p) : ∃ t, H t = some (.tup (nV (K64.heaps m p))) ∧ Ev (tFld K ta "heaps") σ H (.ref t) := by
  obtain ⟨_, dx, t, h1, h2⟩ := c
  exact ⟨t, h2, ev_fld X.cls X.nh h h1 rfl⟩
theorem ei_heaps (X : CH K mg C) (h : Ev ta σ H (.ref a)) (c : ChAt C H a m p) : EvI (iTup K (tFld K ta "heaps")) σ H (nV (K64.heaps m p)) := by
  obtain ⟨t, h2, hv⟩ := ev_heaps_of X h c
  exact ei_tup hv (st_of h2)
theorem ei_own (h : Ev te σ H (.ref a)) (c : ChAt C H a m p) : EvI (K64.iOwnT C K (TupOf C) te) σ H (nV (K64.heaps m p)) := fun H1 e R k => by
  obtain ⟨_, dx, t, h1, h2⟩ := c
  refine h H1 e _ fun H2 e2 => ⟨a, dx, _, t, _, rfl, (e.trans e2) a _ h1, ⟨dx, m, (e.trans e2) a _ h1, (e.trans e2) t _ h2⟩, st_of ((e.trans e2) t _ h2), k _ H2 e2 (turns_tup (st_of ((e.trans e2) t _ h2)))⟩
theorem ei_ownP (h : EvP te σ H (IsCh C m p)) : EvI (K64.iOwnT C K (TupOf C) te) σ H (nV (K64.heaps m p)) := fun H1 e R k =>
  h H1 e _ fun v H2 e2 hv => by
    obtain ⟨a, rfl, _, dx, t, h1, h2⟩ := hv
    exact ⟨a, dx, _, t, _, rfl, h1, ⟨dx, m, h1, h2⟩, st_of h2, k _ H2 e2 (turns_tup (st_of h2))⟩
/-- n in choice.heaps -/
theorem mem_heapsB (hn : n < 2 ^ m) : decide (n ∈ K64.heaps m p) = p n := by
  by_cases h : p n = true
  · rw [h, decide_eq_true (K64.mem_heaps.mpr ⟨hn, h⟩)]
  · rw [Bool.not_eq_true] at h
    rw [h, decide_eq_false (fun z => by have := (K64.mem_heaps.mp z).2; rw [h] at this; cases this)]
theorem ev_inHeaps {neg : Bool} (X : CH K mg C) (h : Ev tv σ H (vN n)) (ha : Ev ta σ H (.ref a)) (c : ChAt C H a m p) (hn : n < 2 ^ m) : Ev (tOp (rIn K neg) tv (tFld K ta "heaps")) σ H (.bl (if neg then !p n else p n)) := by
  obtain ⟨t, h2, hv⟩ := ev_heaps_of X ha c
  have k := ev_op h hv (rv_inSet (K := K) (neg := neg) (n := n) (.inr (st_of h2)))
  rw [mem_heapsB hn] at k
  exact k
/-- x not in choice -/
theorem ev_notinOwn (h : Ev tv σ H (vN n)) (ha : Ev ta σ H (.ref a)) (c : ChAt C H a m p) (hn : n < 2 ^ m) : Ev (tOp (K64.rOwnNotIn C (sp_contains C) E0) tv ta) σ H (.bl (!p n)) :=
  ev_op h ha fun H1 e1 Q q => by
    have c1 := c.mono e1
    obtain ⟨_, dx, t, h1, h2⟩ := id c1
    exact ⟨a, dx, _, rfl, h1, a, n, m, p, rfl, ⟨c1, hn⟩, fun H2 e2 => ⟨_, rfl, q H2 e2⟩⟩
/-- Choice(m, list) -/
theorem spInit_of {ns : List Nat} {l : Addr} {Q : VK} (hm : 1 ≤ m ∧ m ≤ 5) (hl : ns.length ≤ 60) (hlt : Lt (2 ^ m) ns) (hx : SqL K H l (nV ns)) (k : ∀ v H2, Ex H H2 → IsCh C m (inL ns) v H2 → Q v H2) :
    ∀ x dx, H x = none → H dx = none → dx ≠ x → sp_init K C (.ref x :: [vN m, .ref l]) (upd (upd H dx (.own x)) x (.ins C dx [])) (fun v H2 => v = .non ∧ Q (.ref x) H2) E0 := fun x dx h1 h2 h3 =>
  ⟨x, m, l, ns, upd H dx (.own x), dx, rfl, ⟨by rw [upd_ne (Ne.symm h3)]; exact h1, rfl⟩, ⟨hm, hl, hlt, ex_l (Ex.new h2) hx⟩, fun H2 e2 hc => ⟨rfl, k _ H2 ((Ex.new h2).trans e2) ⟨x, rfl, hc⟩⟩⟩
theorem ep_mk {ns : List Nat} {l : Addr} (ha : Ev ta σ H (vN m)) (hb : Ev tb σ H (.ref l)) (hm : 1 ≤ m ∧ m ≤ 5) (hl : ns.length ≤ 60) (hlt : Lt (2 ^ m) ns) (hx : SqL K H l (nV ns)) :
    EvP (tMake C (sp_init K C) [] E0 (tCons ta (tCons tb tNil))) σ H (IsCh C m (inL ns)) := fun H1 e Q q =>
  ha H1 e _ fun H2 e2 => hb H2 (e.trans e2) _ fun H3 e3 => spInit_of hm hl hlt (ex_l ((e.trans e2).trans e3) hx) fun v H4 e4 hv => q v H4 ((e2.trans e3).trans e4) hv
theorem ep_mkN {ns : List Nat} (ha : Ev ta σ H (vN m)) (hb : EvL tb σ H (nV ns)) (hm : 1 ≤ m ∧ m ≤ 5) (hl : ns.length ≤ 60) (hlt : Lt (2 ^ m) ns) :
    EvP (tMake C (sp_init K C) [] E0 (tCons ta (tCons tb tNil))) σ H (IsCh C m (inL ns)) := fun H1 e Q q =>
  ha H1 e _ fun H2 e2 => hb H2 (e.trans e2) _ fun l H3 _ e3 h3 => spInit_of hm hl hlt (sq_of h3) fun v H4 e4 hv => q v H4 ((e2.trans e3).trans e4) hv
theorem EvP.imp {P P' : VP} (h : EvP te σ H P) (k : ∀ v H2, Ex H H2 → P v H2 → P' v H2) : EvP te σ H P' := fun H1 e Q q => h H1 e Q fun v H2 e2 hv => q v H2 e2 (k v H2 (e.trans e2) hv)
theorem IsCh.congr {v : V} (h : IsCh C m p v H) (e : ∀ x, x < 2 ^ m → p x = q x) : IsCh C m q v H := by
  obtain ⟨a, rfl, c⟩ := h
  exact ⟨a, rfl, c.congr e⟩
/-- o.f = e -/
theorem s_setF {dx : Addr} {fs : List (Str × V)} {f : Str} (hc : Cls K C) (hn : NoAttr K C f) (h : Ev tv σ H v) (ha : Ev ta σ H (.ref a)) (hp : H a = some (.ins C dx fs)) (hf : fs.length < 1000) (k : ∀ H1, Ex H H1 → D.nx σ (upd H1 a (.ins C dx (putF f v fs)))) : sFld K ta tv f D σ H :=
  h H (Ex.refl H) _ fun H1 e1 => ha H1 e1 _ fun H2 e2 => ⟨a, C, dx, fs, rfl, (e1.trans e2) a _ hp, hc, hn, hf, k H2 (e1.trans e2)⟩
theorem q_setF {dx : Addr} {fs : List (Str × V)} {f : Str} (hc : Cls K C) (hn : NoAttr K C f) (h : Ev tv σ H v) (ha : Ev ta σ H (.ref a)) (hp : H a = some (.ins C dx fs)) (hf : fs.length < 1000) (k : ∀ H1, Ex H H1 → tz D σ (upd H1 a (.ins C dx (putF f v fs)))) : tSeq (sFld K ta tv f) tz D σ H :=
  s_setF (D := { D with nx := tz D }) hc hn h ha hp hf k
theorem s_setFT {dx : Addr} {fs : List (Str × V)} {f : Str} {xs : List V} (hc : Cls K C) (hn : NoAttr K C f) (h : EvT' tv σ H xs) (ha : Ev ta σ H (.ref a)) (hp : H a = some (.ins C dx fs)) (hf : fs.length < 1000) (k : ∀ t H1, Ex H H1 → H1 t = some (.tup xs) → D.nx σ (upd H1 a (.ins C dx (putF f (.ref t) fs)))) : sFld K ta tv f D σ H :=
  h H (Ex.refl H) _ fun t H1 e1 h1 => ha H1 e1 _ fun H2 e2 => ⟨a, C, dx, fs, rfl, (e1.trans e2) a _ hp, hc, hn, hf, k t H2 (e1.trans e2) (e2 t _ h1)⟩
/-- isinstance(x, Choice) of a choice -/
theorem ev_isOwn (X : CH K mg C) (O : OwnC K C) (ha : Ev ta σ H (.ref a)) (hb : Ev tb σ H (.ref C)) (c : ChAt C H a m p) : Ev (tCB (rIsi K) (tCons ta (tCons tb tNil))) σ H (.bl true) := fun H1 e Q q => by
  obtain ⟨_, dx, t, h1, _⟩ := c
  exact ha H1 e _ fun H2 e2 => hb H2 (e.trans e2) _ fun H3 e3 => ⟨_, _, .ref C, .ref C, true, rfl, .own _, .base (.ins (((e.trans e2).trans e3) a _ h1) X.cls O.cl O.gt O.tk O.mo), O.kit, q H3 (e2.trans e3)⟩
/-- a == b, a != b of choices -/
def eqB (m n : Nat) (p q : Nat → Bool) : Bool := decide (m = n) && decide (K64.heaps m p = K64.heaps n q)
theorem rv_own {neg : Bool} {b : Addr} (c : ChAt C H a m p) (d : ChAt C H b n q) : RV (K64.rOwnB C (sp_eq C) E0 neg) (.ref a) (.ref b) H (.bl (eqB m n p q ^^ neg)) := fun H1 e1 Q k => by
  have c1 := c.mono e1
  have d1 := d.mono e1
  obtain ⟨_, dx, t, h1, _⟩ := id c1
  obtain ⟨_, dy, u, h2, _⟩ := id d1
  exact ⟨a, b, dx, dy, _, _, rfl, rfl, h1, h2, a, b, m, n, p, q, rfl, ⟨c1, d1⟩, fun H2 e2 => ⟨_, rfl, k H2 e2⟩⟩
theorem eqB_true {p q : Nat → Bool} (h : ∀ x, x < 2 ^ m → p x = q x) : eqB m m p q = true := by
  unfold eqB
  rw [decide_eq_true rfl, decide_eq_true (K64.heaps_congr h)]
  rfl
/-- both sides told as choices -/
theorem ev_ownPP {neg : Bool} (ha : EvP ta σ H (IsCh C m p)) (hb : EvP tb σ H (IsCh C n q)) : Ev (tOp (K64.rOwnB C (sp_eq C) E0 neg) ta tb) σ H (.bl (eqB m n p q ^^ neg)) := fun H1 e Q k =>
  ha H1 e _ fun v H2 e2 hv => hb H2 (e.trans e2) _ fun u H3 e3 hu => by
    obtain ⟨a, rfl, c⟩ := hv
    obtain ⟨b, rfl, d⟩ := hu
    exact rv_own (c.mono e3) d H3 (Ex.refl H3) Q fun H4 e4 => k H4 ((e2.trans e3).trans e4)
theorem IsCh.of (c : ChAt C H a m p) : IsCh C m p (.ref a) H := ⟨a, rfl, c⟩
/-- a choice in a slot -/
theorem ep_var {i : Nat} (h : σ[i]? = some (some (.ref a))) (c : ChAt C H a m p) : EvP (tVar i) σ H (IsCh C m p) := fun H1 e Q q => ⟨_, h, q _ H1 (Ex.refl H1) ⟨a, rfl, c.mono e⟩⟩
end
end KW

/-! heaps.py and words.py, the plain numbers -/
namespace KW
open PySem PySem.Spec PyProof.Rows L2 Evl K64
section
variable {P : Program} {w : World} {K : PySem.W.Frag} {mg : Str → Option Value} {base : Heap}
theorem ev_isInt {σ : L2.St} {H : Hp} {K : PySem.W.Frag} {ta tb : TE} {i : Int} (ha : Ev ta σ H (.int i)) (hb : Ev tb σ H (.ty "int")) : Ev (tCB (rIsi K) (tCons ta (tCons tb tNil))) σ H (.bl true) := fun H1 e Q q =>
  ha H1 e _ fun H2 e2 => hb H2 (e.trans e2) _ fun H3 e3 => ⟨_, _, .type "int", .type "int", true, rfl, .ty _, .base (.int _), kit_ty (by decide +kernel), q H3 (e2.trans e3)⟩
theorem ev_isBool {σ : L2.St} {H : Hp} {K : PySem.W.Frag} {ta tb : TE} {i : Int} (ha : Ev ta σ H (.int i)) (hb : Ev tb σ H (.ty "bool")) : Ev (tCB (rIsi K) (tCons ta (tCons tb tNil))) σ H (.bl false) := fun H1 e Q q =>
  ha H1 e _ fun H2 e2 => hb H2 (e.trans e2) _ fun H3 e3 => ⟨_, _, .type "int", .type "bool", false, rfl, .ty _, .base (.int _), kit_ty (by decide +kernel), q H3 (e2.trans e3)⟩
abbrev N_is_whole : List Str := ["thing", "low", "high"]
theorem sc_is_whole : FnScope N_is_whole ["thing", "low", "high"] (defScope s_is_whole) := ⟨rfl, rfl, rfl, by decide +kernel, rfl, by decide +kernel, by decide +kernel⟩
theorem fx_is_whole (D : Df K mg "is_whole" s_is_whole) (B : Bt mg)  : Fx P w K mg base 1 "is_whole" ["thing", "low", "high"] sp_is_whole := by
  refine D.fx (N := N_is_whole) sc_is_whole (fun vs H Q E h => by obtain ⟨_, _, _, rfl, _⟩ := h; rfl) (fun _ _ _ _ _ _ us hl => match us, hl with | [_, _, _], _ => rfl) (fun f cdv A outer s H vs Q E hr h => ⟨_, (pss_one (ps_ret (pe_and (pe_callB call_isi rfl B.isinstance (by decide +kernel) (pa_cons (pv 0) (pa_cons (pe_bltn (v := .ty "int") rfl B.int (by decide +kernel) rfl) pa_nil))) (pe_and (pe_not (pe_callB call_isi rfl B.isinstance (by decide +kernel) (pa_cons (pv 0) (pa_cons (pe_bltn (v := .ty "bool") rfl B.bool (by decide +kernel) rfl) pa_nil)))) (pe_one (pe_chain op_le op_le (pv 1) (pv 0) (pv 2))))))), ?_⟩)
  obtain ⟨t, lo, hi, rfl, hQ⟩ := h
  exact s_ret (ev_andV (ev_isInt (ev_var rfl) ev_c) fun _ => ev_andV (ev_notV (ev_isBool (ev_var rfl) ev_c)) fun _ => ev_chain (ev_var rfl) (ev_var rfl) rv_I0 (ev_var rfl) rv_I0) hQ
theorem ev_whole {σ : L2.St} {H : Hp} {ta : TA} {t lo hi : Nat} (h : EvA ta σ H [vN t, vN lo, vN hi]) (h1 : lo ≤ t) (h2 : t ≤ hi) : Ev (tCall sp_is_whole [] E0 ta) σ H (.bl true) := ev_f h fun H1 e1 Q q =>
  ⟨(t : Int), (lo : Int), (hi : Int), rfl, by
    rw [int_le, int_le, decide_eq_true h1, decide_eq_true h2]
    exact q⟩
abbrev N_check_letters : List Str := ["letters"]
theorem sc_check_letters : FnScope N_check_letters ["letters"] (defScope s_check_letters) := ⟨rfl, rfl, rfl, by decide +kernel, rfl, by decide +kernel, by decide +kernel⟩
theorem fx_check_letters (D : Df K mg "check_letters" s_check_letters) (B : Bt mg) (F_is_whole : Fx P w K mg base 1 "is_whole" ["thing", "low", "high"] sp_is_whole) : Fx P w K mg base 2 "check_letters" ["letters"] sp_check_letters := by
  refine D.fx (N := N_check_letters) sc_check_letters (fun vs H Q E h => by obtain ⟨_, rfl, _⟩ := h; rfl) (fun _ _ _ _ _ _ us hl => match us, hl with | [_], _ => rfl) (fun f cdv A outer s H vs Q E hr h => ⟨_, (pss_cons (ps_if (pt_not (pt_val (pe_f F_is_whole hr rfl (by decide) (pa_cons (pv 0) (pa_cons pe_int (pa_cons (pe_glob (v := .int 5) rfl B.MOST.choose_spec ⟨_, rfl⟩) pa_nil)))))) pss_never pss_nil) (pss_one (ps_ret (pv 0)))), ?_⟩)
  obtain ⟨m, rfl, hm, hQ⟩ := h
  exact q_guard (et_B (ev_whole (ea3 (ev_var rfl) (ev_n 1 rfl) (ev_n 5 rfl)) hm.1 hm.2)) fun H1 e1 => s_ret (ev_var rfl) fun H2 e2 => hQ H2 (e1.trans e2)
theorem ev_letters {σ : L2.St} {H : Hp} {ta : TA} {m : Nat} (h : EvA ta σ H [vN m]) (hm : 1 ≤ m ∧ m ≤ 5) : Ev (tCall sp_check_letters [] E0 ta) σ H (vN m) := ev_f h fun H1 e1 Q q => ⟨m, rfl, hm, q⟩
abbrev N_check_letter : List Str := ["letters", "letter"]
theorem sc_check_letter : FnScope N_check_letter ["letters", "letter"] (defScope s_check_letter) := ⟨rfl, rfl, rfl, by decide +kernel, rfl, by decide +kernel, by decide +kernel⟩
theorem fx_check_letter (D : Df K mg "check_letter" s_check_letter) (B : Bt mg) (F_check_letters : Fx P w K mg base 2 "check_letters" ["letters"] sp_check_letters) (F_is_whole : Fx P w K mg base 1 "is_whole" ["thing", "low", "high"] sp_is_whole) : Fx P w K mg base 3 "check_letter" ["letters", "letter"] sp_check_letter := by
  refine D.fx (N := N_check_letter) sc_check_letter (fun vs H Q E h => by obtain ⟨_, _, rfl, _⟩ := h; rfl) (fun _ _ _ _ _ _ us hl => match us, hl with | [_, _], _ => rfl) (fun f cdv A outer s H vs Q E hr h => ⟨_, (pss_cons (ps_expr (pe_f F_check_letters hr rfl (by decide) (pa_cons (pv 0) pa_nil))) (pss_cons (ps_if (pt_not (pt_val (pe_f F_is_whole hr rfl (by decide) (pa_cons (pv 1) (pa_cons pe_int (pa_cons (pe_op op_sub (pv 0) pe_int) pa_nil)))))) pss_never pss_nil) (pss_one (ps_ret (pv 1))))), ?_⟩)
  obtain ⟨m, l, rfl, ⟨hm, hl⟩, hQ⟩ := h
  exact q_drop (ev_letters (ea1 (ev_var rfl)) hm) fun H1 e1 =>
    q_guard (et_B (ev_whole (ea3 (ev_var rfl) (ev_n 0 rfl) (ev_op (ev_var rfl) (ev_n 1 rfl) (rv_sub (by omega)))) (by omega) (by omega))) fun H2 e2 => s_ret (ev_var rfl) fun H3 e3 => hQ H3 ((e1.trans e2).trans e3)
abbrev N_check_bit : List Str := ["bit"]
theorem sc_check_bit : FnScope N_check_bit ["bit"] (defScope s_check_bit) := ⟨rfl, rfl, rfl, by decide +kernel, rfl, by decide +kernel, by decide +kernel⟩
theorem fx_check_bit (D : Df K mg "check_bit" s_check_bit) (B : Bt mg) (F_is_whole : Fx P w K mg base 1 "is_whole" ["thing", "low", "high"] sp_is_whole) : Fx P w K mg base 2 "check_bit" ["bit"] sp_check_bit := by
  refine D.fx (N := N_check_bit) sc_check_bit (fun vs H Q E h => by obtain ⟨_, rfl, _⟩ := h; rfl) (fun _ _ _ _ _ _ us hl => match us, hl with | [_], _ => rfl) (fun f cdv A outer s H vs Q E hr h => ⟨_, (pss_cons (ps_if (pt_not (pt_val (pe_f F_is_whole hr rfl (by decide) (pa_cons (pv 0) (pa_cons pe_int (pa_cons pe_int pa_nil)))))) pss_never pss_nil) (pss_one (ps_ret (pv 0)))), ?_⟩)
  obtain ⟨b, rfl, hb, hQ⟩ := h
  exact q_guard (et_B (ev_whole (ea3 (ev_var rfl) (ev_n 0 rfl) (ev_n 1 rfl)) (by omega) (by omega))) fun H1 e1 => s_ret (ev_var rfl) fun H2 e2 => hQ H2 (e1.trans e2)
theorem shl_le {m : Nat} (hm : 1 ≤ m ∧ m ≤ 5) : 1 <<< m = 2 ^ m ∧ 2 ^ m ≤ 32 ∧ 2 ≤ 2 ^ m := by
  refine ⟨by rw [Nat.one_shiftLeft], Nat.le_trans (Nat.pow_le_pow_right (by decide) hm.2) (by decide), Nat.le_trans (by decide) (Nat.pow_le_pow_right (n := 2) (by decide) hm.1)⟩
/-- 1 << letters -/
theorem ev_pow {σ : L2.St} {H : Hp} {ta tb : TE} {m : Nat} (ha : Ev ta σ H (vN 1)) (hb : Ev tb σ H (vN m)) (hm : m ≤ 1000000) : Ev (tOp (rI CPow fun i j => .int (i * 2 ^ j.toNat)) ta tb) σ H (vN (2 ^ m)) := by
  have h := ev_op ha hb (rv_shl (H := H) (by decide) hm)
  rw [Nat.one_shiftLeft] at h
  exact h
/-- (1 << letters) - 1 -/
theorem ev_pow1 {σ : L2.St} {H : Hp} {ta tb tc : TE} {m : Nat} (ha : Ev ta σ H (vN 1)) (hb : Ev tb σ H (vN m)) (hc : Ev tc σ H (vN 1)) (hm : m ≤ 1000000) : Ev (tOp (rI0 fun i j => .int (i - j)) (tOp (rI CPow fun i j => .int (i * 2 ^ j.toNat)) ta tb) tc) σ H (vN (2 ^ m - 1)) :=
  ev_op (ev_pow ha hb hm) hc (rv_sub (Nat.two_pow_pos m))
abbrev N_check_heap : List Str := ["letters", "heap"]
theorem sc_check_heap : FnScope N_check_heap ["letters", "heap"] (defScope s_check_heap) := ⟨rfl, rfl, rfl, by decide +kernel, rfl, by decide +kernel, by decide +kernel⟩
theorem fx_check_heap (D : Df K mg "check_heap" s_check_heap) (B : Bt mg) (F_check_letters : Fx P w K mg base 2 "check_letters" ["letters"] sp_check_letters) (F_is_whole : Fx P w K mg base 1 "is_whole" ["thing", "low", "high"] sp_is_whole) : Fx P w K mg base 3 "check_heap" ["letters", "heap"] sp_check_heap := by
  refine D.fx (N := N_check_heap) sc_check_heap (fun vs H Q E h => by obtain ⟨_, _, rfl, _⟩ := h; rfl) (fun _ _ _ _ _ _ us hl => match us, hl with | [_, _], _ => rfl) (fun f cdv A outer s H vs Q E hr h => ⟨_, (pss_cons (ps_expr (pe_f F_check_letters hr rfl (by decide) (pa_cons (pv 0) pa_nil))) (pss_cons (ps_if (pt_not (pt_val (pe_f F_is_whole hr rfl (by decide) (pa_cons (pv 1) (pa_cons pe_int (pa_cons (pe_op op_sub (pe_op op_shl pe_int (pv 0)) pe_int) pa_nil)))))) pss_never pss_nil) (pss_one (ps_ret (pv 1))))), ?_⟩)
  obtain ⟨m, x, rfl, ⟨hm, hx⟩, hQ⟩ := h
  exact q_drop (ev_letters (ea1 (ev_var rfl)) hm) fun H1 e1 =>
    q_guard (et_B (ev_whole (ea3 (ev_var rfl) (ev_n 0 rfl) (ev_pow1 (ev_n 1 rfl) (ev_var rfl) (ev_n 1 rfl) (by omega))) (by omega) (by omega))) fun H2 e2 => s_ret (ev_var rfl) fun H3 e3 => hQ H3 ((e1.trans e2).trans e3)
theorem bit_tru (n i : Nat) : decide ((n >>> i) &&& 1 ≠ 0) = n.testBit i := by
  rw [Nat.testBit, Nat.and_comm]
  by_cases h : 1 &&& n >>> i = 0
  · rw [h]; rfl
  · rw [decide_eq_true h]
    symm
    exact bne_iff_ne.mpr h
/-- n >> i & 1 as a test -/
theorem et_bit {K : PySem.W.Frag} {σ : L2.St} {H : Hp} {ta tb tc : TE} {n i : Nat} (ha : Ev ta σ H (vN n)) (hb : Ev tb σ H (vN i)) (hc : Ev tc σ H (vN 1)) :
    EvT (tTru K (tOp (rI0 fun i j => .int (Builtin.bitAnd i j)) (tOp (rI (fun _ j => 0 ≤ j) fun i j => .int (i / 2 ^ j.toNat)) ta tb) tc)) σ H (n.testBit i) :=
  et_is (et_truK (ev_op (ev_op ha hb rv_shr) hc rv_and)) (bit_tru n i)
theorem ev_heap {σ : L2.St} {H : Hp} {ta : TA} {m x : Nat} (h : EvA ta σ H [vN m, vN x]) (hm : 1 ≤ m ∧ m ≤ 5) (hx : x < 2 ^ m) : Ev (tCall sp_check_heap [] E0 ta) σ H (vN x) := ev_f h fun H1 e1 Q q => ⟨m, x, rfl, ⟨hm, hx⟩, q⟩
abbrev N_letters_of : List Str := ["heap", "letter"]
theorem sc_letters_of : FnScope N_letters_of ["heap"] (defScope s_letters_of) := ⟨rfl, rfl, rfl, by decide +kernel, rfl, by decide +kernel, by decide +kernel⟩
theorem fx_letters_of (D : Df K mg "letters_of" s_letters_of) (B : Bt mg) (F_check_heap : Fx P w K mg base 3 "check_heap" ["letters", "heap"] sp_check_heap) : Fx P w K mg base 4 "letters_of" ["heap"] sp_letters_of := by
  refine D.fx (N := N_letters_of) sc_letters_of (fun vs H Q E h => by obtain ⟨_, rfl, _⟩ := h; rfl) (fun _ _ _ _ _ _ us hl => match us, hl with | [_], _ => rfl) (fun f cdv A outer s H vs Q E hr h => ⟨_, (pss_cons (ps_expr (pe_f F_check_heap hr rfl (by decide) (pa_cons (pe_glob (v := .int 5) rfl B.MOST.choose_spec ⟨_, rfl⟩) (pa_cons (pv 0) pa_nil)))) (pss_one (ps_ret (pe_callTy call_tuple_of rfl B.tuple (by decide +kernel) (pa_cons (pe_lc (own := [("letter", 1)]) (g := gName 1) rfl sc_letters_of.nd (pi_range1 rfl B.range (pa_cons (pe_glob (v := .int 5) rfl B.MOST.choose_spec ⟨_, rfl⟩) pa_nil)) (blkOk_by (sc := defScope s_letters_of) (own := [("letter", 1)]) (N := N_letters_of) (by decide +kernel)) (fun _ _ _ _ _ => pg_name (i := 1) sc_letters_of.nd rfl (Or.inl rfl)) (fun _ _ _ _ _ => pts_one (pt_truthK (K := K) rfl (pe_op op_and (pe_op op_shr (pv 0) (pv 1)) pe_int) (by intro _; rfl))) (fun _ _ _ _ _ => (pv 1))) pa_nil))))), ?_⟩)
  obtain ⟨x, rfl, hx, hQ⟩ := h
  refine q_drop (ev_heap (m := 5) (ea2 (ev_n 5 rfl) (ev_var rfl)) ⟨by decide, by decide⟩ hx) fun H1 e1 => s_retT (ett_tupN (xs := nV (bitsOf 5 x)) ?_) fun p H2 e2 h2 => hQ p H2 (e1.trans e2) h2
  exact el_lc (φ := vN) (fun i => x.testBit i) vN (ei_rng (n := 5) (ea1 (ev_n 5 rfl)) (by decide)) (by decide) (fun _ => rfl) (fun i H' _ e => et_bit (ev_var rfl) (ev_var rfl) (ev_n 1 rfl)) (fun i H' _ e _ => ev_var rfl)
abbrev N_count_ones : List Str := ["number", "many"]
theorem sc_count_ones : FnScope N_count_ones ["number"] (defScope s_count_ones) := ⟨rfl, rfl, rfl, by decide +kernel, rfl, by decide +kernel, by decide +kernel⟩
theorem fx_count_ones (D : Df K mg "count_ones" s_count_ones) (B : Bt mg)  : Fx P w K mg base 1 "count_ones" ["number"] sp_count_ones := by
  refine D.fx (N := N_count_ones) sc_count_ones (fun vs H Q E h => by obtain ⟨_, rfl, _⟩ := h; rfl) (fun _ _ _ _ _ _ us hl => match us, hl with | [_], _ => rfl) (fun f cdv A outer s H vs Q E hr h => ⟨_, (pss_cons (ps_set (i := 1) sc_count_ones.nd rfl (Or.inl rfl) pe_int) (pss_cons (ps_while PassesOwn.never (pt_cmpR op_gt (pv 0) pe_int (nomark _)) (pss_cons (ps_set (i := 1) sc_count_ones.nd rfl (Or.inl rfl) (pe_op op_add (pv 1) (pe_op op_and (pv 0) pe_int))) (pss_one (ps_set (i := 0) sc_count_ones.nd rfl (Or.inl rfl) (pe_op op_shr (pv 0) pe_int))))) (pss_one (ps_ret (pv 1))))), ?_⟩)
  obtain ⟨n, rfl, hn, hQ⟩ := h
  refine q_asg (ev_n 0 rfl) fun H1 e1 => q_while (fun f σ' H' => ∃ x c, σ' = [some (vN x), some (vN c)] ∧ x < 2 ^ f ∧ c + popF f x = pop n ∧ Ex H H') 32 ⟨n, 0, rfl, hn, by rw [Nat.zero_add]; rfl, e1⟩ ?_
  rintro f σ' H' ⟨x, c, rfl, hx, hc, e⟩
  refine ⟨decide (0 < x), et_test (ev_op (ev_var rfl) (ev_n 0 rfl) rv_gt), fun hb H2 e2 => ?_, fun hb H2 e2 => ?_⟩
  · have hb := of_decide_eq_true hb
    match f, hx, hc with
    | 0, hx, _ => exact absurd hx (by show ¬ x < 1; omega)
    | f + 1, hx, hc =>
      refine ⟨fun σ2 H2 => ∃ x c, σ2 = [some (vN x), some (vN c)] ∧ x < 2 ^ f ∧ c + popF f x = pop n ∧ Ex H H2, fun σ2 H2 q => ⟨f, Nat.lt_succ_self f, q⟩, ?_⟩
      refine q_asg (ev_op (ev_var rfl) (ev_op (ev_var rfl) (ev_n 1 rfl) rv_and) rv_add) fun H3 e3 => s_asg (ev_op (ev_var rfl) (ev_n 1 rfl) rv_shr) fun H4 e4 => ⟨x >>> 1, c + (x &&& 1), rfl, ?_, ?_, ((e.trans e2).trans e3).trans e4⟩
      · rw [show x >>> 1 = x / 2 from Nat.shiftRight_eq_div_pow x 1]
        rw [Nat.pow_succ] at hx
        omega
      · rw [← hc, show x >>> 1 = x / 2 from Nat.shiftRight_eq_div_pow x 1, Nat.and_one_is_mod]
        have e5 : popF (f + 1) x = x % 2 + popF f (x / 2) := rfl
        rw [e5]
        omega
  · have hb := of_decide_eq_false hb
    have h0 : x = 0 := by omega
    subst h0
    rw [popF_zero] at hc
    have hc' : c = pop n := by omega
    exact s_ret (ev_is (ev_var rfl) (by rw [hc'])) fun H3 e3 => hQ H3 ((e.trans e2).trans e3)
abbrev N_parity_of : List Str := ["number"]
theorem sc_parity_of : FnScope N_parity_of ["number"] (defScope s_parity_of) := ⟨rfl, rfl, rfl, by decide +kernel, rfl, by decide +kernel, by decide +kernel⟩
theorem fx_parity_of (D : Df K mg "parity_of" s_parity_of) (B : Bt mg) (F_count_ones : Fx P w K mg base 1 "count_ones" ["number"] sp_count_ones) : Fx P w K mg base 2 "parity_of" ["number"] sp_parity_of := by
  refine D.fx (N := N_parity_of) sc_parity_of (fun vs H Q E h => by obtain ⟨_, rfl, _⟩ := h; rfl) (fun _ _ _ _ _ _ us hl => match us, hl with | [_], _ => rfl) (fun f cdv A outer s H vs Q E hr h => ⟨_, (pss_one (ps_ret (pe_op op_and (pe_f F_count_ones hr rfl (by decide) (pa_cons (pv 0) pa_nil)) pe_int))), ?_⟩)
  obtain ⟨n, rfl, hn, hQ⟩ := h
  refine s_ret (ev_is (ev_op (ev_f (ea1 (ev_var rfl)) fun H1 e1 Q q => ⟨n, rfl, hn, q⟩) (ev_n 1 rfl) rv_and) ?_) hQ
  rw [Nat.and_one_is_mod]
abbrev N_all_letters : List Str := ["letters"]
theorem sc_all_letters : FnScope N_all_letters ["letters"] (defScope s_all_letters) := ⟨rfl, rfl, rfl, by decide +kernel, rfl, by decide +kernel, by decide +kernel⟩
theorem fx_all_letters (D : Df K mg "all_letters" s_all_letters) (B : Bt mg) (F_check_letters : Fx P w K mg base 2 "check_letters" ["letters"] sp_check_letters) : Fx P w K mg base 3 "all_letters" ["letters"] sp_all_letters := by
  refine D.fx (N := N_all_letters) sc_all_letters (fun vs H Q E h => by obtain ⟨_, rfl, _⟩ := h; rfl) (fun _ _ _ _ _ _ us hl => match us, hl with | [_], _ => rfl) (fun f cdv A outer s H vs Q E hr h => ⟨_, (pss_one (ps_ret (pe_op op_sub (pe_op op_shl pe_int (pe_f F_check_letters hr rfl (by decide) (pa_cons (pv 0) pa_nil))) pe_int))), ?_⟩)
  obtain ⟨m, rfl, hm, hQ⟩ := h
  exact s_ret (ev_pow1 (ev_n 1 rfl) (ev_letters (ea1 (ev_var rfl)) hm) (ev_n 1 rfl) (by omega)) hQ
abbrev N_complement_of : List Str := ["letters", "heap"]
theorem sc_complement_of : FnScope N_complement_of ["letters", "heap"] (defScope s_complement_of) := ⟨rfl, rfl, rfl, by decide +kernel, rfl, by decide +kernel, by decide +kernel⟩
theorem fx_complement_of (D : Df K mg "complement_of" s_complement_of) (B : Bt mg) (F_all_letters : Fx P w K mg base 3 "all_letters" ["letters"] sp_all_letters) (F_check_heap : Fx P w K mg base 3 "check_heap" ["letters", "heap"] sp_check_heap) : Fx P w K mg base 4 "complement_of" ["letters", "heap"] sp_complement_of := by
  refine D.fx (N := N_complement_of) sc_complement_of (fun vs H Q E h => by obtain ⟨_, _, rfl, _⟩ := h; rfl) (fun _ _ _ _ _ _ us hl => match us, hl with | [_, _], _ => rfl) (fun f cdv A outer s H vs Q E hr h => ⟨_, (pss_one (ps_ret (pe_op op_xor (pe_f F_all_letters hr rfl (by decide) (pa_cons (pv 0) pa_nil)) (pe_f F_check_heap hr rfl (by decide) (pa_cons (pv 0) (pa_cons (pv 1) pa_nil)))))), ?_⟩)
  obtain ⟨m, x, rfl, ⟨hm, hx⟩, hQ⟩ := h
  exact s_ret (ev_op (ev_f (ea1 (ev_var rfl)) fun H1 e1 Q q => ⟨m, rfl, hm, q⟩) (ev_heap (ea2 (ev_var rfl) (ev_var rfl)) hm hx) rv_xor) hQ
theorem rgV_nat (n : Nat) : rgV 0 (n : Int) = nV (List.range n) := by
  unfold rgV
  rw [show ((n : Int) - 0).toNat = n by omega]
  exact List.map_congr_left fun i _ => by rw [Int.zero_add]
/-- tuple(range(n)) -/
theorem ett_tupRg {σ : L2.St} {H : Hp} {te : TE} {n : Nat} (h : Ev te σ H (vN n)) (hn : n ≤ 1000) : EvT' (tTupRg (tRg1 te)) σ H (nV (List.range n)) := fun H1 e Q q =>
  h H1 e _ fun H2 e2 => ⟨(n : Int), rfl, by refine ⟨?_, ?_, ?_, ?_, ?_⟩ <;> first | omega | (unfold sizeLine; omega) | skip, fun p hp => q p _ (e2.trans (Ex.new hp)) (by
    rw [upd_same, rgV_nat])⟩
abbrev N_all_heaps : List Str := ["letters"]
theorem sc_all_heaps : FnScope N_all_heaps ["letters"] (defScope s_all_heaps) := ⟨rfl, rfl, rfl, by decide +kernel, rfl, by decide +kernel, by decide +kernel⟩
theorem fx_all_heaps (D : Df K mg "all_heaps" s_all_heaps) (B : Bt mg) (F_check_letters : Fx P w K mg base 2 "check_letters" ["letters"] sp_check_letters) : Fx P w K mg base 3 "all_heaps" ["letters"] sp_all_heaps := by
  refine D.fx (N := N_all_heaps) sc_all_heaps (fun vs H Q E h => by obtain ⟨_, rfl, _⟩ := h; rfl) (fun _ _ _ _ _ _ us hl => match us, hl with | [_], _ => rfl) (fun f cdv A outer s H vs Q E hr h => ⟨_, (pss_one (ps_ret (pe_tupRg rfl rfl B.tuple (prg_1 rfl B.range (pe_op op_shl pe_int (pe_f F_check_letters hr rfl (by decide) (pa_cons (pv 0) pa_nil))))))), ?_⟩)
  obtain ⟨m, rfl, hm, hQ⟩ := h
  have hs := shl_le hm
  exact s_retT (ett_tupRg (ev_pow (ev_n 1 rfl) (ev_letters (ea1 (ev_var rfl)) hm) (by omega)) (by omega)) hQ
abbrev N_full_word : List Str := ["letters"]
theorem sc_full_word : FnScope N_full_word ["letters"] (defScope s_full_word) := ⟨rfl, rfl, rfl, by decide +kernel, rfl, by decide +kernel, by decide +kernel⟩
theorem fx_full_word (D : Df K mg "full_word" s_full_word) (B : Bt mg) (F_check_letters : Fx P w K mg base 2 "check_letters" ["letters"] sp_check_letters) : Fx P w K mg base 3 "full_word" ["letters"] sp_full_word := by
  refine D.fx (N := N_full_word) sc_full_word (fun vs H Q E h => by obtain ⟨_, rfl, _⟩ := h; rfl) (fun _ _ _ _ _ _ us hl => match us, hl with | [_], _ => rfl) (fun f cdv A outer s H vs Q E hr h => ⟨_, (pss_one (ps_ret (pe_op op_sub (pe_op op_shl pe_int (pe_op op_shl pe_int (pe_f F_check_letters hr rfl (by decide) (pa_cons (pv 0) pa_nil)))) pe_int))), ?_⟩)
  obtain ⟨m, rfl, hm, hQ⟩ := h
  have hs := shl_le hm
  exact s_ret (ev_pow1 (ev_n 1 rfl) (ev_pow (ev_n 1 rfl) (ev_letters (ea1 (ev_var rfl)) hm) (by omega)) (ev_n 1 rfl) (by omega)) hQ
theorem ev_full {σ : L2.St} {H : Hp} {ta : TA} {m : Nat} (h : EvA ta σ H [vN m]) (hm : 1 ≤ m ∧ m ≤ 5) : Ev (tCall sp_full_word [] E0 ta) σ H (vN (full m)) := ev_f h fun H1 e1 Q q => ⟨m, rfl, hm, q⟩
theorem le_full {m w : Nat} (h : w < 2 ^ 2 ^ m) : w ≤ full m := by unfold full; omega
abbrev N_check_word : List Str := ["letters", "word"]
theorem sc_check_word : FnScope N_check_word ["letters", "word"] (defScope s_check_word) := ⟨rfl, rfl, rfl, by decide +kernel, rfl, by decide +kernel, by decide +kernel⟩
theorem fx_check_word (D : Df K mg "check_word" s_check_word) (B : Bt mg) (F_is_whole : Fx P w K mg base 1 "is_whole" ["thing", "low", "high"] sp_is_whole) (F_full_word : Fx P w K mg base 3 "full_word" ["letters"] sp_full_word) : Fx P w K mg base 4 "check_word" ["letters", "word"] sp_check_word := by
  refine D.fx (N := N_check_word) sc_check_word (fun vs H Q E h => by obtain ⟨_, _, rfl, _⟩ := h; rfl) (fun _ _ _ _ _ _ us hl => match us, hl with | [_, _], _ => rfl) (fun f cdv A outer s H vs Q E hr h => ⟨_, (pss_cons (ps_if (pt_not (pt_val (pe_f F_is_whole hr rfl (by decide) (pa_cons (pv 1) (pa_cons pe_int (pa_cons (pe_f F_full_word hr rfl (by decide) (pa_cons (pv 0) pa_nil)) pa_nil)))))) pss_never pss_nil) (pss_one (ps_ret (pv 1)))), ?_⟩)
  obtain ⟨m, x, rfl, ⟨hm, hx⟩, hQ⟩ := h
  exact q_guard (et_B (ev_whole (ea3 (ev_var rfl) (ev_n 0 rfl) (ev_full (ea1 (ev_var rfl)) hm)) (by omega) (le_full hx))) fun H1 e1 => s_ret (ev_var rfl) fun H2 e2 => hQ H2 (e1.trans e2)
theorem ev_word {σ : L2.St} {H : Hp} {ta : TA} {m x : Nat} (h : EvA ta σ H [vN m, vN x]) (hm : 1 ≤ m ∧ m ≤ 5) (hx : x < 2 ^ 2 ^ m) : Ev (tCall sp_check_word [] E0 ta) σ H (vN x) := ev_f h fun H1 e1 Q q => ⟨m, x, rfl, ⟨hm, hx⟩, q⟩
theorem word32 {m w : Nat} (hm : 1 ≤ m ∧ m ≤ 5) (h : w < 2 ^ 2 ^ m) : w < 2 ^ 32 := Nat.lt_of_lt_of_le h (Nat.pow_le_pow_right (by decide) (shl_le hm).2.1)
end
end KW

/-! words.py, choices.py -/
namespace KW
open PySem PySem.Spec PyProof.Rows L2 Evl K64
section
variable {P : Program} {w : World} {K : PySem.W.Frag} {mg : Str → Option Value} {base : Heap} {C W : Addr}
theorem wos_at : ∀ l, l < 5 → (nV wos)[l]? = some (vN (wo l))
  | 0, _ => rfl
  | 1, _ => rfl
  | 2, _ => rfl
  | 3, _ => rfl
  | 4, _ => rfl
theorem wo_lt (l : Nat) : wo l < 2 ^ 31 := by
  match l with
  | 0 => decide
  | 1 => decide
  | 2 => decide
  | 3 => decide
  | n + 4 => show 65535 < 2 ^ 31; decide
theorem foldl_snoc {α β : Type} (f : β → α → β) (b : β) (l : List α) (a : α) : (l ++ [a]).foldl f b = f (l.foldl f b) a := by rw [List.foldl_append]; rfl
theorem mem_pre {α : Type} {l pre post : List α} {a : α} (e : l = pre ++ a :: post) : a ∈ l := by rw [e]; simp
abbrev N_stepped_word : List Str := ["letters", "word", "letter"]
theorem sc_stepped_word : FnScope N_stepped_word ["letters", "word"] (defScope s_stepped_word) := ⟨rfl, rfl, rfl, by decide +kernel, rfl, by decide +kernel, by decide +kernel⟩
theorem fx_stepped_word (D : Df K mg "stepped_word" s_stepped_word) (B : Bt mg) (F_full_word : Fx P w K mg base 3 "full_word" ["letters"] sp_full_word) (hW : WT K mg W) : Fx P w K mg base 4 "stepped_word" ["letters", "word"] sp_stepped_word := by
  refine D.fx (N := N_stepped_word) sc_stepped_word (fun vs H Q E h => by obtain ⟨_, _, rfl, _⟩ := h; rfl) (fun _ _ _ _ _ _ us hl => match us, hl with | [_, _], _ => rfl) (fun f cdv A outer s H vs Q E hr h => ⟨_, (pss_cons (ps_for PassesOwn.never rfl (pi_range1 rfl B.range (pa_cons (pv 0) pa_nil)) (pg_name (i := 2) sc_stepped_word.nd rfl (Or.inl rfl)) (pss_one (ps_set (i := 1) sc_stepped_word.nd rfl (Or.inl rfl) (pe_op op_xor (pv 1) (pe_op op_and (pe_op op_shl (pe_op op_and (pv 1) (pe_ix (ix_tupK (K := K) rfl) (pe_glob (v := .ref W) rfl hW.1 rfl) (pv 2) (fun _ _ => rfl))) (pe_op op_shl pe_int (pv 2))) (pe_f F_full_word hr rfl (by decide) (pa_cons (pv 0) pa_nil))))))) (pss_one (ps_ret (pv 1)))), ?_⟩)
  obtain ⟨m, x, rfl, ⟨hm, hx⟩, hQ⟩ := h
  refine q_for (φ := vN) (l := List.range m) (ei_rng (ea1 (ev_var rfl)) (by omega)) (fun pre σ' _ => ∃ z, σ' = [some (vN m), some (vN (pre.foldl (fun w l => stepL m l w) x)), z] ∧ pre.foldl (fun w l => stepL m l w) x < 2 ^ 2 ^ m) (fun H1 e1 => ⟨_, rfl, hx⟩) ?_ ?_
  · rintro Hb eb pre l post σ' H' el e ⟨z, rfl, hy⟩
    have hl : l < m := by have := mem_pre el; simpa using this
    have h32 := word32 hm hy
    refine s_asg (ev_op (ev_var rfl) (ev_op (ev_op (ev_op (ev_var rfl) (ev_op ev_c (ev_var rfl) (rv_ixT (hW.2 _) (atI_nat (wos_at l (by omega))))) rv_and) (ev_op (ev_n 1 rfl) (ev_var rfl) (rv_shl (by decide) (by omega))) (rv_shl ?_ ?_)) (ev_full (ea1 (ev_var rfl)) hm) rv_and) rv_xor) fun H2 e2 => ⟨e.trans e2, some (vN l), ?_, ?_⟩
    · exact Nat.lt_of_le_of_lt Nat.and_le_left (lt64 h32)
    · rw [Nat.one_shiftLeft]
      exact Nat.le_trans (Nat.pow_le_pow_right (by decide) (by omega : l ≤ 5)) (by decide)
    · rw [foldl_snoc]
      rfl
    · rw [foldl_snoc]
      exact stepL_lt l hy
  · rintro σ' H' e ⟨z, rfl, hy⟩
    exact s_ret (ev_var rfl) fun H2 e2 => hQ H2 (e.trans e2)
theorem ev_step {σ : L2.St} {H : Hp} {ta : TA} {m x : Nat} (h : EvA ta σ H [vN m, vN x]) (hm : 1 ≤ m ∧ m ≤ 5) (hx : x < 2 ^ 2 ^ m) : Ev (tCall sp_stepped_word [] E0 ta) σ H (vN (stepW m x)) := ev_f h fun H1 e1 Q q => ⟨m, x, rfl, ⟨hm, hx⟩, q⟩
abbrev N_ones_of : List Str := ["letters", "number", "place"]
theorem sc_ones_of : FnScope N_ones_of ["letters", "number"] (defScope s_ones_of) := ⟨rfl, rfl, rfl, by decide +kernel, rfl, by decide +kernel, by decide +kernel⟩
theorem fx_ones_of (D : Df K mg "ones_of" s_ones_of) (B : Bt mg)  : Fx P w K mg base 1 "ones_of" ["letters", "number"] sp_ones_of := by
  refine D.fx (N := N_ones_of) sc_ones_of (fun vs H Q E h => by obtain ⟨_, _, rfl, _⟩ := h; rfl) (fun _ _ _ _ _ _ us hl => match us, hl with | [_, _], _ => rfl) (fun f cdv A outer s H vs Q E hr h => ⟨_, (pss_one (ps_ret (pe_callTy call_tuple_of rfl B.tuple (by decide +kernel) (pa_cons (pe_lc (own := [("place", 2)]) (g := gName 2) rfl sc_ones_of.nd (pi_range1 rfl B.range (pa_cons (pe_op op_shl pe_int (pv 0)) pa_nil)) (blkOk_by (sc := defScope s_ones_of) (own := [("place", 2)]) (N := N_ones_of) (by decide +kernel)) (fun _ _ _ _ _ => pg_name (i := 2) sc_ones_of.nd rfl (Or.inl rfl)) (fun _ _ _ _ _ => pts_one (pt_truthK (K := K) rfl (pe_op op_and (pe_op op_shr (pv 1) (pv 2)) pe_int) (by intro _; rfl))) (fun _ _ _ _ _ => (pv 2))) pa_nil)))), ?_⟩)
  obtain ⟨m, n, rfl, hm, hQ⟩ := h
  have hs := shl_le hm
  refine s_retT (ett_tupN (xs := nV (bitsOf (2 ^ m) n)) ?_) hQ
  exact el_lc (φ := vN) (fun i => n.testBit i) vN (ei_rng (n := 2 ^ m) (ea1 (ev_pow (ev_n 1 rfl) (ev_var rfl) (by omega))) (by omega)) (by rw [List.length_range]; omega) (fun _ => rfl) (fun i H' _ e => et_bit (ev_var rfl) (ev_var rfl) (ev_n 1 rfl)) (fun i H' _ e _ => ev_var rfl)
abbrev N_heap_word : List Str := ["letters", "heap"]
theorem sc_heap_word : FnScope N_heap_word ["letters", "heap"] (defScope s_heap_word) := ⟨rfl, rfl, rfl, by decide +kernel, rfl, by decide +kernel, by decide +kernel⟩
theorem fx_heap_word (D : Df K mg "heap_word" s_heap_word) (B : Bt mg) (F_stepped_word : Fx P w K mg base 4 "stepped_word" ["letters", "word"] sp_stepped_word) (F_check_heap : Fx P w K mg base 3 "check_heap" ["letters", "heap"] sp_check_heap) : Fx P w K mg base 5 "heap_word" ["letters", "heap"] sp_heap_word := by
  refine D.fx (N := N_heap_word) sc_heap_word (fun vs H Q E h => by obtain ⟨_, _, rfl, _⟩ := h; rfl) (fun _ _ _ _ _ _ us hl => match us, hl with | [_, _], _ => rfl) (fun f cdv A outer s H vs Q E hr h => ⟨_, (pss_one (ps_ret (pe_f F_stepped_word hr rfl (by decide) (pa_cons (pv 0) (pa_cons (pe_op op_shl pe_int (pe_f F_check_heap hr rfl (by decide) (pa_cons (pv 0) (pa_cons (pv 1) pa_nil)))) pa_nil))))), ?_⟩)
  obtain ⟨m, x, rfl, ⟨hm, hx⟩, hQ⟩ := h
  have hs := shl_le hm
  refine s_ret (ev_is (ev_step (ea2 (ev_var rfl) (ev_op (ev_n 1 rfl) (ev_heap (ea2 (ev_var rfl) (ev_var rfl)) hm hx) (rv_shl (by decide) (by omega)))) hm ?_) rfl) hQ
  rw [one_shl]
  exact pow_lt hx
theorem ev_mon {σ : L2.St} {H : Hp} {ta : TA} {m x : Nat} (h : EvA ta σ H [vN m, vN x]) (hm : 1 ≤ m ∧ m ≤ 5) (hx : x < 2 ^ m) : Ev (tCall sp_heap_word [] E0 ta) σ H (vN (mon m x)) := ev_f h fun H1 e1 Q q => ⟨m, x, rfl, ⟨hm, hx⟩, q⟩
abbrev N_heaps_of : List Str := ["letters", "word"]
theorem sc_heaps_of : FnScope N_heaps_of ["letters", "word"] (defScope s_heaps_of) := ⟨rfl, rfl, rfl, by decide +kernel, rfl, by decide +kernel, by decide +kernel⟩
theorem fx_heaps_of (D : Df K mg "heaps_of" s_heaps_of) (B : Bt mg) (F_ones_of : Fx P w K mg base 1 "ones_of" ["letters", "number"] sp_ones_of) (F_stepped_word : Fx P w K mg base 4 "stepped_word" ["letters", "word"] sp_stepped_word) (F_check_word : Fx P w K mg base 4 "check_word" ["letters", "word"] sp_check_word) : Fx P w K mg base 5 "heaps_of" ["letters", "word"] sp_heaps_of := by
  refine D.fx (N := N_heaps_of) sc_heaps_of (fun vs H Q E h => by obtain ⟨_, _, rfl, _⟩ := h; rfl) (fun _ _ _ _ _ _ us hl => match us, hl with | [_, _], _ => rfl) (fun f cdv A outer s H vs Q E hr h => ⟨_, (pss_one (ps_ret (pe_f F_ones_of hr rfl (by decide) (pa_cons (pv 0) (pa_cons (pe_f F_stepped_word hr rfl (by decide) (pa_cons (pv 0) (pa_cons (pe_f F_check_word hr rfl (by decide) (pa_cons (pv 0) (pa_cons (pv 1) pa_nil))) pa_nil))) pa_nil))))), ?_⟩)
  obtain ⟨m, x, rfl, ⟨hm, hx⟩, hQ⟩ := h
  exact s_retT (ett_f (ea2 (ev_var rfl) (ev_step (ea2 (ev_var rfl) (ev_word (ea2 (ev_var rfl) (ev_var rfl)) hm hx)) hm hx)) fun H1 e1 Q q => ⟨m, _, rfl, hm, q⟩) hQ
theorem dot_is (a b : Nat) : decide (pop (a &&& b) % 2 = 0) = !dot a b := by
  show _ = !(pop (a &&& b) % 2 == 1)
  have h := Nat.mod_two_eq_zero_or_one (pop (a &&& b))
  rcases h with h | h <;> rw [h] <;> rfl
abbrev N_meets_evenly : List Str := ["letters", "word", "other"]
theorem sc_meets_evenly : FnScope N_meets_evenly ["letters", "word", "other"] (defScope s_meets_evenly) := ⟨rfl, rfl, rfl, by decide +kernel, rfl, by decide +kernel, by decide +kernel⟩
theorem fx_meets_evenly (D : Df K mg "meets_evenly" s_meets_evenly) (B : Bt mg) (F_parity_of : Fx P w K mg base 2 "parity_of" ["number"] sp_parity_of) (F_check_word : Fx P w K mg base 4 "check_word" ["letters", "word"] sp_check_word) : Fx P w K mg base 5 "meets_evenly" ["letters", "word", "other"] sp_meets_evenly := by
  refine D.fx (N := N_meets_evenly) sc_meets_evenly (fun vs H Q E h => by obtain ⟨_, _, _, rfl, _⟩ := h; rfl) (fun _ _ _ _ _ _ us hl => match us, hl with | [_, _, _], _ => rfl) (fun f cdv A outer s H vs Q E hr h => ⟨_, (pss_one (ps_ret (pe_cmpR op_eq (pe_f F_parity_of hr rfl (by decide) (pa_cons (pe_op op_and (pe_f F_check_word hr rfl (by decide) (pa_cons (pv 0) (pa_cons (pv 1) pa_nil))) (pe_f F_check_word hr rfl (by decide) (pa_cons (pv 0) (pa_cons (pv 2) pa_nil)))) pa_nil)) pe_int (nomark _)))), ?_⟩)
  obtain ⟨m, x, y, rfl, ⟨hm, hx, hy⟩, hQ⟩ := h
  refine s_ret (ev_is (ev_op (ev_f (ea1 (ev_op (ev_word (ea2 (ev_var rfl) (ev_var rfl)) hm hx) (ev_word (ea2 (ev_var rfl) (ev_var rfl)) hm hy) rv_and)) fun H1 e1 Q q => ⟨_, rfl, Nat.lt_of_le_of_lt Nat.and_le_left (word32 hm hx), q⟩) (ev_n 0 rfl) rv_eqN) ?_) hQ
  rw [dot_is]
theorem ev_meets {σ : L2.St} {H : Hp} {ta : TA} {m x y : Nat} (h : EvA ta σ H [vN m, vN x, vN y]) (hm : 1 ≤ m ∧ m ≤ 5) (hx : x < 2 ^ 2 ^ m) (hy : y < 2 ^ 2 ^ m) : Ev (tCall sp_meets_evenly [] E0 ta) σ H (.bl (!dot x y)) := ev_f h fun H1 e1 Q q => ⟨m, x, y, rfl, ⟨hm, hx, hy⟩, q⟩
theorem intSorted {l l' : List Int} (h : l.Pairwise (· < ·)) (h' : l'.Pairwise (· < ·)) (e : ∀ x, x ∈ l ↔ x ∈ l') : l = l' := by
  have nd : ∀ {l : List Int}, l.Pairwise (· < ·) → l.Nodup := fun h => h.imp fun q e => by omega
  have p : l.Perm l' := (List.perm_ext_iff_of_nodup (nd h) (nd h')).mpr e
  exact List.Perm.eq_of_pairwise (le := (· < ·)) (fun a b _ _ x y => by omega) h h' p
theorem heaps_sorted {m : Nat} {p : Nat → Bool} : ((heaps m p).map fun n : Nat => (n : Int)).Pairwise (· < ·) := by
  rw [List.pairwise_map]
  have h : (heaps m p).Pairwise (· < ·) := List.Pairwise.sublist List.filter_sublist List.pairwise_lt_range
  exact h.imp fun q => by omega
theorem nV_int (ns : List Nat) : nV ns = (ns.map fun n : Nat => (n : Int)).map V.int := by
  rw [List.map_map]
  rfl
theorem sorted_heaps {m : Nat} {ns : List Nat} {ns' : List Int} (hlt : Lt (2 ^ m) ns) (h : ns'.Pairwise (· < ·)) (e : ∀ k : Int, k ∈ ns' ↔ k ∈ ns.map fun n : Nat => (n : Int)) : ns'.map V.int = nV (heaps m (inL ns)) := by
  rw [nV_int]
  congr 1
  refine intSorted h heaps_sorted fun x => ?_
  rw [e, List.mem_map, List.mem_map]
  constructor
  · rintro ⟨n, hn, rfl⟩
    exact ⟨n, mem_heaps.mpr ⟨hlt n hn, decide_eq_true hn⟩, rfl⟩
  · rintro ⟨n, hn, rfl⟩
    exact ⟨n, of_decide_eq_true (mem_heaps.mp hn).2, rfl⟩
/-- sorted(set(l)) -/
theorem el_sortSet {σ : L2.St} {H : Hp} {ta : TE} {m : Nat} {ns : List Nat} {l : Addr} (h : Ev ta σ H (.ref l)) (hlt : Lt (2 ^ m) ns) (hl : ns.length ≤ 60) (hx : SqL K H l (nV ns)) :
    EvL (tCB (rSortedSet w) (tCons (tCB (rSetL K w) (tCons ta tNil)) tNil)) σ H (nV (heaps m (inL ns))) := fun H1 e Q q =>
  h H1 e _ fun H2 e2 => ⟨l, ns.map fun n : Nat => (n : Int), rfl, by rw [← nV_int]; exact ex_l (e.trans e2) hx, by rw [List.length_map]; exact hl, fun p c hp hc =>
    ⟨p, _, c, rfl, upd_same, by rw [List.length_map] at hc; omega, fun ns' p' h1 h2 _ h4 => by
      rw [sorted_heaps hlt h1 (fun k => (h2 k).trans decide_eq_true_iff)]
      exact q p' _ (fresh_back (e2.trans (Ex.new hp)) h4) ((e2.trans (Ex.new hp)).trans (Ex.new h4)) upd_same⟩⟩
theorem ev_isListT {σ : L2.St} {H : Hp} {ta tb tc : TE} {l : Addr} {xs : List V} (ha : Ev ta σ H (.ref l)) (hx : SqA K H l xs) (hb : ∀ H1, Ex H H1 → Ev tb σ H1 (.ty "list")) (hc : ∀ H1, Ex H H1 → Ev tc σ H1 (.ty "tuple")) :
    Ev (tCB (rIsiT K) (tCons ta (tCons (tTup (tCons tb (tCons tc tNil))) tNil))) σ H (.bl true) := fun H1 e Q q =>
  ha H1 e _ fun H2 e2 => hb H2 (e.trans e2) H2 (Ex.refl H2) _ fun H3 e3 => hc H3 ((e.trans e2).trans e3) H3 (Ex.refl H3) _ fun H4 e4 => ⟨by show 2 ≤ sizeLine; decide, fun tp htp => by
    have ex := ((e.trans e2).trans e3).trans e4
    have hx' := (hx.mono ex).mono (Ex.new (o := .tup [.ty "list", .ty "tuple"]) htp)
    have qq := q _ (((e2.trans e3).trans e4).trans (Ex.new (o := .tup [.ty "list", .ty "tuple"]) htp))
    rcases hx' with ((hx' | ⟨o, hx'⟩) | ⟨od, its, n, k1, k2, k3⟩) | ((hx' | ⟨o, hx'⟩) | ⟨od, its, n, k1, k2, k3⟩)
    · exact ⟨_, tp, _, .type "list", [.type "list", .type "tuple"], true, rfl, upd_same, .cons (.ty _) (.cons (.ty _) .nil), .base (.lst hx'), kitAny_cons (b := true) (kit_ty (by decide +kernel)) (fun z => nomatch z) (fun _ => rfl), qq⟩
    · exact ⟨_, tp, _, .type "list", [.type "list", .type "tuple"], true, rfl, upd_same, .cons (.ty _) (.cons (.ty _) .nil), .base (.frz hx'), kitAny_cons (b := true) (kit_ty (by decide +kernel)) (fun z => nomatch z) (fun _ => rfl), qq⟩
    · exact ⟨_, tp, _, .type "list", [.type "list", .type "tuple"], true, rfl, upd_same, .cons (.ty _) (.cons (.ty _) .nil), .kList k1 k2, kitAny_cons (b := true) (kit_ty (by decide +kernel)) (fun z => nomatch z) (fun _ => rfl), qq⟩
    · exact ⟨_, tp, _, .type "tuple", [.type "list", .type "tuple"], true, rfl, upd_same, .cons (.ty _) (.cons (.ty _) .nil), .base (.tup hx'), kitAny_cons (b := false) (kit_ty (by decide +kernel)) (fun _ => kitAny_cons (b := true) (kit_ty (by decide +kernel)) (fun z => nomatch z) (fun _ => rfl)) (fun z => nomatch z), qq⟩
    · exact ⟨_, tp, _, .type "tuple", [.type "list", .type "tuple"], true, rfl, upd_same, .cons (.ty _) (.cons (.ty _) .nil), .fTuple hx', kitAny_cons (b := false) (kit_ty (by decide +kernel)) (fun _ => kitAny_cons (b := true) (kit_ty (by decide +kernel)) (fun z => nomatch z) (fun _ => rfl)) (fun z => nomatch z), qq⟩
    · exact ⟨_, tp, _, .type "tuple", [.type "list", .type "tuple"], true, rfl, upd_same, .cons (.ty _) (.cons (.ty _) .nil), .kTuple k1 k2, kitAny_cons (b := false) (kit_ty (by decide +kernel)) (fun _ => kitAny_cons (b := true) (kit_ty (by decide +kernel)) (fun z => nomatch z) (fun _ => rfl)) (fun z => nomatch z), qq⟩⟩
abbrev N_check_heaps : List Str := ["letters", "heaps", "index", "heap"]
theorem sc_check_heaps : FnScope N_check_heaps ["letters", "heaps"] (defScope s_check_heaps) := ⟨rfl, rfl, rfl, by decide +kernel, rfl, by decide +kernel, by decide +kernel⟩
theorem fx_check_heaps (D : Df K mg "check_heaps" s_check_heaps) (B : Bt mg) (F_check_letters : Fx P w K mg base 2 "check_letters" ["letters"] sp_check_letters) (F_is_whole : Fx P w K mg base 1 "is_whole" ["thing", "low", "high"] sp_is_whole) : Fx P w K mg base 3 "check_heaps" ["letters", "heaps"] (sp_check_heaps K) := by
  refine D.fx (N := N_check_heaps) sc_check_heaps (fun vs H Q E h => by obtain ⟨_, _, _, rfl, _⟩ := h; rfl) (fun _ _ _ _ _ _ us hl => match us, hl with | [_, _], _ => rfl) (fun f cdv A outer s H vs Q E hr h => ⟨_, (pss_cons (ps_expr (pe_f F_check_letters hr rfl (by decide) (pa_cons (pv 0) pa_nil))) (pss_cons (ps_if (pt_not (pt_val (pe_callB call_isiT rfl B.isinstance (by decide +kernel) (pa_cons (pv 1) (pa_cons (pe_tup (pa_cons (pe_bltn (v := .ty "list") rfl B.list (by decide +kernel) rfl) (pa_cons (pe_bltn (v := .ty "tuple") rfl B.tuple (by decide +kernel) rfl) pa_nil))) pa_nil))))) pss_never pss_nil) (pss_cons (ps_for PassesOwn.never rfl (pi_enum rfl B.enumerate (pa_cons (pv 1) pa_nil)) (pg_tup rfl (pgs_cons (pg_name (i := 2) sc_check_heaps.nd rfl (Or.inl rfl)) (pgs_cons (pg_name (i := 3) sc_check_heaps.nd rfl (Or.inl rfl)) pgs_nil))) (pss_one (ps_if (pt_not (pt_val (pe_f F_is_whole hr rfl (by decide) (pa_cons (pv 3) (pa_cons pe_int (pa_cons (pe_op op_sub (pe_op op_shl pe_int (pv 0)) pe_int) pa_nil)))))) pss_never pss_nil))) (pss_one (ps_ret (pe_callTy call_tuple_of rfl B.tuple (by decide +kernel) (pa_cons (pe_callB (cr_sortedSet rfl) rfl B.sorted (by decide +kernel) (pa_cons (pe_callTy (cr_setL rfl) rfl B.set (by decide +kernel) (pa_cons (pv 1) pa_nil)) pa_nil)) pa_nil))))))), ?_⟩)
  obtain ⟨m, l, ns, rfl, ⟨hm, hl, hlt, hx⟩, hQ⟩ := h
  refine q_drop (ev_letters (ea1 (ev_var rfl)) hm) fun H1 e1 => q_guard (et_B (ev_isListT (ev_var rfl) (.inl (ex_l e1 hx)) (fun _ _ => ev_c) (fun _ _ => ev_c))) fun H2 e2 => ?_
  have ex := e1.trans e2
  refine q_forE (φ := vN) (l := ns) (ee_list (ea1 (ev_var rfl)) (ex_l ex hx)) (fun pre σ' _ => ∃ y z, σ' = [some (vN m), some (.ref l), y, z]) (fun _ _ _ _ _ q => q) (fun H1 e1 => ⟨_, _, rfl⟩) ?_ ?_
  · rintro Hb eb pre n post σ' H' el e ⟨y, z, rfl⟩
    have hn := hlt n (mem_pre el)
    exact s_guard (et_B (ev_whole (ea3 (ev_var rfl) (ev_n 0 rfl) (ev_pow1 (ev_n 1 rfl) (ev_var rfl) (ev_n 1 rfl) (by omega))) (by omega) (by omega))) fun H3 e3 => ⟨e.trans e3, _, _, rfl⟩
  · rintro σ' H' e ⟨y, z, rfl⟩
    exact s_retT (ett_tupN (el_sortSet (m := m) (ev_var rfl) hlt hl (ex_l (ex.trans e) hx))) fun p H3 e3 h3 => hQ p H3 ((ex.trans e).trans e3) h3
abbrev N_checked_letters : List Str := ["letters"]
theorem sc_checked_letters : FnScope N_checked_letters ["letters"] (defScope s_checked_letters) := ⟨rfl, rfl, rfl, by decide +kernel, rfl, by decide +kernel, by decide +kernel⟩
theorem fx_checked_letters (D : Df K mg "checked_letters" s_checked_letters) (B : Bt mg) (F_check_letters : Fx P w K mg base 2 "check_letters" ["letters"] sp_check_letters) : Fx P w K mg base 3 "checked_letters" ["letters"] sp_checked_letters := by
  refine D.fx (N := N_checked_letters) sc_checked_letters (fun vs H Q E h => by obtain ⟨_, rfl, _⟩ := h; rfl) (fun _ _ _ _ _ _ us hl => match us, hl with | [_], _ => rfl) (fun f cdv A outer s H vs Q E hr h => ⟨_, (pss_one (ps_try_thru0 (pss_one (ps_ret (pe_f F_check_letters hr rfl (by decide) (pa_cons (pv 0) pa_nil)))))), ?_⟩)
  obtain ⟨m, rfl, hm, hQ⟩ := h
  exact s_ret (ev_letters (ea1 (ev_var rfl)) hm) hQ
abbrev N_checked_heaps : List Str := ["letters", "heaps"]
theorem sc_checked_heaps : FnScope N_checked_heaps ["letters", "heaps"] (defScope s_checked_heaps) := ⟨rfl, rfl, rfl, by decide +kernel, rfl, by decide +kernel, by decide +kernel⟩
theorem fx_checked_heaps (D : Df K mg "checked_heaps" s_checked_heaps) (B : Bt mg) (F_check_heaps : Fx P w K mg base 3 "check_heaps" ["letters", "heaps"] (sp_check_heaps K)) : Fx P w K mg base 4 "checked_heaps" ["letters", "heaps"] (sp_checked_heaps K) := by
  refine D.fx (N := N_checked_heaps) sc_checked_heaps (fun vs H Q E h => by obtain ⟨_, _, _, rfl, _⟩ := h; rfl) (fun _ _ _ _ _ _ us hl => match us, hl with | [_, _], _ => rfl) (fun f cdv A outer s H vs Q E hr h => ⟨_, (pss_one (ps_try_thru0 (pss_one (ps_ret (pe_f F_check_heaps hr rfl (by decide) (pa_cons (pv 0) (pa_cons (pv 1) pa_nil))))))), ?_⟩)
  obtain ⟨m, l, ns, rfl, hm, hQ⟩ := h
  exact s_retT (ett_f (ea2 (ev_var rfl) (ev_var rfl)) fun H1 e1 Q q => ⟨m, l, ns, rfl, ⟨hm.1, hm.2.1, hm.2.2.1, ex_l e1 hm.2.2.2⟩, q⟩) hQ
abbrev N_check_same : List Str := ["letters", "other_letters"]
theorem sc_check_same : FnScope N_check_same ["letters", "other_letters"] (defScope s_check_same) := ⟨rfl, rfl, rfl, by decide +kernel, rfl, by decide +kernel, by decide +kernel⟩
theorem fx_check_same (D : Df K mg "check_same" s_check_same) (B : Bt mg)  : Fx P w K mg base 1 "check_same" ["letters", "other_letters"] sp_check_same := by
  refine D.fx (N := N_check_same) sc_check_same (fun vs H Q E h => by obtain ⟨_, rfl, _⟩ := h; rfl) (fun _ _ _ _ _ _ us hl => match us, hl with | [_, _], _ => rfl) (fun f cdv A outer s H vs Q E hr h => ⟨_, (pss_one (ps_if (pt_cmpR op_ne (pv 0) (pv 1) (nomark _)) pss_never pss_nil)), ?_⟩)
  obtain ⟨m, rfl, hQ⟩ := h
  exact s_guardN (et_is (et_test (ev_op (ev_var rfl) (ev_var rfl) rv_neN)) (by simp)) fun H1 e1 => hQ H1 e1
end
end KW

/-! choices.py, falling.py -/
namespace KW
open PySem PySem.Spec PyProof.Rows L2 Evl K64
section
variable {P : Program} {w : World} {K : PySem.W.Frag} {mg : Str → Option Value} {base : Heap} {C : Addr}
abbrev dV (ns : List Nat) : List PyData := ns.map fun n : Nat => PyData.int (n : Int)
theorem dpAll_nV {H : Hp} : ∀ ns : List Nat, DpAll K H (nV ns) (dV ns)
  | [] => .nil
  | n :: ns => .cons (.int _) (dpAll_nV ns)
theorem eqvAll_nV : ∀ ns ms : List Nat, PyData.eqvAll (dV ns) (dV ms) = decide (ns = ms)
  | [], [] => rfl
  | [], _ :: _ => rfl
  | _ :: _, [] => rfl
  | n :: ns, m :: ms => by
    have e : PyData.eqvAll (dV (n :: ns)) (dV (m :: ms)) = (((n : Int) == (m : Int)) && PyData.eqvAll (dV ns) (dV ms)) := rfl
    rw [e, eqvAll_nV ns ms]
    by_cases h : n = m
    · by_cases h2 : ns = ms
      · subst h; subst h2; simp
      · simp [h2]
    · have h' : ¬ ((n : Int) = (m : Int)) := by omega
      simp [h]
      exact fun z => absurd z h'
theorem canLay_nV : ∀ ns : List Nat, PyData.canLayAll0 (dV ns) = true
  | [] => rfl
  | n :: ns => by
    show (true && PyData.canLayAll0 (dV ns)) = true
    rw [canLay_nV ns]
    rfl
theorem depth_nV : ∀ ns : List Nat, PyData.depthAll (dV ns) = 0
  | [] => rfl
  | n :: ns => by
    show max 0 (PyData.depthAll (dV ns)) = 0
    rw [depth_nV ns]
    rfl
theorem shaped_tup (ns : List Nat) : SeqAt.shaped (.tuple (dV ns)) = true := by
  show (PyData.canLayAll0 (dV ns) && decide (PyData.depthAll (dV ns) + 1 ≤ 64)) = true
  rw [canLay_nV, depth_nV]
  rfl
theorem shaped_lst (ns : List Nat) : SeqAt.shaped (.list (dV ns)) = true := by
  show (PyData.canLayAll0 (dV ns) && decide (PyData.depthAll (dV ns) + 1 ≤ 64)) = true
  rw [canLay_nV, depth_nV]
  rfl
theorem rv_eqU {H : Hp} {a b : Addr} {ns ms : List Nat} (h1 : SqT K H a (nV ns)) (h2 : SqT K H b (nV ms)) : RV (rEqD K) (.ref a) (.ref b) H (.bl (decide (ns = ms))) := fun H1 e1 Q q =>
  ⟨_, _, .tup (ex_t e1 h1) (dpAll_nV ns), .tup (ex_t e1 h2) (dpAll_nV ms), shaped_tup ns, shaped_tup ms, by
    show Q (.bl (PyData.eqvAll (dV ns) (dV ms))) H1
    rw [eqvAll_nV]
    exact q H1 (Ex.refl H1)⟩
theorem rv_neU {H : Hp} {a b : Addr} {ns ms : List Nat} (h1 : SqT K H a (nV ns)) (h2 : SqT K H b (nV ms)) : RV (rNeD K) (.ref a) (.ref b) H (.bl (!decide (ns = ms))) := fun H1 e1 Q q =>
  ⟨_, _, .tup (ex_t e1 h1) (dpAll_nV ns), .tup (ex_t e1 h2) (dpAll_nV ms), shaped_tup ns, shaped_tup ms, by
    show Q (.bl (!PyData.eqvAll (dV ns) (dV ms))) H1
    rw [eqvAll_nV]
    exact q H1 (Ex.refl H1)⟩
theorem rv_eqL {H : Hp} {a b : Addr} {ns ms : List Nat} (h1 : SqL K H a (nV ns)) (h2 : SqL K H b (nV ms)) : RV (rEqD K) (.ref a) (.ref b) H (.bl (decide (ns = ms))) := fun H1 e1 Q q =>
  ⟨_, _, .lst (ex_l e1 h1) (dpAll_nV ns), .lst (ex_l e1 h2) (dpAll_nV ms), shaped_lst ns, shaped_lst ms, by
    show Q (.bl (PyData.eqvAll (dV ns) (dV ms))) H1
    rw [eqvAll_nV]
    exact q H1 (Ex.refl H1)⟩
theorem rv_neL {H : Hp} {a b : Addr} {ns ms : List Nat} (h1 : SqL K H a (nV ns)) (h2 : SqL K H b (nV ms)) : RV (rNeD K) (.ref a) (.ref b) H (.bl (!decide (ns = ms))) := fun H1 e1 Q q =>
  ⟨_, _, .lst (ex_l e1 h1) (dpAll_nV ns), .lst (ex_l e1 h2) (dpAll_nV ms), shaped_lst ns, shaped_lst ms, by
    show Q (.bl (!PyData.eqvAll (dV ns) (dV ms))) H1
    rw [eqvAll_nV]
    exact q H1 (Ex.refl H1)⟩
abbrev N_Choice_init : List Str := ["self", "letters", "heaps"]
theorem sc_Choice_init : FnScope N_Choice_init ["self", "letters", "heaps"] (defScope s_Choice_init) := ⟨rfl, rfl, rfl, by decide +kernel, rfl, by decide +kernel, by decide +kernel⟩
theorem fx_Choice_init (D : Di K C "Choice.__init__" s_Choice_init) (hmg : mg "Choice" = some (.ref C)) (B : Bt mg) (F_checked_letters : Fx P w K mg base 3 "checked_letters" ["letters"] sp_checked_letters) (F_checked_heaps : Fx P w K mg base 4 "checked_heaps" ["letters", "heaps"] (sp_checked_heaps K)) (hC : CH K mg C) : Mx P w K mg base 5 "Choice" C ["self", "letters", "heaps"] (sp_init K C) := by
  refine D.mx (N := N_Choice_init) hmg sc_Choice_init (fun vs H Q E h => by obtain ⟨_, _, _, _, _, _, rfl, _⟩ := h; rfl) (fun _ _ _ _ _ _ us hl => match us, hl with | [_, _, _], _ => rfl) (fun f cdv A outer s H vs Q E hr h => ⟨_, (pss_cons (ps_fld (pv 0) (pe_f F_checked_letters hr rfl (by decide) (pa_cons (pv 1) pa_nil)) rfl) (pss_one (ps_fld (pv 0) (pe_f F_checked_heaps hr rfl (by decide) (pa_cons (pv 1) (pa_cons (pv 2) pa_nil))) rfl))), ?_⟩)
  obtain ⟨a, m, l, ns, H0, dx, rfl, ⟨h0, rfl⟩, ⟨hm, hl, hlt, hx⟩, hQ⟩ := h
  have e0 : Ex H0 (upd H0 a (.ins C dx [])) := Ex.new h0
  refine q_setF hC.cls hC.nl (ev_f (ea1 (ev_var rfl)) fun H1 e1 Q q => ⟨m, rfl, hm, q⟩) (ev_var rfl) upd_same (by decide) fun H1 e1 => ?_
  have e1' : Ex H0 (upd H1 a (.ins C dx (putF "letters" (vN m) []))) := Ex.mut (e0.trans e1) h0
  refine s_setFT (xs := nV (heaps m (inL ns))) hC.cls hC.nh (ett_f (ea2 (ev_var rfl) (ev_var rfl)) fun H2 e2 Q q => ⟨m, l, ns, rfl, ⟨hm, hl, hlt, ex_l (e1'.trans e2) hx⟩, q⟩) (ev_var rfl) upd_same (Nat.lt_of_le_of_lt (Nat.le_refl 1) (by decide)) fun t H2 e2 h2 => ?_
  refine hQ _ (Ex.mut (e1'.trans e2) h0) ⟨hm, dx, t, upd_same, ?_⟩
  have ha := e2 a _ upd_same
  rw [upd_ne (ne_of h2 ha (by intro z; cases z))]
  exact h2
abbrev N_Choice_contains : List Str := ["self", "heap"]
theorem sc_Choice_contains : FnScope N_Choice_contains ["self", "heap"] (defScope s_Choice_contains) := ⟨rfl, rfl, rfl, by decide +kernel, rfl, by decide +kernel, by decide +kernel⟩
theorem fx_Choice_contains (D : Dm K C "__contains__" "Choice.__contains__" s_Choice_contains) (B : Bt mg) (F_is_whole : Fx P w K mg base 1 "is_whole" ["thing", "low", "high"] sp_is_whole) (hC : CH K mg C) : Ox P w K mg base 2 C "__contains__" ["self", "heap"] (sp_contains C) := by
  refine D.ox (N := N_Choice_contains) sc_Choice_contains (fun vs H Q E h => by obtain ⟨_, _, _, _, rfl, _⟩ := h; rfl) (fun _ _ _ _ _ _ us hl => match us, hl with | [_, _], _ => rfl) (fun f cdv A outer s H vs Q E hr h => ⟨_, (pss_one (ps_ret (pe_and (pe_f F_is_whole hr rfl (by decide) (pa_cons (pv 1) (pa_cons pe_int (pa_cons (pe_op op_sub (pe_op op_shl pe_int (pe_fldK (K := K) rfl (pv 0) rfl)) pe_int) pa_nil)))) (pe_one (pe_cmpR (op_inK (K := K) rfl) (pv 1) (pe_fldK (K := K) rfl (pv 0) rfl) (by with_unfolding_all rfl)))))), ?_⟩)
  obtain ⟨a, x, m, p, rfl, ⟨c, hx⟩, hQ⟩ := h
  have hm := c.1
  exact s_ret (ev_is (ev_andV (ev_whole (ea3 (ev_var rfl) (ev_n 0 rfl) (ev_pow1 (ev_n 1 rfl) (ev_letters_of hC (ev_var rfl) c) (ev_n 1 rfl) (by omega))) (by omega) (by omega)) fun _ => ev_inHeaps (neg := false) hC (ev_var rfl) (ev_var rfl) c hx) rfl) hQ
abbrev N_Choice_eq : List Str := ["self", "other"]
theorem sc_Choice_eq : FnScope N_Choice_eq ["self", "other"] (defScope s_Choice_eq) := ⟨rfl, rfl, rfl, by decide +kernel, rfl, by decide +kernel, by decide +kernel⟩
theorem fx_Choice_eq (D : Dm K C "__eq__" "Choice.__eq__" s_Choice_eq) (B : Bt mg)  (hC : CH K mg C) (O : OwnC K C) : Ox P w K mg base 1 C "__eq__" ["self", "other"] (sp_eq C) := by
  refine D.ox (N := N_Choice_eq) sc_Choice_eq (fun vs H Q E h => by obtain ⟨_, _, _, _, _, _, rfl, _⟩ := h; rfl) (fun _ _ _ _ _ _ us hl => match us, hl with | [_, _], _ => rfl) (fun f cdv A outer s H vs Q E hr h => ⟨_, (pss_one (ps_ret (pe_and (pe_callB call_isi rfl B.isinstance (by decide +kernel) (pa_cons (pv 1) (pa_cons (pe_glob (v := .ref C) rfl hC.mg rfl) pa_nil))) (pe_and (pe_cmpR op_eq (pe_fldK (K := K) rfl (pv 0) rfl) (pe_fldK (K := K) rfl (pv 1) rfl) (nomark _)) (pe_one (pe_cmpR (op_eqD hr.units) (pe_fldK (K := K) rfl (pv 0) rfl) (pe_fldK (K := K) rfl (pv 1) rfl) (nomark _))))))), ?_⟩)
  obtain ⟨a, b, m, n, p, q, rfl, ⟨c, d⟩, hQ⟩ := h
  obtain ⟨t, h1, k1⟩ := ev_heaps_of (K := K) hC (σ := start N_Choice_eq [.ref a, .ref b]) (ta := tVar 0) (ev_var rfl) c
  obtain ⟨u, h2, k2⟩ := ev_heaps_of (K := K) hC (σ := start N_Choice_eq [.ref a, .ref b]) (ta := tVar 1) (ev_var rfl) d
  exact s_ret (ev_is (ev_andV (ev_isOwn hC O (ev_var rfl) ev_c d) fun _ => ev_andV (ev_op (ev_letters_of hC (ev_var rfl) c) (ev_letters_of hC (ev_var rfl) d) rv_eqN) fun _ => ev_op k1 k2 (rv_eqU (st_of h1) (st_of h2))) rfl) hQ
abbrev N_strange_heap : List Str := ["choice", "word", "heap"]
theorem sc_strange_heap : FnScope N_strange_heap ["choice", "word"] (defScope s_strange_heap) := ⟨rfl, rfl, rfl, by decide +kernel, rfl, by decide +kernel, by decide +kernel⟩
theorem fx_strange_heap (D : Df K mg "strange_heap" s_strange_heap) (B : Bt mg) (F_heaps_of : Fx P w K mg base 5 "heaps_of" ["letters", "word"] sp_heaps_of) (hC : CH K mg C) : Fx P w K mg base 6 "strange_heap" ["choice", "word"] (sp_strange_heap C) := by
  refine D.fx (N := N_strange_heap) sc_strange_heap (fun vs H Q E h => by obtain ⟨_, _, _, _, rfl, _⟩ := h; rfl) (fun _ _ _ _ _ _ us hl => match us, hl with | [_, _], _ => rfl) (fun f cdv A outer s H vs Q E hr h => ⟨_, (pss_cons (ps_for PassesOwn.never rfl (pi_tupK (K := K) rfl (pe_f F_heaps_of hr rfl (by decide) (pa_cons (pe_fldK (K := K) rfl (pv 0) rfl) (pa_cons (pv 1) pa_nil)))) (pg_name (i := 2) sc_strange_heap.nd rfl (Or.inl rfl)) (pss_one (ps_if (pt_cmpR (op_notInK (K := K) rfl) (pv 2) (pe_fldK (K := K) rfl (pv 0) rfl) (by with_unfolding_all rfl)) (pss_one (ps_ret (pv 2))) pss_nil))) (pss_one (ps_ret pe_non))), ?_⟩)
  obtain ⟨a, x, m, p, rfl, ⟨c, hx⟩, hQ⟩ := h
  have hm := c.1
  have hin : ∀ i ∈ bitsOf (2 ^ m) (stepW m x), i < 2 ^ m ∧ (stepW m x).testBit i = true := fun i hi => by
    have := List.mem_filter.mp hi
    exact ⟨List.mem_range.mp this.1, this.2⟩
  refine q_for (φ := vN) (l := bitsOf (2 ^ m) (stepW m x)) (ei_tupN (ett_f (ea2 (ev_letters_of hC (ev_var rfl) c) (ev_var rfl)) fun H1 e1 Q q => ⟨m, x, rfl, ⟨hm, hx⟩, q⟩)) (fun pre σ' _ => (∃ z, σ' = [some (.ref a), some (vN x), z]) ∧ ∀ i ∈ pre, p i = true) (fun H1 e1 => ⟨⟨_, rfl⟩, fun i hi => nomatch hi⟩) ?_ ?_
  · rintro Hb eb pre i post σ' H' el e ⟨⟨z, rfl⟩, hp⟩
    have hi := hin i (mem_pre el)
    have ex := eb.trans e
    refine s_when (et_test (ev_inHeaps (neg := true) hC (ev_var rfl) (ev_var rfl) (c.mono ex) hi.1)) (fun hb H1 e1 => ?_) (fun hb H1 e1 => ⟨e.trans e1, ⟨_, rfl⟩, fun j hj => ?_⟩)
    · refine s_ret (ev_var rfl) fun H2 e2 => hQ _ H2 ((ex.trans e1).trans e2) ⟨(fun z => nomatch z), fun k => ?_⟩
      have := k i hi.1 hi.2
      rw [if_pos rfl, this] at hb
      cases hb
    · rcases List.mem_append.mp hj with hj | hj
      · exact hp j hj
      · rw [List.mem_singleton.mp hj]
        rw [if_pos rfl] at hb
        cases h2 : p i with
        | true => rfl
        | false => rw [h2] at hb; cases hb
  · rintro σ' H' e ⟨⟨z, rfl⟩, hp⟩
    exact s_ret ev_c fun H2 e2 => hQ _ H2 (e.trans e2) ⟨fun _ i hi hb => hp i (List.mem_filter.mpr ⟨List.mem_range.mpr hi, hb⟩), fun _ => rfl⟩
abbrev N_holds : List Str := ["choice", "word"]
theorem sc_holds : FnScope N_holds ["choice", "word"] (defScope s_holds) := ⟨rfl, rfl, rfl, by decide +kernel, rfl, by decide +kernel, by decide +kernel⟩
theorem fx_holds (D : Df K mg "holds" s_holds) (B : Bt mg) (F_strange_heap : Fx P w K mg base 6 "strange_heap" ["choice", "word"] (sp_strange_heap C)) (hC : CH K mg C) : Fx P w K mg base 7 "holds" ["choice", "word"] (sp_holds C) := by
  refine D.fx (N := N_holds) sc_holds (fun vs H Q E h => by obtain ⟨_, _, _, _, rfl, _⟩ := h; rfl) (fun _ _ _ _ _ _ us hl => match us, hl with | [_, _], _ => rfl) (fun f cdv A outer s H vs Q E hr h => ⟨_, (pss_one (ps_ret (pe_cmpR op_isN (pe_f F_strange_heap hr rfl (by decide) (pa_cons (pv 0) (pa_cons (pv 1) pa_nil))) pe_non (nomark _)))), ?_⟩)
  obtain ⟨a, x, m, p, rfl, ⟨c, hx⟩, hQ⟩ := h
  have k : EvP (tCall (sp_strange_heap C) [] E0 (tCons (tVar 0) (tCons (tVar 1) tNil))) (start N_holds [.ref a, vN x]) H (fun v _ => v = .non ↔ inCode m p x) := ep_f (ea2 (ev_var rfl) (ev_var rfl)) fun H1 e1 Q q => ⟨a, x, m, p, rfl, ⟨c.mono e1, hx⟩, q⟩
  refine s_retP (P := fun v _ => ∃ b : Bool, v = .bl b ∧ (b = true ↔ inCode m p x)) (fun H1 e1 Q q => k H1 e1 _ fun v H2 e2 hv => ⟨rfl, q _ H2 e2 ⟨_, rfl, decide_eq_true_iff.trans hv⟩⟩) hQ
theorem ev_holds {σ : L2.St} {H : Hp} {ta : TA} {a : Addr} {x m : Nat} {p : Nat → Bool} (h : EvA ta σ H [.ref a, vN x]) (c : ChAt C H a m p) (hx : x < 2 ^ 2 ^ m) : EvP (tCall (sp_holds C) [] E0 ta) σ H (fun v _ => ∃ b : Bool, v = .bl b ∧ (b = true ↔ inCode m p x)) :=
  ep_f h fun H1 e1 Q q => ⟨a, x, m, p, rfl, ⟨c.mono e1, hx⟩, q⟩
/-- a value told as some truth -/
theorem EvP.bl {te : TE} {σ : L2.St} {H : Hp} {P : Prop} (b : Bool) (hb : b = true ↔ P) (h : EvP te σ H (fun v _ => ∃ b : Bool, v = .bl b ∧ (b = true ↔ P))) : Ev te σ H (.bl b) := fun H1 e Q q =>
  h H1 e Q fun v H2 e2 hv => by
    obtain ⟨b', rfl, hb'⟩ := hv
    have : b' = b := by
      cases b' <;> cases b <;> simp_all
    rw [this]
    exact q H2 e2
theorem sorted_nat {ns : List Nat} {ns' : List Int} (h : ns'.Perm (ns.map fun n : Nat => (n : Int))) : ∃ ms : List Nat, ms.Perm ns ∧ ns'.map V.int = nV ms := by
  refine ⟨ns'.map Int.toNat, ?_, ?_⟩
  · have k := h.map Int.toNat
    rw [List.map_map] at k
    have e : (Int.toNat ∘ fun n : Nat => (n : Int)) = id := funext fun n => rfl
    rw [e, List.map_id] at k
    exact k
  · show _ = (ns'.map Int.toNat).map vN
    rw [List.map_map]
    refine List.map_congr_left fun x hx => ?_
    obtain ⟨n, _, rfl⟩ := List.mem_map.mp (h.mem_iff.mp hx)
    rfl
/-- sorted(a new list): some order of it -/
theorem elp_sorted {σ : L2.St} {H : Hp} {ta : TE} {ns : List Nat} (h : EvL ta σ H (nV ns)) (hl : ns.length < 64) : EvLP (tCB (rSorted K) (tCons ta tNil)) σ H (fun xs => ∃ ms : List Nat, ms.Perm ns ∧ xs = ms.map vN) := fun H1 e Q q =>
  h H1 e _ fun p H2 hp e2 h2 => ⟨p, ns.map fun n : Nat => (n : Int), rfl, by rw [← nV_int]; exact sq_of h2, by rw [List.length_map]; exact hl, fun ns' p' hperm _ hp' => by
    obtain ⟨ms, h3, h4⟩ := sorted_nat hperm
    exact q p' _ _ (fresh_back e2 hp') (e2.trans (Ex.new hp')) upd_same ⟨ms, h3, h4⟩⟩
theorem sub_xor {h i : Nat} (hb : h.testBit i = true) : Sub (h ^^^ (1 <<< i)) h := sub_iff.mpr fun j hj => by
  rw [Nat.testBit_xor, one_shl, Nat.testBit_two_pow] at hj
  by_cases e : i = j
  · subst e
    exact hb
  · rw [decide_eq_false e] at hj
    simpa using hj
abbrev N_closed_gap : List Str := ["choice", "heap", "missing", "letter"]
theorem sc_closed_gap : FnScope N_closed_gap ["choice"] (defScope s_closed_gap) := ⟨rfl, rfl, rfl, by decide +kernel, rfl, by decide +kernel, by decide +kernel⟩
theorem fx_closed_gap (D : Df K mg "closed_gap" s_closed_gap) (B : Bt mg) (F_letters_of : Fx P w K mg base 4 "letters_of" ["heap"] sp_letters_of) (hC : CH K mg C) : Fx P w K mg base 5 "closed_gap" ["choice"] (sp_closed_gap C) := by
  refine D.fx (N := N_closed_gap) sc_closed_gap (fun vs H Q E h => by obtain ⟨_, _, _, rfl, _⟩ := h; rfl) (fun _ _ _ _ _ _ us hl => match us, hl with | [_], _ => rfl) (fun f cdv A outer s H vs Q E hr h => ⟨_, (pss_cons (ps_for PassesOwn.never rfl (pi_tupK (K := K) rfl (pe_fldK (K := K) rfl (pv 0) rfl)) (pg_name (i := 1) sc_closed_gap.nd rfl (Or.inr rfl)) (pss_one (ps_for PassesOwn.never rfl (pi_listK (K := K) rfl (pe_callB cr_sorted rfl B.sorted (by decide +kernel) (pa_cons (pe_lc (own := [("letter", 3)]) (g := gName 3) (tt := tYes) rfl sc_closed_gap.nd (pi_tupK (K := K) rfl (pe_f F_letters_of hr rfl (by decide) (pa_cons (pv 1) pa_nil))) (blkOk_by (sc := defScope s_closed_gap) (own := [("letter", 3)]) (N := N_closed_gap) (by decide +kernel)) (fun _ _ _ _ _ => pg_name (i := 3) sc_closed_gap.nd rfl (Or.inl rfl)) (fun _ _ _ _ _ => pts_nil) (fun _ _ _ _ _ => (pe_op op_xor (pv 1) (pe_op op_shl pe_int (pv 3))))) pa_nil))) (pg_name (i := 2) sc_closed_gap.nd rfl (Or.inl rfl)) (pss_one (ps_if (pt_cmpR (op_notInK (K := K) rfl) (pv 2) (pe_fldK (K := K) rfl (pv 0) rfl) (by with_unfolding_all rfl)) (pss_one (ps_ret (pe_tup (pa_cons (pv 1) (pa_cons (pv 2) pa_nil))))) pss_nil))))) (pss_one (ps_ret pe_non))), ?_⟩)
  obtain ⟨a, m, p, rfl, ⟨c, hc⟩, hQ⟩ := h
  have hm := c.1
  have hs := shl_le hm
  refine q_for (φ := vN) (l := heaps m p) (ei_heaps hC (ev_var rfl) c) (fun pre σ' _ => ∃ x y z, σ' = [some (.ref a), x, y, z]) (fun H1 e1 => ⟨_, _, _, rfl⟩) ?_ ?_
  · rintro Hb eb pre x post σ' H' el e ⟨y0, y, z, rfl⟩
    have hx := mem_heaps.mp (mem_pre el)
    have hb5 : ∀ i ∈ bitsOf 5 x, x.testBit i = true ∧ i < m := fun i hi => by
      have := (List.mem_filter.mp hi).2
      exact ⟨this, bit_lt hx.1 this⟩
    have ex := eb.trans e
    refine s_forP (φ := vN) (Pl := fun ms => ms.Perm ((bitsOf 5 x).map fun i => x ^^^ (1 <<< i))) (eip_list (elp_sorted ?_ ?_)) (fun pre σ' _ => ∃ y z, σ' = [some (.ref a), some (vN x), y, z]) (fun H1 e1 => ⟨_, _, rfl⟩) ?_ ?_
    · rw [← map_nV]
      exact el_lcY (φ := vN) (fun i => vN (x ^^^ (1 <<< i))) (ei_tupN (ett_f (ea1 (ev_var rfl)) fun H1 e1 Q q => ⟨x, rfl, by omega, q⟩)) (by
        have := List.length_filter_le (fun i => x.testBit i) (List.range 5)
        rw [List.length_range] at this
        show (List.filter _ _).length ≤ _
        omega) (fun _ => rfl) fun i H1 hi e1 => ev_op (ev_var rfl) (ev_op (ev_n 1 rfl) (ev_var rfl) (rv_shl (by decide) (by have := (hb5 i hi).2; omega))) rv_xor
    · rw [List.length_map]
      have := List.length_filter_le (fun i => x.testBit i) (List.range 5)
      rw [List.length_range] at this
      show (List.filter _ _).length < _
      omega
    · rintro ms hperm Hb2 eb2 pre2 y1 post2 σ' H'' el2 e2 ⟨y2, z2, rfl⟩
      obtain ⟨i, hi, rfl⟩ := List.mem_map.mp (hperm.mem_iff.mp (mem_pre el2))
      have hsub := sub_xor (hb5 i hi).1
      refine s_when (et_test (ev_inHeaps (neg := true) hC (ev_var rfl) (ev_var rfl) (c.mono ((ex.trans eb2).trans e2)) (hsub.lt hx.1))) (fun hb H1 e1 => ?_) (fun hb H1 e1 => ⟨e2.trans e1, _, _, rfl⟩)
      rw [if_pos rfl, hc x hx.1 hx.2 _ hsub] at hb
      cases hb
    · rintro ms hperm σ' H'' e2 ⟨y2, z2, rfl⟩
      exact ⟨e.trans e2, _, _, _, rfl⟩
  · rintro σ' H' e ⟨x, y, z, rfl⟩
    exact s_ret ev_c fun H2 e2 => hQ H2 (e.trans e2)
abbrev N_check_closed : List Str := ["choice", "gap"]
theorem sc_check_closed : FnScope N_check_closed ["choice"] (defScope s_check_closed) := ⟨rfl, rfl, rfl, by decide +kernel, rfl, by decide +kernel, by decide +kernel⟩
theorem fx_check_closed (D : Df K mg "check_closed" s_check_closed) (B : Bt mg) (F_closed_gap : Fx P w K mg base 5 "closed_gap" ["choice"] (sp_closed_gap C)) (hC : CH K mg C) : Fx P w K mg base 6 "check_closed" ["choice"] (sp_check_closed C) := by
  refine D.fx (N := N_check_closed) sc_check_closed (fun vs H Q E h => by obtain ⟨_, _, _, rfl, _⟩ := h; rfl) (fun _ _ _ _ _ _ us hl => match us, hl with | [_], _ => rfl) (fun f cdv A outer s H vs Q E hr h => ⟨_, (pss_cons (ps_set (i := 1) sc_check_closed.nd rfl (Or.inl rfl) (pe_f F_closed_gap hr rfl (by decide) (pa_cons (pv 0) pa_nil))) (pss_cons (ps_if (pt_cmpR op_notN (pv 1) pe_non (nomark _)) pss_never pss_nil) (pss_one (ps_ret (pv 0))))), ?_⟩)
  obtain ⟨a, m, p, rfl, ⟨c, hc⟩, hQ⟩ := h
  refine q_asg (ev_f (ea1 (ev_var rfl)) fun H1 e1 Q q => ⟨a, m, p, rfl, ⟨c.mono e1, hc⟩, q⟩) fun H1 e1 => q_guardN (et_is (et_test (ev_op (ev_var rfl) ev_c rv_notN)) rfl) fun H2 e2 => s_ret (ev_var rfl) fun H3 e3 => hQ H3 ((e1.trans e2).trans e3)
theorem ev_closed {σ : L2.St} {H : Hp} {ta : TA} {a : Addr} {m : Nat} {p : Nat → Bool} (h : EvA ta σ H [.ref a]) (c : ChAt C H a m p) (hc : Clo m p) : Ev (tCall (sp_check_closed C) [] E0 ta) σ H (.ref a) := ev_f h fun H1 e1 Q q => ⟨a, m, p, rfl, ⟨c.mono e1, hc⟩, q⟩
theorem ev_same {σ : L2.St} {H : Hp} {ta : TA} {m : Nat} (h : EvA ta σ H [vN m, vN m]) : Ev (tCall sp_check_same [] E0 ta) σ H .non := ev_f h fun H1 e1 Q q => ⟨m, rfl, q⟩
end
end KW

/-! products.py -/
namespace KW
open PySem PySem.Spec PyProof.Rows L2 Evl K64
section
variable {P : Program} {w : World} {K : PySem.W.Frag} {mg : Str → Option Value} {base : Heap} {C CE : Addr}
abbrev iL (T : List Nat) : List Int := T.map fun n : Nat => (n : Int)
def setS (T : List Nat) : Int → Bool := fun k => decide (k ∈ iL T)
theorem setS_add {T : List Nat} {c : Nat} : (fun j => setS T j || decide (j = (c : Int))) = setS (if c ∈ T then T else c :: T) ∧ (if setS T (c : Int) = true then T.length else T.length + 1) = (if c ∈ T then T else c :: T).length := by
  have hc : setS T (c : Int) = decide (c ∈ T) := by
    unfold setS
    by_cases h : c ∈ T
    · rw [decide_eq_true h, decide_eq_true (List.mem_map.mpr ⟨c, h, rfl⟩)]
    · rw [decide_eq_false h, decide_eq_false]
      intro z
      obtain ⟨d, hd, e⟩ := List.mem_map.mp z
      have : d = c := by omega
      exact h (this ▸ hd)
  by_cases h : c ∈ T
  · rw [if_pos h, hc, decide_eq_true h]
    refine ⟨funext fun j => ?_, rfl⟩
    by_cases e : j = (c : Int)
    · rw [e, hc, decide_eq_true h]
      rfl
    · rw [decide_eq_false e, Bool.or_false]
  · rw [if_neg h, hc, decide_eq_false h]
    refine ⟨funext fun j => ?_, rfl⟩
    show (decide (j ∈ iL T) || decide (j = (c : Int))) = decide (j ∈ (c : Int) :: iL T)
    by_cases e : j = (c : Int)
    · rw [decide_eq_true e, Bool.or_true, decide_eq_true (by rw [e]; exact List.mem_cons_self ..)]
    · rw [decide_eq_false e, Bool.or_false]
      by_cases e2 : j ∈ iL T
      · rw [decide_eq_true e2, decide_eq_true (List.mem_cons_of_mem _ e2)]
      · rw [decide_eq_false e2, decide_eq_false fun z => (List.mem_cons.mp z).elim e e2]
theorem add_mem {T : List Nat} {c t : Nat} : t ∈ (if c ∈ T then T else c :: T) ↔ t ∈ T ∨ t = c := by
  by_cases h : c ∈ T
  · rw [if_pos h]
    exact ⟨.inl, fun z => z.elim id fun e => e ▸ h⟩
  · rw [if_neg h, List.mem_cons]
    exact Or.comm
theorem add_nodup {T : List Nat} {c : Nat} (h : T.Nodup) : (if c ∈ T then T else c :: T).Nodup := by
  by_cases k : c ∈ T
  · rw [if_pos k]
    exact h
  · rw [if_neg k]
    exact List.nodup_cons.mpr ⟨k, h⟩
theorem length_lt : ∀ {n : Nat} {T : List Nat}, T.Nodup → (∀ t ∈ T, t < n) → T.length ≤ n
  | 0, [], _, _ => Nat.le_refl _
  | 0, a :: _, _, hl => absurd (hl a (List.mem_cons_self ..)) (Nat.not_lt_zero _)
  | n + 1, T, h, hl => by
    by_cases k : n ∈ T
    · have h2 := length_lt (n := n) (h.erase n) fun t ht => by
        have h3 := (h.mem_erase_iff).mp ht
        have := hl t h3.2
        have := h3.1
        omega
      rw [List.length_erase_of_mem k] at h2
      omega
    · have h2 := length_lt (n := n) h fun t ht => by
        have := hl t ht
        have : t ≠ n := fun e => k (e ▸ ht)
        omega
      omega
/-- {e for a in .. for b in ..} of small numbers -/
theorem sc2_reads {σ : L2.St} {H : Hp} {wi wj : TI} {te : TE} {i j n : Nat} {vs vs1 : List Nat} {ns ms : List Nat} (f : Nat → Nat → Nat) (h1 : EvI wi σ H (nV ns)) (hw : ∀ x, wipe ((wipe σ vs).set i (some x)) vs = wipe σ vs)
    (h2 : ∀ a Hb H', a ∈ ns → Ex H Hb → Ex Hb H' → EvB wj ((wipe σ vs).set i (some (vN a))) Hb H' (nV ms)) (hw1 : ∀ a x, wipe ((wipe ((wipe σ vs).set i (some (vN a))) vs1).set j (some x)) vs1 = wipe ((wipe σ vs).set i (some (vN a))) vs1)
    (he : ∀ a b H', a ∈ ns → b ∈ ms → Ex H H' → Ev te ((wipe ((wipe σ vs).set i (some (vN a))) vs1).set j (some (vN b))) H' (vN (f a b))) (hn : n ≤ 60) (hf : ∀ a b, a ∈ ns → b ∈ ms → f a b < n)
    {Q : VK} (q : ∀ p H2 (T : List Nat), H p = none → Ex H H2 → H2 p = some (SetO w p (setS T) T.length) → T.Nodup → (∀ t, t ∈ T ↔ ∃ a ∈ ns, ∃ b ∈ ms, f a b = t) → Q (.ref p) H2) :
    tSc2 w wi (gName i) wj (gName j) te vs vs1 σ H Q := h1 H (Ex.refl H) _ fun J H1 e1 T1 D hD => by
  let St (D : Addr) (H1 H' : Hp) (R : Nat → Prop) : Prop := Ex H1 H' ∧ ∃ T : List Nat, T.Nodup ∧ H' D = some (SetO w D (setS T) T.length) ∧ ∀ t, t ∈ T ↔ R t
  refine ⟨fun k m H' => m + k = ns.length ∧ St D H1 H' (fun t => ∃ a ∈ ns.take k, ∃ b ∈ ms, f a b = t), ⟨ns.length, rfl, Ex.new hD, [], List.nodup_nil, ?_, fun t => ?_⟩, ?_⟩
  · rw [upd_same]
    rfl
  · rw [List.take_zero]
    exact ⟨fun z => (nomatch z), fun ⟨a, ha, _⟩ => (nomatch ha)⟩
  rintro k m H2 ⟨hm, e2, T, nd, hT, mT⟩
  by_cases hlt : k < ns.length
  · have hl : k < (nV ns).length := by simpa using hlt
    refine .inr ⟨T1.go k H2 e2 hl, fun H' => St D H1 H' (fun t => ∃ a ∈ ns.take (k + 1), ∃ b ∈ ms, f a b = t), fun H' z => ⟨m - 1, by omega, by omega, z⟩, fun x H' y => ?_⟩
    obtain ⟨rfl, hx⟩ := T1.yld k H2 x H' e2 hl y
    obtain ⟨a, rfl, e3, e4⟩ := at_map hl hx
    have ha : a ∈ ns := mem_pre e3
    rw [e4]
    refine ⟨hw _, h2 a H1 _ ha e1 e2 _ (Ex.refl _) _ fun J1 H4 e5 T2 => ?_⟩
    refine ⟨fun k2 m2 H' => m2 + k2 = ms.length ∧ St D H1 H' (fun t => (∃ a ∈ ns.take k, ∃ b ∈ ms, f a b = t) ∨ ∃ b ∈ ms.take k2, f a b = t), ⟨ms.length, rfl, e2.trans e5, T, nd, e5 D _ hT, fun t => ?_⟩, ?_⟩
    · rw [List.take_zero, mT]
      exact ⟨.inl, fun z => z.elim id fun ⟨b, hb, _⟩ => (nomatch hb)⟩
    rintro k2 m2 H5 ⟨hm2, e6, T', nd', hT', mT'⟩
    by_cases hlt2 : k2 < ms.length
    · have hl2 : k2 < (nV ms).length := by simpa using hlt2
      refine .inr ⟨T2.go k2 H5 e6 hl2, fun H' => St D H1 H' (fun t => (∃ a ∈ ns.take k, ∃ b ∈ ms, f a b = t) ∨ ∃ b ∈ ms.take (k2 + 1), f a b = t), fun H' z => ⟨m2 - 1, by omega, by omega, z⟩, fun x H' y => ?_⟩
      obtain ⟨rfl, hx2⟩ := T2.yld k2 H5 x H' e6 hl2 y
      obtain ⟨b, rfl, e7, e8⟩ := at_map hl2 hx2
      have hb : b ∈ ms := mem_pre e7
      rw [e8]
      refine ⟨hw1 a _, he a b _ ha hb (e1.trans e6) _ (Ex.refl _) _ fun H7 e9 => ⟨(f a b : Int), setS T', T'.length, rfl, e9 D _ hT', ?_, Ex.mut (e6.trans e9) hD, (if f a b ∈ T' then T' else f a b :: T'), add_nodup nd', ?_, fun t => ?_⟩⟩
      · have := length_lt (n := n) nd' fun t ht => by
          rcases (mT' t).mp ht with ⟨a', h1, b', h2, rfl⟩ | ⟨b', h2, rfl⟩
          · exact hf _ _ (List.mem_of_mem_take h1) h2
          · exact hf _ _ ha (List.mem_of_mem_take h2)
        show T'.length + 1 < 4096
        omega
      · rw [upd_same, setS_add.1, setS_add.2]
      · rw [add_mem, mT']
        constructor
        · rintro ((z | ⟨b', hb', e⟩) | e)
          · exact .inl z
          · exact .inr ⟨b', List.mem_append.mpr (.inl hb'), e⟩
          · exact .inr ⟨b, List.mem_append.mpr (.inr (List.mem_singleton.mpr rfl)), e.symm⟩
        · rintro (z | ⟨b', hb', e⟩)
          · exact .inl (.inl z)
          · rcases List.mem_append.mp hb' with hb' | hb'
            · exact .inl (.inr ⟨b', hb', e⟩)
            · rw [List.mem_singleton.mp hb'] at e
              exact .inr e.symm
    · have hi2 : k2 = ms.length := by omega
      subst hi2
      have st := T2.stop H5 e6
      rw [nV_length] at st
      refine .inl ⟨st, e6, T', nd', hT', fun t => ?_⟩
      rw [mT', List.take_length]
      constructor
      · rintro (⟨a', h1, h2⟩ | h2)
        · exact ⟨a', List.mem_append.mpr (.inl h1), h2⟩
        · exact ⟨a, List.mem_append.mpr (.inr (List.mem_singleton.mpr rfl)), h2⟩
      · rintro ⟨a', h1, h2⟩
        rcases List.mem_append.mp h1 with h1 | h1
        · exact .inl ⟨a', h1, h2⟩
        · rw [List.mem_singleton.mp h1] at h2
          exact .inr h2
  · have hi : k = ns.length := by omega
    subst hi
    rw [List.take_length] at mT
    have := T1.stop H2 e2
    rw [nV_length] at this
    exact .inl ⟨this, q D H2 T (fresh_back e1 hD) (e1.trans e2) hT nd mT⟩
theorem cb1_of {σ : L2.St} {H : Hp} {ta : TE} {r : List V → Hp → VK → Prop} {Q : VK} (h : ta σ H fun x H1 => r [x] H1 Q) : tCB r (tCons ta tNil) σ H Q := h
theorem mk2_of {σ : L2.St} {H : Hp} {ta tb : TE} {sp : L2.Sp} {Q : VK} (h : ta σ H fun x H1 => tb σ H1 fun y H2 => ∀ u dx, H2 u = none → H2 dx = none → dx ≠ u → sp [.ref u, x, y] (upd (upd H2 dx (.own u)) u (.ins C dx [])) (fun v H3 => v = .non ∧ Q (.ref u) H3) E0) :
    tMake C sp [] E0 (tCons ta (tCons tb tNil)) σ H Q := h
abbrev N_product_of : List Str := ["choice", "other", "one", "two"]
theorem sc_product_of : FnScope N_product_of ["choice", "other"] (defScope s_product_of) := ⟨rfl, rfl, rfl, by decide +kernel, rfl, by decide +kernel, by decide +kernel⟩
theorem fx_product_of (D : Df K mg "product_of" s_product_of) (B : Bt mg) (F_check_same : Fx P w K mg base 1 "check_same" ["letters", "other_letters"] sp_check_same) (F_Choice : Mx P w K mg base 5 "Choice" C ["self", "letters", "heaps"] (sp_init K C)) (hC : CH K mg C) : Fx P w K mg base 7 "product_of" ["choice", "other"] (sp_product_of C) := by
  refine D.fx (N := N_product_of) sc_product_of (fun vs H Q E h => by obtain ⟨_, _, _, _, _, rfl, _⟩ := h; rfl) (fun _ _ _ _ _ _ us hl => match us, hl with | [_, _], _ => rfl) (fun f cdv A outer s H vs Q E hr h => ⟨_, (pss_cons (ps_expr (pe_f F_check_same hr rfl (by decide) (pa_cons (pe_fldK (K := K) rfl (pv 0) rfl) (pa_cons (pe_fldK (K := K) rfl (pv 1) rfl) pa_nil)))) (pss_one (ps_ret (pe_mk F_Choice hr rfl (by decide) (pa_cons (pe_fldK (K := K) rfl (pv 0) rfl) (pa_cons (pe_callB (cr_sortedSet rfl) rfl B.sorted (by decide +kernel) (pa_cons (K64.pe_sc2 (own := [("one", 2), ("two", 3)]) (vs1 := [3]) (g := gName 2) (g1 := gName 3) rfl sc_product_of.nd (pi_tupK (K := K) rfl (pe_fldK (K := K) rfl (pv 0) rfl)) (blkOk_by (sc := defScope s_product_of) (own := [("one", 2), ("two", 3)]) (N := N_product_of) (by decide +kernel)) (by decide) (fun _ _ _ _ _ => pg_name (i := 2) sc_product_of.nd rfl (Or.inl rfl)) (fun _ _ _ _ _ => (pi_tupK (K := K) rfl (pe_fldK (K := K) rfl (pv 1) rfl))) (fun _ _ _ _ _ => pg_name (i := 3) sc_product_of.nd rfl (Or.inl rfl)) (fun _ _ _ _ _ => (pe_op op_or (pv 2) (pv 3)))) pa_nil)) pa_nil)))))), ?_⟩)
  obtain ⟨a, b, m, p, q, rfl, ⟨c, d⟩, hQ⟩ := h
  have hm := c.1
  have hs := shl_le hm
  refine q_drop (ev_same (ea2 (ev_letters_of hC (ev_var rfl) c) (ev_letters_of hC (ev_var rfl) d))) fun H1 e1 => ?_
  have c1 := c.mono e1
  have d1 := d.mono e1
  refine s_retP (P := IsCh C m (prodP m p q)) ?_ fun v H2 e2 hv => hQ v H2 (e1.trans e2) hv
  have key : ∀ H2, Ex H1 H2 → ∀ Q : VK, (∀ v H3 (ns : List Nat), H2 v = none → Ex H2 H3 → H3 v = some (.lst (nV ns)) → (∀ t, t ∈ ns ↔ t < 2 ^ m ∧ prodP m p q t = true) → ns.length ≤ 60 → Q (.ref v) H3) →
      (tCB (rSortedSet w) (tCons (tSc2 w (iTup K (tFld K (tVar 0) "heaps")) (gName 2) (iTup K (tFld K (tVar 1) "heaps")) (gName 3) (tOp (rI0 fun i j => V.int (Builtin.bitOr i j)) (tVar 2) (tVar 3)) [2, 3] [3]) tNil)) (start N_product_of [.ref a, .ref b]) H2 Q := by
    intro H2 e2 Q k
    have c2 := c1.mono e2
    have d2 := d1.mono e2
    refine cb1_of ?_
    refine sc2_reads (w := w) (ns := heaps m p) (ms := heaps m q) (i := 2) (j := 3) (vs := [2, 3]) (vs1 := [3]) (σ := start N_product_of [.ref a, .ref b]) (f := fun x y => x ||| y) (n := 2 ^ m) (ei_heaps hC (ev_var (i := 0) rfl) c2) (fun _ => rfl) (fun x Hb H' hx e3 e4 => ?_) (fun _ _ => rfl) (fun x y H' hx hy e3 => ev_op (ev_var (i := 2) rfl) (ev_var (i := 3) rfl) rv_or) (by omega) (fun x y hx hy => or_lt (mem_heaps.mp hx).1 (mem_heaps.mp hy).1) fun p' H3 T hp e3 hT nd mT => ?_
    · obtain ⟨t, h2, hv⟩ := ev_heaps_of (K := K) hC (σ := (wipe (start N_product_of [.ref a, .ref b]) [2, 3]).set 2 (some (vN x))) (ta := tVar 1) (ev_var rfl) (d2.mono (e3.trans e4))
      obtain ⟨t', h2', hv'⟩ := ev_heaps_of (K := K) hC (σ := (wipe (start N_product_of [.ref a, .ref b]) [2, 3]).set 2 (some (vN x))) (ta := tVar 1) (ev_var rfl) (d2.mono e3)
      exact eb_tup e4 (hv'.mono e4) (st_of h2')
    · have hlt : Lt (2 ^ m) T := fun t ht => by
        obtain ⟨x, hx, y, hy, rfl⟩ := (mT t).mp ht
        exact or_lt (mem_heaps.mp hx).1 (mem_heaps.mp hy).1
      have hlen := length_lt nd hlt
      refine ⟨p', setS T, T.length, rfl, hT, by omega, fun ns' l h1 h2 _ h4 => ?_⟩
      rw [sorted_heaps hlt h1 (fun k => (h2 k).trans decide_eq_true_iff)]
      refine k l _ _ (fresh_back e3 h4) (e3.trans (Ex.new h4)) upd_same (fun t => ?_) ?_
      · rw [mem_heaps]
        refine and_congr_right fun ht => ?_
        rw [decide_eq_true_iff, mT, prodP_iff]
        exact ⟨fun ⟨x, hx, y, hy, e⟩ => ⟨x, y, mem_heaps.mp hx, mem_heaps.mp hy, e⟩, fun ⟨x, y, hx, hy, e⟩ => ⟨x, mem_heaps.mpr hx, y, mem_heaps.mpr hy, e⟩⟩
      · have := List.length_filter_le (inL T) (List.range (2 ^ m))
        rw [List.length_range] at this
        show (List.filter _ _).length ≤ 60
        omega
  intro H2 e2 Q k
  have lv : Ev (tFld K (tVar 0) "letters") (start N_product_of [.ref a, .ref b]) H1 (vN m) := ev_letters_of hC (ev_var rfl) c1
  refine mk2_of ?_
  refine lv H2 e2 _ fun H3 e3 => ?_
  refine key H3 (e2.trans e3) _ fun l H4 ns hl e4 h4 mem len => ?_
  exact spInit_of hm len (fun t ht => ((mem t).mp ht).1) (sq_of h4) fun v H5 e5 hv => k v H5 ((e3.trans e4).trans e5) (hv.congr fun t ht => by
      exact dec_is ((mem t).trans ⟨fun z => z.2, fun z => ⟨ht, z⟩⟩))
abbrev N_Escapes_init : List Str := ["self", "heap", "word"]
theorem sc_Escapes_init : FnScope N_Escapes_init ["self", "heap", "word"] (defScope s_Escapes_init) := ⟨rfl, rfl, rfl, by decide +kernel, rfl, by decide +kernel, by decide +kernel⟩
theorem fx_Escapes_init (D : Di K CE "Escapes.__init__" s_Escapes_init) (hmg : mg "Escapes" = some (.ref CE)) (B : Bt mg)  (hE : Cls K CE ∧ NoAttr K CE "heap" ∧ NoAttr K CE "word") : Mx P w K mg base 1 "Escapes" CE ["self", "heap", "word"] (sp_einit CE) := by
  refine D.mx (N := N_Escapes_init) hmg sc_Escapes_init (fun vs H Q E h => by obtain ⟨_, _, _, _, _, rfl, _⟩ := h; rfl) (fun _ _ _ _ _ _ us hl => match us, hl with | [_, _, _], _ => rfl) (fun f cdv A outer s H vs Q E hr h => ⟨_, (pss_cons (ps_fld (pv 0) (pv 1) rfl) (pss_one (ps_fld (pv 0) (pv 2) rfl))), ?_⟩)
  obtain ⟨a, x, y, H0, dx, rfl, ⟨h0, rfl⟩, hQ⟩ := h
  have e0 : Ex H0 (upd H0 a (.ins CE dx [])) := Ex.new h0
  refine q_setF hE.1 hE.2.1 (ev_var rfl) (ev_var rfl) upd_same (by decide) fun H1 e1 => ?_
  have e1' : Ex H0 (upd H1 a (.ins CE dx (putF "heap" (vN x) []))) := Ex.mut (e0.trans e1) h0
  exact s_setF hE.1 hE.2.2 (ev_var rfl) (ev_var rfl) upd_same (Nat.lt_of_le_of_lt (Nat.le_refl 1) (by decide)) fun H2 e2 => hQ _ (Ex.mut (e1'.trans e2) h0)
abbrev N_kept_in : List Str := ["choice", "other", "word", "heap", "made"]
theorem sc_kept_in : FnScope N_kept_in ["choice", "other", "word"] (defScope s_kept_in) := ⟨rfl, rfl, rfl, by decide +kernel, rfl, by decide +kernel, by decide +kernel⟩
theorem fx_kept_in (D : Df K mg "kept_in" s_kept_in) (B : Bt mg) (F_check_same : Fx P w K mg base 1 "check_same" ["letters", "other_letters"] sp_check_same) (F_check_word : Fx P w K mg base 4 "check_word" ["letters", "word"] sp_check_word) (F_heap_word : Fx P w K mg base 5 "heap_word" ["letters", "heap"] sp_heap_word) (F_holds : Fx P w K mg base 7 "holds" ["choice", "word"] (sp_holds C)) (F_Escapes : Mx P w K mg base 1 "Escapes" CE ["self", "heap", "word"] (sp_einit CE)) (hC : CH K mg C) : Fx P w K mg base 8 "kept_in" ["choice", "other", "word"] (sp_kept_in C) := by
  refine D.fx (N := N_kept_in) sc_kept_in (fun vs H Q E h => by obtain ⟨_, _, _, _, _, _, rfl, _⟩ := h; rfl) (fun _ _ _ _ _ _ us hl => match us, hl with | [_, _, _], _ => rfl) (fun f cdv A outer s H vs Q E hr h => ⟨_, (pss_cons (ps_expr (pe_f F_check_same hr rfl (by decide) (pa_cons (pe_fldK (K := K) rfl (pv 0) rfl) (pa_cons (pe_fldK (K := K) rfl (pv 1) rfl) pa_nil)))) (pss_cons (ps_expr (pe_f F_check_word hr rfl (by decide) (pa_cons (pe_fldK (K := K) rfl (pv 0) rfl) (pa_cons (pv 2) pa_nil)))) (pss_cons (ps_for PassesOwn.never rfl (pi_tupK (K := K) rfl (pe_fldK (K := K) rfl (pv 1) rfl)) (pg_name (i := 3) sc_kept_in.nd rfl (Or.inl rfl)) (pss_cons (ps_set (i := 4) sc_kept_in.nd rfl (Or.inl rfl) (pe_op op_and (pv 2) (pe_f F_heap_word hr rfl (by decide) (pa_cons (pe_fldK (K := K) rfl (pv 0) rfl) (pa_cons (pv 3) pa_nil))))) (pss_one (ps_if (pt_not (pt_val (pe_f F_holds hr rfl (by decide) (pa_cons (pv 0) (pa_cons (pv 4) pa_nil))))) (pss_one (ps_ret (pe_mk F_Escapes hr rfl (by decide) (pa_cons (pv 3) (pa_cons (pv 4) pa_nil))))) pss_nil)))) (pss_one (ps_ret pe_non))))), ?_⟩)
  obtain ⟨a, b, x, m, p, q, rfl, ⟨c, d, hx⟩, hQ⟩ := h
  have hm := c.1
  refine q_drop (ev_same (ea2 (ev_letters_of hC (ev_var rfl) c) (ev_letters_of hC (ev_var rfl) d))) fun H1 e1 => q_drop (ev_word (ea2 (ev_letters_of hC (ev_var rfl) (c.mono e1)) (ev_var rfl)) hm hx) fun H2 e2 => ?_
  have ex := e1.trans e2
  refine q_for (φ := vN) (l := heaps m q) (ei_heaps hC (ev_var rfl) (d.mono ex)) (fun pre σ' _ => (∃ y z, σ' = [some (.ref a), some (.ref b), some (vN x), y, z]) ∧ ∀ i ∈ pre, inCode m p (x &&& mon m i)) (fun H1 e1 => ⟨⟨_, _, rfl⟩, fun i hi => nomatch hi⟩) ?_ ?_
  · rintro Hb eb pre i post σ' H' el e ⟨⟨y, z, rfl⟩, hp⟩
    have hi := mem_heaps.mp (mem_pre el)
    have ex' := (ex.trans eb).trans e
    have hlt : x &&& mon m i < 2 ^ 2 ^ m := Nat.and_lt_two_pow _ (mon_lt hi.1)
    refine q_asg (ev_op (ev_var rfl) (ev_mon (ea2 (ev_letters_of hC (ev_var rfl) (c.mono ex')) (ev_var rfl)) hm hi.1) rv_and) fun H3 e3 => ?_
    by_cases hcode : inCode m p (x &&& mon m i)
    · refine s_when (et_not (et_B ((ev_holds (ea2 (ev_var rfl) (ev_var rfl)) (c.mono (ex'.trans e3)) hlt).bl true ⟨fun _ => hcode, fun _ => rfl⟩))) (fun hb => absurd hb (by decide)) fun _ H4 e4 => ⟨(e.trans e3).trans e4, ⟨_, _, rfl⟩, fun j hj => ?_⟩
      rcases List.mem_append.mp hj with hj | hj
      · exact hp j hj
      · rw [List.mem_singleton.mp hj]
        exact hcode
    · refine s_when (et_not (et_B ((ev_holds (ea2 (ev_var rfl) (ev_var rfl)) (c.mono (ex'.trans e3)) hlt).bl false ⟨fun z => (nomatch z), fun z => absurd z hcode⟩))) (fun _ H4 e4 => ?_) fun hb => absurd hb (by decide)
      refine s_retP (P := fun v _ => ∃ u, v = .ref u) (fun H1 e1 Q k => ?_) fun v H5 e5 hv => hQ v H5 (((ex'.trans e3).trans e4).trans e5) ⟨fun z => ?_, fun z => absurd (z i hi.1 hi.2) hcode⟩
      · refine ⟨_, rfl, _, rfl, fun u dx h1 h2 h3 => ⟨u, i, x &&& mon m i, upd H1 dx (.own u), dx, rfl, ⟨by rw [upd_ne (Ne.symm h3)]; exact h1, rfl⟩, fun H2 e2 => ⟨rfl, k _ H2 ((Ex.new h2).trans e2) ⟨u, rfl⟩⟩⟩⟩
      · obtain ⟨u, rfl⟩ := hv
        cases z
  · rintro σ' H' e ⟨⟨y, z, rfl⟩, hp⟩
    exact s_ret ev_c fun H3 e3 => hQ _ H3 ((ex.trans e).trans e3) ⟨fun _ i hi hq => hp i (mem_heaps.mpr ⟨hi, hq⟩), fun _ => rfl⟩
/-- all(a list of truths), any(..) -/
theorem ev_all {σ : L2.St} {H : Hp} {te : TE} {bs : List Bool} (h : EvL te σ H (bs.map V.bl)) : Ev (tCB (rAll K) (tCons te tNil)) σ H (.bl (bs.all id)) := fun H1 e Q q => h H1 e _ fun p H2 _ e2 h2 => ⟨p, bs, rfl, sq_of h2, q H2 e2⟩
theorem ev_any {σ : L2.St} {H : Hp} {te : TE} {bs : List Bool} (h : EvL te σ H (bs.map V.bl)) : Ev (tCB (rAny K) (tCons te tNil)) σ H (.bl (bs.any id)) := fun H1 e Q q => h H1 e _ fun p H2 _ e2 h2 => ⟨p, bs, rfl, sq_of h2, q H2 e2⟩
theorem all_map {α : Type} (l : List α) (f : α → Bool) : (l.map f).all id = l.all f := by rw [List.all_map]; rfl
theorem any_map {α : Type} (l : List α) (f : α → Bool) : (l.map f).any id = l.any f := by rw [List.any_map]; rfl
theorem heaps_range (m : Nat) (f : Nat → Bool) {x : Nat} (hx : x < 2 ^ m) : inL ((List.range (2 ^ m)).filter f) x = f x := by
  exact dec_is (List.mem_filter.trans ⟨fun z => z.2, fun z => ⟨List.mem_range.mpr hx, z⟩⟩)
theorem filter_le60 {m : Nat} (hm : 1 ≤ m ∧ m ≤ 5) (f : Nat → Bool) : ((List.range (2 ^ m)).filter f).length ≤ 60 := by
  have := List.length_filter_le f (List.range (2 ^ m))
  rw [List.length_range] at this
  have := shl_le hm
  omega
theorem filter_lt (m : Nat) (f : Nat → Bool) : Lt (2 ^ m) ((List.range (2 ^ m)).filter f) := fun x hx => List.mem_range.mp (List.mem_filter.mp hx).1
abbrev N_quotient_of : List Str := ["choice", "other", "heaps", "heap", "two"]
theorem sc_quotient_of : FnScope N_quotient_of ["choice", "other"] (defScope s_quotient_of) := ⟨rfl, rfl, rfl, by decide +kernel, rfl, by decide +kernel, by decide +kernel⟩
theorem fx_quotient_of (D : Df K mg "quotient_of" s_quotient_of) (B : Bt mg) (F_check_closed : Fx P w K mg base 6 "check_closed" ["choice"] (sp_check_closed C)) (F_check_same : Fx P w K mg base 1 "check_same" ["letters", "other_letters"] sp_check_same) (F_all_heaps : Fx P w K mg base 3 "all_heaps" ["letters"] sp_all_heaps) (F_Choice : Mx P w K mg base 5 "Choice" C ["self", "letters", "heaps"] (sp_init K C)) (hC : CH K mg C) : Fx P w K mg base 7 "quotient_of" ["choice", "other"] (sp_quotient_of C) := by
  refine D.fx (N := N_quotient_of) sc_quotient_of (fun vs H Q E h => by obtain ⟨_, _, _, _, _, rfl, _⟩ := h; rfl) (fun _ _ _ _ _ _ us hl => match us, hl with | [_, _], _ => rfl) (fun f cdv A outer s H vs Q E hr h => ⟨_, (pss_cons (ps_expr (pe_f F_check_closed hr rfl (by decide) (pa_cons (pv 0) pa_nil))) (pss_cons (ps_expr (pe_f F_check_same hr rfl (by decide) (pa_cons (pe_fldK (K := K) rfl (pv 0) rfl) (pa_cons (pe_fldK (K := K) rfl (pv 1) rfl) pa_nil)))) (pss_cons (ps_expr (pe_f F_check_closed hr rfl (by decide) (pa_cons (pv 1) pa_nil))) (pss_cons (ps_set (i := 2) sc_quotient_of.nd rfl (Or.inl rfl) (pe_lst pa_nil)) (pss_cons (ps_for PassesOwn.never rfl (pi_tupK (K := K) rfl (pe_f F_all_heaps hr rfl (by decide) (pa_cons (pe_fldK (K := K) rfl (pv 0) rfl) pa_nil))) (pg_name (i := 3) sc_quotient_of.nd rfl (Or.inr rfl)) (pss_one (ps_if (pt_val (pe_callB (cr_allK (K := K) rfl rfl) rfl B.all (by decide +kernel) (pa_cons (pe_lc (own := [("two", 4)]) (g := gName 4) (tt := tYes) rfl sc_quotient_of.nd (pi_tupK (K := K) rfl (pe_fldK (K := K) rfl (pv 1) rfl)) (blkOk_by (sc := defScope s_quotient_of) (own := [("two", 4)]) (N := N_quotient_of) (by decide +kernel)) (fun _ _ _ _ _ => pg_name (i := 4) sc_quotient_of.nd rfl (Or.inl rfl)) (fun _ _ _ _ _ => pts_nil) (fun _ _ _ _ _ => (pe_cmpR (op_inK (K := K) rfl) (pe_op op_or (pv 3) (pv 4)) (pe_fldK (K := K) rfl (pv 0) rfl) (by with_unfolding_all rfl)))) pa_nil))) (pss_one (ps_expr (pe_bm PySem.F.plainAttrs_list PySem.F.slot_list_append PySem.F.type_list_append mt_append (pv 2) (pa_cons (pv 3) pa_nil)))) pss_nil))) (pss_one (ps_ret (pe_mk F_Choice hr rfl (by decide) (pa_cons (pe_fldK (K := K) rfl (pv 0) rfl) (pa_cons (pv 2) pa_nil)))))))))), ?_⟩)
  obtain ⟨a, b, m, p, q, rfl, ⟨c, d, hc, hd⟩, hQ⟩ := h
  have hm := c.1
  have hs := shl_le hm
  refine q_drop (ev_closed (ea1 (ev_var rfl)) c hc) fun H1 e1 => q_drop (ev_same (ea2 (ev_letters_of hC (ev_var rfl) (c.mono e1)) (ev_letters_of hC (ev_var rfl) (d.mono e1)))) fun H2 e2 => q_drop (ev_closed (ea1 (ev_var rfl)) (d.mono (e1.trans e2)) hd) fun H3 e3 => ?_
  have ex := (e1.trans e2).trans e3
  refine q_asgL (xs := []) (el_lst ea_nil (by decide)) fun L H4 hL e4 h4 => ?_
  have c3 := c.mono ex
  have d3 := d.mono ex
  refine q_forBT (H0 := H3) (φ := vN) (l := List.range (2 ^ m)) e4 hL ⟨_, h4⟩ (ett_f (ea1 (ev_letters_of hC (ev_var rfl) (c3.mono e4))) fun H5 e5 Q q => ⟨m, rfl, hm, q⟩) (fun pre σ' H' => (∃ z u, σ' = [some (.ref a), some (.ref b), some (.ref L), z, u]) ∧ H' L = some (.lst (nV (pre.filter (quoP m p q))))) (fun H5 e5 => ⟨⟨_, _, rfl⟩, e5 L _ h4⟩) ?_ ?_
  · rintro Hb eb hLb pre x post σ' H' el e ⟨⟨z, u, rfl⟩, hL'⟩
    have hx := List.mem_range.mp (mem_pre el)
    have hlen : pre.length ≤ 2 ^ m := by
      have := congrArg List.length el
      rw [List.length_range, List.length_append] at this
      omega
    refine s_when (b := quoP m p q x) (et_B (ev_is (ev_all (bs := (heaps m q).map fun y => p (x ||| y)) ?_) (by rw [all_map]; rfl))) (fun hb H5 e5 => ?_) (fun hb H5 e5 => ⟨e.trans e5, ⟨_, _, rfl⟩, ?_⟩)
    · rw [List.map_map]
      exact el_lcY (φ := vN) (fun y => .bl (p (x ||| y))) (ei_heaps hC (ev_var rfl) (d3.mono (eb.trans e))) (by
        have := List.length_filter_le q (List.range (2 ^ m))
        rw [List.length_range] at this
        show (List.filter _ _).length ≤ _
        omega) (fun _ => rfl) fun y H6 hy e6 => ev_inHeaps (neg := false) hC (ev_op (ev_var rfl) (ev_var rfl) rv_or) (ev_var rfl) (c3.mono ((eb.trans e).trans e6)) (or_lt hx (mem_heaps.mp hy).1)
    · refine s_app (e5 L _ hL') (ev_var rfl) (ev_var rfl) ?_ fun H6 e6 => ⟨Ex.mut ((e.trans e5).trans e6) hLb, ⟨_, _, rfl⟩, ?_⟩
      · rw [nV_length]
        have := List.length_filter_le (quoP m p q) pre
        omega
      · rw [upd_same, List.filter_append, List.filter_cons, if_pos hb]
        show _ = some (HO.lst (nV (pre.filter (quoP m p q) ++ [x])))
        rw [nV_append]
        rfl
    · rw [e5 L _ hL', List.filter_append, List.filter_cons, if_neg (by rw [hb]; decide), List.filter_nil, List.append_nil]
  · rintro σ' H' e ⟨⟨z, u, rfl⟩, hL'⟩
    exact s_retP (ep_mk (ns := (List.range (2 ^ m)).filter (quoP m p q)) (ev_letters_of hC (ev_var rfl) (c3.mono e)) (ev_var rfl) hm (filter_le60 hm _) (filter_lt m _) (sq_of hL')) fun v H5 e5 hv => hQ v H5 ((ex.trans e).trans e5) (hv.congr fun x hx => heaps_range m _ hx)
end
end KW

/-! halves.py -/
namespace KW
open PySem PySem.Spec PyProof.Rows L2 Evl K64
section
variable {P : Program} {w : World} {K : PySem.W.Frag} {mg : Str → Option Value} {base : Heap} {C : Addr}
abbrev N_check_long : List Str := ["letters"]
theorem sc_check_long : FnScope N_check_long ["letters"] (defScope s_check_long) := ⟨rfl, rfl, rfl, by decide +kernel, rfl, by decide +kernel, by decide +kernel⟩
theorem fx_check_long (D : Df K mg "check_long" s_check_long) (B : Bt mg) (F_check_letters : Fx P w K mg base 2 "check_letters" ["letters"] sp_check_letters) : Fx P w K mg base 3 "check_long" ["letters"] sp_check_long := by
  refine D.fx (N := N_check_long) sc_check_long (fun vs H Q E h => by obtain ⟨_, rfl, _⟩ := h; rfl) (fun _ _ _ _ _ _ us hl => match us, hl with | [_], _ => rfl) (fun f cdv A outer s H vs Q E hr h => ⟨_, (pss_cons (ps_if (pt_cmpR op_eq (pe_f F_check_letters hr rfl (by decide) (pa_cons (pv 0) pa_nil)) pe_int (nomark _)) pss_never pss_nil) (pss_one (ps_ret (pv 0)))), ?_⟩)
  obtain ⟨m, rfl, hm, hQ⟩ := h
  exact q_guardN (et_is (et_test (ev_op (ev_letters (ea1 (ev_var rfl)) ⟨by omega, hm.2⟩) (ev_n 1 rfl) rv_eqN)) (decide_eq_false (by omega))) fun H1 e1 => s_ret (ev_var rfl) fun H2 e2 => hQ H2 (e1.trans e2)
theorem ev_long {σ : L2.St} {H : Hp} {ta : TA} {m : Nat} (h : EvA ta σ H [vN m]) (hm : 2 ≤ m ∧ m ≤ 5) : Ev (tCall sp_check_long [] E0 ta) σ H (vN m) := ev_f h fun H1 e1 Q q => ⟨m, rfl, hm, q⟩
abbrev N_without_letter : List Str := ["number", "letter", "low"]
theorem sc_without_letter : FnScope N_without_letter ["number", "letter"] (defScope s_without_letter) := ⟨rfl, rfl, rfl, by decide +kernel, rfl, by decide +kernel, by decide +kernel⟩
theorem fx_without_letter (D : Df K mg "without_letter" s_without_letter) (B : Bt mg)  : Fx P w K mg base 1 "without_letter" ["number", "letter"] sp_without_letter := by
  refine D.fx (N := N_without_letter) sc_without_letter (fun vs H Q E h => by obtain ⟨_, _, rfl, _⟩ := h; rfl) (fun _ _ _ _ _ _ us hl => match us, hl with | [_, _], _ => rfl) (fun f cdv A outer s H vs Q E hr h => ⟨_, (pss_cons (ps_set (i := 2) sc_without_letter.nd rfl (Or.inl rfl) (pe_op op_and (pv 0) (pe_op op_sub (pe_op op_shl pe_int (pv 1)) pe_int))) (pss_one (ps_ret (pe_op op_or (pv 2) (pe_op op_shl (pe_op op_shr (pv 0) (pe_op op_add (pv 1) pe_int)) (pv 1)))))), ?_⟩)
  obtain ⟨n, i, rfl, ⟨hn, hi⟩, hQ⟩ := h
  have h1 : n >>> (i + 1) < 2 ^ 64 := by
    rw [Nat.shiftRight_eq_div_pow]
    exact Nat.lt_of_le_of_lt (Nat.div_le_self _ _) (Nat.lt_of_lt_of_le hn (by decide))
  exact q_asg (ev_op (ev_var rfl) (ev_pow1 (ev_n 1 rfl) (ev_var rfl) (ev_n 1 rfl) (by omega)) rv_and) fun H1 e1 =>
    s_ret (ev_is (ev_op (ev_var rfl) (ev_op (ev_op (ev_var rfl) (ev_op (ev_var rfl) (ev_n 1 rfl) rv_add) rv_shr) (ev_var rfl) (rv_shl h1 (by omega))) rv_or) (by
      unfold wol
      rw [one_shl])) fun H2 e2 => hQ H2 (e1.trans e2)
theorem ev_wol {σ : L2.St} {H : Hp} {ta : TA} {n i : Nat} (h : EvA ta σ H [vN n, vN i]) (hn : n < 32) (hi : i < 5) : Ev (tCall sp_without_letter [] E0 ta) σ H (vN (wol n i)) := ev_f h fun H1 e1 Q q => ⟨n, i, rfl, ⟨hn, hi⟩, q⟩
theorem ev_letter {σ : L2.St} {H : Hp} {ta : TA} {m l : Nat} (h : EvA ta σ H [vN m, vN l]) (hm : 1 ≤ m ∧ m ≤ 5) (hl : l < m) : Ev (tCall sp_check_letter [] E0 ta) σ H (vN l) := ev_f h fun H1 e1 Q q => ⟨m, l, rfl, ⟨hm, hl⟩, q⟩
theorem ev_bit {σ : L2.St} {H : Hp} {ta : TA} {b : Nat} (h : EvA ta σ H [vN b]) (hb : b < 2) : Ev (tCall sp_check_bit [] E0 ta) σ H (vN b) := ev_f h fun H1 e1 Q q => ⟨b, rfl, hb, q⟩
/-- place >> letter & 1 == bit -/
theorem et_onBit {σ : L2.St} {H : Hp} {ta tb tc td : TE} {n i b : Nat} (ha : Ev ta σ H (vN n)) (hb : Ev tb σ H (vN i)) (hc : Ev tc σ H (vN 1)) (hd : Ev td σ H (vN b)) :
    EvT (tTest (tOp rEq (tOp (rI0 fun i j => .int (Builtin.bitAnd i j)) (tOp (rI (fun _ j => 0 ≤ j) fun i j => .int (i / 2 ^ j.toNat)) ta tb) tc) td)) σ H (onBit i b n) :=
  et_is (et_test (ev_op (ev_op (ev_op ha hb rv_shr) hc rv_and) hd rv_eqN)) (by
    unfold onBit
    exact dec_is beq_iff_eq.symm)
theorem gather_snoc (c : Nat → Bool) (a k : Nat → Nat) (w : Nat) (l : List Nat) (s p : Nat) : gather c a k w (l ++ [p]) s = if c p then gather c a k w l s ||| (((w >>> a p) &&& 1) <<< k p) else gather c a k w l s := by
  unfold gather
  rw [foldl_snoc]
theorem one_le (w : Nat) : w &&& 1 < 2 ^ 64 := Nat.lt_of_le_of_lt Nat.and_le_right (by decide)
theorem wol_le {n i : Nat} (hn : n < 32) (hi : i < 5) : wol n i ≤ 1000000 := by
  have h := (fin_wol 4 (by decide) i hi n hn).1
  omega
abbrev N_strike_word : List Str := ["letters", "word", "letter", "bit", "many", "struck", "place"]
theorem sc_strike_word : FnScope N_strike_word ["letters", "word", "letter", "bit"] (defScope s_strike_word) := ⟨rfl, rfl, rfl, by decide +kernel, rfl, by decide +kernel, by decide +kernel⟩
theorem fx_strike_word (D : Df K mg "strike_word" s_strike_word) (B : Bt mg) (F_check_long : Fx P w K mg base 3 "check_long" ["letters"] sp_check_long) (F_check_word : Fx P w K mg base 4 "check_word" ["letters", "word"] sp_check_word) (F_check_letter : Fx P w K mg base 3 "check_letter" ["letters", "letter"] sp_check_letter) (F_check_bit : Fx P w K mg base 2 "check_bit" ["bit"] sp_check_bit) (F_without_letter : Fx P w K mg base 1 "without_letter" ["number", "letter"] sp_without_letter) : Fx P w K mg base 5 "strike_word" ["letters", "word", "letter", "bit"] sp_strike_word := by
  refine D.fx (N := N_strike_word) sc_strike_word (fun vs H Q E h => by obtain ⟨_, _, _, _, rfl, _⟩ := h; rfl) (fun _ _ _ _ _ _ us hl => match us, hl with | [_, _, _, _], _ => rfl) (fun f cdv A outer s H vs Q E hr h => ⟨_, (pss_cons (ps_set (i := 4) sc_strike_word.nd rfl (Or.inl rfl) (pe_op op_shl pe_int (pe_f F_check_long hr rfl (by decide) (pa_cons (pv 0) pa_nil)))) (pss_cons (ps_expr (pe_f F_check_word hr rfl (by decide) (pa_cons (pv 0) (pa_cons (pv 1) pa_nil)))) (pss_cons (ps_expr (pe_f F_check_letter hr rfl (by decide) (pa_cons (pv 0) (pa_cons (pv 2) pa_nil)))) (pss_cons (ps_expr (pe_f F_check_bit hr rfl (by decide) (pa_cons (pv 3) pa_nil))) (pss_cons (ps_set (i := 5) sc_strike_word.nd rfl (Or.inl rfl) pe_int) (pss_cons (ps_for PassesOwn.never rfl (pi_range1 rfl B.range (pa_cons (pv 4) pa_nil)) (pg_name (i := 6) sc_strike_word.nd rfl (Or.inl rfl)) (pss_one (ps_if (pt_cmpR op_eq (pe_op op_and (pe_op op_shr (pv 6) (pv 2)) pe_int) (pv 3) (nomark _)) (pss_one (ps_set (i := 5) sc_strike_word.nd rfl (Or.inl rfl) (pe_op op_or (pv 5) (pe_op op_shl (pe_op op_and (pe_op op_shr (pv 1) (pv 6)) pe_int) (pe_f F_without_letter hr rfl (by decide) (pa_cons (pv 6) (pa_cons (pv 2) pa_nil))))))) pss_nil))) (pss_one (ps_ret (pv 5))))))))), ?_⟩)
  obtain ⟨m, x, i, b, rfl, ⟨hm, hx, hi, hb⟩, hQ⟩ := h
  have hm1 : 1 ≤ m + 1 ∧ m + 1 ≤ 5 := by omega
  have hs := shl_le hm1
  refine q_asg (ev_pow (ev_n 1 rfl) (ev_long (ea1 (ev_var rfl)) (by omega)) (by omega)) fun H1 e1 => q_drop (ev_word (ea2 (ev_var rfl) (ev_var rfl)) hm1 hx) fun H2 e2 => q_drop (ev_letter (ea2 (ev_var rfl) (ev_var rfl)) hm1 hi) fun H3 e3 => q_drop (ev_bit (ea1 (ev_var rfl)) hb) fun H4 e4 => q_asg (ev_n 0 rfl) fun H5 e5 => ?_
  have ex := (((e1.trans e2).trans e3).trans e4).trans e5
  refine q_for (φ := vN) (l := List.range (2 ^ (m + 1))) (ei_rng (ea1 (ev_var rfl)) (by omega)) (fun pre σ' _ => ∃ z, σ' = [some (vN (m + 1)), some (vN x), some (vN i), some (vN b), some (vN (2 ^ (m + 1))), some (vN (gather (onBit i b) (fun p => p) (fun p => wol p i) x pre 0)), z]) (fun H1 e1 => ⟨_, rfl⟩) ?_ ?_
  · rintro Hb eb pre p post σ' H' el e ⟨z, rfl⟩
    have hp := List.mem_range.mp (mem_pre el)
    refine s_when (et_onBit (ev_var rfl) (ev_var rfl) (ev_n 1 rfl) (ev_var rfl)) (fun hc H6 e6 => ?_) (fun hc H6 e6 => ⟨e.trans e6, some (vN p), ?_⟩)
    · refine s_asg (ev_op (ev_var rfl) (ev_op (ev_op (ev_op (ev_var rfl) (ev_var rfl) rv_shr) (ev_n 1 rfl) rv_and) (ev_wol (ea2 (ev_var rfl) (ev_var rfl)) (by omega) (by omega)) (rv_shl (one_le _) (wol_le (by omega) (by omega)))) rv_or) fun H7 e7 => ⟨(e.trans e6).trans e7, some (vN p), ?_⟩
      rw [gather_snoc, if_pos hc]
      rfl
    · rw [gather_snoc, if_neg (by rw [hc]; decide)]
      rfl
  · rintro σ' H' e ⟨z, rfl⟩
    exact s_ret (ev_var rfl) fun H6 e6 => hQ H6 ((ex.trans e).trans e6)
abbrev N_widen_word : List Str := ["letters", "word", "letter", "bit", "many", "wide", "place"]
theorem sc_widen_word : FnScope N_widen_word ["letters", "word", "letter", "bit"] (defScope s_widen_word) := ⟨rfl, rfl, rfl, by decide +kernel, rfl, by decide +kernel, by decide +kernel⟩
theorem fx_widen_word (D : Df K mg "widen_word" s_widen_word) (B : Bt mg) (F_check_long : Fx P w K mg base 3 "check_long" ["letters"] sp_check_long) (F_check_word : Fx P w K mg base 4 "check_word" ["letters", "word"] sp_check_word) (F_check_letter : Fx P w K mg base 3 "check_letter" ["letters", "letter"] sp_check_letter) (F_check_bit : Fx P w K mg base 2 "check_bit" ["bit"] sp_check_bit) (F_without_letter : Fx P w K mg base 1 "without_letter" ["number", "letter"] sp_without_letter) : Fx P w K mg base 5 "widen_word" ["letters", "word", "letter", "bit"] sp_widen_word := by
  refine D.fx (N := N_widen_word) sc_widen_word (fun vs H Q E h => by obtain ⟨_, _, _, _, rfl, _⟩ := h; rfl) (fun _ _ _ _ _ _ us hl => match us, hl with | [_, _, _, _], _ => rfl) (fun f cdv A outer s H vs Q E hr h => ⟨_, (pss_cons (ps_set (i := 4) sc_widen_word.nd rfl (Or.inl rfl) (pe_op op_shl pe_int (pe_f F_check_long hr rfl (by decide) (pa_cons (pv 0) pa_nil)))) (pss_cons (ps_expr (pe_f F_check_word hr rfl (by decide) (pa_cons (pe_op op_sub (pv 0) pe_int) (pa_cons (pv 1) pa_nil)))) (pss_cons (ps_expr (pe_f F_check_letter hr rfl (by decide) (pa_cons (pv 0) (pa_cons (pv 2) pa_nil)))) (pss_cons (ps_expr (pe_f F_check_bit hr rfl (by decide) (pa_cons (pv 3) pa_nil))) (pss_cons (ps_set (i := 5) sc_widen_word.nd rfl (Or.inl rfl) pe_int) (pss_cons (ps_for PassesOwn.never rfl (pi_range1 rfl B.range (pa_cons (pv 4) pa_nil)) (pg_name (i := 6) sc_widen_word.nd rfl (Or.inl rfl)) (pss_one (ps_if (pt_cmpR op_eq (pe_op op_and (pe_op op_shr (pv 6) (pv 2)) pe_int) (pv 3) (nomark _)) (pss_one (ps_set (i := 5) sc_widen_word.nd rfl (Or.inl rfl) (pe_op op_or (pv 5) (pe_op op_shl (pe_op op_and (pe_op op_shr (pv 1) (pe_f F_without_letter hr rfl (by decide) (pa_cons (pv 6) (pa_cons (pv 2) pa_nil)))) pe_int) (pv 6))))) pss_nil))) (pss_one (ps_ret (pv 5))))))))), ?_⟩)
  obtain ⟨m, x, i, b, rfl, ⟨hm, hx, hi, hb⟩, hQ⟩ := h
  have hm1 : 1 ≤ m + 1 ∧ m + 1 ≤ 5 := by omega
  have hs := shl_le hm1
  refine q_asg (ev_pow (ev_n 1 rfl) (ev_long (ea1 (ev_var rfl)) (by omega)) (by omega)) fun H1 e1 => q_drop (ev_word (m := m) (ea2 (ev_op (ev_var rfl) (ev_n 1 rfl) (rv_sub (by omega))) (ev_var rfl)) (by omega) hx) fun H2 e2 => q_drop (ev_letter (ea2 (ev_var rfl) (ev_var rfl)) hm1 hi) fun H3 e3 => q_drop (ev_bit (ea1 (ev_var rfl)) hb) fun H4 e4 => q_asg (ev_n 0 rfl) fun H5 e5 => ?_
  have ex := (((e1.trans e2).trans e3).trans e4).trans e5
  refine q_for (φ := vN) (l := List.range (2 ^ (m + 1))) (ei_rng (ea1 (ev_var rfl)) (by omega)) (fun pre σ' _ => ∃ z, σ' = [some (vN (m + 1)), some (vN x), some (vN i), some (vN b), some (vN (2 ^ (m + 1))), some (vN (gather (onBit i b) (fun p => wol p i) (fun p => p) x pre 0)), z]) (fun H1 e1 => ⟨_, rfl⟩) ?_ ?_
  · rintro Hb eb pre p post σ' H' el e ⟨z, rfl⟩
    have hp := List.mem_range.mp (mem_pre el)
    refine s_when (et_onBit (ev_var rfl) (ev_var rfl) (ev_n 1 rfl) (ev_var rfl)) (fun hc H6 e6 => ?_) (fun hc H6 e6 => ⟨e.trans e6, some (vN p), ?_⟩)
    · refine s_asg (ev_op (ev_var rfl) (ev_op (ev_op (ev_op (ev_var rfl) (ev_wol (ea2 (ev_var rfl) (ev_var rfl)) (by omega) (by omega)) rv_shr) (ev_n 1 rfl) rv_and) (ev_var rfl) (rv_shl (one_le _) (by omega))) rv_or) fun H7 e7 => ⟨(e.trans e6).trans e7, some (vN p), ?_⟩
      rw [gather_snoc, if_pos hc]
      rfl
    · rw [gather_snoc, if_neg (by rw [hc]; decide)]
      rfl
  · rintro σ' H' e ⟨z, rfl⟩
    exact s_ret (ev_var rfl) fun H6 e6 => hQ H6 ((ex.trans e).trans e6)
theorem et_eqN {σ : L2.St} {H : Hp} {ta tb : TE} {a b : Nat} (ha : Ev ta σ H (vN a)) (hb : Ev tb σ H (vN b)) : EvT (tTest (tOp rEq ta tb)) σ H (a == b) := et_is (et_test (ev_op ha hb rv_eqN)) (dec_is beq_iff_eq.symm)
theorem heaps_len60 {m : Nat} (hm : 1 ≤ m ∧ m ≤ 5) (p : Nat → Bool) : (heaps m p).length ≤ 32 := by
  have := List.length_filter_le p (List.range (2 ^ m))
  rw [List.length_range] at this
  have := shl_le hm
  show (List.filter _ _).length ≤ 32
  omega
abbrev N_strike : List Str := ["choice", "letter", "bit", "letters", "heaps", "heap"]
theorem sc_strike : FnScope N_strike ["choice", "letter", "bit"] (defScope s_strike) := ⟨rfl, rfl, rfl, by decide +kernel, rfl, by decide +kernel, by decide +kernel⟩
theorem fx_strike (D : Df K mg "strike" s_strike) (B : Bt mg) (F_check_long : Fx P w K mg base 3 "check_long" ["letters"] sp_check_long) (F_check_letter : Fx P w K mg base 3 "check_letter" ["letters", "letter"] sp_check_letter) (F_check_bit : Fx P w K mg base 2 "check_bit" ["bit"] sp_check_bit) (F_without_letter : Fx P w K mg base 1 "without_letter" ["number", "letter"] sp_without_letter) (F_Choice : Mx P w K mg base 5 "Choice" C ["self", "letters", "heaps"] (sp_init K C)) (hC : CH K mg C) : Fx P w K mg base 7 "strike" ["choice", "letter", "bit"] (sp_strike C) := by
  refine D.fx (N := N_strike) sc_strike (fun vs H Q E h => by obtain ⟨_, _, _, _, _, rfl, _⟩ := h; rfl) (fun _ _ _ _ _ _ us hl => match us, hl with | [_, _, _], _ => rfl) (fun f cdv A outer s H vs Q E hr h => ⟨_, (pss_cons (ps_set (i := 3) sc_strike.nd rfl (Or.inl rfl) (pe_f F_check_long hr rfl (by decide) (pa_cons (pe_fldK (K := K) rfl (pv 0) rfl) pa_nil))) (pss_cons (ps_expr (pe_f F_check_letter hr rfl (by decide) (pa_cons (pv 3) (pa_cons (pv 1) pa_nil)))) (pss_cons (ps_expr (pe_f F_check_bit hr rfl (by decide) (pa_cons (pv 2) pa_nil))) (pss_cons (ps_setLc (i := 4) (own := [("heap", 5)]) (g := gName 5) rfl sc_strike.nd rfl rfl (sw_true rfl rfl rfl (by decide +kernel)) (pi_tupK (K := K) rfl (pe_fldK (K := K) rfl (pv 0) rfl)) (blkOk_by (sc := defScope s_strike) (own := [("heap", 5)]) (N := N_strike) (by decide +kernel)) (fun _ _ _ _ _ => pg_name (i := 5) sc_strike.nd rfl (Or.inl rfl)) (fun _ _ _ _ _ => pts_one (PW.pt (pw_or (pt_cmpR op_eq (pv 2) pe_int (nomark _)) (pw_or1 (pt_cmpR op_eq (pe_op op_and (pe_op op_shr (pv 5) (pv 1)) pe_int) pe_int (nomark _)))))) (fun _ _ _ _ _ => (pe_f F_without_letter hr rfl (by decide) (pa_cons (pv 5) (pa_cons (pv 1) pa_nil))))) (pss_one (ps_ret (pe_mk F_Choice hr rfl (by decide) (pa_cons (pe_op op_sub (pv 3) pe_int) (pa_cons (pv 4) pa_nil))))))))), ?_⟩)
  obtain ⟨a, m, i, b, p, rfl, ⟨c, hm, hi, hb⟩, hQ⟩ := h
  have hm1 := c.1
  have hs := shl_le hm1
  refine q_asg (ev_long (ea1 (ev_letters_of hC (ev_var rfl) c)) (by omega)) fun H1 e1 => q_drop (ev_letter (ea2 (ev_var rfl) (ev_var rfl)) hm1 hi) fun H2 e2 => q_drop (ev_bit (ea1 (ev_var rfl)) hb) fun H3 e3 => ?_
  have ex := (e1.trans e2).trans e3
  refine q_asgL (xs := nV (((heaps (m + 1) p).filter fun x => (b == 1 || (x >>> i) &&& 1 == 0)).map fun x => wol x i)) ?_ fun L H4 hL e4 h4 => ?_
  · rw [← map_nV]
    refine el_lc (φ := vN) (fun x => (b == 1 || (x >>> i) &&& 1 == 0)) (fun x => vN (wol x i)) (ei_heaps hC (ev_var rfl) (c.mono ex)) (by have := heaps_len60 hm1 p; omega) (fun _ => rfl) (fun x H' hx e => ?_) fun x H' hx e _ => ev_wol (ea2 (ev_var rfl) (ev_var rfl)) (by have := (mem_heaps.mp hx).1; omega) (by omega)
    exact et_or (et_eqN (ev_var rfl) (ev_n 1 rfl)) fun _ => et_eqN (ev_op (ev_op (ev_var rfl) (ev_var rfl) rv_shr) (ev_n 1 rfl) rv_and) (ev_n 0 rfl)
  · have hlt : Lt (2 ^ m) (((heaps (m + 1) p).filter fun x => (b == 1 || (x >>> i) &&& 1 == 0)).map fun x => wol x i) := fun y hy => by
      obtain ⟨x, hx, rfl⟩ := List.mem_map.mp hy
      exact (fin_wol m hm.2 i hi x (mem_heaps.mp (List.mem_filter.mp hx).1).1).1
    refine s_retP (ep_mk (m := m) (ev_op (ev_var rfl) (ev_n 1 rfl) (rv_sub (by omega))) (ev_var rfl) (by omega) ?_ hlt (sq_of h4)) fun v H5 e5 hv => hQ v H5 ((ex.trans e4).trans e5) (hv.congr fun y hy => ?_)
    · rw [List.length_map]
      have := List.length_filter_le (fun x => (b == 1 || (x >>> i) &&& 1 == 0)) (heaps (m + 1) p)
      have := heaps_len60 hm1 p
      omega
    · refine dec_is ?_
      unfold strikeP
      rw [List.any_eq_true, List.mem_map]
      constructor
      · rintro ⟨x, hx, e⟩
        have hx := List.mem_filter.mp hx
        exact ⟨x, hx.1, by rw [hx.2, decide_eq_true e]; rfl⟩
      · rintro ⟨x, hx, e⟩
        have e := Bool.and_eq_true_iff.mp e
        exact ⟨x, List.mem_filter.mpr ⟨hx, e.1⟩, of_decide_eq_true e.2⟩
abbrev N_shorten : List Str := ["choice", "letter", "bit", "letters", "heaps", "heap"]
theorem sc_shorten : FnScope N_shorten ["choice", "letter", "bit"] (defScope s_shorten) := ⟨rfl, rfl, rfl, by decide +kernel, rfl, by decide +kernel, by decide +kernel⟩
theorem fx_shorten (D : Df K mg "shorten" s_shorten) (B : Bt mg) (F_check_long : Fx P w K mg base 3 "check_long" ["letters"] sp_check_long) (F_check_letter : Fx P w K mg base 3 "check_letter" ["letters", "letter"] sp_check_letter) (F_check_bit : Fx P w K mg base 2 "check_bit" ["bit"] sp_check_bit) (F_without_letter : Fx P w K mg base 1 "without_letter" ["number", "letter"] sp_without_letter) (F_Choice : Mx P w K mg base 5 "Choice" C ["self", "letters", "heaps"] (sp_init K C)) (hC : CH K mg C) : Fx P w K mg base 7 "shorten" ["choice", "letter", "bit"] (sp_shorten C) := by
  refine D.fx (N := N_shorten) sc_shorten (fun vs H Q E h => by obtain ⟨_, _, _, _, _, rfl, _⟩ := h; rfl) (fun _ _ _ _ _ _ us hl => match us, hl with | [_, _, _], _ => rfl) (fun f cdv A outer s H vs Q E hr h => ⟨_, (pss_cons (ps_set (i := 3) sc_shorten.nd rfl (Or.inl rfl) (pe_f F_check_long hr rfl (by decide) (pa_cons (pe_fldK (K := K) rfl (pv 0) rfl) pa_nil))) (pss_cons (ps_expr (pe_f F_check_letter hr rfl (by decide) (pa_cons (pv 3) (pa_cons (pv 1) pa_nil)))) (pss_cons (ps_expr (pe_f F_check_bit hr rfl (by decide) (pa_cons (pv 2) pa_nil))) (pss_cons (ps_set (i := 4) sc_shorten.nd rfl (Or.inl rfl) (pe_lst pa_nil)) (pss_cons (ps_for PassesOwn.never rfl (pi_tupK (K := K) rfl (pe_fldK (K := K) rfl (pv 0) rfl)) (pg_name (i := 5) sc_shorten.nd rfl (Or.inl rfl)) (pss_one (ps_if (PW.pt (pw_and (pt_truthK (K := K) rfl (pe_op op_and (pe_op op_shr (pv 5) (pv 1)) pe_int) (by intro _; rfl)) (pw_and1 (PW.pt (pw_or (pt_cmpR op_eq (pv 2) pe_int (nomark _)) (pw_or1 (pt_cmpR (op_inK (K := K) rfl) (pe_op op_xor (pv 5) (pe_op op_shl pe_int (pv 1))) (pe_fldK (K := K) rfl (pv 0) rfl) (by with_unfolding_all rfl)))))))) (pss_one (ps_expr (pe_bm PySem.F.plainAttrs_list PySem.F.slot_list_append PySem.F.type_list_append mt_append (pv 4) (pa_cons (pe_f F_without_letter hr rfl (by decide) (pa_cons (pv 5) (pa_cons (pv 1) pa_nil))) pa_nil)))) pss_nil))) (pss_one (ps_ret (pe_mk F_Choice hr rfl (by decide) (pa_cons (pe_op op_sub (pv 3) pe_int) (pa_cons (pv 4) pa_nil)))))))))), ?_⟩)
  obtain ⟨a, m, i, b, p, rfl, ⟨c, hm, hi, hb⟩, hQ⟩ := h
  have hm1 := c.1
  have hs := shl_le hm1
  refine q_asg (ev_long (ea1 (ev_letters_of hC (ev_var rfl) c)) (by omega)) fun H1 e1 => q_drop (ev_letter (ea2 (ev_var rfl) (ev_var rfl)) hm1 hi) fun H2 e2 => q_drop (ev_bit (ea1 (ev_var rfl)) hb) fun H3 e3 => ?_
  have ex := (e1.trans e2).trans e3
  let F : Nat → Bool := fun x => (!((x >>> i) &&& 1 == 0)) && (b == 1 || p (x ^^^ (1 <<< i)))
  refine q_asgL (xs := []) (el_lst ea_nil (by decide)) fun L H4 hL e4 h4 => ?_
  have c3 := c.mono ex
  obtain ⟨t, ht, hv⟩ := ev_heaps_of (K := K) hC (σ := (([some (.ref a), some (vN i), some (vN b), some (vN (m + 1)), some (.ref L), none] : L2.St))) (ta := tVar 0) (ev_var rfl) c3
  refine q_forB (H0 := H3) (φ := vN) (l := heaps (m + 1) p) e4 (eb_tup e4 (hv.mono e4) (st_of ht)) (fun pre σ' H' => (∃ z, σ' = [some (.ref a), some (vN i), some (vN b), some (vN (m + 1)), some (.ref L), z]) ∧ H' L = some (.lst (nV ((pre.filter F).map fun x => wol x i)))) (fun H5 e5 => ⟨⟨_, rfl⟩, e5 L _ h4⟩) ?_ ?_
  · rintro pre x post σ' H' el e ⟨⟨z, rfl⟩, hL'⟩
    have hx := mem_heaps.mp (mem_pre el)
    have hlen : pre.length ≤ 32 := by
      have := congrArg List.length el
      rw [List.length_append] at this
      have := heaps_len60 hm1 p
      omega
    have hxor : (x >>> i) &&& 1 ≠ 0 → x ^^^ (1 <<< i) < 2 ^ (m + 1) := fun _ => by
      rw [one_shl]
      exact Nat.xor_lt_two_pow hx.1 (Nat.pow_lt_pow_right (by decide) hi)
    refine s_when (b := F x) (et_and (et_is (et_truK (ev_op (ev_op (ev_var rfl) (ev_var rfl) rv_shr) (ev_n 1 rfl) rv_and)) ?_) fun hb1 => et_or (et_eqN (ev_var rfl) (ev_n 1 rfl)) fun _ => et_test (ev_is (ev_inHeaps (neg := false) hC (ev_op (ev_var rfl) (ev_op (ev_n 1 rfl) (ev_var rfl) (rv_shl (by decide) (by omega))) rv_xor) (ev_var rfl) (c3.mono e) (hxor ?_)) rfl)) (fun hb H5 e5 => ?_) (fun hb H5 e5 => ⟨e.trans e5, ⟨_, rfl⟩, ?_⟩)
    · by_cases h0 : (x >>> i) &&& 1 = 0
      · rw [h0]; rfl
      · rw [decide_eq_true h0, beq_eq_false_iff_ne.mpr h0]; rfl
    · intro h0
      rw [h0] at hb1
      cases hb1
    · refine s_app (e5 L _ hL') (ev_var rfl) (ev_wol (ea2 (ev_var rfl) (ev_var rfl)) (by omega) (by omega)) ?_ fun H6 e6 => ⟨Ex.mut ((e.trans e5).trans e6) hL, ⟨_, rfl⟩, ?_⟩
      · rw [nV_length, List.length_map]
        have := List.length_filter_le F pre
        omega
      · rw [upd_same, List.filter_append, List.filter_cons, if_pos hb, List.map_append, nV_append]
        rfl
    · rw [e5 L _ hL', List.filter_append, List.filter_cons, if_neg (by rw [hb]; decide), List.filter_nil, List.append_nil]
  · rintro σ' H' e ⟨⟨z, rfl⟩, hL'⟩
    have hlt : Lt (2 ^ m) (((heaps (m + 1) p).filter F).map fun x => wol x i) := fun y hy => by
      obtain ⟨x, hx, rfl⟩ := List.mem_map.mp hy
      exact (fin_wol m hm.2 i hi x (mem_heaps.mp (List.mem_filter.mp hx).1).1).1
    refine s_retP (ep_mk (m := m) (ev_op (ev_var rfl) (ev_n 1 rfl) (rv_sub (by omega))) (ev_var rfl) (by omega) ?_ hlt (sq_of hL')) fun v H5 e5 hv => hQ v H5 ((ex.trans e).trans e5) (hv.congr fun y hy => ?_)
    · rw [List.length_map]
      have := List.length_filter_le F (heaps (m + 1) p)
      have := heaps_len60 hm1 p
      omega
    · refine dec_is ?_
      unfold shortP
      rw [List.any_eq_true, List.mem_map]
      constructor
      · rintro ⟨x, hx, e⟩
        have hx := List.mem_filter.mp hx
        exact ⟨x, hx.1, by rw [show ((!((x >>> i) &&& 1 == 0)) && (b == 1 || p (x ^^^ (1 <<< i)))) = true from hx.2, decide_eq_true e]; rfl⟩
      · rintro ⟨x, hx, e⟩
        have e := Bool.and_eq_true_iff.mp e
        exact ⟨x, List.mem_filter.mpr ⟨hx, e.1⟩, of_decide_eq_true e.2⟩
end
end KW

/-! reduced.py -/
namespace KW
open PySem PySem.Spec PyProof.Rows L2 Evl K64
section
variable {P : Program} {w : World} {K : PySem.W.Frag} {mg : Str → Option Value} {base : Heap} {C : Addr}
theorem ett_tupB {σ : L2.St} {H : Hp} {ta : TE} {a : Addr} {xs : List V} (h : Ev ta σ H (.ref a)) (hx : SqB K H a xs) : EvT' (tCB (rTupOf K) (tCons ta tNil)) σ H xs := fun H1 e Q q =>
  h H1 e _ fun H2 e2 => ⟨a, xs, rfl, (hx.mono (e.trans e2)).elim (fun z => .inl ⟨z, fun l hl => q l _ (e2.trans (Ex.new hl)) upd_same⟩) fun z => .inr ⟨st_of z, q a H2 e2 z⟩⟩
theorem ett_f1 {σ : L2.St} {H : Hp} {ta : TE} {xs ys : List V} {sp : L2.Sp} (h : EvT' ta σ H xs) (hs : ∀ p H1, Ex H H1 → H1 p = some (.tup xs) → ∀ Q : VK, RetT ys H1 Q → sp [.ref p] H1 Q E0) : EvT' (tCall sp [] E0 (tCons ta tNil)) σ H ys := fun H1 e Q q =>
  h H1 e _ fun p H2 e2 h2 => hs p H2 (e.trans e2) h2 Q fun v H3 e3 h3 => q v H3 (e2.trans e3) h3
abbrev N_check_below : List Str := ["words", "greatest", "at", "one"]
theorem sc_check_below : FnScope N_check_below ["words", "greatest"] (defScope s_check_below) := ⟨rfl, rfl, rfl, by decide +kernel, rfl, by decide +kernel, by decide +kernel⟩
theorem fx_check_below (D : Df K mg "check_below" s_check_below) (B : Bt mg) (F_is_whole : Fx P w K mg base 1 "is_whole" ["thing", "low", "high"] sp_is_whole) : Fx P w K mg base 2 "check_below" ["words", "greatest"] (sp_check_below K) := by
  refine D.fx (N := N_check_below) sc_check_below (fun vs H Q E h => by obtain ⟨_, _, _, rfl, _⟩ := h; rfl) (fun _ _ _ _ _ _ us hl => match us, hl with | [_, _], _ => rfl) (fun f cdv A outer s H vs Q E hr h => ⟨_, (pss_cons (ps_if (PW.pt (pw_or (pt_not (pt_val (pe_callB call_isiT rfl B.isinstance (by decide +kernel) (pa_cons (pv 0) (pa_cons (pe_tup (pa_cons (pe_bltn (v := .ty "list") rfl B.list (by decide +kernel) rfl) (pa_cons (pe_bltn (v := .ty "tuple") rfl B.tuple (by decide +kernel) rfl) pa_nil))) pa_nil))))) (pw_or1 (pt_cmpR op_gt (pe_callB call_len_seq rfl B.len (by decide +kernel) (pa_cons (pv 0) pa_nil)) (pe_glob (v := .int 5000) rfl B.WORDS.choose_spec ⟨_, rfl⟩) (nomark _))))) pss_never pss_nil) (pss_cons (ps_for PassesOwn.never rfl (pi_enumV rfl B.enumerate (pa_cons (pv 0) pa_nil)) (pg_tup rfl (pgs_cons (pg_name (i := 2) sc_check_below.nd rfl (Or.inl rfl)) (pgs_cons (pg_name (i := 3) sc_check_below.nd rfl (Or.inl rfl)) pgs_nil))) (pss_one (ps_if (pt_not (pt_val (pe_f F_is_whole hr rfl (by decide) (pa_cons (pv 3) (pa_cons pe_int (pa_cons (pv 1) pa_nil)))))) pss_never pss_nil))) (pss_one (ps_ret (pe_callTy call_tuple_of rfl B.tuple (by decide +kernel) (pa_cons (pv 0) pa_nil)))))), ?_⟩)
  obtain ⟨a, ns, g, rfl, ⟨hx, hl, hg⟩, hQ⟩ := h
  refine q_guardN (et_is (et_or (et_not (et_B (ev_isListT (ev_var rfl) hx.a (fun _ _ => ev_c) (fun _ _ => ev_c)))) fun _ => et_test (ev_op (ev_lenSq (ev_var rfl) hx.a) (ev_n 5000 rfl) rv_gt)) (by
    rw [decide_eq_false (by rw [nV_length]; omega)]
    rfl)) fun H1 e1 => ?_
  refine q_forE (φ := vN) (l := ns) (ee_seqV rfl (hx.mono e1).a) (fun pre σ' _ => ∃ y z, σ' = [some (.ref a), some (vN g), y, z]) (fun _ _ _ _ _ q => q) (fun H1 e1 => ⟨_, _, rfl⟩) ?_ ?_
  · rintro Hb eb pre n post σ' H' el e ⟨y, z, rfl⟩
    have hn := hg n (mem_pre el)
    exact s_guard (et_B (ev_whole (ea3 (ev_var rfl) (ev_n 0 rfl) (ev_var rfl)) (by omega) hn)) fun H3 e3 => ⟨e.trans e3, _, _, rfl⟩
  · rintro σ' H' e ⟨y, z, rfl⟩
    exact s_retT (ett_tupB (ev_var rfl) (hx.mono (e1.trans e))) fun p H3 e3 h3 => hQ p H3 ((e1.trans e).trans e3) h3
abbrev N_check_words : List Str := ["words"]
theorem sc_check_words : FnScope N_check_words ["words"] (defScope s_check_words) := ⟨rfl, rfl, rfl, by decide +kernel, rfl, by decide +kernel, by decide +kernel⟩
theorem fx_check_words (D : Df K mg "check_words" s_check_words) (B : Bt mg) (F_check_below : Fx P w K mg base 2 "check_below" ["words", "greatest"] (sp_check_below K)) : Fx P w K mg base 3 "check_words" ["words"] (sp_check_words K) := by
  refine D.fx (N := N_check_words) sc_check_words (fun vs H Q E h => by obtain ⟨_, _, rfl, _⟩ := h; rfl) (fun _ _ _ _ _ _ us hl => match us, hl with | [_], _ => rfl) (fun f cdv A outer s H vs Q E hr h => ⟨_, (pss_one (ps_ret (pe_f F_check_below hr rfl (by decide) (pa_cons (pv 0) (pa_cons (pe_glob (v := .int 4294967295) rfl B.GREATEST.choose_spec ⟨_, rfl⟩) pa_nil))))), ?_⟩)
  obtain ⟨a, ns, rfl, ⟨hx, hl, hg⟩, hQ⟩ := h
  exact s_retT (ett_f (ea2 (ev_var rfl) (ev_n 4294967295 rfl)) fun H1 e1 Q q => ⟨a, ns, 4294967295, rfl, ⟨hx.mono e1, hl, fun x hx => Nat.le_of_lt_succ (hg x hx)⟩, q⟩) hQ
abbrev N_check_single : List Str := ["word"]
theorem sc_check_single : FnScope N_check_single ["word"] (defScope s_check_single) := ⟨rfl, rfl, rfl, by decide +kernel, rfl, by decide +kernel, by decide +kernel⟩
theorem fx_check_single (D : Df K mg "check_single" s_check_single) (B : Bt mg) (F_is_whole : Fx P w K mg base 1 "is_whole" ["thing", "low", "high"] sp_is_whole) : Fx P w K mg base 2 "check_single" ["word"] sp_check_single := by
  refine D.fx (N := N_check_single) sc_check_single (fun vs H Q E h => by obtain ⟨_, rfl, _⟩ := h; rfl) (fun _ _ _ _ _ _ us hl => match us, hl with | [_], _ => rfl) (fun f cdv A outer s H vs Q E hr h => ⟨_, (pss_cons (ps_if (pt_not (pt_val (pe_f F_is_whole hr rfl (by decide) (pa_cons (pv 0) (pa_cons pe_int (pa_cons (pe_glob (v := .int 4294967295) rfl B.GREATEST.choose_spec ⟨_, rfl⟩) pa_nil)))))) pss_never pss_nil) (pss_one (ps_ret (pv 0)))), ?_⟩)
  obtain ⟨n, rfl, hn, hQ⟩ := h
  exact q_guard (et_B (ev_whole (ea3 (ev_var rfl) (ev_n 0 rfl) (ev_n 4294967295 rfl)) (by omega) (Nat.le_of_lt_succ hn))) fun H1 e1 => s_ret (ev_var rfl) fun H2 e2 => hQ H2 (e1.trans e2)
theorem bits_nat {n : Nat} (h : n ≠ 0) : Builtin.Int.intBits (n : Int) = n.log2 + 1 := by
  unfold Builtin.Int.intBits
  rw [if_neg (by rw [beq_iff_eq]; omega)]
  rfl
/-- x.bit_length(), and less one -/
theorem ev_bits {σ : L2.St} {H : Hp} {ta : TE} {n : Nat} (h : Ev ta σ H (vN n)) (hn : n ≠ 0) : Ev (tBits ta) σ H (vN (n.log2 + 1)) := fun H1 e Q q =>
  h H1 e _ fun H2 e2 => ⟨(n : Int), rfl, by
    rw [bits_nat hn]
    exact q H2 e2⟩
theorem ev_top {σ : L2.St} {H : Hp} {ta tb : TE} {n : Nat} (h : Ev ta σ H (vN n)) (h1 : Ev tb σ H (vN 1)) (hn : n ≠ 0) : Ev (tOp (rI0 fun i j => .int (i - j)) (tBits ta) tb) σ H (vN n.log2) := ev_op (ev_bits h hn) h1 (rv_sub (by omega))
abbrev N_taken_off : List Str := ["rows", "word", "row"]
theorem sc_taken_off : FnScope N_taken_off ["rows", "word"] (defScope s_taken_off) := ⟨rfl, rfl, rfl, by decide +kernel, rfl, by decide +kernel, by decide +kernel⟩
theorem fx_taken_off (D : Df K mg "taken_off" s_taken_off) (B : Bt mg)  : Fx P w K mg base 1 "taken_off" ["rows", "word"] (sp_taken_off K) := by
  refine D.fx (N := N_taken_off) sc_taken_off (fun vs H Q E h => by obtain ⟨_, _, _, rfl, _⟩ := h; rfl) (fun _ _ _ _ _ _ us hl => match us, hl with | [_, _], _ => rfl) (fun f cdv A outer s H vs Q E hr h => ⟨_, (pss_cons (ps_for PassesOwn.never rfl (pi_seqV (pv 0)) (pg_name (i := 2) sc_taken_off.nd rfl (Or.inl rfl)) (pss_one (ps_if (pt_truthK (K := K) rfl (pe_op op_and (pe_op op_shr (pv 1) (pe_op op_sub (pe_bits (pv 2)) pe_int)) pe_int) (by intro _; rfl)) (pss_one (ps_set (i := 1) sc_taken_off.nd rfl (Or.inl rfl) (pe_op op_xor (pv 1) (pv 2)))) pss_nil))) (pss_one (ps_ret (pv 1)))), ?_⟩)
  obtain ⟨a, ns, x, rfl, ⟨hx, hl, hlt, hpos, hw⟩, hQ⟩ := h
  refine q_for (φ := vN) (l := ns) (ei_seqV rfl hx.a) (fun pre σ' _ => ∃ z, σ' = [some (.ref a), some (vN (pre.foldl offOne x)), z]) (fun H1 e1 => ⟨_, rfl⟩) ?_ ?_
  · rintro Hb eb pre r post σ' H' el e ⟨z, rfl⟩
    have hr := mem_pre el
    refine s_when (et_bit (ev_var rfl) (ev_top (ev_var rfl) (ev_n 1 rfl) (hpos r hr)) (ev_n 1 rfl)) (fun hb H3 e3 => s_asg (ev_op (ev_var rfl) (ev_var rfl) rv_xor) fun H4 e4 => ⟨(e.trans e3).trans e4, some (vN r), ?_⟩) (fun hb H3 e3 => ⟨e.trans e3, some (vN r), ?_⟩)
    · rw [foldl_snoc]
      show _ = [_, some (vN (if (pre.foldl offOne x).testBit r.log2 then _ else _)), _]
      rw [if_pos hb]
      rfl
    · rw [foldl_snoc]
      show _ = [_, some (vN (if (pre.foldl offOne x).testBit r.log2 then _ else _)), _]
      rw [if_neg (by rw [hb]; decide)]
      rfl
  · rintro σ' H' e ⟨z, rfl⟩
    exact s_ret (ev_var rfl) fun H3 e3 => hQ H3 (e.trans e3)
theorem sorted_nat' {ns : List Nat} {ns' : List Int} (h : ns'.Perm (ns.map fun n : Nat => (n : Int))) : (ns'.map Int.toNat).Perm ns ∧ ns' = (ns'.map Int.toNat).map fun n : Nat => (n : Int) := by
  refine ⟨?_, ?_⟩
  · have k := h.map Int.toNat
    rw [List.map_map] at k
    have e : (Int.toNat ∘ fun n : Nat => (n : Int)) = id := funext fun n => rfl
    rw [e, List.map_id] at k
    exact k
  · rw [List.map_map]
    symm
    rw [List.map_congr_left (g := id) fun x hx => ?_, List.map_id]
    obtain ⟨n, _, rfl⟩ := List.mem_map.mp (h.mem_iff.mp hx)
    rfl
/-- sorted(l, reverse=True) -/
theorem el_sortDown {σ : L2.St} {H : Hp} {ta tk : TE} {ns : List Nat} (h : EvL ta σ H (nV ns)) (hk : ∀ H1, Ex H H1 → Ev tk σ H1 (.bl true)) : EvL (tCKw (rSortedKw K true [.bl true]) (tCons ta tNil) (tCons tk tNil)) σ H (nV (sortDown ns)) := fun H1 e Q q =>
  h H1 e _ fun p H2 hp e2 h2 => hk H2 (e.trans e2) H2 (Ex.refl H2) _ fun H3 e3 => ⟨p, ns.map fun n : Nat => (n : Int), rfl, rfl, by rw [← nV_int]; exact sq_of (e3 p _ h2), fun ns' p' hperm hord hp' => by
    obtain ⟨h5, h6⟩ := sorted_nat' hperm
    have ho : ns'.Pairwise (· ≥ ·) := hord
    have hge : (ns'.map Int.toNat).Pairwise (· ≥ ·) := by
      rw [h6, List.pairwise_map] at ho
      exact ho.imp fun z => by omega
    have e5 : ns'.map V.int = nV (sortDown ns) := by
      rw [← sortDown_unique h5 hge, nV_int, ← h6]
    rw [e5]
    exact q p' _ (fresh_back (e2.trans e3) hp') ((e2.trans e3).trans (Ex.new hp')) upd_same⟩
/-- a + b, a in a slot, b new -/
theorem el_cat {σ : L2.St} {H : Hp} {ta tb : TE} {l : Addr} {ns ms : List Nat} (ha : Ev ta σ H (.ref l)) (hl : H l = some (.lst (nV ns))) (hb : EvL tb σ H (nV ms)) (hz : ns.length + ms.length ≤ 100000) : EvL (tOp rCat ta tb) σ H (nV (ns ++ ms)) := fun H1 e Q q =>
  ha H1 e _ fun H2 e2 => hb H2 (e.trans e2) _ fun p H3 hp e3 h3 => ⟨l, p, nV ns, nV ms, rfl, rfl, ((e.trans e2).trans e3) l _ hl, h3, by rw [nV_length, nV_length]; exact sz_of hz, fun p' hp' => by
    rw [← nV_append]
    exact q p' _ (fresh_back (e2.trans e3) hp') ((e2.trans e3).trans (Ex.new hp')) upd_same⟩
abbrev N_with_row : List Str := ["rows", "fresh", "place", "changed", "row"]
theorem sc_with_row : FnScope N_with_row ["rows", "fresh"] (defScope s_with_row) := ⟨rfl, rfl, rfl, by decide +kernel, rfl, by decide +kernel, by decide +kernel⟩
theorem fx_with_row (D : Df K mg "with_row" s_with_row) (B : Bt mg)  : Fx P w K mg base 1 "with_row" ["rows", "fresh"] (sp_with_row K) := by
  refine D.fx (N := N_with_row) sc_with_row (fun vs H Q E h => by obtain ⟨_, _, _, rfl, _⟩ := h; rfl) (fun _ _ _ _ _ _ us hl => match us, hl with | [_, _], _ => rfl) (fun f cdv A outer s H vs Q E hr h => ⟨_, (pss_cons (ps_set (i := 2) sc_with_row.nd rfl (Or.inr rfl) (pe_op op_sub (pe_bits (pv 1)) pe_int)) (pss_cons (ps_setLc (i := 3) (own := [("row", 4)]) (g := gName 4) (tt := tYes) rfl sc_with_row.nd rfl rfl (sw_true rfl rfl rfl (by decide +kernel)) (pi_listK (K := K) rfl (pv 0)) (blkOk_by (sc := defScope s_with_row) (own := [("row", 4)]) (N := N_with_row) (by decide +kernel)) (fun _ _ _ _ _ => pg_name (i := 4) sc_with_row.nd rfl (Or.inl rfl)) (fun _ _ _ _ _ => pts_nil) (fun _ _ _ _ _ => (pe_ifExp (pt_truthK (K := K) rfl (pe_op op_and (pe_op op_shr (pv 4) (pv 2)) pe_int) (by intro _; rfl)) (pe_op op_xor (pv 4) (pv 1)) (pv 4)))) (pss_one (ps_ret (pe_callBK (cr_sortedRev (b := true)) rfl B.sorted (by decide +kernel) (pa_cons (pe_op op_cat (pv 3) (pe_lst (pa_cons (pv 1) pa_nil))) pa_nil) (pk_cons pe_bl pk_nil)))))), ?_⟩)
  obtain ⟨a, ns, x, rfl, ⟨hx, hl, hpos⟩, hQ⟩ := h
  refine q_asg (ev_top (ev_var rfl) (ev_n 1 rfl) hpos) fun H1 e1 => q_asgL (xs := nV (changed ns x)) ?_ fun L H2 hL e2 h2 => ?_
  · show EvL _ _ _ (nV (ns.map _))
    rw [← map_nV]
    refine el_lcY (φ := vN) (fun r => vN (if r.testBit x.log2 then r ^^^ x else r)) (ei_list (ev_var rfl) (ex_l e1 hx)) (by omega) (fun _ => rfl) fun r H' hr e => ?_
    exact ev_is (ev_ifV (et_bit (ev_var rfl) (ev_var rfl) (ev_n 1 rfl)) (fun _ => ev_op (ev_var rfl) (ev_var rfl) rv_xor) fun _ => ev_var rfl) (by
      by_cases h : r.testBit x.log2 = true
      · rw [if_pos h, if_pos h]
      · rw [if_neg h, if_neg h])
  · refine s_retL (el_sortDown (ns := changed ns x ++ [x]) (el_cat (ms := [x]) (ev_var rfl) h2 (el_lst (ea1 (ev_var rfl)) (by show 1 ≤ 100000; omega)) ?_) fun _ _ => ev_c) fun p H3 hp e3 h3 => hQ p H3 (fresh_back (e1.trans e2) hp) ((e1.trans e2).trans e3) h3
    unfold changed
    rw [List.length_map]
    show ns.length + 1 ≤ 100000
    omega
theorem red_len {rows : List Nat} {n : Nat} (h : Apart rows) (hl : Lt (2 ^ n) rows) : rows.length ≤ n := by
  have nd : (rows.map Nat.log2).Nodup := by
    show List.Pairwise (· ≠ ·) _
    rw [List.pairwise_map]
    refine List.Pairwise.imp_of_mem ?_ h.off
    intro r s hr hs q e
    have := top_bit (h.pos r hr)
    rw [e] at this
    rw [q.1] at this
    cases this
  have := length_lt nd (n := n) fun t ht => by
    obtain ⟨r, hr, rfl⟩ := List.mem_map.mp ht
    exact (Nat.log2_lt (h.pos r hr)).mpr (hl r hr)
  rwa [List.length_map] at this
theorem ev_off {σ : L2.St} {H : Hp} {ta : TA} {a : Addr} {ns : List Nat} {x : Nat} (h : EvA ta σ H [.ref a, vN x]) (hx : SqB K H a (nV ns)) (hr : Apart ns) (hlt : Lt (2 ^ 32) ns) (hw : x < 2 ^ 32) : Ev (tCall (sp_taken_off K) [] E0 ta) σ H (vN (takeOff ns x)) :=
  ev_f h fun H1 e1 Q q => ⟨a, ns, x, rfl, ⟨hx.mono e1, by have := red_len hr hlt; omega, hlt, hr.pos, hw⟩, q⟩
abbrev N_reduced_rows : List Str := ["words", "rows", "word", "fresh"]
theorem sc_reduced_rows : FnScope N_reduced_rows ["words"] (defScope s_reduced_rows) := ⟨rfl, rfl, rfl, by decide +kernel, rfl, by decide +kernel, by decide +kernel⟩
theorem fx_reduced_rows (D : Df K mg "reduced_rows" s_reduced_rows) (B : Bt mg) (F_check_words : Fx P w K mg base 3 "check_words" ["words"] (sp_check_words K)) (F_taken_off : Fx P w K mg base 1 "taken_off" ["rows", "word"] (sp_taken_off K)) (F_with_row : Fx P w K mg base 1 "with_row" ["rows", "fresh"] (sp_with_row K)) : Fx P w K mg base 4 "reduced_rows" ["words"] (sp_reduced_rows K) := by
  refine D.fx (N := N_reduced_rows) sc_reduced_rows (fun vs H Q E h => by obtain ⟨_, _, rfl, _⟩ := h; rfl) (fun _ _ _ _ _ _ us hl => match us, hl with | [_], _ => rfl) (fun f cdv A outer s H vs Q E hr h => ⟨_, (pss_cons (ps_set (i := 1) sc_reduced_rows.nd rfl (Or.inl rfl) (pe_lst pa_nil)) (pss_cons (ps_for PassesOwn.never rfl (pi_tupK (K := K) rfl (pe_f F_check_words hr rfl (by decide) (pa_cons (pv 0) pa_nil))) (pg_name (i := 2) sc_reduced_rows.nd rfl (Or.inl rfl)) (pss_cons (ps_set (i := 3) sc_reduced_rows.nd rfl (Or.inl rfl) (pe_f F_taken_off hr rfl (by decide) (pa_cons (pv 1) (pa_cons (pv 2) pa_nil)))) (pss_one (ps_if (pt_truthK (K := K) rfl (pv 3) (by intro _; rfl)) (pss_one (ps_set (i := 1) sc_reduced_rows.nd rfl (Or.inl rfl) (pe_f F_with_row hr rfl (by decide) (pa_cons (pv 1) (pa_cons (pv 3) pa_nil))))) pss_nil)))) (pss_one (ps_ret (pe_callTy call_tuple_of rfl B.tuple (by decide +kernel) (pa_cons (pv 1) pa_nil)))))), ?_⟩)
  obtain ⟨a, ns, rfl, ⟨hx, hl, hlt⟩, hQ⟩ := h
  refine q_asgL (xs := []) (el_lst ea_nil (by decide)) fun L H1 hL e1 h1 => ?_
  refine q_for (φ := vN) (l := ns) (ei_tupN (ett_f (ea1 (ev_var rfl)) fun H2 e2 Q q => ⟨a, ns, rfl, ⟨(hx.mono e1).mono e2, hl, hlt⟩, q⟩)) (fun pre σ' H' => ∃ R y z, σ' = [some (.ref a), some (.ref R), y, z] ∧ H' R = some (.lst (nV (pre.foldl redStep [])))) (fun H2 e2 => ⟨L, _, _, rfl, e2 L _ h1⟩) ?_ ?_
  · rintro Hb eb pre x post σ' H' el e ⟨R, y, z, rfl, hR⟩
    have hred := foldl_red pre [] red_nil
    have hpl : Lt (2 ^ 32) (pre.foldl redStep []) := fun r hr => by
      have hsp := (hred.2 r).mp (.one hr)
      rw [List.nil_append] at hsp
      exact hsp.lt fun u hu => hlt u (by rw [el]; exact List.mem_append.mpr (.inl hu))
    have hx1 := hlt x (mem_pre el)
    refine q_asg (ev_off (ea2 (ev_var rfl) (ev_var rfl)) (.inl (sq_of hR)) hred.1.toApart hpl hx1) fun H2 e2 => ?_
    have hf : (pre ++ [x]).foldl redStep [] = if takeOff (pre.foldl redStep []) x = 0 then pre.foldl redStep [] else withRow (pre.foldl redStep []) (takeOff (pre.foldl redStep []) x) := by
      rw [foldl_snoc]
      rfl
    refine s_when (et_truK (ev_var rfl)) (fun hb H3 e3 => s_asgL (el_f (ea2 (ev_var rfl) (ev_var rfl)) fun H4 e4 Q q => ⟨R, pre.foldl redStep [], _, rfl, ⟨sq_of ((e2.trans (e3.trans e4)) R _ hR), red_len hred.1.toApart hpl, of_decide_eq_true hb⟩, q⟩) fun R2 H4 hR2 e4 h4 => ⟨((e.trans e2).trans e3).trans e4, R2, _, _, rfl, ?_⟩) (fun hb H3 e3 => ⟨(e.trans e2).trans e3, R, _, _, rfl, ?_⟩)
    · rw [hf, if_neg (of_decide_eq_true hb)]
      exact h4
    · rw [hf, if_pos (Classical.byContradiction fun z => by rw [decide_eq_true z] at hb; cases hb)]
      exact (e2.trans e3) R _ hR
  · rintro σ' H' e ⟨R, y, z, rfl, hR⟩
    exact s_retT (ett_tupB (ev_var rfl) (.inl (sq_of hR))) fun p H3 e3 h3 => hQ p H3 ((e1.trans e).trans e3) h3
theorem ett_reduced {σ : L2.St} {H : Hp} {ta : TA} {a : Addr} {ns : List Nat} (h : EvA ta σ H [.ref a]) (hx : SqB K H a (nV ns)) (hl : ns.length ≤ 1000) (hlt : Lt (2 ^ 32) ns) : EvT' (tCall (sp_reduced_rows K) [] E0 ta) σ H (nV (reduced ns)) :=
  ett_f h fun H1 e1 Q q => ⟨a, ns, rfl, ⟨hx.mono e1, hl, hlt⟩, q⟩
abbrev N_remainder_of : List Str := ["words", "word", "rows"]
theorem sc_remainder_of : FnScope N_remainder_of ["words", "word"] (defScope s_remainder_of) := ⟨rfl, rfl, rfl, by decide +kernel, rfl, by decide +kernel, by decide +kernel⟩
theorem fx_remainder_of (D : Df K mg "remainder_of" s_remainder_of) (B : Bt mg) (F_reduced_rows : Fx P w K mg base 4 "reduced_rows" ["words"] (sp_reduced_rows K)) (F_taken_off : Fx P w K mg base 1 "taken_off" ["rows", "word"] (sp_taken_off K)) (F_check_single : Fx P w K mg base 2 "check_single" ["word"] sp_check_single) : Fx P w K mg base 5 "remainder_of" ["words", "word"] (sp_remainder_of K) := by
  refine D.fx (N := N_remainder_of) sc_remainder_of (fun vs H Q E h => by obtain ⟨_, _, _, rfl, _⟩ := h; rfl) (fun _ _ _ _ _ _ us hl => match us, hl with | [_, _], _ => rfl) (fun f cdv A outer s H vs Q E hr h => ⟨_, (pss_cons (ps_set (i := 2) sc_remainder_of.nd rfl (Or.inl rfl) (pe_f F_reduced_rows hr rfl (by decide) (pa_cons (pv 0) pa_nil))) (pss_one (ps_ret (pe_f F_taken_off hr rfl (by decide) (pa_cons (pv 2) (pa_cons (pe_f F_check_single hr rfl (by decide) (pa_cons (pv 1) pa_nil)) pa_nil)))))), ?_⟩)
  obtain ⟨a, ns, x, rfl, ⟨hx, hl, hlt, hw⟩, hQ⟩ := h
  refine q_asgT (ett_reduced (ea1 (ev_var rfl)) hx hl hlt) fun p H1 e1 h1 => s_ret (ev_off (ea2 (ev_var rfl) (ev_f (ea1 (ev_var rfl)) fun H2 e2 Q q => ⟨x, rfl, hw, q⟩)) (.inr h1) (reduced_red ns).toApart (reduced_lt hlt) hw) fun H2 e2 => hQ H2 (e1.trans e2)
abbrev N_in_span : List Str := ["words", "word"]
theorem sc_in_span : FnScope N_in_span ["words", "word"] (defScope s_in_span) := ⟨rfl, rfl, rfl, by decide +kernel, rfl, by decide +kernel, by decide +kernel⟩
theorem fx_in_span (D : Df K mg "in_span" s_in_span) (B : Bt mg) (F_remainder_of : Fx P w K mg base 5 "remainder_of" ["words", "word"] (sp_remainder_of K)) : Fx P w K mg base 6 "in_span" ["words", "word"] (sp_in_span K) := by
  refine D.fx (N := N_in_span) sc_in_span (fun vs H Q E h => by obtain ⟨_, _, _, rfl, _⟩ := h; rfl) (fun _ _ _ _ _ _ us hl => match us, hl with | [_, _], _ => rfl) (fun f cdv A outer s H vs Q E hr h => ⟨_, (pss_one (ps_ret (pe_cmpR op_eq (pe_f F_remainder_of hr rfl (by decide) (pa_cons (pv 0) (pa_cons (pv 1) pa_nil))) pe_int (nomark _)))), ?_⟩)
  obtain ⟨a, ns, x, rfl, ⟨hx, hl, hlt, hw⟩, hQ⟩ := h
  exact s_ret (ev_op (ev_f (ea2 (ev_var rfl) (ev_var rfl)) fun H2 e2 Q q => ⟨a, ns, x, rfl, ⟨hx.mono e2, hl, hlt, hw⟩, q⟩) (ev_n 0 rfl) rv_eqN) hQ
theorem full_top : ∀ m, m < 6 → (full m).log2 + 1 = 2 ^ m ∧ full m ≠ 0 := by decide +kernel
abbrev N_even_rows : List Str := ["letters", "words", "rows", "tops", "row", "found", "place", "word", "at"]
theorem sc_even_rows : FnScope N_even_rows ["letters", "words"] (defScope s_even_rows) := ⟨rfl, rfl, rfl, by decide +kernel, rfl, by decide +kernel, by decide +kernel⟩
theorem fx_even_rows (D : Df K mg "even_rows" s_even_rows) (B : Bt mg) (F_check_letters : Fx P w K mg base 2 "check_letters" ["letters"] sp_check_letters) (F_reduced_rows : Fx P w K mg base 4 "reduced_rows" ["words"] (sp_reduced_rows K)) (F_check_below : Fx P w K mg base 2 "check_below" ["words", "greatest"] (sp_check_below K)) (F_full_word : Fx P w K mg base 3 "full_word" ["letters"] sp_full_word) : Fx P w K mg base 5 "even_rows" ["letters", "words"] (sp_even_rows K) := by
  refine D.fx (N := N_even_rows) sc_even_rows (fun vs H Q E h => by obtain ⟨_, _, _, rfl, _⟩ := h; rfl) (fun _ _ _ _ _ _ us hl => match us, hl with | [_, _], _ => rfl) (fun f cdv A outer s H vs Q E hr h => ⟨_, (pss_cons (ps_expr (pe_f F_check_letters hr rfl (by decide) (pa_cons (pv 0) pa_nil))) (pss_cons (ps_set (i := 2) sc_even_rows.nd rfl (Or.inl rfl) (pe_f F_reduced_rows hr rfl (by decide) (pa_cons (pe_f F_check_below hr rfl (by decide) (pa_cons (pv 1) (pa_cons (pe_f F_full_word hr rfl (by decide) (pa_cons (pv 0) pa_nil)) pa_nil))) pa_nil))) (pss_cons (ps_setLc (i := 3) (own := [("row", 4)]) (g := gName 4) (tt := tYes) rfl sc_even_rows.nd rfl rfl (sw_true rfl rfl rfl (by decide +kernel)) (pi_tupK (K := K) rfl (pv 2)) (blkOk_by (sc := defScope s_even_rows) (own := [("row", 4)]) (N := N_even_rows) (by decide +kernel)) (fun _ _ _ _ _ => pg_name (i := 4) sc_even_rows.nd rfl (Or.inl rfl)) (fun _ _ _ _ _ => pts_nil) (fun _ _ _ _ _ => (pe_op op_sub (pe_bits (pv 4)) pe_int))) (pss_cons (ps_set (i := 5) sc_even_rows.nd rfl (Or.inl rfl) (pe_lst pa_nil)) (pss_cons (ps_for PassesOwn.never rfl (pi_range1 rfl B.range (pa_cons (pe_bits (pe_f F_full_word hr rfl (by decide) (pa_cons (pv 0) pa_nil))) pa_nil)) (pg_name (i := 6) sc_even_rows.nd rfl (Or.inl rfl)) (pss_one (ps_if (pt_cmpR (op_notInK (K := K) rfl) (pv 6) (pv 3) (by with_unfolding_all rfl)) (pss_cons (ps_set (i := 7) sc_even_rows.nd rfl (Or.inl rfl) (pe_op op_shl pe_int (pv 6))) (pss_cons (ps_for PassesOwn.never rfl (pi_enumT rfl B.enumerate (pa_cons (pv 2) pa_nil)) (pg_tup rfl (pgs_cons (pg_name (i := 8) sc_even_rows.nd rfl (Or.inl rfl)) (pgs_cons (pg_name (i := 4) sc_even_rows.nd rfl (Or.inl rfl)) pgs_nil))) (pss_one (ps_if (pt_truthK (K := K) rfl (pe_op op_and (pe_op op_shr (pv 4) (pv 6)) pe_int) (by intro _; rfl)) (pss_one (ps_set (i := 7) sc_even_rows.nd rfl (Or.inl rfl) (pe_op op_or (pv 7) (pe_op op_shl pe_int (pe_ix (ix_listK (K := K) rfl) (pv 3) (pv 8) (fun _ _ => rfl)))))) pss_nil))) (pss_one (ps_expr (pe_bm PySem.F.plainAttrs_list PySem.F.slot_list_append PySem.F.type_list_append mt_append (pv 5) (pa_cons (pv 7) pa_nil)))))) pss_nil))) (pss_one (ps_ret (pe_f F_reduced_rows hr rfl (by decide) (pa_cons (pv 5) pa_nil))))))))), ?_⟩)
  obtain ⟨m, a, ns, rfl, ⟨hm, hx, hl, hlt⟩, hQ⟩ := h
  have hs := shl_le hm
  have h32 : Lt (2 ^ 32) ns := fun x hx => word32 hm (hlt x hx)
  have hred := (reduced_red ns).toApart
  have hrlt := reduced_lt hlt
  refine q_drop (ev_letters (ea1 (ev_var rfl)) hm) fun H1 e1 => ?_
  refine q_asgT (ett_f1 (ett_f (ea2 (ev_var rfl) (ev_full (ea1 (ev_var rfl)) hm)) fun H2 e2 Q q => ⟨a, ns, full m, rfl, ⟨.inl (ex_l (e1.trans e2) hx), hl, fun x hx => le_full (hlt x hx)⟩, q⟩) fun p H2 e2 h2 Q q => ⟨p, ns, rfl, ⟨.inr h2, hl, h32⟩, q⟩) fun R H2 e2 hR => ?_
  have hlen := red_len hred hrlt
  refine q_asgL (xs := nV ((reduced ns).map Nat.log2)) ?_ fun Tp H3 hTp e3 hTp' => ?_
  · rw [← map_nV]
    exact el_lcY (φ := vN) (fun r => vN r.log2) (ei_tup (ev_var rfl) (st_of hR)) (by omega) (fun _ => rfl) fun r H' hr e => ev_top (ev_var rfl) (ev_n 1 rfl) (hred.pos r hr)
  refine q_asgL (xs := []) (el_lst ea_nil (by decide)) fun L H4 hL e4 h4 => ?_
  have hR3 : H3 R = some (.tup (nV (reduced ns))) := e3 R _ hR
  have hft := full_top m (by omega)
  let F : Nat → Bool := fun q => !((reduced ns).map Nat.log2).contains q
  refine q_forB (H0 := H3) (φ := vN) (l := List.range (2 ^ m)) e4 (eb_rng (ea1 (ev_is (ev_bits (ev_full (ea1 (ev_var rfl)) hm) hft.2) (by rw [hft.1]))) (by omega)) (fun pre σ' H' => (∃ u x y z, σ' = [some (vN m), some (.ref a), some (.ref R), some (.ref Tp), u, some (.ref L), x, y, z]) ∧ H' L = some (.lst (nV ((pre.filter F).map (evenWord (reduced ns)))))) (fun H5 e5 => ⟨⟨_, _, _, _, rfl⟩, e5 L _ h4⟩) ?_ ?_
  · rintro pre q post σ' H' el e ⟨⟨u, x, y, z, rfl⟩, hL'⟩
    have hq := List.mem_range.mp (mem_pre el)
    have hplen : pre.length ≤ 32 := by
      have := congrArg List.length el
      rw [List.length_range, List.length_append] at this
      omega
    have hF : (if true = true then !decide (q ∈ (reduced ns).map Nat.log2) else decide (q ∈ (reduced ns).map Nat.log2)) = F q := by
      show (!decide _) = !_
      congr 1
      exact dec_is List.contains_iff_mem.symm
    refine s_when (b := F q) (et_is (et_test (ev_op (ev_var rfl) (ev_var rfl) (rv_inSet (K := K) (neg := true) (.inl (sq_of (e Tp _ hTp')))))) hF) (fun hb H5 e5 => ?_) (fun hb H5 e5 => ⟨e.trans e5, ⟨_, _, _, _, rfl⟩, ?_⟩)
    · refine q_asg (ev_op (ev_n 1 rfl) (ev_var rfl) (rv_shl (by decide) (by omega))) fun H6 e6 => ?_
      have ex := (e.trans e5).trans e6
      have hL6 := (e5.trans e6) L _ hL'
      refine q_forE (φ := vN) (l := reduced ns) (ee_tup (ea1 (ev_var rfl)) (st_of (ex R _ hR3))) (fun pre2 σ' _ => ∃ u z, σ' = [some (vN m), some (.ref a), some (.ref R), some (.ref Tp), u, some (.ref L), some (vN q), some (vN (pre2.foldl (fun w r => if r.testBit q then w ||| (1 <<< r.log2) else w) (1 <<< q))), z]) (fun _ _ _ _ _ q => q) (fun H1 e1 => ⟨_, _, rfl⟩) ?_ ?_
      · rintro Hb2 eb2 pre2 r post2 σ' H7 el2 e7 ⟨u2, z2, rfl⟩
        have hr := mem_pre el2
        have hr31 : r.log2 ≤ 1000000 := by
          have := (Nat.log2_lt (hred.pos r hr)).mpr (hrlt r hr)
          omega
        have hat : (nV ((reduced ns).map Nat.log2))[pre2.length]? = some (vN r.log2) := by
          show (((reduced ns).map Nat.log2).map vN)[pre2.length]? = _
          rw [List.getElem?_map, List.getElem?_map, el2, List.getElem?_append_right (Nat.le_refl _), Nat.sub_self]
          rfl
        refine s_when (et_bit (ev_var rfl) (ev_var rfl) (ev_n 1 rfl)) (fun hb2 H8 e8 => s_asg (ev_op (ev_var rfl) (ev_op (ev_n 1 rfl) (ev_op (ev_var rfl) (ev_var rfl) (rv_ixL (sq_of (((ex.trans eb2).trans (e7.trans e8)) Tp _ hTp')) (atI_nat hat))) (rv_shl (by decide) hr31)) rv_or) fun H9 e9 => ⟨(e7.trans e8).trans e9, some (vN r), some (vN pre2.length), ?_⟩) (fun hb2 H8 e8 => ⟨e7.trans e8, some (vN r), some (vN pre2.length), ?_⟩)
        · rw [foldl_snoc, if_pos hb2]
          rfl
        · rw [foldl_snoc, if_neg (by rw [hb2]; decide)]
          rfl
      · rintro σ' H7 e7 ⟨u2, z2, rfl⟩
        refine s_app (e7 L _ hL6) (ev_var rfl) (ev_var rfl) ?_ fun H8 e8 => ⟨Ex.mut ((ex.trans e7).trans e8) hL, ⟨_, _, _, _, rfl⟩, ?_⟩
        · rw [nV_length, List.length_map]
          have := List.length_filter_le F pre
          omega
        · rw [upd_same, List.filter_append, List.filter_cons, if_pos hb, List.map_append, nV_append]
          rfl
    · rw [e5 L _ hL', List.filter_append, List.filter_cons, if_neg (by rw [hb]; decide), List.filter_nil, List.append_nil]
  · rintro σ' H' e ⟨⟨u, x, y, z, rfl⟩, hL'⟩
    refine s_retT (ett_reduced (ea1 (ev_var rfl)) (.inl (sq_of hL')) ?_ ?_) fun p H5 e5 h5 => hQ p H5 ((((e1.trans e2).trans e3).trans e).trans e5) h5
    · rw [List.length_map]
      have := List.length_filter_le F (List.range (2 ^ m))
      rw [List.length_range] at this
      omega
    · exact fun x hx => word32 hm (evenFound_lt hrlt hred.pos x hx)
end
end KW

/-! rests.py -/
namespace KW
open PySem PySem.Spec PyProof.Rows L2 Evl K64
section
variable {P : Program} {w : World} {K : PySem.W.Frag} {mg : Str → Option Value} {base : Heap} {C CA : Addr}
theorem ett_f2L {σ : L2.St} {H : Hp} {ta tb : TE} {x : V} {xs ys : List V} {sp : L2.Sp} (ha : Ev ta σ H x) (hb : EvL tb σ H xs) (hs : ∀ p H1, Ex H H1 → H1 p = some (.lst xs) → ∀ Q : VK, RetT ys H1 Q → sp [x, .ref p] H1 Q E0) : EvT' (tCall sp [] E0 (tCons ta (tCons tb tNil))) σ H ys := fun H1 e Q q =>
  ha H1 e _ fun H2 e2 => hb H2 (e.trans e2) _ fun p H3 hp e3 h3 => hs p H3 ((e.trans e2).trans e3) h3 Q fun v H4 e4 h4 => q v H4 ((e2.trans e3).trans e4) h4
abbrev N_Against_init : List Str := ["self", "row"]
theorem sc_Against_init : FnScope N_Against_init ["self", "row"] (defScope s_Against_init) := ⟨rfl, rfl, rfl, by decide +kernel, rfl, by decide +kernel, by decide +kernel⟩
theorem fx_Against_init (D : Di K CA "Against.__init__" s_Against_init) (hmg : mg "Against" = some (.ref CA)) (B : Bt mg)  (hA : Cls K CA ∧ NoAttr K CA "row") : Mx P w K mg base 1 "Against" CA ["self", "row"] (sp_ainit CA) := by
  refine D.mx (N := N_Against_init) hmg sc_Against_init (fun vs H Q E h => by obtain ⟨_, _, _, _, rfl, _⟩ := h; rfl) (fun _ _ _ _ _ _ us hl => match us, hl with | [_, _], _ => rfl) (fun f cdv A outer s H vs Q E hr h => ⟨_, (pss_one (ps_fld (pv 0) (pv 1) rfl)), ?_⟩)
  obtain ⟨a, x, H0, dx, rfl, ⟨h0, rfl⟩, hQ⟩ := h
  exact s_setF hA.1 hA.2 (ev_var rfl) (ev_var rfl) upd_same (by decide) fun H1 e1 => hQ _ (Ex.mut ((Ex.new h0).trans e1) h0)
abbrev N_code_rows : List Str := ["choice", "heap"]
theorem sc_code_rows : FnScope N_code_rows ["choice"] (defScope s_code_rows) := ⟨rfl, rfl, rfl, by decide +kernel, rfl, by decide +kernel, by decide +kernel⟩
theorem fx_code_rows (D : Df K mg "code_rows" s_code_rows) (B : Bt mg) (F_heap_word : Fx P w K mg base 5 "heap_word" ["letters", "heap"] sp_heap_word) (hC : CH K mg C) : Fx P w K mg base 6 "code_rows" ["choice"] (sp_code_rows C) := by
  refine D.fx (N := N_code_rows) sc_code_rows (fun vs H Q E h => by obtain ⟨_, _, _, rfl, _⟩ := h; rfl) (fun _ _ _ _ _ _ us hl => match us, hl with | [_], _ => rfl) (fun f cdv A outer s H vs Q E hr h => ⟨_, (pss_one (ps_ret (pe_lc (own := [("heap", 1)]) (g := gName 1) (tt := tYes) rfl sc_code_rows.nd (pi_tupK (K := K) rfl (pe_fldK (K := K) rfl (pv 0) rfl)) (blkOk_by (sc := defScope s_code_rows) (own := [("heap", 1)]) (N := N_code_rows) (by decide +kernel)) (fun _ _ _ _ _ => pg_name (i := 1) sc_code_rows.nd rfl (Or.inl rfl)) (fun _ _ _ _ _ => pts_nil) (fun _ _ _ _ _ => (pe_f F_heap_word hr rfl (by decide) (pa_cons (pe_fldK (K := K) rfl (pv 0) rfl) (pa_cons (pv 1) pa_nil))))))), ?_⟩)
  obtain ⟨a, m, p, rfl, c, hQ⟩ := h
  have hm := c.1
  refine s_retL (xs := nV (codeRows m p)) ?_ hQ
  show EvL _ _ _ (nV ((heaps m p).map (mon m)))
  rw [← map_nV]
  exact el_lcY (φ := vN) (fun x => vN (mon m x)) (ei_heaps hC (ev_var rfl) c) (by have := heaps_len60 hm p; omega) (fun _ => rfl) fun x H' hx e => ev_mon (ea2 (ev_letters_of hC (ev_var rfl) (c.mono e)) (ev_var rfl)) hm (mem_heaps.mp hx).1
abbrev N_rest_rows : List Str := ["choice"]
theorem sc_rest_rows : FnScope N_rest_rows ["choice"] (defScope s_rest_rows) := ⟨rfl, rfl, rfl, by decide +kernel, rfl, by decide +kernel, by decide +kernel⟩
theorem fx_rest_rows (D : Df K mg "rest_rows" s_rest_rows) (B : Bt mg) (F_even_rows : Fx P w K mg base 5 "even_rows" ["letters", "words"] (sp_even_rows K)) (F_code_rows : Fx P w K mg base 6 "code_rows" ["choice"] (sp_code_rows C)) (hC : CH K mg C) : Fx P w K mg base 7 "rest_rows" ["choice"] (sp_rest_rows C) := by
  refine D.fx (N := N_rest_rows) sc_rest_rows (fun vs H Q E h => by obtain ⟨_, _, _, rfl, _⟩ := h; rfl) (fun _ _ _ _ _ _ us hl => match us, hl with | [_], _ => rfl) (fun f cdv A outer s H vs Q E hr h => ⟨_, (pss_one (ps_ret (pe_f F_even_rows hr rfl (by decide) (pa_cons (pe_fldK (K := K) rfl (pv 0) rfl) (pa_cons (pe_f F_code_rows hr rfl (by decide) (pa_cons (pv 0) pa_nil)) pa_nil))))), ?_⟩)
  obtain ⟨a, m, p, rfl, c, hQ⟩ := h
  have hm := c.1
  refine s_retT (ett_f2L (xs := nV (codeRows m p)) (ev_letters_of hC (ev_var rfl) c) (el_f (ea1 (ev_var rfl)) fun H1 e1 Q q => ⟨a, m, p, rfl, c.mono e1, q⟩) fun l H1 e1 h1 Q q => ⟨m, l, codeRows m p, rfl, ⟨hm, sq_of h1, ?_, codeRows_lt⟩, q⟩) hQ
  unfold codeRows
  rw [List.length_map]
  have := heaps_len60 hm p
  omega
abbrev N_rest_of : List Str := ["choice", "letters", "found", "heap"]
theorem sc_rest_of : FnScope N_rest_of ["choice"] (defScope s_rest_of) := ⟨rfl, rfl, rfl, by decide +kernel, rfl, by decide +kernel, by decide +kernel⟩
theorem fx_rest_of (D : Df K mg "rest_of" s_rest_of) (B : Bt mg) (F_check_closed : Fx P w K mg base 6 "check_closed" ["choice"] (sp_check_closed C)) (F_all_heaps : Fx P w K mg base 3 "all_heaps" ["letters"] sp_all_heaps) (F_complement_of : Fx P w K mg base 4 "complement_of" ["letters", "heap"] sp_complement_of) (F_Choice : Mx P w K mg base 5 "Choice" C ["self", "letters", "heaps"] (sp_init K C)) (F_contains : Ox P w K mg base 2 C "__contains__" ["self", "heap"] (sp_contains C)) (hC : CH K mg C) : Fx P w K mg base 7 "rest_of" ["choice"] (sp_rest_of C) := by
  refine D.fx (N := N_rest_of) sc_rest_of (fun vs H Q E h => by obtain ⟨_, _, _, rfl, _⟩ := h; rfl) (fun _ _ _ _ _ _ us hl => match us, hl with | [_], _ => rfl) (fun f cdv A outer s H vs Q E hr h => ⟨_, (pss_cons (ps_expr (pe_f F_check_closed hr rfl (by decide) (pa_cons (pv 0) pa_nil))) (pss_cons (ps_set (i := 1) sc_rest_of.nd rfl (Or.inr rfl) (pe_fldK (K := K) rfl (pv 0) rfl)) (pss_cons (ps_setLc (i := 2) (own := [("heap", 3)]) (g := gName 3) rfl sc_rest_of.nd rfl rfl (sw_true rfl rfl rfl (by decide +kernel)) (pi_tupK (K := K) rfl (pe_f F_all_heaps hr rfl (by decide) (pa_cons (pv 1) pa_nil))) (blkOk_by (sc := defScope s_rest_of) (own := [("heap", 3)]) (N := N_rest_of) (by decide +kernel)) (fun _ _ _ _ _ => pg_name (i := 3) sc_rest_of.nd rfl (Or.inl rfl)) (fun _ _ _ _ _ => pts_one (pt_cmpR (own_notin F_contains hr (by decide)) (pe_f F_complement_of hr rfl (by decide) (pa_cons (pv 1) (pa_cons (pv 3) pa_nil))) (pv 0) (by with_unfolding_all rfl))) (fun _ _ _ _ _ => (pv 3))) (pss_one (ps_ret (pe_mk F_Choice hr rfl (by decide) (pa_cons (pv 1) (pa_cons (pv 2) pa_nil)))))))), ?_⟩)
  obtain ⟨a, m, p, rfl, ⟨c, hc⟩, hQ⟩ := h
  have hm := c.1
  have hs := shl_le hm
  refine q_drop (ev_closed (ea1 (ev_var rfl)) c hc) fun H1 e1 => q_asg (ev_letters_of hC (ev_var rfl) (c.mono e1)) fun H2 e2 => ?_
  have c2 := c.mono (e1.trans e2)
  refine q_asgL (xs := nV ((List.range (2 ^ m)).filter (restP m p))) ?_ fun L H3 hL e3 h3 => ?_
  · exact el_lc (φ := vN) (restP m p) vN (ei_tupN (ett_f (ea1 (ev_var rfl)) fun H3 e3 Q q => ⟨m, rfl, hm, q⟩)) (by rw [List.length_range]; omega) (fun _ => rfl) (fun x H' hx e => et_test (ev_notinOwn (ev_f (ea2 (ev_var rfl) (ev_var rfl)) fun H3 e3 Q q => ⟨m, x, rfl, ⟨hm, List.mem_range.mp hx⟩, q⟩) (ev_var rfl) (c2.mono e) (comp_lt (List.mem_range.mp hx)))) fun x H' hx e _ => ev_var rfl
  · exact s_retP (ep_mk (ns := (List.range (2 ^ m)).filter (restP m p)) (ev_var rfl) (ev_var rfl) hm (filter_le60 hm _) (filter_lt m _) (sq_of h3)) fun v H4 e4 hv => hQ v H4 (((e1.trans e2).trans e3).trans e4) (hv.congr fun x hx => heaps_range m _ hx)
abbrev N_meets_rest : List Str := ["choice", "word", "row"]
theorem sc_meets_rest : FnScope N_meets_rest ["choice", "word"] (defScope s_meets_rest) := ⟨rfl, rfl, rfl, by decide +kernel, rfl, by decide +kernel, by decide +kernel⟩
theorem fx_meets_rest (D : Df K mg "meets_rest" s_meets_rest) (B : Bt mg) (F_check_word : Fx P w K mg base 4 "check_word" ["letters", "word"] sp_check_word) (F_rest_rows : Fx P w K mg base 7 "rest_rows" ["choice"] (sp_rest_rows C)) (F_meets_evenly : Fx P w K mg base 5 "meets_evenly" ["letters", "word", "other"] sp_meets_evenly) (F_Against : Mx P w K mg base 1 "Against" CA ["self", "row"] (sp_ainit CA)) (hC : CH K mg C) : Fx P w K mg base 8 "meets_rest" ["choice", "word"] (sp_meets_rest C) := by
  refine D.fx (N := N_meets_rest) sc_meets_rest (fun vs H Q E h => by obtain ⟨_, _, _, _, rfl, _⟩ := h; rfl) (fun _ _ _ _ _ _ us hl => match us, hl with | [_, _], _ => rfl) (fun f cdv A outer s H vs Q E hr h => ⟨_, (pss_cons (ps_expr (pe_f F_check_word hr rfl (by decide) (pa_cons (pe_fldK (K := K) rfl (pv 0) rfl) (pa_cons (pv 1) pa_nil)))) (pss_cons (ps_for PassesOwn.never rfl (pi_tupK (K := K) rfl (pe_f F_rest_rows hr rfl (by decide) (pa_cons (pv 0) pa_nil))) (pg_name (i := 2) sc_meets_rest.nd rfl (Or.inl rfl)) (pss_one (ps_if (pt_not (pt_val (pe_f F_meets_evenly hr rfl (by decide) (pa_cons (pe_fldK (K := K) rfl (pv 0) rfl) (pa_cons (pv 2) (pa_cons (pv 1) pa_nil)))))) (pss_one (ps_ret (pe_mk F_Against hr rfl (by decide) (pa_cons (pv 2) pa_nil)))) pss_nil))) (pss_one (ps_ret pe_non)))), ?_⟩)
  obtain ⟨a, x, m, p, rfl, ⟨c, hx⟩, hQ⟩ := h
  have hm := c.1
  refine q_drop (ev_word (ea2 (ev_letters_of hC (ev_var rfl) c) (ev_var rfl)) hm hx) fun H1 e1 => ?_
  have c1 := c.mono e1
  have hiff := rest_rows_iff (p := p) (by omega : m < 6) hx
  refine q_for (φ := vN) (l := evenRows m (codeRows m p)) (ei_tupN (ett_f (ea1 (ev_var rfl)) fun H2 e2 Q q => ⟨a, m, p, rfl, c1.mono e2, q⟩)) (fun pre σ' _ => (∃ z, σ' = [some (.ref a), some (vN x), z]) ∧ ∀ r ∈ pre, dot r x = false) (fun H1 e1 => ⟨⟨_, rfl⟩, fun i hi => nomatch hi⟩) ?_ ?_
  · rintro Hb eb pre r post σ' H' el e ⟨⟨z, rfl⟩, hp⟩
    have hr := mem_pre el
    have ex := eb.trans e
    refine s_when (et_not (et_B (ev_meets (ea3 (ev_letters_of hC (ev_var rfl) (c1.mono ex)) (ev_var rfl) (ev_var rfl)) hm (evenRows_lt codeRows_lt r hr) hx))) (fun hb H3 e3 => ?_) (fun hb H3 e3 => ⟨e.trans e3, ⟨_, rfl⟩, fun j hj => ?_⟩)
    · refine s_retP (P := fun v _ => ∃ u, v = .ref u) (fun H1 e1 Q k => ?_) fun v H5 e5 hv => hQ v H5 (((e1.trans ex).trans e3).trans e5) ⟨fun z => ?_, fun z => ?_⟩
      · refine ⟨_, rfl, fun u dx h1 h2 h3 => ⟨u, r, upd H1 dx (.own u), dx, rfl, ⟨by rw [upd_ne (Ne.symm h3)]; exact h1, rfl⟩, fun H2 e2 => ⟨rfl, k _ H2 ((Ex.new h2).trans e2) ⟨u, rfl⟩⟩⟩⟩
      · obtain ⟨u, rfl⟩ := hv
        cases z
      · have := hiff.mpr z r hr
        rw [this] at hb
        cases hb
    · rcases List.mem_append.mp hj with hj | hj
      · exact hp j hj
      · rw [List.mem_singleton.mp hj]
        cases hd : dot r x with
        | false => rfl
        | true => rw [hd] at hb; cases hb
  · rintro σ' H' e ⟨⟨z, rfl⟩, hp⟩
    exact s_ret ev_c fun H3 e3 => hQ _ H3 ((e1.trans e).trans e3) ⟨fun _ => hiff.mp hp, fun _ => rfl⟩
end
end KW

/-! The drawn hand: a list that draws change, tracked by what stays true of it. -/
namespace KW
open PySem PySem.Spec PyProof.Rows L2 Evl K64

def handV (c : Addr) (i r t : Nat) : List V := [.ref c, vN i, vN r, vN t]
/-- the hand at a: its cells at c, where it is, the rest, the total -/
def HandO (c a : Addr) : HO := .ext fun h => ∃ (i r t : Nat) (its : List Value) (n : Nat), (i ≤ 63 ∧ t < 2147483629) ∧ Vals (handV c i r t) its ∧ h.get? a = some { cls := .type "list", data := .seq its.toArray n }
theorem hand_of {P : Program} {w : World} {H H' : Hp} {h : Heap} {c a : Addr} {i r t : Nat} (hb : i ≤ 63 ∧ t < 2147483629) (k : ObjOk P w H h a (.lst (handV c i r t))) : ObjOk P w H' h a (HandO c a) := by
  obtain ⟨_, its, n, rv, e⟩ := k
  refine ⟨⟨i, r, t, its, n, hb, rv, e⟩, ⟨_, e⟩, fun h1 h2 q k => ?_⟩
  obtain ⟨i, r, t, its, n, hb, rv, e⟩ := q
  exact ⟨i, r, t, its, n, hb, rv, k _ e⟩
theorem hand_lst {P : Program} {w : World} {H H' : Hp} {h : Heap} {c a : Addr} (k : ObjOk P w H h a (HandO c a)) : ∃ i r t : Nat, (i ≤ 63 ∧ t < 2147483629) ∧ ObjOk P w H' h a (.lst (handV c i r t)) := by
  obtain ⟨⟨i, r, t, its, n, hb, rv, e⟩, _, _⟩ := k
  exact ⟨i, r, t, hb, by show 4 ≤ sizeLine; decide, its, n, rv, e⟩

theorem lst_at {P : Program} {w : World} {H : Hp} {h : Heap} {a : Addr} {xs : List V} (k : ObjOk P w H h a (.lst xs)) : ∃ u, h.get? a = some u := by
  obtain ⟨_, its, n, rv, e⟩ := k
  exact ⟨_, e⟩
/-! ### promises -/
def sp__law_mix : L2.Sp := fun vs H Q _ => ∃ n u : Nat, vs = [vN n, vN u] ∧ (n < 2147483647 ∧ u ≤ 64) ∧ RetP (fun v _ => ∃ k : Nat, v = vN k) H Q
/-- the hand in the open -/
def sp__law_draw0 : L2.Sp := fun vs H Q _ => ∃ (a c : Addr) (many i r t : Nat) (cs : List Nat), vs = [.ref a, vN many] ∧ ((1 ≤ many ∧ many ≤ 1000) ∧ (i ≤ 63 ∧ t < 2147483629) ∧ H a = some (.lst (handV c i r t)) ∧ H c = some (.lst (nV cs)) ∧ cs.length ≤ 63) ∧
  ∀ (k i' r' t' : Nat) H2, k < many → (i' ≤ 63 ∧ t' < 2147483629) → Ex (cutH H a) H2 → H2 a = some (.lst (handV c i' r' t')) → Q (vN k) H2
/-- a hand that stands in H -/
def HandAt (H : Hp) (a : Addr) : Prop := ∃ (c : Addr) (cs : List Nat), H a = some (HandO c a) ∧ H c = some (.lst (nV cs)) ∧ cs.length ≤ 63
theorem HandAt.mono {H H' : Hp} {a : Addr} (e : Ex H H') (h : HandAt H a) : HandAt H' a := by
  obtain ⟨c, cs, h1, h2, h3⟩ := h
  exact ⟨c, cs, e a _ h1, e c _ h2, h3⟩
def IsN (P : Nat → Prop) : VP := fun v _ => ∃ k : Nat, v = vN k ∧ P k
def sp__law_draw : L2.Sp := fun vs H Q _ => ∃ (a : Addr) (many : Nat), vs = [.ref a, vN many] ∧ ((1 ≤ many ∧ many ≤ 1000) ∧ HandAt H a) ∧ RetP (IsN fun k => k < many) H Q
def sp__law_hand0 (K : PySem.W.Frag) : L2.Sp := fun vs H Q _ => ∃ (s : Addr) (ns : List Int), vs = [.ref s] ∧ (SqL K H s (ns.map V.int) ∧ ns.length ≤ 63) ∧
  ∀ (p c : Addr) (cs : List Nat) (t : Nat) H2, H p = none → Ex H H2 → H2 p = some (.lst (handV c 0 0 t)) → t < 2147483629 → H2 c = some (.lst (nV cs)) → cs.length ≤ 63 → Q (.ref p) H2
def sp__law_hand (K : PySem.W.Frag) : L2.Sp := fun vs H Q _ => ∃ (s : Addr) (ns : List Int), vs = [.ref s] ∧ (SqL K H s (ns.map V.int) ∧ ns.length ≤ 63) ∧ RetP (fun v H2 => ∃ p, v = .ref p ∧ HandAt H2 p) H Q
section
variable {P : Program} {w : World} {K : PySem.W.Frag} {mg : Str → Option Value} {base : Heap} {k : Nat} {x : Str} {ps : List Str}
theorem ex_back {H H2 : Hp} {a c : Addr} (h : H a = some (HandO c a)) {L : List V} (e : Ex (cutH (upd H a (.lst L)) a) H2) : Ex H (upd H2 a (HandO c a)) := fun b o hb => by
  by_cases z : b = a
  · subst z
    rw [h] at hb
    cases hb
    exact upd_same
  · rw [upd_ne z]
    refine e b o ?_
    unfold cutH
    rw [if_neg z, upd_ne z]
    exact hb
theorem un_swap {fs : List Addr} {H H2 H1 H3 : Hp} {h h' : Heap} {a : Addr} {o1 : HO} (U : Un fs [] H1 H2 h h') (e1 : ∀ b, b ≠ a → H1 b = H b) (h0 : H a = some o1 ∨ H a = none ∧ h.get? a = none) (e2 : ∀ b, b ≠ a → H3 b = H2 b)
    (n1 : ∀ xs, o1 ≠ .tup xs) (n2 : ∀ o u, o1 ≠ .frz o u) (n3 : ∀ p, o1 ≠ .tbl p) : Un fs [] H H3 h h' := by
  have ne : ∀ b o, h.get? b = some o → H b = none → b ≠ a := fun b o hb hn z => by
    subst z
    rcases h0 with q | ⟨_, q⟩
    · rw [q] at hn
      cases hn
    · rw [q] at hb
      cases hb
  have ne2 : ∀ b o, H b = some o → o ≠ o1 → b ≠ a := fun b o hb hn z => by
    subst z
    rcases h0 with q | ⟨q, _⟩
    · rw [q] at hb
      exact hn (Option.some.inj hb).symm
    · rw [q] at hb
      cases hb
  refine ⟨fun b o hb hn => U.keep b o hb (by rw [e1 b (ne b o hb hn)]; exact hn), fun b o hb hn => U.slot b o hb (by rw [e1 b (ne b o hb hn)]; exact hn), fun b o hb hn hx => ?_, U.there, fun b xs hb => ?_, fun b o u hb => ?_, fun b p hb => ?_⟩
  · rw [e2 b (ne b o hb hn)]
    exact U.free b o hb (by rw [e1 b (ne b o hb hn)]; exact hn) hx
  · have z := ne2 b _ hb (fun q => n1 _ q.symm)
    rw [e2 b z]
    exact U.tups b xs (by rw [e1 b z]; exact hb)
  · have z := ne2 b _ hb (fun q => n2 _ _ q.symm)
    rw [e2 b z]
    exact U.frzs b o u (by rw [e1 b z]; exact hb)
  · have z := ne2 b _ hb (fun q => n3 _ q.symm)
    rw [e2 b z]
    exact U.tbls b p (by rw [e1 b z]; exact hb)
theorem ok_draw {f : Addr} {fd : FuncData} (F : FnOk P w K mg base CX0 k f fd ["_law_hand_here", "_law_many"] sp__law_draw0) : FnOk P w K mg base CX0 k f fd ["_law_hand_here", "_law_many"] sp__law_draw := by
  refine ⟨fun vs H Q E h => by obtain ⟨_, _, rfl, _⟩ := h; rfl, fun A outer s H args us vs Q E hr e0 hb rv h => ?_⟩
  obtain ⟨a, many, rfl, ⟨hm, c, cs, ha, hc, hl⟩, hQ⟩ := h
  obtain ⟨i, r, t, hbd, ho⟩ := hand_lst (H' := upd H a (.lst [])) (e0.hok a _ ha)
  have ho' : ∀ H', ObjOk P w H' s.heap a (.lst (handV c i r t)) := fun H' => ho
  have hca : c ≠ a := ne_of hc ha (by intro z; cases z)
  have e1 : Env0 P w K mg base A outer s (upd H a (.lst (handV c i r t))) := ⟨e0.frames, e0.mod, fun b o hb => ⟨(e0.bs b o hb).1, by
    rw [upd_ne (Ne.symm (ne_of_none ha (e0.bs b o hb).2))]
    exact (e0.bs b o hb).2⟩, e0.bsz, e0.funs, fun b hb => by
    rw [upd_ne (Ne.symm (ne_of_none ha (e0.frf b hb)))]
    exact e0.frf b hb, e0.hok.write (by rw [ha]; exact True.intro) (.inl rfl) (fun b u _ q => q) (lst_at (ho' H)) (ho' _), e0.bare⟩
  refine codeAny_mono (F.run A outer s _ args us [.ref a, vN many] (fun v H2 => ∃ kk i' r' t' : Nat, v = vN kk ∧ kk < many ∧ (i' ≤ 63 ∧ t' < 2147483629) ∧ Ex (cutH (upd H a (.lst (handV c i r t))) a) H2 ∧ H2 a = some (.lst (handV c i' r' t'))) E hr e1 hb rv ⟨a, c, many, i, r, t, cs, rfl, ⟨hm, hbd, upd_same, by rw [upd_ne hca]; exact hc, hl⟩, fun kk i' r' t' H2 h1 h2 h3 h4 => ⟨kk, i', r', t', rfl, h1, h2, h3, h4⟩⟩) fun res s' q => ?_
  match res, q with
  | .error e, q => exact q
  | .ok (.ret u), q =>
    obtain ⟨v, H2, os, bare, un, hok, rv2, kk, i', r', t', rfl, h1, h2, h3, h4⟩ := q
    have ex := ex_back ha h3
    refine ⟨vN kk, upd H2 a (HandO c a), os, bare, un_swap un (fun b z => upd_ne z) (.inl ha) (fun b z => upd_ne z) (fun _ z => nomatch z) (fun _ _ z => nomatch z) (fun _ z => nomatch z), ?_, rv2, hQ _ _ ex ⟨kk, rfl, h1⟩⟩
    have ho2 := hok a _ h4
    exact hok.write (by rw [h4]; exact True.intro) (.inl rfl) (fun b u _ q => q) (lst_at ho2) (hand_of h2 ho2)
  | .ok .next, q => exact q.elim
  | .ok .brk, q => exact q.elim
  | .ok .cont, q => exact q.elim
theorem ok_hand {f : Addr} {fd : FuncData} (F : FnOk P w K mg base CX0 k f fd ["_law_script"] (sp__law_hand0 K)) : FnOk P w K mg base CX0 k f fd ["_law_script"] (sp__law_hand K) := by
  refine ⟨fun vs H Q E h => by obtain ⟨_, _, rfl, _⟩ := h; rfl, fun A outer s H args us vs Q E hr e0 hb rv h => ?_⟩
  obtain ⟨a, ns, rfl, hs, hQ⟩ := h
  refine codeAny_mono (F.run A outer s _ args us [.ref a] (fun v H2 => ∃ (p c : Addr) (cs : List Nat) (t : Nat), v = .ref p ∧ H p = none ∧ Ex H H2 ∧ H2 p = some (.lst (handV c 0 0 t)) ∧ t < 2147483629 ∧ H2 c = some (.lst (nV cs)) ∧ cs.length ≤ 63) E hr e0 hb rv ⟨a, ns, rfl, hs, fun p c cs t H2 h1 h2 h3 h4 h5 h6 => ⟨p, c, cs, t, rfl, h1, h2, h3, h4, h5, h6⟩⟩) fun res s' q => ?_
  match res, q with
  | .error e, q => exact q
  | .ok (.ret u), q =>
    obtain ⟨v, H2, os, bare, un, hok, rv2, p, c, cs, t, rfl, h1, h2, h3, h4, h5, h6⟩ := q
    have hp : s.heap.get? p = none := by
      cases z : s.heap.get? p with
      | none => rfl
      | some o =>
        have := un.free p o z h1 (by simp)
        rw [h3] at this
        cases this
    have ho2 := hok p _ h3
    by_cases hcp : c = p
    · subst hcp
      rw [h3] at h5
      have e6 : handV c 0 0 t = nV cs := by injection h5 with e; injection e
      cases cs with
      | nil => cases e6
      | cons z l =>
        have e7 : (V.ref c) = vN z := (List.cons.inj e6).1
        cases e7
    · refine ⟨.ref p, upd H2 p (HandO c p), os, bare, un_swap (o1 := .lst []) un (fun b z => rfl) (.inr ⟨h1, hp⟩) (fun b z => upd_ne z) (fun _ z => nomatch z) (fun _ _ z => nomatch z) (fun _ z => nomatch z), ?_, rv2, hQ _ _ (Ex.mut h2 h1) ⟨p, rfl, c, cs, upd_same, by rw [upd_ne hcp]; exact h5, h6⟩⟩
      exact hok.write (by rw [h3]; exact True.intro) (.inl rfl) (fun b u _ q => q) (lst_at ho2) (hand_of ⟨Nat.zero_le _, h4⟩ ho2)
  | .ok .next, q => exact q.elim
  | .ok .brk, q => exact q.elim
  | .ok .cont, q => exact q.elim
theorem fx_draw (F : Fx P w K mg base k "_law_draw" ["_law_hand_here", "_law_many"] sp__law_draw0) : Fx P w K mg base k "_law_draw" ["_law_hand_here", "_law_many"] sp__law_draw := by
  obtain ⟨f, fd, F, m⟩ := F
  exact ⟨f, fd, ok_draw F, m⟩
theorem fx_hand (F : Fx P w K mg base k "_law_hand" ["_law_script"] (sp__law_hand0 K)) : Fx P w K mg base k "_law_hand" ["_law_script"] (sp__law_hand K) := by
  obtain ⟨f, fd, F, m⟩ := F
  exact ⟨f, fd, ok_hand F, m⟩
end
end KW

/-! The law's own defs: numbers and draws. -/
namespace KW
open PySem PySem.Spec PyProof.Rows L2 Evl K64

/-! ### promises -/
def sp__law_wide : L2.Sp := fun vs H Q _ => ∃ (a : Addr) (n : Nat), vs = [.ref a, vN n] ∧ (n ≤ 32 ∧ HandAt H a) ∧ RetP (IsN fun k => k < 2 ^ n) H Q
def sp__law_letters : L2.Sp := fun vs H Q _ => ∃ a : Addr, vs = [.ref a] ∧ HandAt H a ∧ RetP (IsN fun m => 1 ≤ m ∧ m ≤ 5) H Q
def sp__law_ones : L2.Sp := fun vs H Q _ => ∃ n : Nat, vs = [vN n] ∧ n < 2 ^ 32 ∧ RetV (vN (pop n)) H Q
def sp__law_heap_word : L2.Sp := fun vs H Q _ => ∃ m h : Nat, vs = [vN m, vN h] ∧ ((1 ≤ m ∧ m ≤ 5) ∧ h < 2 ^ m) ∧ RetV (vN (mon m h)) H Q
def belowB (f g : Nat) : Bool := (List.range 5).all fun l => decide (pop (f >>> l) ≤ pop (g >>> l))
def sp__law_is_below : L2.Sp := fun vs H Q _ => ∃ f g : Nat, vs = [vN f, vN g] ∧ (f < 32 ∧ g < 32) ∧ RetV (.bl (belowB f g)) H Q
def fallP (ss : List Nat) : Nat → Bool := fun f => ss.any fun g => belowB f g
def cloP (ss : List Nat) : Nat → Bool := fun f => ss.any fun g => decide (f &&& g = f)
def heapL (m : Nat) (p : Nat → Bool) : List Nat := (List.range (2 ^ m)).filter p
def sp__law_falling (K : PySem.W.Frag) : L2.Sp := fun vs H Q _ => ∃ (m : Nat) (l : Addr) (ss : List Nat), vs = [vN m, .ref l] ∧ ((1 ≤ m ∧ m ≤ 5) ∧ SqL K H l (nV ss) ∧ ss.length ≤ 10 ∧ Lt (2 ^ m) ss) ∧ RetL (nV (heapL m (fallP ss))) H Q
def sp__law_closed (K : PySem.W.Frag) : L2.Sp := fun vs H Q _ => ∃ (m : Nat) (l : Addr) (ss : List Nat), vs = [vN m, .ref l] ∧ ((1 ≤ m ∧ m ≤ 5) ∧ SqL K H l (nV ss) ∧ ss.length ≤ 10 ∧ Lt (2 ^ m) ss) ∧ RetL (nV (heapL m (cloP ss))) H Q
/-- a new list of some numbers -/
def RetLN (P : List Nat → Prop) (H : Hp) (Q : VK) : Prop := ∀ p H2 ns, H p = none → Ex H H2 → H2 p = some (.lst (nV ns)) → P ns → Q (.ref p) H2
def sp__law_seeds : L2.Sp := fun vs H Q _ => ∃ (a : Addr) (m : Nat), vs = [.ref a, vN m] ∧ ((1 ≤ m ∧ m ≤ 5) ∧ HandAt H a) ∧ RetLN (fun ss => ss.length ≤ 10 ∧ Lt (2 ^ m) ss) H Q
def sp__law_choice : L2.Sp := fun vs H Q _ => ∃ (a : Addr) (m : Nat), vs = [.ref a, vN m] ∧ ((1 ≤ m ∧ m ≤ 5) ∧ HandAt H a) ∧ RetLN (fun ss => ss.length ≤ 32 ∧ Lt (2 ^ m) ss) H Q
def sp__law_any_word : L2.Sp := fun vs H Q _ => ∃ (a : Addr) (m : Nat), vs = [.ref a, vN m] ∧ ((1 ≤ m ∧ m ≤ 5) ∧ HandAt H a) ∧ RetP (IsN fun k => k < 2 ^ 2 ^ m) H Q
def sp__law_code_word (K : PySem.W.Frag) : L2.Sp := fun vs H Q _ => ∃ (a : Addr) (m : Nat) (l : Addr) (ns : List Nat), vs = [.ref a, vN m, .ref l] ∧ ((1 ≤ m ∧ m ≤ 5) ∧ HandAt H a ∧ SqL K H l (nV ns) ∧ ns.length ≤ 32 ∧ Lt (2 ^ m) ns) ∧ RetP (IsN fun k => K64.Sp (ns.map (mon m)) k) H Q
def sp__law_hrows (K : PySem.W.Frag) : L2.Sp := fun vs H Q _ => ∃ (m : Nat) (l : Addr) (ns : List Nat), vs = [vN m, .ref l] ∧ ((1 ≤ m ∧ m ≤ 5) ∧ SqL K H l (nV ns) ∧ ns.length ≤ 32 ∧ Lt (2 ^ m) ns) ∧ RetL (nV (ns.map (mon m))) H Q
/-- some list of heaps, new or old -/
def IsHs (m n : Nat) : VP := fun v H => ∃ (l : Addr) (ns : List Nat), v = .ref l ∧ H l = some (.lst (nV ns)) ∧ ns.length ≤ n ∧ Lt (2 ^ m) ns
def sp__law_hcut (K : PySem.W.Frag) : L2.Sp := fun vs H Q _ => ∃ (a : Addr) (m : Nat) (l : Addr) (ns : List Nat), vs = [.ref a, .ref l, vN 12] ∧ (HandAt H a ∧ H l = some (.lst (nV ns)) ∧ ns.length ≤ 32 ∧ Lt (2 ^ m) ns) ∧ RetP (IsHs m 12) H Q

section
variable {K : PySem.W.Frag} {σ : L2.St} {H H' : Hp} {ta tb te : TE} {A B D : Nat → Prop} {r : R2}
theorem Ev.isN {n : Nat} (h : Ev te σ H (vN n)) (hn : A n) : EvP te σ H (IsN A) := fun H1 e Q q => h H1 e Q fun H2 e2 => q _ H2 e2 ⟨n, rfl, hn⟩
theorem ep_opN (ha : EvP ta σ H (IsN A)) (hb : EvP tb σ H (IsN B)) (hr : ∀ a b H1, A a → B b → ∃ c, D c ∧ RV r (vN a) (vN b) H1 (vN c)) : EvP (tOp r ta tb) σ H (IsN D) := fun H1 e Q q =>
  ha H1 e _ fun x H2 e2 ⟨a, ea, pa⟩ => hb H2 (e.trans e2) _ fun y H3 e3 ⟨b, eb, pb⟩ => by
    subst ea
    subst eb
    obtain ⟨c, hc, rc⟩ := hr a b H3 pa pb
    exact rc H3 (Ex.refl H3) Q fun H4 e4 => q _ H4 ((e2.trans e3).trans e4) ⟨c, rfl, hc⟩
abbrev rInt1 : List V → Hp → VK → Prop := fun xs H Q => (∃ i, xs = [.int i] ∧ Q (.int i) H) ∨ ∃ k, xs = [.bl k] ∧ Q (.int (if k then 1 else 0)) H
theorem ev_int {i : Int} (h : Ev ta σ H (.int i)) : Ev (tCB rInt1 (tCons ta tNil)) σ H (.int i) := fun H1 e Q q => h H1 e _ fun H2 e2 => .inl ⟨i, rfl, q H2 e2⟩
theorem ep_int (h : EvP ta σ H (IsN A)) : EvP (tCB rInt1 (tCons ta tNil)) σ H (IsN A) := fun H1 e Q q => h H1 e _ fun v H2 e2 ⟨a, ea, pa⟩ => .inl ⟨(a : Int), by rw [ea], q _ H2 e2 ⟨a, rfl, pa⟩⟩
theorem ep_draw {a : Addr} {many : Nat} {tt : TA} (h : EvA tt σ H [.ref a, vN many]) (hd : HandAt H a) (hm : 1 ≤ many ∧ many ≤ 1000) : EvP (tCall sp__law_draw [] E0 tt) σ H (IsN fun k => k < many) :=
  ep_f h fun H1 e1 Q q => ⟨a, many, rfl, ⟨hm, hd.mono e1⟩, q⟩
/-- a range whose length is drawn -/
theorem eip_rng {n : Nat} (h : EvP ta σ H (IsN fun k => k ≤ n)) (hn : n ≤ 1000000) : EvIP (iRng1 (tCons ta tNil)) σ H vN (fun l => ∃ k, l = List.range k ∧ k ≤ n) := fun H1 e R k =>
  h H1 e _ fun v H2 e2 ⟨a, ea, pa⟩ => ⟨(a : Int), by rw [ea], by omega, by omega, k _ _ H2 ⟨a, rfl, pa⟩ e2 turns_rng⟩
section
variable {α : Type} {φ : α → V} {Pl : List α → Prop} {ti : TI} {tt : TT} {j : Nat} {vs : List Nat}
theorem elp_lcP (h : EvIP ti σ H φ Pl) (hz : ∀ l, Pl l → l.length ≤ 90000) (hw : ∀ x, wipe ((wipe σ vs).set j (some x)) vs = wipe σ vs) (Pv : List α → List V → Prop) (h0 : Pv [] [])
    (hs : ∀ l, Pl l → ∀ pre a post acc H', l = pre ++ a :: post → Ex H H' → Pv pre acc → ∃ b, EvT tt ((wipe σ vs).set j (some (φ a))) H' b ∧ (b = false → Pv (pre ++ [a]) acc) ∧ (b = true → EvP te ((wipe σ vs).set j (some (φ a))) H' fun y _ => Pv (pre ++ [a]) (acc ++ [y]))) :
    EvLP (tLc ti (gName j) tt te vs) σ H (fun acc => ∃ l, Pl l ∧ Pv l acc) := fun H1 e Q q => h H1 e _ fun l J H2 hl e2 T D hD =>
  lc_turns T hD (Ex.refl H2) (hz l hl) hw Pv h0 (fun pre a post acc H' el e3 p => hs l hl pre a post acc H' el ((e.trans e2).trans e3) p) fun H' acc e3 ha p => q D H' acc (fresh_back e2 hD) (e2.trans e3) ha ⟨l, hl, p⟩
end
end
section
variable {P : Program} {w : World} {K : PySem.W.Frag} {mg : Str → Option Value} {base : Heap} {C : Addr}
abbrev N__law_mix : List Str := ["_law_number", "_law_turn", "_law_once", "_law_twice"]
theorem sc__law_mix : FnScope N__law_mix ["_law_number", "_law_turn"] (defScope s__law_mix) := ⟨rfl, rfl, rfl, by decide +kernel, rfl, by decide +kernel, by decide +kernel⟩
theorem fx__law_mix (D : Df K mg "_law_mix" s__law_mix) (B : Bt mg)  : Fx P w K mg base 1 "_law_mix" ["_law_number", "_law_turn"] sp__law_mix := by
  refine D.fx (N := N__law_mix) sc__law_mix (fun vs H Q E h => by obtain ⟨_, _, rfl, _⟩ := h; rfl) (fun _ _ _ _ _ _ us hl => match us, hl with | [_, _], _ => rfl) (fun f cdv A outer s H vs Q E hr h => ⟨_, (pss_cons (ps_set (i := 2) sc__law_mix.nd rfl (Or.inl rfl) (pe_op op_mod (pe_callTy call_int1 rfl B.int (by decide +kernel) (pa_cons (pe_op op_add (pe_op op_add (pe_op op_mul (pv 0) pe_int) (pe_op op_mul (pv 1) pe_int)) pe_int) pa_nil)) pe_int)) (pss_cons (ps_set (i := 3) sc__law_mix.nd rfl (Or.inl rfl) (pe_op op_mod (pe_callTy call_int1 rfl B.int (by decide +kernel) (pa_cons (pe_op op_add (pe_op op_add (pe_op op_mul (pv 2) (pv 2)) (pe_op op_mul (pe_op op_fdivN (pv 2) pe_int) pe_int)) (pe_op op_mul (pv 1) pe_int)) pa_nil)) pe_int)) (pss_one (ps_ret (pe_op op_fdivN (pe_op op_mod (pe_callTy call_int1 rfl B.int (by decide +kernel) (pa_cons (pe_op op_add (pe_op op_fdivN (pe_op op_mul (pv 3) (pv 3)) pe_int) (pv 2)) pa_nil)) pe_int) pe_int))))), ?_⟩)
  obtain ⟨n, u, rfl, ⟨hn, hu⟩, hQ⟩ := h
  have h1 : (n * 48271 + u * 30269 + 101) % 2147483647 < 2147483647 := Nat.mod_lt _ (by decide)
  refine q_asg (ev_op (ev_int (ev_op (ev_op (ev_op (ev_var rfl) (ev_n 48271 rfl) (rv_mul (by omega))) (ev_op (ev_var rfl) (ev_n 30269 rfl) (rv_mul (by omega))) rv_add) (ev_n 101 rfl) rv_add)) (ev_n 2147483647 rfl) (rv_mod (by decide))) fun H1 e1 => ?_
  generalize (n * 48271 + u * 30269 + 101) % 2147483647 = x at h1
  have h2 : (x * x + x / 211 * 69621 + u * 7919) % 2147483629 < 2147483629 := Nat.mod_lt _ (by decide)
  refine q_asg (ev_op (ev_int (ev_op (ev_op (ev_op (ev_var rfl) (ev_var rfl) (rv_mul (by omega))) (ev_op (ev_op (ev_var rfl) (ev_n 211 rfl) (rv_div (by decide) (by decide))) (ev_n 69621 rfl) (rv_mul (by omega))) rv_add) (ev_op (ev_var rfl) (ev_n 7919 rfl) (rv_mul (by omega))) rv_add)) (ev_n 2147483629 rfl) (rv_mod (by decide))) fun H2 e2 => ?_
  generalize (x * x + x / 211 * 69621 + u * 7919) % 2147483629 = y at h2
  exact s_ret (ev_op (ev_op (ev_int (ev_op (ev_op (ev_op (ev_var rfl) (ev_var rfl) (rv_mul (by omega))) (ev_n 2003 rfl) (rv_div (by decide) (by decide))) (ev_var rfl) rv_add)) (ev_n 2147483587 rfl) (rv_mod (by decide))) (ev_n 8 rfl) (rv_div (by decide) (by decide))) fun H3 e3 => hQ _ H3 ((e1.trans e2).trans e3) ⟨_, rfl⟩
abbrev N__law_ones : List Str := ["_law_number", "_law_many"]
theorem sc__law_ones : FnScope N__law_ones ["_law_number"] (defScope s__law_ones) := ⟨rfl, rfl, rfl, by decide +kernel, rfl, by decide +kernel, by decide +kernel⟩
theorem fx__law_ones (D : Df K mg "_law_ones" s__law_ones) (B : Bt mg)  : Fx P w K mg base 1 "_law_ones" ["_law_number"] sp__law_ones := by
  refine D.fx (N := N__law_ones) sc__law_ones (fun vs H Q E h => by obtain ⟨_, rfl, _⟩ := h; rfl) (fun _ _ _ _ _ _ us hl => match us, hl with | [_], _ => rfl) (fun f cdv A outer s H vs Q E hr h => ⟨_, (pss_cons (ps_set (i := 1) sc__law_ones.nd rfl (Or.inl rfl) pe_int) (pss_cons (ps_while PassesOwn.never (pt_cmpR op_gt (pv 0) pe_int (nomark _)) (pss_cons (ps_set (i := 1) sc__law_ones.nd rfl (Or.inl rfl) (pe_op op_add (pv 1) (pe_op op_and (pv 0) pe_int))) (pss_one (ps_set (i := 0) sc__law_ones.nd rfl (Or.inl rfl) (pe_op op_fdivN (pv 0) pe_int))))) (pss_one (ps_ret (pv 1))))), ?_⟩)
  obtain ⟨n, rfl, hn, hQ⟩ := h
  refine q_asg (ev_n 0 rfl) fun H1 e1 => q_while (fun f σ' H' => ∃ x c, σ' = [some (vN x), some (vN c)] ∧ x < 2 ^ f ∧ c + popF f x = pop n ∧ Ex H H') 32 ⟨n, 0, rfl, hn, by rw [Nat.zero_add]; rfl, e1⟩ ?_
  rintro f σ' H' ⟨x, c, rfl, hx, hc, e⟩
  refine ⟨decide (0 < x), et_test (ev_op (ev_var rfl) (ev_n 0 rfl) rv_gt), fun hb H2 e2 => ?_, fun hb H2 e2 => ?_⟩
  · have hb := of_decide_eq_true hb
    match f, hx, hc with
    | 0, hx, _ => exact absurd hx (by show ¬ x < 1; omega)
    | f + 1, hx, hc =>
      refine ⟨fun σ2 H2 => ∃ x c, σ2 = [some (vN x), some (vN c)] ∧ x < 2 ^ f ∧ c + popF f x = pop n ∧ Ex H H2, fun σ2 H2 q => ⟨f, Nat.lt_succ_self f, q⟩, ?_⟩
      refine q_asg (ev_op (ev_var rfl) (ev_op (ev_var rfl) (ev_n 1 rfl) rv_and) rv_add) fun H3 e3 => s_asg (ev_op (ev_var rfl) (ev_n 2 rfl) (rv_div (by decide) (by decide))) fun H4 e4 => ⟨x / 2, c + (x &&& 1), rfl, ?_, ?_, ((e.trans e2).trans e3).trans e4⟩
      · rw [Nat.pow_succ] at hx
        omega
      · rw [← hc, Nat.and_one_is_mod]
        have e5 : popF (f + 1) x = x % 2 + popF f (x / 2) := rfl
        rw [e5]
        omega
  · have hb := of_decide_eq_false hb
    have h0 : x = 0 := by omega
    subst h0
    rw [popF_zero] at hc
    have hc' : c = pop n := by omega
    exact s_ret (ev_is (ev_var rfl) (by rw [hc'])) fun H3 e3 => hQ H3 ((e.trans e2).trans e3)
def hwF (h : Nat) (l : List Nat) : Nat := l.foldl (fun w p => if p &&& h = h then w + 1 <<< p else w) 0
theorem hw_mon : ∀ m, m < 6 → ∀ h, h < 2 ^ m → hwF h (List.range (2 ^ m)) = mon m h := by decide +kernel
abbrev N__law_heap_word : List Str := ["_law_m", "_law_heap", "_law_word", "_law_place"]
theorem sc__law_heap_word : FnScope N__law_heap_word ["_law_m", "_law_heap"] (defScope s__law_heap_word) := ⟨rfl, rfl, rfl, by decide +kernel, rfl, by decide +kernel, by decide +kernel⟩
theorem fx__law_heap_word (D : Df K mg "_law_heap_word" s__law_heap_word) (B : Bt mg)  : Fx P w K mg base 1 "_law_heap_word" ["_law_m", "_law_heap"] sp__law_heap_word := by
  refine D.fx (N := N__law_heap_word) sc__law_heap_word (fun vs H Q E h => by obtain ⟨_, _, rfl, _⟩ := h; rfl) (fun _ _ _ _ _ _ us hl => match us, hl with | [_, _], _ => rfl) (fun f cdv A outer s H vs Q E hr h => ⟨_, (pss_cons (ps_set (i := 2) sc__law_heap_word.nd rfl (Or.inl rfl) pe_int) (pss_cons (ps_for PassesOwn.never rfl (pi_range1 rfl B.range (pa_cons (pe_op op_shl pe_int (pv 0)) pa_nil)) (pg_name (i := 3) sc__law_heap_word.nd rfl (Or.inl rfl)) (pss_one (ps_if (pt_cmpR op_eq (pe_op op_and (pv 3) (pv 1)) (pv 1) (nomark _)) (pss_one (ps_set (i := 2) sc__law_heap_word.nd rfl (Or.inl rfl) (pe_op op_add (pv 2) (pe_op op_shl pe_int (pv 3))))) pss_nil))) (pss_one (ps_ret (pv 2))))), ?_⟩)
  obtain ⟨m, x, rfl, ⟨hm, hx⟩, hQ⟩ := h
  have hs := shl_le hm
  refine q_asg (ev_n 0 rfl) fun H1 e1 => ?_
  refine q_for (φ := vN) (l := List.range (2 ^ m)) (ei_rng (ea1 (ev_pow (ev_n 1 rfl) (ev_var rfl) (by omega))) (by omega)) (fun pre σ' _ => ∃ z, σ' = [some (vN m), some (vN x), some (vN (hwF x pre)), z]) (fun H1 e1 => ⟨_, rfl⟩) ?_ ?_
  · rintro Hb eb pre p post σ' H' el e ⟨z, rfl⟩
    have hp := List.mem_range.mp (mem_pre el)
    have hf : hwF x (pre ++ [p]) = if p &&& x = x then hwF x pre + 1 <<< p else hwF x pre := foldl_snoc _ _ _ _
    refine s_when (et_test (ev_op (ev_op (ev_var rfl) (ev_var rfl) rv_and) (ev_var rfl) rv_eqN)) (fun hb H3 e3 => s_asg (ev_op (ev_var rfl) (ev_op (ev_n 1 rfl) (ev_var rfl) (rv_shl (by decide) (by omega))) rv_add) fun H4 e4 => ⟨(e.trans e3).trans e4, some (vN p), ?_⟩) (fun hb H3 e3 => ⟨e.trans e3, some (vN p), ?_⟩)
    · rw [hf, if_pos (of_decide_eq_true hb)]
      rfl
    · rw [hf, if_neg (of_decide_eq_false hb)]
      rfl
  · rintro σ' H' e ⟨z, rfl⟩
    exact s_ret (ev_is (ev_var rfl) (by rw [hw_mon m (by omega) x hx])) fun H3 e3 => hQ H3 ((e1.trans e).trans e3)
theorem ev_lmon {σ : L2.St} {H : Hp} {ta : TA} {m x : Nat} (h : EvA ta σ H [vN m, vN x]) (hm : 1 ≤ m ∧ m ≤ 5) (hx : x < 2 ^ m) : Ev (tCall sp__law_heap_word [] E0 ta) σ H (vN (mon m x)) := ev_f h fun H1 e1 Q q => ⟨m, x, rfl, ⟨hm, hx⟩, q⟩
theorem ev_ones {σ : L2.St} {H : Hp} {ta : TA} {n : Nat} (h : EvA ta σ H [vN n]) (hn : n < 2 ^ 32) : Ev (tCall sp__law_ones [] E0 ta) σ H (vN (pop n)) := ev_f h fun H1 e1 Q q => ⟨n, rfl, hn, q⟩
theorem shr32 {n : Nat} (l : Nat) (h : n < 32) : n >>> l < 2 ^ 32 := by
  rw [Nat.shiftRight_eq_div_pow]
  exact Nat.lt_of_le_of_lt (Nat.div_le_self _ _) (Nat.lt_of_lt_of_le h (by decide))
abbrev N__law_is_below : List Str := ["_law_f", "_law_g", "_law_letter"]
theorem sc__law_is_below : FnScope N__law_is_below ["_law_f", "_law_g"] (defScope s__law_is_below) := ⟨rfl, rfl, rfl, by decide +kernel, rfl, by decide +kernel, by decide +kernel⟩
theorem fx__law_is_below (D : Df K mg "_law_is_below" s__law_is_below) (B : Bt mg) (F__law_ones : Fx P w K mg base 1 "_law_ones" ["_law_number"] sp__law_ones) : Fx P w K mg base 2 "_law_is_below" ["_law_f", "_law_g"] sp__law_is_below := by
  refine D.fx (N := N__law_is_below) sc__law_is_below (fun vs H Q E h => by obtain ⟨_, _, rfl, _⟩ := h; rfl) (fun _ _ _ _ _ _ us hl => match us, hl with | [_, _], _ => rfl) (fun f cdv A outer s H vs Q E hr h => ⟨_, (pss_cons (ps_for PassesOwn.never rfl (pi_range1 rfl B.range (pa_cons pe_int pa_nil)) (pg_name (i := 2) sc__law_is_below.nd rfl (Or.inl rfl)) (pss_one (ps_if (pt_cmpR op_gt (pe_f F__law_ones hr rfl (by decide) (pa_cons (pe_op op_shr (pv 0) (pv 2)) pa_nil)) (pe_f F__law_ones hr rfl (by decide) (pa_cons (pe_op op_shr (pv 1) (pv 2)) pa_nil)) (nomark _)) (pss_one (ps_ret pe_bl)) pss_nil))) (pss_one (ps_ret pe_bl))), ?_⟩)
  obtain ⟨x, y, rfl, ⟨hx, hy⟩, hQ⟩ := h
  refine q_for (φ := vN) (l := List.range 5) (ei_rng (n := 5) (ea1 (ev_n 5 rfl)) (by decide)) (fun pre σ' _ => (∃ z, σ' = [some (vN x), some (vN y), z]) ∧ ∀ l ∈ pre, pop (x >>> l) ≤ pop (y >>> l)) (fun H1 e1 => ⟨⟨_, rfl⟩, fun l hl => nomatch hl⟩) ?_ ?_
  · rintro Hb eb pre l post σ' H' el e ⟨⟨z, rfl⟩, hp⟩
    refine s_when (et_test (ev_op (ev_ones (ea1 (ev_op (ev_var rfl) (ev_var rfl) rv_shr)) (shr32 _ hx)) (ev_ones (ea1 (ev_op (ev_var rfl) (ev_var rfl) rv_shr)) (shr32 _ hy)) rv_gt)) (fun hb H3 e3 => ?_) (fun hb H3 e3 => ⟨e.trans e3, ⟨_, rfl⟩, fun k hk => ?_⟩)
    · have hf : belowB x y = false := by
        unfold belowB
        rw [List.all_eq_false]
        have := of_decide_eq_true hb
        exact ⟨l, mem_pre el, by rw [decide_eq_true_iff]; omega⟩
      exact s_ret ev_c fun H4 e4 => by
        have := hQ H4 (((eb.trans e).trans e3).trans e4)
        rw [hf] at this
        exact this
    · rcases List.mem_append.mp hk with hk | hk
      · exact hp k hk
      · rw [List.mem_singleton.mp hk]
        have := of_decide_eq_false hb
        omega
  · rintro σ' H' e ⟨⟨z, rfl⟩, hp⟩
    have ht : belowB x y = true := by
      unfold belowB
      rw [List.all_eq_true]
      exact fun l hl => decide_eq_true (hp l hl)
    exact s_ret ev_c fun H4 e4 => by
      have := hQ H4 (e.trans e4)
      rw [ht] at this
      exact this
abbrev N__law_falling : List Str := ["_law_m", "_law_seeds_here", "_law_f", "_law_g"]
theorem sc__law_falling : FnScope N__law_falling ["_law_m", "_law_seeds_here"] (defScope s__law_falling) := ⟨rfl, rfl, rfl, by decide +kernel, rfl, by decide +kernel, by decide +kernel⟩
theorem fx__law_falling (D : Df K mg "_law_falling" s__law_falling) (B : Bt mg) (F__law_is_below : Fx P w K mg base 2 "_law_is_below" ["_law_f", "_law_g"] sp__law_is_below) : Fx P w K mg base 3 "_law_falling" ["_law_m", "_law_seeds_here"] (sp__law_falling K) := by
  refine D.fx (N := N__law_falling) sc__law_falling (fun vs H Q E h => by obtain ⟨_, _, _, rfl, _⟩ := h; rfl) (fun _ _ _ _ _ _ us hl => match us, hl with | [_, _], _ => rfl) (fun f cdv A outer s H vs Q E hr h => ⟨_, (pss_one (ps_ret (pe_lc (own := [("_law_f", 2)]) (g := gName 2) rfl sc__law_falling.nd (pi_range1 rfl B.range (pa_cons (pe_op op_shl pe_int (pv 0)) pa_nil)) (blkOk_by (sc := defScope s__law_falling) (own := [("_law_f", 2)]) (N := N__law_falling) (by decide +kernel)) (fun _ _ _ _ _ => pg_name (i := 2) sc__law_falling.nd rfl (Or.inr rfl)) (fun _ _ _ _ _ => pts_one (pt_val (pe_callB (cr_anyK (K := K) rfl rfl) rfl B.any (by decide +kernel) (pa_cons (pe_lc (own := [("_law_g", 3)]) (g := gName 3) (tt := tYes) rfl sc__law_falling.nd (pi_listK (K := K) rfl (pv 1)) (blkOk_by (own := [("_law_g", 3)]) (N := N__law_falling) (by rfl)) (fun _ _ _ _ _ => pg_name (i := 3) sc__law_falling.nd rfl (Or.inl rfl)) (fun _ _ _ _ _ => pts_nil) (fun _ _ _ _ _ => (pe_f F__law_is_below hr rfl (by decide) (pa_cons (pv 2) (pa_cons (pv 3) pa_nil))))) pa_nil)))) (fun _ _ _ _ _ => (pv 2))))), ?_⟩)
  obtain ⟨m, l, ss, rfl, ⟨hm, hx, hl, hlt⟩, hQ⟩ := h
  have hs := shl_le hm
  refine s_retL (xs := nV (heapL m (fallP ss))) (el_lc (φ := vN) (fallP ss) vN (ei_rng (n := 2 ^ m) (ea1 (ev_pow (ev_n 1 rfl) (ev_var rfl) (by omega))) (by omega)) (by rw [List.length_range]; omega) (fun _ => rfl) (fun x H' hx' e => et_B (ev_is (ev_any (bs := ss.map fun g => belowB x g) ?_) (by rw [any_map]; rfl))) fun x H' hx' e _ => ev_var rfl) hQ
  rw [List.map_map]
  exact el_lcY (φ := vN) (fun g => .bl (belowB x g)) (ei_list (ev_var rfl) (ex_l e hx)) (by omega) (fun _ => rfl) fun g H2 hg e2 => ev_f (ea2 (ev_var rfl) (ev_var rfl)) fun H3 e3 Q q => ⟨x, g, rfl, ⟨by have := List.mem_range.mp hx'; omega, by have := hlt g hg; omega⟩, q⟩
abbrev N__law_closed : List Str := ["_law_m", "_law_seeds_here", "_law_f", "_law_g"]
theorem sc__law_closed : FnScope N__law_closed ["_law_m", "_law_seeds_here"] (defScope s__law_closed) := ⟨rfl, rfl, rfl, by decide +kernel, rfl, by decide +kernel, by decide +kernel⟩
theorem fx__law_closed (D : Df K mg "_law_closed" s__law_closed) (B : Bt mg)  : Fx P w K mg base 1 "_law_closed" ["_law_m", "_law_seeds_here"] (sp__law_closed K) := by
  refine D.fx (N := N__law_closed) sc__law_closed (fun vs H Q E h => by obtain ⟨_, _, _, rfl, _⟩ := h; rfl) (fun _ _ _ _ _ _ us hl => match us, hl with | [_, _], _ => rfl) (fun f cdv A outer s H vs Q E hr h => ⟨_, (pss_one (ps_ret (pe_lc (own := [("_law_f", 2)]) (g := gName 2) rfl sc__law_closed.nd (pi_range1 rfl B.range (pa_cons (pe_op op_shl pe_int (pv 0)) pa_nil)) (blkOk_by (sc := defScope s__law_closed) (own := [("_law_f", 2)]) (N := N__law_closed) (by decide +kernel)) (fun _ _ _ _ _ => pg_name (i := 2) sc__law_closed.nd rfl (Or.inr rfl)) (fun _ _ _ _ _ => pts_one (pt_val (pe_callB (cr_anyK (K := K) rfl rfl) rfl B.any (by decide +kernel) (pa_cons (pe_lc (own := [("_law_g", 3)]) (g := gName 3) (tt := tYes) rfl sc__law_closed.nd (pi_listK (K := K) rfl (pv 1)) (blkOk_by (own := [("_law_g", 3)]) (N := N__law_closed) (by rfl)) (fun _ _ _ _ _ => pg_name (i := 3) sc__law_closed.nd rfl (Or.inl rfl)) (fun _ _ _ _ _ => pts_nil) (fun _ _ _ _ _ => (pe_cmpR op_eq (pe_op op_and (pv 2) (pv 3)) (pv 2) (nomark _)))) pa_nil)))) (fun _ _ _ _ _ => (pv 2))))), ?_⟩)
  obtain ⟨m, l, ss, rfl, ⟨hm, hx, hl, hlt⟩, hQ⟩ := h
  have hs := shl_le hm
  refine s_retL (xs := nV (heapL m (cloP ss))) (el_lc (φ := vN) (cloP ss) vN (ei_rng (n := 2 ^ m) (ea1 (ev_pow (ev_n 1 rfl) (ev_var rfl) (by omega))) (by omega)) (by rw [List.length_range]; omega) (fun _ => rfl) (fun x H' hx' e => et_B (ev_is (ev_any (bs := ss.map fun g => decide (x &&& g = x)) ?_) (by rw [any_map]; rfl))) fun x H' hx' e _ => ev_var rfl) hQ
  rw [List.map_map]
  exact el_lcY (φ := vN) (fun g => .bl (decide (x &&& g = x))) (ei_list (ev_var rfl) (ex_l e hx)) (by omega) (fun _ => rfl) fun g H2 hg e2 => ev_op (ev_op (ev_var rfl) (ev_var rfl) rv_and) (ev_var rfl) rv_eqN
abbrev N__law_seeds : List Str := ["_law_hand_here", "_law_m", "_law_k"]
theorem sc__law_seeds : FnScope N__law_seeds ["_law_hand_here", "_law_m"] (defScope s__law_seeds) := ⟨rfl, rfl, rfl, by decide +kernel, rfl, by decide +kernel, by decide +kernel⟩
theorem fx__law_seeds (D : Df K mg "_law_seeds" s__law_seeds) (B : Bt mg) (F__law_draw : Fx P w K mg base 2 "_law_draw" ["_law_hand_here", "_law_many"] sp__law_draw) : Fx P w K mg base 3 "_law_seeds" ["_law_hand_here", "_law_m"] sp__law_seeds := by
  refine D.fx (N := N__law_seeds) sc__law_seeds (fun vs H Q E h => by obtain ⟨_, _, rfl, _⟩ := h; rfl) (fun _ _ _ _ _ _ us hl => match us, hl with | [_, _], _ => rfl) (fun f cdv A outer s H vs Q E hr h => ⟨_, (pss_one (ps_ret (pe_lc (own := [("_law_k", 2)]) (g := gName 2) (tt := tYes) rfl sc__law_seeds.nd (pi_range1 rfl B.range (pa_cons (pe_op op_add pe_int (pe_f F__law_draw hr rfl (by decide) (pa_cons (pv 0) (pa_cons pe_int pa_nil)))) pa_nil)) (blkOk_by (sc := defScope s__law_seeds) (own := [("_law_k", 2)]) (N := N__law_seeds) (by decide +kernel)) (fun _ _ _ _ _ => pg_name (i := 2) sc__law_seeds.nd rfl (Or.inl rfl)) (fun _ _ _ _ _ => pts_nil) (fun _ _ _ _ _ => (pe_f F__law_draw hr rfl (by decide) (pa_cons (pv 0) (pa_cons (pe_op op_shl pe_int (pv 1)) pa_nil))))))), ?_⟩)
  obtain ⟨a, m, rfl, ⟨hm, hd⟩, hQ⟩ := h
  have hs := shl_le hm
  have hr : EvP (tOp (rI0 fun i j => V.int (i + j)) (tC (.int 1)) (tCall sp__law_draw [] E0 (tCons (tVar 0) (tCons (tC (.int 3)) tNil)))) (start N__law_seeds [.ref a, vN m]) H (IsN fun k => k ≤ 3) :=
    ep_opN (A := fun k => k = 1) (Ev.isN (ev_n 1 rfl) rfl) (ep_draw (ea2 (ev_var rfl) (ev_n 3 rfl)) hd (by omega)) fun x y H1 hx hy => ⟨x + y, by have h1 : x = 1 := hx; have h2 : y < 3 := hy; show x + y ≤ 3; omega, rv_add⟩
  have k := elp_lcP (σ := start N__law_seeds [.ref a, vN m]) (H := H) (te := tCall sp__law_draw [] E0 (tCons (tVar 0) (tCons (tOp (rI CPow fun i j => .int (i * 2 ^ j.toNat)) (tC (.int 1)) (tVar 1)) tNil))) (tt := tYes) (j := 2) (vs := [2]) (eip_rng hr (by decide)) (fun l hk => by
    obtain ⟨k, hk, hk3⟩ := hk
    rw [hk, List.length_range]
    omega) (fun _ => rfl)
    (fun pre acc => ∃ ss : List Nat, acc = nV ss ∧ ss.length = pre.length ∧ Lt (2 ^ m) ss) ⟨[], rfl, rfl, fun _ h => nomatch h⟩ (fun l hl pre x post acc H' el e hacc => by
      obtain ⟨ss, ha, hl2, hlt⟩ := hacc
      refine ⟨true, et_yes, fun z => absurd z (by decide), fun _ => EvP.imp (ep_draw (ea2 (ev_var rfl) (ev_pow (ev_n 1 rfl) (ev_var rfl) (by omega))) (hd.mono e) (by omega)) fun v H2 e2 hv => ?_⟩
      obtain ⟨n, hv, hn⟩ := hv
      refine ⟨ss ++ [n], by rw [ha, hv, nV_append]; rfl, by rw [List.length_append, List.length_append, hl2]; rfl, fun y hy => ?_⟩
      rcases List.mem_append.mp hy with hy | hy
      · exact hlt y hy
      · rw [List.mem_singleton.mp hy]
        exact hn)
  refine k H (Ex.refl H) _ fun p H2 xs hp e2 h2 hx => ?_
  obtain ⟨l, ⟨n, hn, hn3⟩, ss, rfl, hlen, hlt⟩ := hx
  exact hQ p H2 ss hp e2 h2 ⟨by rw [hlen, hn, List.length_range]; omega, hlt⟩
end
end KW

/-! The law's own defs: the hand, words, choices. -/
namespace KW
open PySem PySem.Spec PyProof.Rows L2 Evl K64

def IsClo (C : Addr) (m : Nat) : VP := fun v H => ∃ p, IsCh C m p v H ∧ Clo m p
def sp__law_lies (C : Addr) : L2.Sp := fun vs H Q _ => ∃ (a b : Addr) (m : Nat) (p q : Nat → Bool), vs = [.ref a, .ref b] ∧ (ChAt C H a m p ∧ ChAt C H b m q) ∧ RetP (fun v _ => ∃ b : Bool, v = .bl b ∧ (b = true ↔ Lies m p q)) H Q
def sp__law_closed_choice (C : Addr) : L2.Sp := fun vs H Q _ => ∃ (a : Addr) (m : Nat), vs = [.ref a, vN m] ∧ ((1 ≤ m ∧ m ≤ 5) ∧ HandAt H a) ∧ RetP (IsClo C m) H Q

section
variable {K : PySem.W.Frag} {σ : L2.St} {H H' : Hp} {ta tb tc td te : TE} {tz tu : TS} {D : Ends} {t : TT} {A B : List Nat → Prop} {C : Addr}
theorem rv_pow {a b : Nat} (h1 : a < 2 ^ 64) (h2 : b ≤ 1000000) : RV (rI CPow fun i j => .int (i ^ j.toNat)) (vN a) (vN b) H (vN (a ^ b)) := rv_is (rv_I ⟨by omega, by omega, by simpa using h1⟩) (by
  show V.int ((a : Int) ^ ((b : Int)).toNat) = V.int ((a ^ b : Nat) : Int)
  rw [Int.toNat_natCast]
  simp)
theorem q_tail {M : L2.St → Hp → Prop} (k : ∀ σ' H', M σ' H' → tz D σ' H') (g : (∀ σ' H', M σ' H' → tz D σ' H') → tSeq tu tz D σ H) : tSeq tu tz D σ H := g k
theorem s_asgP {i : Nat} {P : VP} (h : EvP te σ H P) (k : ∀ v H1, Ex H H1 → P v H1 → D.nx (σ.set i (some v)) H1) : tAsg te (gName i) D σ H := h H (Ex.refl H) _ fun v H1 e hv => k v H1 e hv
/-- a new list of some numbers -/
def EvLN (te : TE) (σ : L2.St) (H : Hp) (P : List Nat → Prop) : Prop := ∀ H1, Ex H H1 → ∀ Q : VK, RetLN P H1 Q → te σ H1 Q
theorem EvLN.mono (e : Ex H H') (h : EvLN te σ H A) : EvLN te σ H' A := fun H1 a Q q => h H1 (e.trans a) Q q
theorem RetLN.mono {Q : VK} (k : RetLN A H Q) (e : Ex H H') : RetLN A H' Q := fun p H2 ns hp e2 h2 hA => k p H2 ns (fresh_back e hp) (e.trans e2) h2 hA
theorem RetLN.l {Q : VK} {ns : List Nat} (k : RetLN A H Q) (h : A ns) : RetL (nV ns) H Q := fun p H2 hp e2 h2 => k p H2 ns hp e2 h2 h
theorem EvL.ln {ns : List Nat} (h : EvL te σ H (nV ns)) (hA : A ns) : EvLN te σ H A := fun H1 e Q q => h H1 e Q fun p H2 hp e2 h2 => q p H2 ns hp e2 h2 hA
theorem eln_f {sp : L2.Sp} {vs : List V} {tt : TA} (h : EvA tt σ H vs) (hs : ∀ H1, Ex H H1 → ∀ Q : VK, RetLN A H1 Q → sp vs H1 Q E0) : EvLN (tCall sp [] E0 tt) σ H A := fun H1 e Q q =>
  h H1 e _ fun H2 e2 => by
    rw [List.append_nil]
    exact hs H2 (e.trans e2) Q (q.mono e2)
theorem eln_f2 {sp : L2.Sp} {x : V} (ha : Ev ta σ H x) (hb : EvLN tb σ H A) (hs : ∀ p H1 ns, Ex H H1 → H1 p = some (.lst (nV ns)) → A ns → ∀ Q : VK, RetLN B H1 Q → sp [x, .ref p] H1 Q E0) : EvLN (tCall sp [] E0 (tCons ta (tCons tb tNil))) σ H B := fun H1 e Q q =>
  ha H1 e _ fun H2 e2 => hb H2 (e.trans e2) _ fun p H3 ns hp e3 h3 hA => hs p H3 ns ((e.trans e2).trans e3) h3 hA Q (q.mono (e2.trans e3))
theorem ep_mkLN {m : Nat} (ha : Ev ta σ H (vN m)) (hb : EvLN tb σ H A) (hm : 1 ≤ m ∧ m ≤ 5) (hA : ∀ ns, A ns → ns.length ≤ 60 ∧ Lt (2 ^ m) ns) :
    EvP (tMake C (sp_init K C) [] E0 (tCons ta (tCons tb tNil))) σ H (fun v H2 => ∃ ns, A ns ∧ IsCh C m (inL ns) v H2) := fun H1 e Q q =>
  ha H1 e _ fun H2 e2 => hb H2 (e.trans e2) _ fun l H3 ns _ e3 h3 hns => spInit_of hm (hA ns hns).1 (hA ns hns).2 (sq_of h3) fun v H4 e4 hv => q v H4 ((e2.trans e3).trans e4) ⟨ns, hns, hv⟩
theorem q_asgLN {i : Nat} (h : EvLN te σ H A) (k : ∀ p H1 ns, H p = none → Ex H H1 → H1 p = some (.lst (nV ns)) → A ns → tz D (σ.set i (some (.ref p))) H1) : tSeq (tAsg te (gName i)) tz D σ H := h H (Ex.refl H) _ fun p H1 ns hp e h1 hA => k p H1 ns hp e h1 hA
theorem s_retLN (h : EvLN te σ H A) (k : RetLN A H D.rt) : tRet te D σ H := h H (Ex.refl H) _ k
theorem ev_ixs {a : Addr} {xs : List V} {j : Nat} {v : V} (ha : Ev ta σ H (.ref a)) (hb : Ev tb σ H (vN j)) (h : H a = some (.lst xs)) (hv : xs[j]? = some v) : Ev (tOp (rIxL K) ta tb) σ H v := ev_op ha hb (rv_ixL (sq_of h) (atI_nat hv))
theorem lst4 {xs : List V} {x y z : V} {Q : VK} (ha : EvL ta σ H xs) (hb : Ev tb σ H x) (hc : Ev tc σ H y) (hd : Ev td σ H z) (q : ∀ p c H2, H p = none → Ex H H2 → H2 c = some (.lst xs) → H2 p = some (.lst [.ref c, x, y, z]) → Q (.ref p) H2) :
    tLst (tCons ta (tCons tb (tCons tc (tCons td tNil)))) σ H Q :=
  ha H (Ex.refl H) _ fun c H1 _ e1 h1 => hb H1 e1 _ fun H2 e2 => hc H2 (e1.trans e2) _ fun H3 e3 => hd H3 ((e1.trans e2).trans e3) _ fun H4 e4 => ⟨by show 4 ≤ sizeLine; decide, fun p hp =>
    q p c _ (fresh_back (((e1.trans e2).trans e3).trans e4) hp) ((((e1.trans e2).trans e3).trans e4).trans (Ex.new hp)) (by
      rw [upd_ne (ne_of_none ((e2.trans (e3.trans e4)) c _ h1) hp)]
      exact (e2.trans (e3.trans e4)) c _ h1) upd_same⟩
end
section
variable {P : Program} {w : World} {K : PySem.W.Frag} {mg : Str → Option Value} {base : Heap} {C : Addr}
theorem abs_nat (i : Int) : (if i < 0 then -i else i) = (i.natAbs : Int) := by
  by_cases h : i < 0
  · rw [if_pos h]; omega
  · rw [if_neg h]; omega
abbrev N__law_hand : List Str := ["_law_script", "_law_total", "_law_at", "_law_cell"]
theorem sc__law_hand : FnScope N__law_hand ["_law_script"] (defScope s__law_hand) := ⟨rfl, rfl, rfl, by decide +kernel, rfl, by decide +kernel, by decide +kernel⟩
theorem fx0__law_hand (D : Df K mg "_law_hand" s__law_hand) (B : Bt mg)  : Fx P w K mg base 1 "_law_hand" ["_law_script"] (sp__law_hand0 K) := by
  refine D.fx (N := N__law_hand) sc__law_hand (fun vs H Q E h => by obtain ⟨_, _, rfl, _⟩ := h; rfl) (fun _ _ _ _ _ _ us hl => match us, hl with | [_], _ => rfl) (fun f cdv A outer s H vs Q E hr h => ⟨_, (pss_cons (ps_set (i := 1) sc__law_hand.nd rfl (Or.inl rfl) pe_int) (pss_cons (ps_for PassesOwn.never rfl (pi_enum rfl B.enumerate (pa_cons (pv 0) pa_nil)) (pg_tup rfl (pgs_cons (pg_name (i := 2) sc__law_hand.nd rfl (Or.inl rfl)) (pgs_cons (pg_name (i := 3) sc__law_hand.nd rfl (Or.inl rfl)) pgs_nil))) (pss_one (ps_set (i := 1) sc__law_hand.nd rfl (Or.inl rfl) (pe_op op_mod (pe_callTy call_int1 rfl B.int (by decide +kernel) (pa_cons (pe_op op_add (pe_op op_mul (pv 1) pe_int) (pe_op op_mul (pe_callTy call_int1 rfl B.int (by decide +kernel) (pa_cons (pv 3) pa_nil)) (pe_op op_add (pe_op op_mul pe_int (pv 2)) pe_int))) pa_nil)) pe_int)))) (pss_one (ps_ret (pe_lst (pa_cons (pe_lc (own := [("_law_cell", 3)]) (g := gName 3) (tt := tYes) rfl sc__law_hand.nd (pi_listK (K := K) rfl (pv 0)) (blkOk_by (sc := defScope s__law_hand) (own := [("_law_cell", 3)]) (N := N__law_hand) (by decide +kernel)) (fun _ _ _ _ _ => pg_name (i := 3) sc__law_hand.nd rfl (Or.inl rfl)) (fun _ _ _ _ _ => pts_nil) (fun _ _ _ _ _ => (pe_callB call_abs rfl B.abs (by decide +kernel) (pa_cons (pe_callTy call_int1 rfl B.int (by decide +kernel) (pa_cons (pv 3) pa_nil)) pa_nil)))) (pa_cons pe_int (pa_cons pe_int (pa_cons (pv 1) pa_nil))))))))), ?_⟩)
  obtain ⟨s0, ns, rfl, ⟨hx, hl⟩, hQ⟩ := h
  refine q_asg (ev_n 17 rfl) fun H1 e1 => ?_
  refine q_forE (φ := V.int) (l := ns) (ee_list (ea1 (ev_var rfl)) (ex_l e1 hx)) (fun pre σ' _ => ∃ t y z, σ' = [some (.ref s0), some (vN t), y, z] ∧ t < 2147483629) (fun _ _ _ _ _ q => q) (fun H1 e1 => ⟨17, _, _, rfl, by decide⟩) ?_ ?_
  · rintro Hb eb pre x post σ' H' el e ⟨t, y, z, rfl, ht⟩
    have hlen : pre.length ≤ 63 := by
      have := congrArg List.length el
      rw [List.length_append] at this
      omega
    have hmod : 0 ≤ ((t * 37 : Nat) + x * ((2 * pre.length + 3 : Nat) : Int)) % 2147483629 ∧ ((t * 37 : Nat) + x * ((2 * pre.length + 3 : Nat) : Int)) % 2147483629 < 2147483629 := ⟨Int.emod_nonneg _ (by decide), Int.emod_lt_of_pos _ (by decide)⟩
    refine s_asg (v := vN ((((t * 37 : Nat) : Int) + x * ((2 * pre.length + 3 : Nat) : Int)) % 2147483629).toNat) (ev_is (ev_op (ev_int (ev_op (ev_op (ev_var rfl) (ev_n 37 rfl) (rv_mul (by omega))) (ev_op (ev_int (ev_var rfl)) (ev_op (ev_op (ev_n 2 rfl) (ev_var rfl) (rv_mul (by decide))) (ev_n 3 rfl) rv_add) (rv_I (.inr ⟨by omega, by omega⟩))) rv_I0)) (ev_n 2147483629 rfl) (rv_I (by decide))) ?_) fun H2 e2 => ⟨e.trans e2, _, some (vN pre.length), some (.int x), rfl, by omega⟩
    show V.int _ = V.int _
    rw [Int.toNat_of_nonneg hmod.1]
    rfl
  · rintro σ' H' e ⟨t, y, z, rfl, ht⟩
    have ex := e1.trans e
    refine lst4 (xs := nV (ns.map Int.natAbs)) ?_ (ev_n 0 rfl) (ev_n 0 rfl) (ev_var rfl) fun p c H2 hp e2 h1 h2 => hQ p c (ns.map Int.natAbs) t H2 (fresh_back ex hp) (ex.trans e2) h2 ht h1 (by rw [List.length_map]; exact hl)
    rw [← map_nV]
    refine el_lcY (φ := V.int) (fun x => vN x.natAbs) (ei_list (ev_var rfl) (ex_l ex hx)) (by omega) (fun _ => rfl) fun x H3 hx3 e3 => ev_is (ev_cb (z := .int (if x < 0 then -x else x)) (ea1 (ev_int (ev_var rfl))) fun H4 e4 Q q => ⟨x, rfl, q H4 (Ex.refl H4)⟩) (by rw [abs_nat])
abbrev N__law_draw : List Str := ["_law_hand_here", "_law_many", "_law_cell", "_law_rest"]
theorem sc__law_draw : FnScope N__law_draw ["_law_hand_here", "_law_many"] (defScope s__law_draw) := ⟨rfl, rfl, rfl, by decide +kernel, rfl, by decide +kernel, by decide +kernel⟩
theorem fx0__law_draw (D : Df K mg "_law_draw" s__law_draw) (B : Bt mg) (F__law_mix : Fx P w K mg base 1 "_law_mix" ["_law_number", "_law_turn"] sp__law_mix) : Fx P w K mg base 2 "_law_draw" ["_law_hand_here", "_law_many"] sp__law_draw0 := by
  refine D.fx (N := N__law_draw) sc__law_draw (fun vs H Q E h => by obtain ⟨_, _, _, _, _, _, _, rfl, _⟩ := h; rfl) (fun _ _ _ _ _ _ us hl => match us, hl with | [_, _], _ => rfl) (fun f cdv A outer s H vs Q E hr h => ⟨_, (pss_cons (ps_if (PW.pt (pw_and (pt_cmpR op_eq (pe_ix (ix_listK (K := K) rfl) (pv 0) pe_int (fun _ _ => rfl)) pe_int (nomark _)) (pw_and1 (pt_cmpR op_lt (pe_ix (ix_listK (K := K) rfl) (pv 0) pe_int (fun _ _ => rfl)) (pe_callB call_len_seq rfl B.len (by decide +kernel) (pa_cons (pe_ix (ix_listK (K := K) rfl) (pv 0) pe_int (fun _ _ => rfl)) pa_nil)) (nomark _))))) (pss_cons (ps_set (i := 2) sc__law_draw.nd rfl (Or.inl rfl) (pe_ix (ix_listK (K := K) rfl) (pe_ix (ix_listK (K := K) rfl) (pv 0) pe_int (fun _ _ => rfl)) (pe_ix (ix_listK (K := K) rfl) (pv 0) pe_int (fun _ _ => rfl)) (fun _ _ => rfl))) (pss_cons (ps_asg (pe_op op_add (pe_ix (ix_listK (K := K) rfl) (pv 0) pe_int (fun _ _ => rfl)) pe_int) (pg_sub (pv 0) pe_int set_list)) (pss_cons (ps_if (pt_cmpR op_lt (pv 2) (pe_op op_pow pe_int pe_int) (nomark _)) (pss_one (ps_ret (pe_op op_mod (pe_callTy call_int1 rfl B.int (by decide +kernel) (pa_cons (pe_f F__law_mix hr rfl (by decide) (pa_cons (pe_op op_mod (pe_callTy call_int1 rfl B.int (by decide +kernel) (pa_cons (pv 2) pa_nil)) pe_int) (pa_cons (pe_ix (ix_listK (K := K) rfl) (pv 0) pe_int (fun _ _ => rfl)) pa_nil))) pa_nil)) (pv 1)))) pss_nil) (pss_one (ps_asg (pv 2) (pg_sub (pv 0) pe_int set_list)))))) pss_nil) (pss_cons (ps_if (pt_cmpR op_gt (pe_ix (ix_listK (K := K) rfl) (pv 0) pe_int (fun _ _ => rfl)) pe_int (nomark _)) (pss_cons (ps_set (i := 3) sc__law_draw.nd rfl (Or.inl rfl) (pe_ix (ix_listK (K := K) rfl) (pv 0) pe_int (fun _ _ => rfl))) (pss_cons (ps_asg (pe_op op_fdivN (pv 3) (pv 1)) (pg_sub (pv 0) pe_int set_list)) (pss_one (ps_ret (pe_op op_mod (pe_callTy call_int1 rfl B.int (by decide +kernel) (pa_cons (pv 3) pa_nil)) (pv 1)))))) pss_nil) (pss_cons (ps_asg (pe_op op_mod (pe_callTy call_int1 rfl B.int (by decide +kernel) (pa_cons (pe_op op_add (pe_ix (ix_listK (K := K) rfl) (pv 0) pe_int (fun _ _ => rfl)) pe_int) pa_nil)) pe_int) (pg_sub (pv 0) pe_int set_list)) (pss_one (ps_ret (pe_op op_mod (pe_callTy call_int1 rfl B.int (by decide +kernel) (pa_cons (pe_f F__law_mix hr rfl (by decide) (pa_cons (pe_ix (ix_listK (K := K) rfl) (pv 0) pe_int (fun _ _ => rfl)) (pa_cons (pe_ix (ix_listK (K := K) rfl) (pv 0) pe_int (fun _ _ => rfl)) pa_nil))) pa_nil)) (pv 1))))))), ?_⟩)
  obtain ⟨a, c, many, i, r, t, cs, rfl, ⟨hm, ⟨hi, ht⟩, ha, hc, hl⟩, hQ⟩ := h
  have hca : c ≠ a := by
    intro z
    subst z
    rw [ha] at hc
    have e6 : handV c i r t = nV cs := by injection hc with e; injection e
    cases cs with
    | nil => cases e6
    | cons z l =>
      have e7 : (V.ref c) = vN z := (List.cons.inj e6).1
      cases e7
  have hc0 : cutH H a c = some (.lst (nV cs)) := by
    unfold cutH
    rw [if_neg hca]
    exact hc
  have fin : ∀ (H1 : Hp) (i' r' t' : Nat), Ex (cutH H a) H1 → H1 a = some (.lst (handV c i' r' t')) → (i' ≤ 63 ∧ t' < 2147483629) → ∀ (v : V) (H2 : Hp), Ex H1 H2 → IsN (fun k => k < many) v H2 → Q v H2 := fun H1 i' r' t' e1 h1 hb v H2 e2 hv => by
    obtain ⟨k, rfl, hk⟩ := hv
    exact hQ k i' r' t' H2 hk hb (e1.trans e2) (e2 a _ h1)
  refine q_tail (M := fun σ' H' => ∃ (i' r' : Nat) (x y : Option V), σ' = [some (.ref a), some (vN many), x, y] ∧ i' ≤ 63 ∧ Ex (cutH H a) H' ∧ H' a = some (.lst (handV c i' r' t))) ?_ fun tail => ?_
  · rintro σ' H' ⟨i', r', x, y, rfl, hi', e, h1⟩
    refine q_when (et_test (ev_op (ev_ixs (ev_var rfl) (ev_n 2 rfl) h1 rfl) (ev_n 0 rfl) rv_gt)) (fun hb H1 e1 => ?_) (fun hb H1 e1 => ?_)
    · refine q_asg (ev_ixs (v := vN r') (ev_var rfl) (ev_n 2 rfl) (e1 a _ h1) rfl) fun H2 e2 => q_setL (j := 2) ((e1.trans e2) a _ h1) (ev_op (ev_var rfl) (ev_var rfl) (rv_div (a := r') (b := many) (by omega) (by omega))) (ev_var rfl) (ev_n 2 rfl) (show 2 < 4 by decide) fun H3 e3 => ?_
      refine s_retP (P := IsN fun k => k < many) (Ev.isN (ev_op (ev_int (ev_var rfl)) (ev_var rfl) (rv_mod (a := r') (b := many) (by omega))) (Nat.mod_lt _ (by omega))) (fin _ i' (r' / many) t (Ex.mut (((e.trans e1).trans e2).trans e3) cutH_at) upd_same ⟨hi', ht⟩)
    · refine q_setL (j := 3) (e1 a _ h1) (ev_op (ev_int (ev_op (ev_ixs (v := vN t) (ev_var rfl) (ev_n 3 rfl) (e1 a _ h1) rfl) (ev_n 1 rfl) rv_add)) (ev_n 2147483629 rfl) (rv_mod (by decide))) (ev_var rfl) (ev_n 3 rfl) (show 3 < 4 by decide) fun H3 e3 => ?_
      have ht' : (t + 1) % 2147483629 < 2147483629 := Nat.mod_lt _ (by decide)
      have h3 : (upd H3 a (.lst ((handV c i' r' t).set 3 (vN ((t + 1) % 2147483629))))) a = some (.lst (handV c i' r' ((t + 1) % 2147483629))) := upd_same
      refine s_retP (P := IsN fun k => k < many) (ep_opN (A := fun _ => True) (B := fun k => k = many) (ep_int ?_) (Ev.isN (ev_var rfl) rfl) fun x y H4 _ hy => ⟨x % y, by have : y = many := hy; rw [this]; exact Nat.mod_lt _ (by omega), rv_mod (by have : y = many := hy; omega)⟩) (fin _ i' r' _ (Ex.mut ((e.trans e1).trans e3) cutH_at) h3 ⟨hi', ht'⟩)
      exact ep_f (ea2 (ev_ixs (v := vN ((t + 1) % 2147483629)) (ev_var rfl) (ev_n 3 rfl) h3 rfl) (ev_ixs (v := vN i') (ev_var rfl) (ev_n 1 rfl) h3 rfl)) fun H4 e4 Q q => ⟨_, _, rfl, ⟨by omega, by omega⟩, fun v H5 e5 ⟨k, hk⟩ => q v H5 e5 ⟨k, hk, True.intro⟩⟩
  · have ix : ∀ {σ' : L2.St} {H' : Hp} (j : Nat) (v : V), σ'[0]? = some (some (.ref a)) → H' a = some (.lst (handV c i r t)) → (handV c i r t)[j]? = some v → Ev (tOp (rIxL K) (tVar 0) (tC (vN j))) σ' H' v := fun j v h0 h1 h2 => ev_ixs (ev_var h0) ev_c h1 h2
    have ex0 : Ex (cutH H a) H := cutH_ex
    refine q_when (et_and (et_test (ev_op (ev_ixs (v := vN r) (ev_var rfl) (ev_n 2 rfl) ha rfl) (ev_n 0 rfl) rv_eqN)) fun _ => et_test (ev_op (ev_ixs (v := vN i) (ev_var rfl) (ev_n 1 rfl) ha rfl) (ev_lenSq (ev_ixs (v := .ref c) (ev_var rfl) (ev_n 0 rfl) ha rfl) (.inl (sq_of hc))) rv_lt)) (fun hb H1 e1 => ?_) (fun hb H1 e1 => tail _ _ ⟨i, r, _, _, rfl, hi, ex0.trans e1, e1 a _ ha⟩)
    have hb2 := (Bool.and_eq_true_iff.mp hb).2
    have hic : i < cs.length := by
      have := of_decide_eq_true hb2
      rwa [nV_length] at this
    have hat : (nV cs)[i]? = some (vN cs[i]) := by
      show (cs.map vN)[i]? = _
      rw [List.getElem?_map, List.getElem?_eq_getElem hic]
      rfl
    refine q_asg (ev_ixs (v := vN cs[i]) (ev_ixs (v := .ref c) (ev_var rfl) (ev_n 0 rfl) (e1 a _ ha) rfl) (ev_ixs (v := vN i) (ev_var rfl) (ev_n 1 rfl) (e1 a _ ha) rfl) (e1 c _ hc) hat) fun H2 e2 => ?_
    generalize cs[i] = x
    refine q_setL (j := 1) ((e1.trans e2) a _ ha) (ev_op (ev_ixs (v := vN i) (ev_var rfl) (ev_n 1 rfl) ((e1.trans e2) a _ ha) rfl) (ev_n 1 rfl) rv_add) (ev_var rfl) (ev_n 1 rfl) (show 1 < 4 by decide) fun H3 e3 => ?_
    have h3 : (upd H3 a (.lst ((handV c i r t).set 1 (vN (i + 1))))) a = some (.lst (handV c (i + 1) r t)) := upd_same
    have ex3 : Ex (cutH H a) (upd H3 a (.lst ((handV c i r t).set 1 (vN (i + 1))))) := Ex.mut (((ex0.trans e1).trans e2).trans e3) cutH_at
    refine q_when (et_test (ev_op (ev_var rfl) (ev_op (ev_n 10 rfl) (ev_n 18 rfl) (rv_pow (by decide) (by decide))) rv_lt)) (fun hb4 H4 e4 => ?_) (fun hb4 H4 e4 => ?_)
    · have hx : x % 2147483647 < 2147483647 := Nat.mod_lt _ (by decide)
      refine s_retP (P := IsN fun k => k < many) (ep_opN (A := fun _ => True) (B := fun k => k = many) (ep_int ?_) (Ev.isN (ev_var rfl) rfl) fun x y H4 _ hy => ⟨x % y, by have : y = many := hy; rw [this]; exact Nat.mod_lt _ (by omega), rv_mod (by have : y = many := hy; omega)⟩) (fin _ (i + 1) r t (ex3.trans e4) (e4 a _ h3) ⟨by omega, ht⟩)
      exact ep_f (ea2 (ev_op (ev_int (ev_var rfl)) (ev_n 2147483647 rfl) (rv_mod (a := x) (by decide))) (ev_ixs (v := vN (i + 1)) (ev_var rfl) (ev_n 1 rfl) (e4 a _ h3) rfl)) fun H4 e4 Q q => ⟨_, _, rfl, ⟨hx, by omega⟩, fun v H5 e5 ⟨k, hk⟩ => q v H5 e5 ⟨k, hk, True.intro⟩⟩
    · refine s_setL (j := 2) (e4 a _ h3) (ev_var rfl) (ev_var rfl) (ev_n 2 rfl) (show 2 < 4 by decide) fun H5 e5 => tail _ _ ⟨i + 1, x, _, _, rfl, by omega, Ex.mut ((ex3.trans e4).trans e5) cutH_at, upd_same⟩
end
end KW

/-! The law's own defs: words, choices. -/
namespace KW
open PySem PySem.Spec PyProof.Rows L2 Evl K64
section
variable {P : Program} {w : World} {K : PySem.W.Frag} {mg : Str → Option Value} {base : Heap} {C : Addr}
abbrev N__law_wide : List Str := ["_law_hand_here", "_law_bits", "_law_number", "_law_k"]
theorem sc__law_wide : FnScope N__law_wide ["_law_hand_here", "_law_bits"] (defScope s__law_wide) := ⟨rfl, rfl, rfl, by decide +kernel, rfl, by decide +kernel, by decide +kernel⟩
theorem fx__law_wide (D : Df K mg "_law_wide" s__law_wide) (B : Bt mg) (F__law_draw : Fx P w K mg base 2 "_law_draw" ["_law_hand_here", "_law_many"] sp__law_draw) : Fx P w K mg base 3 "_law_wide" ["_law_hand_here", "_law_bits"] sp__law_wide := by
  refine D.fx (N := N__law_wide) sc__law_wide (fun vs H Q E h => by obtain ⟨_, _, rfl, _⟩ := h; rfl) (fun _ _ _ _ _ _ us hl => match us, hl with | [_, _], _ => rfl) (fun f cdv A outer s H vs Q E hr h => ⟨_, (pss_cons (ps_set (i := 2) sc__law_wide.nd rfl (Or.inl rfl) pe_int) (pss_cons (ps_for PassesOwn.never rfl (pi_range1 rfl B.range (pa_cons (pe_op op_fdivN (pv 1) pe_int) pa_nil)) (pg_name (i := 3) sc__law_wide.nd rfl (Or.inl rfl)) (pss_one (ps_set (i := 2) sc__law_wide.nd rfl (Or.inl rfl) (pe_op op_add (pe_op op_mul (pv 2) pe_int) (pe_f F__law_draw hr rfl (by decide) (pa_cons (pv 0) (pa_cons pe_int pa_nil))))))) (pss_one (ps_ret (pe_op op_add (pe_op op_mul (pv 2) (pe_op op_shl pe_int (pe_op op_sub (pv 1) (pe_op op_mul (pe_op op_fdivN (pv 1) pe_int) pe_int)))) (pe_f F__law_draw hr rfl (by decide) (pa_cons (pv 0) (pa_cons (pe_op op_shl pe_int (pe_op op_sub (pv 1) (pe_op op_mul (pe_op op_fdivN (pv 1) pe_int) pe_int))) pa_nil)))))))), ?_⟩)
  obtain ⟨a, n, rfl, ⟨hn, hd⟩, hQ⟩ := h
  refine q_asg (ev_n 0 rfl) fun H1 e1 => ?_
  refine q_for (φ := vN) (l := List.range (n / 8)) (ei_rng (ea1 (ev_op (ev_var rfl) (ev_n 8 rfl) (rv_div (by decide) (by decide)))) (by omega)) (fun pre σ' _ => ∃ x z, σ' = [some (.ref a), some (vN n), some (vN x), z] ∧ x < 2 ^ (8 * pre.length)) (fun H1 e1 => ⟨0, _, rfl, by decide⟩) ?_ ?_
  · rintro Hb eb pre i post σ' H' el e ⟨x, z, rfl, hx⟩
    have hlen : pre.length < n / 8 := by
      have := congrArg List.length el
      rw [List.length_range, List.length_append, List.length_cons] at this
      omega
    have hx64 : x < 2 ^ 32 := Nat.lt_of_lt_of_le hx (Nat.pow_le_pow_right (by decide) (by omega))
    refine s_asgP (ep_opN (A := fun k => k = x * 256) (D := fun k => k < 2 ^ (8 * (pre ++ [i]).length)) (Ev.isN (ev_op (ev_var rfl) (ev_n 256 rfl) (rv_mul (lt64 hx64))) rfl) (ep_draw (ea2 (ev_var rfl) (ev_n 256 rfl)) (hd.mono ((e1.trans eb).trans e)) (by decide)) fun y u H2 hy hu => ⟨y + u, ?_, rv_add⟩) fun v H2 e2 hv => ?_
    · have h1 : y = x * 256 := hy
      have h2 : u < 256 := hu
      show y + u < 2 ^ (8 * (pre ++ [i]).length)
      rw [List.length_append, List.length_singleton, Nat.mul_add, Nat.pow_add]
      show y + u < 2 ^ (8 * pre.length) * 256
      omega
    · obtain ⟨k, rfl, hk⟩ := hv
      exact ⟨e.trans e2, k, some (vN i), rfl, hk⟩
  · rintro σ' H' e ⟨x, z, rfl, hx⟩
    rw [List.length_range] at hx
    have hx64 : x < 2 ^ 32 := Nat.lt_of_lt_of_le hx (Nat.pow_le_pow_right (by decide) (by omega))
    have hr : n - n / 8 * 8 < 8 := by omega
    have hsplit : 8 * (n / 8) + (n - n / 8 * 8) = n := by omega
    have hp8 : 2 ^ (n - n / 8 * 8) ≤ 2 ^ 7 := Nat.pow_le_pow_right (by decide) (by omega)
    have hp1 := Nat.two_pow_pos (n - n / 8 * 8)
    refine s_retP (P := IsN fun k => k < 2 ^ n) (ep_opN (A := fun k => k = x * 2 ^ (n - n / 8 * 8)) (Ev.isN (ev_op (ev_var rfl) (ev_pow (ev_n 1 rfl) (ev_op (ev_var rfl) (ev_op (ev_op (ev_var rfl) (ev_n 8 rfl) (rv_div (by decide) (by decide))) (ev_n 8 rfl) (rv_mul (by omega))) (rv_sub (by omega))) (by omega)) (rv_mul (lt64 hx64))) rfl) (ep_draw (ea2 (ev_var rfl) (ev_pow (ev_n 1 rfl) (ev_op (ev_var rfl) (ev_op (ev_op (ev_var rfl) (ev_n 8 rfl) (rv_div (by decide) (by decide))) (ev_n 8 rfl) (rv_mul (by omega))) (rv_sub (by omega))) (by omega))) (hd.mono (e1.trans e)) (by omega)) fun y u H2 hy hu => ⟨y + u, ?_, rv_add⟩) fun v H2 e2 hv => hQ v H2 ((e1.trans e).trans e2) hv
    have h1 : y = x * 2 ^ (n - n / 8 * 8) := hy
    have h2 : u < 2 ^ (n - n / 8 * 8) := hu
    show y + u < 2 ^ n
    rw [h1]
    have h3 : (x + 1) * 2 ^ (n - n / 8 * 8) ≤ 2 ^ (8 * (n / 8)) * 2 ^ (n - n / 8 * 8) := Nat.mul_le_mul_right _ hx
    rw [← Nat.pow_add, hsplit, Nat.add_mul, Nat.one_mul] at h3
    omega
theorem ep_wide {σ : L2.St} {H : Hp} {tt : TA} {a : Addr} {n : Nat} (h : EvA tt σ H [.ref a, vN n]) (hd : HandAt H a) (hn : n ≤ 32) : EvP (tCall sp__law_wide [] E0 tt) σ H (IsN fun k => k < 2 ^ n) := ep_f h fun H1 e1 Q q => ⟨a, n, rfl, ⟨hn, hd.mono e1⟩, q⟩
def lets : List Nat := [3, 4, 3, 4, 3, 4, 3, 4, 5, 5, 2, 1]
theorem lets_at : ∀ n, n < 12 → lets[n]? = some (lets.getD n 0) ∧ 1 ≤ lets.getD n 0 ∧ lets.getD n 0 ≤ 5 := by decide
abbrev N__law_letters : List Str := ["_law_hand_here"]
theorem sc__law_letters : FnScope N__law_letters ["_law_hand_here"] (defScope s__law_letters) := ⟨rfl, rfl, rfl, by decide +kernel, rfl, by decide +kernel, by decide +kernel⟩
theorem fx__law_letters (D : Df K mg "_law_letters" s__law_letters) (B : Bt mg) (F__law_draw : Fx P w K mg base 2 "_law_draw" ["_law_hand_here", "_law_many"] sp__law_draw) : Fx P w K mg base 3 "_law_letters" ["_law_hand_here"] sp__law_letters := by
  refine D.fx (N := N__law_letters) sc__law_letters (fun vs H Q E h => by obtain ⟨_, rfl, _⟩ := h; rfl) (fun _ _ _ _ _ _ us hl => match us, hl with | [_], _ => rfl) (fun f cdv A outer s H vs Q E hr h => ⟨_, (pss_one (ps_ret (pe_ix (ix_listK (K := K) rfl) (pe_lst (pa_cons pe_int (pa_cons pe_int (pa_cons pe_int (pa_cons pe_int (pa_cons pe_int (pa_cons pe_int (pa_cons pe_int (pa_cons pe_int (pa_cons pe_int (pa_cons pe_int (pa_cons pe_int (pa_cons pe_int pa_nil))))))))))))) (pe_f F__law_draw hr rfl (by decide) (pa_cons (pv 0) (pa_cons pe_int pa_nil))) (fun _ _ => rfl)))), ?_⟩)
  obtain ⟨a, rfl, hd, hQ⟩ := h
  refine s_retP (P := IsN fun m => 1 ≤ m ∧ m ≤ 5) (fun H1 e Q q => ?_) hQ
  have hl : EvL (tLst (tCons (tC (.int 3)) (tCons (tC (.int 4)) (tCons (tC (.int 3)) (tCons (tC (.int 4)) (tCons (tC (.int 3)) (tCons (tC (.int 4)) (tCons (tC (.int 3)) (tCons (tC (.int 4)) (tCons (tC (.int 5)) (tCons (tC (.int 5)) (tCons (tC (.int 2)) (tCons (tC (.int 1)) tNil))))))))))))) (start N__law_letters [.ref a]) H (nV lets) :=
    el_lst (ea_cons ev_c (ea_cons ev_c (ea_cons ev_c (ea_cons ev_c (ea_cons ev_c (ea_cons ev_c (ea_cons ev_c (ea_cons ev_c (ea_cons ev_c (ea_cons ev_c (ea_cons ev_c (ea_cons ev_c ea_nil)))))))))))) (by decide)
  have hdr : EvP (tCall sp__law_draw [] E0 (tCons (tVar 0) (tCons (tC (.int 12)) tNil))) (start N__law_letters [.ref a]) H (IsN fun k => k < 12) := ep_draw (ea2 (ev_var rfl) (ev_n 12 rfl)) hd (by decide)
  exact hl H1 e _ fun p H2 hp e2 h2 => hdr H2 (e.trans e2) _ fun v H3 e3 hv => by
    obtain ⟨n, rfl, hn⟩ := hv
    have k := lets_at n hn
    refine ⟨p, nV lets, (n : Int), vN (lets.getD n 0), rfl, rfl, sq_of (e3 p _ h2), atI_nat ?_, q _ H3 (e2.trans e3) ⟨_, rfl, k.2⟩⟩
    show (lets.map vN)[n]? = _
    rw [List.getElem?_map, k.1]
    rfl
theorem heapL_ok {m : Nat} (hm : 1 ≤ m ∧ m ≤ 5) (f : Nat → Bool) : (heapL m f).length ≤ 32 ∧ Lt (2 ^ m) (heapL m f) := ⟨heaps_len60 hm f, filter_lt m f⟩
theorem eln_seeds {σ : L2.St} {H : Hp} {tt : TA} {a : Addr} {m : Nat} (h : EvA tt σ H [.ref a, vN m]) (hd : HandAt H a) (hm : 1 ≤ m ∧ m ≤ 5) : EvLN (tCall sp__law_seeds [] E0 tt) σ H (fun ss => ss.length ≤ 10 ∧ Lt (2 ^ m) ss) := eln_f h fun H1 e1 Q q => ⟨a, m, rfl, ⟨hm, hd.mono e1⟩, q⟩
theorem eln_falling {σ : L2.St} {H : Hp} {ta tb : TE} {a : Addr} {m : Nat} (ha : Ev ta σ H (vN m)) (hb : EvLN tb σ H (fun ss => ss.length ≤ 10 ∧ Lt (2 ^ m) ss)) (hm : 1 ≤ m ∧ m ≤ 5) :
    EvLN (tCall (sp__law_falling K) [] E0 (tCons ta (tCons tb tNil))) σ H (fun ns => ∃ ss, Lt (2 ^ m) ss ∧ ns = heapL m (fallP ss)) := eln_f2 ha hb fun p H1 ss e1 h1 hss Q q => ⟨m, p, ss, rfl, ⟨hm, sq_of h1, hss.1, hss.2⟩, q.l ⟨ss, hss.2, rfl⟩⟩
theorem eln_closed {σ : L2.St} {H : Hp} {ta tb : TE} {a : Addr} {m : Nat} (ha : Ev ta σ H (vN m)) (hb : EvLN tb σ H (fun ss => ss.length ≤ 10 ∧ Lt (2 ^ m) ss)) (hm : 1 ≤ m ∧ m ≤ 5) :
    EvLN (tCall (sp__law_closed K) [] E0 (tCons ta (tCons tb tNil))) σ H (fun ns => ∃ ss, Lt (2 ^ m) ss ∧ ns = heapL m (cloP ss)) := eln_f2 ha hb fun p H1 ss e1 h1 hss Q q => ⟨m, p, ss, rfl, ⟨hm, sq_of h1, hss.1, hss.2⟩, q.l ⟨ss, hss.2, rfl⟩⟩
abbrev N__law_choice : List Str := ["_law_hand_here", "_law_m", "_law_style", "_law_bits", "_law_heap", "_law_heaps", "_law_turned"]
theorem sc__law_choice : FnScope N__law_choice ["_law_hand_here", "_law_m"] (defScope s__law_choice) := ⟨rfl, rfl, rfl, by decide +kernel, rfl, by decide +kernel, by decide +kernel⟩
theorem fx__law_choice (D : Df K mg "_law_choice" s__law_choice) (B : Bt mg) (F__law_draw : Fx P w K mg base 2 "_law_draw" ["_law_hand_here", "_law_many"] sp__law_draw) (F__law_falling : Fx P w K mg base 3 "_law_falling" ["_law_m", "_law_seeds_here"] (sp__law_falling K)) (F__law_seeds : Fx P w K mg base 3 "_law_seeds" ["_law_hand_here", "_law_m"] sp__law_seeds) (F__law_closed : Fx P w K mg base 1 "_law_closed" ["_law_m", "_law_seeds_here"] (sp__law_closed K)) (F__law_wide : Fx P w K mg base 3 "_law_wide" ["_law_hand_here", "_law_bits"] sp__law_wide) : Fx P w K mg base 4 "_law_choice" ["_law_hand_here", "_law_m"] sp__law_choice := by
  refine D.fx (N := N__law_choice) sc__law_choice (fun vs H Q E h => by obtain ⟨_, _, rfl, _⟩ := h; rfl) (fun _ _ _ _ _ _ us hl => match us, hl with | [_, _], _ => rfl) (fun f cdv A outer s H vs Q E hr h => ⟨_, (pss_cons (ps_set (i := 2) sc__law_choice.nd rfl (Or.inl rfl) (pe_f F__law_draw hr rfl (by decide) (pa_cons (pv 0) (pa_cons pe_int pa_nil)))) (pss_cons (ps_if (pt_cmpR op_lt (pv 2) pe_int (nomark _)) (pss_one (ps_ret (pe_f F__law_falling hr rfl (by decide) (pa_cons (pv 1) (pa_cons (pe_f F__law_seeds hr rfl (by decide) (pa_cons (pv 0) (pa_cons (pv 1) pa_nil))) pa_nil))))) pss_nil) (pss_cons (ps_if (pt_cmpR op_lt (pv 2) pe_int (nomark _)) (pss_one (ps_ret (pe_f F__law_closed hr rfl (by decide) (pa_cons (pv 1) (pa_cons (pe_f F__law_seeds hr rfl (by decide) (pa_cons (pv 0) (pa_cons (pv 1) pa_nil))) pa_nil))))) pss_nil) (pss_cons (ps_if (pt_cmpR op_eq (pv 2) pe_int (nomark _)) (pss_cons (ps_set (i := 3) sc__law_choice.nd rfl (Or.inr rfl) (pe_f F__law_wide hr rfl (by decide) (pa_cons (pv 0) (pa_cons (pe_op op_shl pe_int (pv 1)) pa_nil)))) (pss_one (ps_ret (pe_lc (own := [("_law_heap", 4)]) (g := gName 4) rfl sc__law_choice.nd (pi_range1 rfl B.range (pa_cons (pe_op op_shl pe_int (pv 1)) pa_nil)) (blkOk_by (sc := defScope s__law_choice) (own := [("_law_heap", 4)]) (N := N__law_choice) (by decide +kernel)) (fun _ _ _ _ _ => pg_name (i := 4) sc__law_choice.nd rfl (Or.inl rfl)) (fun _ _ _ _ _ => pts_one (pt_cmpR op_eq (pe_op op_and (pe_op op_shr (pv 3) (pv 4)) pe_int) pe_int (nomark _))) (fun _ _ _ _ _ => (pv 4)))))) pss_nil) (pss_cons (ps_set (i := 5) sc__law_choice.nd rfl (Or.inr rfl) (pe_f F__law_falling hr rfl (by decide) (pa_cons (pv 1) (pa_cons (pe_f F__law_seeds hr rfl (by decide) (pa_cons (pv 0) (pa_cons (pv 1) pa_nil))) pa_nil)))) (pss_cons (ps_set (i := 6) sc__law_choice.nd rfl (Or.inr rfl) (pe_f F__law_draw hr rfl (by decide) (pa_cons (pv 0) (pa_cons (pe_op op_shl pe_int (pv 1)) pa_nil)))) (pss_one (ps_ret (pe_lc (own := [("_law_heap", 4)]) (g := gName 4) rfl sc__law_choice.nd (pi_range1 rfl B.range (pa_cons (pe_op op_shl pe_int (pv 1)) pa_nil)) (blkOk_by (sc := defScope s__law_choice) (own := [("_law_heap", 4)]) (N := N__law_choice) (by decide +kernel)) (fun _ _ _ _ _ => pg_name (i := 4) sc__law_choice.nd rfl (Or.inl rfl)) (fun _ _ _ _ _ => pts_one (pt_cmpR op_ne (pe_cmpR (op_inK (K := K) rfl) (pv 4) (pv 5) (by with_unfolding_all rfl)) (pe_cmpR op_eq (pv 4) (pv 6) (nomark _)) (nomark _))) (fun _ _ _ _ _ => (pv 4))))))))))), ?_⟩)
  obtain ⟨a, m, rfl, ⟨hm, hd⟩, hQ⟩ := h
  have hs := shl_le hm
  refine q_asgP (ep_draw (ea2 (ev_var rfl) (ev_n 8 rfl)) hd (by decide)) fun v H1 e1 hv => ?_
  obtain ⟨st, rfl, _⟩ := hv
  refine q_when (et_test (ev_op (ev_var rfl) (ev_n 4 rfl) rv_lt)) (fun hb H2 e2 => ?_) fun hb H2 e2 => ?_
  · refine s_retLN (eln_falling (a := a) (ev_var rfl) (eln_seeds (ea2 (ev_var rfl) (ev_var rfl)) (hd.mono (e1.trans e2)) hm) hm) fun p H3 ns hp e3 h3 hns => hQ p H3 ns (fresh_back (e1.trans e2) hp) ((e1.trans e2).trans e3) h3 ?_
    obtain ⟨ss, _, rfl⟩ := hns
    exact heapL_ok hm _
  refine q_when (et_test (ev_op (ev_var rfl) (ev_n 6 rfl) rv_lt)) (fun hb3 H3 e3 => ?_) fun hb3 H3 e3 => ?_
  · refine s_retLN (eln_closed (a := a) (ev_var rfl) (eln_seeds (ea2 (ev_var rfl) (ev_var rfl)) (hd.mono ((e1.trans e2).trans e3)) hm) hm) fun p H4 ns hp e4 h4 hns => hQ p H4 ns (fresh_back ((e1.trans e2).trans e3) hp) (((e1.trans e2).trans e3).trans e4) h4 ?_
    obtain ⟨ss, _, rfl⟩ := hns
    exact heapL_ok hm _
  have ex := (e1.trans e2).trans e3
  refine q_when (et_test (ev_op (ev_var rfl) (ev_n 6 rfl) rv_eqN)) (fun hb4 H4 e4 => ?_) fun hb4 H4 e4 => ?_
  · refine q_asgP (ep_wide (ea2 (ev_var rfl) (ev_pow (ev_n 1 rfl) (ev_var rfl) (by omega))) (hd.mono (ex.trans e4)) (by omega)) fun v H5 e5 hv => ?_
    obtain ⟨bits, rfl, _⟩ := hv
    refine s_retLN (EvL.ln (ns := heapL m fun x => decide ((bits >>> x) &&& 1 = 1)) (el_lc (φ := vN) (fun x => decide ((bits >>> x) &&& 1 = 1)) vN (ei_rng (n := 2 ^ m) (ea1 (ev_pow (ev_n 1 rfl) (ev_var rfl) (by omega))) (by omega)) (by rw [List.length_range]; omega) (fun _ => rfl) (fun x H6 hx e6 => et_test (ev_op (ev_op (ev_op (ev_var rfl) (ev_var rfl) rv_shr) (ev_n 1 rfl) rv_and) (ev_n 1 rfl) rv_eqN)) fun x H6 hx e6 _ => ev_var rfl) (heapL_ok hm _)) fun p H6 ns hp e6 h6 hns => hQ p H6 ns (fresh_back ((ex.trans e4).trans e5) hp) (((ex.trans e4).trans e5).trans e6) h6 hns
  · refine q_asgLN (eln_falling (a := a) (ev_var rfl) (eln_seeds (ea2 (ev_var rfl) (ev_var rfl)) (hd.mono (ex.trans e4)) hm) hm) fun l H5 hs5 _ e5 h5 _ => ?_
    refine q_asgP (ep_draw (ea2 (ev_var rfl) (ev_pow (ev_n 1 rfl) (ev_var rfl) (by omega))) (hd.mono ((ex.trans e4).trans e5)) (by omega)) fun v H6 e6 hv => ?_
    obtain ⟨tu, rfl, _⟩ := hv
    refine s_retLN (EvL.ln (ns := heapL m fun x => !decide (V.bl (decide (x ∈ hs5)) = V.bl (decide (x = tu)))) (el_lc (φ := vN) (fun x => !decide (V.bl (decide (x ∈ hs5)) = V.bl (decide (x = tu)))) vN (ei_rng (n := 2 ^ m) (ea1 (ev_pow (ev_n 1 rfl) (ev_var rfl) (by omega))) (by omega)) (by rw [List.length_range]; omega) (fun _ => rfl) (fun x H7 hx e7 => et_test (ev_op (ev_is (ev_op (ev_var rfl) (ev_var rfl) (rv_inSet (K := K) (neg := false) (.inl (sq_of ((e6.trans e7) l _ h5))))) rfl) (ev_op (ev_var rfl) (ev_var rfl) rv_eqN) (rv_ne rfl))) fun x H7 hx e7 _ => ev_var rfl) (heapL_ok hm _)) fun p H7 ns hp e7 h7 hns => hQ p H7 ns (fresh_back (((ex.trans e4).trans e5).trans e6) hp) ((((ex.trans e4).trans e5).trans e6).trans e7) h7 hns
abbrev N__law_any_word : List Str := ["_law_hand_here", "_law_m"]
theorem sc__law_any_word : FnScope N__law_any_word ["_law_hand_here", "_law_m"] (defScope s__law_any_word) := ⟨rfl, rfl, rfl, by decide +kernel, rfl, by decide +kernel, by decide +kernel⟩
theorem fx__law_any_word (D : Df K mg "_law_any_word" s__law_any_word) (B : Bt mg) (F__law_wide : Fx P w K mg base 3 "_law_wide" ["_law_hand_here", "_law_bits"] sp__law_wide) : Fx P w K mg base 4 "_law_any_word" ["_law_hand_here", "_law_m"] sp__law_any_word := by
  refine D.fx (N := N__law_any_word) sc__law_any_word (fun vs H Q E h => by obtain ⟨_, _, rfl, _⟩ := h; rfl) (fun _ _ _ _ _ _ us hl => match us, hl with | [_, _], _ => rfl) (fun f cdv A outer s H vs Q E hr h => ⟨_, (pss_one (ps_ret (pe_f F__law_wide hr rfl (by decide) (pa_cons (pv 0) (pa_cons (pe_op op_shl pe_int (pv 1)) pa_nil))))), ?_⟩)
  obtain ⟨a, m, rfl, ⟨hm, hd⟩, hQ⟩ := h
  have hs := shl_le hm
  exact s_retP (ep_wide (ea2 (ev_var rfl) (ev_pow (ev_n 1 rfl) (ev_var rfl) (by omega))) hd (by omega)) hQ
abbrev N__law_code_word : List Str := ["_law_hand_here", "_law_m", "_law_heaps", "_law_word", "_law_bits", "_law_at", "_law_heap"]
theorem sc__law_code_word : FnScope N__law_code_word ["_law_hand_here", "_law_m", "_law_heaps"] (defScope s__law_code_word) := ⟨rfl, rfl, rfl, by decide +kernel, rfl, by decide +kernel, by decide +kernel⟩
theorem fx__law_code_word (D : Df K mg "_law_code_word" s__law_code_word) (B : Bt mg) (F__law_wide : Fx P w K mg base 3 "_law_wide" ["_law_hand_here", "_law_bits"] sp__law_wide) (F__law_heap_word : Fx P w K mg base 1 "_law_heap_word" ["_law_m", "_law_heap"] sp__law_heap_word) : Fx P w K mg base 4 "_law_code_word" ["_law_hand_here", "_law_m", "_law_heaps"] (sp__law_code_word K) := by
  refine D.fx (N := N__law_code_word) sc__law_code_word (fun vs H Q E h => by obtain ⟨_, _, _, _, rfl, _⟩ := h; rfl) (fun _ _ _ _ _ _ us hl => match us, hl with | [_, _, _], _ => rfl) (fun f cdv A outer s H vs Q E hr h => ⟨_, (pss_cons (ps_set (i := 3) sc__law_code_word.nd rfl (Or.inl rfl) pe_int) (pss_cons (ps_set (i := 4) sc__law_code_word.nd rfl (Or.inl rfl) (pe_f F__law_wide hr rfl (by decide) (pa_cons (pv 0) (pa_cons (pe_callB call_len_seq rfl B.len (by decide +kernel) (pa_cons (pv 2) pa_nil)) pa_nil)))) (pss_cons (ps_for PassesOwn.never rfl (pi_enum rfl B.enumerate (pa_cons (pv 2) pa_nil)) (pg_tup rfl (pgs_cons (pg_name (i := 5) sc__law_code_word.nd rfl (Or.inl rfl)) (pgs_cons (pg_name (i := 6) sc__law_code_word.nd rfl (Or.inl rfl)) pgs_nil))) (pss_one (ps_if (pt_cmpR op_eq (pe_op op_and (pe_op op_shr (pv 4) (pv 5)) pe_int) pe_int (nomark _)) (pss_one (ps_set (i := 3) sc__law_code_word.nd rfl (Or.inl rfl) (pe_op op_xor (pv 3) (pe_f F__law_heap_word hr rfl (by decide) (pa_cons (pv 1) (pa_cons (pv 6) pa_nil)))))) pss_nil))) (pss_one (ps_ret (pv 3)))))), ?_⟩)
  obtain ⟨a, m, l, ns, rfl, ⟨hm, hd, hx, hl, hlt⟩, hQ⟩ := h
  refine q_asg (ev_n 0 rfl) fun H1 e1 => q_asgP (ep_wide (n := ns.length) (ea2 (ev_var rfl) (ev_is (ev_lenSq (ev_var rfl) (.inl (ex_l e1 hx))) (by rw [nV_length]))) (hd.mono e1) hl) fun v H2 e2 hv => ?_
  obtain ⟨bits, rfl, _⟩ := hv
  have ex := e1.trans e2
  refine q_forE (φ := vN) (l := ns) (ee_list (ea1 (ev_var rfl)) (ex_l ex hx)) (fun pre σ' _ => ∃ wd y z, σ' = [some (.ref a), some (vN m), some (.ref l), some (vN wd), some (vN bits), y, z] ∧ K64.Sp (ns.map (mon m)) wd) (fun _ _ _ _ _ q => q) (fun H1 e1 => ⟨0, _, _, rfl, .zero⟩) ?_ ?_
  · rintro Hb eb pre n post σ' H' el e ⟨wd, y, z, rfl, hsp⟩
    have hn := mem_pre el
    refine s_when (et_test (ev_op (ev_op (ev_op (ev_var rfl) (ev_var rfl) rv_shr) (ev_n 1 rfl) rv_and) (ev_n 1 rfl) rv_eqN)) (fun hb H3 e3 => s_asg (ev_op (ev_var rfl) (ev_lmon (ea2 (ev_var rfl) (ev_var rfl)) hm (hlt n hn)) rv_xor) fun H4 e4 => ⟨(e.trans e3).trans e4, _, some (vN pre.length), some (vN n), rfl, hsp.xor (.one (List.mem_map.mpr ⟨n, hn, rfl⟩))⟩) (fun hb H3 e3 => ⟨e.trans e3, wd, some (vN pre.length), some (vN n), rfl, hsp⟩)
  · rintro σ' H' e ⟨wd, y, z, rfl, hsp⟩
    exact s_ret (ev_var rfl) fun H3 e3 => hQ _ H3 ((ex.trans e).trans e3) ⟨wd, rfl, hsp⟩
abbrev N__law_hrows : List Str := ["_law_m", "_law_heaps", "_law_heap"]
theorem sc__law_hrows : FnScope N__law_hrows ["_law_m", "_law_heaps"] (defScope s__law_hrows) := ⟨rfl, rfl, rfl, by decide +kernel, rfl, by decide +kernel, by decide +kernel⟩
theorem fx__law_hrows (D : Df K mg "_law_hrows" s__law_hrows) (B : Bt mg) (F__law_heap_word : Fx P w K mg base 1 "_law_heap_word" ["_law_m", "_law_heap"] sp__law_heap_word) : Fx P w K mg base 2 "_law_hrows" ["_law_m", "_law_heaps"] (sp__law_hrows K) := by
  refine D.fx (N := N__law_hrows) sc__law_hrows (fun vs H Q E h => by obtain ⟨_, _, _, rfl, _⟩ := h; rfl) (fun _ _ _ _ _ _ us hl => match us, hl with | [_, _], _ => rfl) (fun f cdv A outer s H vs Q E hr h => ⟨_, (pss_one (ps_ret (pe_lc (own := [("_law_heap", 2)]) (g := gName 2) (tt := tYes) rfl sc__law_hrows.nd (pi_listK (K := K) rfl (pv 1)) (blkOk_by (sc := defScope s__law_hrows) (own := [("_law_heap", 2)]) (N := N__law_hrows) (by decide +kernel)) (fun _ _ _ _ _ => pg_name (i := 2) sc__law_hrows.nd rfl (Or.inl rfl)) (fun _ _ _ _ _ => pts_nil) (fun _ _ _ _ _ => (pe_f F__law_heap_word hr rfl (by decide) (pa_cons (pv 0) (pa_cons (pv 2) pa_nil))))))), ?_⟩)
  obtain ⟨m, l, ns, rfl, ⟨hm, hx, hl, hlt⟩, hQ⟩ := h
  refine s_retL (xs := nV (ns.map (mon m))) ?_ hQ
  rw [← map_nV]
  exact el_lcY (φ := vN) (fun n => vN (mon m n)) (ei_list (ev_var rfl) hx) (by omega) (fun _ => rfl) fun n H1 hn e1 => ev_lmon (ea2 (ev_var rfl) (ev_var rfl)) hm (hlt n hn)
theorem cut_nV (ns : List Nat) (i j : Nat) : ∃ ms : List Nat, cutV (nV ns) (some (i : Int)) (some (j : Int)) = nV ms ∧ (∀ x ∈ ms, x ∈ ns) ∧ ms.length ≤ j - i := by
  have sx : ∀ (n d k : Nat), HT.sIx n d (some (k : Int)) = min k n := fun n d k => by
    unfold HT.sIx
    first | omega | (simp; omega) | skip
  refine ⟨(ns.drop (min i ns.length)).take (min j ns.length - min i ns.length), ?_, fun x hx => List.mem_of_mem_drop (List.mem_of_mem_take hx), ?_⟩
  · unfold cutV
    rw [sx, sx, nV_length]
    show ((ns.map vN).drop _).take _ = ((ns.drop _).take _).map vN
    rw [List.map_take, List.map_drop]
  · rw [List.length_take]
    omega
abbrev N__law_hcut : List Str := ["_law_hand_here", "_law_heaps", "_law_most", "_law_at"]
theorem sc__law_hcut : FnScope N__law_hcut ["_law_hand_here", "_law_heaps", "_law_most"] (defScope s__law_hcut) := ⟨rfl, rfl, rfl, by decide +kernel, rfl, by decide +kernel, by decide +kernel⟩
theorem fx__law_hcut (D : Df K mg "_law_hcut" s__law_hcut) (B : Bt mg) (F__law_draw : Fx P w K mg base 2 "_law_draw" ["_law_hand_here", "_law_many"] sp__law_draw) : Fx P w K mg base 3 "_law_hcut" ["_law_hand_here", "_law_heaps", "_law_most"] (sp__law_hcut K) := by
  refine D.fx (N := N__law_hcut) sc__law_hcut (fun vs H Q E h => by obtain ⟨_, _, _, _, rfl, _⟩ := h; rfl) (fun _ _ _ _ _ _ us hl => match us, hl with | [_, _, _], _ => rfl) (fun f cdv A outer s H vs Q E hr h => ⟨_, (pss_cons (ps_if (pt_cmpR op_le (pe_callB call_len_seq rfl B.len (by decide +kernel) (pa_cons (pv 1) pa_nil)) (pv 2) (nomark _)) (pss_one (ps_ret (pv 1))) pss_nil) (pss_cons (ps_set (i := 3) sc__law_hcut.nd rfl (Or.inl rfl) (pe_f F__law_draw hr rfl (by decide) (pa_cons (pv 0) (pa_cons (pe_op op_add (pe_op op_sub (pe_callB call_len_seq rfl B.len (by decide +kernel) (pa_cons (pv 1) pa_nil)) (pv 2)) pe_int) pa_nil)))) (pss_one (ps_ret (pe_slice sl_list (pv 1) (po_some (pv 3)) (po_some (pe_op op_add (pv 3) (pv 2)))))))), ?_⟩)
  obtain ⟨a, m, l, ns, rfl, ⟨hd, hx, hl, hlt⟩, hQ⟩ := h
  refine q_when (et_test (ev_op (ev_lenSq (ev_var rfl) (.inl (sq_of hx))) (ev_var rfl) rv_le)) (fun hb H1 e1 => ?_) fun hb H1 e1 => ?_
  · have hb := of_decide_eq_true hb
    rw [nV_length] at hb
    exact s_ret (ev_var rfl) fun H2 e2 => hQ _ H2 (e1.trans e2) ⟨l, ns, rfl, (e1.trans e2) l _ hx, hb, hlt⟩
  · have hb := of_decide_eq_false hb
    rw [nV_length] at hb
    refine q_asgP (ep_draw (many := ns.length - 12 + 1) (ea2 (ev_var rfl) (ev_op (ev_op (ev_is (ev_lenSq (ev_var rfl) (.inl (sq_of (e1 l _ hx)))) (by rw [nV_length])) (ev_var rfl) (rv_sub (by omega))) (ev_n 1 rfl) rv_add)) (hd.mono e1) (by omega)) fun v H2 e2 hv => ?_
    obtain ⟨at', rfl, hat⟩ := hv
    obtain ⟨ms, h1, h2, h3⟩ := cut_nV ns at' (at' + 12)
    refine s_retL (xs := nV ms) (by
      rw [← h1]
      exact el_sl (ev_var rfl) (eo_some (ev_var rfl)) (eo_some (ev_op (ev_var rfl) (ev_var rfl) rv_add)) (sq_of ((e1.trans e2) l _ hx))) fun p H3 hp e3 h4 => hQ _ H3 ((e1.trans e2).trans e3) ⟨p, ms, rfl, h4, by omega, fun x hx => hlt x (h2 x hx)⟩
abbrev N__law_lies : List Str := ["_law_choice_here", "_law_other", "_law_heap"]
theorem sc__law_lies : FnScope N__law_lies ["_law_choice_here", "_law_other"] (defScope s__law_lies) := ⟨rfl, rfl, rfl, by decide +kernel, rfl, by decide +kernel, by decide +kernel⟩
theorem fx__law_lies (D : Df K mg "_law_lies" s__law_lies) (B : Bt mg)  (F_contains : Ox P w K mg base 2 C "__contains__" ["self", "heap"] (sp_contains C)) (F_iter : Ix P w K mg base 1 C) (hC : CH K mg C) : Fx P w K mg base 3 "_law_lies" ["_law_choice_here", "_law_other"] (sp__law_lies C) := by
  refine D.fx (N := N__law_lies) sc__law_lies (fun vs H Q E h => by obtain ⟨_, _, _, _, _, rfl, _⟩ := h; rfl) (fun _ _ _ _ _ _ us hl => match us, hl with | [_, _], _ => rfl) (fun f cdv A outer s H vs Q E hr h => ⟨_, (pss_one (ps_ret (pe_cmpR (op_eqD hr.units) (pe_lc (own := [("_law_heap", 2)]) (g := gName 2) rfl sc__law_lies.nd (pi_own (K := K) rfl F_iter hr (by decide) (pv 0)) (blkOk_by (sc := defScope s__law_lies) (own := [("_law_heap", 2)]) (N := N__law_lies) (by decide +kernel)) (fun _ _ _ _ _ => pg_name (i := 2) sc__law_lies.nd rfl (Or.inl rfl)) (fun _ _ _ _ _ => pts_one (pt_cmpR (own_notin F_contains hr (by decide)) (pv 2) (pv 1) (by with_unfolding_all rfl))) (fun _ _ _ _ _ => (pv 2))) (pe_lst pa_nil) (nomark _)))), ?_⟩)
  obtain ⟨a, b, m, p, q, rfl, ⟨c, d⟩, hQ⟩ := h
  refine s_ret (ev_opLL (xs := nV (((heaps m p).filter fun x => !q x))) (ys := nV []) (el_lc (φ := vN) (fun x => !q x) vN (ei_own (ev_var rfl) c) (by have := heaps_len60 c.1 p; omega) (fun _ => rfl) (fun x H1 hx e1 => et_test (ev_notinOwn (ev_var rfl) (ev_var rfl) (d.mono e1) (mem_heaps.mp hx).1)) fun x H1 hx e1 _ => ev_var rfl) (el_lst ea_nil (by decide)) fun p1 q1 H1 h1 h2 e1 => rv_eqL (sq_of h1) (sq_of h2)) fun H1 e1 => hQ _ H1 e1 ⟨_, rfl, ?_⟩
  rw [decide_eq_true_iff, List.filter_eq_nil_iff]
  constructor
  · intro k x hx hp
    have := k x (mem_heaps.mpr ⟨hx, hp⟩)
    simpa using this
  · intro k x hx
    have hx := mem_heaps.mp hx
    rw [k x hx.1 hx.2]
    decide
theorem pop_mono : ∀ h, h < 32 → ∀ g, g < 32 → g &&& h = g → ∀ l, l < 5 → pop (g >>> l) ≤ pop (h >>> l) := by decide +kernel
theorem clo_fall {m : Nat} (hm : 1 ≤ m ∧ m ≤ 5) (ss : List Nat) : Clo m (fallP ss) := fun h hh hp g s => by
  have hs := shl_le hm
  have hg := s.lt hh
  obtain ⟨k, hk, hb⟩ := List.any_eq_true.mp hp
  refine List.any_eq_true.mpr ⟨k, hk, List.all_eq_true.mpr fun l hl => decide_eq_true ?_⟩
  have h1 := of_decide_eq_true (List.all_eq_true.mp hb l hl)
  have h2 := pop_mono h (by omega) g (by omega) s l (List.mem_range.mp hl)
  omega
theorem clo_clo {m : Nat} (ss : List Nat) : Clo m (cloP ss) := fun h hh hp g s => by
  obtain ⟨k, hk, hb⟩ := List.any_eq_true.mp hp
  have h2 : h &&& k = h := of_decide_eq_true hb
  have h3 : Sub g k := s.trans h2
  exact List.any_eq_true.mpr ⟨k, hk, decide_eq_true (show g &&& k = g from h3)⟩
abbrev N__law_closed_choice : List Str := ["_law_hand_here", "_law_m", "_law_turn", "_law_heap"]
theorem sc__law_closed_choice : FnScope N__law_closed_choice ["_law_hand_here", "_law_m"] (defScope s__law_closed_choice) := ⟨rfl, rfl, rfl, by decide +kernel, rfl, by decide +kernel, by decide +kernel⟩
theorem fx__law_closed_choice (D : Df K mg "_law_closed_choice" s__law_closed_choice) (B : Bt mg) (F__law_draw : Fx P w K mg base 2 "_law_draw" ["_law_hand_here", "_law_many"] sp__law_draw) (F_Choice : Mx P w K mg base 5 "Choice" C ["self", "letters", "heaps"] (sp_init K C)) (F__law_falling : Fx P w K mg base 3 "_law_falling" ["_law_m", "_law_seeds_here"] (sp__law_falling K)) (F__law_seeds : Fx P w K mg base 3 "_law_seeds" ["_law_hand_here", "_law_m"] sp__law_seeds) (F__law_closed : Fx P w K mg base 1 "_law_closed" ["_law_m", "_law_seeds_here"] (sp__law_closed K)) (hC : CH K mg C) : Fx P w K mg base 7 "_law_closed_choice" ["_law_hand_here", "_law_m"] (sp__law_closed_choice C) := by
  refine D.fx (N := N__law_closed_choice) sc__law_closed_choice (fun vs H Q E h => by obtain ⟨_, _, rfl, _⟩ := h; rfl) (fun _ _ _ _ _ _ us hl => match us, hl with | [_, _], _ => rfl) (fun f cdv A outer s H vs Q E hr h => ⟨_, (pss_cons (ps_set (i := 2) sc__law_closed_choice.nd rfl (Or.inl rfl) (pe_f F__law_draw hr rfl (by decide) (pa_cons (pv 0) (pa_cons pe_int pa_nil)))) (pss_cons (ps_if (pt_cmpR op_eq (pv 2) pe_int (nomark _)) (pss_one (ps_ret (pe_mk F_Choice hr rfl (by decide) (pa_cons (pv 1) (pa_cons (pe_lst pa_nil) pa_nil))))) pss_nil) (pss_cons (ps_if (pt_cmpR op_eq (pv 2) pe_int (nomark _)) (pss_one (ps_ret (pe_mk F_Choice hr rfl (by decide) (pa_cons (pv 1) (pa_cons (pe_lc (own := [("_law_heap", 3)]) (g := gName 3) (tt := tYes) rfl sc__law_closed_choice.nd (pi_range1 rfl B.range (pa_cons (pe_op op_shl pe_int (pv 1)) pa_nil)) (blkOk_by (sc := defScope s__law_closed_choice) (own := [("_law_heap", 3)]) (N := N__law_closed_choice) (by decide +kernel)) (fun _ _ _ _ _ => pg_name (i := 3) sc__law_closed_choice.nd rfl (Or.inl rfl)) (fun _ _ _ _ _ => pts_nil) (fun _ _ _ _ _ => (pv 3))) pa_nil))))) pss_nil) (pss_cons (ps_if (pt_cmpR op_lt (pv 2) pe_int (nomark _)) (pss_one (ps_ret (pe_mk F_Choice hr rfl (by decide) (pa_cons (pv 1) (pa_cons (pe_f F__law_falling hr rfl (by decide) (pa_cons (pv 1) (pa_cons (pe_f F__law_seeds hr rfl (by decide) (pa_cons (pv 0) (pa_cons (pv 1) pa_nil))) pa_nil))) pa_nil))))) pss_nil) (pss_one (ps_ret (pe_mk F_Choice hr rfl (by decide) (pa_cons (pv 1) (pa_cons (pe_f F__law_closed hr rfl (by decide) (pa_cons (pv 1) (pa_cons (pe_f F__law_seeds hr rfl (by decide) (pa_cons (pv 0) (pa_cons (pv 1) pa_nil))) pa_nil))) pa_nil))))))))), ?_⟩)
  obtain ⟨a, m, rfl, ⟨hm, hd⟩, hQ⟩ := h
  have hs := shl_le hm
  refine q_asgP (ep_draw (ea2 (ev_var rfl) (ev_n 8 rfl)) hd (by decide)) fun v H1 e1 hv => ?_
  obtain ⟨st, rfl, _⟩ := hv
  refine q_when (et_test (ev_op (ev_var rfl) (ev_n 0 rfl) rv_eqN)) (fun hb H2 e2 => ?_) fun hb H2 e2 => ?_
  · exact s_retP (ep_mkN (ns := []) (ev_var rfl) (el_lst ea_nil (by decide)) hm (by decide) (fun _ h => nomatch h)) fun v H3 e3 hv => hQ v H3 ((e1.trans e2).trans e3) ⟨_, hv, fun h hh hp => by cases hp⟩
  refine q_when (et_test (ev_op (ev_var rfl) (ev_n 1 rfl) rv_eqN)) (fun hb3 H3 e3 => ?_) fun hb3 H3 e3 => ?_
  · refine s_retP (ep_mkN (ns := List.range (2 ^ m)) (ev_var rfl) (el_lcY (φ := vN) vN (ei_rng (n := 2 ^ m) (ea1 (ev_pow (ev_n 1 rfl) (ev_var rfl) (by omega))) (by omega)) (by rw [List.length_range]; omega) (fun _ => rfl) fun x H4 hx e4 => ev_var rfl) hm (by rw [List.length_range]; omega) (fun x hx => List.mem_range.mp hx)) fun v H4 e4 hv => hQ v H4 (((e1.trans e2).trans e3).trans e4) ⟨_, hv, fun h hh hp g s => decide_eq_true (List.mem_range.mpr (s.lt hh))⟩
  have ex := (e1.trans e2).trans e3
  refine q_when (et_test (ev_op (ev_var rfl) (ev_n 5 rfl) rv_lt)) (fun hb4 H4 e4 => ?_) fun hb4 H4 e4 => ?_
  · refine s_retP (ep_mkLN (ev_var rfl) (eln_falling (a := a) (ev_var rfl) (eln_seeds (ea2 (ev_var rfl) (ev_var rfl)) (hd.mono (ex.trans e4)) hm) hm) hm (fun ns hns => by
      obtain ⟨ss, _, rfl⟩ := hns
      exact ⟨Nat.le_trans (heapL_ok hm _).1 (by decide), (heapL_ok hm _).2⟩)) fun v H5 e5 hv => ?_
    obtain ⟨ns, ⟨ss, _, rfl⟩, hv⟩ := hv
    exact hQ v H5 ((ex.trans e4).trans e5) ⟨fallP ss, hv.congr fun x hx => heaps_range m _ hx, clo_fall hm ss⟩
  · refine s_retP (ep_mkLN (ev_var rfl) (eln_closed (a := a) (ev_var rfl) (eln_seeds (ea2 (ev_var rfl) (ev_var rfl)) (hd.mono (ex.trans e4)) hm) hm) hm (fun ns hns => by
      obtain ⟨ss, _, rfl⟩ := hns
      exact ⟨Nat.le_trans (heapL_ok hm _).1 (by decide), (heapL_ok hm _).2⟩)) fun v H5 e5 hv => ?_
    obtain ⟨ns, ⟨ss, _, rfl⟩, hv⟩ := hv
    exact hQ v H5 ((ex.trans e4).trans e5) ⟨cloP ss, hv.congr fun x hx => heaps_range m _ hx, clo_clo ss⟩
end
end KW

/-! What the law asks of choices. -/
namespace KW
open PySem PySem.Spec PyProof.Rows L2 Evl K64

def sp__law_struck_right (C : Addr) : L2.Sp := fun vs H Q _ => ∃ (a x y : Addr) (m : Nat) (p q : Nat → Bool), vs = [.ref a, vN (m + 1), .ref x, .ref y] ∧ ((1 ≤ m ∧ m < 5) ∧ HandAt H a ∧ ChAt C H x (m + 1) p ∧ ChAt C H y (m + 1) q ∧ Clo (m + 1) p) ∧ RetV (.bl true) H Q
def sp__law_quotient_right (C : Addr) : L2.Sp := fun vs H Q _ => ∃ (x y z : Addr) (m : Nat) (p q r : Nat → Bool), vs = [.ref x, .ref y, .ref z] ∧ (ChAt C H x m p ∧ ChAt C H y m q ∧ ChAt C H z m r ∧ Clo m p ∧ Clo m q ∧ Clo m r) ∧ RetV (.bl true) H Q
def sp__law_kept_right (C : Addr) : L2.Sp := fun vs H Q _ => ∃ (m : Nat) (x y : Addr) (u : Nat) (p q : Nat → Bool), vs = [vN m, .ref x, .ref y, vN u] ∧ (ChAt C H x m p ∧ ChAt C H y m q ∧ Clo m p ∧ Clo m q ∧ u < 2 ^ 2 ^ m) ∧ RetV (.bl true) H Q
def sp__law_rows_right (K : PySem.W.Frag) (C : Addr) : L2.Sp := fun vs H Q _ => ∃ (a : Addr) (m : Nat) (l1 l2 : Addr) (n1 n2 : List Nat), vs = [.ref a, vN m, .ref l1, .ref l2] ∧
  ((1 ≤ m ∧ m ≤ 5) ∧ HandAt H a ∧ (H l1 = some (.lst (nV n1)) ∧ n1.length ≤ 12 ∧ Lt (2 ^ m) n1) ∧ (H l2 = some (.lst (nV n2)) ∧ n2.length ≤ 12 ∧ Lt (2 ^ m) n2)) ∧ RetV (.bl true) H Q
def sp_law (K : PySem.W.Frag) : L2.Sp := fun vs H Q _ => ∃ (s : Addr) (ns : List Int), vs = [.ref s] ∧ (SqL K H s (ns.map V.int) ∧ ns.length ≤ 63) ∧ RetV (.bl true) H Q

section
variable {K : PySem.W.Frag} {mg : Str → Option Value} {σ : L2.St} {H H' : Hp} {ta tb tc td te : TE} {tz tu : TS} {D : Ends} {t : TT} {C : Addr} {m i b : Nat} {p q : Nat → Bool}
theorem IsCh.mono {v : V} (e : Ex H H') (h : IsCh C m p v H) : IsCh C m p v H' := by
  obtain ⟨a, rfl, c⟩ := h
  exact ⟨a, rfl, c.mono e⟩
theorem exBool (P : Prop) : ∃ b : Bool, b = true ↔ P := by
  classical
  exact ⟨decide P, decide_eq_true_iff⟩
/-- if t: return False, t false -/
theorem q_skip (h : EvT t σ H false) (k : ∀ H1, Ex H H1 → tz D σ H1) : tSeq (tIfS t tu tNext) tz D σ H := q_when h (fun z => absurd z (by decide)) fun _ H1 e1 => k H1 e1
theorem s_skip (h : EvT t σ H false) (k : ∀ H1, Ex H H1 → D.nx σ H1) : tIfS t tu tNext D σ H := s_when h (fun z => absurd z (by decide)) fun _ H1 e1 => k H1 e1
theorem ep_strike (hc : EvP ta σ H (IsCh C (m + 1) p)) (hi : Ev tb σ H (vN i)) (hb : Ev tc σ H (vN b)) (hm : 1 ≤ m ∧ m < 5) (hi' : i < m + 1) (hb' : b < 2) :
    EvP (tCall (sp_strike C) [] E0 (tCons ta (tCons tb (tCons tc tNil)))) σ H (IsCh C m (strikeP (m + 1) p i b)) := fun H1 e Q k =>
  hc H1 e _ fun v H2 e2 hv => hi H2 (e.trans e2) _ fun H3 e3 => hb H3 ((e.trans e2).trans e3) _ fun H4 e4 => by
    obtain ⟨a, rfl, c⟩ := hv
    exact ⟨a, m, i, b, p, rfl, ⟨c.mono (e3.trans e4), hm, hi', hb'⟩, fun v H5 e5 hv => k v H5 (((e2.trans e3).trans e4).trans e5) hv⟩
theorem ep_short (hc : EvP ta σ H (IsCh C (m + 1) p)) (hi : Ev tb σ H (vN i)) (hb : Ev tc σ H (vN b)) (hm : 1 ≤ m ∧ m < 5) (hi' : i < m + 1) (hb' : b < 2) :
    EvP (tCall (sp_shorten C) [] E0 (tCons ta (tCons tb (tCons tc tNil)))) σ H (IsCh C m (shortP (m + 1) p i b)) := fun H1 e Q k =>
  hc H1 e _ fun v H2 e2 hv => hi H2 (e.trans e2) _ fun H3 e3 => hb H3 ((e.trans e2).trans e3) _ fun H4 e4 => by
    obtain ⟨a, rfl, c⟩ := hv
    exact ⟨a, m, i, b, p, rfl, ⟨c.mono (e3.trans e4), hm, hi', hb'⟩, fun v H5 e5 hv => k v H5 (((e2.trans e3).trans e4).trans e5) hv⟩
theorem ep_rest (hc : EvP ta σ H (IsCh C m p)) (h : Clo m p) : EvP (tCall (sp_rest_of C) [] E0 (tCons ta tNil)) σ H (IsCh C m (restP m p)) := fun H1 e Q k =>
  hc H1 e _ fun v H2 e2 hv => by
    obtain ⟨a, rfl, c⟩ := hv
    exact ⟨a, m, p, rfl, ⟨c, h⟩, fun v H5 e5 hv => k v H5 (e2.trans e5) hv⟩
theorem ep_prod (hc : EvP ta σ H (IsCh C m p)) (hd : EvP tb σ H (IsCh C m q)) : EvP (tCall (sp_product_of C) [] E0 (tCons ta (tCons tb tNil))) σ H (IsCh C m (prodP m p q)) := fun H1 e Q k =>
  hc H1 e _ fun v H2 e2 hv => hd H2 (e.trans e2) _ fun u H3 e3 hu => by
    obtain ⟨a, rfl, c⟩ := hv
    obtain ⟨b, rfl, d⟩ := hu
    exact ⟨a, b, m, p, q, rfl, ⟨c.mono e3, d⟩, fun v H5 e5 hv => k v H5 ((e2.trans e3).trans e5) hv⟩
theorem ep_quo (hc : EvP ta σ H (IsCh C m p)) (hd : EvP tb σ H (IsCh C m q)) (h1 : Clo m p) (h2 : Clo m q) : EvP (tCall (sp_quotient_of C) [] E0 (tCons ta (tCons tb tNil))) σ H (IsCh C m (quoP m p q)) := fun H1 e Q k =>
  hc H1 e _ fun v H2 e2 hv => hd H2 (e.trans e2) _ fun u H3 e3 hu => by
    obtain ⟨a, rfl, c⟩ := hv
    obtain ⟨b, rfl, d⟩ := hu
    exact ⟨a, b, m, p, q, rfl, ⟨c.mono e3, d, h1, h2⟩, fun v H5 e5 hv => k v H5 ((e2.trans e3).trans e5) hv⟩
theorem ev_lies {bb : Bool} (hbb : bb = true ↔ Lies m p q) (hc : EvP ta σ H (IsCh C m p)) (hd : EvP tb σ H (IsCh C m q)) : Ev (tCall (sp__law_lies C) [] E0 (tCons ta (tCons tb tNil))) σ H (.bl bb) := EvP.bl bb hbb fun H1 e Q k =>
  hc H1 e _ fun v H2 e2 hv => hd H2 (e.trans e2) _ fun u H3 e3 hu => by
    obtain ⟨a, rfl, c⟩ := hv
    obtain ⟨b, rfl, d⟩ := hu
    exact ⟨a, b, m, p, q, rfl, ⟨c.mono e3, d⟩, fun v H5 e5 hv => k v H5 ((e2.trans e3).trans e5) hv⟩
theorem ev_holdsP {bb : Bool} {x : Nat} (hbb : bb = true ↔ inCode m p x) (hc : EvP ta σ H (IsCh C m p)) (hx : Ev tb σ H (vN x)) (hlt : x < 2 ^ 2 ^ m) : Ev (tCall (sp_holds C) [] E0 (tCons ta (tCons tb tNil))) σ H (.bl bb) := EvP.bl bb hbb fun H1 e Q k =>
  hc H1 e _ fun v H2 e2 hv => hx H2 (e.trans e2) _ fun H3 e3 => by
    obtain ⟨a, rfl, c⟩ := hv
    exact ⟨a, x, m, p, rfl, ⟨c.mono e3, hlt⟩, fun v H5 e5 hv => k v H5 ((e2.trans e3).trans e5) hv⟩
/-- e is None -/
theorem ev_isNone {P : Prop} {bb : Bool} (hbb : bb = true ↔ P) (h : EvP ta σ H (fun v _ => v = .non ↔ P)) : Ev (tOp (fun x y H Q => y = .non ∧ Q (.bl (decide (x = .non))) H) ta (tC .non)) σ H (.bl bb) := fun H1 e Q k =>
  h H1 e _ fun v H2 e2 hv => ⟨rfl, by
    have h3 : decide (v = .non) = bb := dec_is (hv.trans hbb.symm)
    rw [h3]
    exact k H2 e2⟩
theorem ep_meets {x : Nat} (hc : EvP ta σ H (IsCh C m p)) (hx : Ev tb σ H (vN x)) (hlt : x < 2 ^ 2 ^ m) : EvP (tCall (sp_meets_rest C) [] E0 (tCons ta (tCons tb tNil))) σ H (fun v _ => v = .non ↔ inCode m p x) := fun H1 e Q k =>
  hc H1 e _ fun v H2 e2 hv => hx H2 (e.trans e2) _ fun H3 e3 => by
    obtain ⟨a, rfl, c⟩ := hv
    exact ⟨a, x, m, p, rfl, ⟨c.mono e3, hlt⟩, fun v H5 e5 hv => k v H5 ((e2.trans e3).trans e5) hv⟩
/-- _law_code_word(hand, m, list) -/
theorem ep_code {a : Addr} {ns : List Nat} (ha : Ev ta σ H (.ref a)) (hm' : Ev tb σ H (vN m)) (hl : EvL tc σ H (nV ns)) (hd : HandAt H a) (hm : 1 ≤ m ∧ m ≤ 5) (hlen : ns.length ≤ 32) (hlt : Lt (2 ^ m) ns) :
    EvP (tCall (sp__law_code_word K) [] E0 (tCons ta (tCons tb (tCons tc tNil)))) σ H (IsN fun k => K64.Sp (ns.map (mon m)) k) := fun H1 e Q k =>
  ha H1 e _ fun H2 e2 => hm' H2 (e.trans e2) _ fun H3 e3 => hl H3 ((e.trans e2).trans e3) _ fun l H4 _ e4 h4 =>
    ⟨a, m, l, ns, rfl, ⟨hm, hd.mono (((e.trans e2).trans e3).trans e4), sq_of h4, hlen, hlt⟩, fun v H5 e5 hv => k v H5 (((e2.trans e3).trans e4).trans e5) hv⟩
/-- list(choice.heaps) -/
theorem el_heaps {x : Addr} (hC : CH K mg C) (h : Ev ta σ H (.ref x)) (c : ChAt C H x m p) : EvL (tCB (rLstOf K) (tCons (tFld K ta "heaps") tNil)) σ H (nV (heaps m p)) := by
  obtain ⟨t, ht, hv⟩ := ev_heaps_of hC h c
  exact el_lstOf hv (.inr (st_of ht))
theorem heaps_lt (m : Nat) (p : Nat → Bool) : Lt (2 ^ m) (heaps m p) := filter_lt m p
theorem sp_lt {u : Nat} (h : K64.Sp (codeRows m p) u) : u < 2 ^ 2 ^ m := h.lt codeRows_lt
theorem rv_neB {x : Bool} : RV rNe (.bl x) (.bl x) H (.bl false) := rv_is (rv_ne rfl) (by rw [decide_eq_true rfl]; rfl)
theorem rv_eqBt {x : Bool} : RV rEq (.bl x) (.bl x) H (.bl true) := rv_is (rv_eq rfl) (by rw [decide_eq_true rfl])
/-- a != b of choices that agree -/
theorem et_neOwn (ha : EvP ta σ H (IsCh C m p)) (hb : EvP tb σ H (IsCh C m q)) (h : ∀ x, x < 2 ^ m → p x = q x) : EvT (tTest (tOp (K64.rOwnB C (sp_eq C) E0 true) ta tb)) σ H false := et_is (et_test (ev_ownPP ha hb)) (by rw [eqB_true h]; rfl)
end
section
variable {P : Program} {w : World} {K : PySem.W.Frag} {mg : Str → Option Value} {base : Heap} {C : Addr}
abbrev N__law_struck_right : List Str := ["_law_hand_here", "_law_m", "_law_choice_here", "_law_other", "_law_letter", "_law_bit", "_law_struck", "_law_short", "_law_turn", "_law_word", "_law_wide_here", "_law_code"]
theorem sc__law_struck_right : FnScope N__law_struck_right ["_law_hand_here", "_law_m", "_law_choice_here", "_law_other"] (defScope s__law_struck_right) := ⟨rfl, rfl, rfl, by decide +kernel, rfl, by decide +kernel, by decide +kernel⟩
theorem fx__law_struck_right (D : Df K mg "_law_struck_right" s__law_struck_right) (B : Bt mg) (F__law_draw : Fx P w K mg base 2 "_law_draw" ["_law_hand_here", "_law_many"] sp__law_draw) (F_strike : Fx P w K mg base 7 "strike" ["choice", "letter", "bit"] (sp_strike C)) (F_shorten : Fx P w K mg base 7 "shorten" ["choice", "letter", "bit"] (sp_shorten C)) (F_rest_of : Fx P w K mg base 7 "rest_of" ["choice"] (sp_rest_of C)) (F_product_of : Fx P w K mg base 7 "product_of" ["choice", "other"] (sp_product_of C)) (F__law_any_word : Fx P w K mg base 4 "_law_any_word" ["_law_hand_here", "_law_m"] sp__law_any_word) (F__law_code_word : Fx P w K mg base 4 "_law_code_word" ["_law_hand_here", "_law_m", "_law_heaps"] (sp__law_code_word K)) (F_widen_word : Fx P w K mg base 5 "widen_word" ["letters", "word", "letter", "bit"] sp_widen_word) (F_meets_rest : Fx P w K mg base 8 "meets_rest" ["choice", "word"] (sp_meets_rest C)) (F_holds : Fx P w K mg base 7 "holds" ["choice", "word"] (sp_holds C)) (F_meets_evenly : Fx P w K mg base 5 "meets_evenly" ["letters", "word", "other"] sp_meets_evenly) (F_strike_word : Fx P w K mg base 5 "strike_word" ["letters", "word", "letter", "bit"] sp_strike_word) (F_eq : Ox P w K mg base 1 C "__eq__" ["self", "other"] (sp_eq C)) (hC : CH K mg C) (O : OwnC K C) : Fx P w K mg base 9 "_law_struck_right" ["_law_hand_here", "_law_m", "_law_choice_here", "_law_other"] (sp__law_struck_right C) := by
  refine D.fx (N := N__law_struck_right) sc__law_struck_right (fun vs H Q E h => by obtain ⟨_, _, _, _, _, _, rfl, _⟩ := h; rfl) (fun _ _ _ _ _ _ us hl => match us, hl with | [_, _, _, _], _ => rfl) (fun f cdv A outer s H vs Q E hr h => ⟨_, (pss_cons (ps_set (i := 4) sc__law_struck_right.nd rfl (Or.inl rfl) (pe_f F__law_draw hr rfl (by decide) (pa_cons (pv 0) (pa_cons (pv 1) pa_nil)))) (pss_cons (ps_set (i := 5) sc__law_struck_right.nd rfl (Or.inl rfl) (pe_f F__law_draw hr rfl (by decide) (pa_cons (pv 0) (pa_cons pe_int pa_nil)))) (pss_cons (ps_set (i := 6) sc__law_struck_right.nd rfl (Or.inl rfl) (pe_f F_strike hr rfl (by decide) (pa_cons (pv 2) (pa_cons (pv 4) (pa_cons (pv 5) pa_nil))))) (pss_cons (ps_set (i := 7) sc__law_struck_right.nd rfl (Or.inl rfl) (pe_f F_shorten hr rfl (by decide) (pa_cons (pe_f F_rest_of hr rfl (by decide) (pa_cons (pv 2) pa_nil)) (pa_cons (pv 4) (pa_cons (pv 5) pa_nil))))) (pss_cons (ps_if (PW.pt (pw_or (pt_cmpR (own_ne F_eq O hr (by decide)) (pe_f F_rest_of hr rfl (by decide) (pa_cons (pv 6) pa_nil)) (pv 7) (nomark _)) (pw_or1 (pt_cmpR (own_ne F_eq O hr (by decide)) (pe_f F_rest_of hr rfl (by decide) (pa_cons (pe_f F_shorten hr rfl (by decide) (pa_cons (pv 2) (pa_cons (pv 4) (pa_cons (pv 5) pa_nil)))) pa_nil)) (pe_f F_strike hr rfl (by decide) (pa_cons (pe_f F_rest_of hr rfl (by decide) (pa_cons (pv 2) pa_nil)) (pa_cons (pv 4) (pa_cons (pv 5) pa_nil)))) (nomark _))))) (pss_one (ps_ret pe_bl)) pss_nil) (pss_cons (ps_if (pt_cmpR (own_ne F_eq O hr (by decide)) (pe_f F_product_of hr rfl (by decide) (pa_cons (pv 6) (pa_cons (pe_f F_strike hr rfl (by decide) (pa_cons (pv 3) (pa_cons (pv 4) (pa_cons (pv 5) pa_nil)))) pa_nil))) (pe_f F_strike hr rfl (by decide) (pa_cons (pe_f F_product_of hr rfl (by decide) (pa_cons (pv 2) (pa_cons (pv 3) pa_nil))) (pa_cons (pv 4) (pa_cons (pv 5) pa_nil)))) (nomark _)) (pss_one (ps_ret pe_bl)) pss_nil) (pss_cons (ps_for PassesOwn.never rfl (pi_range1 rfl B.range (pa_cons pe_int pa_nil)) (pg_name (i := 8) sc__law_struck_right.nd rfl (Or.inl rfl)) (pss_cons (ps_set (i := 9) sc__law_struck_right.nd rfl (Or.inl rfl) (pe_ifExp (pt_cmpR op_eq (pv 8) pe_int (nomark _)) (pe_f F__law_any_word hr rfl (by decide) (pa_cons (pv 0) (pa_cons (pe_op op_sub (pv 1) pe_int) pa_nil))) (pe_f F__law_code_word hr rfl (by decide) (pa_cons (pv 0) (pa_cons (pe_op op_sub (pv 1) pe_int) (pa_cons (pe_callTy call_list_of rfl B.list (by decide +kernel) (pa_cons (pe_fldK (K := K) rfl (pv 7) rfl) pa_nil)) pa_nil)))))) (pss_cons (ps_set (i := 10) sc__law_struck_right.nd rfl (Or.inl rfl) (pe_f F_widen_word hr rfl (by decide) (pa_cons (pv 1) (pa_cons (pv 9) (pa_cons (pv 4) (pa_cons (pv 5) pa_nil)))))) (pss_cons (ps_if (pt_cmpR op_ne (pe_cmpR op_isN (pe_f F_meets_rest hr rfl (by decide) (pa_cons (pv 2) (pa_cons (pv 10) pa_nil))) pe_non (nomark _)) (pe_f F_holds hr rfl (by decide) (pa_cons (pe_f F_shorten hr rfl (by decide) (pa_cons (pv 2) (pa_cons (pv 4) (pa_cons (pv 5) pa_nil)))) (pa_cons (pv 9) pa_nil))) (nomark _)) (pss_one (ps_ret pe_bl)) pss_nil) (pss_cons (ps_set (i := 11) sc__law_struck_right.nd rfl (Or.inl rfl) (pe_f F__law_code_word hr rfl (by decide) (pa_cons (pv 0) (pa_cons (pv 1) (pa_cons (pe_callTy call_list_of rfl B.list (by decide +kernel) (pa_cons (pe_fldK (K := K) rfl (pv 2) rfl) pa_nil)) pa_nil))))) (pss_one (ps_if (PW.pt (pw_and (pt_cmpR op_gt (pv 8) pe_int (nomark _)) (pw_and1 (pt_not (pt_val (pe_f F_meets_evenly hr rfl (by decide) (pa_cons (pe_op op_sub (pv 1) pe_int) (pa_cons (pe_f F_strike_word hr rfl (by decide) (pa_cons (pv 1) (pa_cons (pv 11) (pa_cons (pv 4) (pa_cons (pv 5) pa_nil))))) (pa_cons (pv 9) pa_nil))))))))) (pss_one (ps_ret pe_bl)) pss_nil))))))) (pss_one (ps_ret pe_bl))))))))), ?_⟩)
  obtain ⟨a, x, y, m, p, q, rfl, ⟨hm, hd, c, d, hp⟩, hQ⟩ := h
  have hm1 := c.1
  have hm0 : 1 ≤ m ∧ m ≤ 5 := ⟨hm.1, by omega⟩
  refine q_asgP (ep_draw (many := m + 1) (ea2 (ev_var rfl) (ev_var rfl)) hd (by omega)) fun v H1 e1 hv => ?_
  obtain ⟨i, rfl, hi⟩ := hv
  refine q_asgP (ep_draw (many := 2) (ea2 (ev_var rfl) (ev_n 2 rfl)) (hd.mono e1) (by omega)) fun v H2 e2 hv => ?_
  obtain ⟨b, rfl, hb⟩ := hv
  have c2 := c.mono (e1.trans e2)
  have d2 := d.mono (e1.trans e2)
  have hd2 := hd.mono (e1.trans e2)
  refine q_asgP (ep_strike (ep_var rfl c2) (ev_var rfl) (ev_var rfl) hm hi hb) fun v H3 e3 hv => ?_
  obtain ⟨s1, rfl, cs1⟩ := hv
  refine q_asgP (ep_short (ep_rest (ep_var rfl (c2.mono e3)) hp) (ev_var rfl) (ev_var rfl) hm hi hb) fun v H4 e4 hv => ?_
  obtain ⟨s2, rfl, cs2⟩ := hv
  have ex4 := e3.trans e4
  refine q_skip (et_or (et_neOwn (ep_rest (ep_var rfl (cs1.mono e4)) (clo_strike hm.2 hi hb hp)) (ep_var rfl cs2) fun g hg => rest_strike hm.2 hi hg hb hp) fun _ => et_neOwn (ep_rest (ep_short (ep_var rfl (c2.mono ex4)) (ev_var rfl) (ev_var rfl) hm hi hb) (clo_short hm.2 hi hb hp)) (ep_strike (ep_rest (ep_var rfl (c2.mono ex4)) hp) (ev_var rfl) (ev_var rfl) hm hi hb) fun g hg => rest_short hm.2 hi hg hb hp) fun H5 e5 => ?_
  have ex5 := ex4.trans e5
  refine q_skip (et_neOwn (ep_prod (ep_var rfl (cs1.mono (e4.trans e5))) (ep_strike (ep_var rfl (d2.mono ex5)) (ev_var rfl) (ev_var rfl) hm hi hb)) (ep_strike (ep_prod (ep_var rfl (c2.mono ex5)) (ep_var rfl (d2.mono ex5))) (ev_var rfl) (ev_var rfl) hm hi hb) fun g hg => prod_strike hm.2 hi hb) fun H6 e6 => ?_
  have ex6 := ex5.trans e6
  have c6 := c2.mono ex6
  have hd6 := hd2.mono ex6
  have s6 := cs2.mono (e5.trans e6)
  refine q_for (φ := vN) (l := List.range 3) (ei_rng (n := 3) (ea1 (ev_n 3 rfl)) (by decide)) (fun pre σ' _ => ∃ z1 z2 z3 z4, σ' = [some (.ref a), some (vN (m + 1)), some (.ref x), some (.ref y), some (vN i), some (vN b), some (.ref s1), some (.ref s2), z1, z2, z3, z4]) (fun H1 e1 => ⟨_, _, _, _, rfl⟩) ?_ ?_
  · rintro Hb eb pre t post σ' H' el e ⟨z1, z2, z3, z4, rfl⟩
    have ex7 := eb.trans e
    let sp := shortP (m + 1) (restP (m + 1) p) i b
    refine q_asgP (P := IsN fun k => k < 2 ^ 2 ^ m ∧ (t ≠ 0 → K64.Sp (codeRows m sp) k)) (ep_if (et_test (ev_op (ev_var rfl) (ev_n 0 rfl) rv_eqN)) (fun hz => EvP.imp (ep_f (P := IsN fun k => k < 2 ^ 2 ^ m) (ea2 (ev_var rfl) (ev_op (ev_var rfl) (ev_n 1 rfl) (rv_sub (by omega)))) fun H8 e8 Q k => ⟨a, m, rfl, ⟨hm0, hd6.mono (ex7.trans e8)⟩, k⟩) fun v H8 e8 hv => ?_) fun hz => EvP.imp (ep_code (m := m) (ns := heaps m sp) (ev_var rfl) (ev_op (ev_var rfl) (ev_n 1 rfl) (rv_sub (by omega))) (el_heaps hC (ev_var rfl) (s6.mono ex7)) (hd6.mono ex7) hm0 (heaps_len60 hm0 _) (heaps_lt m _)) fun v H8 e8 hv => ?_) fun v H8 e8 hv => ?_
    · obtain ⟨k, rfl, hk⟩ := hv
      exact ⟨k, rfl, hk, fun z => absurd (of_decide_eq_true hz) z⟩
    · obtain ⟨k, rfl, hk⟩ := hv
      exact ⟨k, rfl, sp_lt (p := sp) hk, fun _ => hk⟩
    · obtain ⟨u, rfl, hu, hsp⟩ := hv
      have ex8 := ex7.trans e8
      refine q_asg (ev_f (ea4 (ev_var rfl) (ev_var rfl) (ev_var rfl) (ev_var rfl)) fun H9 e9 Q k => ⟨m, u, i, b, rfl, ⟨hm, hu, hi, hb⟩, k⟩) fun H9 e9 => ?_
      have ex9 := ex8.trans e9
      have hwlt : widW (m + 1) u i b < 2 ^ 2 ^ (m + 1) := widW_lt _ _ _ _
      obtain ⟨bb, hbb⟩ := exBool (inCode (m + 1) p (widW (m + 1) u i b))
      refine q_skip (et_test (ev_op (ev_isNone hbb (ep_meets (ep_var rfl (c6.mono ex9)) (ev_var rfl) hwlt)) (ev_holdsP (hbb.trans (wid_code hm.2 hi hb hu)) (ep_short (ep_var rfl (c6.mono ex9)) (ev_var rfl) (ev_var rfl) hm hi hb) (ev_var rfl) hu) rv_neB)) fun H10 e10 => ?_
      have ex10 := ex9.trans e10
      refine q_asgP (ep_code (m := m + 1) (ns := heaps (m + 1) p) (ev_var rfl) (ev_var rfl) (el_heaps hC (ev_var rfl) (c6.mono ex10)) (hd6.mono ex10) hm1 (heaps_len60 hm1 _) (heaps_lt _ _)) fun v H11 e11 hv => ?_
      obtain ⟨cw, rfl, hcw⟩ := hv
      have hcw' : K64.Sp (codeRows (m + 1) p) cw := hcw
      refine s_skip (et_is (et_and (et_test (ev_op (ev_var rfl) (ev_n 0 rfl) rv_gt)) fun _ => et_not (et_B (ev_meets (m := m) (ea3 (ev_op (ev_var rfl) (ev_n 1 rfl) (rv_sub (by omega))) (ev_f (ea4 (ev_var rfl) (ev_var rfl) (ev_var rfl) (ev_var rfl)) fun H12 e12 Q k => ⟨m, cw, i, b, rfl, ⟨hm, sp_lt hcw', hi, hb⟩, k⟩) (ev_var rfl)) hm0 (strkW_lt hm.2 hi hb _) hu))) ?_) fun H12 e12 => ⟨((((e.trans e8).trans e9).trans e10).trans e11).trans e12, _, _, _, _, rfl⟩
      by_cases ht : t = 0
      · rw [decide_eq_false (by omega)]
        rfl
      · have hw1 : inCode m sp u := inCode_of_sp (by omega) (hsp ht)
        have hw2 : inCode (m + 1) (restP (m + 1) p) (widW (m + 1) u i b) := (wid_code hm.2 hi hb hu).mpr hw1
        have hw3 := sp_of_inCode (by omega) hwlt hw2
        rw [strk_wid hm.2 hi hb cw u hu, dot_rest (by omega) hp hcw' hw3, Bool.not_false, Bool.not_true, Bool.and_false]
  · rintro σ' H' e ⟨z1, z2, z3, z4, rfl⟩
    exact s_ret ev_c fun H7 e7 => hQ H7 ((((e1.trans e2).trans ex6).trans e).trans e7)
abbrev N__law_quotient_right : List Str := ["_law_choice_here", "_law_one", "_law_two", "_law_lies_here", "_law_whole"]
theorem sc__law_quotient_right : FnScope N__law_quotient_right ["_law_choice_here", "_law_one", "_law_two"] (defScope s__law_quotient_right) := ⟨rfl, rfl, rfl, by decide +kernel, rfl, by decide +kernel, by decide +kernel⟩
theorem fx__law_quotient_right (D : Df K mg "_law_quotient_right" s__law_quotient_right) (B : Bt mg) (F_quotient_of : Fx P w K mg base 7 "quotient_of" ["choice", "other"] (sp_quotient_of C)) (F_rest_of : Fx P w K mg base 7 "rest_of" ["choice"] (sp_rest_of C)) (F_product_of : Fx P w K mg base 7 "product_of" ["choice", "other"] (sp_product_of C)) (F__law_lies : Fx P w K mg base 3 "_law_lies" ["_law_choice_here", "_law_other"] (sp__law_lies C)) (F_eq : Ox P w K mg base 1 C "__eq__" ["self", "other"] (sp_eq C)) (hC : CH K mg C) (O : OwnC K C) : Fx P w K mg base 8 "_law_quotient_right" ["_law_choice_here", "_law_one", "_law_two"] (sp__law_quotient_right C) := by
  refine D.fx (N := N__law_quotient_right) sc__law_quotient_right (fun vs H Q E h => by obtain ⟨_, _, _, _, _, _, _, rfl, _⟩ := h; rfl) (fun _ _ _ _ _ _ us hl => match us, hl with | [_, _, _], _ => rfl) (fun f cdv A outer s H vs Q E hr h => ⟨_, (pss_cons (ps_if (pt_cmpR (own_ne F_eq O hr (by decide)) (pe_f F_quotient_of hr rfl (by decide) (pa_cons (pv 0) (pa_cons (pv 1) pa_nil))) (pe_f F_rest_of hr rfl (by decide) (pa_cons (pe_f F_product_of hr rfl (by decide) (pa_cons (pv 1) (pa_cons (pe_f F_rest_of hr rfl (by decide) (pa_cons (pv 0) pa_nil)) pa_nil))) pa_nil)) (nomark _)) (pss_one (ps_ret pe_bl)) pss_nil) (pss_cons (ps_set (i := 3) sc__law_quotient_right.nd rfl (Or.inl rfl) (pe_f F__law_lies hr rfl (by decide) (pa_cons (pe_f F_product_of hr rfl (by decide) (pa_cons (pv 1) (pa_cons (pv 2) pa_nil))) (pa_cons (pv 0) pa_nil)))) (pss_cons (ps_if (PW.pt (pw_or (pt_cmpR op_ne (pv 3) (pe_f F__law_lies hr rfl (by decide) (pa_cons (pv 1) (pa_cons (pe_f F_quotient_of hr rfl (by decide) (pa_cons (pv 0) (pa_cons (pv 2) pa_nil))) pa_nil))) (nomark _)) (pw_or1 (pt_cmpR op_ne (pv 3) (pe_f F__law_lies hr rfl (by decide) (pa_cons (pv 2) (pa_cons (pe_f F_quotient_of hr rfl (by decide) (pa_cons (pv 0) (pa_cons (pv 1) pa_nil))) pa_nil))) (nomark _))))) (pss_one (ps_ret pe_bl)) pss_nil) (pss_cons (ps_set (i := 4) sc__law_quotient_right.nd rfl (Or.inl rfl) (pe_f F_quotient_of hr rfl (by decide) (pa_cons (pv 0) (pa_cons (pe_f F_quotient_of hr rfl (by decide) (pa_cons (pv 0) (pa_cons (pv 1) pa_nil))) pa_nil)))) (pss_one (ps_ret (pe_and (pe_f F__law_lies hr rfl (by decide) (pa_cons (pv 1) (pa_cons (pv 4) pa_nil))) (pe_one (pe_cmpR (own_eq F_eq hr (by decide)) (pe_f F_quotient_of hr rfl (by decide) (pa_cons (pv 0) (pa_cons (pv 4) pa_nil))) (pe_f F_quotient_of hr rfl (by decide) (pa_cons (pv 0) (pa_cons (pv 1) pa_nil))) (nomark _)))))))))), ?_⟩)
  obtain ⟨x, y, z, m, p, q, r, rfl, ⟨c, d, f1, hp, hq, hr'⟩, hQ⟩ := h
  refine q_skip (et_neOwn (ep_quo (ep_var rfl c) (ep_var rfl d) hp hq) (ep_rest (ep_prod (ep_var rfl d) (ep_rest (ep_var rfl c) hp)) (clo_prod hq (clo_rest hp))) fun g hg => quo_rest hp hq g hg) fun H1 e1 => ?_
  obtain ⟨b1, hb1⟩ := exBool (Lies m (prodP m q r) p)
  refine q_asg (ev_lies hb1 (ep_prod (ep_var rfl (d.mono e1)) (ep_var rfl (f1.mono e1))) (ep_var rfl (c.mono e1))) fun H2 e2 => ?_
  have ex2 := e1.trans e2
  refine q_skip (et_or (et_test (ev_op (ev_var rfl) (ev_lies (hb1.trans lies_left) (ep_var rfl (d.mono ex2)) (ep_quo (ep_var rfl (c.mono ex2)) (ep_var rfl (f1.mono ex2)) hp hr')) rv_neB)) fun _ => et_test (ev_op (ev_var rfl) (ev_lies (hb1.trans lies_right) (ep_var rfl (f1.mono ex2)) (ep_quo (ep_var rfl (c.mono ex2)) (ep_var rfl (d.mono ex2)) hp hq)) rv_neB)) fun H3 e3 => ?_
  have ex3 := ex2.trans e3
  refine q_asgP (ep_quo (ep_var rfl (c.mono ex3)) (ep_quo (ep_var rfl (c.mono ex3)) (ep_var rfl (d.mono ex3)) hp hq) hp (clo_quo hp)) fun v H4 e4 hv => ?_
  obtain ⟨wh, rfl, cw⟩ := hv
  have ex4 := ex3.trans e4
  exact s_ret (ev_is (ev_andV (ev_lies (bb := true) ⟨fun _ => lies_whole, fun _ => rfl⟩ (ep_var rfl (d.mono ex4)) (ep_var rfl cw)) fun _ => ev_ownPP (ep_quo (ep_var rfl (c.mono ex4)) (ep_var rfl cw) hp (clo_quo hp)) (ep_quo (ep_var rfl (c.mono ex4)) (ep_var rfl (d.mono ex4)) hp hq)) (by rw [eqB_true fun g hg => quo_whole g hg]; rfl)) fun H5 e5 => hQ H5 (ex4.trans e5)
abbrev N__law_kept_right : List Str := ["_law_m", "_law_choice_here", "_law_one", "_law_word", "_law_rows", "_law_even", "_law_heap", "_law_made", "_law_row"]
theorem sc__law_kept_right : FnScope N__law_kept_right ["_law_m", "_law_choice_here", "_law_one", "_law_word"] (defScope s__law_kept_right) := ⟨rfl, rfl, rfl, by decide +kernel, rfl, by decide +kernel, by decide +kernel⟩
theorem fx__law_kept_right (D : Df K mg "_law_kept_right" s__law_kept_right) (B : Bt mg) (F_rest_rows : Fx P w K mg base 7 "rest_rows" ["choice"] (sp_rest_rows C)) (F_heap_word : Fx P w K mg base 5 "heap_word" ["letters", "heap"] sp_heap_word) (F_meets_evenly : Fx P w K mg base 5 "meets_evenly" ["letters", "word", "other"] sp_meets_evenly) (F_holds : Fx P w K mg base 7 "holds" ["choice", "word"] (sp_holds C)) (F_quotient_of : Fx P w K mg base 7 "quotient_of" ["choice", "other"] (sp_quotient_of C)) (F_kept_in : Fx P w K mg base 8 "kept_in" ["choice", "other", "word"] (sp_kept_in C)) (F_iter : Ix P w K mg base 1 C) (hC : CH K mg C) : Fx P w K mg base 9 "_law_kept_right" ["_law_m", "_law_choice_here", "_law_one", "_law_word"] (sp__law_kept_right C) := by
  refine D.fx (N := N__law_kept_right) sc__law_kept_right (fun vs H Q E h => by obtain ⟨_, _, _, _, _, _, rfl, _⟩ := h; rfl) (fun _ _ _ _ _ _ us hl => match us, hl with | [_, _, _, _], _ => rfl) (fun f cdv A outer s H vs Q E hr h => ⟨_, (pss_cons (ps_set (i := 4) sc__law_kept_right.nd rfl (Or.inl rfl) (pe_f F_rest_rows hr rfl (by decide) (pa_cons (pv 1) pa_nil))) (pss_cons (ps_set (i := 5) sc__law_kept_right.nd rfl (Or.inl rfl) pe_bl) (pss_cons (ps_for PassesOwn.never rfl (pi_own (K := K) rfl F_iter hr (by decide) (pv 2)) (pg_name (i := 6) sc__law_kept_right.nd rfl (Or.inl rfl)) (pss_cons (ps_set (i := 7) sc__law_kept_right.nd rfl (Or.inr rfl) (pe_op op_and (pv 3) (pe_f F_heap_word hr rfl (by decide) (pa_cons (pv 0) (pa_cons (pv 6) pa_nil))))) (pss_one (ps_if (pt_cmpR (op_neD hr.units) (pe_lc (own := [("_law_row", 8)]) (g := gName 8) rfl sc__law_kept_right.nd (pi_tupK (K := K) rfl (pv 4)) (blkOk_by (sc := defScope s__law_kept_right) (own := [("_law_row", 8)]) (N := N__law_kept_right) (by decide +kernel)) (fun _ _ _ _ _ => pg_name (i := 8) sc__law_kept_right.nd rfl (Or.inl rfl)) (fun _ _ _ _ _ => pts_one (pt_not (pt_val (pe_f F_meets_evenly hr rfl (by decide) (pa_cons (pv 0) (pa_cons (pv 8) (pa_cons (pv 7) pa_nil))))))) (fun _ _ _ _ _ => (pv 8))) (pe_lst pa_nil) (nomark _)) (pss_one (ps_set (i := 5) sc__law_kept_right.nd rfl (Or.inl rfl) pe_bl)) pss_nil)))) (pss_one (ps_ret (pe_and (pe_cmpR op_eq (pe_cmpR op_isN (pe_f F_kept_in hr rfl (by decide) (pa_cons (pv 1) (pa_cons (pv 2) (pa_cons (pv 3) pa_nil)))) pe_non (nomark _)) (pv 5) (nomark _)) (pe_one (pe_cmpR op_eq (pe_f F_holds hr rfl (by decide) (pa_cons (pe_f F_quotient_of hr rfl (by decide) (pa_cons (pv 1) (pa_cons (pv 2) pa_nil))) (pa_cons (pv 3) pa_nil))) (pv 5) (nomark _))))))))), ?_⟩)
  obtain ⟨m, x, y, u, p, q, rfl, ⟨c, d, hp, hq, hu⟩, hQ⟩ := h
  have hm := c.1
  have hm6 : m < 6 := by omega
  refine q_asgT (ett_f (ea1 (ev_var rfl)) fun H1 e1 Q k => ⟨x, m, p, rfl, c.mono e1, k⟩) fun R H1 e1 h1 => q_asg ev_c fun H2 e2 => ?_
  have ex2 := e1.trans e2
  refine q_for (φ := vN) (l := heaps m q) (ei_own (ev_var rfl) (d.mono ex2)) (fun pre σ' _ => ∃ (ee : Bool) (z1 z2 z3 : Option V), σ' = [some (vN m), some (.ref x), some (.ref y), some (vN u), some (.ref R), some (.bl ee), z1, z2, z3] ∧ (ee = true ↔ ∀ h ∈ pre, inCode m p (u &&& mon m h))) (fun H1 e1 => ⟨true, _, _, _, rfl, fun _ h hh => (nomatch hh), fun _ => rfl⟩) ?_ ?_
  · rintro Hb eb pre t post σ' H' el e ⟨ee, z1, z2, z3, rfl, hee⟩
    have ht := mem_heaps.mp (mem_pre el)
    have ex3 := (e2.trans eb).trans e
    have hlt : u &&& mon m t < 2 ^ 2 ^ m := Nat.and_lt_two_pow _ (mon_lt ht.1)
    have hiff := rest_rows_iff (p := p) hm6 hlt
    refine q_asg (ev_op (ev_var rfl) (ev_mon (ea2 (ev_var rfl) (ev_var rfl)) hm ht.1) rv_and) fun H3 e3 => ?_
    have hap : ∀ ee' : Bool, (ee' = true ↔ (ee = true ∧ inCode m p (u &&& mon m t))) → (ee' = true ↔ ∀ h ∈ pre ++ [t], inCode m p (u &&& mon m h)) := fun ee' h => by
      rw [h, hee]
      constructor
      · rintro ⟨h1, h2⟩ g hg
        rcases List.mem_append.mp hg with hg | hg
        · exact h1 g hg
        · rw [List.mem_singleton.mp hg]
          exact h2
      · intro h1
        exact ⟨fun g hg => h1 g (List.mem_append.mpr (.inl hg)), h1 t (List.mem_append.mpr (.inr (List.mem_singleton.mpr rfl)))⟩
    refine s_when (b := !decide (((evenRows m (codeRows m p)).filter fun r => !(!dot r (u &&& mon m t))) = [])) (et_test (ev_opLL (xs := nV ((evenRows m (codeRows m p)).filter fun r => !(!dot r (u &&& mon m t)))) (ys := nV []) (el_lc (φ := vN) (fun r => !(!dot r (u &&& mon m t))) vN (ei_tup (ev_var rfl) (st_of ((ex3.trans e3) R _ h1))) ?_ (fun _ => rfl) (fun r H4 hr4 e4 => et_not (et_B (ev_meets (ea3 (ev_var rfl) (ev_var rfl) (ev_var rfl)) hm (evenRows_lt codeRows_lt r hr4) hlt))) fun r H4 hr4 e4 _ => ev_var rfl) (el_lst ea_nil (by decide)) fun p1 q1 H4 h4 h5 e4 => rv_neL (sq_of h4) (sq_of h5))) (fun hb H4 e4 => s_asg ev_c fun H5 e5 => ⟨((e.trans e3).trans e4).trans e5, false, _, _, _, rfl, hap false ⟨fun z => (nomatch z), fun z => ?_⟩⟩) (fun hb H4 e4 => ⟨(e.trans e3).trans e4, ee, _, _, _, rfl, hap ee ⟨fun z => ⟨z, ?_⟩, fun z => z.1⟩⟩)
    · have h7 : (evenRows m (codeRows m p)).length ≤ 2 ^ m := red_len (reduced_red _).toApart (evenRows_lt codeRows_lt)
      have := shl_le hm
      omega
    · have h8 : ((evenRows m (codeRows m p)).filter fun r => !(!dot r (u &&& mon m t))) = [] := List.filter_eq_nil_iff.mpr fun r hr8 => by
        rw [hiff.mpr z.2 r hr8]
        decide
      rw [decide_eq_true h8] at hb
      cases hb
    · refine hiff.mp fun r hr8 => ?_
      have h8 : ((evenRows m (codeRows m p)).filter fun r => !(!dot r (u &&& mon m t))) = [] := Classical.byContradiction fun k => by
        rw [decide_eq_false k] at hb
        cases hb
      have := List.filter_eq_nil_iff.mp h8 r hr8
      simpa using this
  · rintro σ' H' e ⟨ee, z1, z2, z3, rfl, hee⟩
    have ex3 := ex2.trans e
    have h1' : ee = true ↔ ∀ h, h < 2 ^ m → q h = true → inCode m p (u &&& mon m h) := hee.trans ⟨fun k h hh hqh => k h (mem_heaps.mpr ⟨hh, hqh⟩), fun k h hh => k h (mem_heaps.mp hh).1 (mem_heaps.mp hh).2⟩
    have hk : EvP (tCall (sp_kept_in C) [] E0 (tCons (tVar 1) (tCons (tVar 2) (tCons (tVar 3) tNil)))) [some (vN m), some (.ref x), some (.ref y), some (vN u), some (.ref R), some (.bl ee), z1, z2, z3] H' (fun v _ => v = .non ↔ ∀ h, h < 2 ^ m → q h = true → inCode m p (u &&& mon m h)) :=
      ep_f (ea3 (ev_var rfl) (ev_var rfl) (ev_var rfl)) fun H4 e4 Q k => ⟨x, y, u, m, p, q, rfl, ⟨(c.mono ex3).mono e4, (d.mono ex3).mono e4, hu⟩, k⟩
    exact s_ret (ev_is (ev_andV (ev_op (ev_isNone h1' hk) (ev_var rfl) rv_eqBt) fun _ => ev_op (ev_holdsP (h1'.trans (kept_iff hm6 hq hu)) (ep_quo (ep_var rfl (c.mono ex3)) (ep_var rfl (d.mono ex3)) hp hq) (ev_var rfl) hu) (ev_var rfl) rv_eqBt) rfl) fun H4 e4 => hQ H4 (ex3.trans e4)
end
end KW

/-! Rows of products; the law. -/
namespace KW
open PySem PySem.Spec PyProof.Rows L2 Evl K64
section
variable {P : Program} {w : World} {K : PySem.W.Frag} {mg : Str → Option Value} {base : Heap} {C : Addr}
theorem fy {x : Str} {st : Stmt} {N ps : List Str} {k : Nat} {sp : L2.Sp} {f : Addr} {fd : FuncData} (F : FunD K x x (defArgs st) (defBody st) (defScope st) [] [] f fd) (S : FnScope N ps (defScope st)) (len : ∀ vs H Q E, sp vs H Q E → vs.length = ps.length)
    (hbody : ∀ (f : Addr) (cdv : Value) (A : Around) (outer : List Env) (s : Shared) (H : Hp) (vs : List V) (Q : VK) (E : XK), Room k (A.deeper (envOfC x (defScope st) s.heap.objs.size f cdv)) → sp vs H Q E →
      ∃ t, PSs (cxOf CX0 P w K mg base N x (defScope st) f cdv A outer s H E).nox (defBody st) t ∧ t { nx := fun _ H' => Q .non H', rt := Q } (start N vs) H) : FnOk P w K mg base CX0 (k + 1) f fd ps sp :=
  F.ok S len fun cdv A outer s H vs Q E hr h => by
    obtain ⟨t, h1, h2⟩ := hbody f cdv A outer s H vs Q E hr h
    exact ⟨t, h1.nox, h2⟩
/-- all products of two heaps' words -/
def madeL (m : Nat) (n1 n2 : List Nat) : List Nat := (n1.map (mon m)).flatMap fun r => (n2.map (mon m)).map fun o => r &&& o
theorem madeL_len (m : Nat) (n1 n2 : List Nat) : (madeL m n1 n2).length = n1.length * n2.length := by
  unfold madeL
  induction n1 with
  | nil => simp
  | cons a l ih =>
    rw [List.map_cons, List.flatMap_cons, List.length_append, ih, List.length_map, List.length_map, List.length_cons, Nat.add_mul, Nat.one_mul]
    omega
theorem madeL_mem {m x : Nat} {n1 n2 : List Nat} (h1 : Lt (2 ^ m) n1) (h2 : Lt (2 ^ m) n2) : x ∈ madeL m n1 n2 ↔ ∃ f g, (f < 2 ^ m ∧ inL n1 f = true) ∧ (g < 2 ^ m ∧ inL n2 g = true) ∧ mon m f &&& mon m g = x := by
  unfold madeL
  rw [List.mem_flatMap]
  constructor
  · rintro ⟨r, hr, hx⟩
    obtain ⟨f, hf, rfl⟩ := List.mem_map.mp hr
    obtain ⟨o, ho, rfl⟩ := List.mem_map.mp hx
    obtain ⟨g, hg, rfl⟩ := List.mem_map.mp ho
    exact ⟨f, g, ⟨h1 f hf, decide_eq_true hf⟩, ⟨h2 g hg, decide_eq_true hg⟩, rfl⟩
  · rintro ⟨f, g, ⟨_, hf⟩, ⟨_, hg⟩, rfl⟩
    exact ⟨mon m f, List.mem_map.mpr ⟨f, of_decide_eq_true hf, rfl⟩, List.mem_map.mpr ⟨mon m g, List.mem_map.mpr ⟨g, of_decide_eq_true hg, rfl⟩, rfl⟩⟩
theorem madeL_lt {m : Nat} {n1 n2 : List Nat} (h1 : Lt (2 ^ m) n1) (h2 : Lt (2 ^ m) n2) : Lt (2 ^ 2 ^ m) (madeL m n1 n2) := fun x hx => by
  obtain ⟨f, g, hf, hg, rfl⟩ := (madeL_mem h1 h2).mp hx
  exact Nat.and_lt_two_pow _ (mon_lt hg.1)
theorem ett_f1L {σ : L2.St} {H : Hp} {ta : TE} {xs ys : List V} {sp : L2.Sp} (hb : EvL ta σ H xs) (hs : ∀ p H1, Ex H H1 → H1 p = some (.lst xs) → ∀ Q : VK, RetT ys H1 Q → sp [.ref p] H1 Q E0) : EvT' (tCall sp [] E0 (tCons ta tNil)) σ H ys := fun H1 e Q q =>
  hb H1 e _ fun p H3 hp e3 h3 => hs p H3 (e.trans e3) h3 Q fun v H4 e4 h4 => q v H4 (e3.trans e4) h4
/-- a tuple in a slot, and a tuple on the way, unlike? -/
theorem ev_neUT {σ : L2.St} {H : Hp} {ta tb : TE} {a : Addr} {ns ms : List Nat} (ha : Ev ta σ H (.ref a)) (h1 : H a = some (.tup (nV ns))) (hb : EvT' tb σ H (nV ms)) : Ev (tOp (rNeD K) ta tb) σ H (.bl (!decide (ns = ms))) := fun H1 e Q q =>
  ha H1 e _ fun H2 e2 => hb H2 (e.trans e2) _ fun p H3 e3 h3 => rv_neU (st_of (((e.trans e2).trans e3) a _ h1)) (st_of h3) H3 (Ex.refl H3) Q fun H4 e4 => q H4 ((e2.trans e3).trans e4)
theorem ep_codeV {σ : L2.St} {H : Hp} {ta tb tc : TE} {a l : Addr} {m : Nat} {ns : List Nat} (ha : Ev ta σ H (.ref a)) (hm' : Ev tb σ H (vN m)) (hl : Ev tc σ H (.ref l)) (hx : SqL K H l (nV ns)) (hd : HandAt H a) (hm : 1 ≤ m ∧ m ≤ 5) (hlen : ns.length ≤ 32) (hlt : Lt (2 ^ m) ns) :
    EvP (tCall (sp__law_code_word K) [] E0 (tCons ta (tCons tb (tCons tc tNil)))) σ H (IsN fun k => K64.Sp (ns.map (mon m)) k) :=
  ep_f (ea3 ha hm' hl) fun H1 e1 Q k => ⟨a, m, l, ns, rfl, ⟨hm, hd.mono e1, ex_l e1 hx, hlen, hlt⟩, k⟩
abbrev N__law_rows_right : List Str := ["_law_hand_here", "_law_m", "_law_heaps", "_law_others", "_law_told", "_law_mine", "_law_made", "_law_row", "_law_other", "_law_rows", "_law_heap", "_law_word"]
theorem sc__law_rows_right : FnScope N__law_rows_right ["_law_hand_here", "_law_m", "_law_heaps", "_law_others"] (defScope s__law_rows_right) := ⟨rfl, rfl, rfl, by decide +kernel, rfl, by decide +kernel, by decide +kernel⟩
theorem fx__law_rows_right (D : Df K mg "_law_rows_right" s__law_rows_right) (B : Bt mg) (F_product_of : Fx P w K mg base 7 "product_of" ["choice", "other"] (sp_product_of C)) (F_Choice : Mx P w K mg base 5 "Choice" C ["self", "letters", "heaps"] (sp_init K C)) (F__law_hrows : Fx P w K mg base 2 "_law_hrows" ["_law_m", "_law_heaps"] (sp__law_hrows K)) (F_reduced_rows : Fx P w K mg base 4 "reduced_rows" ["words"] (sp_reduced_rows K)) (F_heap_word : Fx P w K mg base 5 "heap_word" ["letters", "heap"] sp_heap_word) (F__law_code_word : Fx P w K mg base 4 "_law_code_word" ["_law_hand_here", "_law_m", "_law_heaps"] (sp__law_code_word K)) (F_holds : Fx P w K mg base 7 "holds" ["choice", "word"] (sp_holds C)) (F_in_span : Fx P w K mg base 6 "in_span" ["words", "word"] (sp_in_span K)) (F_iter : Ix P w K mg base 1 C) (hC : CH K mg C) : Fx P w K mg base 8 "_law_rows_right" ["_law_hand_here", "_law_m", "_law_heaps", "_law_others"] (sp__law_rows_right K C) := by
  refine D.fx (N := N__law_rows_right) sc__law_rows_right (fun vs H Q E h => by obtain ⟨_, _, _, _, _, _, rfl, _⟩ := h; rfl) (fun _ _ _ _ _ _ us hl => match us, hl with | [_, _, _, _], _ => rfl) (fun f cdv A outer s H vs Q E hr h => ⟨_, (pss_cons (ps_set (i := 4) sc__law_rows_right.nd rfl (Or.inl rfl) (pe_f F_product_of hr rfl (by decide) (pa_cons (pe_mk F_Choice hr rfl (by decide) (pa_cons (pv 1) (pa_cons (pv 2) pa_nil))) (pa_cons (pe_mk F_Choice hr rfl (by decide) (pa_cons (pv 1) (pa_cons (pv 3) pa_nil))) pa_nil)))) (pss_cons (ps_set (i := 5) sc__law_rows_right.nd rfl (Or.inl rfl) (pe_f F__law_hrows hr rfl (by decide) (pa_cons (pv 1) (pa_cons (pv 2) pa_nil)))) (pss_cons (ps_set (i := 6) sc__law_rows_right.nd rfl (Or.inl rfl) (pe_lst pa_nil)) (pss_cons (ps_for PassesOwn.never rfl (pi_listK (K := K) rfl (pv 5)) (pg_name (i := 7) sc__law_rows_right.nd rfl (Or.inr rfl)) (pss_one (ps_set (i := 6) sc__law_rows_right.nd rfl (Or.inl rfl) (pe_op op_cat (pv 6) (pe_lc (own := [("_law_other", 8)]) (g := gName 8) (tt := tYes) rfl sc__law_rows_right.nd (pi_listK (K := K) rfl (pe_f F__law_hrows hr rfl (by decide) (pa_cons (pv 1) (pa_cons (pv 3) pa_nil)))) (blkOk_by (sc := defScope s__law_rows_right) (own := [("_law_other", 8)]) (N := N__law_rows_right) (by decide +kernel)) (fun _ _ _ _ _ => pg_name (i := 8) sc__law_rows_right.nd rfl (Or.inl rfl)) (fun _ _ _ _ _ => pts_nil) (fun _ _ _ _ _ => (pe_op op_and (pv 7) (pv 8)))))))) (pss_cons (ps_set (i := 9) sc__law_rows_right.nd rfl (Or.inl rfl) (pe_f F_reduced_rows hr rfl (by decide) (pa_cons (pv 6) pa_nil))) (pss_cons (ps_if (PW.pt (pw_or (pt_cmpR (op_neD hr.units) (pv 9) (pe_f F_reduced_rows hr rfl (by decide) (pa_cons (pe_lc (own := [("_law_heap", 10)]) (g := gName 10) (tt := tYes) rfl sc__law_rows_right.nd (pi_own (K := K) rfl F_iter hr (by decide) (pv 4)) (blkOk_by (sc := defScope s__law_rows_right) (own := [("_law_heap", 10)]) (N := N__law_rows_right) (by decide +kernel)) (fun _ _ _ _ _ => pg_name (i := 10) sc__law_rows_right.nd rfl (Or.inl rfl)) (fun _ _ _ _ _ => pts_nil) (fun _ _ _ _ _ => (pe_f F_heap_word hr rfl (by decide) (pa_cons (pv 1) (pa_cons (pv 10) pa_nil))))) pa_nil)) (nomark _)) (pw_or1 (pt_cmpR op_ne (pe_callB call_len_seq rfl B.len (by decide +kernel) (pa_cons (pv 9) pa_nil)) (pe_callB call_len_seq rfl B.len (by decide +kernel) (pa_cons (pe_fldK (K := K) rfl (pv 4) rfl) pa_nil)) (nomark _))))) (pss_one (ps_ret pe_bl)) pss_nil) (pss_cons (ps_set (i := 11) sc__law_rows_right.nd rfl (Or.inl rfl) (pe_op op_and (pe_f F__law_code_word hr rfl (by decide) (pa_cons (pv 0) (pa_cons (pv 1) (pa_cons (pv 2) pa_nil)))) (pe_f F__law_code_word hr rfl (by decide) (pa_cons (pv 0) (pa_cons (pv 1) (pa_cons (pv 3) pa_nil)))))) (pss_one (ps_ret (pe_and (pe_f F_in_span hr rfl (by decide) (pa_cons (pv 6) (pa_cons (pv 11) pa_nil))) (pe_one (pe_f F_holds hr rfl (by decide) (pa_cons (pv 4) (pa_cons (pv 11) pa_nil)))))))))))))), ?_⟩)
  obtain ⟨a, m, l1, l2, n1, n2, rfl, ⟨hm, hd, ⟨hx1, hl1, ht1⟩, hx2, hl2, ht2⟩, hQ⟩ := h
  have hm6 : m < 6 := by omega
  refine q_asgP (ep_prod (ep_mk (ns := n1) (ev_var rfl) (ev_var rfl) hm (by omega) ht1 (sq_of hx1)) (ep_mk (ns := n2) (ev_var rfl) (ev_var rfl) hm (by omega) ht2 (sq_of hx2))) fun v H1 e1 hv => ?_
  obtain ⟨td, rfl, ct⟩ := hv
  have hmade := fun x => madeL_mem (m := m) (x := x) ht1 ht2
  have hmlt := madeL_lt ht1 ht2
  have hsp := fun u => sp_made hm6 hmade u
  refine q_asgL (el_f (xs := nV (n1.map (mon m))) (ea2 (ev_var rfl) (ev_var rfl)) fun H2 e2 Q k => ⟨m, l1, n1, rfl, ⟨hm, sq_of ((e1.trans e2) l1 _ hx1), by omega, ht1⟩, k⟩) fun mi H2 hmi e2 h2 => ?_
  refine q_asgL (xs := []) (el_lst ea_nil (by decide)) fun L H3 hL e3 h3 => ?_
  have ex3 := (e1.trans e2).trans e3
  refine q_for (φ := vN) (l := n1.map (mon m)) (ei_list (ev_var rfl) (sq_of (e3 mi _ h2))) (fun pre σ' H' => ∃ R z1 z2 z3 z4 z5, σ' = [some (.ref a), some (vN m), some (.ref l1), some (.ref l2), some (.ref td), some (.ref mi), some (.ref R), z1, z2, z3, z4, z5] ∧ H' R = some (.lst (nV (pre.flatMap fun r => (n2.map (mon m)).map fun o => r &&& o)))) (fun H4 e4 => ⟨L, _, _, _, _, _, rfl, e4 L _ h3⟩) ?_ ?_
  · rintro Hb eb pre r post σ' H' el e ⟨R, z1, z2, z3, z4, z5, rfl, hR⟩
    have hlen : (pre.flatMap fun r => (n2.map (mon m)).map fun o => r &&& o).length ≤ 144 := by
      have h1 := congrArg List.length el
      rw [List.length_map, List.length_append] at h1
      have h2 : ∀ l : List Nat, (l.flatMap fun r => (n2.map (mon m)).map fun o => r &&& o).length = l.length * n2.length := fun l => by
        induction l with
        | nil => simp
        | cons a l ih =>
          rw [List.flatMap_cons, List.length_append, ih, List.length_map, List.length_map, List.length_cons, Nat.add_mul, Nat.one_mul]
          omega
      rw [h2]
      exact Nat.le_trans (Nat.mul_le_mul (by omega : pre.length ≤ 12) hl2) (by decide)
    refine s_asgL (el_cat (ms := (n2.map (mon m)).map fun o => r &&& o) (ev_var rfl) hR ?_ (by rw [List.length_map, List.length_map]; omega)) fun R2 H4 hR2 e4 h4 => ⟨e.trans e4, R2, _, _, _, _, _, rfl, ?_⟩
    · rw [← map_nV]
      exact el_lcY (φ := vN) (fun o => vN (r &&& o)) (ei_listN (el_f (ea2 (ev_var rfl) (ev_var rfl)) fun H5 e5 Q k => ⟨m, l2, n2, rfl, ⟨hm, sq_of ((((ex3.trans eb).trans e).trans e5) l2 _ hx2), by omega, ht2⟩, k⟩)) (by rw [List.length_map]; omega) (fun _ => rfl) fun o H5 ho e5 => ev_op (ev_var rfl) (ev_var rfl) rv_and
    · rw [h4, List.flatMap_append]
      simp
  · rintro σ' H' e ⟨R, z1, z2, z3, z4, z5, rfl, hR⟩
    have hR' : H' R = some (.lst (nV (madeL m n1 n2))) := hR
    have hmlen : (madeL m n1 n2).length ≤ 144 := by
      rw [madeL_len]
      exact Nat.le_trans (Nat.mul_le_mul hl1 hl2) (by decide)
    have h32 : Lt (2 ^ 32) (madeL m n1 n2) := fun x hx => word32 hm (hmlt x hx)
    have ex4 := ex3.trans e
    have ct4 := ct.mono ((e2.trans e3).trans e)
    have hred : reduced (madeL m n1 n2) = reduced (codeRows m (prodP m (inL n1) (inL n2))) := reduced_ext hsp
    refine q_asgT (ett_reduced (ea1 (ev_var rfl)) (.inl (sq_of hR')) (by omega) h32) fun rw' H5 e5 h5 => ?_
    have ct5 := ct4.mono e5
    obtain ⟨th, hth, hvh⟩ := ev_heaps_of (K := K) hC (σ := [some (.ref a), some (vN m), some (.ref l1), some (.ref l2), some (.ref td), some (.ref mi), some (.ref R), z1, z2, some (.ref rw'), z4, z5]) (ta := tVar 4) (ev_var rfl) ct5
    refine q_skip (et_is (et_or (et_test (ev_neUT (ev_var rfl) h5 (ett_f1L (xs := nV (codeRows m (prodP m (inL n1) (inL n2)))) ?_ fun l H6 e6 h6 Q k => ⟨l, _, rfl, ⟨.inl (sq_of h6), ?_, fun x hx => word32 hm (codeRows_lt x hx)⟩, k⟩))) fun _ => et_test (ev_op (ev_lenSq (ev_var rfl) (.inr (st_of h5))) (ev_lenSq hvh (.inr (st_of hth))) rv_neN)) ?_) fun H6 e6 => ?_
    · show EvL _ _ _ (nV ((heaps m _).map (mon m)))
      rw [← map_nV]
      exact el_lcY (φ := vN) (fun x => vN (mon m x)) (ei_own (ev_var rfl) ct5) (by have := heaps_len60 hm (prodP m (inL n1) (inL n2)); omega) (fun _ => rfl) fun x H6 hx e6 => ev_mon (ea2 (ev_var rfl) (ev_var rfl)) hm (mem_heaps.mp hx).1
    · unfold codeRows
      rw [List.length_map]
      have := heaps_len60 hm (prodP m (inL n1) (inL n2))
      omega
    · rw [hred, decide_eq_true rfl, nV_length, nV_length, codeRows_length hm6, decide_eq_true rfl]
      rfl
    · have ex6 := ex4.trans (e5.trans e6)
      refine q_asgP (ep_opN (D := fun k => ∃ u1 u2, K64.Sp (n1.map (mon m)) u1 ∧ K64.Sp (n2.map (mon m)) u2 ∧ k = u1 &&& u2) (ep_codeV (m := m) (ns := n1) (ev_var rfl) (ev_var rfl) (ev_var rfl) (sq_of (ex6 l1 _ hx1)) (hd.mono ex6) hm (by omega) ht1) (ep_codeV (m := m) (ns := n2) (ev_var rfl) (ev_var rfl) (ev_var rfl) (sq_of (ex6 l2 _ hx2)) (hd.mono ex6) hm (by omega) ht2) fun u1 u2 H7 h1 h2 => ⟨u1 &&& u2, ⟨u1, u2, h1, h2, rfl⟩, rv_and⟩) fun v H7 e7 hv => ?_
      obtain ⟨_, rfl, u1, u2, hu1, hu2, rfl⟩ := hv
      have hs : K64.Sp (madeL m n1 n2) (u1 &&& u2) := sp_and (fun x hx y hy => List.mem_flatMap.mpr ⟨x, hx, List.mem_map.mpr ⟨y, hy, rfl⟩⟩) hu1 hu2
      have hult : u1 &&& u2 < 2 ^ 2 ^ m := hs.lt hmlt
      have hcode := inCode_of_sp hm6 ((hsp _).mp hs)
      have hin : takeOff (reduced (madeL m n1 n2)) (u1 &&& u2) = 0 := (in_iff (reduced_red _).toApart _).mp ((reduced_sp _ _).mpr hs)
      exact s_ret (ev_is (ev_andV (ev_f (ea2 (ev_var rfl) (ev_var rfl)) fun H8 e8 Q k => ⟨R, madeL m n1 n2, u1 &&& u2, rfl, ⟨.inl (sq_of (((e5.trans e6).trans (e7.trans e8)) R _ hR')), by omega, h32, word32 hm hult⟩, k⟩) fun _ => ev_holdsP (bb := true) ⟨fun _ => hcode, fun _ => rfl⟩ (ep_var rfl (ct5.mono (e6.trans e7))) (ev_var rfl) hult) (by rw [decide_eq_true hin]; rfl)) fun H8 e8 => hQ H8 ((ex6.trans e7).trans e8)
/-- hcut(hand, choice(hand, m), 12) -/
theorem ep_hcut {σ : L2.St} {H : Hp} {ta tb tc : TE} {a : Addr} {m : Nat} (ha : Ev ta σ H (.ref a)) (hb : EvLN tb σ H (fun ss => ss.length ≤ 32 ∧ Lt (2 ^ m) ss)) (hc : Ev tc σ H (vN 12)) (hd : HandAt H a) : EvP (tCall (sp__law_hcut K) [] E0 (tCons ta (tCons tb (tCons tc tNil)))) σ H (IsHs m 12) := fun H1 e Q q =>
  ha H1 e _ fun H2 e2 => hb H2 (e.trans e2) _ fun l H3 ns hl e3 h3 hns => hc H3 ((e.trans e2).trans e3) _ fun H4 e4 => ⟨a, m, l, ns, rfl, ⟨hd.mono (((e.trans e2).trans e3).trans e4), e4 l _ h3, hns.1, hns.2⟩, fun v H5 e5 hv => q v H5 (((e2.trans e3).trans e4).trans e5) hv⟩
theorem eln_choice {σ : L2.St} {H : Hp} {tt : TA} {a : Addr} {m : Nat} (h : EvA tt σ H [.ref a, vN m]) (hd : HandAt H a) (hm : 1 ≤ m ∧ m ≤ 5) : EvLN (tCall sp__law_choice [] E0 tt) σ H (fun ss => ss.length ≤ 32 ∧ Lt (2 ^ m) ss) := eln_f h fun H1 e1 Q q => ⟨a, m, rfl, ⟨hm, hd.mono e1⟩, q⟩
theorem ep_rows {σ : L2.St} {H : Hp} {ta tb tc td : TE} {a : Addr} {m : Nat} (ha : Ev ta σ H (.ref a)) (hb : Ev tb σ H (vN m)) (hc : EvP tc σ H (IsHs m 12)) (hdd : EvP td σ H (IsHs m 12)) (hd : HandAt H a) (hm : 1 ≤ m ∧ m ≤ 5) : Ev (tCall (sp__law_rows_right K C) [] E0 (tCons ta (tCons tb (tCons tc (tCons td tNil))))) σ H (.bl true) := fun H1 e Q q =>
  ha H1 e _ fun H2 e2 => hb H2 (e.trans e2) _ fun H3 e3 => hc H3 ((e.trans e2).trans e3) _ fun v H4 e4 hv => hdd H4 (((e.trans e2).trans e3).trans e4) _ fun u H5 e5 hu => by
    obtain ⟨l1, n1, rfl, h1, h2, h3⟩ := hv
    obtain ⟨l2, n2, rfl, h4, h5, h6⟩ := hu
    exact ⟨a, m, l1, l2, n1, n2, rfl, ⟨hm, hd.mono ((((e.trans e2).trans e3).trans e4).trans e5), ⟨e5 l1 _ h1, h2, h3⟩, h4, h5, h6⟩, fun H6 e6 => q H6 ((((e2.trans e3).trans e4).trans e5).trans e6)⟩
theorem ep_lmon {σ : L2.St} {H : Hp} {ta tb : TE} {m : Nat} (ha : Ev ta σ H (vN m)) (hb : EvP tb σ H (IsN fun k => k < 2 ^ m)) (hm : 1 ≤ m ∧ m ≤ 5) : EvP (tCall sp__law_heap_word [] E0 (tCons ta (tCons tb tNil))) σ H (IsN fun k => k < 2 ^ 2 ^ m) := fun H1 e Q k =>
  ha H1 e _ fun H2 e2 => hb H2 (e.trans e2) _ fun v H3 e3 hv => by
    obtain ⟨g, rfl, hg⟩ := hv
    exact ⟨m, g, rfl, ⟨hm, hg⟩, fun H4 e4 => k _ H4 ((e2.trans e3).trans e4) ⟨_, rfl, mon_lt hg⟩⟩
abbrev N_law : List Str := ["_law_script", "_law_hand_here", "_law_m", "_law_choice_here", "_law_one", "_law_two", "_law_inner", "_law_turn", "_law_word"]
theorem sc_law : FnScope N_law ["_law_script"] (defScope s_law) := ⟨rfl, rfl, rfl, by decide +kernel, rfl, by decide +kernel, by decide +kernel⟩
theorem ok_law {f0 : Addr} {fd0 : FuncData} (D : FunD K "law" "law" (defArgs s_law) (defBody s_law) (defScope s_law) [] [] f0 fd0) (B : Bt mg) (F__law_hand : Fx P w K mg base 1 "_law_hand" ["_law_script"] (sp__law_hand K)) (F__law_letters : Fx P w K mg base 3 "_law_letters" ["_law_hand_here"] sp__law_letters) (F__law_closed_choice : Fx P w K mg base 7 "_law_closed_choice" ["_law_hand_here", "_law_m"] (sp__law_closed_choice C)) (F__law_struck_right : Fx P w K mg base 9 "_law_struck_right" ["_law_hand_here", "_law_m", "_law_choice_here", "_law_other"] (sp__law_struck_right C)) (F__law_quotient_right : Fx P w K mg base 8 "_law_quotient_right" ["_law_choice_here", "_law_one", "_law_two"] (sp__law_quotient_right C)) (F_quotient_of : Fx P w K mg base 7 "quotient_of" ["choice", "other"] (sp_quotient_of C)) (F__law_code_word : Fx P w K mg base 4 "_law_code_word" ["_law_hand_here", "_law_m", "_law_heaps"] (sp__law_code_word K)) (F__law_heap_word : Fx P w K mg base 1 "_law_heap_word" ["_law_m", "_law_heap"] sp__law_heap_word) (F__law_draw : Fx P w K mg base 2 "_law_draw" ["_law_hand_here", "_law_many"] sp__law_draw) (F__law_kept_right : Fx P w K mg base 9 "_law_kept_right" ["_law_m", "_law_choice_here", "_law_one", "_law_word"] (sp__law_kept_right C)) (F__law_rows_right : Fx P w K mg base 8 "_law_rows_right" ["_law_hand_here", "_law_m", "_law_heaps", "_law_others"] (sp__law_rows_right K C)) (F__law_hcut : Fx P w K mg base 3 "_law_hcut" ["_law_hand_here", "_law_heaps", "_law_most"] (sp__law_hcut K)) (F__law_choice : Fx P w K mg base 4 "_law_choice" ["_law_hand_here", "_law_m"] sp__law_choice) (hC : CH K mg C) : FnOk P w K mg base CX0 10 f0 fd0 ["_law_script"] (sp_law K) := by
  refine fy (N := N_law) D sc_law (fun vs H Q E h => by obtain ⟨_, _, rfl, _⟩ := h; rfl) (fun f cdv A outer s H vs Q E hr h => ⟨_, (pss_cons (ps_set (i := 1) sc_law.nd rfl (Or.inl rfl) (pe_f F__law_hand hr rfl (by decide) (pa_cons (pv 0) pa_nil))) (pss_cons (ps_set (i := 2) sc_law.nd rfl (Or.inl rfl) (pe_f F__law_letters hr rfl (by decide) (pa_cons (pv 1) pa_nil))) (pss_cons (ps_set (i := 3) sc_law.nd rfl (Or.inl rfl) (pe_f F__law_closed_choice hr rfl (by decide) (pa_cons (pv 1) (pa_cons (pv 2) pa_nil)))) (pss_cons (ps_set (i := 4) sc_law.nd rfl (Or.inl rfl) (pe_f F__law_closed_choice hr rfl (by decide) (pa_cons (pv 1) (pa_cons (pv 2) pa_nil)))) (pss_cons (ps_set (i := 5) sc_law.nd rfl (Or.inl rfl) (pe_f F__law_closed_choice hr rfl (by decide) (pa_cons (pv 1) (pa_cons (pv 2) pa_nil)))) (pss_cons (ps_if (PW.pt (pw_and (pt_cmpR op_gt (pv 2) pe_int (nomark _)) (pw_and1 (pt_not (pt_val (pe_f F__law_struck_right hr rfl (by decide) (pa_cons (pv 1) (pa_cons (pv 2) (pa_cons (pv 3) (pa_cons (pv 4) pa_nil)))))))))) (pss_one (ps_ret pe_bl)) pss_nil) (pss_cons (ps_if (pt_not (pt_val (pe_f F__law_quotient_right hr rfl (by decide) (pa_cons (pv 3) (pa_cons (pv 4) (pa_cons (pv 5) pa_nil)))))) (pss_one (ps_ret pe_bl)) pss_nil) (pss_cons (ps_set (i := 6) sc_law.nd rfl (Or.inl rfl) (pe_f F_quotient_of hr rfl (by decide) (pa_cons (pv 3) (pa_cons (pv 5) pa_nil)))) (pss_cons (ps_for PassesOwn.never rfl (pi_range1 rfl B.range (pa_cons (pe_ifExp (pt_cmpR op_eq (pv 2) pe_int (nomark _)) pe_int pe_int) pa_nil)) (pg_name (i := 7) sc_law.nd rfl (Or.inl rfl)) (pss_cons (ps_set (i := 8) sc_law.nd rfl (Or.inl rfl) (pe_f F__law_code_word hr rfl (by decide) (pa_cons (pv 1) (pa_cons (pv 2) (pa_cons (pe_callTy call_list_of rfl B.list (by decide +kernel) (pa_cons (pe_fldK (K := K) rfl (pv 6) rfl) pa_nil)) pa_nil))))) (pss_cons (ps_if (pt_cmpR op_eq (pe_op op_and (pv 7) pe_int) pe_int (nomark _)) (pss_one (ps_set (i := 8) sc_law.nd rfl (Or.inl rfl) (pe_op op_xor (pv 8) (pe_f F__law_heap_word hr rfl (by decide) (pa_cons (pv 2) (pa_cons (pe_f F__law_draw hr rfl (by decide) (pa_cons (pv 1) (pa_cons (pe_op op_shl pe_int (pv 2)) pa_nil))) pa_nil)))))) pss_nil) (pss_one (ps_if (pt_not (pt_val (pe_f F__law_kept_right hr rfl (by decide) (pa_cons (pv 2) (pa_cons (pv 3) (pa_cons (pv 5) (pa_cons (pv 8) pa_nil))))))) (pss_one (ps_ret pe_bl)) pss_nil))))) (pss_one (ps_ret (pe_f F__law_rows_right hr rfl (by decide) (pa_cons (pv 1) (pa_cons (pv 2) (pa_cons (pe_f F__law_hcut hr rfl (by decide) (pa_cons (pv 1) (pa_cons (pe_f F__law_choice hr rfl (by decide) (pa_cons (pv 1) (pa_cons (pv 2) pa_nil))) (pa_cons pe_int pa_nil)))) (pa_cons (pe_f F__law_hcut hr rfl (by decide) (pa_cons (pv 1) (pa_cons (pe_f F__law_choice hr rfl (by decide) (pa_cons (pv 1) (pa_cons (pv 2) pa_nil))) (pa_cons pe_int pa_nil)))) pa_nil)))))))))))))))), ?_⟩)
  obtain ⟨s0, ns, rfl, ⟨hx, hl⟩, hQ⟩ := h
  refine q_asgP (ep_f (P := fun v H2 => ∃ p, v = .ref p ∧ HandAt H2 p) (ea1 (ev_var rfl)) fun H1 e1 Q k => ⟨s0, ns, rfl, ⟨ex_l e1 hx, hl⟩, k⟩) fun v H1 e1 hv => ?_
  obtain ⟨a, rfl, hd⟩ := hv
  refine q_asgP (ep_f (P := IsN fun m => 1 ≤ m ∧ m ≤ 5) (ea1 (ev_var rfl)) fun H2 e2 Q k => ⟨a, rfl, hd.mono e2, k⟩) fun v H2 e2 hv => ?_
  obtain ⟨m0, rfl, hm⟩ := hv
  obtain ⟨m, rfl⟩ : ∃ m, m0 = m + 1 := ⟨m0 - 1, by omega⟩
  have hs := shl_le hm
  refine q_asgP (ep_f (P := IsClo C (m + 1)) (ea2 (ev_var rfl) (ev_var rfl)) fun H3 e3 Q k => ⟨a, m + 1, rfl, ⟨hm, hd.mono (e2.trans e3)⟩, k⟩) fun v H3 e3 hv => ?_
  obtain ⟨p, ⟨x, rfl, cx⟩, hp⟩ := hv
  refine q_asgP (ep_f (P := IsClo C (m + 1)) (ea2 (ev_var rfl) (ev_var rfl)) fun H4 e4 Q k => ⟨a, m + 1, rfl, ⟨hm, hd.mono ((e2.trans e3).trans e4)⟩, k⟩) fun v H4 e4 hv => ?_
  obtain ⟨q, ⟨y, rfl, cy⟩, hq⟩ := hv
  refine q_asgP (ep_f (P := IsClo C (m + 1)) (ea2 (ev_var rfl) (ev_var rfl)) fun H5 e5 Q k => ⟨a, m + 1, rfl, ⟨hm, hd.mono (((e2.trans e3).trans e4).trans e5)⟩, k⟩) fun v H5 e5 hv => ?_
  obtain ⟨r, ⟨z, rfl, cz⟩, hr'⟩ := hv
  have cx5 := cx.mono (e4.trans e5)
  have cy5 := cy.mono e5
  have hd5 := hd.mono (((e2.trans e3).trans e4).trans e5)
  have ex5 : Ex H H5 := (((e1.trans e2).trans e3).trans e4).trans e5
  refine q_skip (et_is (et_and (et_test (ev_op (ev_var rfl) (ev_n 1 rfl) rv_gt)) fun h1 => et_not (et_B (ev_f (ea4 (ev_var rfl) (ev_var rfl) (ev_var rfl) (ev_var rfl)) fun H6 e6 Q k => ⟨a, x, y, m, p, q, rfl, ⟨⟨by have := of_decide_eq_true h1; omega, by omega⟩, hd5.mono e6, cx5.mono e6, cy5.mono e6, hp⟩, k⟩))) (Bool.and_false _)) fun H6 e6 => ?_
  refine q_skip (et_is (b := false) (et_not (et_B (ev_f (z := .bl true) (ea3 (ev_var rfl) (ev_var rfl) (ev_var rfl)) fun H7 e7 Q k => ⟨x, y, z, m + 1, p, q, r, rfl, ⟨cx5.mono (e6.trans e7), cy5.mono (e6.trans e7), cz.mono (e6.trans e7), hp, hq, hr'⟩, k⟩))) rfl) fun H7 e7 => ?_
  have cx7 := cx5.mono (e6.trans e7)
  have cz7 := cz.mono (e6.trans e7)
  refine q_asgP (ep_quo (ep_var rfl cx7) (ep_var rfl cz7) hp hr') fun v H8 e8 hv => ?_
  obtain ⟨inn, rfl, ci⟩ := hv
  have ex8 : Ex H5 H8 := (e6.trans e7).trans e8
  refine q_for (φ := vN) (l := List.range (if decide (m + 1 = 5) = true then 2 else 4)) (ei_rng (ea1 (ev_is (ev_ifV (x := vN 2) (y := vN 4) (et_test (ev_op (ev_var rfl) (ev_n 5 rfl) rv_eqN)) (fun _ => ev_n 2 rfl) fun _ => ev_n 4 rfl) (by split <;> rfl))) (by split <;> decide)) (fun pre σ' _ => ∃ z1 z2, σ' = [some (.ref s0), some (.ref a), some (vN (m + 1)), some (.ref x), some (.ref y), some (.ref z), some (.ref inn), z1, z2]) (fun H1 e1 => ⟨_, _, rfl⟩) ?_ ?_
  · rintro Hb eb pre t post σ' H' el e ⟨z1, z2, rfl⟩
    have ex9 := eb.trans e
    refine q_asgP (ep_code (m := m + 1) (ns := heaps (m + 1) (quoP (m + 1) p r)) (ev_var rfl) (ev_var rfl) (el_heaps hC (ev_var rfl) (ci.mono ex9)) (hd5.mono (ex8.trans ex9)) hm (heaps_len60 hm _) (heaps_lt _ _)) fun v H9 e9 hv => ?_
    obtain ⟨u, rfl, hu⟩ := hv
    have hu' : u < 2 ^ 2 ^ (m + 1) := sp_lt (p := quoP (m + 1) p r) hu
    refine q_tail (M := fun σ' H' => ∃ u', σ' = [some (.ref s0), some (.ref a), some (vN (m + 1)), some (.ref x), some (.ref y), some (.ref z), some (.ref inn), some (vN t), some (vN u')] ∧ u' < 2 ^ 2 ^ (m + 1) ∧ Ex H9 H') ?_ fun tail => ?_
    · rintro σ2 H10 ⟨u', rfl, hlt, e10⟩
      have ex10 : Ex H5 H10 := (ex8.trans ex9).trans (e9.trans e10)
      exact s_skip (et_is (b := false) (et_not (et_B (ev_f (z := .bl true) (ea4 (ev_var rfl) (ev_var rfl) (ev_var rfl) (ev_var rfl)) fun H11 e11 Q k => ⟨m + 1, x, z, u', p, r, rfl, ⟨cx5.mono (ex10.trans e11), cz.mono (ex10.trans e11), hp, hr', hlt⟩, k⟩))) rfl) fun H11 e11 => ⟨((e.trans e9).trans e10).trans e11, _, _, rfl⟩
    · refine q_when (et_test (ev_op (ev_op (ev_var rfl) (ev_n 1 rfl) rv_and) (ev_n 1 rfl) rv_eqN)) (fun hb H10 e10 => ?_) fun hb H10 e10 => tail _ _ ⟨u, rfl, hu', e10⟩
      refine s_asgP (ep_opN (A := fun k => k = u) (D := fun k => k < 2 ^ 2 ^ (m + 1)) (Ev.isN (ev_var rfl) rfl) (B := fun k => k < 2 ^ 2 ^ (m + 1)) (ep_lmon (ev_var rfl) (ep_draw (ea2 (ev_var rfl) (ev_pow (ev_n 1 rfl) (ev_var rfl) (by omega))) (hd5.mono ((ex8.trans ex9).trans (e9.trans e10))) (by omega)) hm) fun a1 b1 H11 h1 h2 => ⟨a1 ^^^ b1, ?_, rv_xor⟩) fun v H11 e11 hv => ?_
      · have h1' : a1 = u := h1
        show a1 ^^^ b1 < _
        rw [h1']
        exact Nat.xor_lt_two_pow hu' h2
      · obtain ⟨k, rfl, hk⟩ := hv
        exact tail _ _ ⟨k, rfl, hk, e10.trans e11⟩
  · rintro σ' H' e ⟨z1, z2, rfl⟩
    have ex9 : Ex H5 H' := ex8.trans e
    exact s_ret (ep_rows (m := m + 1) (ev_var rfl) (ev_var rfl) (ep_hcut (ev_var rfl) (eln_choice (ea2 (ev_var rfl) (ev_var rfl)) (hd5.mono ex9) hm) (ev_n 12 rfl) (hd5.mono ex9)) (ep_hcut (ev_var rfl) (eln_choice (ea2 (ev_var rfl) (ev_var rfl)) (hd5.mono ex9) hm) (ev_n 12 rfl) (hd5.mono ex9)) (hd5.mono ex9) hm) fun H10 e10 => hQ H10 ((ex5.trans ex9).trans e10)
end
end KW

namespace KW
open PySem PySem.Spec PyProof.Rows L2 Evl
/-! ### __iter__ of the class -/
section
variable {P : Program} {w : World} {K : PySem.W.Frag} {mg : Str → Option Value} {base : Heap} {C : Addr}
abbrev N_Choice_iter : List Str := ["self"]
theorem sc_Choice_iter : FnScope N_Choice_iter ["self"] (defScope s_Choice_iter) := ⟨rfl, rfl, rfl, by decide +kernel, rfl, by decide +kernel, by decide +kernel⟩
theorem fx_Choice_iter (D : Dm K C "__iter__" "Choice.__iter__" s_Choice_iter) (B : Bt mg) (hC : CH K mg C) : Ix P w K mg base 1 C := by
  obtain ⟨f, fd, F, m⟩ := D
  have hb : Binds K fd ["self"] [] := F.bindsN fun _ _ _ _ _ _ us hl => match us, hl with | [_], _ => rfl
  obtain ⟨oc, od, dV, kV, doc, pm, an, cdv, ct, osl, rfl, lk, hcd, _, _⟩ := F.ex
  refine ⟨f, _, K64.fns_of lk hcd sc_Choice_iter (fun n vs H Q E h => by obtain ⟨_, _, _, rfl, _⟩ := h; rfl) (fun A outer s H vs Q E hr h => ⟨_, PSs.nox (pss_one (ps_ret (pe_callB K64.cr_iterT rfl B.iter (by decide +kernel) (pa_cons (pe_fldK (K := K) rfl (pv 0) rfl) pa_nil)))), ?_⟩), m, hb⟩
  obtain ⟨a, t, xs, rfl, ⟨dx, n, h1, h2⟩, hQ⟩ := h
  exact ⟨_, rfl, a, C, dx, _, _, rfl, h1, hC.cls, hC.nh, rfl, t, xs, rfl, st_of h2, hQ⟩
end
/-! ### all defs keep their promises -/
theorem facts {P : Program} {w : World} {K : PySem.W.Frag} {h : Heap} {mg : Str → Option Value} {f : Addr} (X : K.In h) (G : h.Ns mainGlobals mg) (hfa : mg ("law" : Str) = some (.ref f)) (c : He.SaysD faL fnL K) (hx : exB K = true) :
    ∃ fd : FuncData, (∀ (s : Shared) (v : Value), BindsTo s fd ⟨[v], []⟩ [("_law_script", v)]) ∧ ∀ base : Heap, K.In base → base.Ns mainGlobals mg → FnOk P w K mg base CX0 10 f fd ["_law_script"] (sp_law K) := by
  have B : Bt mg := ⟨He.free_ok X G (c.fact 71 (f := .free "isinstance") rfl), He.free_ok X G (c.fact 72 (f := .free "int") rfl), He.free_ok X G (c.fact 73 (f := .free "bool") rfl), He.free_ok X G (c.fact 74 (f := .free "list") rfl), He.free_ok X G (c.fact 75 (f := .free "tuple") rfl), He.free_ok X G (c.fact 76 (f := .free "enumerate") rfl), He.free_ok X G (c.fact 77 (f := .free "sorted") rfl), He.free_ok X G (c.fact 78 (f := .free "set") rfl), He.free_ok X G (c.fact 79 (f := .free "range") rfl), He.free_ok X G (c.fact 80 (f := .free "len") rfl), He.free_ok X G (c.fact 81 (f := .free "any") rfl), He.free_ok X G (c.fact 82 (f := .free "all") rfl), He.free_ok X G (c.fact 83 (f := .free "abs") rfl), He.free_ok X G (c.fact 84 (f := .free "iter") rfl), He.int_ok X G (c.fact 85 (f := .int "MOST_LETTERS" 5) rfl), He.int_ok X G (c.fact 86 (f := .int "GREATEST" 4294967295) rfl), He.int_ok X G (c.fact 87 (f := .int "MOST_WORDS" 5000) rfl)⟩
  have hC : CH K mg (He.ga K "Choice") := ⟨He.glo_ok X G (c.fact 88 (f := .glo "Choice") rfl), He.cls_ok (c.fact 89 (f := .cls "Choice") rfl), He.noat_ok (c.fact 97 (f := .noat "Choice" "letters") rfl), He.noat_ok (c.fact 98 (f := .noat "Choice" "heaps") rfl)⟩
  have hE : Cls K (He.ga K "Escapes") ∧ NoAttr K (He.ga K "Escapes") "heap" ∧ NoAttr K (He.ga K "Escapes") "word" := ⟨He.cls_ok (c.fact 92 (f := .cls "Escapes") rfl), He.noat_ok (c.fact 99 (f := .noat "Escapes" "heap") rfl), He.noat_ok (c.fact 100 (f := .noat "Escapes" "word") rfl)⟩
  have hA : Cls K (He.ga K "Against") ∧ NoAttr K (He.ga K "Against") "row" := ⟨He.cls_ok (c.fact 95 (f := .cls "Against") rfl), He.noat_ok (c.fact 101 (f := .noat "Against" "row") rfl)⟩
  have hx' : ∀ b ∈ exF K, b = true := fun b hb => List.all_eq_true.mp hx b hb
  have O : OwnC K (He.ga K "Choice") := ⟨He.eqO_ok (hx' _ (by simp [exF])), He.eqO_ok (hx' _ (by simp [exF])), of_decide_eq_true (hx' _ (by simp [exF])), of_decide_eq_true (hx' _ (by simp [exF])), He.eqO_ok (hx' _ (by simp [exF])), of_decide_eq_true (hx' _ (by simp [exF]))⟩
  have hW : WT K mg (He.ga K "WITHOUT") := ⟨He.glo_ok X G (c.fact 105 (f := .glo "WITHOUT") rfl), fun H => He.tupB_ok (hx' _ (List.mem_cons_self ..)) H⟩
  obtain ⟨fd, F0⟩ := c.def_ 76 (d := d_law) rfl
  have e := hfa.symm.trans (He.glo_ok X G (c.fact 70 (f := .glo "law") rfl))
  cases e
  have b := FunD.bindsA (ps := ["_law_script"]) F0 fun _ _ _ _ _ _ us hl => match us, hl with | [_], _ => rfl
  refine ⟨fd, fun s v => b s [v] rfl, fun base _ _ => ?_⟩
  have F_iter := fx_Choice_iter (P := P) (w := w) (base := base) (C := He.ga K "Choice") (by obtain ⟨fd, F⟩ := c.def_ 24 (d := d_Choice_iter) rfl; exact ⟨_, fd, F, He.meth_ok (c.fact 103 (f := .meth "Choice" "__iter__") rfl)⟩) B hC
  have F__law_hand := fx_hand (fx0__law_hand (P := P) (w := w) (base := base) (by obtain ⟨fd, F⟩ := c.def_ 55 (d := d__law_hand) rfl; exact ⟨_, fd, F, He.glo_ok X G (c.fact 49 (f := .glo "_law_hand") rfl)⟩) B)
  have F__law_mix := fx__law_mix (P := P) (w := w) (base := base) (by obtain ⟨fd, F⟩ := c.def_ 54 (d := d__law_mix) rfl; exact ⟨_, fd, F, He.glo_ok X G (c.fact 48 (f := .glo "_law_mix") rfl)⟩) B
  have F__law_draw := fx_draw (fx0__law_draw (P := P) (w := w) (base := base) (by obtain ⟨fd, F⟩ := c.def_ 56 (d := d__law_draw) rfl; exact ⟨_, fd, F, He.glo_ok X G (c.fact 50 (f := .glo "_law_draw") rfl)⟩) B F__law_mix)
  have F__law_letters := fx__law_letters (P := P) (w := w) (base := base) (by obtain ⟨fd, F⟩ := c.def_ 58 (d := d__law_letters) rfl; exact ⟨_, fd, F, He.glo_ok X G (c.fact 52 (f := .glo "_law_letters") rfl)⟩) B F__law_draw
  have F_is_whole := fx_is_whole (P := P) (w := w) (base := base) (by obtain ⟨fd, F⟩ := c.def_ 0 (d := d_is_whole) rfl; exact ⟨_, fd, F, He.glo_ok X G (c.fact 0 (f := .glo "is_whole") rfl)⟩) B
  have F_check_letters := fx_check_letters (P := P) (w := w) (base := base) (by obtain ⟨fd, F⟩ := c.def_ 1 (d := d_check_letters) rfl; exact ⟨_, fd, F, He.glo_ok X G (c.fact 1 (f := .glo "check_letters") rfl)⟩) B F_is_whole
  have F_checked_letters := fx_checked_letters (P := P) (w := w) (base := base) (by obtain ⟨fd, F⟩ := c.def_ 19 (d := d_checked_letters) rfl; exact ⟨_, fd, F, He.glo_ok X G (c.fact 19 (f := .glo "checked_letters") rfl)⟩) B F_check_letters
  have F_check_heaps := fx_check_heaps (P := P) (w := w) (base := base) (by obtain ⟨fd, F⟩ := c.def_ 5 (d := d_check_heaps) rfl; exact ⟨_, fd, F, He.glo_ok X G (c.fact 5 (f := .glo "check_heaps") rfl)⟩) B F_check_letters F_is_whole
  have F_checked_heaps := fx_checked_heaps (P := P) (w := w) (base := base) (by obtain ⟨fd, F⟩ := c.def_ 20 (d := d_checked_heaps) rfl; exact ⟨_, fd, F, He.glo_ok X G (c.fact 20 (f := .glo "checked_heaps") rfl)⟩) B F_check_heaps
  have F_Choice := fx_Choice_init (P := P) (w := w) (base := base) (C := He.ga K "Choice") (by obtain ⟨fd, F⟩ := c.def_ 22 (d := d_Choice_init) rfl; exact ⟨_, fd, F, He.mkr_ok (c.fact 90 (f := .mkr "Choice") rfl)⟩) (He.glo_ok X G (c.fact 88 (f := .glo "Choice") rfl)) B F_checked_letters F_checked_heaps hC
  have F__law_ones := fx__law_ones (P := P) (w := w) (base := base) (by obtain ⟨fd, F⟩ := c.def_ 59 (d := d__law_ones) rfl; exact ⟨_, fd, F, He.glo_ok X G (c.fact 53 (f := .glo "_law_ones") rfl)⟩) B
  have F__law_is_below := fx__law_is_below (P := P) (w := w) (base := base) (by obtain ⟨fd, F⟩ := c.def_ 61 (d := d__law_is_below) rfl; exact ⟨_, fd, F, He.glo_ok X G (c.fact 55 (f := .glo "_law_is_below") rfl)⟩) B F__law_ones
  have F__law_falling := fx__law_falling (P := P) (w := w) (base := base) (by obtain ⟨fd, F⟩ := c.def_ 62 (d := d__law_falling) rfl; exact ⟨_, fd, F, He.glo_ok X G (c.fact 56 (f := .glo "_law_falling") rfl)⟩) B F__law_is_below
  have F__law_seeds := fx__law_seeds (P := P) (w := w) (base := base) (by obtain ⟨fd, F⟩ := c.def_ 64 (d := d__law_seeds) rfl; exact ⟨_, fd, F, He.glo_ok X G (c.fact 58 (f := .glo "_law_seeds") rfl)⟩) B F__law_draw
  have F__law_closed := fx__law_closed (P := P) (w := w) (base := base) (by obtain ⟨fd, F⟩ := c.def_ 63 (d := d__law_closed) rfl; exact ⟨_, fd, F, He.glo_ok X G (c.fact 57 (f := .glo "_law_closed") rfl)⟩) B
  have F__law_closed_choice := fx__law_closed_choice (P := P) (w := w) (base := base) (by obtain ⟨fd, F⟩ := c.def_ 71 (d := d__law_closed_choice) rfl; exact ⟨_, fd, F, He.glo_ok X G (c.fact 65 (f := .glo "_law_closed_choice") rfl)⟩) B F__law_draw F_Choice F__law_falling F__law_seeds F__law_closed hC
  have F_check_long := fx_check_long (P := P) (w := w) (base := base) (by obtain ⟨fd, F⟩ := c.def_ 34 (d := d_check_long) rfl; exact ⟨_, fd, F, He.glo_ok X G (c.fact 29 (f := .glo "check_long") rfl)⟩) B F_check_letters
  have F_check_letter := fx_check_letter (P := P) (w := w) (base := base) (by obtain ⟨fd, F⟩ := c.def_ 2 (d := d_check_letter) rfl; exact ⟨_, fd, F, He.glo_ok X G (c.fact 2 (f := .glo "check_letter") rfl)⟩) B F_check_letters F_is_whole
  have F_check_bit := fx_check_bit (P := P) (w := w) (base := base) (by obtain ⟨fd, F⟩ := c.def_ 3 (d := d_check_bit) rfl; exact ⟨_, fd, F, He.glo_ok X G (c.fact 3 (f := .glo "check_bit") rfl)⟩) B F_is_whole
  have F_without_letter := fx_without_letter (P := P) (w := w) (base := base) (by obtain ⟨fd, F⟩ := c.def_ 35 (d := d_without_letter) rfl; exact ⟨_, fd, F, He.glo_ok X G (c.fact 30 (f := .glo "without_letter") rfl)⟩) B
  have F_strike := fx_strike (P := P) (w := w) (base := base) (by obtain ⟨fd, F⟩ := c.def_ 38 (d := d_strike) rfl; exact ⟨_, fd, F, He.glo_ok X G (c.fact 33 (f := .glo "strike") rfl)⟩) B F_check_long F_check_letter F_check_bit F_without_letter F_Choice hC
  have F_shorten := fx_shorten (P := P) (w := w) (base := base) (by obtain ⟨fd, F⟩ := c.def_ 39 (d := d_shorten) rfl; exact ⟨_, fd, F, He.glo_ok X G (c.fact 34 (f := .glo "shorten") rfl)⟩) B F_check_long F_check_letter F_check_bit F_without_letter F_Choice hC
  have F_check_heap := fx_check_heap (P := P) (w := w) (base := base) (by obtain ⟨fd, F⟩ := c.def_ 4 (d := d_check_heap) rfl; exact ⟨_, fd, F, He.glo_ok X G (c.fact 4 (f := .glo "check_heap") rfl)⟩) B F_check_letters F_is_whole
  have F_letters_of := fx_letters_of (P := P) (w := w) (base := base) (by obtain ⟨fd, F⟩ := c.def_ 6 (d := d_letters_of) rfl; exact ⟨_, fd, F, He.glo_ok X G (c.fact 6 (f := .glo "letters_of") rfl)⟩) B F_check_heap
  have F_closed_gap := fx_closed_gap (P := P) (w := w) (base := base) (by obtain ⟨fd, F⟩ := c.def_ 28 (d := d_closed_gap) rfl; exact ⟨_, fd, F, He.glo_ok X G (c.fact 24 (f := .glo "closed_gap") rfl)⟩) B F_letters_of hC
  have F_check_closed := fx_check_closed (P := P) (w := w) (base := base) (by obtain ⟨fd, F⟩ := c.def_ 29 (d := d_check_closed) rfl; exact ⟨_, fd, F, He.glo_ok X G (c.fact 25 (f := .glo "check_closed") rfl)⟩) B F_closed_gap hC
  have F_all_heaps := fx_all_heaps (P := P) (w := w) (base := base) (by obtain ⟨fd, F⟩ := c.def_ 11 (d := d_all_heaps) rfl; exact ⟨_, fd, F, He.glo_ok X G (c.fact 11 (f := .glo "all_heaps") rfl)⟩) B F_check_letters
  have F_all_letters := fx_all_letters (P := P) (w := w) (base := base) (by obtain ⟨fd, F⟩ := c.def_ 9 (d := d_all_letters) rfl; exact ⟨_, fd, F, He.glo_ok X G (c.fact 9 (f := .glo "all_letters") rfl)⟩) B F_check_letters
  have F_complement_of := fx_complement_of (P := P) (w := w) (base := base) (by obtain ⟨fd, F⟩ := c.def_ 10 (d := d_complement_of) rfl; exact ⟨_, fd, F, He.glo_ok X G (c.fact 10 (f := .glo "complement_of") rfl)⟩) B F_all_letters F_check_heap
  have F_contains := fx_Choice_contains (P := P) (w := w) (base := base) (C := He.ga K "Choice") (by obtain ⟨fd, F⟩ := c.def_ 23 (d := d_Choice_contains) rfl; exact ⟨_, fd, F, He.meth_ok (c.fact 102 (f := .meth "Choice" "__contains__") rfl)⟩) B F_is_whole hC
  have F_rest_of := fx_rest_of (P := P) (w := w) (base := base) (by obtain ⟨fd, F⟩ := c.def_ 52 (d := d_rest_of) rfl; exact ⟨_, fd, F, He.glo_ok X G (c.fact 46 (f := .glo "rest_of") rfl)⟩) B F_check_closed F_all_heaps F_complement_of F_Choice F_contains hC
  have F_check_same := fx_check_same (P := P) (w := w) (base := base) (by obtain ⟨fd, F⟩ := c.def_ 21 (d := d_check_same) rfl; exact ⟨_, fd, F, He.glo_ok X G (c.fact 21 (f := .glo "check_same") rfl)⟩) B
  have F_product_of := fx_product_of (P := P) (w := w) (base := base) (by obtain ⟨fd, F⟩ := c.def_ 31 (d := d_product_of) rfl; exact ⟨_, fd, F, He.glo_ok X G (c.fact 26 (f := .glo "product_of") rfl)⟩) B F_check_same F_Choice hC
  have F__law_wide := fx__law_wide (P := P) (w := w) (base := base) (by obtain ⟨fd, F⟩ := c.def_ 57 (d := d__law_wide) rfl; exact ⟨_, fd, F, He.glo_ok X G (c.fact 51 (f := .glo "_law_wide") rfl)⟩) B F__law_draw
  have F__law_any_word := fx__law_any_word (P := P) (w := w) (base := base) (by obtain ⟨fd, F⟩ := c.def_ 66 (d := d__law_any_word) rfl; exact ⟨_, fd, F, He.glo_ok X G (c.fact 60 (f := .glo "_law_any_word") rfl)⟩) B F__law_wide
  have F__law_heap_word := fx__law_heap_word (P := P) (w := w) (base := base) (by obtain ⟨fd, F⟩ := c.def_ 60 (d := d__law_heap_word) rfl; exact ⟨_, fd, F, He.glo_ok X G (c.fact 54 (f := .glo "_law_heap_word") rfl)⟩) B
  have F__law_code_word := fx__law_code_word (P := P) (w := w) (base := base) (by obtain ⟨fd, F⟩ := c.def_ 67 (d := d__law_code_word) rfl; exact ⟨_, fd, F, He.glo_ok X G (c.fact 61 (f := .glo "_law_code_word") rfl)⟩) B F__law_wide F__law_heap_word
  have F_full_word := fx_full_word (P := P) (w := w) (base := base) (by obtain ⟨fd, F⟩ := c.def_ 12 (d := d_full_word) rfl; exact ⟨_, fd, F, He.glo_ok X G (c.fact 12 (f := .glo "full_word") rfl)⟩) B F_check_letters
  have F_check_word := fx_check_word (P := P) (w := w) (base := base) (by obtain ⟨fd, F⟩ := c.def_ 13 (d := d_check_word) rfl; exact ⟨_, fd, F, He.glo_ok X G (c.fact 13 (f := .glo "check_word") rfl)⟩) B F_is_whole F_full_word
  have F_widen_word := fx_widen_word (P := P) (w := w) (base := base) (by obtain ⟨fd, F⟩ := c.def_ 37 (d := d_widen_word) rfl; exact ⟨_, fd, F, He.glo_ok X G (c.fact 32 (f := .glo "widen_word") rfl)⟩) B F_check_long F_check_word F_check_letter F_check_bit F_without_letter
  have F_check_below := fx_check_below (P := P) (w := w) (base := base) (by obtain ⟨fd, F⟩ := c.def_ 40 (d := d_check_below) rfl; exact ⟨_, fd, F, He.glo_ok X G (c.fact 35 (f := .glo "check_below") rfl)⟩) B F_is_whole
  have F_check_words := fx_check_words (P := P) (w := w) (base := base) (by obtain ⟨fd, F⟩ := c.def_ 41 (d := d_check_words) rfl; exact ⟨_, fd, F, He.glo_ok X G (c.fact 36 (f := .glo "check_words") rfl)⟩) B F_check_below
  have F_taken_off := fx_taken_off (P := P) (w := w) (base := base) (by obtain ⟨fd, F⟩ := c.def_ 43 (d := d_taken_off) rfl; exact ⟨_, fd, F, He.glo_ok X G (c.fact 38 (f := .glo "taken_off") rfl)⟩) B
  have F_with_row := fx_with_row (P := P) (w := w) (base := base) (by obtain ⟨fd, F⟩ := c.def_ 44 (d := d_with_row) rfl; exact ⟨_, fd, F, He.glo_ok X G (c.fact 39 (f := .glo "with_row") rfl)⟩) B
  have F_reduced_rows := fx_reduced_rows (P := P) (w := w) (base := base) (by obtain ⟨fd, F⟩ := c.def_ 45 (d := d_reduced_rows) rfl; exact ⟨_, fd, F, He.glo_ok X G (c.fact 40 (f := .glo "reduced_rows") rfl)⟩) B F_check_words F_taken_off F_with_row
  have F_even_rows := fx_even_rows (P := P) (w := w) (base := base) (by obtain ⟨fd, F⟩ := c.def_ 48 (d := d_even_rows) rfl; exact ⟨_, fd, F, He.glo_ok X G (c.fact 43 (f := .glo "even_rows") rfl)⟩) B F_check_letters F_reduced_rows F_check_below F_full_word
  have F_stepped_word := fx_stepped_word (P := P) (w := w) (base := base) (by obtain ⟨fd, F⟩ := c.def_ 14 (d := d_stepped_word) rfl; exact ⟨_, fd, F, He.glo_ok X G (c.fact 14 (f := .glo "stepped_word") rfl)⟩) B F_full_word hW
  have F_heap_word := fx_heap_word (P := P) (w := w) (base := base) (by obtain ⟨fd, F⟩ := c.def_ 16 (d := d_heap_word) rfl; exact ⟨_, fd, F, He.glo_ok X G (c.fact 16 (f := .glo "heap_word") rfl)⟩) B F_stepped_word F_check_heap
  have F_code_rows := fx_code_rows (P := P) (w := w) (base := base) (by obtain ⟨fd, F⟩ := c.def_ 50 (d := d_code_rows) rfl; exact ⟨_, fd, F, He.glo_ok X G (c.fact 44 (f := .glo "code_rows") rfl)⟩) B F_heap_word hC
  have F_rest_rows := fx_rest_rows (P := P) (w := w) (base := base) (by obtain ⟨fd, F⟩ := c.def_ 51 (d := d_rest_rows) rfl; exact ⟨_, fd, F, He.glo_ok X G (c.fact 45 (f := .glo "rest_rows") rfl)⟩) B F_even_rows F_code_rows hC
  have F_count_ones := fx_count_ones (P := P) (w := w) (base := base) (by obtain ⟨fd, F⟩ := c.def_ 7 (d := d_count_ones) rfl; exact ⟨_, fd, F, He.glo_ok X G (c.fact 7 (f := .glo "count_ones") rfl)⟩) B
  have F_parity_of := fx_parity_of (P := P) (w := w) (base := base) (by obtain ⟨fd, F⟩ := c.def_ 8 (d := d_parity_of) rfl; exact ⟨_, fd, F, He.glo_ok X G (c.fact 8 (f := .glo "parity_of") rfl)⟩) B F_count_ones
  have F_meets_evenly := fx_meets_evenly (P := P) (w := w) (base := base) (by obtain ⟨fd, F⟩ := c.def_ 18 (d := d_meets_evenly) rfl; exact ⟨_, fd, F, He.glo_ok X G (c.fact 18 (f := .glo "meets_evenly") rfl)⟩) B F_parity_of F_check_word
  have F_Against := fx_Against_init (P := P) (w := w) (base := base) (CA := He.ga K "Against") (by obtain ⟨fd, F⟩ := c.def_ 49 (d := d_Against_init) rfl; exact ⟨_, fd, F, He.mkr_ok (c.fact 96 (f := .mkr "Against") rfl)⟩) (He.glo_ok X G (c.fact 94 (f := .glo "Against") rfl)) B hA
  have F_meets_rest := fx_meets_rest (P := P) (w := w) (base := base) (by obtain ⟨fd, F⟩ := c.def_ 53 (d := d_meets_rest) rfl; exact ⟨_, fd, F, He.glo_ok X G (c.fact 47 (f := .glo "meets_rest") rfl)⟩) B F_check_word F_rest_rows F_meets_evenly F_Against hC
  have F_ones_of := fx_ones_of (P := P) (w := w) (base := base) (by obtain ⟨fd, F⟩ := c.def_ 15 (d := d_ones_of) rfl; exact ⟨_, fd, F, He.glo_ok X G (c.fact 15 (f := .glo "ones_of") rfl)⟩) B
  have F_heaps_of := fx_heaps_of (P := P) (w := w) (base := base) (by obtain ⟨fd, F⟩ := c.def_ 17 (d := d_heaps_of) rfl; exact ⟨_, fd, F, He.glo_ok X G (c.fact 17 (f := .glo "heaps_of") rfl)⟩) B F_ones_of F_stepped_word F_check_word
  have F_strange_heap := fx_strange_heap (P := P) (w := w) (base := base) (by obtain ⟨fd, F⟩ := c.def_ 26 (d := d_strange_heap) rfl; exact ⟨_, fd, F, He.glo_ok X G (c.fact 22 (f := .glo "strange_heap") rfl)⟩) B F_heaps_of hC
  have F_holds := fx_holds (P := P) (w := w) (base := base) (by obtain ⟨fd, F⟩ := c.def_ 27 (d := d_holds) rfl; exact ⟨_, fd, F, He.glo_ok X G (c.fact 23 (f := .glo "holds") rfl)⟩) B F_strange_heap hC
  have F_strike_word := fx_strike_word (P := P) (w := w) (base := base) (by obtain ⟨fd, F⟩ := c.def_ 36 (d := d_strike_word) rfl; exact ⟨_, fd, F, He.glo_ok X G (c.fact 31 (f := .glo "strike_word") rfl)⟩) B F_check_long F_check_word F_check_letter F_check_bit F_without_letter
  have F_eq := fx_Choice_eq (P := P) (w := w) (base := base) (C := He.ga K "Choice") (by obtain ⟨fd, F⟩ := c.def_ 25 (d := d_Choice_eq) rfl; exact ⟨_, fd, F, He.meth_ok (c.fact 104 (f := .meth "Choice" "__eq__") rfl)⟩) B hC O
  have F__law_struck_right := fx__law_struck_right (P := P) (w := w) (base := base) (by obtain ⟨fd, F⟩ := c.def_ 72 (d := d__law_struck_right) rfl; exact ⟨_, fd, F, He.glo_ok X G (c.fact 66 (f := .glo "_law_struck_right") rfl)⟩) B F__law_draw F_strike F_shorten F_rest_of F_product_of F__law_any_word F__law_code_word F_widen_word F_meets_rest F_holds F_meets_evenly F_strike_word F_eq hC O
  have F_quotient_of := fx_quotient_of (P := P) (w := w) (base := base) (by obtain ⟨fd, F⟩ := c.def_ 33 (d := d_quotient_of) rfl; exact ⟨_, fd, F, He.glo_ok X G (c.fact 28 (f := .glo "quotient_of") rfl)⟩) B F_check_closed F_check_same F_all_heaps F_Choice hC
  have F__law_lies := fx__law_lies (P := P) (w := w) (base := base) (by obtain ⟨fd, F⟩ := c.def_ 70 (d := d__law_lies) rfl; exact ⟨_, fd, F, He.glo_ok X G (c.fact 64 (f := .glo "_law_lies") rfl)⟩) B F_contains F_iter hC
  have F__law_quotient_right := fx__law_quotient_right (P := P) (w := w) (base := base) (by obtain ⟨fd, F⟩ := c.def_ 73 (d := d__law_quotient_right) rfl; exact ⟨_, fd, F, He.glo_ok X G (c.fact 67 (f := .glo "_law_quotient_right") rfl)⟩) B F_quotient_of F_rest_of F_product_of F__law_lies F_eq hC O
  have F_Escapes := fx_Escapes_init (P := P) (w := w) (base := base) (CE := He.ga K "Escapes") (by obtain ⟨fd, F⟩ := c.def_ 30 (d := d_Escapes_init) rfl; exact ⟨_, fd, F, He.mkr_ok (c.fact 93 (f := .mkr "Escapes") rfl)⟩) (He.glo_ok X G (c.fact 91 (f := .glo "Escapes") rfl)) B hE
  have F_kept_in := fx_kept_in (P := P) (w := w) (base := base) (by obtain ⟨fd, F⟩ := c.def_ 32 (d := d_kept_in) rfl; exact ⟨_, fd, F, He.glo_ok X G (c.fact 27 (f := .glo "kept_in") rfl)⟩) B F_check_same F_check_word F_heap_word F_holds F_Escapes hC
  have F__law_kept_right := fx__law_kept_right (P := P) (w := w) (base := base) (by obtain ⟨fd, F⟩ := c.def_ 74 (d := d__law_kept_right) rfl; exact ⟨_, fd, F, He.glo_ok X G (c.fact 68 (f := .glo "_law_kept_right") rfl)⟩) B F_rest_rows F_heap_word F_meets_evenly F_holds F_quotient_of F_kept_in F_iter hC
  have F__law_hrows := fx__law_hrows (P := P) (w := w) (base := base) (by obtain ⟨fd, F⟩ := c.def_ 68 (d := d__law_hrows) rfl; exact ⟨_, fd, F, He.glo_ok X G (c.fact 62 (f := .glo "_law_hrows") rfl)⟩) B F__law_heap_word
  have F_check_single := fx_check_single (P := P) (w := w) (base := base) (by obtain ⟨fd, F⟩ := c.def_ 42 (d := d_check_single) rfl; exact ⟨_, fd, F, He.glo_ok X G (c.fact 37 (f := .glo "check_single") rfl)⟩) B F_is_whole
  have F_remainder_of := fx_remainder_of (P := P) (w := w) (base := base) (by obtain ⟨fd, F⟩ := c.def_ 46 (d := d_remainder_of) rfl; exact ⟨_, fd, F, He.glo_ok X G (c.fact 41 (f := .glo "remainder_of") rfl)⟩) B F_reduced_rows F_taken_off F_check_single
  have F_in_span := fx_in_span (P := P) (w := w) (base := base) (by obtain ⟨fd, F⟩ := c.def_ 47 (d := d_in_span) rfl; exact ⟨_, fd, F, He.glo_ok X G (c.fact 42 (f := .glo "in_span") rfl)⟩) B F_remainder_of
  have F__law_rows_right := fx__law_rows_right (P := P) (w := w) (base := base) (by obtain ⟨fd, F⟩ := c.def_ 75 (d := d__law_rows_right) rfl; exact ⟨_, fd, F, He.glo_ok X G (c.fact 69 (f := .glo "_law_rows_right") rfl)⟩) B F_product_of F_Choice F__law_hrows F_reduced_rows F_heap_word F__law_code_word F_holds F_in_span F_iter hC
  have F__law_hcut := fx__law_hcut (P := P) (w := w) (base := base) (by obtain ⟨fd, F⟩ := c.def_ 69 (d := d__law_hcut) rfl; exact ⟨_, fd, F, He.glo_ok X G (c.fact 63 (f := .glo "_law_hcut") rfl)⟩) B F__law_draw
  have F__law_choice := fx__law_choice (P := P) (w := w) (base := base) (by obtain ⟨fd, F⟩ := c.def_ 65 (d := d__law_choice) rfl; exact ⟨_, fd, F, He.glo_ok X G (c.fact 59 (f := .glo "_law_choice") rfl)⟩) B F__law_draw F__law_falling F__law_seeds F__law_closed F__law_wide
  exact ok_law (P := P) (w := w) (base := base) F0 B F__law_hand F__law_letters F__law_closed_choice F__law_struck_right F__law_quotient_right F_quotient_of F__law_code_word F__law_heap_word F__law_draw F__law_kept_right F__law_rows_right F__law_hcut F__law_choice hC
end KW
open PySem PySem.W PySem.Calls PyProof.Rows
theorem PySem.Challenge.cw_lowerwords_k64_whole_products_and_striki_holds : PySem.Challenge.rw_lowerwords_k64_whole_products_and_striki.Holds := by
  w_on; o_law
  refine HandSHeadRun.head_any (r := OpenLaw.row PySem.Challenge.rw_lowerwords_k64_whole_products_and_striki) (q := view (OpenLaw.row PySem.Challenge.rw_lowerwords_k64_whole_products_and_striki).prog [97]) (H := KW.hk) (ob := KW.ob) (M := 6000) (loose := KW.looseL) (d := HandSHeadRun.topDef (OpenLaw.row PySem.Challenge.rw_lowerwords_k64_whole_products_and_striki).prog 97) (kwd := []) KW.ob_eq
    (by kernel_rfl) (fun s => by kernel_rfl) KW.run (by kernel_rfl) (by kernel_rfl) (by kernel_rfl) (by rfl) (by first | assumption | decide +kernel) (by decide +kernel) ⟨rfl, rfl, rfl, rfl, rfl, by decide +kernel⟩ ?hw ?hc
  case hw => w_witness2
  case hc =>
    refine L2.walk_ofE (l := PySem.Challenge.rw_lowerwords_k64_whole_products_and_striki) (n := 63) (k := 10) (x := "_law_script") (CX := L2.CX0) rfl (by decide) (by kernel_rfl) ⟨rfl, by decide, by decide⟩ ?F (fun _ _ _ _ z => z)
    intro w mg fa h Y G hmg0
    obtain ⟨K, KX, c, hx⟩ := Y
    have hmg : mg ("law" : PySem.Str) = some (.ref fa) := by
      have e : (HandSHeadRun.topDef (OpenLaw.row PySem.Challenge.rw_lowerwords_k64_whole_products_and_striki).prog 97).name = ("law" : PySem.Str) := by kernel_rfl
      rw [← e]
      exact hmg0
    obtain ⟨fd, hb, hF⟩ := KW.facts (P := (PySem.Challenge.rw_lowerwords_k64_whole_products_and_striki).prog) (w := w) KX G hmg c hx
    exact ⟨K, fd, KW.sp_law K, KX, hb, fun H a ns hl _ hS => ⟨a, ns, rfl, ⟨hS, hl⟩, fun _ _ => rfl⟩, hF⟩

import PyProof.Rows.All
import HandS.Words
import HandS.HeadHook4
import HandS.Head2
import HandS.Head3
import HandS.HeadEnd
import HandS.HeadWalk
import HandS.Star
import HandS.SlotsOwn
import Wide.All
import OpenK.AllK
import Wide.FinOn
import HandS.ForMost
import HandS.Evl
import HandS.Flow
import HandS.Wide
import HandS.Slots
import HandS.Defaults
import HandS.AnyAll
import HandS.Style
import KE.GoesEnum
import KE.GoesMore
import HandS.Zip
import HandS.Comp
import HandS.Sort
import HandS.TupAny
import HandS.IsInst
import KE.KTupSum
import HandS.DictComp
import HandS.Gcd
import HandS.SortKw
import KE.DatumOrd
import KE.KOpsOwn
import HandS.Conv
import HandS.Strs
import HandS.SetBool
import KE.KDictZip
import KE.GoesZip
import HandS.GenList
import PySem.Challenge.RW_ringstairs_k96_whole_cores_round_maps_an
set_option Elab.async false
set_option linter.all false
set_option maxRecDepth 100000
set_option maxHeartbeats 0
/-! The head: what the top leaves, read by names. Printed by genhead.py. -/
namespace Hd
open PySem PySem.Spec PyProof.Rows L2 He
def top (i : Nat) : Stmt := PySem.Challenge.pw_ringstairs_k96_whole_cores_round_maps_an.main.body.getD i (.Pass ⟨0, 0, 0, 0⟩)
def inC (i j : Nat) : Stmt := inClass (top i) j
abbrev s_is_whole : Stmt := top 15
abbrev s_is_integer : Stmt := top 16
abbrev s_is_within : Stmt := top 17
abbrev s_is_ring_in : Stmt := top 18
abbrev s_is_chain_in : Stmt := top 19
abbrev s_order_in : Stmt := top 20
abbrev s_require_chain : Stmt := top 21
abbrev s_require_integer : Stmt := top 22
abbrev s_value_in_round : Stmt := top 26
abbrev s_lifted : Stmt := top 27
abbrev s_falls_of : Stmt := top 28
abbrev s_shift_of : Stmt := top 29
abbrev s_counted_in : Stmt := top 30
abbrev s_turned_back : Stmt := top 32
abbrev s_common_round : Stmt := top 33
abbrev s_are_same_maps : Stmt := top 34
abbrev s_is_round_in : Stmt := top 35
abbrev s_told_round : Stmt := top 37
abbrev s_require_round_size : Stmt := top 39
abbrev s_letter_behind : Stmt := top 43
abbrev s_does_fall : Stmt := top 44
abbrev s_with_shift : Stmt := top 45
abbrev s_first_fall : Stmt := top 46
abbrev s_word_in : Stmt := top 47
abbrev s_greedily_behind : Stmt := top 48
abbrev s_greedy_in : Stmt := top 49
abbrev s_widest_step : Stmt := top 50
abbrev s_more_in_column : Stmt := top 51
abbrev s_more_in : Stmt := top 52
abbrev s_is_word_in : Stmt := top 53
abbrev s_require_few_falls : Stmt := top 54
abbrev s_require_two_maps : Stmt := top 55
abbrev s_require_word_of_round : Stmt := top 56
abbrev s_greedy : Stmt := top 57
abbrev s_is_below : Stmt := top 58
abbrev s_does_nothing : Stmt := top 59
abbrev s_greedily_made : Stmt := top 60
abbrev s_is_tuple_in : Stmt := top 62
abbrev s_require_tuple : Stmt := top 63
abbrev s_is_heap_in : Stmt := top 66
abbrev s_holds_in : Stmt := top 67
abbrev s_flipped_in : Stmt := top 68
abbrev s_addable_columns : Stmt := top 69
abbrev s_can_remove_in : Stmt := top 70
abbrev s_risen : Stmt := top 71
abbrev s_grown_in : Stmt := top 72
abbrev s_heaps_in : Stmt := top 73
abbrev s_heap_in : Stmt := top 74
abbrev s_require_heap : Stmt := top 75
abbrev s_require_two_heaps : Stmt := top 76
abbrev s_is_held : Stmt := top 77
abbrev s_heap_of : Stmt := top 78
abbrev s_bead_list : Stmt := top 82
abbrev s_is_core_in : Stmt := top 83
abbrev s_charges_in : Stmt := top 84
abbrev s_bounded_parts_in : Stmt := top 85
abbrev s_letters_in : Stmt := top 86
abbrev s_require_order : Stmt := top 87
abbrev s_require_core : Stmt := top 88
abbrev s_charges : Stmt := top 89
abbrev s_letters_of : Stmt := top 90
abbrev s_with_letter_in : Stmt := top 94
abbrev s_without_letter : Stmt := top 95
abbrev s_letters_last : Stmt := top 96
abbrev s_is_core_word_in : Stmt := top 97
abbrev s_cores_on_the_way : Stmt := top 98
abbrev s_idle_in : Stmt := top 99
abbrev s_growing_word_in : Stmt := top 100
abbrev s_require_core_word : Stmt := top 101
abbrev s_require_letters_to : Stmt := top 102
abbrev s_require_way : Stmt := top 103
abbrev s_require_grown_core : Stmt := top 104
abbrev s_made_by : Stmt := top 105
abbrev s_idle_letters : Stmt := top 106
abbrev s_growing_word : Stmt := top 107
abbrev s_ring_letter : Stmt := top 111
abbrev s_letters_told : Stmt := top 112
abbrev s_exchanged : Stmt := top 113
abbrev s_window_in : Stmt := top 114
abbrev s_require_class_parts : Stmt := top 115
abbrev s_ring_letters : Stmt := top 116
abbrev s_window : Stmt := top 117
abbrev s__law_dice : Stmt := top 119
abbrev s__law_roll : Stmt := top 120
abbrev s__law_one_of : Stmt := top 121
abbrev s__law_common : Stmt := top 122
abbrev s__law_ring_of : Stmt := top 123
abbrev s__law_equal_chain : Stmt := top 124
abbrev s__law_grown : Stmt := top 125
abbrev s__law_heap : Stmt := top 126
abbrev s__law_mirrored : Stmt := top 127
abbrev s__law_least_map : Stmt := top 128
abbrev s__law_charges_by : Stmt := top 129
abbrev s__law_chain_right : Stmt := top 130
abbrev s__law_right : Stmt := top 131
abbrev s_law : Stmt := top 132
abbrev sR__init__ : Stmt := inC 36 1
abbrev sR__call__ : Stmt := inC 36 5
abbrev sR__eq__ : Stmt := inC 36 8
abbrev sR__invert__ : Stmt := inC 36 10
abbrev sRfalls : Stmt := inC 36 4
def d_is_whole : He.DefD := ⟨("is_whole", none), "is_whole", "is_whole", defArgs s_is_whole, defBody s_is_whole, defScope s_is_whole, [], []⟩
def d_is_integer : He.DefD := ⟨("is_integer", none), "is_integer", "is_integer", defArgs s_is_integer, defBody s_is_integer, defScope s_is_integer, [], []⟩
def d_is_within : He.DefD := ⟨("is_within", none), "is_within", "is_within", defArgs s_is_within, defBody s_is_within, defScope s_is_within, [], []⟩
def d_is_ring_in : He.DefD := ⟨("is_ring_in", none), "is_ring_in", "is_ring_in", defArgs s_is_ring_in, defBody s_is_ring_in, defScope s_is_ring_in, [], []⟩
def d_is_chain_in : He.DefD := ⟨("is_chain_in", none), "is_chain_in", "is_chain_in", defArgs s_is_chain_in, defBody s_is_chain_in, defScope s_is_chain_in, [], []⟩
def d_order_in : He.DefD := ⟨("order_in", none), "order_in", "order_in", defArgs s_order_in, defBody s_order_in, defScope s_order_in, [], []⟩
def d_require_chain : He.DefD := ⟨("require_chain", none), "require_chain", "require_chain", defArgs s_require_chain, defBody s_require_chain, defScope s_require_chain, [], []⟩
def d_require_integer : He.DefD := ⟨("require_integer", none), "require_integer", "require_integer", defArgs s_require_integer, defBody s_require_integer, defScope s_require_integer, [], []⟩
def d_value_in_round : He.DefD := ⟨("value_in_round", none), "value_in_round", "value_in_round", defArgs s_value_in_round, defBody s_value_in_round, defScope s_value_in_round, [], []⟩
def d_lifted : He.DefD := ⟨("lifted", none), "lifted", "lifted", defArgs s_lifted, defBody s_lifted, defScope s_lifted, [], []⟩
def d_falls_of : He.DefD := ⟨("falls_of", none), "falls_of", "falls_of", defArgs s_falls_of, defBody s_falls_of, defScope s_falls_of, [], []⟩
def d_shift_of : He.DefD := ⟨("shift_of", none), "shift_of", "shift_of", defArgs s_shift_of, defBody s_shift_of, defScope s_shift_of, [], []⟩
def d_counted_in : He.DefD := ⟨("counted_in", none), "counted_in", "counted_in", defArgs s_counted_in, defBody s_counted_in, defScope s_counted_in, [], []⟩
def d_turned_back : He.DefD := ⟨("turned_back", none), "turned_back", "turned_back", defArgs s_turned_back, defBody s_turned_back, defScope s_turned_back, [], []⟩
def d_common_round : He.DefD := ⟨("common_round", none), "common_round", "common_round", defArgs s_common_round, defBody s_common_round, defScope s_common_round, [], []⟩
def d_are_same_maps : He.DefD := ⟨("are_same_maps", none), "are_same_maps", "are_same_maps", defArgs s_are_same_maps, defBody s_are_same_maps, defScope s_are_same_maps, [], []⟩
def d_is_round_in : He.DefD := ⟨("is_round_in", none), "is_round_in", "is_round_in", defArgs s_is_round_in, defBody s_is_round_in, defScope s_is_round_in, [], []⟩
def d_told_round : He.DefD := ⟨("told_round", none), "told_round", "told_round", defArgs s_told_round, defBody s_told_round, defScope s_told_round, [], []⟩
def d_require_round_size : He.DefD := ⟨("require_round_size", none), "require_round_size", "require_round_size", defArgs s_require_round_size, defBody s_require_round_size, defScope s_require_round_size, [], []⟩
def d_letter_behind : He.DefD := ⟨("letter_behind", none), "letter_behind", "letter_behind", defArgs s_letter_behind, defBody s_letter_behind, defScope s_letter_behind, [], []⟩
def d_does_fall : He.DefD := ⟨("does_fall", none), "does_fall", "does_fall", defArgs s_does_fall, defBody s_does_fall, defScope s_does_fall, [], []⟩
def d_with_shift : He.DefD := ⟨("with_shift", none), "with_shift", "with_shift", defArgs s_with_shift, defBody s_with_shift, defScope s_with_shift, [], []⟩
def d_first_fall : He.DefD := ⟨("first_fall", none), "first_fall", "first_fall", defArgs s_first_fall, defBody s_first_fall, defScope s_first_fall, [], []⟩
def d_word_in : He.DefD := ⟨("word_in", none), "word_in", "word_in", defArgs s_word_in, defBody s_word_in, defScope s_word_in, [], []⟩
def d_greedily_behind : He.DefD := ⟨("greedily_behind", none), "greedily_behind", "greedily_behind", defArgs s_greedily_behind, defBody s_greedily_behind, defScope s_greedily_behind, [], []⟩
def d_greedy_in : He.DefD := ⟨("greedy_in", none), "greedy_in", "greedy_in", defArgs s_greedy_in, defBody s_greedy_in, defScope s_greedy_in, [], []⟩
def d_widest_step : He.DefD := ⟨("widest_step", none), "widest_step", "widest_step", defArgs s_widest_step, defBody s_widest_step, defScope s_widest_step, [], []⟩
def d_more_in_column : He.DefD := ⟨("more_in_column", none), "more_in_column", "more_in_column", defArgs s_more_in_column, defBody s_more_in_column, defScope s_more_in_column, [], []⟩
def d_more_in : He.DefD := ⟨("more_in", none), "more_in", "more_in", defArgs s_more_in, defBody s_more_in, defScope s_more_in, [], []⟩
def d_is_word_in : He.DefD := ⟨("is_word_in", none), "is_word_in", "is_word_in", defArgs s_is_word_in, defBody s_is_word_in, defScope s_is_word_in, [], []⟩
def d_require_few_falls : He.DefD := ⟨("require_few_falls", none), "require_few_falls", "require_few_falls", defArgs s_require_few_falls, defBody s_require_few_falls, defScope s_require_few_falls, [], []⟩
def d_require_two_maps : He.DefD := ⟨("require_two_maps", none), "require_two_maps", "require_two_maps", defArgs s_require_two_maps, defBody s_require_two_maps, defScope s_require_two_maps, [], []⟩
def d_require_word_of_round : He.DefD := ⟨("require_word_of_round", none), "require_word_of_round", "require_word_of_round", defArgs s_require_word_of_round, defBody s_require_word_of_round, defScope s_require_word_of_round, [], []⟩
def d_greedy : He.DefD := ⟨("greedy", none), "greedy", "greedy", defArgs s_greedy, defBody s_greedy, defScope s_greedy, [], []⟩
def d_is_below : He.DefD := ⟨("is_below", none), "is_below", "is_below", defArgs s_is_below, defBody s_is_below, defScope s_is_below, [], []⟩
def d_does_nothing : He.DefD := ⟨("does_nothing", none), "does_nothing", "does_nothing", defArgs s_does_nothing, defBody s_does_nothing, defScope s_does_nothing, [], []⟩
def d_greedily_made : He.DefD := ⟨("greedily_made", none), "greedily_made", "greedily_made", defArgs s_greedily_made, defBody s_greedily_made, defScope s_greedily_made, [], []⟩
def d_is_tuple_in : He.DefD := ⟨("is_tuple_in", none), "is_tuple_in", "is_tuple_in", defArgs s_is_tuple_in, defBody s_is_tuple_in, defScope s_is_tuple_in, [], []⟩
def d_require_tuple : He.DefD := ⟨("require_tuple", none), "require_tuple", "require_tuple", defArgs s_require_tuple, defBody s_require_tuple, defScope s_require_tuple, [], []⟩
def d_is_heap_in : He.DefD := ⟨("is_heap_in", none), "is_heap_in", "is_heap_in", defArgs s_is_heap_in, defBody s_is_heap_in, defScope s_is_heap_in, [], []⟩
def d_holds_in : He.DefD := ⟨("holds_in", none), "holds_in", "holds_in", defArgs s_holds_in, defBody s_holds_in, defScope s_holds_in, [], []⟩
def d_flipped_in : He.DefD := ⟨("flipped_in", none), "flipped_in", "flipped_in", defArgs s_flipped_in, defBody s_flipped_in, defScope s_flipped_in, [], []⟩
def d_addable_columns : He.DefD := ⟨("addable_columns", none), "addable_columns", "addable_columns", defArgs s_addable_columns, defBody s_addable_columns, defScope s_addable_columns, [], []⟩
def d_can_remove_in : He.DefD := ⟨("can_remove_in", none), "can_remove_in", "can_remove_in", defArgs s_can_remove_in, defBody s_can_remove_in, defScope s_can_remove_in, [], []⟩
def d_risen : He.DefD := ⟨("risen", none), "risen", "risen", defArgs s_risen, defBody s_risen, defScope s_risen, [], []⟩
def d_grown_in : He.DefD := ⟨("grown_in", none), "grown_in", "grown_in", defArgs s_grown_in, defBody s_grown_in, defScope s_grown_in, [], []⟩
def d_heaps_in : He.DefD := ⟨("heaps_in", none), "heaps_in", "heaps_in", defArgs s_heaps_in, defBody s_heaps_in, defScope s_heaps_in, [], []⟩
def d_heap_in : He.DefD := ⟨("heap_in", none), "heap_in", "heap_in", defArgs s_heap_in, defBody s_heap_in, defScope s_heap_in, [], []⟩
def d_require_heap : He.DefD := ⟨("require_heap", none), "require_heap", "require_heap", defArgs s_require_heap, defBody s_require_heap, defScope s_require_heap, [], []⟩
def d_require_two_heaps : He.DefD := ⟨("require_two_heaps", none), "require_two_heaps", "require_two_heaps", defArgs s_require_two_heaps, defBody s_require_two_heaps, defScope s_require_two_heaps, [], []⟩
def d_is_held : He.DefD := ⟨("is_held", none), "is_held", "is_held", defArgs s_is_held, defBody s_is_held, defScope s_is_held, [], []⟩
def d_heap_of : He.DefD := ⟨("heap_of", none), "heap_of", "heap_of", defArgs s_heap_of, defBody s_heap_of, defScope s_heap_of, [], []⟩
def d_bead_list : He.DefD := ⟨("bead_list", none), "bead_list", "bead_list", defArgs s_bead_list, defBody s_bead_list, defScope s_bead_list, [], []⟩
def d_is_core_in : He.DefD := ⟨("is_core_in", none), "is_core_in", "is_core_in", defArgs s_is_core_in, defBody s_is_core_in, defScope s_is_core_in, [], []⟩
def d_charges_in : He.DefD := ⟨("charges_in", none), "charges_in", "charges_in", defArgs s_charges_in, defBody s_charges_in, defScope s_charges_in, [], []⟩
def d_bounded_parts_in : He.DefD := ⟨("bounded_parts_in", none), "bounded_parts_in", "bounded_parts_in", defArgs s_bounded_parts_in, defBody s_bounded_parts_in, defScope s_bounded_parts_in, [], []⟩
def d_letters_in : He.DefD := ⟨("letters_in", none), "letters_in", "letters_in", defArgs s_letters_in, defBody s_letters_in, defScope s_letters_in, [], []⟩
def d_require_order : He.DefD := ⟨("require_order", none), "require_order", "require_order", defArgs s_require_order, defBody s_require_order, defScope s_require_order, [], []⟩
def d_require_core : He.DefD := ⟨("require_core", none), "require_core", "require_core", defArgs s_require_core, defBody s_require_core, defScope s_require_core, [], []⟩
def d_charges : He.DefD := ⟨("charges", none), "charges", "charges", defArgs s_charges, defBody s_charges, defScope s_charges, [], []⟩
def d_letters_of : He.DefD := ⟨("letters_of", none), "letters_of", "letters_of", defArgs s_letters_of, defBody s_letters_of, defScope s_letters_of, [], []⟩
def d_with_letter_in : He.DefD := ⟨("with_letter_in", none), "with_letter_in", "with_letter_in", defArgs s_with_letter_in, defBody s_with_letter_in, defScope s_with_letter_in, [], []⟩
def d_without_letter : He.DefD := ⟨("without_letter", none), "without_letter", "without_letter", defArgs s_without_letter, defBody s_without_letter, defScope s_without_letter, [], []⟩
def d_letters_last : He.DefD := ⟨("letters_last", none), "letters_last", "letters_last", defArgs s_letters_last, defBody s_letters_last, defScope s_letters_last, [], []⟩
def d_is_core_word_in : He.DefD := ⟨("is_core_word_in", none), "is_core_word_in", "is_core_word_in", defArgs s_is_core_word_in, defBody s_is_core_word_in, defScope s_is_core_word_in, [], []⟩
def d_cores_on_the_way : He.DefD := ⟨("cores_on_the_way", none), "cores_on_the_way", "cores_on_the_way", defArgs s_cores_on_the_way, defBody s_cores_on_the_way, defScope s_cores_on_the_way, [], []⟩
def d_idle_in : He.DefD := ⟨("idle_in", none), "idle_in", "idle_in", defArgs s_idle_in, defBody s_idle_in, defScope s_idle_in, [], []⟩
def d_growing_word_in : He.DefD := ⟨("growing_word_in", none), "growing_word_in", "growing_word_in", defArgs s_growing_word_in, defBody s_growing_word_in, defScope s_growing_word_in, [], []⟩
def d_require_core_word : He.DefD := ⟨("require_core_word", none), "require_core_word", "require_core_word", defArgs s_require_core_word, defBody s_require_core_word, defScope s_require_core_word, [], []⟩
def d_require_letters_to : He.DefD := ⟨("require_letters_to", none), "require_letters_to", "require_letters_to", defArgs s_require_letters_to, defBody s_require_letters_to, defScope s_require_letters_to, [], []⟩
def d_require_way : He.DefD := ⟨("require_way", none), "require_way", "require_way", defArgs s_require_way, defBody s_require_way, defScope s_require_way, [], []⟩
def d_require_grown_core : He.DefD := ⟨("require_grown_core", none), "require_grown_core", "require_grown_core", defArgs s_require_grown_core, defBody s_require_grown_core, defScope s_require_grown_core, [], []⟩
def d_made_by : He.DefD := ⟨("made_by", none), "made_by", "made_by", defArgs s_made_by, defBody s_made_by, defScope s_made_by, [], []⟩
def d_idle_letters : He.DefD := ⟨("idle_letters", none), "idle_letters", "idle_letters", defArgs s_idle_letters, defBody s_idle_letters, defScope s_idle_letters, [], []⟩
def d_growing_word : He.DefD := ⟨("growing_word", none), "growing_word", "growing_word", defArgs s_growing_word, defBody s_growing_word, defScope s_growing_word, [], []⟩
def d_ring_letter : He.DefD := ⟨("ring_letter", none), "ring_letter", "ring_letter", defArgs s_ring_letter, defBody s_ring_letter, defScope s_ring_letter, [], []⟩
def d_letters_told : He.DefD := ⟨("letters_told", none), "letters_told", "letters_told", defArgs s_letters_told, defBody s_letters_told, defScope s_letters_told, [], []⟩
def d_exchanged : He.DefD := ⟨("exchanged", none), "exchanged", "exchanged", defArgs s_exchanged, defBody s_exchanged, defScope s_exchanged, [], []⟩
def d_window_in : He.DefD := ⟨("window_in", none), "window_in", "window_in", defArgs s_window_in, defBody s_window_in, defScope s_window_in, [], []⟩
def d_require_class_parts : He.DefD := ⟨("require_class_parts", none), "require_class_parts", "require_class_parts", defArgs s_require_class_parts, defBody s_require_class_parts, defScope s_require_class_parts, [], []⟩
def d_ring_letters : He.DefD := ⟨("ring_letters", none), "ring_letters", "ring_letters", defArgs s_ring_letters, defBody s_ring_letters, defScope s_ring_letters, [], []⟩
def d_window : He.DefD := ⟨("window", none), "window", "window", defArgs s_window, defBody s_window, defScope s_window, [], []⟩
def d__law_dice : He.DefD := ⟨("_law_dice", none), "_law_dice", "_law_dice", defArgs s__law_dice, defBody s__law_dice, defScope s__law_dice, [], []⟩
def d__law_roll : He.DefD := ⟨("_law_roll", none), "_law_roll", "_law_roll", defArgs s__law_roll, defBody s__law_roll, defScope s__law_roll, [], []⟩
def d__law_one_of : He.DefD := ⟨("_law_one_of", none), "_law_one_of", "_law_one_of", defArgs s__law_one_of, defBody s__law_one_of, defScope s__law_one_of, [], []⟩
def d__law_common : He.DefD := ⟨("_law_common", none), "_law_common", "_law_common", defArgs s__law_common, defBody s__law_common, defScope s__law_common, [], []⟩
def d__law_ring_of : He.DefD := ⟨("_law_ring_of", none), "_law_ring_of", "_law_ring_of", defArgs s__law_ring_of, defBody s__law_ring_of, defScope s__law_ring_of, [], []⟩
def d__law_equal_chain : He.DefD := ⟨("_law_equal_chain", none), "_law_equal_chain", "_law_equal_chain", defArgs s__law_equal_chain, defBody s__law_equal_chain, defScope s__law_equal_chain, [], []⟩
def d__law_grown : He.DefD := ⟨("_law_grown", none), "_law_grown", "_law_grown", defArgs s__law_grown, defBody s__law_grown, defScope s__law_grown, [], []⟩
def d__law_heap : He.DefD := ⟨("_law_heap", none), "_law_heap", "_law_heap", defArgs s__law_heap, defBody s__law_heap, defScope s__law_heap, [], []⟩
def d__law_mirrored : He.DefD := ⟨("_law_mirrored", none), "_law_mirrored", "_law_mirrored", defArgs s__law_mirrored, defBody s__law_mirrored, defScope s__law_mirrored, [], []⟩
def d__law_least_map : He.DefD := ⟨("_law_least_map", none), "_law_least_map", "_law_least_map", defArgs s__law_least_map, defBody s__law_least_map, defScope s__law_least_map, [], []⟩
def d__law_charges_by : He.DefD := ⟨("_law_charges_by", none), "_law_charges_by", "_law_charges_by", defArgs s__law_charges_by, defBody s__law_charges_by, defScope s__law_charges_by, [], []⟩
def d__law_chain_right : He.DefD := ⟨("_law_chain_right", none), "_law_chain_right", "_law_chain_right", defArgs s__law_chain_right, defBody s__law_chain_right, defScope s__law_chain_right, [], []⟩
def d__law_right : He.DefD := ⟨("_law_right", none), "_law_right", "_law_right", defArgs s__law_right, defBody s__law_right, defScope s__law_right, [], []⟩
def d_law : He.DefD := ⟨("law", none), "law", "law", defArgs s_law, defBody s_law, defScope s_law, [], []⟩
def dR__init__ : He.DefD := ⟨("Round", some "__init__"), "__init__", "Round.__init__", defArgs sR__init__, defBody sR__init__, defScope sR__init__, [], []⟩
def dR__call__ : He.DefD := ⟨("Round", some "__call__"), "__call__", "Round.__call__", defArgs sR__call__, defBody sR__call__, defScope sR__call__, [], []⟩
def dR__eq__ : He.DefD := ⟨("Round", some "__eq__"), "__eq__", "Round.__eq__", defArgs sR__eq__, defBody sR__eq__, defScope sR__eq__, [], []⟩
def dR__invert__ : He.DefD := ⟨("Round", some "__invert__"), "__invert__", "Round.__invert__", defArgs sR__invert__, defBody sR__invert__, defScope sR__invert__, [], []⟩
def fn0 : List He.DefD := [d_is_whole, d_is_integer, d_is_within, d_is_ring_in, d_is_chain_in, d_order_in, d_require_chain, d_require_integer, d_value_in_round, d_lifted, d_falls_of, d_shift_of, d_counted_in, d_turned_back, d_common_round, d_are_same_maps, d_is_round_in, d_told_round, d_require_round_size, d_letter_behind, d_does_fall, d_with_shift, d_first_fall, d_word_in, d_greedily_behind, d_greedy_in, d_widest_step, d_more_in_column, d_more_in, d_is_word_in]
def fn1 : List He.DefD := [d_require_few_falls, d_require_two_maps, d_require_word_of_round, d_greedy, d_is_below, d_does_nothing, d_greedily_made, d_is_tuple_in, d_require_tuple, d_is_heap_in, d_holds_in, d_flipped_in, d_addable_columns, d_can_remove_in, d_risen, d_grown_in, d_heaps_in, d_heap_in, d_require_heap, d_require_two_heaps, d_is_held, d_heap_of, d_bead_list, d_is_core_in, d_charges_in, d_bounded_parts_in, d_letters_in, d_require_order, d_require_core, d_charges]
def fn2 : List He.DefD := [d_letters_of, d_with_letter_in, d_without_letter, d_letters_last, d_is_core_word_in, d_cores_on_the_way, d_idle_in, d_growing_word_in, d_require_core_word, d_require_letters_to, d_require_way, d_require_grown_core, d_made_by, d_idle_letters, d_growing_word, d_ring_letter, d_letters_told, d_exchanged, d_window_in, d_require_class_parts, d_ring_letters, d_window, d__law_dice, d__law_roll, d__law_one_of, d__law_common, d__law_ring_of, d__law_equal_chain, d__law_grown, d__law_heap]
def fn3 : List He.DefD := [d__law_mirrored, d__law_least_map, d__law_charges_by, d__law_chain_right, d__law_right, d_law, dR__init__, dR__call__, dR__eq__, dR__invert__]
def fn : List He.DefD := fn0 ++ fn1 ++ fn2 ++ fn3
def fa0 : List He.Fa := [.glo "is_whole", .glo "is_integer", .glo "is_within", .glo "is_ring_in", .glo "is_chain_in", .glo "order_in", .glo "require_chain", .glo "require_integer", .glo "value_in_round", .glo "lifted", .glo "falls_of", .glo "shift_of", .glo "counted_in", .glo "turned_back", .glo "common_round", .glo "are_same_maps", .glo "is_round_in", .glo "told_round", .glo "require_round_size", .glo "letter_behind", .glo "does_fall", .glo "with_shift", .glo "first_fall", .glo "word_in", .glo "greedily_behind", .glo "greedy_in", .glo "widest_step", .glo "more_in_column", .glo "more_in", .glo "is_word_in"]
def fa1 : List He.Fa := [.glo "require_few_falls", .glo "require_two_maps", .glo "require_word_of_round", .glo "greedy", .glo "is_below", .glo "does_nothing", .glo "greedily_made", .glo "is_tuple_in", .glo "require_tuple", .glo "is_heap_in", .glo "holds_in", .glo "flipped_in", .glo "addable_columns", .glo "can_remove_in", .glo "risen", .glo "grown_in", .glo "heaps_in", .glo "heap_in", .glo "require_heap", .glo "require_two_heaps", .glo "is_held", .glo "heap_of", .glo "bead_list", .glo "is_core_in", .glo "charges_in", .glo "bounded_parts_in", .glo "letters_in", .glo "require_order", .glo "require_core", .glo "charges"]
def fa2 : List He.Fa := [.glo "letters_of", .glo "with_letter_in", .glo "without_letter", .glo "letters_last", .glo "is_core_word_in", .glo "cores_on_the_way", .glo "idle_in", .glo "growing_word_in", .glo "require_core_word", .glo "require_letters_to", .glo "require_way", .glo "require_grown_core", .glo "made_by", .glo "idle_letters", .glo "growing_word", .glo "ring_letter", .glo "letters_told", .glo "exchanged", .glo "window_in", .glo "require_class_parts", .glo "ring_letters", .glo "window", .glo "_law_dice", .glo "_law_roll", .glo "_law_one_of", .glo "_law_common", .glo "_law_ring_of", .glo "_law_equal_chain", .glo "_law_grown", .glo "_law_heap"]
def fa3 : List He.Fa := [.glo "_law_mirrored", .glo "_law_least_map", .glo "_law_charges_by", .glo "_law_chain_right", .glo "_law_right", .glo "law", .free "len", .free "range", .free "zip", .free "enumerate", .free "sum", .free "max", .free "min", .free "all", .free "sorted", .free "tuple", .free "list", .free "int", .free "bool", .free "abs", .free "isinstance", .free "next", .int "MOST_RINGS" 12, .int "MOST_PLACES" 60, .int "MAX_ROUND" 60, .int "MOST_VALUE_DIGITS" 60, .int "MAX_FALLS" 1000, .int "MAX_LETTERS" 2000, .int "MOST_SIDE" 60, .int "LEAST_ORDER" 2]
def fa4 : List He.Fa := [.int "MAX_ORDER" 60, .int "MAX_CORE_WORD" 200, .int "MOST_GROWN" 30, .int "MOST_WINDOW" 200, .int "MOST_VALUE_SIGNS" 60, .int "SIXTY_DIGITS" 1000000000000000000000000000000000000000000000000000000000000, .glo "Round", .mkr "Round"]
def fa : List He.Fa := fa0 ++ fa1 ++ fa2 ++ fa3 ++ fa4
def loose0 : List PySem.Str := ["gcd", "_wall", "__name__", "RingError", "InvalidChain", "InvalidTuple", "InvalidHeap", "InvalidMap", "InvalidWord", "InvalidNumber", "TooMany", "MOST_RINGS", "MOST_PLACES", "SIXTY_DIGITS", "is_whole", "is_integer", "is_within", "is_ring_in", "is_chain_in", "order_in", "require_chain", "require_integer", "MAX_ROUND", "MOST_VALUE_DIGITS", "value_in_round", "lifted", "falls_of", "shift_of", "counted_in", "behind_in"]
def loose1 : List PySem.Str := ["turned_back", "common_round", "are_same_maps", "is_round_in", "Round", "told_round", "require_integers", "require_round_size", "MAX_FALLS", "MAX_LETTERS", "letter_behind", "does_fall", "with_shift", "first_fall", "word_in", "greedily_behind", "greedy_in", "widest_step", "more_in_column", "more_in", "is_word_in", "require_few_falls", "require_two_maps", "require_word_of_round", "greedy", "is_below", "does_nothing", "greedily_made", "is_tuple_in", "require_tuple"]
def loose2 : List PySem.Str := ["MOST_SIDE", "is_heap_in", "holds_in", "flipped_in", "addable_columns", "can_remove_in", "risen", "grown_in", "heaps_in", "heap_in", "require_heap", "require_two_heaps", "is_held", "heap_of", "LEAST_ORDER", "MAX_ORDER", "bead_list", "is_core_in", "charges_in", "bounded_parts_in", "letters_in", "require_order", "require_core", "charges", "letters_of", "MAX_CORE_WORD", "MOST_GROWN", "with_letter_in", "without_letter", "letters_last"]
def loose3 : List PySem.Str := ["is_core_word_in", "cores_on_the_way", "idle_in", "growing_word_in", "require_core_word", "require_letters_to", "require_way", "require_grown_core", "made_by", "idle_letters", "growing_word", "MOST_WINDOW", "MOST_VALUE_SIGNS", "ring_letter", "letters_told", "exchanged", "window_in", "require_class_parts", "ring_letters", "window", "_law_dice", "_law_roll", "_law_one_of", "_law_common", "_law_ring_of", "_law_equal_chain", "_law_grown", "_law_heap", "_law_mirrored", "_law_least_map"]
def loose4 : List PySem.Str := ["_law_charges_by", "_law_chain_right", "_law_right"]
def loose : List PySem.Str := loose0 ++ loose1 ++ loose2 ++ loose3 ++ loose4
/-- what an object names, as far as it is asked -/
def kids (x : Obj) : List Addr := match x.data with
  | .func fd => refV fd.code
  | .cls cd => cd.ns :: cd.mro.flatMap refV
  | .dict es _ => es.toList.flatMap fun e => refV e.val
  | .fields vs => (match x.cls with
    | .type t => (match t == "property" || t == "member_descriptor" with
      | true => vs.toList.flatMap refV
      | false => [])
    | _ => [])
  | _ => []
def lvl (g : Addr → Option Obj) : Nat → List Addr → PySem.W.Frag
  | 0, _ => []
  | n + 1, as => frG g as ++ lvl g n ((frG g as).flatMap fun q => kids q.2)
theorem lvl_mem {g : Addr → Option Obj} {a : Addr} {x : Obj} : ∀ (n : Nat) (as : List Addr), (a, x) ∈ lvl g n as → g a = some x
  | 0, _, h => by cases h
  | n + 1, as, h => (List.mem_append.mp h).elim frG_mem (lvl_mem n _)
/-- the part of the heap: without empty tables -/
def frY (g : Addr → Option Obj) : PySem.W.Frag := (lvl g 6 [mainGlobals]).filter fun q => !emptyTab q.2
theorem frY_mem {g : Addr → Option Obj} {a : Addr} {x : Obj} (h : (frY g).lookup a = some x) : g a = some x ∧ emptyTab x = false := by
  obtain ⟨h1, h2⟩ := List.mem_filter.mp (lookup_mem h)
  refine ⟨lvl_mem _ _ h1, ?_⟩
  cases q : emptyTab x with
  | false => rfl
  | true =>
    have h3 : (!emptyTab x) = true := h2
    rw [q] at h3
    cases h3
theorem frY_in {h : Heap} : (frY h.get?).In h := fun _ _ e => (frY_mem e).1
theorem frY_none {g : Addr → Option Obj} {a : Addr} {x : Obj} (h : g a = some x) (ht : emptyTab x = true) : (frY g).lookup a = none := by
  cases e : (frY g).lookup a with
  | none => rfl
  | some u =>
    obtain ⟨h1, h2⟩ := frY_mem e
    rw [h] at h1
    rw [← Option.some.inj h1, ht] at h2
    cases h2
/-- the class, its property's function -/
abbrev rc (K : PySem.W.Frag) : Addr := ga K "Round"
def fg (K : PySem.W.Frag) : Addr := match PySem.W.recIn K (ma K (rc K) "falls") "property" with
  | some (.ref g :: _) => g
  | _ => 0
def fnA (K : PySem.W.Frag) (a : Addr) : FnW := match K.lookup a with
  | some ⟨_, _, .func fd, _⟩ => some (fd.name, fd.qualname, fd.params, fd.body, fd.scope, fd.globals, fd.closure, fd.builtins)
  | _ => none
def okA (K : PySem.W.Frag) (a : Addr) (q : Str) : Bool := PySem.W.keepIn K (.ref a) && (match K.lookup a with
  | some ⟨_, _, .func fd, _⟩ => PySem.W.codeIn K fd.code q && (dflB K fd.defaults [] && kwdB K fd.kwdefaults [])
  | _ => false)
theorem funA {K : PySem.W.Frag} {a : Addr} {x q : Str} {ar : Arguments} {bd : List Stmt} {sc : Scope} (e : fnA K a = some (x, q, ar, .stmts bd, sc, mainGlobals, [], builtinsNs)) (c : okA K a q = true) : ∃ fd, FunD K x q ar bd sc [] [] a fd := by
  obtain ⟨kp, c2⟩ := ba c
  unfold fnA at e
  cases z : K.lookup a with
  | none =>
    rw [z] at c2
    cases c2
  | some o =>
    obtain ⟨oc, od, dt, osl⟩ := o
    rw [z] at c2 e
    cases dt with
    | func fd =>
      obtain ⟨n1, n2, n3, n4, n5, n6, n7, n8, n9, n10, n11, n12, n13, n14, n15⟩ := fd
      have e2 : (some (n1, n2, n3, n4, n5, n6, n7, n15) : FnW) = some (x, q, ar, .stmts bd, sc, mainGlobals, [], builtinsNs) := e
      simp only [Option.some.injEq, Prod.mk.injEq] at e2
      obtain ⟨h1, h2, h3, h4, h5, h6, h7, h8⟩ := e2
      subst h1 h2 h3 h4 h5 h6 h7 h8
      have c3 : (PySem.W.codeIn K n13 n2 && (dflB K n8 [] && kwdB K n9 [])) = true := c2
      obtain ⟨k1, k2⟩ := ba c3
      obtain ⟨k3, k4⟩ := ba k2
      exact ⟨_, ⟨oc, od, n8, n9, n10, n11, n12, n13, n14, osl, rfl, z, k1, dflB_ok k3, kwdB_ok k4⟩, kp⟩
    | _ => cases c2
/-- what is asked of the class, besides -/
def exL (K : PySem.W.Frag) : List Bool := [
  PySem.W.plainGet K (rc K) Str.empty, PySem.W.isClsIn K (rc K), PySem.W.plainOver K (rc K), eqO (PySem.W.findIn K (.ref (rc K)) "__setattr__") (some (some (.builtin "object.__setattr__"))),
  eqO (PySem.W.findIn K (.ref (rc K)) "__class__") (some (some (.builtin "object.__class__"))), eqO (PySem.W.specialIn K (.builtin "object.__class__") "__get__") (some (some (.builtin "getset_descriptor.__get__"))), decide (PySem.W.takesIn K (.builtin "object.__class__") = some true), decide (PySem.W.mroIn K (rc K) (.type "object") = some true),
  eqO (PySem.W.findIn K (.ref (rc K)) "own_values") (some (some (.ref (ma K (rc K) "own_values")))), eqO (PySem.W.specialIn K (.ref (ma K (rc K) "own_values")) "__get__") (some (some (.builtin "member_descriptor.__get__"))), decide (PySem.W.takesIn K (.ref (ma K (rc K) "own_values")) = some true), decide (PySem.W.typeIn K (.ref (ma K (rc K) "own_values")) = some (.type "member_descriptor")), decide (PySem.W.slotIn K (ma K (rc K) "own_values") (rc K) = some 0),
  eqO (PySem.W.findIn K (.ref (rc K)) "__ne__") (some (some (.builtin "object.__ne__"))), PySem.W.notFirst K (rc K) (.ref (rc K)),
  eqO (PySem.W.findIn K (.ref (rc K)) "__call__") (some (some (.ref (ma K (rc K) "__call__")))), PySem.W.isFn K (.ref (ma K (rc K) "__call__")), PySem.W.fnIn K (ma K (rc K) "__call__"),
  eqO (PySem.W.findIn K (.ref (rc K)) "__eq__") (some (some (.ref (ma K (rc K) "__eq__")))), PySem.W.isFn K (.ref (ma K (rc K) "__eq__")),
  eqO (PySem.W.findIn K (.ref (rc K)) "__invert__") (some (some (.ref (ma K (rc K) "__invert__")))), PySem.W.isFn K (.ref (ma K (rc K) "__invert__")),
  eqO (PySem.W.findIn K (.ref (rc K)) "falls") (some (some (.ref (ma K (rc K) "falls")))), eqO (PySem.W.specialIn K (.ref (ma K (rc K) "falls")) "__get__") (some (some (.builtin "property.__get__"))), decide (PySem.W.takesIn K (.ref (ma K (rc K) "falls")) = some true),
  (match PySem.W.recIn K (ma K (rc K) "falls") "property" with
    | some (.ref _ :: _) => true
    | _ => false), okA K (fg K) "Round.falls",
  eqO (PySem.W.nsIn K mainGlobals "gcd") (some (some (.builtin "math.gcd"))),
  K.all fun q => !decide (q.2.cls = Value.type "list")]
def exB (K : PySem.W.Frag) : Bool := (exL K).all id
def tf : List Defn := [("first_fall", none), ("ring_letter", none)]
abbrev AlY : Type := AlD × FnW × Bool
def obsY (g : Addr → Option Obj) : AlY := (obsD fa fn (frY g), fnA (frY g) (fg (frY g)), exB (frY g) && tabsB g tf (frY g))
def fVal : FnW := some ("falls", "Round.falls", defArgs sRfalls, .stmts (defBody sRfalls), defScope sRfalls, mainGlobals, [], builtinsNs)
def valY : AlY := (valD fn, fVal, true)
/-- what is told -/
structure SaysY (h : Heap) (K : PySem.W.Frag) : Prop where
  d : SaysD fa fn K
  fl : fnA K (fg K) = fVal
  ex : exB K = true
  hd : ∀ p ∈ tf, PySem.W.codeHdIn K (cT K p).1 (cT K p).2 = true
  out : ∀ p ∈ tf, K.lookup (cT K p).2 = none
  empty : ∀ p ∈ tf, h.get? (cT K p).2 = some { cls := .none, data := .fields #[] }
theorem saysY_of {h : Heap} (e : obsY h.get? = valY) : SaysY h (frY h.get?) := by
  have e1 : obsD fa fn (frY h.get?) = valD fn := congrArg (fun z : AlY => z.1) e
  have e0 : fnA (frY h.get?) (fg (frY h.get?)) = fVal := congrArg (fun z : AlY => z.2.1) e
  have e2 : (exB (frY h.get?) && tabsB h.get? tf (frY h.get?)) = true := congrArg (fun z : AlY => z.2.2) e
  obtain ⟨h1, h2⟩ := ba e2
  have key : ∀ p ∈ tf, PySem.W.codeHdIn (frY h.get?) (cT (frY h.get?) p).1 (cT (frY h.get?) p).2 = true ∧ ∃ x, h.get? (cT (frY h.get?) p).2 = some x ∧ emptyTab x = true := fun p hp => by
    obtain ⟨h3, h4⟩ := ba (List.all_eq_true.mp h2 p hp)
    refine ⟨h3, ?_⟩
    cases q : h.get? (cT (frY h.get?) p).2 with
    | none =>
      rw [q] at h4
      cases h4
    | some x =>
      rw [q] at h4
      exact ⟨x, rfl, h4⟩
  exact ⟨e1, e0, h1, fun p hp => (key p hp).1, fun p hp => by
    obtain ⟨_, x, q, z⟩ := key p hp
    exact frY_none q z, fun p hp => by
    obtain ⟨_, x, q, z⟩ := key p hp
    rw [q, emptyTab_eq z]⟩
def hkY : PySem.W.Hook where
  α := AlY
  obs := fun s => obsY s.heap.get?
  val := fun _ => valY
  says := fun _ h => ∃ K : PySem.W.Frag, K.In h ∧ SaysY h K
  of := fun _ _ e => ⟨_, frY_in, saysY_of e⟩
  keeps := fun _ _ _ ⟨K, hK, c⟩ k => ⟨K, PySem.W.Frag.In.keeps hK k, ⟨c.d, c.fl, c.ex, c.hd, c.out, fun p hp => k _ _ (c.empty p hp)⟩⟩
abbrev R : PySem.W.OpenRow := PySem.W.OpenLaw.row PySem.Challenge.rw_ringstairs_k96_whole_cores_round_maps_an
def ob (s : PySem.W.SharedT) : AlY := obsY (HandSHeadRun.getT s)
theorem ob_eq (s : PySem.W.SharedT) : ob s = hkY.obs s.abs := by
  have e : HandSHeadRun.getT s = s.abs.heap.get? := funext (HandSHeadRun.getT_eq s)
  show obsY (HandSHeadRun.getT s) = obsY s.abs.heap.get?
  rw [e]
end Hd
set_option maxHeartbeats 0
/-! The run of the top, in two parts. -/
namespace Hd
open PySem PySem.Spec PyProof.Rows L2 He
noncomputable abbrev runF (w : World) : Option (Shared × PySem.W.SharedT) := HandSHeadRun.wholeF (fun p => HandSHeadRun.stepQ (HandSHeadRun.denQ HandSHeadRun.tabQ) p w) HandSHeadRun.fenceQ 8000 R.prog
theorem run1 (w : World) : (runF w).map (fun x => ob x.2) = some valY := by
  kernel_rfl
theorem run2 (w : World) : (runF w).map (fun x => (HandSHeadRun.looksF R.prog x.1.heap x.2.abs, HandSHeadRun.seenQ (PySem.W.view R.prog [0, 132]) loose (importedModules R.prog.main.body) (fun s => PySem.W.xlAt (PySem.W.view R.prog [0, 132]) [] s && PySem.W.recOk R.toRowW.records s) x.2.abs)) = some (true, PySem.W.openGood (PySem.W.view R.prog [0, 132]) loose) := by
  kernel_rfl
theorem run (w : World) : HandSHeadRun.RunEqI R (PySem.W.view R.prog [0, 132]) hkY ob 8000 loose w := by
  have a := run1 w
  have b := run2 w
  show (runF w).map _ = _
  cases z : runF w with
  | none =>
    rw [z] at a
    cases a
  | some x =>
    rw [z] at a b
    have a' := Option.some.inj a
    have b' := Option.some.inj b
    obtain ⟨b1, b2⟩ := Prod.mk.inj b'
    show some (_, _, ob x.2) = some (true, _, valY)
    rw [← a', ← b2, ← b1]
end Hd
set_option maxHeartbeats 200000
/-! Maps of the integers, their tables, letters on the right (act, T) and on the left (L). -/
namespace Rg
abbrev Tb := Int → Int → Int
def act (k m : Int) (P : Int → Int) : Int → Int := fun a =>
  if (a - m) % k = 0 then max (P a) (P (a + 1)) else if (a - m - 1) % k = 0 then min (P (a - 1)) (P a) else P a
def tR (k m : Int) (r : Tb) : Tb := fun a c =>
  if (a - m) % k = 0 then min (r (a + 1) c) (r (a - 1) c + 1) else r a c
def tL (k m : Int) (r : Tb) : Tb := fun a c =>
  if (c - m - 1) % k = 0 then min (r a (c - 1)) (r a (c + 1) + 1) else r a c
def r0 : Tb := fun a c => max 0 (a - c + 1)
def bi (b : Bool) : Int := if b then 1 else 0
theorem bi_le (b : Bool) : 0 ≤ bi b ∧ bi b ≤ 1 := by cases b <;> decide

theorem tRL (k m n : Int) (r : Tb) : tR k m (tL k n r) = tL k n (tR k m r) := by
  funext a c
  unfold tR tL
  by_cases h1 : (a - m) % k = 0 <;> by_cases h2 : (c - n - 1) % k = 0 <;> simp only [h1, h2, if_true, if_false] <;> omega

theorem tR0 (k m : Int) : tR k m r0 = tL k m r0 := by
  funext a c
  unfold tR tL r0
  by_cases e : a - c = -1
  · have e2 : c - m - 1 = a - m := by omega
    rw [e2]
    by_cases h1 : (a - m) % k = 0 <;> simp only [h1, if_true, if_false] <;> omega
  · by_cases h1 : (a - m) % k = 0 <;> by_cases h2 : (c - m - 1) % k = 0 <;> simp only [h1, h2, if_true, if_false] <;> omega

def mw (k : Int) (u : List Int) (P : Int → Int) : Int → Int := u.foldl (fun P m => act k m P) P
def rw' (k : Int) (u : List Int) (r : Tb) : Tb := u.foldl (fun r m => tR k m r) r
def lw (k : Int) (u : List Int) (r : Tb) : Tb := u.foldl (fun r m => tL k m r) r

theorem rw_tL (k n : Int) : ∀ (u : List Int) (r : Tb), rw' k u (tL k n r) = tL k n (rw' k u r)
  | [], r => rfl
  | m :: u, r => by
    show rw' k u (tR k m (tL k n r)) = tL k n (rw' k u (tR k m r))
    rw [tRL, rw_tL k n u]
theorem rw_lw (k : Int) : ∀ (w u : List Int) (r : Tb), rw' k u (lw k w r) = lw k w (rw' k u r)
  | [], u, r => rfl
  | n :: w, u, r => by
    show rw' k u (lw k w (tL k n r)) = lw k w (tL k n (rw' k u r))
    rw [rw_lw k w u, rw_tL]
theorem lw_app (k : Int) (u v : List Int) (r : Tb) : lw k (u ++ v) r = lw k v (lw k u r) := List.foldl_append
theorem rw_app (k : Int) (u v : List Int) (r : Tb) : rw' k (u ++ v) r = rw' k v (rw' k u r) := List.foldl_append
theorem mw_app (k : Int) (u v : List Int) (P : Int → Int) : mw k (u ++ v) P = mw k v (mw k u P) := List.foldl_append
theorem rw_r0 (k : Int) : ∀ (u : List Int), rw' k u r0 = lw k u.reverse r0
  | [] => rfl
  | m :: u => by
    show rw' k u (tR k m r0) = _
    rw [tR0, rw_tL, rw_r0 k u, List.reverse_cons, lw_app]
    rfl

/-- r is the table of P -/
structure IsTab (P : Int → Int) (r : Tb) : Prop where
  st : ∀ a c, r a c = r (a - 1) c + if c ≤ P a then 1 else 0
  lo : ∀ c, ∃ N, ∀ a, a ≤ N → r a c = 0
theorem IsTab.up {P : Int → Int} {r : Tb} (h : IsTab P r) (a c : Int) : r (a + 1) c = r a c + if c ≤ P (a + 1) then 1 else 0 := by
  have := h.st (a + 1) c
  rwa [show a + 1 - 1 = a by omega] at this
theorem IsTab.uniq {P : Int → Int} {r r' : Tb} (h : IsTab P r) (h' : IsTab P r') : r = r' := by
  funext a c
  obtain ⟨N, hN⟩ := h.lo c
  obtain ⟨N', hN'⟩ := h'.lo c
  have key : ∀ (n : Nat) (a : Int), a ≤ min N N' + n → r a c = r' a c := by
    intro n
    induction n with
    | zero =>
      intro a ha
      rw [hN a (by omega), hN' a (by omega)]
    | succ n ih =>
      intro a ha
      rw [h.st, h'.st, ih (a - 1) (by omega)]
  exact key (a - min N N').toNat a (by omega)
theorem IsTab.val {P P' : Int → Int} {r : Tb} (h : IsTab P r) (h' : IsTab P' r) : P = P' := by
  funext a
  have key : ∀ c, c ≤ P a ↔ c ≤ P' a := fun c => by
    have e1 := h.st a c
    have e2 := h'.st a c
    constructor
    · intro hc
      rw [if_pos hc] at e1
      apply Classical.byContradiction
      intro hn
      rw [if_neg hn] at e2
      omega
    · intro hc
      rw [if_pos hc] at e2
      apply Classical.byContradiction
      intro hn
      rw [if_neg hn] at e1
      omega
  have k1 := (key (P a)).mp (by omega)
  have k2 := (key (P' a)).mpr (by omega)
  omega
theorem isTab_id : IsTab (fun i => i) r0 := by
  refine ⟨fun a c => ?_, fun c => ⟨c - 1, fun a ha => ?_⟩⟩
  · unfold r0
    split <;> omega
  · unfold r0
    omega
theorem mod_next {k x : Int} (hk : 2 ≤ k) (h : x % k = 0) : ¬ (x - 1) % k = 0 := by
  intro h'
  obtain ⟨y, rfl⟩ := Int.dvd_of_emod_eq_zero h
  obtain ⟨z, hz⟩ := Int.dvd_of_emod_eq_zero h'
  have : k * (y - z) = 1 := by rw [Int.mul_sub]; omega
  have h1 : y - z = 1 ∨ y - z ≤ 0 ∨ 2 ≤ y - z := by omega
  rcases h1 with h1 | h1 | h1
  · rw [h1] at this; omega
  · have := Int.mul_nonpos_of_nonneg_of_nonpos (show 0 ≤ k by omega) h1
    omega
  · have := Int.mul_le_mul (show (1:Int) ≤ k by omega) h1 (by omega) (by omega)
    omega
theorem isTab_act {k m : Int} {P : Int → Int} {r : Tb} (hk : 2 ≤ k) (h : IsTab P r) : IsTab (act k m P) (tR k m r) := by
  refine ⟨fun a c => ?_, fun c => ?_⟩
  · unfold tR act
    have e1 := h.st a c
    have e2 := h.up a c
    have e3 := h.st (a - 1) c
    by_cases h1 : (a - m) % k = 0
    · have h2 : ¬ (a - 1 - m) % k = 0 := by rw [show a - 1 - m = a - m - 1 by omega]; exact mod_next hk h1
      simp only [h1, h2, if_true, if_false]
      by_cases c1 : c ≤ P a <;> by_cases c2 : c ≤ P (a + 1) <;> simp only [c1, c2, if_true, if_false] at e1 e2 <;>
        (by_cases c3 : c ≤ max (P a) (P (a + 1)) <;> simp only [c3, if_true, if_false] <;> omega)
    · by_cases h2 : (a - m - 1) % k = 0
      · have h3 : (a - 1 - m) % k = 0 := by rw [show a - 1 - m = a - m - 1 by omega]; exact h2
        simp only [h1, h2, h3, if_true, if_false]
        rw [show a - 1 + 1 = a by omega]
        by_cases c1 : c ≤ P a <;> by_cases c2 : c ≤ P (a - 1) <;> simp only [c1, c2, if_true, if_false] at e1 e3 <;>
          (by_cases c3 : c ≤ min (P (a - 1)) (P a) <;> simp only [c3, if_true, if_false] <;> omega)
      · have h3 : ¬ (a - 1 - m) % k = 0 := by rw [show a - 1 - m = a - m - 1 by omega]; exact h2
        simp only [h1, h2, h3, if_false]
        exact e1
  · obtain ⟨N, hN⟩ := h.lo c
    refine ⟨N - 1, fun a ha => ?_⟩
    unfold tR
    rw [hN a (by omega), hN (a + 1) (by omega), hN (a - 1) (by omega)]
    split <;> omega
theorem isTab_mw {k : Int} (hk : 2 ≤ k) : ∀ (u : List Int) {P : Int → Int} {r : Tb}, IsTab P r → IsTab (mw k u P) (rw' k u r)
  | [], _, _, h => h
  | m :: u, _, _, h => isTab_mw hk u (isTab_act (m := m) hk h)
/-- two words of one map do the same behind any word -/
theorem mw_same {k : Int} (hk : 2 ≤ k) {v v' : List Int} (e : mw k v (fun i => i) = mw k v' (fun i => i)) (u : List Int) :
    mw k v (mw k u (fun i => i)) = mw k v' (mw k u (fun i => i)) := by
  have t1 := isTab_mw hk v isTab_id
  have t2 := isTab_mw hk v' isTab_id
  rw [e] at t1
  have er : rw' k v r0 = rw' k v' r0 := t1.uniq t2
  have s1 := isTab_mw hk v (isTab_mw hk u isTab_id)
  have s2 := isTab_mw hk v' (isTab_mw hk u isTab_id)
  rw [rw_r0 k u, rw_lw, er, ← rw_lw, ← rw_r0 k u] at s1
  exact s1.val s2

/-- what holds of the tables of words: n the number of letters -/
structure Good (k n : Int) (r : Tb) : Prop where
  cm : ∀ a c, r a (c + 1) ≤ r a c ∧ r a c ≤ r a (c + 1) + 1
  am : ∀ a c, r a c ≤ r (a + 1) c ∧ r (a + 1) c ≤ r a c + 1
  per : ∀ a c, r (a + k) (c + k) = r a c
  low : ∀ a c, a - c + 1 ≤ - n → r a c = 0
  high : ∀ a c, n ≤ a - c + 1 → r a c = a - c + 1
  ge : ∀ a c, r0 a c ≤ r a c
theorem good_r0 (k : Int) : Good k 0 r0 := by
  refine ⟨fun a c => ?_, fun a c => ?_, fun a c => ?_, fun a c h => ?_, fun a c h => ?_, fun a c => ?_⟩ <;> unfold r0 <;> omega
theorem Good.mono {k n n' : Int} {r : Tb} (g : Good k n r) (h : n ≤ n') : Good k n' r :=
  ⟨g.cm, g.am, g.per, fun a c h' => g.low a c (by omega), fun a c h' => g.high a c (by omega), g.ge⟩
theorem good_tL {k m n : Int} {r : Tb} (hk : 2 ≤ k) (h0 : 0 ≤ n) (g : Good k n r) : Good k (n + 1) (tL k m r) := by
  have sh : ∀ c, (c + k - m - 1) % k = (c - m - 1) % k := fun c => by
    rw [show c + k - m - 1 = c - m - 1 + k by omega, Int.add_emod_right]
  have cc : ∀ a c, r a (c - 1 + 1) = r a c := fun a c => by rw [show c - 1 + 1 = c by omega]
  refine ⟨fun a c => ?_, fun a c => ?_, fun a c => ?_, fun a c h => ?_, fun a c h => ?_, fun a c => ?_⟩
  · unfold tL
    have e0 := g.cm a (c - 1)
    have e1 := g.cm a c
    have e2 := g.cm a (c + 1)
    rw [cc] at e0
    by_cases h1 : (c - m - 1) % k = 0 <;> by_cases h2 : (c + 1 - m - 1) % k = 0 <;> simp only [h1, h2, if_true, if_false]
    · rw [show c + 1 - 1 = c by omega]; omega
    · omega
    · rw [show c + 1 - 1 = c by omega]; omega
    · omega
  · unfold tL
    have e0 := g.am a (c - 1)
    have e1 := g.am a c
    have e2 := g.am a (c + 1)
    split <;> omega
  · unfold tL
    rw [sh, show c + k - 1 = c - 1 + k by omega, show c + k + 1 = c + 1 + k by omega, g.per, g.per, g.per]
  · unfold tL
    split
    · rw [g.low a (c + 1) (by omega)]
      have := g.low a c (by omega)
      have e0 := g.cm a (c - 1)
      rw [cc] at e0
      have := g.low a (c - 1) (by omega)
      omega
    · exact g.low a c (by omega)
  · unfold tL
    split
    · rw [g.high a (c + 1) (by omega), g.high a (c - 1) (by omega)]
      omega
    · exact g.high a c (by omega)
  · have q := g.ge a c
    have e0 := g.cm a (c - 1)
    have e1 := g.cm a c
    rw [cc] at e0
    unfold tL
    split <;> omega
theorem good_lw {k : Int} (hk : 2 ≤ k) : ∀ (w : List Int) {n : Int} {r : Tb}, 0 ≤ n → Good k n r → Good k (n + w.length) (lw k w r)
  | [], n, r, h0, g => by simpa [lw] using g
  | m :: w, n, r, h0, g => by
    have := good_lw hk w (n := n + 1) (by omega) (good_tL (m := m) hk h0 g)
    rw [List.length_cons, show n + ((w.length + 1 : Nat) : Int) = n + 1 + w.length by omega]
    exact this
/-- the left letter never makes less, is monotone -/
theorem tL_ge {k m n : Int} {r : Tb} (g : Good k n r) (a c : Int) : r a c ≤ tL k m r a c := by
  have e0 := g.cm a (c - 1)
  have e1 := g.cm a c
  rw [show c - 1 + 1 = c by omega] at e0
  unfold tL
  split <;> omega
end Rg
set_option maxHeartbeats 200000
/-! What a left letter does to a map: nothing, or the exchange of the values m, m + 1. Grassmann maps. -/
namespace Rg
/-- the exchange of m and m + 1 -/
def sw (k m v : Int) : Int := if (v - m) % k = 0 then v + 1 else if (v - m - 1) % k = 0 then v - 1 else v
section
variable {k m n : Int} {P : Int → Int} {r : Tb}
theorem tab_per (hk : 2 ≤ k) (h : IsTab P r) (g : Good k n r) (a : Int) : P (a + k) = P a + k := by
  have key : ∀ c, c ≤ P a ↔ c + k ≤ P (a + k) := fun c => by
    have e1 := h.st a c
    have e2 := h.st (a + k) (c + k)
    rw [g.per, show a + k - 1 = a - 1 + k by omega, g.per] at e2
    constructor
    · intro hc
      rw [if_pos hc] at e1
      apply Classical.byContradiction
      intro hn
      rw [if_neg hn] at e2
      omega
    · intro hc
      rw [if_pos hc] at e2
      apply Classical.byContradiction
      intro hn
      rw [if_neg hn] at e1
      omega
  have k1 := (key (P a)).mp (by omega)
  have k2 := (key (P (a + k) - k)).mpr (by omega)
  omega
theorem tab_perN (hk : 2 ≤ k) (h : IsTab P r) (g : Good k n r) (a j : Int) : P (a + k * j) = P a + k * j := by
  have up : ∀ (j : Nat) (a : Int), P (a + k * j) = P a + k * j := by
    intro j
    induction j with
    | zero => intro a; simp
    | succ j ih =>
      intro a
      have e : a + k * ((j + 1 : Nat) : Int) = a + k * (j : Int) + k := by
        rw [Int.natCast_add, Int.mul_add]; simp only [Int.natCast_one, Int.mul_one]; omega
      rw [e, tab_per hk h g, ih]
      have e2 : k * ((j + 1 : Nat) : Int) = k * (j : Int) + k := by
        rw [Int.natCast_add, Int.mul_add]; simp only [Int.natCast_one, Int.mul_one]
      omega
  rcases Int.le_total 0 j with hj | hj
  · have := up j.toNat a
    rwa [Int.toNat_of_nonneg hj] at this
  · have := up (-j).toNat (a + k * j)
    rw [Int.toNat_of_nonneg (by omega), Int.mul_neg, show a + k * j + -(k * j) = a by omega] at this
    omega
theorem good_perN (g : Good k n r) (a c j : Int) : r (a + k * j) (c + k * j) = r a c := by
  have up : ∀ (j : Nat) (a c : Int), r (a + k * j) (c + k * j) = r a c := by
    intro j
    induction j with
    | zero => intro a c; simp
    | succ j ih =>
      intro a c
      have e2 : k * ((j + 1 : Nat) : Int) = k * (j : Int) + k := by
        rw [Int.natCast_add, Int.mul_add]; simp only [Int.natCast_one, Int.mul_one]
      rw [e2, ← Int.add_assoc, ← Int.add_assoc, g.per, ih]
  rcases Int.le_total 0 j with hj | hj
  · have := up j.toNat a c
    rwa [Int.toNat_of_nonneg hj] at this
  · have := up (-j).toNat (a + k * j) (c + k * j)
    rw [Int.toNat_of_nonneg (by omega), Int.mul_neg, show a + k * j + -(k * j) = a by omega, show c + k * j + -(k * j) = c by omega] at this
    exact this.symm
/-- how many i up to a have the value c: 0 or 1 -/
def nn (r : Tb) (a c : Int) : Int := r a c - r a (c + 1)
theorem nn01 (g : Good k n r) (a c : Int) : 0 ≤ nn r a c ∧ nn r a c ≤ 1 := by
  have := g.cm a c
  unfold nn
  omega
theorem nn_st (h : IsTab P r) (a c : Int) : nn r a c = nn r (a - 1) c + if P a = c then 1 else 0 := by
  have e1 := h.st a c
  have e2 := h.st a (c + 1)
  unfold nn
  by_cases hc : P a = c
  · rw [if_pos (by omega)] at e1
    rw [if_neg (by omega)] at e2
    rw [if_pos hc]
    omega
  · rw [if_neg hc]
    by_cases hl : c ≤ P a
    · rw [if_pos hl] at e1
      rw [if_pos (by omega)] at e2
      omega
    · rw [if_neg hl] at e1
      rw [if_neg (by omega)] at e2
      omega
theorem nn_up (h : IsTab P r) (a c : Int) : nn r (a + 1) c = nn r a c + if P (a + 1) = c then 1 else 0 := by
  have := nn_st h (a + 1) c
  rwa [show a + 1 - 1 = a by omega] at this
theorem nn_mono (h : IsTab P r) {a b : Int} (hab : a ≤ b) (c : Int) : nn r a c ≤ nn r b c := by
  have key : ∀ (d : Nat) (a : Int), nn r a c ≤ nn r (a + d) c := by
    intro d
    induction d with
    | zero => intro a; simp
    | succ d ih =>
      intro a
      have e := nn_up h (a + d) c
      have := ih a
      rw [show a + ((d + 1 : Nat) : Int) = a + d + 1 by omega, e]
      split <;> omega
  have := key (b - a).toNat a
  rwa [Int.toNat_of_nonneg (by omega), show a + (b - a) = b by omega] at this
theorem nn_perN (g : Good k n r) (a c j : Int) : nn r (a + k * j) (c + k * j) = nn r a c := by
  unfold nn
  rw [good_perN g, show c + k * j + 1 = c + 1 + k * j by omega, good_perN g]
theorem nn_low (g : Good k n r) {a c : Int} (h : a - c + 1 ≤ - n) : nn r a c = 0 := by
  unfold nn
  rw [g.low a c h, g.low a (c + 1) (by omega)]
  rfl
theorem nn_high (g : Good k n r) {a c : Int} (h : n < a - c + 1) : nn r a c = 1 := by
  unfold nn
  rw [g.high a c (by omega), g.high a (c + 1) (by omega)]
  omega
/-- the place of a value -/
theorem nn_ex (h : IsTab P r) (g : Good k n r) {a c : Int} (e : nn r a c = 1) : ∃ i, i ≤ a ∧ P i = c := by
  have key : ∀ (d : Nat) (a : Int), a ≤ c - 1 - n + d → nn r a c = 1 → ∃ i, i ≤ a ∧ P i = c := by
    intro d
    induction d with
    | zero =>
      intro a ha e
      rw [nn_low g (by omega)] at e
      omega
    | succ d ih =>
      intro a ha e
      have q := nn_st h a c
      by_cases hp : P a = c
      · exact ⟨a, Int.le_refl _, hp⟩
      · rw [if_neg hp] at q
        obtain ⟨i, hi, hc⟩ := ih (a - 1) (by omega) (by omega)
        exact ⟨i, by omega, hc⟩
  exact key (a - (c - 1 - n)).toNat a (by omega) e
theorem nn_of (h : IsTab P r) (g : Good k n r) {i a : Int} (hi : i ≤ a) : nn r a (P i) = 1 := by
  have q := nn_st h i (P i)
  rw [if_pos rfl] at q
  have q1 := nn01 g (i - 1) (P i)
  have q2 := nn_mono h hi (P i)
  have q3 := nn01 g a (P i)
  omega
theorem nn_iff (h : IsTab P r) (g : Good k n r) {a c : Int} : nn r a c = 1 ↔ ∃ i, i ≤ a ∧ P i = c :=
  ⟨nn_ex h g, fun ⟨_, hi, e⟩ => e ▸ nn_of h g hi⟩
theorem tab_inj (h : IsTab P r) (g : Good k n r) {i j : Int} (e : P i = P j) : i = j := by
  have key : ∀ {i j : Int}, P i = P j → i < j → False := fun {i j} e hl => by
    have q := nn_st h j (P j)
    rw [if_pos rfl] at q
    have q1 : nn r (j - 1) (P j) = 1 := by rw [← e]; exact nn_of h g (by omega)
    have q2 := nn01 g j (P j)
    omega
  rcases Int.lt_trichotomy i j with hl | hl | hl
  · exact (key e hl).elim
  · exact hl
  · exact (key e.symm hl).elim
theorem tab_surj (h : IsTab P r) (g : Good k n r) (c : Int) : ∃ i, P i = c := by
  obtain ⟨i, _, e⟩ := nn_ex h g (nn_high g (a := c + n) (c := c) (by omega))
  exact ⟨i, e⟩
theorem tab_bd (h : IsTab P r) (g : Good k n r) (i : Int) : i - n ≤ P i ∧ P i ≤ i + n := by
  constructor
  · apply Classical.byContradiction
    intro hn
    have q := nn_st h i (P i)
    rw [if_pos rfl] at q
    have := nn01 g i (P i)
    have := nn_high g (a := i - 1) (c := P i) (by omega)
    omega
  · apply Classical.byContradiction
    intro hn
    have := nn_of h g (i := i) (a := i) (Int.le_refl _)
    rw [nn_low g (by omega)] at this
    omega
theorem r_val (h : IsTab P r) (a c : Int) : c ≤ P a ↔ r a c - r (a - 1) c = 1 := by
  have e := h.st a c
  constructor
  · intro hc
    rw [if_pos hc] at e
    omega
  · intro q
    apply Classical.byContradiction
    intro hn
    rw [if_neg hn] at e
    omega

/-- the exchange rises at m: some place parts them -/
def Ris (k m : Int) (r : Tb) : Prop := ∃ a c, (c - m - 1) % k = 0 ∧ nn r a (c - 1) = 1 ∧ nn r a c = 0
theorem idle_of (g : Good k n r) (h : ¬ Ris k m r) : tL k m r = r := by
  funext a c
  unfold tL
  split
  · rename_i hc
    have e0 := g.cm a (c - 1)
    have e1 := g.cm a c
    rw [show c - 1 + 1 = c by omega] at e0
    apply Classical.byContradiction
    intro hn
    apply h
    refine ⟨a, c, hc, ?_, ?_⟩
    · unfold nn
      rw [show c - 1 + 1 = c by omega]
      omega
    · unfold nn
      omega
  · rfl
theorem dvd_of {k x : Int} (h : x % k = 0) : ∃ y, x = k * y := Int.dvd_of_emod_eq_zero h
theorem ris_all (h : IsTab P r) (g : Good k n r) (q : Ris k m r) {a c : Int} (hc : (c - m - 1) % k = 0) : nn r a c ≤ nn r a (c - 1) := by
  obtain ⟨a0, c0, h0, e1, e0⟩ := q
  obtain ⟨y, hy⟩ := dvd_of hc
  obtain ⟨z, hz⟩ := dvd_of h0
  have sub : k * (y - z) = k * y - k * z := Int.mul_sub _ _ _
  have ec : c = c0 + k * (y - z) := by omega
  have n1 := nn_perN g (a - k * (y - z)) c0 (y - z)
  have n2 := nn_perN g (a - k * (y - z)) (c0 - 1) (y - z)
  rw [show a - k * (y - z) + k * (y - z) = a by omega] at n1 n2
  rw [show c0 + k * (y - z) = c by omega] at n1
  rw [show c0 - 1 + k * (y - z) = c - 1 by omega] at n2
  rw [n1, n2]
  rcases Int.le_total (a - k * (y - z)) a0 with hl | hl
  · have := nn_mono h hl c0
    have := nn01 g (a - k * (y - z)) c0
    have := nn01 g (a - k * (y - z)) (c0 - 1)
    omega
  · have := nn_mono h hl (c0 - 1)
    have := nn01 g (a - k * (y - z)) c0
    omega
theorem sw_ge (hk : 2 ≤ k) {c v : Int} : c ≤ sw k m v ↔ (if (c - m - 1) % k = 0 then (c + 1 ≤ v ∨ v = c - 1) else c ≤ v) := by
  unfold sw
  by_cases h1 : (v - m) % k = 0
  · rw [if_pos h1]
    split
    · rename_i hc
      constructor
      · intro q
        by_cases e : v = c - 1
        · exact .inr e
        · refine .inl ?_
          by_cases e2 : v = c
          · subst e2
            exact absurd hc (by rw [show v - m - 1 = (v - m) - 1 by omega]; exact mod_next hk h1)
          · omega
      · rintro (q | q) <;> omega
    · rename_i hc
      constructor
      · intro q
        apply Classical.byContradiction
        intro hn
        apply hc
        rw [show c - m - 1 = v - m by omega]
        exact h1
      · intro q; omega
  · rw [if_neg h1]
    by_cases h2 : (v - m - 1) % k = 0
    · rw [if_pos h2]
      split
      · rename_i hc
        constructor
        · intro q; exact .inl (by omega)
        · rintro (q | q)
          · omega
          · exfalso
            apply mod_next hk hc
            rw [show c - m - 1 - 1 = v - m - 1 by omega]
            exact h2
      · rename_i hc
        constructor
        · intro q; omega
        · intro q
          apply Classical.byContradiction
          intro hn
          apply hc
          rw [show c - m - 1 = v - m - 1 by omega]
          exact h2
    · rw [if_neg h2]
      split
      · rename_i hc
        constructor
        · intro q
          refine .inl ?_
          apply Classical.byContradiction
          intro hn
          apply h2
          rw [show v - m - 1 = c - m - 1 by omega]
          exact hc
        · rintro (q | q)
          · omega
          · exfalso
            apply h1
            rw [show v - m = c - m - 1 by omega]
            exact hc
      · exact Iff.rfl
/-- where it rises the letter exchanges the values -/
theorem ris_tab (hk : 2 ≤ k) (h0 : 0 ≤ n) (h : IsTab P r) (g : Good k n r) (q : Ris k m r) : IsTab (fun i => sw k m (P i)) (tL k m r) := by
  have g' := good_tL (m := m) hk h0 g
  refine ⟨fun a c => ?_, fun c => ⟨c - 2 - n, fun a ha => g'.low a c (by omega)⟩⟩
  have w := sw_ge (k := k) (m := m) hk (c := c) (v := P a)
  unfold tL
  by_cases hc : (c - m - 1) % k = 0
  · rw [if_pos hc] at w
    rw [if_pos hc, if_pos hc]
    have val : ∀ a, min (r a (c - 1)) (r a (c + 1) + 1) = r a (c + 1) + nn r a (c - 1) := fun a => by
      have e := ris_all h g q (a := a) hc
      have e0 := nn01 g a (c - 1)
      have e1 := nn01 g a c
      unfold nn at *
      rw [show c - 1 + 1 = c by omega] at *
      omega
    rw [val, val, nn_st h a (c - 1), h.st a (c + 1)]
    by_cases c1 : c + 1 ≤ P a
    · rw [if_pos c1, if_neg (by omega), if_pos (w.mpr (.inl c1))]
      omega
    · rw [if_neg c1]
      by_cases c2 : P a = c - 1
      · rw [if_pos c2, if_pos (w.mpr (.inr c2))]
        omega
      · rw [if_neg c2, if_neg (fun z => (w.mp z).elim c1 c2)]
        omega
  · rw [if_neg hc] at w
    rw [if_neg hc, if_neg hc, h.st a c]
    by_cases c1 : c ≤ P a
    · rw [if_pos c1, if_pos (w.mpr c1)]
    · rw [if_neg c1, if_neg (fun z => c1 (w.mp z))]

/-- a Grassmann map: it rises but at the multiples of k -/
def Gr (k : Int) (P : Int → Int) : Prop := ∀ i, ¬ i % k = 0 → P i < P (i + 1)
/-- the letter changes what stands up to 0 -/
def Ris0 (k m : Int) (r : Tb) : Prop := ∃ c, (c - m - 1) % k = 0 ∧ nn r 0 (c - 1) = 1 ∧ nn r 0 c = 0
theorem Ris0.ris (q : Ris0 k m r) : Ris k m r := let ⟨c, h⟩ := q; ⟨0, c, h⟩
theorem gr_sw (hk : 2 ≤ k) (h0 : 0 ≤ n) (h : IsTab P r) (g : Good k n r) (q : Ris0 k m r) (hG : Gr k P) : Gr k (fun i => sw k m (P i)) := by
  intro i hi
  have lt := hG i hi
  show sw k m (P i) < sw k m (P (i + 1))
  have h0 : sw k m (P i) ≤ P i + 1 ∧ P (i + 1) - 1 ≤ sw k m (P (i + 1)) := by
    unfold sw
    constructor
    · split
      · omega
      · split <;> omega
    · split
      · omega
      · split <;> omega
  apply Classical.byContradiction
  intro hn
  -- P (i+1) is P i + 1 or P i + 2
  have a1 : P i % k = P i % k := rfl
  by_cases s1 : (P i - m) % k = 0
  · by_cases s2 : (P (i + 1) - m - 1) % k = 0
    · -- both move
      have e1 : sw k m (P i) = P i + 1 := by unfold sw; rw [if_pos s1]
      have e2 : sw k m (P (i + 1)) = P (i + 1) - 1 := by
        unfold sw
        rw [if_neg, if_pos s2]
        intro z
        exact mod_next hk z s2
      have ec : P (i + 1) = P i + 1 := by
        have hle : P (i + 1) ≤ P i + 2 := by omega
        rcases (by omega : P (i + 1) = P i + 1 ∨ P (i + 1) = P i + 2) with z | z
        · exact z
        · exfalso
          rw [z] at s2
          have : (P i - m + 1) % k = 0 := by rw [show P i - m + 1 = P i + 2 - m - 1 by omega]; exact s2
          exact mod_next hk this (by rw [show P i - m + 1 - 1 = P i - m by omega]; exact s1)
      obtain ⟨c0, hc0, e1', e0'⟩ := q
      obtain ⟨y, hy⟩ := dvd_of s1
      obtain ⟨z, hz⟩ := dvd_of hc0
      have sub : k * (y - z) = k * y - k * z := Int.mul_sub _ _ _
      have pi : P i = c0 - 1 + k * (y - z) := by omega
      have pj : P (i - k * (y - z)) = c0 - 1 := by
        have := tab_perN hk h g i (-(y - z))
        rw [Int.mul_neg] at this
        rw [show i - k * (y - z) = i + -(k * (y - z)) by omega, this]
        omega
      have pj1 : P (i - k * (y - z) + 1) = c0 := by
        have := tab_perN hk h g (i + 1) (-(y - z))
        rw [Int.mul_neg] at this
        rw [show i - k * (y - z) + 1 = i + 1 + -(k * (y - z)) by omega, this]
        omega
      obtain ⟨i1, hi1, p1⟩ := nn_ex h g e1'
      have ei : i1 = i - k * (y - z) := tab_inj h g (p1.trans pj.symm)
      have hle : ¬ (i - k * (y - z) + 1 ≤ 0) := fun hl => by
        have := nn_of h g hl
        rw [pj1] at this
        omega
      apply hi
      have : i = k * (y - z) := by omega
      rw [this, Int.mul_emod_right]
    · have e2 : P (i + 1) ≤ sw k m (P (i + 1)) := by
        unfold sw
        split
        · omega
        · omega
      have e1 : sw k m (P i) = P i + 1 := by unfold sw; rw [if_pos s1]
      have ec : P (i + 1) = P i + 1 := by omega
      apply s2
      rw [ec, show P i + 1 - m - 1 = P i - m by omega]
      exact s1
  · have e1 : sw k m (P i) ≤ P i := by
      unfold sw
      rw [if_neg s1]
      split <;> omega
    by_cases s2 : (P (i + 1) - m - 1) % k = 0
    · have ec : P (i + 1) = P i + 1 := by omega
      apply s1
      rw [show P i - m = P (i + 1) - m - 1 by omega]
      exact s2
    · have e2 : P (i + 1) ≤ sw k m (P (i + 1)) := by
        unfold sw
        split
        · omega
        · omega
      omega
theorem gr_id (k : Int) : Gr k (fun i => i) := fun i _ => by show i < i + 1; omega
/-- a Grassmann map's table by its column 0 -/
theorem gr_tab (hk : 2 ≤ k) (h : IsTab P r) (g : Good k n r) (hG : Gr k P) {a : Int} (h1 : 0 ≤ a) (h2 : a ≤ k) (c : Int) : r a c = max (r 0 c) (r k c - (k - a)) := by
  have am : ∀ (d : Nat) (a : Int), r a c ≤ r (a + d) c ∧ r (a + d) c ≤ r a c + d := by
    intro d
    induction d with
    | zero => intro a; simp
    | succ d ih =>
      intro a
      have := ih a
      have := g.am (a + d) c
      rw [show a + ((d + 1 : Nat) : Int) = a + d + 1 by omega]
      omega
  have lo := (am a.toNat 0)
  rw [Int.toNat_of_nonneg h1, Int.zero_add] at lo
  have hi := (am (k - a).toNat a)
  rw [Int.toNat_of_nonneg (by omega), show a + (k - a) = k by omega] at hi
  -- one of both
  have one : ∀ (d : Nat), (d : Int) ≤ k → r d c = r 0 c ∨ c ≤ P d := by
    intro d
    induction d with
    | zero => intro _; exact .inl rfl
    | succ d ih =>
      intro hd
      have e := h.up d c
      rw [show ((d + 1 : Nat) : Int) = (d : Int) + 1 by omega]
      by_cases hc : c ≤ P ((d : Int) + 1)
      · exact .inr hc
      · rw [if_neg hc] at e
        rcases ih (by omega) with z | z
        · exact .inl (by omega)
        · by_cases h0 : d = 0
          · subst h0
            exact .inl (by simpa using e)
          · have := hG d (fun z => by
              rw [Int.emod_eq_of_lt (by omega) (by omega)] at z
              omega)
            omega
  have two : ∀ (d : Nat), (d : Int) ≤ k - 1 → c ≤ P (k - d) → r k c = r (k - d) c + d := by
    intro d
    induction d with
    | zero => intro _ _; simp
    | succ d ih =>
      intro hd hc
      have l := hG (k - ((d + 1 : Nat) : Int)) (fun z => by
        rw [Int.emod_eq_of_lt (by omega) (by omega)] at z
        omega)
      rw [show k - ((d + 1 : Nat) : Int) + 1 = k - d by omega] at l
      have q := ih (by omega) (by omega)
      have e := h.st (k - d) c
      rw [if_pos (by omega), show k - (d : Int) - 1 = k - ((d + 1 : Nat) : Int) by omega] at e
      omega
  have o := one a.toNat (by omega)
  rw [Int.toNat_of_nonneg h1] at o
  rcases o with z | z
  · omega
  · by_cases h0 : a = 0
    · subst h0; omega
    · have t := two (k - a).toNat (by omega) (by rw [Int.toNat_of_nonneg (by omega), show k - (k - a) = a by omega]; exact z)
      rw [Int.toNat_of_nonneg (by omega), show k - (k - a) = a by omega] at t
      omega
/-- Grassmann maps are below one another as their columns 0 are -/
theorem gr_le {n' : Int} {P' : Int → Int} {r' : Tb} (hk : 2 ≤ k) (h : IsTab P r) (g : Good k n r) (hG : Gr k P) (h' : IsTab P' r') (g' : Good k n' r') (hG' : Gr k P') (le : ∀ c, r 0 c ≤ r' 0 c) (a c : Int) : r a c ≤ r' a c := by
  have key : ∀ a c, 0 ≤ a → a ≤ k → r a c ≤ r' a c := fun a c h1 h2 => by
    rw [gr_tab hk h g hG h1 h2, gr_tab hk h' g' hG' h1 h2]
    have e1 := good_perN g 0 (c - k) 1
    have e2 := good_perN g' 0 (c - k) 1
    rw [Int.mul_one, Int.zero_add, show c - k + k = c by omega] at e1 e2
    have := le c
    have := le (c - k)
    omega
  have e1 := good_perN g (a % k) (c - k * (a / k)) (a / k)
  have e2 := good_perN g' (a % k) (c - k * (a / k)) (a / k)
  have d := Int.emod_add_mul_ediv a k
  rw [d, show c - k * (a / k) + k * (a / k) = c by omega] at e1 e2
  rw [e1, e2]
  exact key _ _ (Int.emod_nonneg _ (by omega)) (Int.le_of_lt (Int.emod_lt_of_pos _ (by omega)))
end
end Rg
set_option maxHeartbeats 4000000
/-! Falls: a letter that rises on the left makes one fall more. Words that grow. -/
namespace Rg
def sm : Nat → (Nat → Int) → Int
  | 0, _ => 0
  | n + 1, f => sm n f + f n
theorem sm_congr {f g : Nat → Int} : ∀ {n : Nat}, (∀ i, i < n → f i = g i) → sm n f = sm n g
  | 0, _ => rfl
  | n + 1, h => by
    show sm n f + f n = sm n g + g n
    rw [sm_congr (fun i hi => h i (by omega)), h n (by omega)]
theorem sm_add {f g : Nat → Int} : ∀ {n : Nat}, sm n (fun i => f i + g i) = sm n f + sm n g
  | 0 => rfl
  | n + 1 => by
    show sm n (fun i => f i + g i) + (f n + g n) = sm n f + f n + (sm n g + g n)
    rw [sm_add]
    omega
theorem sm_zero {f : Nat → Int} : ∀ {n : Nat}, (∀ i, i < n → f i = 0) → sm n f = 0
  | 0, _ => rfl
  | n + 1, h => by
    show sm n f + f n = 0
    rw [sm_zero (fun i hi => h i (by omega)), h n (by omega)]
    rfl
theorem sm_le {f : Nat → Int} {b : Int} : ∀ {n : Nat}, (∀ i, i < n → f i ≤ b) → sm n f ≤ n * b
  | 0, _ => by simp [sm]
  | n + 1, h => by
    show sm n f + f n ≤ _
    have := sm_le (f := f) (b := b) (n := n) (fun i hi => h i (by omega))
    have := h n (by omega)
    have e : ((n + 1 : Nat) : Int) * b = n * b + b := by rw [Int.natCast_add, Int.add_mul]; simp
    omega
/-- just one place holds -/
theorem sm_one {p : Nat → Prop} [DecidablePred p] {c : Int} : ∀ {n : Nat} (i : Nat), i < n → p i → (∀ j, j < n → p j → j = i) → sm n (fun j => if p j then c else 0) = c
  | 0, i, h, _, _ => absurd h (Nat.not_lt_zero _)
  | n + 1, i, h, hp, hu => by
    show sm n (fun j => if p j then c else 0) + (if p n then c else 0) = c
    by_cases e : i = n
    · subst e
      rw [if_pos hp, sm_zero]
      · omega
      · intro j hj
        rw [if_neg]
        intro z
        have := hu j (by omega) z
        omega
    · rw [if_neg (fun z => e (hu n (by omega) z).symm), sm_one i (by omega) hp (fun j hj z => hu j (by omega) z)]
      omega

def tm (k x d : Int) : Int := max 0 (-((-x) / k) - 1 - d / k)
def fl (k : Int) (P : Int → Int) : Int := sm k.toNat fun i => sm k.toNat fun j => tm k (P i - P j) ((i : Int) - j)

theorem k_cases {k : Int} (h2 : 2 ≤ k) (h6 : k ≤ 6) : k = 2 ∨ k = 3 ∨ k = 4 ∨ k = 5 ∨ k = 6 := by omega

set_option maxHeartbeats 4000000 in
theorem tm_aux {k x p q d : Int} (h2 : 2 ≤ k) (h6 : k ≤ 6) (p0 : 0 ≤ p) (p1 : p < k) (q0 : 0 ≤ q) (q1 : q < k) (dx : x % k = (p - q) % k) (ne : ¬ x % k = 0)
    (up : p = 0 → q = 1 → d / k < (x + 1) / k) (dn : p = 1 → q = 0 → (x - 1) / k ≤ d / k) :
    tm k (x + (if p = 0 then 1 else if p = 1 then -1 else 0) - (if q = 0 then 1 else if q = 1 then -1 else 0)) d = tm k x d + if p = 0 then (if q = 1 then 1 else 0) else 0 := by
  unfold tm
  by_cases a1 : p = 0 <;> by_cases a2 : p = 1 <;> by_cases b1 : q = 0 <;> by_cases b2 : q = 1 <;> simp only [a1, a2, b1, b2, if_true, if_false] <;>
    rcases k_cases h2 h6 with rfl | rfl | rfl | rfl | rfl <;> omega
theorem mod1 {k y : Int} (h2 : 2 ≤ k) : (y - 1) % k = 0 ↔ y % k = 1 := by
  have v0 := Int.emod_nonneg y (show k ≠ 0 by omega)
  have v1 := Int.emod_lt_of_pos y (show 0 < k by omega)
  have e : (y - 1) % k = (y % k - 1) % k := by rw [Int.emod_sub_emod]
  rw [e]
  by_cases h : y % k = 0
  · rw [h]
    constructor
    · intro z
      exact absurd z (mod_next h2 (Int.zero_emod k))
    · intro z; omega
  · rw [Int.emod_eq_of_lt (by omega) (by omega)]
    omega
theorem tm_sw {k m v w d : Int} (h2 : 2 ≤ k) (h6 : k ≤ 6) (ne : ¬ (v - w) % k = 0)
    (up : (v - m) % k = 0 → (w - m - 1) % k = 0 → d / k < (v - w + 1) / k) (dn : (v - m - 1) % k = 0 → (w - m) % k = 0 → (v - w - 1) / k ≤ d / k) :
    tm k (sw k m v - sw k m w) d = tm k (v - w) d + if (v - m) % k = 0 then (if (w - m - 1) % k = 0 then 1 else 0) else 0 := by
  have e : sw k m v - sw k m w = v - w + (if (v - m) % k = 0 then 1 else if (v - m) % k = 1 then -1 else 0) - (if (w - m) % k = 0 then 1 else if (w - m) % k = 1 then -1 else 0) := by
    unfold sw
    simp only [mod1 h2]
    by_cases a1 : (v - m) % k = 0 <;> by_cases a2 : (v - m) % k = 1 <;> by_cases b1 : (w - m) % k = 0 <;> by_cases b2 : (w - m) % k = 1 <;> simp only [a1, a2, b1, b2, if_true, if_false] <;> omega
  simp only [mod1 h2] at up dn ⊢
  rw [e]
  refine tm_aux h2 h6 (Int.emod_nonneg _ (by omega)) (Int.emod_lt_of_pos _ (by omega)) (Int.emod_nonneg _ (by omega)) (Int.emod_lt_of_pos _ (by omega)) ?_ ne up dn
  rw [← Int.sub_emod]
  congr 1
  omega

theorem tm_same (k : Int) (h2 : 2 ≤ k) (d : Int) (hd : d = 0) : tm k 0 d = 0 := by
  subst hd
  unfold tm
  simp
  decide
theorem fl_id {k : Int} (h2 : 2 ≤ k) (h6 : k ≤ 6) : fl k (fun i => i) = 0 := by
  unfold fl
  refine sm_zero fun i hi => sm_zero fun j hj => ?_
  show tm k ((i : Int) - j) ((i : Int) - j) = 0
  unfold tm
  rcases k_cases h2 h6 with rfl | rfl | rfl | rfl | rfl <;> omega
section
variable {k m n : Int} {P : Int → Int} {r : Tb}
theorem res_ex (hk : 2 ≤ k) (h : IsTab P r) (g : Good k n r) (x : Int) : ∃ i : Nat, i < k.toNat ∧ (P i - x) % k = 0 := by
  obtain ⟨i, hi⟩ := tab_surj h g x
  have p := tab_perN hk h g (i % k) (i / k)
  rw [Int.emod_add_mul_ediv] at p
  have n0 := Int.emod_nonneg i (show k ≠ 0 by omega)
  have n1 := Int.emod_lt_of_pos i (show 0 < k by omega)
  refine ⟨(i % k).toNat, by omega, ?_⟩
  rw [Int.toNat_of_nonneg n0, show P (i % k) - x = -(k * (i / k)) by omega, ← Int.mul_neg, Int.mul_emod_right]
theorem res_un (hk : 2 ≤ k) (h : IsTab P r) (g : Good k n r) {i j : Nat} (hi : i < k.toNat) (hj : j < k.toNat) (e : (P i - P j) % k = 0) : i = j := by
  obtain ⟨y, hy⟩ := dvd_of e
  have p := tab_perN hk h g j y
  have q : P i = P ((j : Int) + k * y) := by omega
  have q2 := tab_inj h g q
  have : y = 0 := by
    rcases Int.lt_trichotomy y 0 with z | z | z
    · have := Int.mul_le_mul_of_nonneg_left (show y ≤ -1 by omega) (show 0 ≤ k by omega)
      omega
    · exact z
    · have := Int.mul_le_mul_of_nonneg_left (show 1 ≤ y by omega) (show 0 ≤ k by omega)
      omega
  subst this
  omega
/-- the places of v and v + 1, where it rises -/
theorem ris_lt (hk : 2 ≤ k) (h : IsTab P r) (g : Good k n r) (q : Ris k m r) {i j : Int} (hm : (P i - m) % k = 0) (e : P j = P i + 1) : i < j := by
  have hc : (P i + 1 - m - 1) % k = 0 := by rw [show P i + 1 - m - 1 = P i - m by omega]; exact hm
  have q1 := ris_all h g q (a := j) hc
  have q2 := nn_of h g (i := j) (a := j) (Int.le_refl _)
  rw [e] at q2
  rw [q2, show P i + 1 - 1 = P i by omega] at q1
  have q3 := nn01 g j (P i)
  obtain ⟨i', hi', p'⟩ := nn_ex h g (show nn r j (P i) = 1 by omega)
  have := tab_inj h g p'
  subst this
  rcases Int.lt_trichotomy i' j with z | z | z
  · exact z
  · subst z; omega
  · omega
theorem fl_sw (h2 : 2 ≤ k) (h6 : k ≤ 6) (h : IsTab P r) (g : Good k n r) (q : Ris k m r) : fl k (fun i => sw k m (P i)) = fl k P + 1 := by
  have rel : ∀ (i j : Nat), (P i - m) % k = 0 → (P j - m - 1) % k = 0 → ∃ y, P i - P j = k * y - 1 ∧ (i : Int) - j < k * y := fun i j hi hj => by
    obtain ⟨a, ha⟩ := dvd_of hi
    obtain ⟨b, hb⟩ := dvd_of hj
    have sub : k * (a - b) = k * a - k * b := Int.mul_sub _ _ _
    refine ⟨a - b, by omega, ?_⟩
    have p := tab_perN h2 h g j (a - b)
    have := ris_lt h2 h g q (i := i) (j := (j : Int) + k * (a - b)) hi (by omega)
    omega
  have step : ∀ i : Nat, i < k.toNat → ∀ j : Nat, j < k.toNat → tm k (sw k m (P i) - sw k m (P j)) ((i : Int) - j) = tm k (P i - P j) ((i : Int) - j) + if (P i - m) % k = 0 then (if (P j - m - 1) % k = 0 then 1 else 0) else 0 := by
    intro i hi j hj
    by_cases e : i = j
    · subst e
      rw [show sw k m (P i) - sw k m (P i) = 0 by omega, show P i - P i = 0 by omega, tm_same k h2 _ (by omega)]
      split
      · rename_i z
        rw [if_neg (mod_next h2 z)]
        rfl
      · rfl
    · refine tm_sw h2 h6 (fun z => e (res_un h2 h g hi hj z)) (fun a b => ?_) (fun a b => ?_)
      · obtain ⟨y, h1, h2'⟩ := rel i j a b
        rw [h1, show k * y - 1 + 1 = k * y by omega, Int.mul_ediv_cancel_left _ (by omega)]
        apply Int.ediv_lt_of_lt_mul (by omega)
        rw [Int.mul_comm]
        exact h2'
      · obtain ⟨y, h1, h2'⟩ := rel j i b a
        have e1 : P i - P j - 1 = k * (-y) := by rw [Int.mul_neg]; omega
        rw [e1, Int.mul_ediv_cancel_left _ (by omega)]
        apply Int.le_ediv_of_mul_le (by omega)
        rw [Int.mul_comm, Int.mul_neg]
        omega
  have rows : fl k (fun i => sw k m (P i)) = sm k.toNat (fun i => sm k.toNat (fun j => tm k (P i - P j) ((i : Int) - j)) + if (P i - m) % k = 0 then 1 else 0) := by
    unfold fl
    refine sm_congr fun i hi => ?_
    show sm k.toNat (fun j => tm k (sw k m (P i) - sw k m (P j)) ((i : Int) - j)) = _
    rw [sm_congr (step i hi), sm_add]
    congr 1
    by_cases z : (P i - m) % k = 0
    · simp only [z, if_true]
      obtain ⟨j, hj, pj⟩ := res_ex h2 h g (m + 1)
      refine sm_one (p := fun j : Nat => (P j - m - 1) % k = 0) j hj (by rw [show P j - m - 1 = P j - (m + 1) by omega]; exact pj) fun j' hj' pj' => ?_
      refine res_un h2 h g hj' hj ?_
      have := Int.sub_emod (P j' - m - 1) (P j - (m + 1)) k
      rw [show P j' - m - 1 - (P j - (m + 1)) = P j' - P j by omega, pj', pj] at this
      simpa using this
    · simp only [z, if_false]
      exact sm_zero fun _ _ => rfl
  rw [rows, sm_add]
  show fl k P + _ = _
  congr 1
  obtain ⟨i, hi, pi⟩ := res_ex h2 h g m
  refine sm_one (p := fun i : Nat => (P i - m) % k = 0) i hi pi fun j hj pj => ?_
  refine res_un h2 h g hj hi ?_
  have := Int.sub_emod (P j - m) (P i - m) k
  rw [show P j - m - (P i - m) = P j - P i by omega, pj, pi] at this
  simpa using this
/-- few falls -/
theorem fl_few (h2 : 2 ≤ k) (h6 : k ≤ 6) (h : IsTab P r) (g : Good k n r) (hn : n ≤ 19) : fl k P ≤ 1000 := by
  have one : ∀ i : Nat, i < k.toNat → ∀ j : Nat, j < k.toNat → tm k (P i - P j) ((i : Int) - j) ≤ 22 := fun i hi j hj => by
    have b1 := tab_bd h g i
    have b2 := tab_bd h g j
    unfold tm
    rcases k_cases h2 h6 with rfl | rfl | rfl | rfl | rfl <;> omega
  have rows := sm_le (f := fun i : Nat => sm k.toNat fun j => tm k (P i - P j) ((i : Int) - j)) (b := k.toNat * 22) (n := k.toNat) fun i hi => sm_le (one i hi)
  have : fl k P ≤ k.toNat * (k.toNat * 22) := rows
  rcases k_cases h2 h6 with rfl | rfl | rfl | rfl | rfl <;> simp at this <;> omega
end

/-! ### words, from the left -/
def Pw (k : Int) (w : List Int) : Int → Int := mw k w.reverse fun i => i
def Tw (k : Int) (w : List Int) : Tb := lw k w r0
theorem tab_Pw {k : Int} (hk : 2 ≤ k) (w : List Int) : IsTab (Pw k w) (Tw k w) := by
  have := isTab_mw hk w.reverse isTab_id
  rw [rw_r0, List.reverse_reverse] at this
  exact this
theorem good_Tw {k : Int} (hk : 2 ≤ k) (w : List Int) : Good k w.length (Tw k w) := by
  have := good_lw hk w (n := 0) (r := r0) (Int.le_refl _) (good_r0 k)
  rwa [Int.zero_add] at this
theorem Tw_snoc (k m : Int) (w : List Int) : Tw k (w ++ [m]) = tL k m (Tw k w) := lw_app k w [m] r0
theorem Pw_ris {k m : Int} (hk : 2 ≤ k) {w : List Int} (q : Ris k m (Tw k w)) : Pw k (w ++ [m]) = fun i => sw k m (Pw k w i) := by
  have a := tab_Pw hk (w ++ [m])
  rw [Tw_snoc] at a
  exact a.val (ris_tab hk (Int.natCast_nonneg _) (tab_Pw hk w) (good_Tw hk w) q)
theorem Pw_idle {k m : Int} (hk : 2 ≤ k) {w : List Int} (q : ¬ Ris k m (Tw k w)) : Pw k (w ++ [m]) = Pw k w := by
  have a := tab_Pw hk (w ++ [m])
  rw [Tw_snoc, idle_of (good_Tw hk w) q] at a
  exact a.val (tab_Pw hk w)
/-- each letter changes what stands up to 0 -/
inductive Grow (k : Int) : List Int → Prop
  | nil : Grow k []
  | snoc {w : List Int} {m : Int} : Grow k w → Ris0 k m (Tw k w) → Grow k (w ++ [m])
theorem Grow.gr {k : Int} (hk : 2 ≤ k) {w : List Int} (h : Grow k w) : Gr k (Pw k w) := by
  induction h with
  | nil => exact gr_id k
  | snoc _ q ih =>
    rw [Pw_ris hk q.ris]
    exact gr_sw hk (Int.natCast_nonneg _) (tab_Pw hk _) (good_Tw hk _) q ih
theorem Grow.fl {k : Int} (h2 : 2 ≤ k) (h6 : k ≤ 6) {w : List Int} (h : Grow k w) : fl k (Pw k w) = w.length := by
  induction h with
  | nil => exact fl_id h2 h6
  | snoc _ q ih =>
    rw [Pw_ris h2 q.ris, fl_sw h2 h6 (tab_Pw h2 _) (good_Tw h2 _) q.ris, ih, List.length_append]
    simp
end Rg
set_option maxHeartbeats 2000000
/-! A layer of data over the hand layer: what an expression is worth, a statement does, said over data alone (no heap, no address). -/
namespace Dd
open PySem PySem.Spec PyProof.Rows L2 Evl

/-- no table of code objects -/
def NoT : HO → Bool
  | .tbl _ => false
  | _ => true
/-- what stands stays; tables may grow -/
structure Ex (H H' : Hp) : Prop where
  get : ∀ (a : Addr) (o : HO), H a = some o → NoT o = true → H' a = some o
  dom : ∀ (a : Addr) (o : HO), H a = some o → ∃ o', H' a = some o'
  tab : ∀ a : Addr, GxR.TabG H a → GxR.TabG H' a
theorem Ex.at {H H' : Hp} (e : Ex H H') {a : Addr} {o : HO} (h : H a = some o) (n : NoT o = true := by rfl) : H' a = some o := e.get a o h n
theorem Ex.refl (H : Hp) : Ex H H := ⟨fun _ _ h _ => h, fun _ o h => ⟨o, h⟩, fun _ h => h⟩
theorem Ex.trans {H H1 H2 : Hp} (a : Ex H H1) (b : Ex H1 H2) : Ex H H2 := ⟨fun x o h n => b.get x o (a.get x o h n) n, fun x o h => let ⟨o', h'⟩ := a.dom x o h; b.dom x o' h', fun x h => b.tab x (a.tab x h)⟩
theorem Ex.mut {H H' : Hp} {p : Addr} {o : HO} (e : Ex H H') (h : H p = none) : Ex H (upd H' p o) where
  get := fun a u ha n => by
    rw [upd_ne (ne_of_none ha h)]
    exact e.get a u ha n
  dom := fun a u ha => by
    rw [upd_ne (ne_of_none ha h)]
    exact e.dom a u ha
  tab := fun a ⟨ps, ha, t⟩ => by
    obtain ⟨qs, hb, t'⟩ := e.tab a ⟨ps, ha, t⟩
    exact ⟨qs, by rw [upd_ne (ne_of_none ha h)]; exact hb, t'⟩
theorem Ex.new {H : Hp} {p : Addr} {o : HO} (h : H p = none) : Ex H (upd H p o) := (Ex.refl H).mut h
theorem ex_rd {H H' : Hp} {a : Addr} {u : HO} (e : Ex H H') (h : Rd H a u) (n : NoT u = true := by rfl) : Rd H' a u := by
  rcases h with h | ⟨o, h⟩
  · exact Or.inl (e.at h n)
  · exact Or.inr ⟨o, e.at h⟩
theorem ex_t {K : PySem.W.Frag} {H H' : Hp} {a : Addr} {xs : List V} (e : Ex H H') (h : SqT K H a xs) : SqT K H' a xs := by
  rcases h with h | h
  · exact Or.inl (ex_rd e h)
  · exact Or.inr h
theorem fresh_back {H H' : Hp} {p : Addr} (e : Ex H H') (h : H' p = none) : H p = none := by
  cases h1 : H p with
  | none => rfl
  | some o =>
    obtain ⟨o', h2⟩ := e.dom p o h1
    rw [h2] at h
    cases h
/-- the class, the tables of the two defs that hold a generator expression, and their code objects -/
structure Cs where
  cls : Addr
  t1 : Addr
  c1 : Addr
  t2 : Addr
  c2 : Addr
/-- the tables stand -/
def Tb (C : Cs) (H : Hp) : Prop := GxR.TabG H C.t1 ∧ GxR.TabG H C.t2
theorem Tb.ex {C : Cs} {H H' : Hp} (e : Ex H H') (t : Tb C H) : Tb C H' := ⟨e.tab _ t.1, e.tab _ t.2⟩
/-- data -/
inductive D where
  | int (i : Int)
  | bl (b : Bool)
  | non
  | tup (ds : List D)
  | lst (ds : List D)
  | dic (kvs : List (Int × Int))
  | rnd (vs : List Int)
  | rng (lo hi : Int)
abbrev nts (xs : List Int) : List D := xs.map D.int
abbrev it (xs : List Int) : D := .tup (xs.map D.int)
abbrev il (xs : List Int) : D := .lst (xs.map D.int)
/-- no list within -/
inductive Im : D → Prop where
  | int {i : Int} : Im (.int i)
  | bl {b : Bool} : Im (.bl b)
  | non : Im .non
  | tup {ds : List D} : (∀ d, d ∈ ds → Im d) → Im (.tup ds)
  | rnd {vs : List Int} : Im (.rnd vs)
  | rng {lo hi : Int} : Im (.rng lo hi)
theorem im_it (xs : List Int) : Im (it xs) := .tup fun d h => by
  obtain ⟨i, _, rfl⟩ := List.mem_map.mp h
  exact .int

/-- av: the address of the list that may change (it is no part of other data) -/
inductive Rep (K : PySem.W.Frag) (C : Cs) (av : Option Addr) (H : Hp) : D → V → Prop where
  | int {i : Int} : Rep K C av H (.int i) (.int i)
  | bl {b : Bool} : Rep K C av H (.bl b) (.bl b)
  | non : Rep K C av H .non .non
  | tup {a : Addr} {vs : List V} {ds : List D} : SqT K H a vs → ds.length = vs.length → (∀ (i : Nat) (d : D) (v : V), ds[i]? = some d → vs[i]? = some v → Rep K C av H d v) → Rep K C av H (.tup ds) (.ref a)
  | lst {a : Addr} {vs : List V} {ds : List D} : av ≠ some a → Rd H a (.lst vs) → ds.length = vs.length → (∀ (i : Nat) (d : D) (v : V), ds[i]? = some d → vs[i]? = some v → Rep K C av H d v) → Rep K C av H (.lst ds) (.ref a)
  | dic {a : Addr} {kvs : List (Int × Int)} : H a = some (.dK (kvs.map fun p => (Sum.inl p.1, V.int p.2))) → Rep K C av H (.dic kvs) (.ref a)
  | rnd {a dx t : Addr} {vs : List Int} : SlX.Slt H a C.cls dx [some (.ref t)] → SqT K H t (vs.map V.int) → Rep K C av H (.rnd vs) (.ref a)
  | rng {a : Addr} {lo hi : Int} : H a = some (.rng lo hi) → Rep K C av H (.rng lo hi) (.ref a)
/-- many -/
structure Reps (K : PySem.W.Frag) (C : Cs) (av : Option Addr) (H : Hp) (ds : List D) (vs : List V) : Prop where
  len : ds.length = vs.length
  at_ : ∀ (i : Nat) (d : D) (v : V), ds[i]? = some d → vs[i]? = some v → Rep K C av H d v
section
variable {K : PySem.W.Frag} {C : Cs} {av : Option Addr} {H H' : Hp} {d : D} {v : V} {ds : List D} {vs : List V}
theorem slt_ex {a c dx : Addr} {ws : List (Option V)} (e : Ex H H') (h : SlX.Slt H a c dx ws) : SlX.Slt H' a c dx ws := by
  rcases h with ⟨h, z⟩ | ⟨h, h2⟩
  · exact .inl ⟨e.at h, z⟩
  · exact .inr ⟨e.at h, e.at h2⟩
theorem Rep.ex (e : Ex H H') (r : Rep K C av H d v) : Rep K C av H' d v := by
  induction r with
  | int => exact .int
  | bl => exact .bl
  | non => exact .non
  | tup h l _ ih => exact .tup (ex_t e h) l ih
  | lst n h l _ ih => exact .lst n (ex_rd e h) l ih
  | dic h => exact .dic (e.at h)
  | rnd h h2 => exact .rnd (slt_ex e h) (ex_t e h2)
  | rng h => exact .rng (e.at h)
theorem Rep.any (r : Rep K C av H d v) : Rep K C none H d v := by
  induction r with
  | int => exact .int
  | bl => exact .bl
  | non => exact .non
  | tup h l _ ih => exact .tup h l ih
  | lst n h l _ ih => exact .lst (fun z => nomatch z) h l ih
  | dic h => exact .dic h
  | rnd h h2 => exact .rnd h h2
  | rng h => exact .rng h
theorem Rep.im (r : Rep K C none H d v) (h : Im d) (av : Option Addr) : Rep K C av H d v := by
  induction r with
  | int => exact .int
  | bl => exact .bl
  | non => exact .non
  | tup h1 l _ ih =>
    cases h with
    | tup hh => exact .tup h1 l fun i d v hd hv => ih i d v hd hv (hh d (List.mem_of_getElem? hd))
  | lst n h1 l _ ih => cases h
  | dic h1 => cases h
  | rnd h1 h2 => exact .rnd h1 h2
  | rng h1 => exact .rng h1
theorem rd_mut {a l : Addr} {u : HO} {xs ys : List V} (hl : H l = some (.lst xs)) (h : Rd H a u) (hn : u ≠ .lst xs) : Rd (upd H l (.lst ys)) a u := by
  rcases h with h | ⟨o, h⟩
  · refine .inl ?_
    rw [upd_ne (ne_of h hl hn)]
    exact h
  · refine .inr ⟨o, ?_⟩
    rw [upd_ne (ne_of h hl fun z => nomatch z)]
    exact h
theorem sqT_mut {a l : Addr} {xs ys zs : List V} (hl : H l = some (.lst xs)) (h : SqT K H a zs) : SqT K (upd H l (.lst ys)) a zs := by
  rcases h with h | h
  · exact .inl (rd_mut hl h fun z => nomatch z)
  · exact .inr h
theorem rdL_mut {a l : Addr} {ys zs : List V} (hne : a ≠ l) (h : Rd H a (.lst zs)) : Rd (upd H l (.lst ys)) a (.lst zs) := by
  rcases h with h | ⟨o, h⟩
  · refine .inl ?_
    rw [upd_ne hne]
    exact h
  · refine .inr ⟨o, ?_⟩
    rw [upd_ne hne]
    exact h
/-- the list at l changes -/
theorem Rep.mut {l : Addr} {xs ys : List V} (hl : H l = some (.lst xs)) (r : Rep K C (some l) H d v) : Rep K C (some l) (upd H l (.lst ys)) d v := by
  induction r with
  | int => exact .int
  | bl => exact .bl
  | non => exact .non
  | tup h l' _ ih => exact .tup (sqT_mut hl h) l' ih
  | lst n h l' _ ih => exact .lst n (rdL_mut (fun e => n (by rw [e])) h) l' ih
  | @dic a _ h =>
    refine .dic ?_
    rw [upd_ne (ne_of h hl fun z => nomatch z)]
    exact h
  | @rng a _ _ h =>
    refine .rng ?_
    rw [upd_ne (ne_of h hl fun z => nomatch z)]
    exact h
  | @rnd _ dx _ _ h h2 =>
    refine .rnd (dx := dx) ?_ (sqT_mut hl h2)
    rcases h with ⟨h, z⟩ | ⟨h, h3⟩
    · refine .inl ⟨?_, z⟩
      rw [upd_ne (ne_of h hl fun z => nomatch z)]
      exact h
    · refine .inr ⟨?_, ?_⟩
      · rw [upd_ne (ne_of h hl fun z => by unfold SlX.SlO at z; cases z)]
        exact h
      · rw [upd_ne (ne_of h3 hl fun z => nomatch z)]
        exact h3
/-- what stands does not touch a new place -/
theorem Rep.fresh {l : Addr} (hl : H l = none) (r : Rep K C none H d v) : Rep K C (some l) H d v := by
  induction r with
  | int => exact .int
  | bl => exact .bl
  | non => exact .non
  | tup h l' _ ih => exact .tup h l' ih
  | lst n h l' _ ih =>
    refine .lst (fun z => ?_) h l' ih
    have e := Option.some.inj z
    subst e
    rcases h with h | ⟨o, h⟩
    · rw [hl] at h; cases h
    · rw [hl] at h; cases h
  | dic h => exact .dic h
  | rnd h h2 => exact .rnd h h2
  | rng h => exact .rng h
/-- without the list that may change -/
theorem Rep.rid {l : Addr} {xs : List V} {H' : Hp} (hl : H l = some (.lst xs)) (he : ∀ a o, H a = some o → a ≠ l → H' a = some o) (r : Rep K C (some l) H d v) : Rep K C none H' d v := by
  have rr : ∀ {a : Addr} {u : HO}, a ≠ l → Rd H a u → Rd H' a u := fun {a u} n h => h.elim (fun h => .inl (he a _ h n)) fun ⟨o, h⟩ => .inr ⟨o, he a _ h n⟩
  have rt : ∀ {a : Addr} {ys : List V}, SqT K H a ys → SqT K H' a ys := fun {a ys} h => h.elim (fun h => .inl (rr (h.elim (fun h => ne_of h hl fun z => nomatch z) fun ⟨o, h⟩ => ne_of h hl fun z => nomatch z) h)) .inr
  induction r with
  | int => exact .int
  | bl => exact .bl
  | non => exact .non
  | tup h l' _ ih => exact .tup (rt h) l' ih
  | lst n h l' _ ih => exact .lst (fun z => nomatch z) (rr (fun e => n (by rw [e])) h) l' ih
  | dic h => exact .dic (he _ _ h (ne_of h hl fun z => nomatch z))
  | rng h => exact .rng (he _ _ h (ne_of h hl fun z => nomatch z))
  | @rnd _ dx _ _ h h2 =>
    refine .rnd (dx := dx) ?_ (rt h2)
    rcases h with ⟨h, z⟩ | ⟨h, h3⟩
    · exact .inl ⟨he _ _ h (ne_of h hl fun z => nomatch z), z⟩
    · exact .inr ⟨he _ _ h (ne_of h hl fun z => by unfold SlX.SlO at z; cases z), he _ _ h3 (ne_of h3 hl fun z => nomatch z)⟩
theorem Reps.ex (e : Ex H H') (r : Reps K C av H ds vs) : Reps K C av H' ds vs := ⟨r.len, fun i d v h1 h2 => (r.at_ i d v h1 h2).ex e⟩
theorem Reps.any (r : Reps K C av H ds vs) : Reps K C none H ds vs := ⟨r.len, fun i d v h1 h2 => (r.at_ i d v h1 h2).any⟩
theorem Reps.nil : Reps K C av H [] [] := ⟨rfl, fun i d v h => by simp at h⟩
theorem Reps.cons (r : Rep K C av H d v) (rs : Reps K C av H ds vs) : Reps K C av H (d :: ds) (v :: vs) := by
  refine ⟨by simp [rs.len], fun i d' v' h1 h2 => ?_⟩
  cases i with
  | zero =>
    have e1 : d = d' := Option.some.inj h1
    have e2 : v = v' := Option.some.inj h2
    rw [← e1, ← e2]
    exact r
  | succ i => exact rs.at_ i d' v' h1 h2
theorem Reps.uncons (r : Reps K C av H (d :: ds) vs) : ∃ v vs', vs = v :: vs' ∧ Rep K C av H d v ∧ Reps K C av H ds vs' := by
  cases vs with
  | nil => exact absurd r.len (by simp)
  | cons v vs => exact ⟨v, vs, rfl, r.at_ 0 d v rfl rfl, ⟨by simpa using r.len, fun i d' v' h1 h2 => r.at_ (i + 1) d' v' h1 h2⟩⟩
theorem Reps.unnil (r : Reps K C av H [] vs) : vs = [] := List.length_eq_zero_iff.mp r.len.symm
theorem Reps.app {ds' : List D} {vs' : List V} (r : Reps K C av H ds vs) (r' : Reps K C av H ds' vs') : Reps K C av H (ds ++ ds') (vs ++ vs') := by
  refine ⟨by simp [r.len, r'.len], fun i d v h1 h2 => ?_⟩
  by_cases hi : i < ds.length
  · rw [List.getElem?_append_left hi] at h1
    rw [List.getElem?_append_left (by rw [← r.len]; exact hi)] at h2
    exact r.at_ i d v h1 h2
  · rw [List.getElem?_append_right (by omega)] at h1
    rw [List.getElem?_append_right (by rw [← r.len]; omega), ← r.len] at h2
    exact r'.at_ _ d v h1 h2
theorem Reps.get (r : Reps K C av H ds vs) {i : Nat} (h : ds[i]? = some d) : ∃ v, vs[i]? = some v ∧ Rep K C av H d v := by
  have hi : i < vs.length := by rw [← r.len]; exact (List.getElem?_eq_some_iff.mp h).1
  exact ⟨vs[i], List.getElem?_eq_getElem hi, r.at_ i d _ h (List.getElem?_eq_getElem hi)⟩
theorem Reps.atI (r : Reps K C av H ds vs) {i : Int} (h : L2.atI ds i = some d) : ∃ v, L2.atI vs i = some v ∧ Rep K C av H d v := by
  unfold L2.atI at h ⊢
  rw [← r.len]
  cases z : ixN ds.length i with
  | none => rw [z] at h; cases h
  | some j =>
    rw [z] at h
    exact r.get h
theorem Reps.set (r : Reps K C av H ds vs) (i : Nat) (q : Rep K C av H d v) : Reps K C av H (ds.set i d) (vs.set i v) := by
  refine ⟨by simp [r.len], fun j d' v' h1 h2 => ?_⟩
  rw [List.getElem?_set] at h1 h2
  by_cases e : i = j
  · rw [if_pos e] at h1 h2
    split at h1
    · split at h2
      · rw [← Option.some.inj h1, ← Option.some.inj h2]
        exact q
      · cases h2
    · cases h1
  · rw [if_neg e] at h1 h2
    exact r.at_ j d' v' h1 h2
theorem Reps.im (r : Reps K C none H ds vs) (h : ∀ d, d ∈ ds → Im d) (av : Option Addr) : Reps K C av H ds vs := ⟨r.len, fun i d v h1 h2 => (r.at_ i d v h1 h2).im (h d (List.mem_of_getElem? h1)) av⟩
theorem reps_nts {xs : List Int} : ∀ {vs : List V}, Reps K C av H (nts xs) vs → vs = xs.map V.int := by
  induction xs with
  | nil => intro vs r; exact r.unnil
  | cons x xs ih =>
    intro vs r
    obtain ⟨v, vs', rfl, q, r'⟩ := r.uncons
    cases q
    rw [ih r']
    rfl
theorem nts_reps (xs : List Int) : Reps K C av H (nts xs) (xs.map V.int) := by
  induction xs with
  | nil => exact Reps.nil
  | cons x xs ih => exact Reps.cons .int ih
theorem reps_bls {xs : List Bool} : ∀ {vs : List V}, Reps K C av H (xs.map D.bl) vs → vs = xs.map V.bl := by
  induction xs with
  | nil => intro vs r; exact r.unnil
  | cons x xs ih =>
    intro vs r
    obtain ⟨v, vs', rfl, q, r'⟩ := r.uncons
    cases q
    rw [ih r']
    rfl
end

/-! ### the state -/
abbrev Mu := Option (Addr × Nat × List D)
abbrev Mu.av (mu : Mu) : Option Addr := mu.map (·.1)
abbrev Rho := List (Option D)
structure EnvOk (K : PySem.W.Frag) (C : Cs) (G : Hp) (σ : L2.St) (H : Hp) (ρ : Rho) (mu : Mu) : Prop where
  ex : Ex G H
  tb : Tb C H
  at_ : ∀ (i : Nat) (d : D), ρ[i]? = some (some d) → ∃ v, σ[i]? = some (some v) ∧ Rep K C mu.av H d v
  mu : ∀ l j ds, mu = some (l, j, ds) → ρ[j]? = some none ∧ σ[j]? = some (some (.ref l)) ∧ G l = none ∧ ∃ vs, H l = some (.lst vs) ∧ Reps K C (some l) H ds vs
  len : ρ.length ≤ σ.length
section
variable {K : PySem.W.Frag} {C : Cs} {G H H' : Hp} {σ : L2.St} {ρ : Rho} {mu : Mu} {d : D} {v : V}
theorem EnvOk.mono (e : EnvOk K C G σ H ρ mu) (x : Ex H H') : EnvOk K C G σ H' ρ mu where
  ex := e.ex.trans x
  tb := e.tb.ex x
  at_ := fun i d h => let ⟨v, h1, h2⟩ := e.at_ i d h; ⟨v, h1, h2.ex x⟩
  mu := fun l j ds h => let ⟨h0, h1, h2, vs, h4, h5⟩ := e.mu l j ds h; ⟨h0, h1, h2, vs, x.at h4, h5.ex x⟩
  len := e.len
theorem EnvOk.base {G' : Hp} (e : EnvOk K C G σ H ρ mu) (x : Ex G' G) : EnvOk K C G' σ H ρ mu where
  ex := x.trans e.ex
  tb := e.tb
  at_ := e.at_
  mu := fun l j ds h => by
    obtain ⟨h0, h1, h2, vs, h4, h5⟩ := e.mu l j ds h
    refine ⟨h0, h1, ?_, vs, h4, h5⟩
    exact fresh_back x h2
  len := e.len
/-- the base grows to what stands now, without the list that may change -/
def hole (H : Hp) (mu : Mu) : Hp := fun a => if mu.av = some a then none else H a
theorem hole_at {a : Addr} (n : mu.av ≠ some a) : hole H mu a = H a := by
  unfold hole
  rw [if_neg n]
theorem hole_in {a : Addr} {o : HO} (h : hole H mu a = some o) : mu.av ≠ some a ∧ H a = some o := by
  unfold hole at h
  split at h
  · cases h
  · rename_i n
    exact ⟨n, h⟩
theorem hole_ne (e : EnvOk K C G σ H ρ mu) {a : Addr} {o : HO} (h : G a = some o) : mu.av ≠ some a := by
  intro z
  cases mu with
  | none => cases z
  | some m =>
    obtain ⟨l, j, ds⟩ := m
    have el : l = a := Option.some.inj z
    subst el
    rw [(e.mu l j ds rfl).2.2.1] at h
    cases h
theorem hole_ex (e : EnvOk K C G σ H ρ mu) : Ex G (hole H mu) where
  get := fun a o h n => (hole_at (hole_ne e h)).trans (e.ex.get a o h n)
  dom := fun a o h => let ⟨o', h'⟩ := e.ex.dom a o h; ⟨o', (hole_at (hole_ne e h)).trans h'⟩
  tab := fun a ⟨ps, h, t⟩ => let ⟨qs, h', t'⟩ := e.ex.tab a ⟨ps, h, t⟩; ⟨qs, (hole_at (hole_ne e h)).trans h', t'⟩
theorem hole_le : Ex (hole H mu) H := ⟨fun _ _ h _ => (hole_in h).2, fun _ o h => ⟨o, (hole_in h).2⟩, fun _ ⟨ps, h, t⟩ => ⟨ps, (hole_in h).2, t⟩⟩
theorem EnvOk.holed (e : EnvOk K C G σ H ρ mu) : EnvOk K C (hole H mu) σ H ρ mu where
  ex := hole_le
  tb := e.tb
  at_ := e.at_
  mu := fun l j ds h => by
    obtain ⟨h0, h1, h2, vs, h4, h5⟩ := e.mu l j ds h
    refine ⟨h0, h1, ?_, vs, h4, h5⟩
    unfold hole
    rw [if_pos (by rw [h]; rfl)]
  len := e.len
theorem EnvOk.set (e : EnvOk K C G σ H ρ mu) (i : Nat) (r : Rep K C mu.av H d v) (hi : ∀ l j ds, mu = some (l, j, ds) → j ≠ i) : EnvOk K C G (σ.set i (some v)) H (ρ.set i (some d)) mu where
  ex := e.ex
  tb := e.tb
  at_ := fun j d' h => by
    rw [List.getElem?_set] at h ⊢
    by_cases z : i = j
    · rw [if_pos z] at h ⊢
      split at h
      · rename_i hl
        rw [if_pos (Nat.lt_of_lt_of_le hl e.len)]
        have := Option.some.inj (Option.some.inj h)
        exact ⟨v, rfl, this ▸ r⟩
      · cases h
    · rw [if_neg z] at h ⊢
      exact e.at_ j d' h
  mu := fun l j ds h => by
    obtain ⟨h0, h1, h2, vs, h4, h5⟩ := e.mu l j ds h
    have ne := hi l j ds h
    refine ⟨?_, ?_, h2, vs, h4, h5⟩
    · rw [List.getElem?_set_ne ne.symm]; exact h0
    · rw [List.getElem?_set_ne ne.symm]; exact h1
  len := by simpa using e.len
/-- slots forgotten -/
theorem EnvOk.drop (e : EnvOk K C G σ H ρ mu) {ρ' : Rho} (hl : ρ'.length = ρ.length) (h : ∀ (i : Nat) (d : D), ρ'[i]? = some (some d) → ρ[i]? = some (some d)) : EnvOk K C G σ H ρ' mu where
  ex := e.ex
  tb := e.tb
  at_ := fun i d hd => e.at_ i d (h i d hd)
  mu := fun l j ds q => by
    obtain ⟨h0, h1, h2⟩ := e.mu l j ds q
    refine ⟨?_, h1, h2⟩
    cases z : ρ'[j]? with
    | none =>
      have h3 := List.getElem?_eq_none_iff.mp z
      have h4 := (List.getElem?_eq_some_iff.mp h0).1
      omega
    | some o =>
      cases o with
      | none => rfl
      | some d => have := h j d z; rw [h0] at this; cases this
  len := by rw [hl]; exact e.len
end

/-- kept data outlive the list that may change -/
theorem Rep.hole {K : PySem.W.Frag} {G H : Hp} {σ : L2.St} {ρ : Rho} {mu : Mu} {d : D} {v : V} (e : EnvOk K C G σ H ρ mu) (r : Rep K C mu.av H d v) : Rep K C none (hole H mu) d v := by
  cases mu with
  | none => exact r
  | some m =>
    obtain ⟨l, j, ds⟩ := m
    obtain ⟨_, _, _, vs, h4, _⟩ := e.mu l j ds rfl
    refine Rep.rid h4 (fun a o h n => ?_) r
    show (if _ then _ else _) = _
    exact (if_neg fun z => n (Option.some.inj z).symm).trans h
/-! ### what an expression is worth; a test; arguments -/
def EE (X : Cx) (C : Cs) (ρ : Rho) (mu : Mu) (e : Expr) (d : D) : Prop :=
  ∃ te, PE X e te ∧ ∀ G σ H, EnvOk X.K C G σ H ρ mu → ∀ Q : VK, (∀ v H2, Ex H H2 → Rep X.K C none H2 d v → Q v H2) → te σ H Q
def EB (X : Cx) (C : Cs) (ρ : Rho) (mu : Mu) (e : Expr) (b : Bool) : Prop :=
  ∃ tt, PT X e tt ∧ ∀ G σ H, EnvOk X.K C G σ H ρ mu → ∀ Q : Bool → Hp → Prop, (∀ H2, Ex H H2 → Q b H2) → tt σ H Q
def EA (X : Cx) (C : Cs) (ρ : Rho) (mu : Mu) (es : List Expr) (ds : List D) : Prop :=
  ∃ ta, PA X es ta ∧ ∀ G σ H, EnvOk X.K C G σ H ρ mu → ∀ Q : List V → Hp → Prop, (∀ vs H2, Ex H H2 → Reps X.K C none H2 ds vs → Q vs H2) → ta σ H Q
section
variable {X : Cx} {C : Cs} {ρ : Rho} {mu : Mu} {a b c e : Expr} {es : List Expr} {d d1 d2 : D} {ds : List D} {pos : Pos} {i j : Int}
theorem EE.is {d' : D} (h : EE X C ρ mu e d) (z : d = d') : EE X C ρ mu e d' := z ▸ h
theorem EB.is {b' : Bool} {b : Bool} (h : EB X C ρ mu e b) (z : b = b') : EB X C ρ mu e b' := z ▸ h
theorem ee_var (i : Nat) {x : Str} (h : ρ[i]? = some (some d) := by rfl) (hN : X.N[i]? = some x := by rfl)
    (hv : Vis X.env.scope x := by first | exact Or.inl rfl | exact Or.inr (Or.inl rfl) | exact Or.inr (Or.inr rfl)) (hd : (x == ("__debug__" : Str)) = false := by decide)
    (hcd : (x == ("__classdict__" : Str)) = false := by decide) : EE X C ρ mu (.Name x pos) d :=
  ⟨_, pe_var hN hv hd hcd, fun G σ H e Q q => let ⟨v, h1, h2⟩ := e.at_ i d h; ⟨v, h1, q v H (Ex.refl H) h2.any⟩⟩
theorem ee_int {n : Int} {k : Nat} : EE X C ρ mu (.Constant (.int n) k pos) (.int n) := ⟨_, pe_int, fun _ _ H _ _ q => q _ H (Ex.refl H) .int⟩
theorem ee_bl {n : Bool} {k : Nat} : EE X C ρ mu (.Constant (.bool n) k pos) (.bl n) := ⟨_, pe_bl, fun _ _ H _ _ q => q _ H (Ex.refl H) .bl⟩
theorem ee_non {k : Nat} : EE X C ρ mu (.Constant .none k pos) .non := ⟨_, pe_non, fun _ _ H _ _ q => q _ H (Ex.refl H) .non⟩
/-- a module's whole number -/
theorem ee_glob {x : Str} {t : Tok} {n : Int} (hm : X.mg x = some (.int n t)) (hg : Gl X x := by rfl) (hd : (x == ("__debug__" : Str)) = false := by decide) : EE X C ρ mu (.Name x pos) (.int n) :=
  ⟨_, pe_glob (v := V.int n) hg hm ⟨t, rfl⟩ hd, fun _ _ H _ _ q => q _ H (Ex.refl H) .int⟩
/-- two whole numbers -/
theorem ee_op2 {op : Operator} {Cn : Int → Int → Prop} {g : Int → Int → Int} (ho : OpR X (binaryOp op) (rI Cn fun i j => .int (g i j))) (ha : EE X C ρ mu a (.int i)) (hb : EE X C ρ mu b (.int j)) (hc : Cn i j) : EE X C ρ mu (.BinOp a op b pos) (.int (g i j)) := by
  obtain ⟨ta, pa, va⟩ := ha
  obtain ⟨tb, pb, vb⟩ := hb
  refine ⟨_, pe_op ho pa pb, fun G σ H ok Q q => va G σ H ok _ fun v1 H1 e1 r1 => vb G σ H1 (ok.mono e1) _ fun v2 H2 e2 r2 => ?_⟩
  cases r1
  cases r2
  exact ⟨i, j, rfl, rfl, hc, q _ H2 (e1.trans e2) .int⟩
theorem ee_op0 {op : Operator} {g : Int → Int → Int} (ho : OpR X (binaryOp op) (rI0 fun i j => .int (g i j))) (ha : EE X C ρ mu a (.int i)) (hb : EE X C ρ mu b (.int j)) : EE X C ρ mu (.BinOp a op b pos) (.int (g i j)) := by
  obtain ⟨ta, pa, va⟩ := ha
  obtain ⟨tb, pb, vb⟩ := hb
  refine ⟨_, pe_op ho pa pb, fun G σ H ok Q q => va G σ H ok _ fun v1 H1 e1 r1 => vb G σ H1 (ok.mono e1) _ fun v2 H2 e2 r2 => ?_⟩
  cases r1
  cases r2
  exact ⟨i, j, rfl, rfl, q _ H2 (e1.trans e2) .int⟩
theorem ee_add (ha : EE X C ρ mu a (.int i)) (hb : EE X C ρ mu b (.int j)) : EE X C ρ mu (.BinOp a .Add b pos) (.int (i + j)) := ee_op0 op_add ha hb
theorem ee_sub (ha : EE X C ρ mu a (.int i)) (hb : EE X C ρ mu b (.int j)) : EE X C ρ mu (.BinOp a .Sub b pos) (.int (i - j)) := ee_op0 op_sub ha hb
theorem ee_mul (ha : EE X C ρ mu a (.int i)) (hb : EE X C ρ mu b (.int j)) (h : CMul i j) : EE X C ρ mu (.BinOp a .Mult b pos) (.int (i * j)) := ee_op2 op_mul ha hb h
theorem ee_mod (ha : EE X C ρ mu a (.int i)) (hb : EE X C ρ mu b (.int j)) (h : 0 < j) : EE X C ρ mu (.BinOp a .Mod b pos) (.int (i % j)) := ee_op2 op_mod ha hb h
theorem ee_div (ha : EE X C ρ mu a (.int i)) (hb : EE X C ρ mu b (.int j)) (h : 0 < j ∧ j < 1073741824) : EE X C ρ mu (.BinOp a .FloorDiv b pos) (.int (i / j)) := ee_op2 op_fdiv ha hb h
theorem ee_neg (ha : EE X C ρ mu a (.int i)) : EE X C ρ mu (.UnaryOp .USub a pos) (.int (-i)) := by
  obtain ⟨ta, pa, va⟩ := ha
  refine ⟨_, pe_un un_neg pa, fun G σ H ok Q q => va G σ H ok _ fun v1 H1 e1 r1 => ?_⟩
  cases r1
  exact ⟨i, rfl, q _ H1 e1 .int⟩
/-- comparisons -/
theorem ee_cmp {op : CmpOp} {g : Int → Int → Bool} (ho : OpR X (compareOp op) (rI0 fun i j => .bl (g i j))) (ha : EE X C ρ mu a (.int i)) (hb : EE X C ρ mu b (.int j)) (hm : behindInMarks op b = false) : EE X C ρ mu (.Compare a [op] [b] pos) (.bl (g i j)) := by
  obtain ⟨ta, pa, va⟩ := ha
  obtain ⟨tb, pb, vb⟩ := hb
  refine ⟨_, pe_cmpR ho pa pb hm, fun G σ H ok Q q => va G σ H ok _ fun v1 H1 e1 r1 => vb G σ H1 (ok.mono e1) _ fun v2 H2 e2 r2 => ?_⟩
  cases r1
  cases r2
  exact ⟨i, j, rfl, rfl, q _ H2 (e1.trans e2) .bl⟩
theorem ee_lt (ha : EE X C ρ mu a (.int i)) (hb : EE X C ρ mu b (.int j)) : EE X C ρ mu (.Compare a [.Lt] [b] pos) (.bl (decide (i < j))) := ee_cmp op_lt ha hb (nomark _)
theorem ee_le (ha : EE X C ρ mu a (.int i)) (hb : EE X C ρ mu b (.int j)) : EE X C ρ mu (.Compare a [.LtE] [b] pos) (.bl (decide (i ≤ j))) := ee_cmp op_le ha hb (nomark _)
theorem ee_gt (ha : EE X C ρ mu a (.int i)) (hb : EE X C ρ mu b (.int j)) : EE X C ρ mu (.Compare a [.Gt] [b] pos) (.bl (decide (j < i))) := ee_cmp op_gt ha hb (nomark _)
theorem ee_ge (ha : EE X C ρ mu a (.int i)) (hb : EE X C ρ mu b (.int j)) : EE X C ρ mu (.Compare a [.GtE] [b] pos) (.bl (decide (j ≤ i))) := ee_cmp op_ge ha hb (nomark _)
theorem ee_eqI (ha : EE X C ρ mu a (.int i)) (hb : EE X C ρ mu b (.int j)) : EE X C ρ mu (.Compare a [.Eq] [b] pos) (.bl (decide (i = j))) := by
  obtain ⟨ta, pa, va⟩ := ha
  obtain ⟨tb, pb, vb⟩ := hb
  refine ⟨_, pe_cmpR op_eq pa pb (nomark _), fun G σ H ok Q q => va G σ H ok _ fun v1 H1 e1 r1 => vb G σ H1 (ok.mono e1) _ fun v2 H2 e2 r2 => ?_⟩
  cases r1
  cases r2
  refine ⟨rfl, ?_⟩
  rw [show decide (V.int i = V.int j) = decide (i = j) from decide_eq_decide.mpr ⟨fun z => V.int.inj z, fun z => z ▸ rfl⟩]
  exact q _ H2 (e1.trans e2) .bl
theorem ee_neI (ha : EE X C ρ mu a (.int i)) (hb : EE X C ρ mu b (.int j)) : EE X C ρ mu (.Compare a [.NotEq] [b] pos) (.bl (!decide (i = j))) := by
  obtain ⟨ta, pa, va⟩ := ha
  obtain ⟨tb, pb, vb⟩ := hb
  refine ⟨_, pe_cmpR op_ne pa pb (nomark _), fun G σ H ok Q q => va G σ H ok _ fun v1 H1 e1 r1 => vb G σ H1 (ok.mono e1) _ fun v2 H2 e2 r2 => ?_⟩
  cases r1
  cases r2
  refine ⟨rfl, ?_⟩
  rw [show decide (V.int i = V.int j) = decide (i = j) from decide_eq_decide.mpr ⟨fun z => V.int.inj z, fun z => z ▸ rfl⟩]
  exact q _ H2 (e1.trans e2) .bl
theorem ee_eqB {p r : Bool} (ha : EE X C ρ mu a (.bl p)) (hb : EE X C ρ mu b (.bl r)) : EE X C ρ mu (.Compare a [.Eq] [b] pos) (.bl (decide (p = r))) := by
  obtain ⟨ta, pa, va⟩ := ha
  obtain ⟨tb, pb, vb⟩ := hb
  refine ⟨_, pe_cmpR op_eq pa pb (nomark _), fun G σ H ok Q q => va G σ H ok _ fun v1 H1 e1 r1 => vb G σ H1 (ok.mono e1) _ fun v2 H2 e2 r2 => ?_⟩
  cases r1
  cases r2
  refine ⟨rfl, ?_⟩
  rw [show decide (V.bl p = V.bl r) = decide (p = r) from decide_eq_decide.mpr ⟨fun z => V.bl.inj z, fun z => z ▸ rfl⟩]
  exact q _ H2 (e1.trans e2) .bl
theorem ee_neB {p r : Bool} (ha : EE X C ρ mu a (.bl p)) (hb : EE X C ρ mu b (.bl r)) : EE X C ρ mu (.Compare a [.NotEq] [b] pos) (.bl (!decide (p = r))) := by
  obtain ⟨ta, pa, va⟩ := ha
  obtain ⟨tb, pb, vb⟩ := hb
  refine ⟨_, pe_cmpR op_ne pa pb (nomark _), fun G σ H ok Q q => va G σ H ok _ fun v1 H1 e1 r1 => vb G σ H1 (ok.mono e1) _ fun v2 H2 e2 r2 => ?_⟩
  cases r1
  cases r2
  refine ⟨rfl, ?_⟩
  rw [show decide (V.bl p = V.bl r) = decide (p = r) from decide_eq_decide.mpr ⟨fun z => V.bl.inj z, fun z => z ▸ rfl⟩]
  exact q _ H2 (e1.trans e2) .bl
/-- least <= value <= most -/
theorem ee_chain {k : Int} (ha : EE X C ρ mu a (.int i)) (hb : EE X C ρ mu b (.int j)) (hc : EE X C ρ mu c (.int k)) (hm : lastMarks [CmpOp.LtE, CmpOp.LtE] [b, c] = false := by rfl) : EE X C ρ mu (.Compare a [.LtE, .LtE] [b, c] pos) (.bl (decide (i ≤ j) && decide (j ≤ k))) := by
  obtain ⟨ta, pa, va⟩ := ha
  obtain ⟨tb, pb, vb⟩ := hb
  obtain ⟨tc, pc, vc⟩ := hc
  refine ⟨_, pe_chain op_le op_le pa pb pc hm, fun G σ H ok Q q => va G σ H ok _ fun v1 H1 e1 r1 => vb G σ H1 (ok.mono e1) _ fun v2 H2 e2 r2 => ?_⟩
  cases r1
  cases r2
  refine ⟨i, j, rfl, rfl, decide (i ≤ j), rfl, ?_⟩
  by_cases h : i ≤ j
  · rw [decide_eq_true h]
    show tc σ H2 _
    refine vc G σ H2 ((ok.mono e1).mono e2) _ fun v3 H3 e3 r3 => ?_
    cases r3
    refine ⟨j, k, rfl, rfl, ?_⟩
    have := q (.bl (decide (j ≤ k))) H3 ((e1.trans e2).trans e3)
    rw [decide_eq_true h, Bool.true_and] at this
    exact this .bl
  · rw [decide_eq_false h]
    show Q (.bl false) H2
    have := q (.bl false) H2 (e1.trans e2)
    rw [decide_eq_false h, Bool.false_and] at this
    exact this .bl
/-- truth values -/
theorem ee_one {op} {d : D} (ha : EE X C ρ mu a d) : EE X C ρ mu (.BoolOp op [a] pos) d := by
  obtain ⟨ta, pa, va⟩ := ha
  exact ⟨_, pe_one pa, va⟩
theorem pe_no (e : Expr) : PE X e (fun _ _ _ => False) := ⟨fun _ _ _ _ _ _ h => h.elim⟩
theorem pt_no (e : Expr) : PT X e (fun _ _ _ => False) := ⟨fun _ _ _ _ _ _ h => h.elim⟩
theorem pw_no (e : Expr) : PW X e (fun _ _ _ => False) := ⟨fun _ _ _ _ _ _ _ h => h.elim⟩
theorem ee_and {p r : Bool} (ha : EE X C ρ mu a (.bl p)) (hb : p = true → EE X C ρ mu (.BoolOp .And (b :: es) pos) (.bl r)) : EE X C ρ mu (.BoolOp .And (a :: b :: es) pos) (.bl (p && r)) := by
  obtain ⟨ta, pa, va⟩ := ha
  cases p with
  | true =>
    obtain ⟨tb, pb, vb⟩ := hb rfl
    refine ⟨_, pe_and pa pb, fun G σ H ok Q q => va G σ H ok _ fun v1 H1 e1 r1 => ?_⟩
    cases r1
    exact ⟨true, rfl, vb G σ H1 (ok.mono e1) Q fun v H2 e2 r2 => q v H2 (e1.trans e2) r2⟩
  | false =>
    refine ⟨_, pe_and pa (pe_no _), fun G σ H ok Q q => va G σ H ok _ fun v1 H1 e1 r1 => ?_⟩
    cases r1
    exact ⟨false, rfl, q _ H1 e1 .bl⟩
theorem ee_or {p r : Bool} (ha : EE X C ρ mu a (.bl p)) (hb : p = false → EE X C ρ mu (.BoolOp .Or (b :: es) pos) (.bl r)) : EE X C ρ mu (.BoolOp .Or (a :: b :: es) pos) (.bl (p || r)) := by
  obtain ⟨ta, pa, va⟩ := ha
  cases p with
  | false =>
    obtain ⟨tb, pb, vb⟩ := hb rfl
    refine ⟨_, pe_or pa pb, fun G σ H ok Q q => va G σ H ok _ fun v1 H1 e1 r1 => ?_⟩
    cases r1
    exact ⟨false, rfl, vb G σ H1 (ok.mono e1) Q fun v H2 e2 r2 => q v H2 (e1.trans e2) r2⟩
  | true =>
    refine ⟨_, pe_or pa (pe_no _), fun G σ H ok Q q => va G σ H ok _ fun v1 H1 e1 r1 => ?_⟩
    cases r1
    exact ⟨true, rfl, q _ H1 e1 .bl⟩
theorem ee_not {p : Bool} (ha : EE X C ρ mu a (.bl p)) : EE X C ρ mu (.UnaryOp .Not a pos) (.bl (!p)) := by
  obtain ⟨ta, pa, va⟩ := ha
  refine ⟨_, pe_not pa, fun G σ H ok Q q => va G σ H ok _ fun v1 H1 e1 r1 => ?_⟩
  cases r1
  exact ⟨p, rfl, q _ H1 e1 .bl⟩
/-- tests -/
theorem eb_val {p : Bool} (ha : EE X C ρ mu a (.bl p)) (he : ∀ whole, isTrue a X.env whole = (do let v ← whole; standAt a.pos; holding [v] (truthy v)) := by intro _; rfl) : EB X C ρ mu a p := by
  obtain ⟨ta, pa, va⟩ := ha
  refine ⟨_, pt_val pa he, fun G σ H ok Q q => va G σ H ok _ fun v1 H1 e1 r1 => ?_⟩
  cases r1
  exact ⟨p, rfl, q H1 e1⟩
/-- a chain of and, or as a test -/
def EW (X : Cx) (C : Cs) (ρ : Rho) (mu : Mu) (e : Expr) (b : Bool) : Prop :=
  ∃ tt, PW X e tt ∧ ∀ G σ H, EnvOk X.K C G σ H ρ mu → ∀ Q : Bool → Hp → Prop, (∀ H2, Ex H H2 → Q b H2) → tt σ H Q
theorem eb_w {p : Bool} (h : EW X C ρ mu a p) : EB X C ρ mu a p := let ⟨t, pw, v⟩ := h; ⟨t, pw.pt, v⟩
theorem ew_and1 {p : Bool} (h : EB X C ρ mu a p) : EW X C ρ mu (.BoolOp .And [a] pos) p := let ⟨t, pw, v⟩ := h; ⟨t, pw_and1 pw, v⟩
theorem ew_or1 {p : Bool} (h : EB X C ρ mu a p) : EW X C ρ mu (.BoolOp .Or [a] pos) p := let ⟨t, pw, v⟩ := h; ⟨t, pw_or1 pw, v⟩
theorem ew_and {p r : Bool} (ha : EB X C ρ mu a p) (hb : p = true → EW X C ρ mu (.BoolOp .And (b :: es) pos) r) : EW X C ρ mu (.BoolOp .And (a :: b :: es) pos) (p && r) := by
  obtain ⟨ta, pa, va⟩ := ha
  cases p with
  | true =>
    obtain ⟨tb, pb, vb⟩ := hb rfl
    exact ⟨_, pw_and pa pb, fun G σ H ok Q q => va G σ H ok _ fun H1 e1 => vb G σ H1 (ok.mono e1) Q fun H2 e2 => q H2 (e1.trans e2)⟩
  | false => exact ⟨_, pw_and pa (pw_no _), fun G σ H ok Q q => va G σ H ok _ fun H1 e1 => q H1 e1⟩
theorem ew_or {p r : Bool} (ha : EB X C ρ mu a p) (hb : p = false → EW X C ρ mu (.BoolOp .Or (b :: es) pos) r) : EW X C ρ mu (.BoolOp .Or (a :: b :: es) pos) (p || r) := by
  obtain ⟨ta, pa, va⟩ := ha
  cases p with
  | false =>
    obtain ⟨tb, pb, vb⟩ := hb rfl
    exact ⟨_, pw_or pa pb, fun G σ H ok Q q => va G σ H ok _ fun H1 e1 => vb G σ H1 (ok.mono e1) Q fun H2 e2 => q H2 (e1.trans e2)⟩
  | true => exact ⟨_, pw_or pa (pw_no _), fun G σ H ok Q q => va G σ H ok _ fun H1 e1 => q H1 e1⟩
theorem eb_not {p : Bool} (ha : EB X C ρ mu a p) : EB X C ρ mu (.UnaryOp .Not a pos) (!p) := by
  obtain ⟨ta, pa, va⟩ := ha
  exact ⟨_, pt_not pa, fun G σ H ok Q q => va G σ H ok _ fun H1 e1 => q H1 e1⟩
/-- a if t else b -/
theorem ee_if {p : Bool} {d : D} (h : EB X C ρ mu c p) (ha : p = true → EE X C ρ mu a d) (hb : p = false → EE X C ρ mu b d) : EE X C ρ mu (.IfExp c a b pos) d := by
  obtain ⟨tc, pc, vc⟩ := h
  cases p with
  | true =>
    obtain ⟨ta, pa, va⟩ := ha rfl
    exact ⟨_, pe_ifExp pc pa (pe_no _), fun G σ H ok Q q => vc G σ H ok _ fun H1 e1 => va G σ H1 (ok.mono e1) Q fun v H2 e2 r => q v H2 (e1.trans e2) r⟩
  | false =>
    obtain ⟨tb, pb, vb⟩ := hb rfl
    exact ⟨_, pe_ifExp pc (pe_no _) pb, fun G σ H ok Q q => vc G σ H ok _ fun H1 e1 => vb G σ H1 (ok.mono e1) Q fun v H2 e2 r => q v H2 (e1.trans e2) r⟩
/-- argument lists, displays -/
theorem ea_no : EA X C ρ mu [] [] := ⟨_, pa_nil, fun G σ H ok Q q => q [] H (Ex.refl H) Reps.nil⟩
theorem ea_c (he : EE X C ρ mu e d) (hr : EA X C ρ mu es ds) (hs : starEach (e :: es) X.env = (false, eval e X.env) :: starEach es X.env := by rfl) : EA X C ρ mu (e :: es) (d :: ds) := by
  obtain ⟨te, pe, ve⟩ := he
  obtain ⟨tr, pr, vr⟩ := hr
  refine ⟨_, pa_cons pe pr hs, fun G σ H ok Q q => ve G σ H ok _ fun v H1 e1 r1 => vr G σ H1 (ok.mono e1) _ fun vs H2 e2 r2 => ?_⟩
  exact q (v :: vs) H2 (e1.trans e2) (Reps.cons (r1.ex e2) r2)
/-- *x, .. -/
theorem ea_star {xs : List D} (he : EE X C ρ mu e (.tup xs)) (hr : EA X C ρ mu es ds) (hs : starEach (.Starred e pos :: es) X.env = (true, eval e X.env) :: starEach es X.env := by rfl) : EA X C ρ mu (.Starred e pos :: es) (xs ++ ds) := by
  obtain ⟨te, pe, ve⟩ := he
  obtain ⟨tr, pr, vr⟩ := hr
  refine ⟨_, StX.pa_star pe pr hs, fun G σ H ok Q q => ve G σ H ok _ fun v H1 e1 r1 => ?_⟩
  cases r1 with
  | @tup a vs _ h l at_ =>
    refine ⟨a, vs, rfl, .inl h, vr G σ H1 (ok.mono e1) _ fun ws H2 e2 r2 => ?_⟩
    exact q _ H2 (e1.trans e2) (Reps.app (Reps.ex e2 ⟨l, at_⟩) r2)
theorem szl {n : Nat} (h : n ≤ 1000) : n ≤ sizeLine := Nat.le_trans h (by decide)
theorem ee_tup {x1} (h : EA X C ρ mu es ds) (hl : ds.length ≤ 1000) : EE X C ρ mu (.Tuple es x1 pos) (.tup ds) := by
  obtain ⟨ta, pa, va⟩ := h
  refine ⟨_, pe_tup pa, fun G σ H ok Q q => va G σ H ok _ fun vs H1 e1 r => ⟨by rw [← r.len]; exact szl hl, fun p hp => ?_⟩⟩
  exact q _ _ (e1.trans (Ex.new hp)) (.tup (SqT.of upd_same) r.len (r.ex (Ex.new hp)).at_)
theorem ee_lst (h : EA X C ρ mu es ds) (hl : ds.length ≤ 1000) : EE X C ρ mu (.List es pos) (.lst ds) := by
  obtain ⟨ta, pa, va⟩ := h
  refine ⟨_, pe_lst pa, fun G σ H ok Q q => va G σ H ok _ fun vs H1 e1 r => ⟨by rw [← r.len]; exact szl hl, fun p hp => ?_⟩⟩
  exact q _ _ (e1.trans (Ex.new hp)) (.lst (fun z => nomatch z) (.inl upd_same) r.len (r.ex (Ex.new hp)).at_)
/-- t[i], xs[i] -/
theorem ee_ixT (ha : EE X C ρ mu a (.tup ds)) (hb : EE X C ρ mu b (.int i)) (h : atI ds i = some d) (hs : PlainIx b := by exact fun _ _ => rfl) : EE X C ρ mu (.Subscript a b pos) d := by
  obtain ⟨ta, pa, va⟩ := ha
  obtain ⟨tb, pb, vb⟩ := hb
  refine ⟨_, pe_ix ix_tup pa pb hs, fun G σ H ok Q q => va G σ H ok _ fun v1 H1 e1 r1 => vb G σ H1 (ok.mono e1) _ fun v2 H2 e2 r2 => ?_⟩
  cases r2
  cases r1 with
  | @tup p vs _ hq l at_ =>
    obtain ⟨v, hv, rv⟩ := Reps.atI (Reps.ex e2 ⟨l, at_⟩) h
    exact ⟨p, vs, i, v, rfl, rfl, ex_t e2 hq, hv, q v H2 (e1.trans e2) rv⟩
theorem ee_ixL (ha : EE X C ρ mu a (.lst ds)) (hb : EE X C ρ mu b (.int i)) (h : atI ds i = some d) (hs : PlainIx b := by exact fun _ _ => rfl) : EE X C ρ mu (.Subscript a b pos) d := by
  obtain ⟨ta, pa, va⟩ := ha
  obtain ⟨tb, pb, vb⟩ := hb
  refine ⟨_, pe_ix ix_list pa pb hs, fun G σ H ok Q q => va G σ H ok _ fun v1 H1 e1 r1 => vb G σ H1 (ok.mono e1) _ fun v2 H2 e2 r2 => ?_⟩
  cases r2
  cases r1 with
  | @lst p vs _ n hq l at_ =>
    obtain ⟨v, hv, rv⟩ := Reps.atI (Reps.ex e2 ⟨l, at_⟩) h
    exact ⟨p, vs, i, v, rfl, rfl, .inl (ex_rd e2 hq), hv, q v H2 (e1.trans e2) rv⟩
end
end Dd
set_option maxHeartbeats 2000000
/-! The layer of data: built-ins, slices, equality, statements, defs. -/
namespace Dd
open PySem PySem.Spec PyProof.Rows L2 Evl
section
variable {X : Cx} {C : Cs} {ρ : Rho} {mu : Mu} {a b c e : Expr} {es : List Expr} {d d1 d2 : D} {ds : List D} {pos p : Pos} {i j : Int} {xs : List Int}
/-- a built-in, by what it makes of data -/
theorem ee_callB {x : Str} {id : String} {r : List V → Hp → VK → Prop} (hc : CallR X (.builtin id) r) (hm : X.mg x = none) (hv : bootBuiltins x = some (.builtin id)) (hn : x ≠ "__name__") (hdb : (x == ("__debug__" : Str)) = false)
    (ha : EA X C ρ mu (e :: es) ds) (hr : ∀ vs H, Reps X.K C none H ds vs → ∀ Q : VK, (∀ v H2, Ex H H2 → Rep X.K C none H2 d v → Q v H2) → r vs H Q) (hg : Gl X x)
    (he : starEach (e :: es) X.env = (false, eval e X.env) :: starEach es X.env) (hpl : (backTo pos (starEach es X.env)).any (·.1) = false) : EE X C ρ mu (.Call (.Name x p) (e :: es) [] pos) d := by
  obtain ⟨ta, pa, va⟩ := ha
  exact ⟨_, pe_callB hc hg hm hv pa hn hdb he hpl, fun G σ H ok Q q => va G σ H ok _ fun vs H1 e1 r1 => hr vs H1 r1 Q fun v H2 e2 r2 => q v H2 (e1.trans e2) r2⟩
theorem ee_callTy {x : Str} {T : String} {r : List V → Hp → VK → Prop} (hc : CallR X (.type T) r) (hm : X.mg x = none) (hv : bootBuiltins x = some (.type T)) (hn : x ≠ "__name__") (hdb : (x == ("__debug__" : Str)) = false)
    (ha : EA X C ρ mu (e :: es) ds) (hr : ∀ vs H, Reps X.K C none H ds vs → ∀ Q : VK, (∀ v H2, Ex H H2 → Rep X.K C none H2 d v → Q v H2) → r vs H Q) (hg : Gl X x)
    (he : starEach (e :: es) X.env = (false, eval e X.env) :: starEach es X.env) (hpl : (backTo pos (starEach es X.env)).any (·.1) = false) : EE X C ρ mu (.Call (.Name x p) (e :: es) [] pos) d := by
  obtain ⟨ta, pa, va⟩ := ha
  exact ⟨_, pe_callTy hc hg hm hv pa hn hdb he hpl, fun G σ H ok Q q => va G σ H ok _ fun vs H1 e1 r1 => hr vs H1 r1 Q fun v H2 e2 r2 => q v H2 (e1.trans e2) r2⟩
section
variable {K : PySem.W.Frag} {av : Option Addr} {H : Hp} {vs : List V}
theorem Reps.one (r : Reps K C av H [d] vs) : ∃ v, vs = [v] ∧ Rep K C av H d v := by
  obtain ⟨v, vs', rfl, q, r'⟩ := r.uncons
  rw [r'.unnil]
  exact ⟨v, rfl, q⟩
theorem Reps.two (r : Reps K C av H [d1, d2] vs) : ∃ v w, vs = [v, w] ∧ Rep K C av H d1 v ∧ Rep K C av H d2 w := by
  obtain ⟨v, vs', rfl, q, r'⟩ := r.uncons
  obtain ⟨w, rfl, q'⟩ := r'.one
  exact ⟨v, w, rfl, q, q'⟩
theorem Rep.tupI {v : V} (r : Rep K C av H (it xs) v) : ∃ a, v = .ref a ∧ SqT K H a (xs.map V.int) := by
  cases r with
  | @tup a ws _ h l at_ =>
    have e := reps_nts (xs := xs) ⟨l, at_⟩
    subst e
    exact ⟨a, rfl, h⟩
theorem Rep.lstI {v : V} (r : Rep K C av H (il xs) v) : ∃ a, v = .ref a ∧ av ≠ some a ∧ Rd H a (.lst (xs.map V.int)) := by
  cases r with
  | @lst a ws _ n h l at_ =>
    have e := reps_nts (xs := xs) ⟨l, at_⟩
    subst e
    exact ⟨a, rfl, n, h⟩
theorem Rep.ofI {a : Addr} (h : SqT K H a (xs.map V.int)) : Rep K C av H (it xs) (.ref a) := .tup h (by simp) (nts_reps xs).at_
theorem Rep.ofL {a : Addr} (n : av ≠ some a) (h : Rd H a (.lst (xs.map V.int))) : Rep K C av H (il xs) (.ref a) := .lst n h (by simp) (nts_reps xs).at_
end
variable {hgl : True}
theorem ee_lenT (hm : X.mg "len" = none) (ha : EE X C ρ mu e (.tup ds)) (hg : Gl X "len" := by rfl) (he : starEach [e] X.env = (false, eval e X.env) :: starEach [] X.env := by rfl) (hpl : (backTo pos (starEach [] X.env)).any (·.1) = false := by rfl) :
    EE X C ρ mu (.Call (.Name "len" p) [e] [] pos) (.int ds.length) :=
  ee_callB call_len_seq hm PySem.boot_len (by decide) (by decide) (ea_c ha ea_no he) (fun vs H r0 Q q => by
    obtain ⟨v, rfl, r⟩ := r0.one
    cases r with
    | @tup a ws _ h l at_ =>
      refine ⟨a, ws, rfl, .inr h, ?_⟩
      rw [← l]
      exact q _ H (Ex.refl H) .int) hg he hpl
theorem ee_lenL (hm : X.mg "len" = none) (ha : EE X C ρ mu e (.lst ds)) (hg : Gl X "len" := by rfl) (he : starEach [e] X.env = (false, eval e X.env) :: starEach [] X.env := by rfl) (hpl : (backTo pos (starEach [] X.env)).any (·.1) = false := by rfl) :
    EE X C ρ mu (.Call (.Name "len" p) [e] [] pos) (.int ds.length) :=
  ee_callB call_len_seq hm PySem.boot_len (by decide) (by decide) (ea_c ha ea_no he) (fun vs H r0 Q q => by
    obtain ⟨v, rfl, r⟩ := r0.one
    cases r with
    | @lst a ws _ n h l at_ =>
      refine ⟨a, ws, rfl, .inl (.inl h), ?_⟩
      rw [← l]
      exact q _ H (Ex.refl H) .int) hg he hpl
theorem ee_abs (hm : X.mg "abs" = none) (ha : EE X C ρ mu e (.int i)) (hg : Gl X "abs" := by rfl) (he : starEach [e] X.env = (false, eval e X.env) :: starEach [] X.env := by rfl) (hpl : (backTo pos (starEach [] X.env)).any (·.1) = false := by rfl) :
    EE X C ρ mu (.Call (.Name "abs" p) [e] [] pos) (.int (if i < 0 then -i else i)) :=
  ee_callB call_abs hm (by decide +kernel) (by decide) (by decide) (ea_c ha ea_no he) (fun vs H r0 Q q => by
    obtain ⟨v, rfl, r⟩ := r0.one
    cases r
    exact ⟨i, rfl, q _ H (Ex.refl H) .int⟩) hg he hpl
theorem ee_intI (hm : X.mg "int" = none) (ha : EE X C ρ mu e (.int i)) (hg : Gl X "int" := by rfl) (he : starEach [e] X.env = (false, eval e X.env) :: starEach [] X.env := by rfl) (hpl : (backTo pos (starEach [] X.env)).any (·.1) = false := by rfl) :
    EE X C ρ mu (.Call (.Name "int" p) [e] [] pos) (.int i) :=
  ee_callTy call_int1 hm (by decide +kernel) (by decide) (by decide) (ea_c ha ea_no he) (fun vs H r0 Q q => by
    obtain ⟨v, rfl, r⟩ := r0.one
    cases r
    exact .inl ⟨i, rfl, q _ H (Ex.refl H) .int⟩) hg he hpl
theorem ee_intB {t : Bool} (hm : X.mg "int" = none) (ha : EE X C ρ mu e (.bl t)) (hg : Gl X "int" := by rfl) (he : starEach [e] X.env = (false, eval e X.env) :: starEach [] X.env := by rfl) (hpl : (backTo pos (starEach [] X.env)).any (·.1) = false := by rfl) :
    EE X C ρ mu (.Call (.Name "int" p) [e] [] pos) (.int (if t then 1 else 0)) :=
  ee_callTy call_int1 hm (by decide +kernel) (by decide) (by decide) (ea_c ha ea_no he) (fun vs H r0 Q q => by
    obtain ⟨v, rfl, r⟩ := r0.one
    cases r
    exact .inr ⟨t, rfl, q _ H (Ex.refl H) .int⟩) hg he hpl
theorem ee_max2 (hm : X.mg "max" = none) (ha : EE X C ρ mu a (.int i)) (hb : EE X C ρ mu b (.int j)) (hc : X.calm = true := by rfl) (hg : Gl X "max" := by rfl) (he : starEach [a, b] X.env = (false, eval a X.env) :: starEach [b] X.env := by rfl)
    (he2 : starEach [b] X.env = (false, eval b X.env) :: starEach [] X.env := by rfl) (hpl : (backTo pos (starEach [b] X.env)).any (·.1) = false := by rfl) : EE X C ρ mu (.Call (.Name "max" p) [a, b] [] pos) (.int (max i j)) :=
  ee_callB (call_max2 hc) hm (by decide +kernel) (by decide) (by decide) (ea_c ha (ea_c hb ea_no he2) he) (fun vs H r0 Q q => by
    obtain ⟨v, w, rfl, r, r'⟩ := r0.two
    cases r
    cases r'
    refine ⟨i, j, rfl, ?_⟩
    rw [show (if j > i then j else i) = max i j by omega]
    exact q _ H (Ex.refl H) .int) hg he hpl
theorem ee_min2 (hm : X.mg "min" = none) (ha : EE X C ρ mu a (.int i)) (hb : EE X C ρ mu b (.int j)) (hc : X.calm = true := by rfl) (hg : Gl X "min" := by rfl) (he : starEach [a, b] X.env = (false, eval a X.env) :: starEach [b] X.env := by rfl)
    (he2 : starEach [b] X.env = (false, eval b X.env) :: starEach [] X.env := by rfl) (hpl : (backTo pos (starEach [b] X.env)).any (·.1) = false := by rfl) : EE X C ρ mu (.Call (.Name "min" p) [a, b] [] pos) (.int (min i j)) :=
  ee_callB (call_min2 hc) hm (by decide +kernel) (by decide) (by decide) (ea_c ha (ea_c hb ea_no he2) he) (fun vs H r0 Q q => by
    obtain ⟨v, w, rfl, r, r'⟩ := r0.two
    cases r
    cases r'
    refine ⟨i, j, rfl, ?_⟩
    rw [show (if j < i then j else i) = min i j by omega]
    exact q _ H (Ex.refl H) .int) hg he hpl
theorem ee_sumL (hm : X.mg "sum" = none) (ha : EE X C ρ mu e (il xs)) (hc : X.calm = true := by rfl) (hg : Gl X "sum" := by rfl) (he : starEach [e] X.env = (false, eval e X.env) :: starEach [] X.env := by rfl) (hpl : (backTo pos (starEach [] X.env)).any (·.1) = false := by rfl) :
    EE X C ρ mu (.Call (.Name "sum" p) [e] [] pos) (.int xs.sum) :=
  ee_callB (cr_sum hc) hm (by decide +kernel) (by decide) (by decide) (ea_c ha ea_no he) (fun vs H r0 Q q => by
    obtain ⟨v, rfl, r⟩ := r0.one
    obtain ⟨a, rfl, _, h⟩ := r.lstI
    exact ⟨a, xs, rfl, .inl h, q _ H (Ex.refl H) .int⟩) hg he hpl
theorem ee_maxL {m : Int} (hm : X.mg "max" = none) (ha : EE X C ρ mu e (il xs)) (hne : 0 < xs.length) (hmx : ∀ y, y ∈ xs → (∀ z, z ∈ xs → z ≤ y) → y = m) (hc : X.calm = true := by rfl) (hg : Gl X "max" := by rfl) (he : starEach [e] X.env = (false, eval e X.env) :: starEach [] X.env := by rfl) (hpl : (backTo pos (starEach [] X.env)).any (·.1) = false := by rfl) :
    EE X C ρ mu (.Call (.Name "max" p) [e] [] pos) (.int m) :=
  ee_callB (cr_max hc) hm (by decide +kernel) (by decide) (by decide) (ea_c ha ea_no he) (fun vs H r0 Q q => by
    obtain ⟨v, rfl, r⟩ := r0.one
    obtain ⟨a, rfl, _, h⟩ := r.lstI
    exact ⟨a, xs, rfl, .inl h, hne, fun y h1 h2 => by
      rw [hmx y h1 h2]
      exact q _ H (Ex.refl H) .int⟩) hg he hpl
theorem ee_allL {bs : List Bool} (hm : X.mg "all" = none) (ha : EE X C ρ mu e (.lst (bs.map D.bl))) (hc : X.calm = true := by rfl) (hg : Gl X "all" := by rfl) (he : starEach [e] X.env = (false, eval e X.env) :: starEach [] X.env := by rfl) (hpl : (backTo pos (starEach [] X.env)).any (·.1) = false := by rfl) :
    EE X C ρ mu (.Call (.Name "all" p) [e] [] pos) (.bl (bs.all id)) :=
  ee_callB (cr_all hc) hm (by decide +kernel) (by decide) (by decide) (ea_c ha ea_no he) (fun vs H r0 Q q => by
    obtain ⟨v, rfl, r⟩ := r0.one
    cases r with
    | @lst a ws _ n h l at_ =>
      have e := reps_bls (xs := bs) ⟨l, at_⟩
      subst e
      exact ⟨a, bs, rfl, .inl h, q _ H (Ex.refl H) .bl⟩) hg he hpl
theorem ee_tuple (hm : X.mg "tuple" = none) (ha : EE X C ρ mu e (.lst ds)) (hg : Gl X "tuple" := by rfl) (he : starEach [e] X.env = (false, eval e X.env) :: starEach [] X.env := by rfl) (hpl : (backTo pos (starEach [] X.env)).any (·.1) = false := by rfl) :
    EE X C ρ mu (.Call (.Name "tuple" p) [e] [] pos) (.tup ds) :=
  ee_callTy call_tuple_of hm (by decide +kernel) (by decide) (by decide) (ea_c ha ea_no he) (fun vs H r0 Q q => by
    obtain ⟨v, rfl, r⟩ := r0.one
    cases r with
    | @lst a ws _ n h l at_ =>
      exact ⟨a, ws, rfl, .inl ⟨.inl h, fun p hp => q _ _ (Ex.new hp) (.tup (SqT.of upd_same) l (Reps.ex (Ex.new hp) ⟨l, at_⟩).at_)⟩⟩) hg he hpl
theorem ee_list (hm : X.mg "list" = none) (ha : EE X C ρ mu e (.tup ds)) (hg : Gl X "list" := by rfl) (he : starEach [e] X.env = (false, eval e X.env) :: starEach [] X.env := by rfl) (hpl : (backTo pos (starEach [] X.env)).any (·.1) = false := by rfl) :
    EE X C ρ mu (.Call (.Name "list" p) [e] [] pos) (.lst ds) :=
  ee_callTy call_list_of hm (by decide +kernel) (by decide) (by decide) (ea_c ha ea_no he) (fun vs H r0 Q q => by
    obtain ⟨v, rfl, r⟩ := r0.one
    cases r with
    | @tup a ws _ h l at_ =>
      exact ⟨a, ws, rfl, .inr h, fun p hp => q _ _ (Ex.new hp) (.lst (fun z => nomatch z) (.inl upd_same) l (Reps.ex (Ex.new hp) ⟨l, at_⟩).at_)⟩) hg he hpl
theorem ee_listL (hm : X.mg "list" = none) (ha : EE X C ρ mu e (.lst ds)) (hg : Gl X "list" := by rfl) (he : starEach [e] X.env = (false, eval e X.env) :: starEach [] X.env := by rfl) (hpl : (backTo pos (starEach [] X.env)).any (·.1) = false := by rfl) :
    EE X C ρ mu (.Call (.Name "list" p) [e] [] pos) (.lst ds) :=
  ee_callTy call_list_of hm (by decide +kernel) (by decide) (by decide) (ea_c ha ea_no he) (fun vs H r0 Q q => by
    obtain ⟨v, rfl, r⟩ := r0.one
    cases r with
    | @lst a ws _ n h l at_ =>
      exact ⟨a, ws, rfl, .inl (.inl h), fun p hp => q _ _ (Ex.new hp) (.lst (fun z => nomatch z) (.inl upd_same) l (Reps.ex (Ex.new hp) ⟨l, at_⟩).at_)⟩) hg he hpl
/-- x in a list of whole numbers -/
theorem inV_ints (i : Int) (xs : List Int) : inV (.int i) (xs.map V.int) = decide (i ∈ xs) := by
  unfold inV
  rw [List.any_map]
  induction xs with
  | nil => simp
  | cons x xs ih =>
    rw [List.any_cons, ih]
    show (eqV (.int x) (.int i) || decide (i ∈ xs)) = decide (i ∈ x :: xs)
    have e : eqV (.int x) (.int i) = decide (i = x) := by
      show (x == i) = _
      by_cases h : x = i
      · subst h; simp
      · simp [h, Ne.symm h]
    rw [e]
    by_cases h1 : i = x <;> by_cases h2 : i ∈ xs <;> simp [h1, h2]
theorem flat_ints (xs : List Int) : (xs.map V.int).all flatV = true := by
  induction xs with
  | nil => rfl
  | cons x xs ih => simpa [flatV] using ih
theorem ee_inL (ha : EE X C ρ mu a (.int i)) (hb : EE X C ρ mu b (il xs)) (hm : behindInMarks .In b = false := by rfl) : EE X C ρ mu (.Compare a [.In] [b] pos) (.bl (decide (i ∈ xs))) := by
  obtain ⟨ta, pa, va⟩ := ha
  obtain ⟨tb, pb, vb⟩ := hb
  refine ⟨_, pe_cmpR op_in_seq pa pb hm, fun G σ H ok Q q => va G σ H ok _ fun v1 H1 e1 r1 => vb G σ H1 (ok.mono e1) _ fun v2 H2 e2 r2 => ?_⟩
  cases r1
  obtain ⟨p, rfl, _, h⟩ := r2.lstI
  refine ⟨p, _, rfl, .inl (.inl h), rfl, flat_ints xs, ?_⟩
  show Q (.bl (inV (.int i) (xs.map V.int))) H2
  rw [inV_ints]
  exact q _ H2 (e1.trans e2) .bl
theorem ee_ninL (ha : EE X C ρ mu a (.int i)) (hb : EE X C ρ mu b (il xs)) (hm : behindInMarks .NotIn b = false := by rfl) : EE X C ρ mu (.Compare a [.NotIn] [b] pos) (.bl (!decide (i ∈ xs))) := by
  obtain ⟨ta, pa, va⟩ := ha
  obtain ⟨tb, pb, vb⟩ := hb
  refine ⟨_, pe_cmpR op_notIn_seq pa pb hm, fun G σ H ok Q q => va G σ H ok _ fun v1 H1 e1 r1 => vb G σ H1 (ok.mono e1) _ fun v2 H2 e2 r2 => ?_⟩
  cases r1
  obtain ⟨p, rfl, _, h⟩ := r2.lstI
  refine ⟨p, _, rfl, .inl (.inl h), rfl, flat_ints xs, ?_⟩
  show Q (.bl (!inV (.int i) (xs.map V.int))) H2
  rw [inV_ints]
  exact q _ H2 (e1.trans e2) .bl
/-- is None -/
def isNon : D → Bool
  | .non => true
  | _ => false
theorem Rep.isN {K : PySem.W.Frag} {av : Option Addr} {H : Hp} {v : V} (r : Rep K C av H d v) : decide (v = .non) = isNon d := by
  cases r <;> rfl
theorem ee_isN {k : Nat} {p' : Pos} (ha : EE X C ρ mu a d) : EE X C ρ mu (.Compare a [.Is] [.Constant .none k p'] pos) (.bl (isNon d)) := by
  obtain ⟨ta, pa, va⟩ := ha
  refine ⟨_, pe_cmp (pc_isN pa) rfl, fun G σ H ok Q q => va G σ H ok _ fun v1 H1 e1 r1 => ?_⟩
  rw [r1.isN]
  exact q _ H1 e1 .bl
theorem ee_notN {k : Nat} {p' : Pos} (ha : EE X C ρ mu a d) : EE X C ρ mu (.Compare a [.IsNot] [.Constant .none k p'] pos) (.bl (!isNon d)) := by
  obtain ⟨ta, pa, va⟩ := ha
  refine ⟨_, pe_cmp (pc_notN pa) rfl, fun G σ H ok Q q => va G σ H ok _ fun v1 H1 e1 r1 => ?_⟩
  rw [r1.isN]
  exact q _ H1 e1 .bl

/-! ### == of data -/
mutual
def pd : D → PyData
  | .int i => .int i
  | .bl b => .bool b
  | .non => .none
  | .tup ds => .tuple (pds ds)
  | .lst ds => .list (pds ds)
  | .dic _ => .none
  | .rnd _ => .none
  | .rng _ _ => .none
def pds : List D → List PyData
  | [] => []
  | d :: ds => pd d :: pds ds
end
/-- whole numbers, None, tuples and lists of them -/
inductive Pl : D → Prop where
  | int {i : Int} : Pl (.int i)
  | bl {b : Bool} : Pl (.bl b)
  | non : Pl .non
  | tup {ds : List D} : (∀ d, d ∈ ds → Pl d) → Pl (.tup ds)
  | lst {ds : List D} : (∀ d, d ∈ ds → Pl d) → Pl (.lst ds)
theorem pl_it (xs : List Int) : Pl (it xs) := .tup fun d h => by
  obtain ⟨i, _, rfl⟩ := List.mem_map.mp h
  exact .int
section
variable {K : PySem.W.Frag} {av : Option Addr} {H : Hp}
theorem dpAll_of : ∀ {ds : List D} {vs : List V}, ds.length = vs.length → (∀ (i : Nat) (d : D) (v : V), ds[i]? = some d → vs[i]? = some v → Dp K H v (pd d)) → DpAll K H vs (pds ds)
  | [], vs, l, _ => by
    rw [List.length_eq_zero_iff.mp l.symm]
    exact .nil
  | d :: ds, [], l, _ => absurd l (by simp)
  | d :: ds, v :: vs, l, h => .cons (h 0 d v rfl rfl) (dpAll_of (by simpa using l) fun i d' v' h1 h2 => h (i + 1) d' v' h1 h2)
theorem dp_of {v : V} (r : Rep K C av H d v) (h : Pl d) : Dp K H v (pd d) := by
  induction r with
  | int => exact .int _
  | bl => exact .bl _
  | non => exact .non
  | tup hs l _ ih =>
    cases h with
    | tup hh => exact .tup hs (dpAll_of l fun i d v h1 h2 => ih i d v h1 h2 (hh d (List.mem_of_getElem? h1)))
  | lst n hs l _ ih =>
    cases h with
    | lst hh => exact .lst (.inl hs) (dpAll_of l fun i d v h1 h2 => ih i d v h1 h2 (hh d (List.mem_of_getElem? h1)))
  | dic _ => cases h
  | rnd _ _ => cases h
  | rng _ => cases h
end
theorem ee_eqD {t : Bool} (hu : X.A.units + 64 < cLine) (ha : EE X C ρ mu a d1) (hb : EE X C ρ mu b d2) (p1 : Pl d1) (p2 : Pl d2) (s1 : SeqAt.shaped (pd d1) = true) (s2 : SeqAt.shaped (pd d2) = true) (ht : PyData.eqv (pd d1) (pd d2) = t) : EE X C ρ mu (.Compare a [.Eq] [b] pos) (.bl t) := by
  obtain ⟨ta, pa, va⟩ := ha
  obtain ⟨tb, pb, vb⟩ := hb
  refine ⟨_, pe_cmpR (op_eqD hu) pa pb (nomark _), fun G σ H ok Q q => va G σ H ok _ fun v1 H1 e1 r1 => vb G σ H1 (ok.mono e1) _ fun v2 H2 e2 r2 => ?_⟩
  refine ⟨_, _, dp_of (r1.ex e2) p1, dp_of r2 p2, s1, s2, ?_⟩
  rw [ht]
  exact q _ H2 (e1.trans e2) .bl
theorem ee_neD {t : Bool} (hu : X.A.units + 64 < cLine) (ha : EE X C ρ mu a d1) (hb : EE X C ρ mu b d2) (p1 : Pl d1) (p2 : Pl d2) (s1 : SeqAt.shaped (pd d1) = true) (s2 : SeqAt.shaped (pd d2) = true) (ht : PyData.eqv (pd d1) (pd d2) = t) : EE X C ρ mu (.Compare a [.NotEq] [b] pos) (.bl (!t)) := by
  obtain ⟨ta, pa, va⟩ := ha
  obtain ⟨tb, pb, vb⟩ := hb
  refine ⟨_, pe_cmpR (op_neD hu) pa pb (nomark _), fun G σ H ok Q q => va G σ H ok _ fun v1 H1 e1 r1 => vb G σ H1 (ok.mono e1) _ fun v2 H2 e2 r2 => ?_⟩
  refine ⟨_, _, dp_of (r1.ex e2) p1, dp_of r2 p2, s1, s2, ?_⟩
  rw [ht]
  exact q _ H2 (e1.trans e2) .bl
end
end Dd
set_option maxHeartbeats 2000000
/-! The layer of data: defs and their calls, statements. -/
namespace Dd
open PySem PySem.Spec PyProof.Rows L2 Evl
/-- a promise: for the data ds the answer is d -/
def spD (K : PySem.W.Frag) (C : Cs) (f : List D → D → Prop) : Sp := fun vs H Q _ => Tb C H ∧ ∃ ds d, Reps K C none H ds vs ∧ f ds d ∧ ∀ v H', Ex H H' → Rep K C none H' d v → Q v H'
/-- the def of this name keeps it -/
def Fd (P : Program) (w : World) (K : PySem.W.Frag) (mg : Str → Option Value) (base : Heap) (C : Cs) (lv : Nat) (x : Str) (f : List D → D → Prop) : Prop :=
  ∃ fa fd ps, mg x = some (.ref fa) ∧ PySem.W.keepIn K (.ref fa) = true ∧ Binds K fd ps [] ∧ FnOk P w K mg base CX0 lv fa fd ps (spD K C f)
theorem Fd.mono {P : Program} {w : World} {K : PySem.W.Frag} {mg : Str → Option Value} {base : Heap} {C : Cs} {i j : Nat} {x : Str} {f : List D → D → Prop} (F : Fd P w K mg base C i x f) (h : i ≤ j) : Fd P w K mg base C j x f :=
  let ⟨a, b, c, d, e, g, k⟩ := F; ⟨a, b, c, d, e, g, k.mono h⟩
section
variable {X : Cx} {C : Cs} {ρ : Rho} {mu : Mu} {a b c e e1 e2 : Expr} {es : List Expr} {d d1 d2 : D} {ds : List D} {pos p : Pos} {i j : Int} {xs : List Int}
theorem ee_call {lv : Nat} {x : Str} {f : List D → D → Prop} (F : Fd X.prog X.w X.K X.mg X.base C lv x f) (hr : Room lv X.A) (ha : EA X C ρ mu (e :: es) ds) (hf : f ds d) (hg : Gl X x := by rfl) (hdb : (x == ("__debug__" : Str)) = false := by decide)
    (he : starEach (e :: es) X.env = (false, eval e X.env) :: starEach es X.env := by rfl) (hpl : (backTo pos (starEach es X.env)).any (·.1) = false := by rfl) : EE X C ρ mu (.Call (.Name x p) (e :: es) [] pos) d := by
  obtain ⟨fa, fd, ps, hm, hk, hb, F⟩ := F
  obtain ⟨ta, pa, va⟩ := ha
  refine ⟨_, pe_call F hr hg hm hk hb .nil pass0 pa hdb he hpl, fun G σ H ok Q q => va G σ H ok _ fun vs H1 e1 r1 => ?_⟩
  rw [List.append_nil]
  exact ⟨ok.tb.ex e1, ds, d, r1, hf, fun v H' x r => q v H' (e1.trans x) r⟩
/-- the list that may change, read -/
theorem ee_varM {l : Addr} {j : Nat} {x : Str} (hN : X.N[j]? = some x := by rfl) (hv : Vis X.env.scope x := by first | exact Or.inl rfl | exact Or.inr (Or.inl rfl) | exact Or.inr (Or.inr rfl)) (hd : (x == ("__debug__" : Str)) = false := by decide)
    (hcd : (x == ("__classdict__" : Str)) = false := by decide) : EE X C ρ (some (l, j, ds)) (.Name x pos) (.lst ds) :=
  ⟨_, pe_var hN hv hd hcd, fun G σ H e Q q => let ⟨_, h1, _, vs, h3, h4⟩ := e.mu l j ds rfl; ⟨.ref l, h1, q _ H (Ex.refl H) (.lst (fun z => nomatch z) (.inl h3) h4.len h4.any.at_)⟩⟩
/-- a list just made -/
def EN (X : Cx) (C : Cs) (ρ : Rho) (mu : Mu) (e : Expr) (ds : List D) : Prop :=
  ∃ te, PE X e te ∧ ∀ G σ H, EnvOk X.K C G σ H ρ mu → ∀ Q : VK, (∀ p vs H2, H p = none → Ex H H2 → H2 p = some (.lst vs) → Reps X.K C none H2 ds vs → Q (.ref p) H2) → te σ H Q
theorem EN.ee (h : EN X C ρ mu e ds) : EE X C ρ mu e (.lst ds) := let ⟨te, pe, v⟩ := h; ⟨te, pe, fun G σ H ok Q q => v G σ H ok Q fun p vs H2 _ e1 h2 r => q _ H2 e1 (.lst (fun z => nomatch z) (.inl h2) r.len r.at_)⟩
theorem EN.is {ds' : List D} (h : EN X C ρ mu e ds) (z : ds = ds') : EN X C ρ mu e ds' := z ▸ h
theorem fresh_of {H H' : Hp} {p : Addr} (e : Ex H H') (h : H' p = none) : H p = none := fresh_back e h
theorem en_lst (h : EA X C ρ mu es ds) (hl : ds.length ≤ 1000) : EN X C ρ mu (.List es pos) ds := by
  obtain ⟨ta, pa, va⟩ := h
  refine ⟨_, pe_lst pa, fun G σ H ok Q q => va G σ H ok _ fun vs H1 e1 r => ⟨by rw [← r.len]; exact szl hl, fun p hp => ?_⟩⟩
  exact q p vs _ (fresh_back e1 hp) (e1.trans (Ex.new hp)) upd_same (r.ex (Ex.new hp))
theorem en_list (hm : X.mg "list" = none) (ha : EE X C ρ mu e (.tup ds)) (hg : Gl X "list" := by rfl) (he : starEach [e] X.env = (false, eval e X.env) :: starEach [] X.env := by rfl) (hpl : (backTo pos (starEach [] X.env)).any (·.1) = false := by rfl) :
    EN X C ρ mu (.Call (.Name "list" p) [e] [] pos) ds := by
  obtain ⟨ta, pa, va⟩ := ea_c ha ea_no he
  refine ⟨_, pe_callTy call_list_of hg hm (by decide +kernel) pa (by decide) (by decide) he hpl, fun G σ H ok Q q => va G σ H ok _ fun vs H1 e1 r0 => ?_⟩
  obtain ⟨v, rfl, r⟩ := r0.one
  cases r with
  | @tup a ws _ h l at_ => exact ⟨a, ws, rfl, .inr h, fun p hp => q p ws _ (fresh_back e1 hp) (e1.trans (Ex.new hp)) upd_same (Reps.ex (Ex.new hp) ⟨l, at_⟩)⟩
theorem en_listL (hm : X.mg "list" = none) (ha : EE X C ρ mu e (.lst ds)) (hg : Gl X "list" := by rfl) (he : starEach [e] X.env = (false, eval e X.env) :: starEach [] X.env := by rfl) (hpl : (backTo pos (starEach [] X.env)).any (·.1) = false := by rfl) :
    EN X C ρ mu (.Call (.Name "list" p) [e] [] pos) ds := by
  obtain ⟨ta, pa, va⟩ := ea_c ha ea_no he
  refine ⟨_, pe_callTy call_list_of hg hm (by decide +kernel) pa (by decide) (by decide) he hpl, fun G σ H ok Q q => va G σ H ok _ fun vs H1 e1 r0 => ?_⟩
  obtain ⟨v, rfl, r⟩ := r0.one
  cases r with
  | @lst a ws _ n h l at_ => exact ⟨a, ws, rfl, .inl (.inl h), fun p hp => q p ws _ (fresh_back e1 hp) (e1.trans (Ex.new hp)) upd_same (Reps.ex (Ex.new hp) ⟨l, at_⟩)⟩
/-- [0] * k -/
theorem en_zeros {n : Int} {k : Int} (ha : EN X C ρ mu a (nts [n])) (hb : EE X C ρ mu b (.int k)) (h0 : 0 ≤ k) (h1 : k ≤ 1000) : EN X C ρ mu (.BinOp a .Mult b pos) (nts (List.replicate k.toNat n)) := by
  obtain ⟨ta, pa, va⟩ := ha
  obtain ⟨tb, pb, vb⟩ := hb
  refine ⟨_, pe_op op_rep pa pb, fun G σ H ok Q q => va G σ H ok _ fun l vs H1 hl e1 h1' r1 => vb G σ H1 (ok.mono e1) _ fun v2 H2 e2 r2 => ?_⟩
  cases r2
  have ev := reps_nts r1
  subst ev
  refine ⟨l, k, _, rfl, rfl, e2.at h1', by omega, by omega, szl (by simp; omega), fun p hp => ?_⟩
  have ee : (List.replicate k.toNat (List.map V.int [n])).flatten = (List.replicate k.toNat n).map V.int := by
    rw [List.map_replicate]
    generalize k.toNat = m
    induction m with
    | zero => rfl
    | succ m ih => rw [List.replicate_succ, List.flatten_cons, ih, List.replicate_succ]; rfl
  rw [ee]
  exact q p _ _ (fresh_back (e1.trans e2) hp) ((e1.trans e2).trans (Ex.new hp)) upd_same (nts_reps _)
/-- xs[::-1] -/
theorem en_rev {k : Nat} {q1 q2 q3 : Pos} (ha : EE X C ρ mu e (.lst ds)) : EN X C ρ mu (.Subscript e (.Slice none none (some (.UnaryOp .USub (.Constant (.int 1) k q1) q2)) q3) pos) ds.reverse := by
  obtain ⟨ta, pa, va⟩ := ha
  refine ⟨_, pe_revL pa, fun G σ H ok Q q => va G σ H ok _ fun v H1 e1 r => ?_⟩
  cases r with
  | @lst a ws _ n h l at_ =>
    refine ⟨a, ws, rfl, .inl h, fun p hp => q p ws.reverse _ (fresh_back e1 hp) (e1.trans (Ex.new hp)) upd_same ?_⟩
    refine Reps.ex (Ex.new hp) ⟨by simp [l], fun i d v h1 h2 => ?_⟩
    have hi : i < ds.length := by have := (List.getElem?_eq_some_iff.mp h1).1; simpa using this
    rw [List.getElem?_reverse (by omega)] at h1
    rw [List.getElem?_reverse (by omega), ← l] at h2
    exact at_ _ d v h1 h2

/-! ### statements -/
structure DE where
  nx : Rho → Mu → Prop
  rt : D → Mu → Prop
structure Sat (K : PySem.W.Frag) (C : Cs) (G : Hp) (Dn : Ends) (E : DE) : Prop where
  nx : ∀ σ H ρ mu, EnvOk K C G σ H ρ mu → E.nx ρ mu → Dn.nx σ H
  rt : ∀ σ H ρ mu v d, EnvOk K C G σ H ρ mu → Rep K C none H d v → E.rt d mu → Dn.rt v H
def SS (X : Cx) (C : Cs) (ρ : Rho) (mu : Mu) (ss : List Stmt) (E : DE) : Prop :=
  ∃ t, PSs X ss t ∧ ∀ G σ H, EnvOk X.K C G σ H ρ mu → ∀ Dn, Sat X.K C G Dn E → t Dn σ H
def S1 (X : Cx) (C : Cs) (ρ : Rho) (mu : Mu) (s : Stmt) (E : DE) : Prop :=
  ∃ t, PS X s t ∧ ∀ G σ H, EnvOk X.K C G σ H ρ mu → ∀ Dn, Sat X.K C G Dn E → t Dn σ H
variable {E : DE} {s : Stmt} {ss body orelse : List Stmt}
theorem ss_nil (h : E.nx ρ mu) : SS X C ρ mu [] E := ⟨_, pss_nil, fun G σ H ok Dn sat => sat.nx σ H ρ mu ok h⟩
theorem ss_c (h : S1 X C ρ mu s { E with nx := fun ρ' mu' => SS X C ρ' mu' ss E }) : SS X C ρ mu (s :: ss) E := by
  obtain ⟨t, pt, vt⟩ := h
  have pu : PSs X ss (fun Dn σ H => ∃ t', PSs X ss t' ∧ t' Dn σ H) := ⟨fun pins s σ H D I ⟨t', p', q⟩ => p'.run pins s σ H D I q⟩
  refine ⟨_, pss_cons pt pu, fun G σ H ok Dn sat => vt G σ H ok _ ⟨fun σ' H' ρ' mu' ok' h' => ?_, fun σ' H' ρ' mu' v d ok' r h' => sat.rt σ' H' ρ' mu' v d ok' r h'⟩⟩
  obtain ⟨t', p', v'⟩ := h'
  exact ⟨t', p', v' G σ' H' ok' Dn sat⟩
theorem ss_1 (h : S1 X C ρ mu s E) : SS X C ρ mu [s] E := let ⟨t, pt, vt⟩ := h; ⟨t, pss_one pt, vt⟩
/-- what may be stored -/
def May (mu : Mu) (i : Nat) (d : D) : Prop := mu = none ∨ (Im d ∧ ∀ l j ds, mu = some (l, j, ds) → j ≠ i)
theorem may0 {i : Nat} : May none i d := .inl rfl
theorem mayI {l : Addr} {j i : Nat} {ds : List D} (h : Im d) (hj : j ≠ i) : May (some (l, j, ds)) i d := .inr ⟨h, fun l' j' ds' z => by cases z; exact hj⟩
theorem May.rep {K : PySem.W.Frag} {H : Hp} {i : Nat} {v : V} (h : May mu i d) (r : Rep K C none H d v) : Rep K C mu.av H d v := by
  rcases h with rfl | ⟨h, _⟩
  · exact r
  · exact r.im h _
theorem May.ne {i : Nat} (h : May mu i d) : ∀ l j ds, mu = some (l, j, ds) → j ≠ i := by
  rcases h with rfl | ⟨_, h⟩
  · intro l j ds z; cases z
  · exact h
theorem s1_set (i : Nat) {x : Str} {p' : Pos} (he : EE X C ρ mu e d) (hd : May mu i d) (h : E.nx (ρ.set i (some d)) mu) (hN : X.N.Nodup) (hi : X.N[i]? = some x := by rfl) (hx : Loc X.env.scope x := by first | exact Or.inl rfl | exact Or.inr rfl)
    (hs : swapsWith e (some (.Name x p')) pos.line X.env = pure false := by rfl) (hf : X.fn x = true ∨ X.env.scope.names.lookup x = some .local := by first | exact .inl rfl | exact .inr rfl) : S1 X C ρ mu (.Assign [.Name x p'] e pos) E := by
  obtain ⟨te, pe, ve⟩ := he
  exact ⟨_, ps_set hN hi hx pe hs hf, fun G σ H ok Dn sat => ve G σ H ok _ fun v H2 e2 r => sat.nx _ H2 _ mu ((ok.mono e2).set i (hd.rep r) hd.ne) h⟩
theorem s1_ret (he : EE X C ρ mu e d) (h : E.rt d mu) : S1 X C ρ mu (.Return (some e) pos) E := by
  obtain ⟨te, pe, ve⟩ := he
  exact ⟨_, ps_ret pe, fun G σ H ok Dn sat => ve G σ H ok _ fun v H2 e2 r => sat.rt σ H2 ρ mu v d (ok.mono e2) r h⟩
theorem s1_expr (he : EE X C ρ mu e d) (h : E.nx ρ mu) (hs : swapsWith e none pos.line X.env = pure false := by rfl) : S1 X C ρ mu (.Expr e pos) E := by
  obtain ⟨te, pe, ve⟩ := he
  exact ⟨_, ps_expr pe hs, fun G σ H ok Dn sat => ve G σ H ok _ fun v H2 e2 r => sat.nx σ H2 ρ mu (ok.mono e2) h⟩
theorem s1_if {t : Bool} (hc : EB X C ρ mu c t) (h1 : t = true → SS X C ρ mu body E) (h2 : t = false → SS X C ρ mu orelse E) : S1 X C ρ mu (.If c body orelse pos) E := by
  obtain ⟨tc, pc, vc⟩ := hc
  cases t with
  | true =>
    obtain ⟨tb, pb, vb⟩ := h1 rfl
    exact ⟨_, ps_if pc pb pss_never, fun G σ H ok Dn sat => vc G σ H ok _ fun H2 e2 => vb G σ H2 (ok.mono e2) Dn sat⟩
  | false =>
    obtain ⟨tb, pb, vb⟩ := h2 rfl
    exact ⟨_, ps_if pc pss_never pb, fun G σ H ok Dn sat => vc G σ H ok _ fun H2 e2 => vb G σ H2 (ok.mono e2) Dn sat⟩
/-- x += e -/
theorem s1_aug {op : Operator} {g : Int → Int → Int} (k : Nat) {x : Str} {p' : Pos} (ho : PIp X op (ipI g)) (hv : ρ[k]? = some (some (.int i))) (he : EE X C ρ mu e (.int j)) (hk : ∀ l j' ds, mu = some (l, j', ds) → j' ≠ k) (h : E.nx (ρ.set k (some (.int (g i j)))) mu)
    (hN : X.N.Nodup) (hi : X.N[k]? = some x) (hx : Loc X.env.scope x) (hf : X.fn x = true ∨ X.env.scope.names.lookup x = some .local) : S1 X C ρ mu (.AugAssign (.Name x p') op e pos) E := by
  obtain ⟨te, pe, ve⟩ := he
  refine ⟨_, ps_aug hN hi hx pe ho hf, fun G σ H ok Dn sat => ?_⟩
  obtain ⟨v0, h0, r0⟩ := ok.at_ k _ hv
  cases r0
  refine ⟨_, h0, ve G σ H ok _ fun v H2 e2 r => ?_⟩
  cases r
  exact ⟨i, j, rfl, rfl, sat.nx _ H2 _ mu ((ok.mono e2).set k .int hk) h⟩
theorem s1_inc (k : Nat) {x : Str} {p' : Pos} (hv : ρ[k]? = some (some (.int i))) (he : EE X C ρ mu e (.int j)) (hk : ∀ l j' ds, mu = some (l, j', ds) → j' ≠ k) (h : E.nx (ρ.set k (some (.int (i + j)))) mu)
    (hN : X.N.Nodup) (hi : X.N[k]? = some x := by rfl) (hx : Loc X.env.scope x := by first | exact Or.inl rfl | exact Or.inr rfl) (hf : X.fn x = true ∨ X.env.scope.names.lookup x = some .local := by first | exact .inl rfl | exact .inr rfl) : S1 X C ρ mu (.AugAssign (.Name x p') .Add e pos) E :=
  s1_aug k ip_add hv he hk h hN hi hx hf
theorem s1_dec (k : Nat) {x : Str} {p' : Pos} (hv : ρ[k]? = some (some (.int i))) (he : EE X C ρ mu e (.int j)) (hk : ∀ l j' ds, mu = some (l, j', ds) → j' ≠ k) (h : E.nx (ρ.set k (some (.int (i - j)))) mu)
    (hN : X.N.Nodup) (hi : X.N[k]? = some x := by rfl) (hx : Loc X.env.scope x := by first | exact Or.inl rfl | exact Or.inr rfl) (hf : X.fn x = true ∨ X.env.scope.names.lookup x = some .local := by first | exact .inl rfl | exact .inr rfl) : S1 X C ρ mu (.AugAssign (.Name x p') .Sub e pos) E :=
  s1_aug k ip_sub hv he hk h hN hi hx hf
/-- a list is made that will change -/
theorem EnvOk.new {K : PySem.W.Frag} {G H H2 : Hp} {σ : L2.St} {p : Addr} {vs : List V} (ok : EnvOk K C G σ H ρ none) (i : Nat) (hi : i < ρ.length) (hp : H p = none) (e : Ex H H2) (h2 : H2 p = some (.lst vs)) (r : Reps K C none H2 ds vs) (im : ∀ d, d ∈ ds → Im d) :
    EnvOk K C G (σ.set i (some (.ref p))) H2 (ρ.set i none) (some (p, i, ds)) where
  ex := ok.ex.trans e
  tb := ok.tb.ex e
  at_ := fun k d h => by
    rw [List.getElem?_set] at h
    by_cases z : i = k
    · rw [if_pos z] at h
      split at h <;> cases h
    · rw [if_neg z] at h
      obtain ⟨v, h1, h3⟩ := ok.at_ k d h
      exact ⟨v, by rw [List.getElem?_set_ne z]; exact h1, (h3.fresh hp).ex e⟩
  mu := fun l k ds' z => by
    cases z
    refine ⟨by rw [List.getElem?_set_self hi], by rw [List.getElem?_set_self (Nat.lt_of_lt_of_le hi ok.len)], fresh_back ok.ex hp, vs, h2, r.im im _⟩
  len := by simpa using ok.len
theorem s1_new (i : Nat) {x : Str} {p' : Pos} (he : EN X C ρ none e ds) (im : ∀ d, d ∈ ds → Im d) (hl : i < ρ.length) (h : ∀ l, E.nx (ρ.set i none) (some (l, i, ds))) (hN : X.N.Nodup) (hi : X.N[i]? = some x := by rfl) (hx : Loc X.env.scope x := by first | exact Or.inl rfl | exact Or.inr rfl)
    (hs : swapsWith e (some (.Name x p')) pos.line X.env = pure false := by rfl) (hf : X.fn x = true ∨ X.env.scope.names.lookup x = some .local := by first | exact .inl rfl | exact .inr rfl) : S1 X C ρ none (.Assign [.Name x p'] e pos) E := by
  obtain ⟨te, pe, ve⟩ := he
  exact ⟨_, ps_set hN hi hx pe hs hf, fun G σ H ok Dn sat => ve G σ H ok _ fun p vs H2 hp e2 h2 r => sat.nx _ H2 _ _ (ok.new i hl hp e2 h2 r im) (h p)⟩
/-- the list changes -/
theorem EnvOk.put {K : PySem.W.Frag} {G H : Hp} {σ : L2.St} {l : Addr} {j : Nat} {ds' : List D} {vs' : List V} (ok : EnvOk K C G σ H ρ (some (l, j, ds))) (r : Reps K C (some l) H ds' vs') : EnvOk K C G σ (upd H l (.lst vs')) ρ (some (l, j, ds')) := by
  obtain ⟨h0, h1, h2, vs, h3, h4⟩ := ok.mu l j ds rfl
  have tk : ∀ {a : Addr}, GxR.TabG H a → GxR.TabG (upd H l (.lst vs')) a := fun {a} ⟨ps, h, t⟩ => ⟨ps, by rw [upd_ne (ne_of h h3 fun z => nomatch z)]; exact h, t⟩
  refine ⟨ok.ex.mut h2, ⟨tk ok.tb.1, tk ok.tb.2⟩, fun i d h => ?_, fun l' j' ds'' z => ?_, ok.len⟩
  · obtain ⟨v, k1, k2⟩ := ok.at_ i d h
    exact ⟨v, k1, Rep.mut h3 k2⟩
  · cases z
    exact ⟨h0, h1, h2, vs', upd_same, ⟨r.len, fun i d v k1 k2 => Rep.mut h3 (r.at_ i d v k1 k2)⟩⟩
theorem s1_append {l : Addr} {k : Nat} {x : Str} {p1 p2 p3 : Pos} (he : EE X C ρ (some (l, k, ds)) e d) (im : Im d) (hz : ds.length < 1000) (h : E.nx ρ (some (l, k, ds ++ [d]))) (hN : X.N[k]? = some x := by rfl)
    (hv : Vis X.env.scope x := by first | exact Or.inl rfl | exact Or.inr (Or.inl rfl) | exact Or.inr (Or.inr rfl)) (hd : (x == ("__debug__" : Str)) = false := by decide) (hcd : (x == ("__classdict__" : Str)) = false := by decide)
    (hm : ∀ {te : TE} {ta : TA}, PE X (.Name x p1) te → PA X [e] ta → PE X (.Call (.Attribute (.Name x p1) "append" p2) [e] [] p3) (tBM X.K "list" rAppend te ta) := by exact fun h1 h2 => pe_bm PySem.F.plainAttrs_list PySem.F.slot_list_append PySem.F.type_list_append mt_append h1 h2)
    (hs1 : starEach [e] X.env = (false, eval e X.env) :: starEach [] X.env := by rfl)
    (hs : swapsWith (.Call (.Attribute (.Name x p1) "append" p2) [e] [] p3) none pos.line X.env = pure false := by rfl) : S1 X C ρ (some (l, k, ds)) (.Expr (.Call (.Attribute (.Name x p1) "append" p2) [e] [] p3) pos) E := by
  obtain ⟨ta, pa, va⟩ := ea_c he ea_no hs1
  refine ⟨_, ps_expr (hm (pe_var hN hv hd hcd) pa) hs, fun G σ H ok Dn sat => ?_⟩
  obtain ⟨h0, h1, h2, vs, h3, h4⟩ := ok.mu l k ds rfl
  refine ⟨.ref l, h1, .inl ⟨rfl, vs, .inl (.inl h3)⟩, va G σ H ok _ fun ws H2 e2 r0 => ?_⟩
  obtain ⟨v, rfl, r⟩ := r0.one
  refine ⟨l, vs, v, rfl, rfl, e2.at h3, ?_, ?_⟩
  · rw [← h4.len]
    exact Nat.lt_of_lt_of_le hz (by decide)
  · exact sat.nx σ _ ρ _ ((ok.mono e2).put (Reps.app (h4.ex e2) (Reps.cons (r.im im _) Reps.nil))) h
end
end Dd
set_option maxHeartbeats 2000000
/-! Sources of items (tuples, lists, ranges) and the pairs that enumerate and zip make of them. -/
namespace Dd
open PySem PySem.Spec PyProof.Rows L2 Evl
section
variable {prog : Program} {w : World} {A : Around} {E : Value → Shared → Prop} {s : Shared}
/-- a range's iterator drawn by a built-in -/
theorem rng_next {itr : Addr} {x left step : Int} {Q : Value → Shared → Prop} (hit : IsRangeIter s.heap itr x left step) (hl : 0 < left)
    (hQ : ∀ h', IsRangeIter h' itr (x + step) (left - 1) step → Heap.SameBut itr s.heap h' → Q (.int x s.toks) { s with heap := h', toks := s.toks + 1 }) : wpAny (model prog w) A (Builtin.SmallTypes.nextOf (.ref itr)) Q E s := by
  have hT : s.TypeIs (.ref itr) "range_iterator" := ⟨_, hit, rfl⟩
  unfold Builtin.SmallTypes.nextOf
  refine wpAny_bind (wpAny_callSpecial?_slot (name := Str.ofString "__next__") hT F.slot_range_iterator_next
    (call_meets F.slot_range_iterator_next hT F.entry_range_iterator_next (F.args_range_iterator_next_1 _) (AutoRange.range_iterator___next___range_iterator_1 itr x left step (by omega)) ⟨hit, ?_⟩))
  exact wpAny_pure (hQ _ (Heap.get?_update_self _ (Heap.get?_update_self _ hit rfl) rfl) ((Heap.SameBut.update ..).trans (Heap.SameBut.update ..)))
theorem rng_stop {itr : Addr} {x left step : Int} {Q : Value → Shared → Prop} (hh : A.handled = none) (hit : IsRangeIter s.heap itr x left step) (hl : left ≤ 0)
    (hE : ∀ h' e, Heap.ExtBut itr s.heap h' → (∃ o, h'.get? e = some o ∧ o.cls = .type "StopIteration") → E (.ref e) { s with heap := h' }) : wpAny (model prog w) A (Builtin.SmallTypes.nextOf (.ref itr)) Q E s := by
  have hT : s.TypeIs (.ref itr) "range_iterator" := ⟨_, hit, rfl⟩
  unfold Builtin.SmallTypes.nextOf
  refine wpAny_bind (wpAny_callSpecial?_slot (name := Str.ofString "__next__") hT F.slot_range_iterator_next
    (wpAny_call_entry F.slot_range_iterator_next hT F.entry_range_iterator_next ?_ (F.args_range_iterator_next_1 _)))
  show wpAny _ _ (field (.ref itr) 0 >>= _) _ _ s
  refine wpAny_bind (wpAny_field hit rfl (x := rawInt x) rfl ?_)
  show wpAny _ _ (field (.ref itr) 1 >>= _) _ _ s
  refine wpAny_bind (wpAny_field hit rfl (x := rawInt left) rfl ?_)
  show wpAny _ _ (field (.ref itr) 2 >>= _) _ _ s
  refine wpAny_bind (wpAny_field hit rfl (x := rawInt step) rfl ?_)
  show wpAny _ _ (if left ≤ 0 then _ else _) _ _ s
  rw [if_pos hl]
  refine wpAny_bind (wpAny_rule ?_)
  refine wpAny_bind ?_
  show wpAny _ _ (newExc (.type "StopIteration") [] >>= _) _ _ _
  refine wpAny_bind ?_
  simp only [newExc, newTuple]
  refine wpAny_bind (wpAny_newObj_type ?_ (by size_fits))
  refine wpAny_bind (m := firstArgMember _ _) (wpAny_of_eq (a := Value.none) (by first | rfl | (simp only [firstArgMember]; rfl)) ?_)
  refine wpAny_newObj_type ?_ (by size_fits)
  simp only [raiseNew]
  refine wpAny_bind (wpAny_handled ?_)
  rw [show A.in1.handled = none from hh]
  refine wpAny_bind (wpAny_pure (wpAny_throw ?_))
  exact hE _ _ (fun b o _ q => Heap.get?_push_of_some _ (Heap.get?_push_of_some _ q)) ⟨_, Heap.get?_push_size _ rfl, rfl⟩
end
theorem Draws.rng {prog : Program} {w : World} {A : Around} (hh : A.handled = none) (itr : Addr) (lo : Int) (n : Nat) :
    Draws prog w A itr [itr] n (fun i v => ∃ t, v = .int (lo + i) t) (fun i h => IsRangeIter h itr (lo + (i : Nat) * 1) ((n : Int) - (i : Nat)) 1) where
  live := fun _ _ st => ⟨_, st⟩
  frame := fun _ _ _ st hk => hk itr (by simp) _ st
  item := fun i s Q E hi st hQ => by
    refine rng_next st (by omega) fun h' st' sb => ?_
    refine hQ _ h' _ ⟨s.toks, by rw [Int.mul_one]⟩ ?_ sb
    have e1 : lo + ((i + 1 : Nat) : Int) * 1 = lo + (i : Int) * 1 + 1 := by push_cast; omega
    have e2 : (n : Int) - ((i + 1 : Nat) : Int) = (n : Int) - (i : Int) - 1 := by push_cast; omega
    show IsRangeIter h' itr (lo + ((i + 1 : Nat) : Int) * 1) ((n : Int) - ((i + 1 : Nat) : Int)) 1
    rw [e1, e2]
    exact st'
  done := fun s Q E st hE => rng_stop hh st (by omega) hE

/-- where items come from -/
inductive Src where
  | tup (a : Addr) (xs : List V)
  | lst (a : Addr) (xs : List V)
  | rng (a : Addr) (lo : Int) (n : Nat)
def Src.len : Src → Nat
  | .tup _ xs => xs.length
  | .lst _ xs => xs.length
  | .rng _ _ n => n
def Src.val : Src → Nat → Option V
  | .tup _ xs, i => xs[i]?
  | .lst _ xs, i => xs[i]?
  | .rng _ lo n, i => if i < n then some (.int (lo + i)) else none
def Src.at : Src → Addr
  | .tup a _ => a
  | .lst a _ => a
  | .rng a _ _ => a
def Src.ok (K : PySem.W.Frag) (H : Hp) : Src → Prop
  | .tup a xs => SqT K H a xs
  | .lst a xs => Rd H a (.lst xs)
  | .rng a lo n => H a = some (.rng lo (lo + n)) ∧ -(2 ^ 62) ≤ lo ∧ lo + n < 2 ^ 62
/-- the iterator's own cell -/
def Src.cell (itr : Addr) (i : Nat) (h : Heap) : Src → Prop
  | .tup a _ => h.IsTupleIter itr a i
  | .lst a _ => h.IsListIter itr a i
  | .rng _ lo n => IsRangeIter h itr (lo + (i : Nat) * 1) ((n : Int) - (i : Nat)) 1
/-- what is read -/
def Src.read (its : List Value) (h : Heap) : Src → Prop
  | .tup a xs => h.IsTuple a its.toArray ∧ Vals xs its
  | .lst a xs => h.IsList a its.toArray ∧ Vals xs its
  | .rng _ _ _ => True
def Src.fp : Src → List Addr
  | .tup a _ => [a]
  | .lst a _ => [a]
  | .rng _ _ _ => []
theorem Src.val_lt {S : Src} {i : Nat} {x : V} (h : S.val i = some x) : i < S.len := by
  cases S with
  | tup a xs => exact (List.getElem?_eq_some_iff.mp h).1
  | lst a xs => exact (List.getElem?_eq_some_iff.mp h).1
  | rng ra lo n =>
    have h' : (if i < n then some (V.int (lo + i)) else none) = some x := h
    split at h'
    · assumption
    · cases h'
theorem Src.val_some {S : Src} {i : Nat} (h : i < S.len) : ∃ x, S.val i = some x := by
  cases S with
  | tup a xs => exact ⟨_, List.getElem?_eq_getElem h⟩
  | lst a xs => exact ⟨_, List.getElem?_eq_getElem h⟩
  | rng ra lo n => exact ⟨_, if_pos h⟩
theorem Src.draws {S : Src} {prog : Program} {w : World} {A : Around} (hh : A.handled = none) (itr : Addr) (its : List Value) (hne : itr ∉ S.fp) :
    Draws prog w A itr (itr :: S.fp) S.len (fun i v => ∃ x, S.val i = some x ∧ RelV x v) (fun i h => S.cell itr i h ∧ S.read its h) := by
  have key : ∀ {fp : List Addr} {n : Nat} {P P' : Nat → Value → Prop} {T T' : Nat → Heap → Prop}, Draws prog w A itr fp n P T → (∀ i h, T' i h → T i h ∧ ∀ v, P i v → P' i v) → (∀ i h h', i < n → T' i h → T (i + 1) h' → Heap.SameBut itr h h' → T' (i + 1) h') →
      (∀ i h h', T' i h → (∀ b ∈ fp, ∀ o, h.get? b = some o → h'.get? b = some o) → T' i h') → Draws prog w A itr fp n P' T' := fun {fp n P P' T T'} D t1 t2 t3 =>
    ⟨fun i h st => D.live i h (t1 i h st).1, t3, fun i s Q E hi st hQ => D.item i s Q E hi (t1 i _ st).1 fun x h' tk hP st' sb => hQ x h' tk ((t1 i _ st).2 x hP) (t2 i _ h' hi st st' sb) sb, fun s Q E st hE => D.done s Q E (t1 _ _ st).1 hE⟩
  cases S with
  | tup a xs =>
    have hne' : a ≠ itr := fun e => hne (by rw [e]; exact List.mem_singleton.mpr rfl)
    by_cases hl : its.toArray.size = xs.length
    · have D := Draws.tuple (prog := prog) (w := w) hh itr a hne' its.toArray
      rw [hl] at D
      refine key D (fun i h st => ⟨⟨st.1, st.2.1⟩, fun v hv => ?_⟩) (fun i h h' hi st st' sb => ⟨st'.1, st'.2, st.2.2⟩) (fun i h h' st hk => ⟨st.1.at fun o e => hk itr (by simp) o e, st.2.1.at fun o e => hk a (by simp [Src.fp]) o e, st.2.2⟩)
      have hi : i < xs.length := by
        have := (Array.getElem?_eq_some_iff.mp hv).1
        omega
      obtain ⟨u, hu, ru⟩ := st.2.2.get (List.getElem?_eq_getElem hi)
      have eu : u = v := Option.some.inj (by rw [← hu, ← hv]; simp)
      exact ⟨_, List.getElem?_eq_getElem hi, eu ▸ ru⟩
    · refine ⟨fun i h st => absurd (by rw [st.2.2.length]; simp) hl, fun i h h' st hk => absurd (by rw [st.2.2.length]; simp) hl, fun i s Q E hi st hQ => absurd (by rw [st.2.2.length]; simp) hl, fun s Q E st hE => absurd (by rw [st.2.2.length]; simp) hl⟩
  | lst a xs =>
    have hne' : a ≠ itr := fun e => hne (by rw [e]; exact List.mem_singleton.mpr rfl)
    by_cases hl : its.toArray.size = xs.length
    · have D := Draws.list (prog := prog) (w := w) hh itr a hne' its.toArray
      rw [hl] at D
      refine key D (fun i h st => ⟨⟨st.1, st.2.1⟩, fun v hv => ?_⟩) (fun i h h' hi st st' sb => ⟨st'.1, st'.2, st.2.2⟩) (fun i h h' st hk => ⟨st.1.at fun o e => hk itr (by simp) o e, st.2.1.at fun o e => hk a (by simp [Src.fp]) o e, st.2.2⟩)
      have hi : i < xs.length := by
        have := (Array.getElem?_eq_some_iff.mp hv).1
        omega
      obtain ⟨u, hu, ru⟩ := st.2.2.get (List.getElem?_eq_getElem hi)
      have eu : u = v := Option.some.inj (by rw [← hu, ← hv]; simp)
      exact ⟨_, List.getElem?_eq_getElem hi, eu ▸ ru⟩
    · refine ⟨fun i h st => absurd (by rw [st.2.2.length]; simp) hl, fun i h h' st hk => absurd (by rw [st.2.2.length]; simp) hl, fun i s Q E hi st hQ => absurd (by rw [st.2.2.length]; simp) hl, fun s Q E st hE => absurd (by rw [st.2.2.length]; simp) hl⟩
  | rng ra lo n =>
    have D := Draws.rng (prog := prog) (w := w) hh itr lo n
    have D' : Draws prog w A itr [itr] n (fun i v => ∃ x, (Src.rng ra lo n).val i = some x ∧ RelV x v) (fun i h => Src.cell itr i h (.rng ra lo n) ∧ Src.read its h (.rng ra lo n)) :=
      ⟨fun i h st => D.live i h st.1, fun i h h' st hk => ⟨D.frame i h h' st.1 hk, trivial⟩, fun i s Q E hi st hQ => D.item i s Q E hi st.1 fun x h' tk ⟨t, e⟩ st' sb => hQ x h' tk ⟨.int (lo + i), if_pos hi, t, e⟩ ⟨st', trivial⟩ sb, fun s Q E st hE => D.done s Q E st.1 hE⟩
    exact D'
end Dd
set_option maxHeartbeats 2000000
/-! enumerate and zip over sources, for a target of several names. -/
namespace Dd
open PySem PySem.Spec PyProof.Rows L2 Evl
theorem tyne {a b : String} (h : a ≠ b) : Value.type a ≠ Value.type b := fun z => h (Value.type.inj z)
theorem Src.cell_at {S : Src} {itr : Addr} {i : Nat} {h h' : Heap} (st : S.cell itr i h) (k : ∀ o, h.get? itr = some o → h'.get? itr = some o) : S.cell itr i h' := by
  cases S with
  | tup a xs => exact Heap.IsTupleIter.at st k
  | lst a xs => exact Heap.IsListIter.at st k
  | rng ra lo n => exact k _ st
theorem Src.cell_obj {S : Src} {itr : Addr} {i : Nat} {h : Heap} (st : S.cell itr i h) : ∃ o, h.get? itr = some o ∧ ∀ v, o.data ≠ .cell v := by
  cases S with
  | tup a xs =>
    obtain ⟨o, ho, _, hd⟩ := st
    exact ⟨o, ho, fun v z => by rw [hd] at z; cases z⟩
  | lst a xs =>
    obtain ⟨o, ho, _, hd⟩ := st
    exact ⟨o, ho, fun v z => by rw [hd] at z; cases z⟩
  | rng ra lo n => exact ⟨_, st, fun v z => by cases z⟩
section
variable {X : Cx} {pins : List (Addr × Obj)} {σ : L2.St} {H : Hp} {s : Shared}
theorem Src.reads {S : Src} (I : Inv X pins σ H s) (ok : S.ok X.K H) : ∃ its, S.read its s.heap := by
  cases S with
  | tup a xs =>
    obtain ⟨its, rv, p, _⟩ := I.tuple ok
    exact ⟨its, p, rv⟩
  | lst a xs =>
    obtain ⟨its, rv, p, _⟩ := I.list (.inl ok)
    exact ⟨its, p.isList, rv⟩
  | rng ra lo n => exact ⟨[], trivial⟩
/-- what is read is no cell of an iterator -/
theorem Src.apart {S : Src} {its : List Value} {h : Heap} {b : Addr} {o : Obj} (r : S.read its h) (hb : h.get? b = some o) (hc : o.cls ≠ .type "tuple" ∧ o.cls ≠ .type "list") : b ∉ S.fp := by
  cases S with
  | tup a xs =>
    intro z
    have e : b = a := List.mem_singleton.mp z
    subst e
    obtain ⟨o', ho, hcl, _⟩ := r.1
    rw [hb] at ho
    cases ho
    exact hc.1 hcl
  | lst a xs =>
    intro z
    have e : b = a := List.mem_singleton.mp z
    subst e
    obtain ⟨o', ho, hcl, _⟩ := r.1
    rw [hb] at ho
    cases ho
    exact hc.2 hcl
  | rng ra lo n => exact fun z => nomatch z
theorem Src.cell_cls {S : Src} {itr : Addr} {i : Nat} {h : Heap} (st : S.cell itr i h) : ∃ o, h.get? itr = some o ∧ o.cls ≠ .type "tuple" ∧ o.cls ≠ .type "list" ∧ o.cls ≠ .type "enumerate" ∧ o.cls ≠ .type "zip" := by
  cases S with
  | tup a xs =>
    obtain ⟨o, ho, hc, _⟩ := st
    refine ⟨o, ho, ?_, ?_, ?_, ?_⟩ <;> rw [hc] <;> decide
  | lst a xs =>
    obtain ⟨o, ho, hc, _⟩ := st
    refine ⟨o, ho, ?_, ?_, ?_, ?_⟩ <;> rw [hc] <;> decide
  | rng ra lo n => exact ⟨_, st, tyne (by decide), tyne (by decide), tyne (by decide), tyne (by decide)⟩
end

/-- each item with its number, a new pair -/
def Ies (K : PySem.W.Frag) (S : Src) : It :=
  ⟨fun i H => S.ok K H ∧ i < S.len, fun i H v H' => ∃ T x, v = .ref T ∧ H T = none ∧ H' = upd H T (.tup [.int (i : Nat), x]) ∧ S.val i = some x, fun i H => S.ok K H ∧ i = S.len⟩
theorem turn_es {P : Program} {w : World} {K : PySem.W.Frag} {elts : List Expr} {kk : Nat} {tpos : Pos} (S : Src) (e itr : Addr) :
    Turn P w K (.Tuple elts kk tpos) (Ies K S) [e, itr] e (fun i h => (∃ old, IsEnum h e itr (0 + ((i : Nat) : Int)) old) ∧ S.cell itr i h ∧ e ≠ itr) where
  mem := by simp
  obj := fun i h st b hb => by
    obtain ⟨⟨old, he⟩, hc, _⟩ := st
    have e' : b = e ∨ b = itr := by simpa using hb
    rcases e' with z | z
    · rw [z]; exact ⟨_, he, fun v q => nomatch q⟩
    · rw [z]; exact Src.cell_obj hc
  keep := fun i h h' st k => let ⟨⟨old, he⟩, hc, hne⟩ := st; ⟨⟨old, k e (by simp) _ he⟩, Src.cell_at hc fun o q => k itr (by simp) o q, hne⟩
  item := by
    intro X hP hw hK hc i pins s σ H E I hf st hg
    subst hP hw hK
    obtain ⟨⟨old, he⟩, hcell, hne⟩ := st
    obtain ⟨ok, hi⟩ := hg
    obtain ⟨its, rd⟩ := Src.reads I ok
    obtain ⟨oc, hoc, n1, n2, n3, n4⟩ := Src.cell_cls hcell
    have a1 : itr ∉ S.fp := Src.apart rd hoc ⟨n1, n2⟩
    have a2 : e ∉ S.fp := Src.apart rd he ⟨tyne (by decide), tyne (by decide)⟩
    have D := Src.draws (S := S) (prog := X.prog) (w := X.w) (A := X.A.in1) (I.ok.hd hc) itr its a1
    have hef : e ∉ itr :: S.fp := fun z => (List.mem_cons.mp z).elim hne a2
    have hel : e < s.heap.objs.size := Heap.lt_size he
    have hil : itr < s.heap.objs.size := Heap.lt_size hoc
    refine wpAny_pyNext_enum_itemC D he ⟨hcell, rd⟩ hi hne hef fun u h' tk hP ho st' hT hsz hk => ?_
    obtain ⟨x, hx, ru⟩ := hP
    refine ⟨_, rfl, wpAny_letOwnedTupleGo_enum (s := { s with heap := h', toks := tk + 1 }) ho fun h'' he' sb => ?_⟩
    have hT2 : h''.get? s.heap.objs.size = some { cls := .type "tuple", data := .seq #[.int (0 + (i : Int)) tk, u] } := (sb.2 _ (Nat.ne_of_gt hel)).trans hT
    have new : ObjOk X.prog X.w (upd H s.heap.objs.size (.tup [.int (i : Nat), x])) h'' s.heap.objs.size (.tup [.int (i : Nat), x]) :=
      ⟨by show 2 ≤ sizeLine; decide, [.int (0 + (i : Int)) tk, u], .cons ⟨tk, by rw [Int.zero_add]⟩ (.cons ru .nil), ⟨_, hT2, rfl, _, rfl⟩⟩
    have I1 : Inv X pins σ (upd H s.heap.objs.size (.tup [.int (i : Nat), x])) { s with heap := h'', toks := tk + 1 } :=
      I.turnedNew (ch := [e, itr]) (fun b ob hb q => (sb.2 b (fun z => hb (by simp [z]))).trans (hk b ob (fun z => hb (by simp [z])) (fun z => hb (by simp [z])) q)) hf (Nat.le_refl _) new
    refine ⟨.ref s.heap.objs.size, _, I1, rfl, ⟨_, x, rfl, I.hok.fresh (Nat.le_refl _), rfl, hx⟩, ⟨⟨u, ?_⟩, Src.cell_at st'.1 fun o q => (sb.2 itr (Ne.symm hne)).trans q, hne⟩, fun b hb => ?_⟩
    · have e1 : 0 + ((i + 1 : Nat) : Int) = 0 + (i : Int) + 1 := by omega
      rw [e1]; exact he'
    · have hb' : b < s.heap.objs.size := by
        have e' : b = e ∨ b = itr := by simpa using hb
        rcases e' with z | z
        · rw [z]; exact hel
        · rw [z]; exact hil
      rw [upd_ne (Nat.ne_of_lt hb')]
      exact (hf b hb).1
  done := by
    intro X hP hw hK hc i pins s σ H E I hf st hg
    subst hP hw hK
    obtain ⟨⟨old, he⟩, hcell, hne⟩ := st
    obtain ⟨ok, rfl⟩ := hg
    obtain ⟨its, rd⟩ := Src.reads I ok
    obtain ⟨oc, hoc, n1, n2, n3, n4⟩ := Src.cell_cls hcell
    have a1 : itr ∉ S.fp := Src.apart rd hoc ⟨n1, n2⟩
    have D := Src.draws (S := S) (prog := X.prog) (w := X.w) (A := X.A.in1) (I.ok.hd hc) itr its a1
    exact wpAny_pyNext_enum_endD D he ⟨hcell, rd⟩ fun h' eb => ⟨rfl, I.turnedL (t' := s.toks) (ch := [e, itr]) (fun b o hb q => eb b o (fun z => hb (by simp [z])) q) hf⟩
  self := fun A i s Q E st h => let ⟨⟨_, he⟩, _⟩ := st; wpAny_pyIter_enum he h
/-- the items of two sources side by side, new pairs -/
def Izs (K : PySem.W.Frag) (S1 S2 : Src) : It :=
  ⟨fun i H => S1.ok K H ∧ S2.ok K H ∧ i < S1.len ∧ i < S2.len, fun i H v H' => ∃ T x y, v = .ref T ∧ H T = none ∧ H' = upd H T (.tup [x, y]) ∧ S1.val i = some x ∧ S2.val i = some y, fun i H => S1.ok K H ∧ S2.ok K H ∧ i = min S1.len S2.len⟩
/-- the cells of a zip -/
structure Sep (z TI TO i1 i2 : Addr) : Prop where
  TIz : TI ≠ z
  TOz : TO ≠ z
  TITO : TI ≠ TO
  TIi1 : TI ≠ i1
  TIi2 : TI ≠ i2
  TOi1 : TO ≠ i1
  TOi2 : TO ≠ i2
  zi1 : z ≠ i1
  zi2 : z ≠ i2
  i12 : i1 ≠ i2
/-- TO: the zip's own tuple is untracked, a read one is not -/
theorem turn_zs {P : Program} {w : World} {K : PySem.W.Frag} {elts : List Expr} {kk : Nat} {tpos : Pos} (S1 S2 : Src) {z TI TO i1 i2 : Addr} (D : Sep z TI TO i1 i2) (d1 : TO ∉ S1.fp) (d2 : TO ∉ S2.fp) :
    Turn P w K (.Tuple elts kk tpos) (Izs K S1 S2) [z, TI, TO, i1, i2] z (fun i h => IsZip h z TI TO .none ∧ IsTupOf2 h TI (.ref i1) (.ref i2) ∧ (∃ x y, IsTupOf2 h TO x y) ∧ S1.cell i1 i h ∧ S2.cell i2 i h) where
  mem := by simp
  obj := fun i h st c hc => by
    obtain ⟨hz, hTI, ⟨x, y, hTO⟩, h1, h2⟩ := st
    have e' : c = z ∨ c = TI ∨ c = TO ∨ c = i1 ∨ c = i2 := by simpa using hc
    rcases e' with q | q | q | q | q
    · rw [q]; exact ⟨_, hz, fun v q => nomatch q⟩
    · rw [q]; exact ⟨_, hTI, fun v q => nomatch q⟩
    · rw [q]; exact ⟨_, hTO, fun v q => nomatch q⟩
    · rw [q]; exact Src.cell_obj h1
    · rw [q]; exact Src.cell_obj h2
  keep := fun i h h' st k => by
    obtain ⟨hz, hTI, ⟨x, y, hTO⟩, h1, h2⟩ := st
    exact ⟨k z (by simp) _ hz, k TI (by simp) _ hTI, ⟨x, y, k TO (by simp) _ hTO⟩, Src.cell_at h1 fun o q => k i1 (by simp) o q, Src.cell_at h2 fun o q => k i2 (by simp) o q⟩
  item := by
    intro X hP hw hK hc i pins s σ H E I hf st hg
    subst hP hw hK
    obtain ⟨hz, hTI, ⟨x0, y0, hTO⟩, h1, h2⟩ := st
    obtain ⟨ok1, ok2, hi1, hi2⟩ := hg
    obtain ⟨its, rd⟩ := Src.reads I ok1
    obtain ⟨its2, rd2⟩ := Src.reads I ok2
    obtain ⟨oc1, hoc1, n1, n2, n3, n4⟩ := Src.cell_cls h1
    obtain ⟨oc2, hoc2, m1, m2, m3, m4⟩ := Src.cell_cls h2
    have hzl : z < s.heap.objs.size := Heap.lt_size hz
    have S : ZipSep2 z TI TO i1 i2 (i1 :: S1.fp) (i2 :: S2.fp) :=
      { TIz := D.TIz, TOz := D.TOz, TITO := D.TITO, TIi1 := D.TIi1, mem1 := List.mem_cons_self, zf1 := fun q => (List.mem_cons.mp q).elim D.zi1 (Src.apart rd hz ⟨tyne (by decide), tyne (by decide)⟩), Tf1 := fun q => (List.mem_cons.mp q).elim D.TOi1 d1,
        TIi2 := D.TIi2, mem2 := List.mem_cons_self, zf2 := fun q => (List.mem_cons.mp q).elim D.zi2 (Src.apart rd2 hz ⟨tyne (by decide), tyne (by decide)⟩), Tf2 := fun q => (List.mem_cons.mp q).elim D.TOi2 d2,
        sep1_2 := fun q => (List.mem_cons.mp q).elim D.i12 (Src.apart rd2 hoc1 ⟨n1, n2⟩), sep2_1 := fun q => (List.mem_cons.mp q).elim D.i12.symm (Src.apart rd hoc2 ⟨m1, m2⟩) }
    have D1 := Src.draws (S := S1) (prog := X.prog) (w := X.w) (A := X.A.in1) (I.ok.hd hc) i1 its (Src.apart rd hoc1 ⟨n1, n2⟩)
    have D2 := Src.draws (S := S2) (prog := X.prog) (w := X.w) (A := X.A.in1) (I.ok.hd hc) i2 its2 (Src.apart rd2 hoc2 ⟨m1, m2⟩)
    refine wpAny_pyNext_zipD2_item S D1 D2 hz hTI hTO ⟨h1, rd⟩ ⟨h2, rd2⟩ hi1 hi2 fun u u2 h' tk hP1 hP2 z' TO' c1 c2 hT hsz hk => ?_
    obtain ⟨x, hx, ru⟩ := hP1
    obtain ⟨y, hy, ru2⟩ := hP2
    refine ⟨_, rfl, wpAny_letOwnedTupleGo_zip (s := { s with heap := h', toks := tk }) z' fun h'' z'' sb => ?_⟩
    have hT2 : h''.get? s.heap.objs.size = some { cls := .type "tuple", data := .seq #[u, u2] } := (sb.2 _ (Nat.ne_of_gt hzl)).trans hT
    have new : ObjOk X.prog X.w (upd H s.heap.objs.size (.tup [x, y])) h'' s.heap.objs.size (.tup [x, y]) :=
      ⟨by show 2 ≤ sizeLine; decide, [u, u2], .cons ru (.cons ru2 .nil), ⟨_, hT2, rfl, _, rfl⟩⟩
    have I1 : Inv X pins σ (upd H s.heap.objs.size (.tup [x, y])) { s with heap := h'', toks := tk } :=
      I.turnedNew (t' := tk) (ch := [z, TI, TO, i1, i2]) (fun c o hb q => (sb.2 c (fun q' => hb (by simp [q']))).trans (hk c o (fun q' => hb (by simp [q'])) (fun q' => hb (by simp [q'])) (fun q' => hb (by simp [q'])) (fun q' => hb (by simp [q'])) q)) hf (Nat.le_refl _) new
    refine ⟨.ref s.heap.objs.size, _, I1, rfl, ⟨_, x, y, rfl, I.hok.fresh (Nat.le_refl _), rfl, hx, hy⟩, ⟨z'', ?_, ⟨u, u2, ?_⟩, ?_, ?_⟩, fun c hcm => ?_⟩
    · exact (sb.2 _ D.TIz).trans (hk _ _ D.TIz D.TITO D.TIi1 D.TIi2 hTI)
    · exact (sb.2 _ D.TOz).trans TO'
    · exact Src.cell_at c1.1 fun o q => (sb.2 _ D.zi1.symm).trans q
    · exact Src.cell_at c2.1 fun o q => (sb.2 _ D.zi2.symm).trans q
    · have hlt : c < s.heap.objs.size := by
        have e' : c = z ∨ c = TI ∨ c = TO ∨ c = i1 ∨ c = i2 := by simpa using hcm
        rcases e' with q | q | q | q | q
        · rw [q]; exact hzl
        · rw [q]; exact Heap.lt_size hTI
        · rw [q]; exact Heap.lt_size hTO
        · rw [q]; exact Heap.lt_size hoc1
        · rw [q]; exact Heap.lt_size hoc2
      rw [upd_ne (Nat.ne_of_lt hlt)]
      exact (hf c hcm).1
  done := by
    intro X hP hw hK hc i pins s σ H E I hf st hg
    subst hP hw hK
    obtain ⟨hz, hTI, ⟨x0, y0, hTO⟩, h1, h2⟩ := st
    obtain ⟨ok1, ok2, hend⟩ := hg
    obtain ⟨its, rd⟩ := Src.reads I ok1
    obtain ⟨its2, rd2⟩ := Src.reads I ok2
    obtain ⟨oc1, hoc1, n1, n2, n3, n4⟩ := Src.cell_cls h1
    obtain ⟨oc2, hoc2, m1, m2, m3, m4⟩ := Src.cell_cls h2
    have S : ZipSep2 z TI TO i1 i2 (i1 :: S1.fp) (i2 :: S2.fp) :=
      { TIz := D.TIz, TOz := D.TOz, TITO := D.TITO, TIi1 := D.TIi1, mem1 := List.mem_cons_self, zf1 := fun q => (List.mem_cons.mp q).elim D.zi1 (Src.apart rd hz ⟨tyne (by decide), tyne (by decide)⟩), Tf1 := fun q => (List.mem_cons.mp q).elim D.TOi1 d1,
        TIi2 := D.TIi2, mem2 := List.mem_cons_self, zf2 := fun q => (List.mem_cons.mp q).elim D.zi2 (Src.apart rd2 hz ⟨tyne (by decide), tyne (by decide)⟩), Tf2 := fun q => (List.mem_cons.mp q).elim D.TOi2 d2,
        sep1_2 := fun q => (List.mem_cons.mp q).elim D.i12 (Src.apart rd2 hoc1 ⟨n1, n2⟩), sep2_1 := fun q => (List.mem_cons.mp q).elim D.i12.symm (Src.apart rd hoc2 ⟨m1, m2⟩) }
    have D1 := Src.draws (S := S1) (prog := X.prog) (w := X.w) (A := X.A.in1) (I.ok.hd hc) i1 its (Src.apart rd hoc1 ⟨n1, n2⟩)
    have D2 := Src.draws (S := S2) (prog := X.prog) (w := X.w) (A := X.A.in1) (I.ok.hd hc) i2 its2 (Src.apart rd2 hoc2 ⟨m1, m2⟩)
    refine wpAny_pyNext_zipD2_end S D1 D2 hz hTI hTO ⟨h1, rd⟩ ⟨h2, rd2⟩ (by omega) (by omega) (by omega) fun h' tk hk => ⟨rfl, I.turnedL (t' := tk) (ch := [z, TI, TO, i1, i2]) (fun c o hb q =>
      hk c o (fun q' => hb (by simp [q'])) (fun q' => hb (by simp [q'])) (fun q' => hb (by simp [q'])) (fun q' => hb (by simp [q'])) q) hf⟩
  self := fun A i s Q E st h => wpAny_pyIter_zip st.1 h
end Dd
set_option maxHeartbeats 2000000
/-! What a loop walks, as data: tuples, lists, ranges, enumerate, zip. -/
namespace Dd
open PySem PySem.Spec PyProof.Rows L2 Evl
/-- the first cell of a source's iterator -/
def Src.obj : Src → Obj
  | .tup a _ => { cls := .type "tuple_iterator", data := .fields #[.ref a, .int 0 0] }
  | .lst a _ => { cls := .type "list_iterator", data := .fields #[.ref a, .int 0 0] }
  | .rng _ lo n => { cls := .type "range_iterator", data := .fields #[rawInt lo, rawInt (Builtin.Range.rangeSize lo (lo + n) 1), rawInt 1] }
def Src.beg (its : List Value) (h : Heap) : Src → Prop
  | .tup a _ => h.IsTuple a its.toArray
  | .lst a _ => h.IsList a its.toArray
  | .rng a lo n => (-(2 ^ 62) ≤ lo ∧ lo + n < 2 ^ 62) ∧ ∃ t u v, IsRange h a lo (lo + n) 1 t u v
theorem Src.begins (S : Src) (its : List Value) : Begins (.ref S.at) S.obj (fun h => S.beg its h) := by
  cases S with
  | tup a xs => exact begins_tuple a its.toArray
  | lst a xs => exact begins_list a its.toArray
  | rng a lo n =>
    refine ⟨fun prog w A E s Q hl h => ?_, fun h h' x hk => ?_, rfl⟩
    · obtain ⟨⟨q1, q2⟩, t, u, v, hr⟩ := hl
      exact wpAny_pyIter_range hr (small_one q1 (by omega) (by omega) q2) h
    · obtain ⟨q, t, u, v, hr⟩ := x
      exact ⟨q, t, u, v, hk a _ hr⟩
theorem Src.cell0 {S : Src} {itr : Addr} {h : Heap} (e : h.get? itr = some S.obj) : S.cell itr 0 h := by
  cases S with
  | tup a xs => exact ⟨_, e, rfl, rfl⟩
  | lst a xs => exact ⟨_, e, rfl, rfl⟩
  | rng a lo n =>
    have e1 : lo + ((0 : Nat) : Int) * 1 = lo := by simp
    have e2 : ((n : Nat) : Int) - ((0 : Nat) : Int) = Builtin.Range.rangeSize lo (lo + n) 1 := by rw [rangeSize_one]; split <;> omega
    show IsRangeIter _ _ (lo + ((0 : Nat) : Int) * 1) ((n : Int) - ((0 : Nat) : Int)) 1
    rw [e1, e2]
    exact e
section
variable {X : Cx} {pins : List (Addr × Obj)} {σ : L2.St} {H : Hp} {s : Shared}
theorem Src.begun {S : Src} (I : Inv X pins σ H s) (ok : S.ok X.K H) : ∃ its, S.read its s.heap ∧ S.beg its s.heap := by
  cases S with
  | tup a xs =>
    obtain ⟨its, rv, p, _⟩ := I.tuple ok
    exact ⟨its, ⟨p, rv⟩, p⟩
  | lst a xs =>
    obtain ⟨its, rv, p, _⟩ := I.list (.inl ok)
    exact ⟨its, ⟨p.isList, rv⟩, p.isList⟩
  | rng a lo n =>
    obtain ⟨h, q⟩ := ok
    obtain ⟨t, u, v, e⟩ := I.hok _ _ h
    exact ⟨[], trivial, q, t, u, v, e⟩
theorem Src.fpLt {S : Src} {its : List Value} {h : Heap} (r : S.read its h) : ∀ b ∈ S.fp, b < h.objs.size := fun b hb => by
  cases S with
  | tup a xs =>
    rw [List.mem_singleton.mp hb]
    obtain ⟨_, ho, _⟩ := r.1
    exact Heap.lt_size ho
  | lst a xs =>
    rw [List.mem_singleton.mp hb]
    obtain ⟨_, ho, _⟩ := r.1
    exact Heap.lt_size ho
  | rng a lo n => cases hb
end
/-- items one by one -/
def Isr (K : PySem.W.Frag) (S : Src) : It :=
  ⟨fun i H => S.ok K H ∧ i < S.len, fun i H v H' => H' = H ∧ S.val i = some v, fun i H => S.ok K H ∧ i = S.len⟩
theorem turn_sr {P : Program} {w : World} {K : PySem.W.Frag} {tg : Expr} (S : Src) (itr : Addr) : Turn P w K tg (Isr K S) [itr] itr (fun i h => S.cell itr i h) := by
  cases S with
  | tup a xs =>
    have T := turn_tuple (P := P) (w := w) (K := K) (tg := tg) a itr
    refine ⟨T.mem, T.obj, T.keep, fun X hP hw hK hc i pins s σ H E I hf st hg => ?_, fun X hP hw hK hc i pins s σ H E I hf st hg => ?_, T.self⟩
    · have hi : i < xs.length := hg.2
      refine thn (T.item X hP hw hK hc i pins s σ H E I hf st ⟨xs, xs[i], hg.1, List.getElem?_eq_getElem hi⟩) fun r s1 ⟨u, e, q⟩ => ⟨u, e, thn q fun _ s2 ⟨x, H', I', r', y, rest⟩ => ⟨x, H', I', r', ⟨y.1, y.2 xs hg.1⟩, rest⟩⟩
    · exact T.done X hP hw hK hc i pins s σ H E I hf st ⟨xs, hg.1, Nat.le_of_eq hg.2.symm⟩
  | lst a xs =>
    have T := turn_list (P := P) (w := w) (K := K) (tg := tg) a itr
    refine ⟨T.mem, T.obj, T.keep, fun X hP hw hK hc i pins s σ H E I hf st hg => ?_, fun X hP hw hK hc i pins s σ H E I hf st hg => ?_, T.self⟩
    · have hi : i < xs.length := hg.2
      refine thn (T.item X hP hw hK hc i pins s σ H E I hf st ⟨xs, xs[i], .inl hg.1, List.getElem?_eq_getElem hi⟩) fun r s1 ⟨u, e, q⟩ => ⟨u, e, thn q fun _ s2 ⟨x, H', I', r', y, rest⟩ => ⟨x, H', I', r', ⟨y.1, y.2 xs (.inl hg.1)⟩, rest⟩⟩
    · exact T.done X hP hw hK hc i pins s σ H E I hf st ⟨xs, .inl hg.1, Nat.le_of_eq hg.2.symm⟩
  | rng a lo n =>
    have T := turn_range (P := P) (w := w) (K := K) (tg := tg) itr lo n
    refine ⟨T.mem, T.obj, T.keep, fun X hP hw hK hc i pins s σ H E I hf st hg => ?_, fun X hP hw hK hc i pins s σ H E I hf st hg => ?_, T.self⟩
    · refine thn (T.item X hP hw hK hc i pins s σ H E I hf st hg.2) fun r s1 ⟨u, e, q⟩ => ⟨u, e, thn q fun _ s2 ⟨x, H', I', r', y, rest⟩ => ⟨x, H', I', r', ⟨y.1, ?_⟩, rest⟩⟩
      rw [y.2]
      exact if_pos hg.2
    · exact T.done X hP hw hK hc i pins s σ H E I hf st (Nat.le_of_eq hg.2.symm)
section
variable {X : Cx} {tg e e2 : Expr} {te : TE} {ta : TA}
/-- the value is a source -/
def isrc (K : PySem.W.Frag) (te : TE) : TI := fun σ H R => te σ H fun v H1 => ∃ S : Src, v = .ref S.at ∧ S.ok K H1 ∧ R (Isr K S) H1
theorem pi_src (he : PE X e te) : PI X tg e (isrc X.K te) := by
  refine ⟨fun pins s σ H R I h => thn (he.run pins s σ H _ I h) fun v s1 ⟨x, H1, I1, r1, S, e1, ok, q⟩ => ?_⟩
  subst e1
  cases r1
  obtain ⟨its, rd, bg⟩ := Src.begun I1 ok
  refine (Src.begins S its).iter _ _ _ _ s1 _ bg ?_
  exact pi_one (tk := s1.toks) I1 _ (turn_sr S s1.heap.objs.size) (Src.cell0 (Heap.get?_push_size _ (Src.begins S its).free)) q
def ienS (K : PySem.W.Frag) (ta : TA) : TI := fun σ H R => ta σ H fun vs H1 => ∃ S : Src, vs = [.ref S.at] ∧ S.ok K H1 ∧ R (Ies K S) H1
theorem enum_new1 {v : Value} {o : Obj} {Hp' : Heap → Prop} (B : Begins v o Hp') :
    Meets (Builtin.«enumerate.__new__» ⟨[.type "enumerate", v], []⟩) (fun _ R s => Hp' s.heap ∧
      R (.ok (.ret (.ref (s.heap.push o).objs.size))) { s with heap := (s.heap.push o).push { cls := .type "enumerate", data := .fields #[.none, .bool false, .ref s.heap.objs.size, rawInt 0, .none, .none] } }) :=
  .of_wp fun prog w A R s hh => by
    obtain ⟨hp, g, d, tk, os⟩ := s; obtain ⟨hb, hr⟩ := hh
    have hsb := sub_enumerate
    have qi : ∀ {A' : Around} {E' : Value → Shared → Prop} {Q' : Value → Shared → Prop}, Q' (.ref hp.objs.size) ⟨hp.push o, g, d, tk, os⟩ → wpAny (model prog w) A' (pyIter v) Q' E' ⟨hp, g, d, tk, os⟩ :=
      fun q => B.iter prog w _ _ ⟨hp, g, d, tk, os⟩ _ hb q
    wp_walk using qi
    refine wpAny_stack_any fun sk => wpAny_pure ?_
    split
    · rename_i c _ _ _ _ _
      cases (c == Value.type "enumerate")
      · wp_walk using qi
        exact ⟨_, rfl, hr⟩
      · wp_walk using qi
        exact ⟨_, rfl, hr⟩
    · wp_walk using qi
      exact ⟨_, rfl, hr⟩
theorem enum_call1 {prog : Program} {w : World} {A : Around} {E : Value → Shared → Prop} {s : Shared} {v : Value} {o : Obj} {Hp' : Heap → Prop} {Q : Value → Shared → Prop} (B : Begins v o Hp') (hb : Hp' s.heap)
    (hq : ∀ h', IsEnum h' (s.heap.objs.size + 1) s.heap.objs.size 0 .none → h'.get? s.heap.objs.size = some o → (∀ b u, s.heap.get? b = some u → h'.get? b = some u) → Q (.ref (s.heap.objs.size + 1)) { s with heap := h' }) :
    wpAny (model prog w) A (call (.type "enumerate") [v]) Q E s := by
  refine callType_new F.called_enumerate (by decide) (F.typeCall_enumerate_1 _) (F.newCall_enumerate_1 _) (fun obj => F.args_object_init_2 obj _) F.entry_enumerate_new
    (enum_new1 B) ⟨hb, ?_⟩
  have hsz : (s.heap.push o).objs.size = s.heap.objs.size + 1 := Heap.size_push ..
  show _ ∧ _
  rw [hsz]
  have cell : IsEnum ((s.heap.push o).push { cls := .type "enumerate", data := .fields #[.none, .bool false, .ref s.heap.objs.size, rawInt 0, .none, .none] }) (s.heap.objs.size + 1) s.heap.objs.size 0 .none := by
    have z := Heap.get?_push_size (s.heap.push o) (o := { cls := .type "enumerate", data := .fields #[.none, .bool false, .ref s.heap.objs.size, rawInt 0, .none, .none] }) rfl
    rw [hsz] at z
    exact z
  exact ⟨⟨_, cell, rfl⟩, hq _ cell (Heap.get?_push_of_some _ (Heap.get?_push_size _ B.free)) fun b u x => Heap.get?_push_of_some _ (Heap.get?_push_of_some _ x)⟩
theorem pi_enS {p pos tpos : Pos} {elts : List Expr} {kk : Nat} (hg : Gl X "enumerate") (hm : X.mg "enumerate" = none) (ha : PA X [e] ta) (hs : starEach [e] X.env = [(false, eval e X.env)] := by rfl) :
    PI X (.Tuple elts kk tpos) (.Call (.Name "enumerate" p) [e] [] pos) (ienS X.K ta) := by
  refine ⟨fun pins s σ H R I h => Call_ (ld_blt I hg hm boot_enumerate (PyProof.Rows.callWith_type1 (thn (ha.run pos pins s σ H _ I h) fun us s1 ⟨vs, H1, I1, r1, q1⟩ => ?_) hs rfl))⟩
  obtain ⟨S, ex, ok, q⟩ := q1
  subst ex
  cases r1 with
  | cons r rr =>
    cases rr
    cases r
    obtain ⟨its, rd, bg⟩ := Src.begun I1 ok
    refine enum_call1 (Src.begins S its) bg fun h' he hit hk => wpAny_pyIter_enum he ?_
    have I2 : Inv X pins σ H1 { s1 with heap := h' } := I1.kept (t' := s1.toks) hk
    refine ⟨s1.heap.objs.size + 1, [s1.heap.objs.size + 1, s1.heap.objs.size], _, _, H1, rfl, I2, turn_es S (s1.heap.objs.size + 1) s1.heap.objs.size, ⟨⟨.none, he⟩, Src.cell0 hit, Nat.succ_ne_self _⟩, fun b hb => ?_, q⟩
    have lb : s1.heap.objs.size ≤ b := by
      rcases List.mem_cons.mp hb with z | z
      · rw [z]; exact Nat.le_add_right _ _
      · rw [List.mem_singleton.mp z]; exact Nat.le_refl _
    exact I1.fpOk lb (I1.hok.fresh lb)
def izpS (K : PySem.W.Frag) (ta : TA) : TI := fun σ H R => ta σ H fun vs H1 => ∃ S1 S2 : Src, vs = [.ref S1.at, .ref S2.at] ∧ S1.ok K H1 ∧ S2.ok K H1 ∧ R (Izs K S1 S2) H1
theorem sep_new (N : Nat) : Sep (N + 4) (N + 2) (N + 3) N (N + 1) :=
  ⟨by simp [Addr], by simp [Addr], by simp [Addr], by simp [Addr], by simp [Addr], by simp [Addr], by simp [Addr], by simp [Addr], by simp [Addr], by simp [Addr]⟩
theorem pi_zpS {p pos tpos : Pos} {elts : List Expr} {kk : Nat} (hg : Gl X "zip") (hm : X.mg "zip" = none) (ha : PA X [e, e2] ta)
    (hs : starEach [e, e2] X.env = (false, eval e X.env) :: starEach [e2] X.env := by rfl) (hpl : (backTo pos (starEach [e2] X.env)).any (·.1) = false := by rfl) :
    PI X (.Tuple elts kk tpos) (.Call (.Name "zip" p) [e, e2] [] pos) (izpS X.K ta) := by
  refine ⟨fun pins s σ H R I h => Call_ (ld_blt I hg hm PyProof.Rows.boot_zip (PyProof.Rows.callWith_type1 (thn (ha.run pos pins s σ H _ I h) fun us s1 ⟨vs, H1, I1, r1, q1⟩ => ?_) hs hpl))⟩
  obtain ⟨S1, S2, ex, ok1, ok2, q⟩ := q1
  subst ex
  cases r1 with
  | cons r rr =>
    cases rr with
    | cons r' rr =>
      cases rr
      cases r
      cases r'
      obtain ⟨its, rd, bg⟩ := Src.begun I1 ok1
      obtain ⟨its2, rd2, bg2⟩ := Src.begun I1 ok2
      refine zip_begins2 (Src.begins S1 its) (Src.begins S2 its2) bg bg2 fun h' hz hTI hTO h1 h2 hsz hk => wpAny_pyIter_zip hz ?_
      have I2 : Inv X pins σ H1 { s1 with heap := h' } := I1.kept (t' := s1.toks) hk
      refine ⟨s1.heap.objs.size + 4, [s1.heap.objs.size + 4, s1.heap.objs.size + 2, s1.heap.objs.size + 3, s1.heap.objs.size, s1.heap.objs.size + 1], _, _, H1, rfl, I2, turn_zs S1 S2 (sep_new s1.heap.objs.size) (fun z => ?_) (fun z => ?_), ⟨hz, hTI, ⟨_, _, hTO⟩, Src.cell0 h1, Src.cell0 h2⟩, fun b hb => ?_, q⟩
      · exact absurd (Src.fpLt rd _ z) (Nat.not_lt.mpr (Nat.le_add_right _ _))
      · exact absurd (Src.fpLt rd2 _ z) (Nat.not_lt.mpr (Nat.le_add_right _ _))
      · have lb : s1.heap.objs.size ≤ b := by
          simp only [List.mem_cons, List.not_mem_nil, or_false] at hb
          rcases hb with z | z | z | z | z
          · rw [z]; exact Nat.le_add_right _ _
          · rw [z]; exact Nat.le_add_right _ _
          · rw [z]; exact Nat.le_add_right _ _
          · rw [z]; exact Nat.le_refl _
          · rw [z]; exact Nat.le_add_right _ _
        exact I1.fpOk lb (I1.hok.fresh lb)
end
end Dd
set_option maxHeartbeats 2000000
/-! Loops and comprehensions over data. -/
namespace Dd
open PySem PySem.Spec PyProof.Rows L2 Evl
/-! ### slots forgotten -/
def wr (ρ : Rho) : List Nat → Rho
  | [] => ρ
  | v :: vs => (wr ρ vs).set v none
theorem wr_length (ρ : Rho) : ∀ vs : List Nat, (wr ρ vs).length = ρ.length
  | [] => rfl
  | v :: vs => by unfold wr; rw [List.length_set, wr_length ρ vs]
theorem wr_none {ρ : Rho} {j : Nat} (h : ρ[j]? = some none) : ∀ {vs : List Nat}, (wr ρ vs)[j]? = some none
  | [] => h
  | v :: vs => by
    unfold wr
    rw [List.getElem?_set]
    have z := wr_none (ρ := ρ) h (vs := vs)
    by_cases e : v = j
    · rw [if_pos e, if_pos (by rw [e]; exact (List.getElem?_eq_some_iff.mp z).1)]
    · rw [if_neg e]; exact z
theorem wr_some {ρ : Rho} {i : Nat} {d : D} : ∀ {vs : List Nat}, (wr ρ vs)[i]? = some (some d) → ρ[i]? = some (some d) ∧ i ∉ vs
  | [], h => ⟨h, by simp⟩
  | v :: vs, h => by
    unfold wr at h
    rw [List.getElem?_set] at h
    by_cases e : v = i
    · rw [if_pos e] at h
      split at h <;> cases h
    · rw [if_neg e] at h
      obtain ⟨h1, h2⟩ := wr_some h
      exact ⟨h1, fun z => (List.mem_cons.mp z).elim (fun z => e z.symm) h2⟩
theorem wipe_keep {σ : L2.St} {i : Nat} : ∀ {vs : List Nat}, i ∉ vs → (wipe σ vs)[i]? = σ[i]?
  | [], _ => rfl
  | v :: vs, h => by
    unfold wipe
    rw [List.getElem?_set_ne (fun e => h (by rw [e]; exact List.mem_cons_self))]
    exact wipe_keep fun z => h (List.mem_cons_of_mem _ z)
theorem wipe_set {σ : L2.St} {i : Nat} {o : Option V} : ∀ {vs : List Nat}, i ∈ vs → wipe (σ.set i o) vs = wipe σ vs
  | [], h => absurd h (by simp)
  | v :: vs, h => by
    unfold wipe
    by_cases e : i ∈ vs
    · rw [wipe_set e]
    · have ev : i = v := (List.mem_cons.mp h).resolve_right e
      subst ev
      have : ∀ {ws : List Nat}, i ∉ ws → wipe (σ.set i o) ws = (wipe σ ws).set i o := fun {ws} => by
        induction ws with
        | nil => intro _; rfl
        | cons w ws ih =>
          intro hw
          unfold wipe
          rw [ih fun z => hw (List.mem_cons_of_mem _ z), List.set_comm _ _ (fun e => hw (by rw [e]; exact List.mem_cons_self))]
      rw [this e, List.set_set]
section
variable {K : PySem.W.Frag} {C : Cs} {G H H' : Hp} {σ : L2.St} {ρ : Rho} {mu : Mu} {d : D} {v : V}
theorem EnvOk.wipe (e : EnvOk K C G σ H ρ mu) (vs : List Nat) (hj : ∀ l j ds, mu = some (l, j, ds) → j ∉ vs) : EnvOk K C G (wipe σ vs) H (wr ρ vs) mu where
  ex := e.ex
  tb := e.tb
  at_ := fun i d h => by
    obtain ⟨h1, h2⟩ := wr_some h
    rw [wipe_keep h2]
    exact e.at_ i d h1
  mu := fun l j ds h => by
    obtain ⟨h0, h1, h2⟩ := e.mu l j ds h
    exact ⟨wr_none h0, by rw [wipe_keep (hj l j ds h)]; exact h1, h2⟩
  len := by rw [wr_length, wipe_length]; exact e.len
theorem hole_mono (x : Ex H H') : Ex (hole H mu) (hole H' mu) where
  get := fun a o h n => (hole_at (hole_in h).1).trans (x.get a o (hole_in h).2 n)
  dom := fun a o h => let ⟨o', h'⟩ := x.dom a o (hole_in h).2; ⟨o', (hole_at (hole_in h).1).trans h'⟩
  tab := fun a ⟨ps, h, t⟩ => let ⟨qs, h', t'⟩ := x.tab a ⟨ps, (hole_in h).2, t⟩; ⟨qs, (hole_at (hole_in h).1).trans h', t'⟩
theorem Src.ok_ex {S : Src} (x : Ex H H') (h : S.ok K H) : S.ok K H' := by
  cases S with
  | tup a xs => exact ex_t x h
  | lst a xs => exact ex_rd x h
  | rng a lo n => exact ⟨x.at h.1, h.2⟩
/-- may be held while the list stands -/
def Mi (mu : Mu) (d : D) : Prop := mu = none ∨ Im d
theorem Mi.rep {H : Hp} (h : Mi mu d) (r : Rep K C none H d v) : Rep K C mu.av H d v := by
  rcases h with rfl | h
  · exact r
  · exact r.im h _
end
/-- what is walked, by data -/
structure Yl (K : PySem.W.Frag) (C : Cs) (J : It) (G : Hp) (ds : List D) : Prop where
  go : ∀ (i : Nat) (H : Hp) (d : D), Ex G H → ds[i]? = some d → J.go i H
  yl : ∀ (i : Nat) (H : Hp) (d : D) (x : V) (H' : Hp), Ex G H → ds[i]? = some d → J.yld i H x H' → Ex H H' ∧ Rep K C none H' d x
  stop : ∀ (H : Hp), Ex G H → J.stop ds.length H
def EI (X : Cx) (C : Cs) (ρ : Rho) (mu : Mu) (tg iter : Expr) (ds : List D) : Prop :=
  ∃ wi, PI X tg iter wi ∧ ∀ G σ H, EnvOk X.K C G σ H ρ mu → ∀ R : It → Hp → Prop, (∀ J H1, Ex H H1 → Yl X.K C J (hole H1 mu) ds → R J H1) → wi σ H R
/-- a source's items -/
structure SrcD (K : PySem.W.Frag) (C : Cs) (S : Src) (G : Hp) (ds : List D) : Prop where
  ok : S.ok K G
  len : S.len = ds.length
  at_ : ∀ (i : Nat) (d : D), ds[i]? = some d → ∃ x, S.val i = some x ∧ Rep K C none G d x
def ES (X : Cx) (C : Cs) (ρ : Rho) (mu : Mu) (e : Expr) (ds : List D) : Prop :=
  ∃ te, PE X e te ∧ ∀ G σ H, EnvOk X.K C G σ H ρ mu → ∀ Q : VK, (∀ S H1, Ex H H1 → SrcD X.K C S (hole H1 mu) ds → Q (.ref (Src.at S)) H1) → te σ H Q
section
variable {X : Cx} {C : Cs} {ρ ρ' : Rho} {mu : Mu} {a b c e e2 : Expr} {es : List Expr} {d d1 d2 : D} {ds ds2 : List D} {pos p : Pos} {i j : Int} {xs : List Int} {tg iter : Expr} {vs : List Nat}
theorem srcT {K : PySem.W.Frag} {H : Hp} {a : Addr} {ws : List V} (h : SqT K H a ws) (l : ds.length = ws.length) (at_ : ∀ (i : Nat) (d : D) (v : V), ds[i]? = some d → ws[i]? = some v → Rep K C none H d v) : SrcD K C (.tup a ws) H ds :=
  ⟨h, l.symm, fun i d hd => let ⟨v, h1, h2⟩ := Reps.get ⟨l, at_⟩ hd; ⟨v, h1, h2⟩⟩
theorem srcL {K : PySem.W.Frag} {H : Hp} {a : Addr} {ws : List V} (h : Rd H a (.lst ws)) (l : ds.length = ws.length) (at_ : ∀ (i : Nat) (d : D) (v : V), ds[i]? = some d → ws[i]? = some v → Rep K C none H d v) : SrcD K C (.lst a ws) H ds :=
  ⟨h, l.symm, fun i d hd => let ⟨v, h1, h2⟩ := Reps.get ⟨l, at_⟩ hd; ⟨v, h1, h2⟩⟩
theorem es_tup (he : EE X C ρ mu e (.tup ds)) (hm : Mi mu (.tup ds)) : ES X C ρ mu e ds := by
  obtain ⟨te, pe, ve⟩ := he
  refine ⟨te, pe, fun G σ H ok Q q => ve G σ H ok Q fun v H1 e1 r => ?_⟩
  have r2 := Rep.hole (ok.mono e1) (hm.rep r)
  cases r2 with
  | @tup a ws _ h l at_ => exact q (.tup a ws) H1 e1 (srcT h l at_)
theorem es_lst (he : EE X C ρ none e (.lst ds)) : ES X C ρ none e ds := by
  obtain ⟨te, pe, ve⟩ := he
  refine ⟨te, pe, fun G σ H ok Q q => ve G σ H ok Q fun v H1 e1 r => ?_⟩
  have r2 := Rep.hole (ok.mono e1) r
  cases r2 with
  | @lst a ws _ n h l at_ => exact q (.lst a ws) H1 e1 (srcL h l at_)
theorem es_en (he : EN X C ρ mu e ds) (im : ∀ d, d ∈ ds → Im d) : ES X C ρ mu e ds := by
  obtain ⟨te, pe, ve⟩ := he
  refine ⟨te, pe, fun G σ H ok Q q => ve G σ H ok Q fun p vs H1 hp e1 h r => ?_⟩
  have n : mu.av ≠ some p := by
    intro z
    cases mu with
    | none => cases z
    | some m =>
      obtain ⟨l, j, ds'⟩ := m
      have el : l = p := Option.some.inj z
      subst el
      obtain ⟨_, _, _, vs', h4, _⟩ := ok.mu l j ds' rfl
      rw [hp] at h4
      cases h4
  have r1 : Rep X.K C mu.av H1 (.lst ds) (.ref p) := .lst n (.inl h) r.len (r.im im _).at_
  have r2 := Rep.hole (ok.mono e1) r1
  cases r2 with
  | @lst a ws _ n h l at_ => exact q (.lst p ws) H1 e1 (srcL h l at_)
theorem es_var (i : Nat) {x : Str} (h : ρ[i]? = some (some (.lst ds)) := by rfl) (hN : X.N[i]? = some x := by rfl)
    (hv : Vis X.env.scope x := by first | exact Or.inl rfl | exact Or.inr (Or.inl rfl) | exact Or.inr (Or.inr rfl)) (hd : (x == ("__debug__" : Str)) = false := by decide)
    (hcd : (x == ("__classdict__" : Str)) = false := by decide) : ES X C ρ mu (.Name x pos) ds := by
  refine ⟨_, pe_var hN hv hd hcd, fun G σ H ok Q q => ?_⟩
  obtain ⟨v, h1, h2⟩ := ok.at_ i _ h
  refine ⟨v, h1, ?_⟩
  have r2 := Rep.hole ok h2
  cases r2 with
  | @lst a ws _ n h l at_ => exact q (.lst a ws) H (Ex.refl H) (srcL h l at_)
/-- lo, lo + 1, .. (n of them) -/
def rgs (lo : Int) (n : Nat) : List Int := (List.range n).map fun (i : Nat) => lo + (i : Int)
theorem rgs_get {lo : Int} {n i : Nat} {d : D} (h : (nts (rgs lo n))[i]? = some d) : i < n ∧ d = .int (lo + i) := by
  unfold rgs nts at h
  rw [List.map_map, List.getElem?_map] at h
  cases z : (List.range n)[i]? with
  | none => rw [z] at h; cases h
  | some k =>
    rw [z] at h
    obtain ⟨h1, h2⟩ := List.getElem?_eq_some_iff.mp z
    have e : k = i := by rw [← h2]; simp
    have h3 := Option.some.inj h
    rw [← h3, e]
    exact ⟨by simpa using h1, rfl⟩
theorem es_rng {lo : Int} {n : Nat} (he : EE X C ρ mu e (.rng lo (lo + n))) (h1 : -(2 ^ 62) ≤ lo) (h2 : lo + n < 2 ^ 62) : ES X C ρ mu e (nts (rgs lo n)) := by
  obtain ⟨te, pe, ve⟩ := he
  refine ⟨te, pe, fun G σ H ok Q q => ve G σ H ok Q fun v H1 e1 r => ?_⟩
  have r2 := Rep.hole (ok.mono e1) (Rep.im r .rng mu.av)
  cases r2 with
  | @rng a _ _ h =>
    refine q (.rng a lo n) H1 e1 ⟨⟨h, h1, h2⟩, by simp [rgs]; rfl, fun i d hd => ?_⟩
    obtain ⟨h3, rfl⟩ := rgs_get hd
    exact ⟨_, if_pos h3, .int⟩
/-- range(n), range(i, j) as values -/
theorem cr_rng1 : CallR X (.type "range") (fun vs H Q => ∃ j, vs = [V.int j] ∧ ∀ p, H p = none → Q (.ref p) (upd H p (.rng 0 j))) := by
  intro pins s σ H vs us Q I r h
  obtain ⟨j, rfl, q⟩ := h
  cases r with
  | cons r rr =>
    cases rr
    obtain ⟨t, rfl⟩ := r
    refine call_range_1 ⟨.ref s.heap.objs.size, upd H s.heap.objs.size (.rng 0 j), I.laid (t' := s.toks + 2) (fun b o e => Heap.get?_push_of_some _ e) (Nat.le_refl _) ?_, rfl, q _ (I.hok.fresh (Nat.le_refl _))⟩
    exact ⟨_, _, _, Heap.get?_push_size _ rfl⟩
theorem ee_rng1 {n : Int} (hm : X.mg "range" = none) (ha : EE X C ρ mu a (.int n)) (hg : Gl X "range" := by rfl) (he : starEach [a] X.env = (false, eval a X.env) :: starEach [] X.env := by rfl) (hpl : (backTo pos (starEach [] X.env)).any (·.1) = false := by rfl) :
    EE X C ρ mu (.Call (.Name "range" p) [a] [] pos) (.rng 0 n) :=
  ee_callTy cr_rng1 hm boot_range (by decide) (by decide) (ea_c ha ea_no he) (fun vs H r0 Q q => by
    obtain ⟨v, rfl, r⟩ := r0.one
    cases r
    exact ⟨n, rfl, fun p hp => q _ _ (Ex.new hp) (.rng upd_same)⟩) hg he hpl
theorem ee_rng2 {m n : Int} (hm : X.mg "range" = none) (ha : EE X C ρ mu a (.int m)) (hb : EE X C ρ mu b (.int n)) (hg : Gl X "range" := by rfl) (he : starEach [a, b] X.env = (false, eval a X.env) :: starEach [b] X.env := by rfl)
    (he2 : starEach [b] X.env = (false, eval b X.env) :: starEach [] X.env := by rfl) (hpl : (backTo pos (starEach [b] X.env)).any (·.1) = false := by rfl) :
    EE X C ρ mu (.Call (.Name "range" p) [a, b] [] pos) (.rng m n) :=
  ee_callTy cr_range2 hm boot_range (by decide) (by decide) (ea_c ha (ea_c hb ea_no he2) he) (fun vs H r0 Q q => by
    obtain ⟨v, w, rfl, r, r'⟩ := r0.two
    cases r
    cases r'
    exact ⟨m, n, rfl, fun p hp => q _ _ (Ex.new hp) (.rng upd_same)⟩) hg he hpl
/-- range in a loop's head -/
theorem es_rng1 {n : Nat} {m : Int} (hm : X.mg "range" = none) (ha : EE X C ρ mu a (.int m)) (hn : n = m.toNat) (h0 : 0 ≤ m) (h1 : m ≤ 1000000) (hg : Gl X "range" := by rfl) (he : starEach [a] X.env = (false, eval a X.env) :: starEach [] X.env := by rfl) (hpl : (backTo pos (starEach [] X.env)).any (·.1) = false := by rfl) :
    ES X C ρ mu (.Call (.Name "range" p) [a] [] pos) (nts (rgs 0 n)) := by
  have z : m = 0 + (n : Int) := by omega
  refine es_rng (ee_rng1 hm (ha.is (by rw [z])) hg he hpl) (by omega) (by omega)
theorem es_rng2 {n : Nat} {k m : Int} (hm : X.mg "range" = none) (ha : EE X C ρ mu a (.int k)) (hb : EE X C ρ mu b (.int m)) (hn : n = (m - k).toNat) (h0 : k ≤ m) (h1 : -1000000 ≤ k) (h2 : m ≤ 1000000) (hg : Gl X "range" := by rfl)
    (he : starEach [a, b] X.env = (false, eval a X.env) :: starEach [b] X.env := by rfl) (he2 : starEach [b] X.env = (false, eval b X.env) :: starEach [] X.env := by rfl) (hpl : (backTo pos (starEach [b] X.env)).any (·.1) = false := by rfl) :
    ES X C ρ mu (.Call (.Name "range" p) [a, b] [] pos) (nts (rgs k n)) := by
  have z : m = k + (n : Int) := by omega
  refine es_rng (ee_rng2 hm ha (hb.is (by rw [z])) hg he he2 hpl) (by omega) (by omega)
/-! ### walked -/
theorem ei_src (h : ES X C ρ mu iter ds) : EI X C ρ mu tg iter ds := by
  obtain ⟨te, pe, ve⟩ := h
  refine ⟨_, pi_src pe, fun G σ H ok R q => ve G σ H ok _ fun S H1 e1 sd => ⟨S, rfl, Src.ok_ex hole_le sd.ok, q _ H1 e1 ⟨fun i H d x hd => ⟨Src.ok_ex x sd.ok, ?_⟩, fun i H d v H' x hd y => ?_, fun H x => ⟨Src.ok_ex x sd.ok, sd.len.symm⟩⟩⟩⟩
  · rw [sd.len]; exact (List.getElem?_eq_some_iff.mp hd).1
  · obtain ⟨rfl, y⟩ := y
    obtain ⟨v', h1, h2⟩ := sd.at_ i d hd
    rw [y] at h1
    cases h1
    exact ⟨Ex.refl _, h2.ex x⟩
/-- numbered -/
def enu (ds : List D) : List D := ds.zipIdx.map fun p => .tup [.int p.2, p.1]
theorem enu_get {i : Nat} (h : (enu ds)[i]? = some d) : ∃ d', ds[i]? = some d' ∧ d = .tup [.int i, d'] := by
  unfold enu at h
  rw [List.getElem?_map, List.getElem?_zipIdx] at h
  cases z : ds[i]? with
  | none => rw [z] at h; cases h
  | some d' =>
    rw [z] at h
    have h1 := Option.some.inj h
    exact ⟨d', rfl, by rw [← h1]; simp⟩
theorem rep_two {K : PySem.W.Frag} {av : Option Addr} {H : Hp} {T : Addr} {x y : V} (h : H T = some (.tup [x, y])) (r1 : Rep K C av H d1 x) (r2 : Rep K C av H d2 y) : Rep K C av H (.tup [d1, d2]) (.ref T) :=
  .tup (SqT.of h) rfl (Reps.cons r1 (Reps.cons r2 Reps.nil)).at_
theorem ei_enu {elts : List Expr} {kk : Nat} {tpos : Pos} (hm : X.mg "enumerate" = none) (h : ES X C ρ mu e ds) (hg : Gl X "enumerate" := by rfl) (hs : starEach [e] X.env = (false, eval e X.env) :: starEach [] X.env := by rfl) :
    EI X C ρ mu (.Tuple elts kk tpos) (.Call (.Name "enumerate" p) [e] [] pos) (enu ds) := by
  obtain ⟨te, pe, ve⟩ := h
  refine ⟨_, pi_enS hg hm (pa_cons pe pa_nil hs) hs, fun G σ H ok R q => ve G σ H ok _ fun S H1 e1 sd => ⟨S, rfl, Src.ok_ex hole_le sd.ok, q _ H1 e1 ⟨fun i H d x hd => ⟨Src.ok_ex x sd.ok, ?_⟩, fun i H d v H' x hd y => ?_, fun H x => ⟨Src.ok_ex x sd.ok, ?_⟩⟩⟩⟩
  · obtain ⟨d', h1, _⟩ := enu_get hd
    rw [sd.len]; exact (List.getElem?_eq_some_iff.mp h1).1
  · obtain ⟨d', h1, rfl⟩ := enu_get hd
    obtain ⟨T, u, rfl, hT, rfl, hu⟩ := y
    obtain ⟨v', h2, h3⟩ := sd.at_ i d' h1
    rw [hu] at h2
    cases h2
    exact ⟨Ex.new hT, rep_two upd_same .int ((h3.ex x).ex (Ex.new hT))⟩
  · rw [sd.len]; simp [enu]
/-- side by side -/
def zpp (ds ds2 : List D) : List D := (ds.zip ds2).map fun p => .tup [p.1, p.2]
theorem zpp_get {i : Nat} (h : (zpp ds ds2)[i]? = some d) : ∃ d1 d2, ds[i]? = some d1 ∧ ds2[i]? = some d2 ∧ d = .tup [d1, d2] := by
  unfold zpp at h
  rw [List.getElem?_map] at h
  cases z : (ds.zip ds2)[i]? with
  | none => rw [z] at h; cases h
  | some q =>
    rw [z] at h
    have h1 := Option.some.inj h
    obtain ⟨h2, h3⟩ := List.getElem?_zip_eq_some.mp z
    exact ⟨q.1, q.2, h2, h3, h1.symm⟩
theorem ei_zip {elts : List Expr} {kk : Nat} {tpos : Pos} (hm : X.mg "zip" = none) (h : ES X C ρ mu e ds) (h2 : ES X C ρ mu e2 ds2) (hg : Gl X "zip" := by rfl) (hs : starEach [e, e2] X.env = (false, eval e X.env) :: starEach [e2] X.env := by rfl)
    (hs2 : starEach [e2] X.env = (false, eval e2 X.env) :: starEach [] X.env := by rfl) (hpl : (backTo pos (starEach [e2] X.env)).any (·.1) = false := by rfl) :
    EI X C ρ mu (.Tuple elts kk tpos) (.Call (.Name "zip" p) [e, e2] [] pos) (zpp ds ds2) := by
  obtain ⟨te, pe, ve⟩ := h
  obtain ⟨te2, pe2, ve2⟩ := h2
  refine ⟨_, pi_zpS hg hm (pa_cons pe (pa_cons pe2 pa_nil hs2) hs) hs hpl, fun G σ H ok R q => ve G σ H ok _ fun S H1 e1 sd => ve2 G σ H1 (ok.mono e1) _ fun S2 H2 e2 sd2 => ?_⟩
  have o1 : S.ok X.K (hole H2 mu) := Src.ok_ex (hole_mono e2) sd.ok
  refine ⟨S, S2, rfl, Src.ok_ex hole_le o1, Src.ok_ex hole_le sd2.ok, q _ H2 (e1.trans e2) ⟨fun i H d x hd => ⟨Src.ok_ex x o1, Src.ok_ex x sd2.ok, ?_, ?_⟩, fun i H d v H' x hd y => ?_, fun H x => ⟨Src.ok_ex x o1, Src.ok_ex x sd2.ok, ?_⟩⟩⟩
  · obtain ⟨d1, d2, k1, k2, _⟩ := zpp_get hd
    rw [sd.len]; exact (List.getElem?_eq_some_iff.mp k1).1
  · obtain ⟨d1, d2, k1, k2, _⟩ := zpp_get hd
    rw [sd2.len]; exact (List.getElem?_eq_some_iff.mp k2).1
  · obtain ⟨d1, d2, k1, k2, rfl⟩ := zpp_get hd
    obtain ⟨T, u, u2, rfl, hT, rfl, hu, hu2⟩ := y
    obtain ⟨v', h2, h3⟩ := sd.at_ i d1 k1
    obtain ⟨v2, h4, h5⟩ := sd2.at_ i d2 k2
    rw [hu] at h2
    cases h2
    rw [hu2] at h4
    cases h4
    exact ⟨Ex.new hT, rep_two upd_same (((h3.ex (hole_mono e2)).ex x).ex (Ex.new hT)) ((h5.ex x).ex (Ex.new hT))⟩
  · rw [sd.len, sd2.len]; simp [zpp]
/-! ### targets -/
def EG (X : Cx) (C : Cs) (mu : Mu) (vs : List Nat) (tg : Expr) (d : D) (ρ ρ' : Rho) : Prop :=
  ∃ g, PG X tg g ∧ ∀ G σ H v, EnvOk X.K C G σ H ρ mu → Rep X.K C none H d v → ∀ Q : L2.St → Hp → Prop, (∀ σ', EnvOk X.K C G σ' H ρ' mu → wipe σ' vs = wipe σ vs → Q σ' H) → g v σ H Q
def EGs (X : Cx) (C : Cs) (mu : Mu) (vs : List Nat) (ts : List Expr) (ds : List D) (ρ ρ' : Rho) : Prop :=
  ∃ g, PGs X ts g ∧ ∀ G σ H ws, EnvOk X.K C G σ H ρ mu → Reps X.K C none H ds ws → ∀ Q : L2.St → Hp → Prop, (∀ σ', EnvOk X.K C G σ' H ρ' mu → wipe σ' vs = wipe σ vs → Q σ' H) → g ws σ H Q
theorem eg_name (i : Nat) {x : Str} (hN : X.N.Nodup) (hd : May mu i d) (hi : X.N[i]? = some x := by rfl) (hv : i ∈ vs := by decide) (hx : Loc X.env.scope x := by first | exact Or.inl rfl | exact Or.inr rfl)
    (hf : X.fn x = true ∨ X.env.scope.names.lookup x = some .local := by first | exact .inl rfl | exact .inr rfl) : EG X C mu vs (.Name x pos) d ρ (ρ.set i (some d)) :=
  ⟨_, pg_name hN hi hx hf, fun G σ H v ok r Q q => q _ (ok.set i (hd.rep r) hd.ne) (wipe_set hv)⟩
theorem egs_no : EGs X C mu vs [] [] ρ ρ := ⟨_, pgs_nil, fun G σ H ws ok r Q q => ⟨r.unnil, q σ ok rfl⟩⟩
theorem egs_c {ρ2 : Rho} (h : EG X C mu vs e d ρ ρ2) (hr : EGs X C mu vs es ds ρ2 ρ') (hs : (assignEach (e :: es) X.env).map (·.2) = assign e X.env :: (assignEach es X.env).map (·.2) := by rfl) : EGs X C mu vs (e :: es) (d :: ds) ρ ρ' := by
  obtain ⟨g, pg, vg⟩ := h
  obtain ⟨gs, pgs, vgs⟩ := hr
  refine ⟨_, pgs_cons pg pgs hs, fun G σ H ws ok r Q q => ?_⟩
  obtain ⟨v, vs', rfl, r1, r2⟩ := r.uncons
  exact ⟨v, vs', rfl, vg G σ H v ok r1 _ fun σ1 ok1 w1 => vgs G σ1 H vs' ok1 r2 Q fun σ2 ok2 w2 => q σ2 ok2 (w2.trans w1)⟩
theorem eg_tup {k : Nat} (h : EGs X C mu vs es ds ρ ρ') (hc : X.calm = true := by rfl) (hn : (assignEach es X.env).length = ds.length := by rfl) (hst : (assignEach es X.env).findIdx? (·.1) = none := by rfl) : EG X C mu vs (.Tuple es k pos) (.tup ds) ρ ρ' := by
  obtain ⟨g, pg, vg⟩ := h
  refine ⟨_, pg_tup hc pg hn hst, fun G σ H v ok r Q q => ?_⟩
  cases r with
  | @tup a ws _ h l at_ => exact ⟨a, ws, rfl, h, l.symm, vg G σ H ws ok ⟨l, at_⟩ Q q⟩
/-! ### for, while -/
variable {E : DE} {s : Stmt} {ss body : List Stmt}
theorem s1_for (Iv : Nat → Rho → Mu → Prop) (ei : EI X C ρ mu tg iter ds) (h0 : Iv 0 ρ mu) (vs : List Nat)
    (hs : ∀ i d ρ1 mu1, ds[i]? = some d → Iv i ρ1 mu1 → ∃ ρ2, EG X C mu1 vs tg d ρ1 ρ2 ∧ SS X C ρ2 mu1 body ⟨Iv (i + 1), E.rt⟩) (hd : ∀ ρ1 mu1, Iv ds.length ρ1 mu1 → E.nx ρ1 mu1)
    (hp : PassesOwn (model X.prog X.w) X.A X.env X.xe := by exact PassesOwn.never) (hc : X.calm = true := by rfl) (hf : ∀ x, foldedSetIterable iter X.env x = pure x := by intro _; rfl) : S1 X C ρ mu (.For tg iter body [] pos) E := by
  obtain ⟨wi, pi, vi⟩ := ei
  have pg : PG X tg (fun v σ H Q => ∃ g, PG X tg g ∧ g v σ H Q) := ⟨fun pins s σ H v u Q I r ⟨g, p', q⟩ => p'.run pins s σ H v u Q I r q⟩
  have pb : PSs X body (fun Dn σ H => ∃ t', PSs X body t' ∧ t' Dn σ H) := ⟨fun pins s σ H D I ⟨t', p', q⟩ => p'.run pins s σ H D I q⟩
  refine ⟨_, ps_for hp hc pi pg pb hf, fun G σ H ok Dn sat => vi G σ H ok _ fun J H1 e1 yl => ?_⟩
  have ok1 : EnvOk X.K C (hole H1 mu) σ H1 ρ mu := (ok.mono e1).holed
  have bs : Ex G (hole H1 mu) := hole_ex (ok.mono e1)
  refine ⟨fun i m σ' H' => i ≤ ds.length ∧ m = ds.length - i ∧ ∃ ρ' mu', EnvOk X.K C (hole H1 mu) σ' H' ρ' mu' ∧ Iv i ρ' mu', ⟨ds.length, Nat.zero_le _, rfl, ρ, mu, ok1, h0⟩, ?_⟩
  rintro i m σ' H' ⟨hi, rfl, ρ', mu', ok', iv⟩
  by_cases hlt : i < ds.length
  · have hd' : ds[i]? = some ds[i] := List.getElem?_eq_getElem hlt
    obtain ⟨ρ2, ⟨g, pg', vg⟩, tb, pb', vb⟩ := hs i _ ρ' mu' hd' iv
    refine .inr ⟨yl.go i H' _ ok'.ex hd', fun σ3 H3 => ∃ ρ3 mu3, EnvOk X.K C (hole H1 mu) σ3 H3 ρ3 mu3 ∧ Iv (i + 1) ρ3 mu3, fun σ3 H3 q => ⟨ds.length - (i + 1), by omega, hlt, rfl, q⟩, fun x H2 y => ?_⟩
    obtain ⟨x2, r2⟩ := yl.yl i H' _ x H2 ok'.ex hd' y
    refine ⟨g, pg', vg _ σ' H2 x (ok'.mono x2) r2 _ fun σ3 ok3 _ => ⟨tb, pb', vb _ σ3 H2 ok3 _ ⟨fun σ4 H4 ρ4 mu4 ok4 q => ⟨ρ4, mu4, ok4, q⟩, fun σ4 H4 ρ4 mu4 v d ok4 r q => sat.rt σ4 H4 ρ4 mu4 v d (ok4.base bs) r q⟩⟩⟩
  · have e : i = ds.length := by omega
    subst e
    exact .inl ⟨yl.stop H' ok'.ex, sat.nx σ' H' ρ' mu' (ok'.base bs) (hd ρ' mu' iv)⟩
theorem s1_while (Iv : Nat → Rho → Mu → Prop) (n : Nat) (h0 : Iv n ρ mu)
    (hs : ∀ m ρ1 mu1, Iv m ρ1 mu1 → ∃ b, EB X C ρ1 mu1 c b ∧ (b = true → SS X C ρ1 mu1 body ⟨fun ρ2 mu2 => ∃ m', m' < m ∧ Iv m' ρ2 mu2, E.rt⟩) ∧ (b = false → E.nx ρ1 mu1))
    (hp : PassesOwn (model X.prog X.w) X.A X.env X.xe := by exact PassesOwn.never) : S1 X C ρ mu (.While c body [] pos) E := by
  have pt : PT X c (fun σ H Q => ∃ t, PT X c t ∧ t σ H Q) := ⟨fun pins s σ H Q I ⟨t, p', q⟩ => p'.run pins s σ H Q I q⟩
  have pb : PSs X body (fun Dn σ H => ∃ t', PSs X body t' ∧ t' Dn σ H) := ⟨fun pins s σ H D I ⟨t', p', q⟩ => p'.run pins s σ H D I q⟩
  refine ⟨_, ps_while hp pt pb, fun G σ H ok Dn sat => ?_⟩
  refine ⟨fun m σ' H' => ∃ ρ' mu', EnvOk X.K C G σ' H' ρ' mu' ∧ Iv m ρ' mu', ⟨n, ρ, mu, ok, h0⟩, ?_⟩
  rintro m σ' H' ⟨ρ', mu', ok', iv⟩
  obtain ⟨b, ⟨tc, pc, vc⟩, h1, h2⟩ := hs m ρ' mu' iv
  refine ⟨tc, pc, vc G σ' H' ok' _ fun H2 e2 => ?_⟩
  cases b with
  | true =>
    rw [if_pos rfl]
    obtain ⟨tb, pb', vb⟩ := h1 rfl
    refine ⟨fun σ3 H3 => ∃ m', m' < m ∧ ∃ ρ3 mu3, EnvOk X.K C G σ3 H3 ρ3 mu3 ∧ Iv m' ρ3 mu3, fun σ3 H3 q => q, tb, pb', vb G σ' H2 (ok'.mono e2) _ ⟨fun σ4 H4 ρ4 mu4 ok4 ⟨m', hm, q⟩ => ⟨m', hm, ρ4, mu4, ok4, q⟩, sat.rt⟩⟩
  | false =>
    rw [if_neg Bool.false_ne_true]
    exact sat.nx σ' H2 ρ' mu' (ok'.mono e2) (h2 rfl)
end
end Dd
set_option maxHeartbeats 2000000
/-! Comprehensions over data. -/
namespace Dd
open PySem PySem.Spec PyProof.Rows L2 Evl
/-- in a block's context, whatever its cells -/
abbrev Blk (X : Cx) (scope : Scope) (P : Cx → Prop) : Prop := ∀ (s : Shared) (H : Hp) (c : Addr) (cl : List (Str × Addr)) (fp : List Addr), P (X.blk s H scope (compEnvC scope cl c X.env) fp)
/-- a clause's tests -/
def ET (X : Cx) (C : Cs) (ρ : Rho) (mu : Mu) (ifs : List Expr) (b : Bool) : Prop :=
  ∃ tt, PTs X ifs tt ∧ ∀ G σ H, EnvOk X.K C G σ H ρ mu → ∀ Q : Bool → Hp → Prop, (∀ H2, Ex H H2 → Q b H2) → tt σ H Q
theorem et_no {X : Cx} {C : Cs} {ρ : Rho} {mu : Mu} : ET X C ρ mu [] true := ⟨_, pts_nil, fun G σ H ok Q q => q H (Ex.refl H)⟩
theorem et_one {X : Cx} {C : Cs} {ρ : Rho} {mu : Mu} {e : Expr} {b : Bool} (h : EB X C ρ mu e b) : ET X C ρ mu [e] b := let ⟨t, pt, v⟩ := h; ⟨t, pts_one pt, v⟩
theorem wipe_wipe (σ : L2.St) (vs : List Nat) : wipe (wipe σ vs) vs = wipe σ vs := by
  apply List.ext_getElem?
  intro i
  by_cases h : i ∈ vs
  · have key : ∀ (τ : L2.St) (ws : List Nat), i ∈ ws → i < τ.length → (wipe τ ws)[i]? = some none := fun τ ws => by
      induction ws with
      | nil => intro z; cases z
      | cons w ws ih =>
        intro z hl
        unfold wipe
        by_cases e : w = i
        · rw [e, List.getElem?_set_self (by rw [wipe_length]; exact hl)]
        · rw [List.getElem?_set_ne e]
          exact ih ((List.mem_cons.mp z).resolve_left fun q => e q.symm) hl
    by_cases hl : i < σ.length
    · rw [key _ _ h hl, key _ _ h (by rw [wipe_length]; exact hl)]
    · rw [List.getElem?_eq_none (by rw [wipe_length, wipe_length]; omega), List.getElem?_eq_none (by rw [wipe_length]; omega)]
  · rw [wipe_keep h]
theorem take_next {α : Type} {l : List (Option α)} {i : Nat} {o : Option α} (h : l[i]? = some o) : (l.take (i + 1)).filterMap id = (l.take i).filterMap id ++ o.toList := by
  rw [List.take_add_one, h, List.filterMap_append]
  cases o <;> rfl
theorem fm_len {α : Type} (l : List (Option α)) (i : Nat) : ((l.take i).filterMap id).length ≤ i := Nat.le_trans (List.length_filterMap_le _ _) (by rw [List.length_take]; omega)
section
variable {X : Cx} {C : Cs} {ρ : Rho} {mu : Mu} {e : Expr} {ds : List D} {pos : Pos} {tg iter elt tg1 iter1 : Expr} {ifs ifs1 : List Expr} {scope : Scope} {own : List (Str × Nat)}
/-- one turn of a block: the target bound, the tests, the element -/
def Turn1 (X : Cx) (scope : Scope) (C : Cs) (mu : Mu) (vs : List Nat) (tg : Expr) (ifs : List Expr) (elt : Expr) (ρ : Rho) (d : D) (o : Option D) : Prop :=
  ∃ ρ2, Blk X scope (fun Y => EG Y C mu vs tg d ρ ρ2) ∧ ((∃ d', o = some d' ∧ Im d' ∧ Blk X scope (fun Y => ET Y C ρ2 mu ifs true) ∧ Blk X scope (fun Y => EE Y C ρ2 mu elt d')) ∨ (o = none ∧ Blk X scope (fun Y => ET Y C ρ2 mu ifs false)))
/-- a comprehension: as a value, or stored at once -/
def EL (X : Cx) (C : Cs) (ρ : Rho) (mu : Mu) (e : Expr) (ds : List D) : Prop :=
  ∃ te, PE X e te ∧ (∀ (i : Nat) (y : Str) (py spos : Pos), X.N[i]? = some y → X.env.scope.names.lookup y = some .local → swapsWith e (some (.Name y py)) spos.line X.env = pure true → PS X (.Assign [.Name y py] e spos) (tAsg te (gName i))) ∧
    ∀ G σ H, EnvOk X.K C G σ H ρ mu → ∀ Q : VK, (∀ p vs H2, H p = none → Ex H H2 → H2 p = some (.lst vs) → Reps X.K C none H2 ds vs → Q (.ref p) H2) → te σ H Q
theorem EL.en (h : EL X C ρ mu e ds) : EN X C ρ mu e ds := let ⟨te, pe, _, v⟩ := h; ⟨te, pe, v⟩
theorem EL.ee (h : EL X C ρ mu e ds) : EE X C ρ mu e (.lst ds) := h.en.ee
theorem EL.is {ds' : List D} (h : EL X C ρ mu e ds) (z : ds = ds') : EL X C ρ mu e ds' := z ▸ h
theorem el_lcI (outs : List (Option D)) (ei : EI X C ρ mu tg iter ds) (hN : X.N.Nodup) (ok : BlkOk X.N X.env.scope scope own) (hj : ∀ l j xs, mu = some (l, j, xs) → j ∉ own.map (·.2)) (hl : outs.length = ds.length) (hz : ds.length ≤ 10000)
    (body : ∀ (i : Nat) (d : D) (o : Option D), ds[i]? = some d → outs[i]? = some o → Turn1 X scope C mu (own.map (·.2)) tg ifs elt (wr ρ (own.map (·.2))) d o)
    (hc : X.calm = true := by rfl) (hs : ∀ x, foldedSetIterable iter X.env x = pure x := by intro _; rfl) : EL X C ρ mu (.ListComp elt [⟨tg, iter, ifs, 0⟩] scope pos) (outs.filterMap id) := by
  obtain ⟨wi, pi, vi⟩ := ei
  have pg0 : ∀ (s : Shared) (H : Hp) (c : Addr) (cl : List (Str × Addr)) (fp : List Addr), PG (X.blk s H scope (compEnvC scope cl c X.env) fp) tg (fun v σ H Q => Blk X scope fun Y => ∃ g, PG Y tg g ∧ g v σ H Q) := fun s0 H0 c0 cl fp => ⟨fun pins s σ H v u Q I r q => let ⟨g, p, q⟩ := q s0 H0 c0 cl fp; p.run pins s σ H v u Q I r q⟩
  have pt0 : ∀ (s : Shared) (H : Hp) (c : Addr) (cl : List (Str × Addr)) (fp : List Addr), PTs (X.blk s H scope (compEnvC scope cl c X.env) fp) ifs (fun σ H Q => Blk X scope fun Y => ∃ t, PTs Y ifs t ∧ t σ H Q) := fun s0 H0 c0 cl fp => ⟨fun pins s σ H Q I q => let ⟨g, p, q⟩ := q s0 H0 c0 cl fp; p.run pins s σ H Q I q⟩
  have pe0 : ∀ (s : Shared) (H : Hp) (c : Addr) (cl : List (Str × Addr)) (fp : List Addr), PE (X.blk s H scope (compEnvC scope cl c X.env) fp) elt (fun σ H Q => Blk X scope fun Y => ∃ t, PE Y elt t ∧ t σ H Q) := fun s0 H0 c0 cl fp => ⟨fun pins s σ H Q I q => let ⟨g, p, q⟩ := q s0 H0 c0 cl fp; p.run pins s σ H Q I q⟩
  refine ⟨_, pe_lc hc hN pi ok pg0 pt0 pe0 hs, fun i y py spos hy hyl hsw => ps_setLc hc hN hy hyl hsw pi ok pg0 pt0 pe0 hs, fun G σ H okE Q q => vi G σ H okE _ fun J H1 e1 yl Dn hD => ?_⟩
  have ok1 := okE.mono e1
  refine ⟨fun i m H' => i ≤ ds.length ∧ m = ds.length - i ∧ Ex H1 H' ∧ ∃ acc, H' Dn = some (.lst acc) ∧ Reps X.K C (some Dn) H' ((outs.take i).filterMap id) acc, ⟨ds.length, Nat.zero_le _, rfl, Ex.new hD, [], upd_same, by rw [List.take_zero]; exact Reps.nil⟩, ?_⟩
  rintro i m H' ⟨hi, rfl, x1, acc, hacc, racc⟩
  by_cases hlt : i < ds.length
  · have hd' : ds[i]? = some ds[i] := List.getElem?_eq_getElem hlt
    have ho' : outs[i]? = some (outs[i]'(by omega)) := List.getElem?_eq_getElem (by omega)
    generalize ds[i] = d at hd'
    generalize outs[i]'(by omega) = o at ho'
    obtain ⟨ρ2, tgt, rest⟩ := body i d o hd' ho'
    refine .inr ⟨yl.go i H' d (hole_le.trans x1) hd', fun H3 => Ex H1 H3 ∧ ∃ acc, H3 Dn = some (.lst acc) ∧ Reps X.K C (some Dn) H3 ((outs.take (i + 1)).filterMap id) acc, fun H3 q => ⟨ds.length - (i + 1), by omega, hlt, rfl, q⟩, fun x H2 y => ?_⟩
    obtain ⟨x2, r2⟩ := yl.yl i H' d x H2 (hole_le.trans x1) hd' y
    have okw : EnvOk X.K C G (wipe σ (own.map (·.2))) H2 (wr ρ (own.map (·.2))) mu := ((ok1.mono x1).mono x2).wipe _ hj
    intro s0 H0 c0 cl fp
    obtain ⟨g, pg, vg⟩ := tgt s0 H0 c0 cl fp
    refine ⟨g, pg, vg G _ H2 x okw r2 _ fun σ2 ok2 w2 => ⟨by rw [w2, wipe_wipe], fun s0 H0 c0 cl fp => ?_⟩⟩
    rcases rest with ⟨d', rfl, im, tst, el⟩ | ⟨rfl, tst⟩
    · obtain ⟨t, pt, vt⟩ := tst s0 H0 c0 cl fp
      refine ⟨t, pt, vt G σ2 H2 ok2 _ fun H3 x3 => ?_⟩
      rw [if_pos rfl]
      intro s0 H0 c0 cl fp
      obtain ⟨te, pe, ve⟩ := el s0 H0 c0 cl fp
      refine ⟨te, pe, ve G σ2 H3 (ok2.mono x3) _ fun v H4 x4 r4 => ?_⟩
      have xx : Ex H' H4 := (x2.trans x3).trans x4
      refine ⟨acc, xx.at hacc, ?_, ?_, acc ++ [v], upd_same, ?_⟩
      · rw [← racc.len]
        exact Nat.lt_of_le_of_lt (Nat.le_trans (fm_len outs i) (Nat.le_trans hi hz)) (by decide)
      · exact (x1.trans xx).mut hD
      · rw [take_next ho']
        have rr := Reps.app (racc.ex xx) (Reps.cons (r4.im im (some Dn)) Reps.nil)
        exact ⟨rr.len, fun k d v h1 h2 => Rep.mut (xx.at hacc) (rr.at_ k d v h1 h2)⟩
    · obtain ⟨t, pt, vt⟩ := tst s0 H0 c0 cl fp
      refine ⟨t, pt, vt G σ2 H2 ok2 _ fun H3 x3 => ?_⟩
      rw [if_neg Bool.false_ne_true]
      refine ⟨x1.trans (x2.trans x3), acc, (x2.trans x3).at hacc, ?_⟩
      rw [take_next ho']
      simpa using racc.ex (x2.trans x3)
  · have ei : i = ds.length := by omega
    subst ei
    refine .inl ⟨yl.stop H' (hole_le.trans x1), q Dn acc H' (fresh_back e1 hD) (e1.trans x1) hacc ?_⟩
    rw [List.take_of_length_le (by omega)] at racc
    exact racc.any
/-- mapped: the items are those of L -/
theorem el_map {α : Type} (L : List α) (g h : α → D) (ei : EI X C ρ mu tg iter (L.map g)) (hN : X.N.Nodup) (ok : BlkOk X.N X.env.scope scope own) (hj : ∀ l j xs, mu = some (l, j, xs) → j ∉ own.map (·.2)) (hz : L.length ≤ 10000)
    (body : ∀ x, x ∈ L → Turn1 X scope C mu (own.map (·.2)) tg ifs elt (wr ρ (own.map (·.2))) (g x) (some (h x)))
    (hc : X.calm = true := by rfl) (hs : ∀ x, foldedSetIterable iter X.env x = pure x := by intro _; rfl) : EL X C ρ mu (.ListComp elt [⟨tg, iter, ifs, 0⟩] scope pos) (L.map h) := by
  have k := el_lcI (pos := pos) (ifs := ifs) (elt := elt) (L.map fun x => some (h x)) ei hN ok hj (by simp) (by simpa using hz) (fun i d o h1 h2 => ?_) hc hs
  · refine k.is ?_
    rw [List.filterMap_map]
    have : (id ∘ fun x => some (h x)) = fun x => some (h x) := rfl
    rw [this]
    induction L with
    | nil => rfl
    | cons x L ih => simp
  · rw [List.getElem?_map] at h1 h2
    cases z : L[i]? with
    | none => rw [z] at h1; cases h1
    | some x =>
      rw [z] at h1 h2
      rw [← Option.some.inj h1, ← Option.some.inj h2]
      exact body x (List.mem_of_getElem? z)
/-- .. and those that pass the test -/
theorem el_filt {α : Type} (L : List α) (p : α → Bool) (g h : α → D) (ei : EI X C ρ mu tg iter (L.map g)) (hN : X.N.Nodup) (ok : BlkOk X.N X.env.scope scope own) (hj : ∀ l j xs, mu = some (l, j, xs) → j ∉ own.map (·.2)) (hz : L.length ≤ 10000)
    (body : ∀ x, x ∈ L → Turn1 X scope C mu (own.map (·.2)) tg ifs elt (wr ρ (own.map (·.2))) (g x) (if p x then some (h x) else none))
    (hc : X.calm = true := by rfl) (hs : ∀ x, foldedSetIterable iter X.env x = pure x := by intro _; rfl) : EL X C ρ mu (.ListComp elt [⟨tg, iter, ifs, 0⟩] scope pos) ((L.filter p).map h) := by
  have k := el_lcI (pos := pos) (ifs := ifs) (elt := elt) (L.map fun x => if p x then some (h x) else none) ei hN ok hj (by simp) (by simpa using hz) (fun i d o h1 h2 => ?_) hc hs
  · refine k.is ?_
    clear k body ei hz
    induction L with
    | nil => rfl
    | cons x L ih =>
      rw [List.map_cons, List.filterMap_cons]
      by_cases q : p x = true
      · rw [if_pos q, List.filter_cons_of_pos q, List.map_cons, ← ih]; rfl
      · rw [if_neg q, List.filter_cons_of_neg q, ← ih]; rfl
  · rw [List.getElem?_map] at h1 h2
    cases z : L[i]? with
    | none => rw [z] at h1; cases h1
    | some x =>
      rw [z] at h1 h2
      rw [← Option.some.inj h1, ← Option.some.inj h2]
      exact body x (List.mem_of_getElem? z)
/-- a turn without tests -/
theorem turn_e {vs : List Nat} {d d' : D} {ρ ρ2 : Rho} (hg : Blk X scope fun Y => EG Y C mu vs tg d ρ ρ2) (im : Im d') (he : Blk X scope fun Y => EE Y C ρ2 mu elt d') : Turn1 X scope C mu vs tg [] elt ρ d (some d') :=
  ⟨ρ2, hg, .inl ⟨d', rfl, im, fun _ _ _ _ _ => et_no, he⟩⟩
theorem turn_t {vs : List Nat} {d d' : D} {ρ ρ2 : Rho} {c : Expr} {b : Bool} (hg : Blk X scope fun Y => EG Y C mu vs tg d ρ ρ2) (ht : Blk X scope fun Y => EB Y C ρ2 mu c b) (im : Im d') (he : b = true → Blk X scope fun Y => EE Y C ρ2 mu elt d') :
    Turn1 X scope C mu vs tg [c] elt ρ d (if b then some d' else none) := by
  cases b with
  | true => exact ⟨ρ2, hg, .inl ⟨d', rfl, im, fun s H c cl fp => et_one (ht s H c cl fp), he rfl⟩⟩
  | false => exact ⟨ρ2, hg, .inr ⟨rfl, fun s H c cl fp => et_one (ht s H c cl fp)⟩⟩
/-- name = [..], kept -/
theorem s1_setL (i : Nat) {E : DE} {x : Str} {p' : Pos} (he : EL X C ρ mu e ds) (im : ∀ d, d ∈ ds → Im d) (hj : ∀ l j xs, mu = some (l, j, xs) → j ≠ i) (h : E.nx (ρ.set i (some (.lst ds))) mu) (hi : X.N[i]? = some x := by rfl) (hx : X.env.scope.names.lookup x = some .local := by rfl)
    (hs : swapsWith e (some (.Name x p')) pos.line X.env = pure true := by exact sw_true rfl rfl rfl (by decide +kernel)) : S1 X C ρ mu (.Assign [.Name x p'] e pos) E := by
  obtain ⟨te, _, ps, v⟩ := he
  refine ⟨_, ps i x p' pos hi hx hs, fun G σ H ok Dn sat => v G σ H ok _ fun p vs H2 hp e2 h2 r => sat.nx _ H2 _ _ ((ok.mono e2).set i (.lst (fun z => ?_) (.inl h2) r.len (r.im im _).at_) hj) h⟩
  cases mu with
  | none => cases z
  | some m =>
    obtain ⟨l, j, ds'⟩ := m
    have el : l = p := Option.some.inj z
    subst el
    obtain ⟨_, _, _, vs', h4, _⟩ := ok.mu l j ds' rfl
    rw [hp] at h4
    cases h4
/-- name = a list just made, kept -/
theorem s1_setN (i : Nat) {E : DE} {x : Str} {p' : Pos} (he : EN X C ρ mu e ds) (im : ∀ d, d ∈ ds → Im d) (hj : ∀ l j xs, mu = some (l, j, xs) → j ≠ i) (h : E.nx (ρ.set i (some (.lst ds))) mu) (hN : X.N.Nodup) (hi : X.N[i]? = some x := by rfl) (hx : Loc X.env.scope x := by first | exact Or.inl rfl | exact Or.inr rfl)
    (hs : swapsWith e (some (.Name x p')) pos.line X.env = pure false := by rfl) (hf : X.fn x = true ∨ X.env.scope.names.lookup x = some .local := by first | exact .inl rfl | exact .inr rfl) : S1 X C ρ mu (.Assign [.Name x p'] e pos) E := by
  obtain ⟨te, pe, v⟩ := he
  refine ⟨_, ps_set hN hi hx pe hs hf, fun G σ H ok Dn sat => v G σ H ok _ fun p vs H2 hp e2 h2 r => sat.nx _ H2 _ _ ((ok.mono e2).set i (.lst (fun z => ?_) (.inl h2) r.len (r.im im _).at_) hj) h⟩
  cases mu with
  | none => cases z
  | some m =>
    obtain ⟨l, j, ds'⟩ := m
    have el : l = p := Option.some.inj z
    subst el
    obtain ⟨_, _, _, vs', h4, _⟩ := ok.mu l j ds' rfl
    rw [hp] at h4
    cases h4
/-- name = [..] that will change -/
theorem s1_newL (i : Nat) {E : DE} {x : Str} {p' : Pos} (he : EL X C ρ none e ds) (im : ∀ d, d ∈ ds → Im d) (hl : i < ρ.length) (h : ∀ l, E.nx (ρ.set i none) (some (l, i, ds))) (hi : X.N[i]? = some x := by rfl) (hx : X.env.scope.names.lookup x = some .local := by rfl)
    (hs : swapsWith e (some (.Name x p')) pos.line X.env = pure true := by exact sw_true rfl rfl rfl (by decide +kernel)) : S1 X C ρ none (.Assign [.Name x p'] e pos) E := by
  obtain ⟨te, _, ps, v⟩ := he
  exact ⟨_, ps i x p' pos hi hx hs, fun G σ H ok Dn sat => v G σ H ok _ fun p vs H2 hp e2 h2 r => sat.nx _ H2 _ _ (ok.new i hl hp e2 h2 r im) (h p)⟩
end
end Dd
set_option maxHeartbeats 2000000
/-! More of the layer: indices, slices, sums, stores. -/
namespace Dd
open PySem PySem.Spec PyProof.Rows L2 Evl
section
variable {X : Cx} {C : Cs} {ρ : Rho} {mu : Mu} {a b c e e1 e2 : Expr} {es : List Expr} {d d1 d2 : D} {ds ds2 : List D} {pos p : Pos} {i j : Int} {xs : List Int} {E : DE}
/-- an item of a list of whole numbers -/
def gt (xs : List Int) (i : Int) : Int := xs.getD i.toNat 0
theorem atI_of {ds : List D} {i : Int} (h0 : 0 ≤ i) (h1 : i < ds.length) (h : ds[i.toNat]? = some d) : L2.atI ds i = some d := by
  unfold L2.atI L2.ixN
  split
  · exact h
  · omega
theorem atI_nts {i : Int} (h0 : 0 ≤ i) (h1 : i < xs.length) : L2.atI (nts xs) i = some (.int (gt xs i)) := by
  refine atI_of h0 (by simpa using h1) ?_
  have hl : i.toNat < xs.length := by omega
  unfold nts gt
  rw [List.getElem?_map, List.getD_eq_getElem?_getD, List.getElem?_eq_getElem hl]
  rfl
theorem ee_ixI (ha : EE X C ρ mu a (it xs)) (hb : EE X C ρ mu b (.int i)) (h0 : 0 ≤ i) (h1 : i < xs.length) (hs : PlainIx b := by exact fun _ _ => rfl) : EE X C ρ mu (.Subscript a b pos) (.int (gt xs i)) := ee_ixT ha hb (atI_nts h0 h1) hs
theorem ee_ixIL (ha : EE X C ρ mu a (il xs)) (hb : EE X C ρ mu b (.int i)) (h0 : 0 ≤ i) (h1 : i < xs.length) (hs : PlainIx b := by exact fun _ _ => rfl) : EE X C ρ mu (.Subscript a b pos) (.int (gt xs i)) := ee_ixL ha hb (atI_nts h0 h1) hs
theorem ee_lenI (hm : X.mg "len" = none) (ha : EE X C ρ mu e (it xs)) (hg : Gl X "len" := by rfl) (he : starEach [e] X.env = (false, eval e X.env) :: starEach [] X.env := by rfl) (hpl : (backTo pos (starEach [] X.env)).any (·.1) = false := by rfl) :
    EE X C ρ mu (.Call (.Name "len" p) [e] [] pos) (.int xs.length) := (ee_lenT hm ha hg he hpl).is (by rw [List.length_map])
theorem ee_lenIL (hm : X.mg "len" = none) (ha : EE X C ρ mu e (il xs)) (hg : Gl X "len" := by rfl) (he : starEach [e] X.env = (false, eval e X.env) :: starEach [] X.env := by rfl) (hpl : (backTo pos (starEach [] X.env)).any (·.1) = false := by rfl) :
    EE X C ρ mu (.Call (.Name "len" p) [e] [] pos) (.int xs.length) := (ee_lenL hm ha hg he hpl).is (by rw [List.length_map])
/-! ### comparisons as tests -/
theorem eb_cmp {op : CmpOp} {g : Int → Int → Bool} (ho : OpR X (compareOp op) (rI0 fun i j => .bl (g i j))) (ha : EE X C ρ mu a (.int i)) (hb : EE X C ρ mu b (.int j)) (hm : behindInMarks op b = false) : EB X C ρ mu (.Compare a [op] [b] pos) (g i j) := by
  obtain ⟨ta, pa, va⟩ := ha
  obtain ⟨tb, pb, vb⟩ := hb
  refine ⟨_, pt_cmpR ho pa pb hm, fun G σ H ok Q q => va G σ H ok _ fun v1 H1 e1 r1 => vb G σ H1 (ok.mono e1) _ fun v2 H2 e2 r2 => ?_⟩
  cases r1
  cases r2
  exact ⟨i, j, rfl, rfl, _, rfl, q H2 (e1.trans e2)⟩
theorem eb_lt (ha : EE X C ρ mu a (.int i)) (hb : EE X C ρ mu b (.int j)) : EB X C ρ mu (.Compare a [.Lt] [b] pos) (decide (i < j)) := eb_cmp op_lt ha hb (nomark _)
theorem eb_le (ha : EE X C ρ mu a (.int i)) (hb : EE X C ρ mu b (.int j)) : EB X C ρ mu (.Compare a [.LtE] [b] pos) (decide (i ≤ j)) := eb_cmp op_le ha hb (nomark _)
theorem eb_gt (ha : EE X C ρ mu a (.int i)) (hb : EE X C ρ mu b (.int j)) : EB X C ρ mu (.Compare a [.Gt] [b] pos) (decide (j < i)) := eb_cmp op_gt ha hb (nomark _)
theorem eb_ge (ha : EE X C ρ mu a (.int i)) (hb : EE X C ρ mu b (.int j)) : EB X C ρ mu (.Compare a [.GtE] [b] pos) (decide (j ≤ i)) := eb_cmp op_ge ha hb (nomark _)
/-- any comparison whose answer is told -/
theorem eb_rel {op : CmpOp} {r : R2} {t : Bool} (ho : OpR X (compareOp op) r) (ha : EE X C ρ mu a d1) (hb : EE X C ρ mu b d2) (hm : behindInMarks op b = false) (h : ∀ H v w, Rep X.K C none H d1 v → Rep X.K C none H d2 w → ∀ Q : VK, Q (.bl t) H → r v w H Q) : EB X C ρ mu (.Compare a [op] [b] pos) t := by
  obtain ⟨ta, pa, va⟩ := ha
  obtain ⟨tb, pb, vb⟩ := hb
  refine ⟨_, pt_cmpR ho pa pb hm, fun G σ H ok Q q => va G σ H ok _ fun v1 H1 e1 r1 => vb G σ H1 (ok.mono e1) _ fun v2 H2 e2 r2 => ?_⟩
  exact h H2 v1 v2 (r1.ex e2) r2 _ ⟨t, rfl, q H2 (e1.trans e2)⟩
theorem eb_eqI (ha : EE X C ρ mu a (.int i)) (hb : EE X C ρ mu b (.int j)) : EB X C ρ mu (.Compare a [.Eq] [b] pos) (decide (i = j)) :=
  eb_rel op_eq ha hb (nomark _) fun H v w r1 r2 Q q => by
    cases r1
    cases r2
    refine ⟨rfl, ?_⟩
    rw [show decide (V.int i = V.int j) = decide (i = j) from decide_eq_decide.mpr ⟨fun z => V.int.inj z, fun z => z ▸ rfl⟩]
    exact q
theorem eb_neI (ha : EE X C ρ mu a (.int i)) (hb : EE X C ρ mu b (.int j)) : EB X C ρ mu (.Compare a [.NotEq] [b] pos) (!decide (i = j)) :=
  eb_rel op_ne ha hb (nomark _) fun H v w r1 r2 Q q => by
    cases r1
    cases r2
    refine ⟨rfl, ?_⟩
    rw [show decide (V.int i = V.int j) = decide (i = j) from decide_eq_decide.mpr ⟨fun z => V.int.inj z, fun z => z ▸ rfl⟩]
    exact q
theorem eb_eqB {x y : Bool} (ha : EE X C ρ mu a (.bl x)) (hb : EE X C ρ mu b (.bl y)) : EB X C ρ mu (.Compare a [.Eq] [b] pos) (decide (x = y)) :=
  eb_rel op_eq ha hb (nomark _) fun H v w r1 r2 Q q => by
    cases r1
    cases r2
    refine ⟨rfl, ?_⟩
    rw [show decide (V.bl x = V.bl y) = decide (x = y) from decide_eq_decide.mpr ⟨fun z => V.bl.inj z, fun z => z ▸ rfl⟩]
    exact q
theorem eb_neB {x y : Bool} (ha : EE X C ρ mu a (.bl x)) (hb : EE X C ρ mu b (.bl y)) : EB X C ρ mu (.Compare a [.NotEq] [b] pos) (!decide (x = y)) :=
  eb_rel op_ne ha hb (nomark _) fun H v w r1 r2 Q q => by
    cases r1
    cases r2
    refine ⟨rfl, ?_⟩
    rw [show decide (V.bl x = V.bl y) = decide (x = y) from decide_eq_decide.mpr ⟨fun z => V.bl.inj z, fun z => z ▸ rfl⟩]
    exact q
theorem eb_eqD {t : Bool} (hu : X.A.units + 64 < cLine) (ha : EE X C ρ mu a d1) (hb : EE X C ρ mu b d2) (p1 : Pl d1) (p2 : Pl d2) (s1 : SeqAt.shaped (pd d1) = true) (s2 : SeqAt.shaped (pd d2) = true) (ht : PyData.eqv (pd d1) (pd d2) = t) : EB X C ρ mu (.Compare a [.Eq] [b] pos) t :=
  eb_rel (op_eqD hu) ha hb (nomark _) fun H v w r1 r2 Q q => ⟨_, _, dp_of r1 p1, dp_of r2 p2, s1, s2, by rw [ht]; exact q⟩
theorem eb_neD {t : Bool} (hu : X.A.units + 64 < cLine) (ha : EE X C ρ mu a d1) (hb : EE X C ρ mu b d2) (p1 : Pl d1) (p2 : Pl d2) (s1 : SeqAt.shaped (pd d1) = true) (s2 : SeqAt.shaped (pd d2) = true) (ht : PyData.eqv (pd d1) (pd d2) = t) : EB X C ρ mu (.Compare a [.NotEq] [b] pos) (!t) :=
  eb_rel (op_neD hu) ha hb (nomark _) fun H v w r1 r2 Q q => ⟨_, _, dp_of r1 p1, dp_of r2 p2, s1, s2, by rw [ht]; exact q⟩
theorem eb_inL (ha : EE X C ρ mu a (.int i)) (hb : EE X C ρ mu b (il xs)) (hm : behindInMarks .In b = false := by rfl) : EB X C ρ mu (.Compare a [.In] [b] pos) (decide (i ∈ xs)) :=
  eb_rel op_in_seq ha hb hm fun H v w r1 r2 Q q => by
    cases r1
    obtain ⟨p, rfl, _, h⟩ := r2.lstI
    refine ⟨p, _, rfl, .inl (.inl h), rfl, flat_ints xs, ?_⟩
    show Q (.bl (inV (.int i) (xs.map V.int))) H
    rw [inV_ints]
    exact q
theorem eb_ninL (ha : EE X C ρ mu a (.int i)) (hb : EE X C ρ mu b (il xs)) (hm : behindInMarks .NotIn b = false := by rfl) : EB X C ρ mu (.Compare a [.NotIn] [b] pos) (!decide (i ∈ xs)) :=
  eb_rel op_notIn_seq ha hb hm fun H v w r1 r2 Q q => by
    cases r1
    obtain ⟨p, rfl, _, h⟩ := r2.lstI
    refine ⟨p, _, rfl, .inl (.inl h), rfl, flat_ints xs, ?_⟩
    show Q (.bl (!inV (.int i) (xs.map V.int))) H
    rw [inV_ints]
    exact q
theorem eb_isN {k : Nat} {p' : Pos} (ha : EE X C ρ mu a d) : EB X C ρ mu (.Compare a [.Is] [.Constant .none k p'] pos) (isNon d) := by
  obtain ⟨ta, pa, va⟩ := ha
  refine ⟨_, pt_cmp (pc_isN pa) rfl, fun G σ H ok Q q => va G σ H ok _ fun v1 H1 e1 r1 => ?_⟩
  rw [r1.isN]
  exact ⟨_, rfl, q H1 e1⟩
theorem eb_notN {k : Nat} {p' : Pos} (ha : EE X C ρ mu a d) : EB X C ρ mu (.Compare a [.IsNot] [.Constant .none k p'] pos) (!isNon d) := by
  obtain ⟨ta, pa, va⟩ := ha
  refine ⟨_, pt_cmp (pc_notN pa) rfl, fun G σ H ok Q q => va G σ H ok _ fun v1 H1 e1 r1 => ?_⟩
  rw [r1.isN]
  exact ⟨_, rfl, q H1 e1⟩
/-! ### isinstance -/
theorem sqT_ty {K : PySem.W.Frag} {H : Hp} {a : Addr} {vs : List V} (h : SqT K H a vs) : TyX K H (.ref a) (.type "tuple") := by
  rcases h with (h | ⟨o, h⟩) | ⟨o, its, n, h1, h2, _⟩
  · exact .base (.tup h)
  · exact .fTuple h
  · exact .kTuple h1 h2
theorem ee_isi {T t : String} {x : V → Prop} {r : Bool} (hm : X.mg "isinstance" = none) (hm2 : X.mg (Str.ofString T) = none) (hT : bootBuiltins (Str.ofString T) = some (.type T)) (hn : Str.ofString T ≠ "__name__") (hd : (Str.ofString T == ("__debug__" : Str)) = false)
    (ha : EE X C ρ mu a d) (hty : ∀ H v, Rep X.K C none H d v → TyX X.K H v (.type t)) (hk : PySem.W.kitOne X.K (.type t) (.type T) = some r) (hg : Gl X "isinstance") (hg2 : Gl X (Str.ofString T)) {p2 : Pos}
    (he : starEach [a, .Name (Str.ofString T) p2] X.env = (false, eval a X.env) :: starEach [.Name (Str.ofString T) p2] X.env) (he2 : starEach [.Name (Str.ofString T) p2] X.env = (false, eval (.Name (Str.ofString T) p2) X.env) :: starEach [] X.env)
    (hpl : (backTo pos (starEach [.Name (Str.ofString T) p2] X.env)).any (·.1) = false) :
    EE X C ρ mu (.Call (.Name "isinstance" p) [a, .Name (Str.ofString T) p2] [] pos) (.bl r) := by
  obtain ⟨ta, pa, va⟩ := ha
  refine ⟨_, pe_callB call_isi hg hm PyProof.Rows.boot_isinstance (pa_cons pa (pa_cons (pe_bltn (v := .ty T) hg2 hm2 hT rfl hn hd) pa_nil he2) he) (by decide) (by decide) he hpl, fun G σ H ok Q q => va G σ H ok _ fun v H1 e1 r1 => ?_⟩
  exact ⟨v, .ty T, .type t, .type T, r, rfl, .ty T, hty H1 v r1, hk, q _ H1 e1 .bl⟩
theorem kit_self {K : PySem.W.Frag} {t : Value} : PySem.W.kitOne K t t = some true := by
  unfold PySem.W.kitOne
  rw [if_pos (beq_self_eq_true t)]
theorem ee_isInt {p2 : Pos} (hm : X.mg "isinstance" = none) (hm2 : X.mg "int" = none) (ha : EE X C ρ mu a (.int i)) (hg : Gl X "isinstance" := by rfl) (hg2 : Gl X "int" := by rfl)
    (he : starEach [a, .Name "int" p2] X.env = (false, eval a X.env) :: starEach [.Name "int" p2] X.env := by rfl) (he2 : starEach [.Name "int" p2] X.env = (false, eval (.Name "int" p2) X.env) :: starEach [] X.env := by rfl)
    (hpl : (backTo pos (starEach [.Name "int" p2] X.env)).any (·.1) = false := by rfl) : EE X C ρ mu (.Call (.Name "isinstance" p) [a, .Name "int" p2] [] pos) (.bl true) :=
  ee_isi (T := "int") (t := "int") (x := fun _ => True) hm hm2 (by decide +kernel) (by decide) (by decide) ha (fun H v r => by cases r; exact .base (.int i)) kit_self hg hg2 he he2 hpl
theorem ee_isTup {p2 : Pos} (hm : X.mg "isinstance" = none) (hm2 : X.mg "tuple" = none) (ha : EE X C ρ mu a (.tup ds)) (hg : Gl X "isinstance" := by rfl) (hg2 : Gl X "tuple" := by rfl)
    (he : starEach [a, .Name "tuple" p2] X.env = (false, eval a X.env) :: starEach [.Name "tuple" p2] X.env := by rfl) (he2 : starEach [.Name "tuple" p2] X.env = (false, eval (.Name "tuple" p2) X.env) :: starEach [] X.env := by rfl)
    (hpl : (backTo pos (starEach [.Name "tuple" p2] X.env)).any (·.1) = false := by rfl) : EE X C ρ mu (.Call (.Name "isinstance" p) [a, .Name "tuple" p2] [] pos) (.bl true) :=
  ee_isi (T := "tuple") (t := "tuple") (x := fun _ => True) hm hm2 (by decide +kernel) (by decide) (by decide) ha (fun H v r => by cases r with | tup h _ _ => exact sqT_ty h) kit_self hg hg2 he he2 hpl
theorem kit_intBool {K : PySem.W.Frag} : PySem.W.kitOne K (.type "int") (.type "bool") = some false := by
  unfold PySem.W.kitOne PySem.W.kitCls
  rw [if_neg (by decide)]
  show (if PySem.W.kitMeta "bool" = true then _ else _) = _
  rw [if_pos (by decide +kernel)]
  kernel_rfl
theorem ee_isBool {p2 : Pos} (hm : X.mg "isinstance" = none) (hm2 : X.mg "bool" = none) (ha : EE X C ρ mu a (.int i)) (hg : Gl X "isinstance" := by rfl) (hg2 : Gl X "bool" := by rfl)
    (he : starEach [a, .Name "bool" p2] X.env = (false, eval a X.env) :: starEach [.Name "bool" p2] X.env := by rfl) (he2 : starEach [.Name "bool" p2] X.env = (false, eval (.Name "bool" p2) X.env) :: starEach [] X.env := by rfl)
    (hpl : (backTo pos (starEach [.Name "bool" p2] X.env)).any (·.1) = false := by rfl) : EE X C ρ mu (.Call (.Name "isinstance" p) [a, .Name "bool" p2] [] pos) (.bl false) :=
  ee_isi (T := "bool") (t := "int") (x := fun _ => True) hm hm2 (by decide +kernel) (by decide) (by decide) ha (fun H v r => by cases r; exact .base (.int i)) kit_intBool hg hg2 he he2 hpl
/-! ### tuples: sum, +, slices -/
def rSumT (K : PySem.W.Frag) : List V → Hp → VK → Prop := fun vs H Q => ∃ (a : Addr) (ns : List Int), vs = [.ref a] ∧ SqT K H a (ns.map V.int) ∧ Q (.int ns.sum) H
theorem cr_sumT (hc : X.calm = true) : CallR X (.builtin "sum") (rSumT X.K) := by
  intro pins s σ H vs us Q I r h
  obtain ⟨a, ns, rfl, hs, q⟩ := h
  obtain ⟨its, rv, hl, _⟩ := I.tuple hs
  rw [Vals.ref1 r]
  have hi := rv.ints
  obtain ⟨xs, e⟩ := hi.allInts.items
  have hn : numsOf (intItems xs).toList = ns := by rw [← e]; exact hi.numsOf
  rw [nums_intItems] at hn
  rw [e] at hl
  refine PySem.W.ktm_sumG (I.ok.hd hc) hl fun h' tk t' hk => ?_
  rw [preSum_eq, List.take_of_length_le (by simp), hn]
  exact ⟨.int _, H, I.kept hk, ⟨_, rfl⟩, q⟩
theorem ee_sumT (hm : X.mg "sum" = none) (ha : EE X C ρ mu e (it xs)) (hc : X.calm = true := by rfl) (hg : Gl X "sum" := by rfl) (he : starEach [e] X.env = (false, eval e X.env) :: starEach [] X.env := by rfl) (hpl : (backTo pos (starEach [] X.env)).any (·.1) = false := by rfl) :
    EE X C ρ mu (.Call (.Name "sum" p) [e] [] pos) (.int xs.sum) :=
  ee_callB (cr_sumT hc) hm (by decide +kernel) (by decide) (by decide) (ea_c ha ea_no he) (fun vs H r0 Q q => by
    obtain ⟨v, rfl, r⟩ := r0.one
    obtain ⟨a, rfl, h⟩ := r.tupI
    exact ⟨a, xs, rfl, h, q _ H (Ex.refl H) .int⟩) hg he hpl
theorem ee_cat (ha : EE X C ρ mu a (.tup ds)) (hb : EE X C ρ mu b (.tup ds2)) (hz : ds.length + ds2.length ≤ 1000) : EE X C ρ mu (.BinOp a .Add b pos) (.tup (ds ++ ds2)) := by
  obtain ⟨ta, pa, va⟩ := ha
  obtain ⟨tb, pb, vb⟩ := hb
  refine ⟨_, pe_op op_catA pa pb, fun G σ H ok Q q => va G σ H ok _ fun v1 H1 e1 r1 => vb G σ H1 (ok.mono e1) _ fun v2 H2 e2 r2 => ?_⟩
  have r1' := r1.ex e2
  cases r1' with
  | @tup p1 w1 _ h1 l1 at1 =>
    cases r2 with
    | @tup p2 w2 _ h2 l2 at2 =>
      refine ⟨p1, p2, w1, w2, rfl, rfl, h1, h2, by rw [← l1, ← l2]; exact szl hz, fun z => ?_, fun _ z => ?_, fun _ _ p hp => ?_⟩
      · subst z
        have zd : ds = [] := List.length_eq_zero_iff.mp l1
        subst zd
        exact q _ H2 (e1.trans e2) (.tup h2 l2 at2)
      · subst z
        have zd : ds2 = [] := List.length_eq_zero_iff.mp l2
        subst zd
        rw [List.append_nil] at q
        exact q _ H2 (e1.trans e2) (.tup h1 l1 at1)
      · have rr : Reps X.K C none H2 (ds ++ ds2) (w1 ++ w2) := Reps.app ⟨l1, at1⟩ ⟨l2, at2⟩
        exact q _ _ ((e1.trans e2).trans (Ex.new hp)) (.tup (SqT.of upd_same) rr.len (rr.ex (Ex.new hp)).at_)
theorem Reps.cut {K : PySem.W.Frag} {av : Option Addr} {H : Hp} {vs : List V} (r : Reps K C av H ds vs) (m n : Nat) : Reps K C av H ((ds.drop m).take n) ((vs.drop m).take n) := by
  refine ⟨by simp [r.len], fun k d v h1 h2 => ?_⟩
  rw [List.getElem?_take] at h1 h2
  split at h1
  · rename_i hk
    rw [if_pos hk] at h2
    rw [List.getElem?_drop] at h1 h2
    exact r.at_ _ d v h1 h2
  · cases h1
/-- a bound of a slice -/
def EO (X : Cx) (C : Cs) (ρ : Rho) (mu : Mu) (o : Option Expr) (n : Option Int) : Prop := (o = none ∧ n = none) ∨ ∃ e i, o = some e ∧ n = some i ∧ EE X C ρ mu e (.int i)
theorem eo_no : EO X C ρ mu none none := .inl ⟨rfl, rfl⟩
theorem eo_c (h : EE X C ρ mu e (.int i)) : EO X C ρ mu (some e) (some i) := .inr ⟨e, i, rfl, rfl, h⟩
theorem EO.po {o : Option Expr} {n : Option Int} (h : EO X C ρ mu o n) : ∃ t, PO X o t ∧ ∀ G σ H, EnvOk X.K C G σ H ρ mu → ∀ Q : Option Int → Hp → Prop, (∀ H2, Ex H H2 → Q n H2) → t σ H Q := by
  rcases h with ⟨rfl, rfl⟩ | ⟨e, i, rfl, rfl, te, pe, ve⟩
  · exact ⟨_, po_none, fun G σ H ok Q q => q H (Ex.refl H)⟩
  · refine ⟨_, po_some pe, fun G σ H ok Q q => ve G σ H ok _ fun v H1 e1 r => ?_⟩
    cases r
    exact ⟨i, rfl, q H1 e1⟩
def cutD (ds : List D) (lo hi : Option Int) : List D := (ds.drop (HT.sIx ds.length 0 lo)).take (HT.sIx ds.length ds.length hi - HT.sIx ds.length 0 lo)
theorem ee_slT {lo hi : Option Expr} {l h : Option Int} {p2 : Pos} (ha : EE X C ρ mu e (.tup ds)) (hl : EO X C ρ mu lo l) (hh : EO X C ρ mu hi h) : EE X C ρ mu (.Subscript e (.Slice lo hi none p2) pos) (.tup (cutD ds l h)) := by
  obtain ⟨te, pe, ve⟩ := ha
  obtain ⟨tl, pl, vl⟩ := hl.po
  obtain ⟨th, ph, vh⟩ := hh.po
  refine ⟨_, pe_slice sl_tupA pe pl ph, fun G σ H ok Q q => ve G σ H ok _ fun v1 H1 e1 r1 => vl G σ H1 (ok.mono e1) _ fun H2 e2 => vh G σ H2 ((ok.mono e1).mono e2) _ fun H3 e3 => ?_⟩
  have r1' := (r1.ex e2).ex e3
  cases r1' with
  | @tup p1 w1 _ h1 l1 at1 =>
    have rr : Reps X.K C none H3 (cutD ds l h) (cutV w1 l h) := by
      unfold cutD cutV
      rw [← l1]
      exact Reps.cut ⟨l1, at1⟩ _ _
    refine ⟨p1, w1, rfl, h1, fun z => ?_, fun _ p hp => ?_⟩
    · have ec : cutD ds l h = ds := by
        unfold cutD
        rw [l1, z.1, z.2]
        rw [List.drop_zero, Nat.sub_zero, List.take_of_length_le (Nat.le_of_eq l1)]
      rw [ec] at q
      exact q _ H3 ((e1.trans e2).trans e3) (.tup h1 l1 at1)
    · exact q _ _ (((e1.trans e2).trans e3).trans (Ex.new hp)) (.tup (SqT.of upd_same) rr.len (rr.ex (Ex.new hp)).at_)
theorem en_slL {lo hi : Option Expr} {l h : Option Int} {p2 : Pos} (ha : EE X C ρ mu e (.lst ds)) (hl : EO X C ρ mu lo l) (hh : EO X C ρ mu hi h) : EN X C ρ mu (.Subscript e (.Slice lo hi none p2) pos) (cutD ds l h) := by
  obtain ⟨te, pe, ve⟩ := ha
  obtain ⟨tl, pl, vl⟩ := hl.po
  obtain ⟨th, ph, vh⟩ := hh.po
  refine ⟨_, pe_slice sl_list pe pl ph, fun G σ H ok Q q => ve G σ H ok _ fun v1 H1 e1 r1 => vl G σ H1 (ok.mono e1) _ fun H2 e2 => vh G σ H2 ((ok.mono e1).mono e2) _ fun H3 e3 => ?_⟩
  have r1' := (r1.ex e2).ex e3
  cases r1' with
  | @lst p1 w1 _ n h1 l1 at1 =>
    have rr : Reps X.K C none H3 (cutD ds l h) (cutV w1 l h) := by
      unfold cutD cutV
      rw [← l1]
      exact Reps.cut ⟨l1, at1⟩ _ _
    exact ⟨p1, w1, rfl, .inl h1, fun p hp => q p _ _ (fresh_back ((e1.trans e2).trans e3) hp) (((e1.trans e2).trans e3).trans (Ex.new hp)) upd_same (rr.ex (Ex.new hp))⟩
/-! ### stores -/
/-- a, b = x, y -/
theorem s1_par (i j : Nat) {x y : Str} {a b : Expr} {px py pt : Pos} {kt k2 pt2} (ha : EE X C ρ mu a d1) (hb : EE X C ρ mu b d2) (m1 : May mu i d1) (m2 : May mu j d2) (h : E.nx ((ρ.set i (some d1)).set j (some d2)) mu) (hN : X.N.Nodup) (hij : i ≠ j := by decide) (hi : X.N[i]? = some x := by rfl) (hj : X.N[j]? = some y := by rfl)
    (hx : X.env.scope.names.lookup x = some .local := by rfl) (hy : X.env.scope.names.lookup y = some .local := by rfl) (hw : swappedStores [.Tuple [.Name x px, .Name y py] kt pt] (.Tuple [a, b] k2 pt2) X.env = pure (some [x, y]) := by rfl)
    (hs : swapsWithSole [.Tuple [.Name x px, .Name y py] kt pt] (.Tuple [a, b] k2 pt2) pos.line X.env = pure false := by rfl) (hc : X.calm = true := by rfl) (e1 : starEach [a, b] X.env = (false, eval a X.env) :: starEach [b] X.env := by rfl) (e2 : starEach [b] X.env = (false, eval b X.env) :: starEach [] X.env := by rfl) :
    S1 X C ρ mu (.Assign [.Tuple [.Name x px, .Name y py] kt pt] (.Tuple [a, b] k2 pt2) pos) E := by
  obtain ⟨ta, pa, va⟩ := ea_c ha (ea_c hb ea_no e2) e1
  refine ⟨_, ps_par hc hN hi hj hij hx hy pa hw hs, fun G σ H ok Dn sat => va G σ H ok _ fun vs H1 x1 r => ?_⟩
  obtain ⟨v, w, rfl, r1, r2⟩ := r.two
  exact ⟨v, w, rfl, sat.nx _ H1 _ _ (((ok.mono x1).set i (m1.rep r1) m1.ne).set j (m2.rep r2) m2.ne) h⟩
/-- .. the second one a list that will change -/
theorem s1_parN (i j : Nat) {x y : Str} {a b : Expr} {px py pt : Pos} {kt k2 pt2} (ha : EE X C ρ none a d1) (hb : EN X C ρ none b ds) (im : ∀ d, d ∈ ds → Im d) (hl : j < ρ.length) (h : ∀ l, E.nx ((ρ.set i (some d1)).set j none) (some (l, j, ds))) (hN : X.N.Nodup) (hij : i ≠ j := by decide) (hi : X.N[i]? = some x := by rfl) (hj : X.N[j]? = some y := by rfl)
    (hx : X.env.scope.names.lookup x = some .local := by rfl) (hy : X.env.scope.names.lookup y = some .local := by rfl) (hw : swappedStores [.Tuple [.Name x px, .Name y py] kt pt] (.Tuple [a, b] k2 pt2) X.env = pure (some [x, y]) := by rfl)
    (hs : swapsWithSole [.Tuple [.Name x px, .Name y py] kt pt] (.Tuple [a, b] k2 pt2) pos.line X.env = pure false := by rfl) (hc : X.calm = true := by rfl) (e1 : starEach [a, b] X.env = (false, eval a X.env) :: starEach [b] X.env := by rfl) (e2 : starEach [b] X.env = (false, eval b X.env) :: starEach [] X.env := by rfl) :
    S1 X C ρ none (.Assign [.Tuple [.Name x px, .Name y py] kt pt] (.Tuple [a, b] k2 pt2) pos) E := by
  obtain ⟨ta, pa, va⟩ := ha
  obtain ⟨tb, pb, vb⟩ := hb
  refine ⟨_, ps_par hc hN hi hj hij hx hy (pa_cons pa (pa_cons pb pa_nil e2) e1) hw hs, fun G σ H ok Dn sat => va G σ H ok _ fun v H1 x1 r1 => vb G σ H1 (ok.mono x1) _ fun p vs H2 hp x2 h2 r2 => ?_⟩
  have ok1 := (ok.mono x1).set i (v := v) (d := d1) r1 (fun l j ds z => nomatch z)
  exact ⟨v, .ref p, rfl, sat.nx _ H2 _ _ (ok1.new j (by rw [List.length_set]; exact hl) hp x2 h2 r2 im) (h p)⟩
/-- .. the second one a list kept as it is -/
theorem s1_parL (i j : Nat) {x y : Str} {a b : Expr} {px py pt : Pos} {kt k2 pt2} (ha : EN X C ρ none a ds) (hb : EE X C ρ none b d2) (im : ∀ d, d ∈ ds → Im d) (im2 : Im d2) (hl : i < ρ.length) (h : ∀ l, E.nx ((ρ.set i none).set j (some d2)) (some (l, i, ds))) (hN : X.N.Nodup) (hij : i ≠ j := by decide) (hi : X.N[i]? = some x := by rfl) (hj : X.N[j]? = some y := by rfl)
    (hx : X.env.scope.names.lookup x = some .local := by rfl) (hy : X.env.scope.names.lookup y = some .local := by rfl) (hw : swappedStores [.Tuple [.Name x px, .Name y py] kt pt] (.Tuple [a, b] k2 pt2) X.env = pure (some [x, y]) := by rfl)
    (hs : swapsWithSole [.Tuple [.Name x px, .Name y py] kt pt] (.Tuple [a, b] k2 pt2) pos.line X.env = pure false := by rfl) (hc : X.calm = true := by rfl) (e1 : starEach [a, b] X.env = (false, eval a X.env) :: starEach [b] X.env := by rfl) (e2 : starEach [b] X.env = (false, eval b X.env) :: starEach [] X.env := by rfl) :
    S1 X C ρ none (.Assign [.Tuple [.Name x px, .Name y py] kt pt] (.Tuple [a, b] k2 pt2) pos) E := by
  obtain ⟨ta, pa, va⟩ := ha
  obtain ⟨tb, pb, vb⟩ := hb
  refine ⟨_, ps_par hc hN hi hj hij hx hy (pa_cons pa (pa_cons pb pa_nil e2) e1) hw hs, fun G σ H ok Dn sat => va G σ H ok _ fun p vs H1 hp x1 h1 r1 => vb G σ H1 (ok.mono x1) _ fun v H2 x2 r2 => ?_⟩
  have ok1 := ok.new i hl hp (x1.trans x2) (x2.at h1) (r1.ex x2) im
  exact ⟨.ref p, v, rfl, sat.nx _ H2 _ _ (ok1.set j (r2.im im2 _) (fun l j' ds' z => by cases z; exact hij)) (h p)⟩
/-- (a, b) = a pair -/
theorem s1_unp {tg : Expr} {vs : List Nat} {ρ' : Rho} (he : EE X C ρ mu e d) (hg : EG X C mu vs tg d ρ ρ') (h : E.nx ρ' mu) (hs : swapsWithSole [tg] e pos.line X.env = pure false := by rfl) (hw : swappedStores [tg] e X.env = pure none := by rfl)
    (h1 : (assignEach [tg] X.env).map (·.2) = [assign tg X.env] := by rfl) : S1 X C ρ mu (.Assign [tg] e pos) E := by
  obtain ⟨te, pe, ve⟩ := he
  obtain ⟨g, pg, vg⟩ := hg
  exact ⟨_, ps_asg pe pg hs hw h1, fun G σ H ok Dn sat => ve G σ H ok _ fun v H1 x1 r => vg G σ H1 v (ok.mono x1) r _ fun σ' ok' _ => sat.nx σ' H1 ρ' mu ok' h⟩
theorem ixN_of {n : Nat} {k : Int} (h0 : 0 ≤ k) (h1 : k < n) : L2.ixN n k = some k.toNat := by
  unfold L2.ixN
  split
  · rfl
  · omega
/-- found[k] = e -/
theorem s1_item {l : Addr} {m : Nat} {k : Int} {x : Str} {p1 p2 : Pos} {ix : Expr} (hi : EE X C ρ (some (l, m, ds)) ix (.int k)) (he : EE X C ρ (some (l, m, ds)) e d) (im : Im d) (h0 : 0 ≤ k) (h1 : k < ds.length) (h : E.nx ρ (some (l, m, ds.set k.toNat d))) (hN : X.N[m]? = some x := by rfl)
    (hv : Vis X.env.scope x := by first | exact Or.inl rfl | exact Or.inr (Or.inl rfl) | exact Or.inr (Or.inr rfl)) (hd : (x == ("__debug__" : Str)) = false := by decide) (hcd : (x == ("__classdict__" : Str)) = false := by decide)
    (ha : ∀ v, assign (.Subscript (.Name x p1) ix p2) X.env v = (do
      let ov ← holding [v] (eval (.Name x p1) X.env)
      let iv ← holding [v, ov] (eval ix X.env)
      standAt p2
      holding [v, ov, iv] (setItem ov iv v)
      release [v, ov, iv] []) := by intro _; rfl)
    (hs : swapsWithSole [.Subscript (.Name x p1) ix p2] e pos.line X.env = pure false := by rfl) (hw : swappedStores [.Subscript (.Name x p1) ix p2] e X.env = pure none := by rfl)
    (hh : (assignEach [.Subscript (.Name x p1) ix p2] X.env).map (·.2) = [assign (.Subscript (.Name x p1) ix p2) X.env] := by rfl) : S1 X C ρ (some (l, m, ds)) (.Assign [.Subscript (.Name x p1) ix p2] e pos) E := by
  obtain ⟨te, pe, ve⟩ := he
  obtain ⟨ti, pi, vi⟩ := hi
  refine ⟨_, ps_asg pe (pg_sub (pe_var hN hv hd hcd) pi set_list ha) hs hw hh, fun G σ H ok Dn sat => ve G σ H ok _ fun v H1 x1 r => ?_⟩
  have ok1 := ok.mono x1
  obtain ⟨_, k1, _⟩ := ok1.mu l m ds rfl
  refine ⟨.ref l, k1, vi G σ H1 ok1 _ fun w H2 x2 r2 => ?_⟩
  cases r2
  have ok2 := ok1.mono x2
  obtain ⟨_, _, _, vs, h3, h4⟩ := ok2.mu l m ds rfl
  refine ⟨l, vs, k, k.toNat, rfl, rfl, h3, ixN_of h0 (by rw [← h4.len]; exact h1), sat.nx σ _ ρ _ (ok2.put (Reps.set h4 k.toNat ((r.ex x2).im im _))) h⟩
/-- found[k] += e -/
theorem get_list : PGet X (rIxL X.K) := by
  intro pins s σ H o i ov iv Q I ro ri h
  obtain ⟨p, xs, k, z, rfl, rfl, hq, he, q⟩ := h
  cases ro
  obtain ⟨t, rfl⟩ := ri
  obtain ⟨its, r, pl, hz⟩ := I.list hq
  obtain ⟨j, h1, h2, h3, h4, h5⟩ := atI_get he
  obtain ⟨w, ew, rw'⟩ := r.get h2
  have hl := r.length
  have hn := line63
  have fin : EP X pins σ Q w s := ⟨z, H, I, rw', q⟩
  by_cases h0 : 0 ≤ k
  · have hj : k.toNat = j := by
      rw [seqIndex_of h0 h5] at h1
      exact Option.some.inj h1
    exact wpAny_getItem_list pl.isList h0 (by omega) (by rw [hj]; simpa using ew) fin
  · have hj : (k + (its.toArray.size : Int)).toNat = j := by
      rw [seqIndex_neg (by omega) h4] at h1
      rw [List.size_toArray, ← hl]
      exact Option.some.inj h1
    exact wpAny_getItem_list_neg pl.isList (by omega) (by rw [List.size_toArray] <;> omega) (by omega) (by rw [hj]; simpa using ew) fin
theorem s1_augItem {op : Operator} {g : Int → Int → Int} {l : Addr} {m : Nat} {k n : Int} {x : Str} {p1 p2 : Pos} {ix : Expr} (ho : PIp X op (ipI g)) (hi : EE X C ρ (some (l, m, nts xs)) ix (.int k)) (he : EE X C ρ (some (l, m, nts xs)) e (.int n)) (h0 : 0 ≤ k) (h1 : k < xs.length) (h : E.nx ρ (some (l, m, nts (xs.set k.toNat (g (gt xs k) n))))) (hN : X.N[m]? = some x := by rfl)
    (hv : Vis X.env.scope x := by first | exact Or.inl rfl | exact Or.inr (Or.inl rfl) | exact Or.inr (Or.inr rfl)) (hd : (x == ("__debug__" : Str)) = false := by decide) (hcd : (x == ("__classdict__" : Str)) = false := by decide)
    (ha : ∀ ov iv new, augStore ix ov iv new = (do holding [new, ov, iv] (setItem ov iv new); release [new, ov, iv] []; pure .next) := by intros; rfl) : S1 X C ρ (some (l, m, nts xs)) (.AugAssign (.Subscript (.Name x p1) ix p2) op e pos) E := by
  obtain ⟨te, pe, ve⟩ := he
  obtain ⟨ti, pi, vi⟩ := hi
  refine ⟨_, ps_augS (pe_var hN hv hd hcd) pi get_list pe ho set_list ha, fun G σ H ok Dn sat => ?_⟩
  obtain ⟨_, k1, _⟩ := ok.mu l m _ rfl
  refine ⟨.ref l, k1, vi G σ H ok _ fun w H1 x1 r1 => ?_⟩
  cases r1
  have ok1 := ok.mono x1
  obtain ⟨_, _, _, vs, h3, h4⟩ := ok1.mu l m _ rfl
  obtain ⟨v, hv', rv⟩ := Reps.atI h4 (atI_nts h0 h1)
  refine ⟨l, vs, k, v, rfl, rfl, .inl (.inl h3), hv', ve G σ H1 ok1 _ fun w H2 x2 r2 => ?_⟩
  cases rv
  cases r2
  have ok2 := ok1.mono x2
  refine ⟨_, _, rfl, rfl, l, vs, k, k.toNat, rfl, rfl, x2.at h3, ixN_of h0 (by rw [← h4.len]; simpa using h1), sat.nx σ _ ρ _ (ok2.put ?_) h⟩
  have := Reps.set (h4.ex x2) k.toNat (d := .int (g (gt xs k) n)) (v := .int (g (gt xs k) n)) .int
  rw [show nts (xs.set k.toNat (g (gt xs k) n)) = (nts xs).set k.toNat (.int (g (gt xs k) n)) from by unfold nts; rw [List.map_set]]
  exact this
/-- found[i], found[j] = x, y -/
theorem s1_item2 {l : Addr} {m : Nat} {k1 k2 : Int} {x : Str} {p1 p2 p3 p4 pt : Pos} {i1 i2 : Expr} {kt k2' : Nat} {pt2 : Pos} {dd1 dd2 : D} (he : EA X C ρ (some (l, m, ds)) [a, b] [dd1, dd2]) (im1 : Im dd1) (im2 : Im dd2)
    (hi1 : EE X C ρ (some (l, m, ds)) i1 (.int k1)) (hi2 : EE X C ρ (some (l, m, ds.set k1.toNat dd1)) i2 (.int k2)) (h01 : 0 ≤ k1) (h11 : k1 < ds.length) (h02 : 0 ≤ k2) (h12 : k2 < ds.length)
    (h : E.nx ρ (some (l, m, (ds.set k1.toNat dd1).set k2.toNat dd2))) (hN : X.N[m]? = some x := by rfl)
    (hv : Vis X.env.scope x := by first | exact Or.inl rfl | exact Or.inr (Or.inl rfl) | exact Or.inr (Or.inr rfl)) (hd : (x == ("__debug__" : Str)) = false := by decide) (hcd : (x == ("__classdict__" : Str)) = false := by decide)
    (ha1 : ∀ v, assign (.Subscript (.Name x p1) i1 p2) X.env v = (do
      let ov ← holding [v] (eval (.Name x p1) X.env)
      let iv ← holding [v, ov] (eval i1 X.env)
      standAt p2
      holding [v, ov, iv] (setItem ov iv v)
      release [v, ov, iv] []) := by intro _; rfl)
    (ha2 : ∀ v, assign (.Subscript (.Name x p3) i2 p4) X.env v = (do
      let ov ← holding [v] (eval (.Name x p3) X.env)
      let iv ← holding [v, ov] (eval i2 X.env)
      standAt p4
      holding [v, ov, iv] (setItem ov iv v)
      release [v, ov, iv] []) := by intro _; rfl)
    (hs1 : (assignEach [.Subscript (.Name x p1) i1 p2, .Subscript (.Name x p3) i2 p4] X.env).map (·.2) = assign (.Subscript (.Name x p1) i1 p2) X.env :: (assignEach [.Subscript (.Name x p3) i2 p4] X.env).map (·.2) := by rfl)
    (hs2 : (assignEach [.Subscript (.Name x p3) i2 p4] X.env).map (·.2) = assign (.Subscript (.Name x p3) i2 p4) X.env :: (assignEach [] X.env).map (·.2) := by rfl)
    (hn : (assignEach [.Subscript (.Name x p1) i1 p2, .Subscript (.Name x p3) i2 p4] X.env).length = 2 := by rfl) (hst : (assignEach [.Subscript (.Name x p1) i1 p2, .Subscript (.Name x p3) i2 p4] X.env).findIdx? (·.1) = none := by rfl) (hc : X.calm = true := by rfl)
    (hs : swapsWithSole [.Tuple [.Subscript (.Name x p1) i1 p2, .Subscript (.Name x p3) i2 p4] kt pt] (.Tuple [a, b] k2' pt2) pos.line X.env = pure false := by rfl) (hw : swappedStores [.Tuple [.Subscript (.Name x p1) i1 p2, .Subscript (.Name x p3) i2 p4] kt pt] (.Tuple [a, b] k2' pt2) X.env = pure none := by rfl)
    (hh : (assignEach [.Tuple [.Subscript (.Name x p1) i1 p2, .Subscript (.Name x p3) i2 p4] kt pt] X.env).map (·.2) = [assign (.Tuple [.Subscript (.Name x p1) i1 p2, .Subscript (.Name x p3) i2 p4] kt pt) X.env] := by rfl) :
    S1 X C ρ (some (l, m, ds)) (.Assign [.Tuple [.Subscript (.Name x p1) i1 p2, .Subscript (.Name x p3) i2 p4] kt pt] (.Tuple [a, b] k2' pt2) pos) E := by
  obtain ⟨ta, pa, va⟩ := he
  obtain ⟨t1, pi1, vi1⟩ := hi1
  obtain ⟨t2, pi2, vi2⟩ := hi2
  have pv : PE X (.Name x p1) (tVar m) := pe_var hN hv hd hcd
  have pv3 : PE X (.Name x p3) (tVar m) := pe_var hN hv hd hcd
  refine ⟨_, ps_asg (pe_tup pa) (pg_tup hc (pgs_cons (pg_sub pv pi1 set_list ha1) (pgs_cons (pg_sub pv3 pi2 set_list ha2) pgs_nil hs2) hs1) hn hst) hs hw hh, fun G σ H ok Dn sat => va G σ H ok _ fun vs H1 x1 r => ?_⟩
  obtain ⟨v, w, rfl, r1, r2⟩ := r.two
  refine ⟨by show 2 ≤ sizeLine; decide, fun p hp => ⟨p, [v, w], rfl, SqT.of upd_same, rfl, v, [w], rfl, ?_⟩⟩
  have xp : Ex H1 (upd H1 p (.tup [v, w])) := Ex.new hp
  have ok1 := (ok.mono x1).mono xp
  obtain ⟨_, k1', _⟩ := ok1.mu l m ds rfl
  refine ⟨.ref l, k1', vi1 G σ _ ok1 _ fun u H2 x2 ru => ?_⟩
  cases ru
  have ok2 := ok1.mono x2
  obtain ⟨_, _, _, ws, h3, h4⟩ := ok2.mu l m ds rfl
  refine ⟨l, ws, k1, k1.toNat, rfl, rfl, h3, ixN_of h01 (by rw [← h4.len]; exact h11), ?_⟩
  have ok3 := ok2.put (Reps.set h4 k1.toNat ((((r1.ex xp).ex x2)).im im1 _))
  refine ⟨w, [], rfl, ?_⟩
  obtain ⟨_, k3, _⟩ := ok3.mu l m _ rfl
  refine ⟨.ref l, k3, vi2 G σ _ ok3 _ fun u H3 x3 ru => ?_⟩
  cases ru
  have ok4 := ok3.mono x3
  obtain ⟨_, _, _, ws', h5, h6⟩ := ok4.mu l m _ rfl
  refine ⟨l, ws', k2, k2.toNat, rfl, rfl, h5, ixN_of h02 (by rw [← h6.len, List.length_set]; exact h12), rfl, ?_⟩
  have rw2 : Rep X.K C (some l) (upd H2 l (.lst (ws.set k1.toNat v))) dd2 w := Rep.mut h3 ((((r2.ex xp).ex x2)).im im2 _)
  exact sat.nx σ _ ρ _ (ok4.put (Reps.set h6 k2.toNat (rw2.ex x3))) h
end
end Dd
set_option maxHeartbeats 2000000
/-! More of the layer: pairs stored in cells, dicts, sorted, gcd, powers. -/
namespace Dd
open PySem PySem.Spec PyProof.Rows L2 Evl
section
variable {X : Cx} {C : Cs} {ρ : Rho} {mu : Mu} {a b c e e1 e2 : Expr} {es : List Expr} {d d1 d2 : D} {ds ds2 : List D} {pos p : Pos} {i j : Int} {xs : List Int} {E : DE}
/-- a, b = x, y by a real pair (a name that a block takes) -/
theorem s1_cel (i j : Nat) {x y : Str} {a b : Expr} {px py pt : Pos} {kt k2 pt2} (ha : EE X C ρ mu a d1) (hb : EE X C ρ mu b d2) (m1 : May mu i d1) (m2 : May mu j d2) (h : E.nx ((ρ.set i (some d1)).set j (some d2)) mu) (hN : X.N.Nodup) (hi : X.N[i]? = some x := by rfl) (hj : X.N[j]? = some y := by rfl)
    (hx : Loc X.env.scope x := by first | exact Or.inl rfl | exact Or.inr rfl) (hy : Loc X.env.scope y := by first | exact Or.inl rfl | exact Or.inr rfl)
    (hfx : X.fn x = true ∨ X.env.scope.names.lookup x = some .local := by first | exact .inl rfl | exact .inr rfl) (hfy : X.fn y = true ∨ X.env.scope.names.lookup y = some .local := by first | exact .inl rfl | exact .inr rfl)
    (hw : swappedStores [.Tuple [.Name x px, .Name y py] kt pt] (.Tuple [a, b] k2 pt2) X.env = pure none := by rfl)
    (hs : swapsWithSole [.Tuple [.Name x px, .Name y py] kt pt] (.Tuple [a, b] k2 pt2) pos.line X.env = pure false := by rfl)
    (hh : (assignEach [.Tuple [.Name x px, .Name y py] kt pt] X.env).map (·.2) = [assign (.Tuple [.Name x px, .Name y py] kt pt) X.env] := by rfl)
    (hs1 : (assignEach [.Name x px, .Name y py] X.env).map (·.2) = assign (.Name x px) X.env :: (assignEach [.Name y py] X.env).map (·.2) := by rfl) (hs2 : (assignEach [.Name y py] X.env).map (·.2) = assign (.Name y py) X.env :: (assignEach [] X.env).map (·.2) := by rfl)
    (hn : (assignEach [.Name x px, .Name y py] X.env).length = 2 := by rfl) (hst : (assignEach [.Name x px, .Name y py] X.env).findIdx? (·.1) = none := by rfl) (hc : X.calm = true := by rfl)
    (e1 : starEach [a, b] X.env = (false, eval a X.env) :: starEach [b] X.env := by rfl) (e2 : starEach [b] X.env = (false, eval b X.env) :: starEach [] X.env := by rfl) :
    S1 X C ρ mu (.Assign [.Tuple [.Name x px, .Name y py] kt pt] (.Tuple [a, b] k2 pt2) pos) E := by
  obtain ⟨ta, pa, va⟩ := ea_c ha (ea_c hb ea_no e2) e1
  refine ⟨_, ps_asg (pe_tup pa) (pg_tup hc (pgs_cons (pg_name hN hi hx hfx) (pgs_cons (pg_name hN hj hy hfy) pgs_nil hs2) hs1) hn hst) hs hw hh, fun G σ H ok Dn sat => va G σ H ok _ fun vs H1 x1 r => ?_⟩
  obtain ⟨v, w, rfl, r1, r2⟩ := r.two
  refine ⟨by show 2 ≤ sizeLine; decide, fun p hp => ⟨p, [v, w], rfl, SqT.of upd_same, rfl, v, [w], rfl, w, [], rfl, rfl, ?_⟩⟩
  have xp : Ex H1 (upd H1 p (.tup [v, w])) := Ex.new hp
  exact sat.nx _ _ _ _ ((((ok.mono x1).mono xp).set i (m1.rep (r1.ex xp)) m1.ne).set j (m2.rep (r2.ex xp)) m2.ne) h
/-- .. the second one a list that will change -/
theorem s1_celN (i j : Nat) {x y : Str} {a b : Expr} {px py pt : Pos} {kt k2 pt2} (ha : EE X C ρ none a d1) (hb : EN X C ρ none b ds) (im : ∀ d, d ∈ ds → Im d) (hl : j < ρ.length) (h : ∀ l, E.nx ((ρ.set i (some d1)).set j none) (some (l, j, ds))) (hN : X.N.Nodup) (hi : X.N[i]? = some x := by rfl) (hj : X.N[j]? = some y := by rfl)
    (hx : Loc X.env.scope x := by first | exact Or.inl rfl | exact Or.inr rfl) (hy : Loc X.env.scope y := by first | exact Or.inl rfl | exact Or.inr rfl)
    (hfx : X.fn x = true ∨ X.env.scope.names.lookup x = some .local := by first | exact .inl rfl | exact .inr rfl) (hfy : X.fn y = true ∨ X.env.scope.names.lookup y = some .local := by first | exact .inl rfl | exact .inr rfl)
    (hw : swappedStores [.Tuple [.Name x px, .Name y py] kt pt] (.Tuple [a, b] k2 pt2) X.env = pure none := by rfl)
    (hs : swapsWithSole [.Tuple [.Name x px, .Name y py] kt pt] (.Tuple [a, b] k2 pt2) pos.line X.env = pure false := by rfl)
    (hh : (assignEach [.Tuple [.Name x px, .Name y py] kt pt] X.env).map (·.2) = [assign (.Tuple [.Name x px, .Name y py] kt pt) X.env] := by rfl)
    (hs1 : (assignEach [.Name x px, .Name y py] X.env).map (·.2) = assign (.Name x px) X.env :: (assignEach [.Name y py] X.env).map (·.2) := by rfl) (hs2 : (assignEach [.Name y py] X.env).map (·.2) = assign (.Name y py) X.env :: (assignEach [] X.env).map (·.2) := by rfl)
    (hn : (assignEach [.Name x px, .Name y py] X.env).length = 2 := by rfl) (hst : (assignEach [.Name x px, .Name y py] X.env).findIdx? (·.1) = none := by rfl) (hc : X.calm = true := by rfl)
    (e1 : starEach [a, b] X.env = (false, eval a X.env) :: starEach [b] X.env := by rfl) (e2 : starEach [b] X.env = (false, eval b X.env) :: starEach [] X.env := by rfl) :
    S1 X C ρ none (.Assign [.Tuple [.Name x px, .Name y py] kt pt] (.Tuple [a, b] k2 pt2) pos) E := by
  obtain ⟨ta, pa, va⟩ := ha
  obtain ⟨tb, pb, vb⟩ := hb
  refine ⟨_, ps_asg (pe_tup (pa_cons pa (pa_cons pb pa_nil e2) e1)) (pg_tup hc (pgs_cons (pg_name hN hi hx hfx) (pgs_cons (pg_name hN hj hy hfy) pgs_nil hs2) hs1) hn hst) hs hw hh, fun G σ H ok Dn sat => va G σ H ok _ fun v H1 x1 r1 => vb G σ H1 (ok.mono x1) _ fun q vs H2 hq x2 h2 r2 => ?_⟩
  refine ⟨by show 2 ≤ sizeLine; decide, fun p hp => ⟨p, [v, .ref q], rfl, SqT.of upd_same, rfl, v, [.ref q], rfl, .ref q, [], rfl, rfl, ?_⟩⟩
  have xp : Ex H2 (upd H2 p (.tup [v, .ref q])) := Ex.new hp
  have ok1 := (ok.mono x1).set i (v := v) (d := d1) r1 (fun l j ds z => nomatch z)
  exact sat.nx _ _ _ _ (ok1.new j (by rw [List.length_set]; exact hl) hq (x2.trans xp) (xp.at h2) (r2.ex xp) im) (h q)
/-- range with a step -/
def rgc (lo c : Int) (n : Nat) : List Int := (List.range n).map fun (k : Nat) => lo + (k : Int) * c
theorem rgc_get {lo c : Int} {n k : Nat} (h : (nts (rgc lo c n))[k]? = some d) : k < n ∧ d = .int (lo + k * c) := by
  unfold rgc nts at h
  rw [List.map_map, List.getElem?_map] at h
  cases z : (List.range n)[k]? with
  | none => rw [z] at h; cases h
  | some m =>
    rw [z] at h
    obtain ⟨h1, h2⟩ := List.getElem?_eq_some_iff.mp z
    have e : m = k := by rw [← h2]; simp
    have h3 := Option.some.inj h
    rw [← h3, e]
    exact ⟨by simpa using h1, rfl⟩
theorem ei_rng3 {tg : Expr} {m k s : Int} {n : Nat} (hm : X.mg "range" = none) (ha : EE X C ρ mu a (.int m)) (hb : EE X C ρ mu b (.int k)) (hc : EE X C ρ mu c (.int s)) (hr : RgC m k s n) (hg : Gl X "range" := by rfl)
    (e1 : starEach [a, b, c] X.env = (false, eval a X.env) :: starEach [b, c] X.env := by rfl) (e2 : starEach [b, c] X.env = (false, eval b X.env) :: starEach [c] X.env := by rfl) (e3 : starEach [c] X.env = (false, eval c X.env) :: starEach [] X.env := by rfl)
    (hpl : (backTo pos (starEach [b, c] X.env)).any (·.1) = false := by rfl) : EI X C ρ mu tg (.Call (.Name "range" p) [a, b, c] [] pos) (nts (rgc m s n)) := by
  obtain ⟨ta, pa, va⟩ := ea_c ha (ea_c hb (ea_c hc ea_no e3) e2) e1
  refine ⟨_, pi_range3 hg hm pa e1 hpl, fun G σ H ok R q => va G σ H ok _ fun vs H1 x1 r => ?_⟩
  obtain ⟨v1, vs1, rfl, r1, r'⟩ := r.uncons
  obtain ⟨v2, v3, rfl, r2, r3⟩ := r'.two
  cases r1
  cases r2
  cases r3
  refine ⟨m, k, s, n, rfl, hr, q _ H1 x1 ⟨fun i H d x hd => (rgc_get hd).1, fun i H d v H' x hd y => ?_, fun H x => ?_⟩⟩
  · obtain ⟨h3, rfl⟩ := rgc_get hd
    obtain ⟨rfl, rfl⟩ := y
    exact ⟨Ex.refl _, .int⟩
  · show n ≤ (nts (rgc m s n)).length
    simp [nts, rgc]
/-- sorted(xs), the answer told -/
theorem en_sorted {ys : List Int} (hm : X.mg "sorted" = none) (ha : EE X C ρ mu e (il xs)) (hz : xs.length < 64) (hy : ∀ ns : List Int, ns.Perm xs → ns.Pairwise (· ≤ ·) → ns = ys) (hg : Gl X "sorted" := by rfl) (he : starEach [e] X.env = (false, eval e X.env) :: starEach [] X.env := by rfl)
    (hpl : (backTo pos (starEach [] X.env)).any (·.1) = false := by rfl) : EN X C ρ mu (.Call (.Name "sorted" p) [e] [] pos) (nts ys) := by
  obtain ⟨ta, pa, va⟩ := ea_c ha ea_no he
  refine ⟨_, pe_callB cr_sorted hg hm (by decide +kernel) pa (by decide) (by decide) he hpl, fun G σ H ok Q q => va G σ H ok _ fun vs H1 x1 r0 => ?_⟩
  obtain ⟨v, rfl, r⟩ := r0.one
  obtain ⟨a, rfl, _, h⟩ := r.lstI
  refine ⟨a, xs, rfl, .inl h, hz, fun ns p hp1 hp2 hp => ?_⟩
  have ee := hy ns hp1 hp2
  subst ee
  exact q p _ _ (fresh_back x1 hp) (x1.trans (Ex.new hp)) upd_same (nts_reps _)
/-! ### dicts -/
/-- a dict with whole numbers for keys -/
def ED (X : Cx) (C : Cs) (ρ : Rho) (mu : Mu) (e : Expr) (kvs : List (Int × V)) : Prop :=
  ∃ te, PE X e te ∧ ∀ G σ H, EnvOk X.K C G σ H ρ mu → ∀ Q : VK, (∀ p H2, Ex H H2 → H2 p = some (.dK (kvs.map fun q => (Sum.inl q.1, q.2))) → Q (.ref p) H2) → te σ H Q
/-- a key put in -/
def putI (kvs : List (Int × V)) (k : Int) (v : V) : List (Int × V) := if (kvs.any fun q => decide (q.1 = k)) = true then kvs.map (fun q => if q.1 = k then (q.1, v) else q) else kvs ++ [(k, v)]
theorem putI_ok (kvs : List (Int × V)) (k : Int) (v : V) : putK (kvs.map fun q => ((Sum.inl q.1 : Key), q.2)) (Sum.inl k) v = (putI kvs k v).map fun q => (Sum.inl q.1, q.2) := by
  unfold putK putI
  have e1 : ((kvs.map fun q => ((Sum.inl q.1 : Key), q.2)).any fun kv => decide (kv.1 = Sum.inl k)) = kvs.any fun q => decide (q.1 = k) := by
    rw [List.any_map]
    congr 1
    funext q
    exact decide_eq_decide.mpr ⟨fun z => Sum.inl.inj z, fun z => congrArg Sum.inl z⟩
  rw [e1]
  split
  · rw [List.map_map, List.map_map]
    congr 1
    funext q
    show (if (Sum.inl q.1 : Key) = Sum.inl k then ((Sum.inl q.1 : Key), v) else (Sum.inl q.1, q.2)) = _
    by_cases h : q.1 = k
    · rw [if_pos (congrArg Sum.inl h)]
      show _ = (fun q : Int × V => ((Sum.inl q.1 : Key), q.2)) (if q.1 = k then (q.1, v) else q)
      rw [if_pos h]
    · rw [if_neg fun z => h (Sum.inl.inj z)]
      show _ = (fun q : Int × V => ((Sum.inl q.1 : Key), q.2)) (if q.1 = k then (q.1, v) else q)
      rw [if_neg h]
  · rw [List.map_append]
    rfl
theorem putI_len (kvs : List (Int × V)) (k : Int) (v : V) : (putI kvs k v).length ≤ kvs.length + 1 := by
  unfold putI
  split <;> simp
def putAll (L : List (Int × V)) : List (Int × V) := L.foldl (fun kvs q => putI kvs q.1 q.2) []
theorem putAll_snoc (L : List (Int × V)) (q : Int × V) : putAll (L ++ [q]) = putI (putAll L) q.1 q.2 := by
  unfold putAll
  rw [List.foldl_append]
  rfl
theorem putAll_len (L : List (Int × V)) : (putAll L).length ≤ L.length := by
  have : ∀ (L : List (Int × V)) (acc : List (Int × V)), (L.foldl (fun kvs q => putI kvs q.1 q.2) acc).length ≤ acc.length + L.length := fun L => by
    induction L with
    | nil => intro acc; simp
    | cons q L ih =>
      intro acc
      have h1 := ih (putI acc q.1 q.2)
      have h2 := putI_len acc q.1 q.2
      rw [List.foldl_cons, List.length_cons]
      omega
  exact Nat.le_trans (this L []) (by simp)
/-- a value without a place in the heap -/
def flat : D → Option V
  | .int i => some (.int i)
  | .bl b => some (.bl b)
  | _ => none
theorem flat_rep {K : PySem.W.Frag} {av : Option Addr} {H : Hp} {v w : V} (h : flat d = some w) (r : Rep K C av H d v) : v = w := by
  cases r <;> first | exact Option.some.inj h | cases h
/-- {k: v for .. in ..} -/
theorem ed_comp {α : Type} (L : List α) (g : α → D) (kf : α → Int) (vf : α → D) (wf : α → V) {tg iter kx vx : Expr} {scope : Scope} {own : List (Str × Nat)} (ei : EI X C ρ mu tg iter (L.map g)) (hN : X.N.Nodup) (ok : BlkOk X.N X.env.scope scope own) (hj : ∀ l j xs, mu = some (l, j, xs) → j ∉ own.map (·.2)) (hz : L.length ≤ 1000)
    (body : ∀ x, x ∈ L → flat (vf x) = some (wf x) ∧ ∃ ρ2, Blk X scope (fun Y => EG Y C mu (own.map (·.2)) tg (g x) (wr ρ (own.map (·.2))) ρ2) ∧ Blk X scope (fun Y => EE Y C ρ2 mu kx (.int (kf x))) ∧ Blk X scope (fun Y => EE Y C ρ2 mu vx (vf x)))
    (hc : X.calm = true := by rfl) (hs : ∀ x, foldedSetIterable iter X.env x = pure x := by intro _; rfl) : ED X C ρ mu (.DictComp kx vx [⟨tg, iter, [], 0⟩] scope pos) (putAll (L.map fun x => (kf x, wf x))) := by
  obtain ⟨wi, pi, vi⟩ := ei
  have pg0 : ∀ (s : Shared) (H : Hp) (c : Addr) (cl : List (Str × Addr)) (fp : List Addr), PG (X.blk s H scope (compEnvC scope cl c X.env) fp) tg (fun v σ H Q => Blk X scope fun Y => ∃ g, PG Y tg g ∧ g v σ H Q) := fun s0 H0 c0 cl fp => ⟨fun pins s σ H v u Q I r q => let ⟨g, p, q⟩ := q s0 H0 c0 cl fp; p.run pins s σ H v u Q I r q⟩
  have pk0 : ∀ (s : Shared) (H : Hp) (c : Addr) (cl : List (Str × Addr)) (fp : List Addr), PE (X.blk s H scope (compEnvC scope cl c X.env) fp) kx (fun σ H Q => Blk X scope fun Y => ∃ t, PE Y kx t ∧ t σ H Q) := fun s0 H0 c0 cl fp => ⟨fun pins s σ H Q I q => let ⟨g, p, q⟩ := q s0 H0 c0 cl fp; p.run pins s σ H Q I q⟩
  have pv0 : ∀ (s : Shared) (H : Hp) (c : Addr) (cl : List (Str × Addr)) (fp : List Addr), PE (X.blk s H scope (compEnvC scope cl c X.env) fp) vx (fun σ H Q => Blk X scope fun Y => ∃ t, PE Y vx t ∧ t σ H Q) := fun s0 H0 c0 cl fp => ⟨fun pins s σ H Q I q => let ⟨g, p, q⟩ := q s0 H0 c0 cl fp; p.run pins s σ H Q I q⟩
  refine ⟨_, pe_dc hc hN pi ok pg0 (fun _ _ _ _ _ => pts_nil) pk0 pv0 hs, fun G σ H okE Q q => vi G σ H okE _ fun J H1 e1 yl Dn hD => ?_⟩
  have ok1 := okE.mono e1
  have nl : (L.map g).length = L.length := List.length_map ..
  refine ⟨fun i m H' => i ≤ L.length ∧ m = L.length - i ∧ Ex H1 H' ∧ H' Dn = some (.dK ((putAll ((L.take i).map fun x => (kf x, wf x))).map fun q => (Sum.inl q.1, q.2))), ⟨L.length, Nat.zero_le _, rfl, Ex.new hD, upd_same⟩, ?_⟩
  rintro i m H' ⟨hi, rfl, x1, hacc⟩
  by_cases hlt : i < L.length
  · have hx : L[i]? = some L[i] := List.getElem?_eq_getElem hlt
    generalize L[i] = a at hx
    have hd' : (L.map g)[i]? = some (g a) := by rw [List.getElem?_map, hx]; rfl
    obtain ⟨hfl, ρ2, tgt, kk, vv⟩ := body a (List.mem_of_getElem? hx)
    refine .inr ⟨yl.go i H' _ (hole_le.trans x1) hd', fun H3 => Ex H1 H3 ∧ H3 Dn = some (.dK ((putAll ((L.take (i + 1)).map fun x => (kf x, wf x))).map fun q => (Sum.inl q.1, q.2))), fun H3 q => ⟨L.length - (i + 1), by omega, hlt, rfl, q⟩, fun x H2 y => ?_⟩
    obtain ⟨x2, r2⟩ := yl.yl i H' _ x H2 (hole_le.trans x1) hd' y
    have okw : EnvOk X.K C G (L2.wipe σ (own.map (·.2))) H2 (wr ρ (own.map (·.2))) mu := ((ok1.mono x1).mono x2).wipe _ hj
    intro s0 H0 c0 cl fp
    obtain ⟨gg, pg, vg⟩ := tgt s0 H0 c0 cl fp
    refine ⟨gg, pg, vg G _ H2 x okw r2 _ fun σ2 ok2 w2 => ⟨by rw [w2, wipe_wipe], ?_⟩⟩
    simp only [tYes, if_true]
    intro s0 H0 c0 cl fp
    obtain ⟨tk, pk, vk⟩ := kk s0 H0 c0 cl fp
    refine ⟨tk, pk, vk G σ2 H2 ok2 _ fun v H3 x3 r3 s0 H0 c0 cl fp => ?_⟩
    cases r3
    obtain ⟨tv, pv, vv'⟩ := vv s0 H0 c0 cl fp
    refine ⟨tv, pv, vv' G σ2 H3 (ok2.mono x3) _ fun w H4 x4 r4 => ?_⟩
    have ew := flat_rep hfl r4
    subst ew
    have xx : Ex H' H4 := (x2.trans x3).trans x4
    refine ⟨_, Sum.inl (kf a), rfl, xx.at hacc, ?_, (x1.trans xx).mut hD, ?_⟩
    · rw [List.length_map]
      refine Nat.lt_of_le_of_lt (putAll_len _) ?_
      rw [List.length_map, List.length_take]
      exact Nat.lt_of_le_of_lt (Nat.le_trans (Nat.min_le_right _ _) hz) (by decide)
    · rw [upd_same, putI_ok, List.take_add_one, hx, List.map_append]
      show some (HO.dK _) = some (HO.dK _)
      rw [show ((some a).toList.map fun x => (kf x, wf x)) = [(kf a, wf a)] from rfl, putAll_snoc]
  · have ei : i = L.length := by omega
    subst ei
    refine .inl ⟨by have := yl.stop H' (hole_le.trans x1); rwa [nl] at this, q Dn H' (e1.trans x1) ?_⟩
    rw [List.take_length] at hacc
    exact hacc
/-- sorted of a dict: its keys -/
theorem en_sortD {ys : List Int} {kvs : List (Int × V)} (hm : X.mg "sorted" = none) (ha : ED X C ρ mu e kvs) (hz : kvs.length < 64) (hy : ∀ ns : List Int, ns.Perm (kvs.map (·.1)) → ns.Pairwise (· ≤ ·) → ns = ys) (hg : Gl X "sorted" := by rfl) (he : starEach [e] X.env = (false, eval e X.env) :: starEach [] X.env := by rfl)
    (hpl : (backTo pos (starEach [] X.env)).any (·.1) = false := by rfl) (hc : X.calm = true := by rfl) : EN X C ρ mu (.Call (.Name "sorted" p) [e] [] pos) (nts ys) := by
  obtain ⟨te, pe, ve⟩ := ha
  refine ⟨_, pe_callB (call_sortedDI hc) hg hm (by decide +kernel) (pa_cons pe pa_nil he) (by decide) (by decide) he hpl, fun G σ H ok Q q => ve G σ H ok _ fun p H1 x1 h => ?_⟩
  refine ⟨p, _, kvs.map (·.1), rfl, .inl h, by rw [List.map_map, List.map_map]; rfl, by rw [List.length_map]; exact hz, fun ns p' hp1 hp2 hp => ?_⟩
  have ee := hy ns hp1 hp2
  subst ee
  exact q p' _ _ (fresh_back x1 hp) (x1.trans (Ex.new hp)) upd_same (nts_reps _)
/-- as data -/
theorem ee_dic {kvs : List (Int × Int)} (h : ED X C ρ mu e (kvs.map fun q => (q.1, V.int q.2))) : EE X C ρ mu e (.dic kvs) := by
  obtain ⟨te, pe, ve⟩ := h
  refine ⟨te, pe, fun G σ H ok Q q => ve G σ H ok Q fun p H1 x1 h => q _ H1 x1 (.dic ?_)⟩
  rw [List.map_map] at h
  exact h
/-- d[k] -/
theorem ee_dget {kvs : List (Int × Int)} {k v : Int} (hu : X.A.units + 64 < cLine) (ha : EE X C ρ mu a (.dic kvs)) (hb : EE X C ρ mu b (.int k)) (h : (kvs.find? fun q => decide (q.1 = k)) = some (k, v)) (hs : NoSl b := by exact fun _ _ => rfl) : EE X C ρ mu (.Subscript a b pos) (.int v) := by
  obtain ⟨ta, pa, va⟩ := ha
  obtain ⟨tb, pb, vb⟩ := hb
  refine ⟨_, pe_dget (by omega) pa pb hs, fun G σ H ok Q q => va G σ H ok _ fun v1 H1 x1 r1 => vb G σ H1 (ok.mono x1) _ fun v2 H2 x2 r2 => ?_⟩
  cases r2
  cases r1 with
  | @dic p _ hd =>
    refine ⟨p, .int v, rfl, .inl ⟨_, Sum.inl k, .inl (x2.at hd), rfl, ?_⟩, q _ H2 (x1.trans x2) .int⟩
    unfold valV
    rw [List.find?_map]
    have e : ((fun kv : Key × V => decide (kv.1 = Sum.inl k)) ∘ fun p : Int × Int => ((Sum.inl p.1 : Key), V.int p.2)) = fun q => decide (q.1 = k) := by
      funext q
      exact decide_eq_decide.mpr ⟨fun z => Sum.inl.inj z, fun z => congrArg Sum.inl z⟩
    rw [e, h]
    rfl
/-! ### gcd, powers, tuples from their end, max of a tuple -/
theorem ee_gcd (hm : X.mg "gcd" = some (.builtin "math.gcd")) (ha : EE X C ρ mu a (.int i)) (hb : EE X C ρ mu b (.int j)) (hg : Gl X "gcd" := by rfl) (he : starEach [a, b] X.env = (false, eval a X.env) :: starEach [b] X.env := by rfl)
    (he2 : starEach [b] X.env = (false, eval b X.env) :: starEach [] X.env := by rfl) (hpl : (backTo pos (starEach [b] X.env)).any (·.1) = false := by rfl) : EE X C ρ mu (.Call (.Name "gcd" p) [a, b] [] pos) (.int ((Nat.gcd i.natAbs j.natAbs : Nat) : Int)) := by
  obtain ⟨ta, pa, va⟩ := ea_c ha (ea_c hb ea_no he2) he
  refine ⟨_, pe_callBfun cr_gcd hg hm pa (by decide) he hpl, fun G σ H ok Q q => va G σ H ok _ fun vs H1 x1 r => ?_⟩
  obtain ⟨v, w, rfl, r1, r2⟩ := r.two
  cases r1
  cases r2
  exact ⟨i, j, rfl, q _ H1 x1 .int⟩
theorem op_powI : OpR X (binaryOp .Pow) (fun x y H Q => ∃ i n : Int, x = .int i ∧ y = .int n ∧ 0 ≤ n ∧ (Builtin.Int.intBits i : Int) * n ≤ 2 ^ 27 ∧ Q (.int (i ^ n.toNat)) H) := by
  intro pins s σ H x y v u Q I rx ry h
  obtain ⟨i, n, rfl, rfl, h0, h1, q⟩ := h
  obtain ⟨t, rfl⟩ := rx
  obtain ⟨t', rfl⟩ := ry
  exact PyProof.Rows.pow_int h0 h1 ⟨.int _, H, I.tok _, ⟨_, rfl⟩, q⟩
theorem ee_pow (ha : EE X C ρ mu a (.int i)) (hb : EE X C ρ mu b (.int j)) (h0 : 0 ≤ j) (h1 : (Builtin.Int.intBits i : Int) * j ≤ 2 ^ 27) : EE X C ρ mu (.BinOp a .Pow b pos) (.int (i ^ j.toNat)) := by
  obtain ⟨ta, pa, va⟩ := ha
  obtain ⟨tb, pb, vb⟩ := hb
  refine ⟨_, pe_op op_powI pa pb, fun G σ H ok Q q => va G σ H ok _ fun v1 H1 e1 r1 => vb G σ H1 (ok.mono e1) _ fun v2 H2 e2 r2 => ?_⟩
  cases r1
  cases r2
  exact ⟨i, j, rfl, rfl, h0, h1, q _ H2 (e1.trans e2) .int⟩
end
end Dd
set_option maxHeartbeats 2000000
/-! More of the layer: t[::-1], max(t, default=0). -/
namespace HT
open PySem PySem.Spec PyProof.Rows L2
section
variable {prog : Program} {w : World} {A : Around} {E : Value → Shared → Prop} {s : Shared}
theorem sl_revApplied {sl : Addr} {vs : Value} {n : Nat} {Q : Int × Int × Nat → Shared → Prop} (hs : s.heap.IsSliceOf sl .none .none vs) (ps : IsPart vs (some (-1)))
    (h : Q ((n : Int) - 1, -1, n) s) : wpAny (model prog w) A (Builtin.Slice.sliceApplied (.ref sl) (pure (n : Int))) Q E s := by
  obtain ⟨os, hos, hcs, hds⟩ := id hs
  unfold Builtin.Slice.sliceApplied Builtin.Slice.sliceFields
  refine wpAny_bind (wpAny_bind (wpAny_field hos hds (x := .none) rfl (wpAny_bind (wpAny_field hos hds (x := .none) rfl (wpAny_bind (wpAny_field hos hds (x := vs) rfl (wpAny_pure ?_)))))))
  refine wpAny_bind (slicePart_ ps ?_)
  show wpAny _ _ (if ((-1 : Int) == 0) = true then _ else _) _ _ s
  rw [if_neg (by decide)]
  refine wpAny_bind (slicePart_none (wpAny_bind (slicePart_none (wpAny_bind (wpAny_pure ?_)))))
  show wpAny _ _ (match Builtin.Slice.sliceAdjust none none (-1) (n : Int) with | (lo, hi) => pure (lo, (-1 : Int), Builtin.Slice.slicePlaces lo hi (-1))) _ _ s
  have e1 : Builtin.Slice.sliceAdjust none none (-1) (n : Int) = ((n : Int) - 1, -1) := by
    unfold Builtin.Slice.sliceAdjust
    simp
  rw [e1]
  have e2 : Builtin.Slice.slicePlaces ((n : Int) - 1) (-1) (-1) = n := by
    unfold Builtin.Slice.slicePlaces
    rw [if_neg (by omega)]
    split
    · rw [show (-(-1 : Int)) = 1 by omega, Int.ediv_one]; omega
    · omega
  show wpAny _ _ (pure ((n : Int) - 1, (-1 : Int), Builtin.Slice.slicePlaces ((n : Int) - 1) (-1) (-1))) _ _ s
  rw [e2]
  exact wpAny_pure h
theorem rev_pick (xs : Array Value) : ((List.range xs.size).filterMap fun (m : Nat) => xs[(((xs.size : Nat) : Int) - 1 + (m : Int) * (-1)).toNat]?).toArray = xs.toList.reverse.toArray := by
  congr 1
  obtain ⟨l⟩ := xs
  show ((List.range l.length).filterMap fun (m : Nat) => l.toArray[((l.length : Int) - 1 + (m : Int) * (-1)).toNat]?) = l.reverse
  apply List.ext_getElem?
  intro i
  have key : ∀ n, n ≤ l.length → (List.range n).filterMap (fun (m : Nat) => l.toArray[((l.length : Int) - 1 + (m : Int) * (-1)).toNat]?) = l.reverse.take n := fun n => by
    induction n with
    | zero => intro _; rfl
    | succ n ih =>
      intro hn
      rw [List.range_succ, List.filterMap_append, ih (by omega), List.take_add_one]
      congr 1
      have e : ((l.length : Int) - 1 + (n : Int) * (-1)).toNat = l.length - 1 - n := by omega
      simp only [List.filterMap_cons, List.filterMap_nil, e]
      rw [List.getElem?_reverse (by omega), List.getElem?_toArray, List.getElem?_eq_getElem (by omega)]
      rfl
  rw [key _ (Nat.le_refl _), List.take_of_length_le (by simp)]
theorem getItem_tuple_rev {t sl : Addr} {items : Array Value} {vs : Value} {Q : Value → Shared → Prop} (ht : IsTup s.heap t items) (hs : s.heap.IsSliceOf sl .none .none vs) (ps : IsPart vs (some (-1)))
    (h : Q (.ref s.heap.objs.size) { s with heap := s.heap.push { cls := .type "tuple", data := .seq items.toList.reverse.toArray } }) (hsz : items.size ≤ sizeLine) : wpAny (model prog w) A (getItem (.ref t) (.ref sl)) Q E s := by
  have htake : sizeOk (.seq items.toList.reverse.toArray) := by
    show items.toList.reverse.toArray.size ≤ sizeLine
    rw [List.size_toArray, List.length_reverse, Array.length_toList]
    exact hsz
  obtain ⟨os, hos, hcs, hds⟩ := id hs
  have hTs : s.TypeIs (.ref sl) "slice" := ⟨os, hos, hcs⟩
  unfold getItem
  try with_reducible refine wpAny_holding ?_
  first | refine wpAny_bind (wpAny_pure ?_) | skip
  refine wpAny_bind (wpAny_sequenceKey ht.typeIs (by decide) ?_)
  refine wpAny_bind (wpAny_callSpecial?_slot (name := Str.ofString "__getitem__") ht.typeIs PyProof.Rows.slot_tuple_getitem
    (wpAny_call_entry PyProof.Rows.slot_tuple_getitem ht.typeIs entry_tuple_getitem ?_ (args_tuple_getitem _ _)))
  show wpAny _ _ (Builtin.Tuple.tupleItemsOf (.ref t) >>= _) _ _ s
  refine wpAny_bind (tupleItemsOf_ ht ?_)
  refine wpAny_bind (wpAny_typeOf hTs ?_)
  rw [if_pos (by decide)]
  refine wpAny_bind (sl_revApplied hs ps ?_)
  have hno : ¬ ((((items.size : Nat) : Int) - 1 == 0 && (-1 : Int) == 1 && items.size == items.size) = true) := by
    intro q
    rw [Bool.and_eq_true, Bool.and_eq_true] at q
    exact absurd (eq_of_beq q.1.2) (by decide)
  show wpAny _ _ (if (((items.size : Nat) : Int) - 1 == 0 && (-1 : Int) == 1 && items.size == items.size) = true then _ else _) _ _ s
  rw [if_neg hno, rev_pick]
  first
    | exact wpAny_bind (m := Builtin.Tuple.tupleExact _) (wpAny_newObj_type (wpAny_pure ⟨_, rfl, wpAny_pure h⟩) htake)
    | exact wpAny_bind (m := Builtin.Tuple.tupleExact _) (wpAny_newObj_type (wpAny_bind (wpAny_pure (wpAny_pure ⟨_, rfl, wpAny_pure h⟩))) htake)
    | exact wpAny_bind (wpAny_bind (m := Builtin.Tuple.tupleExact _) (wpAny_newObj_type (wpAny_pure (wpAny_pure ⟨_, rfl, wpAny_pure h⟩)) htake))
    | exact wpAny_bind (wpAny_bind (m := Builtin.Tuple.tupleExact _) (wpAny_newObj_type (wpAny_pure ⟨_, rfl, wpAny_pure h⟩) htake))
end
end HT
namespace Dd
open PySem PySem.Spec PyProof.Rows L2 Evl
section
variable {X : Cx} {C : Cs} {ρ : Rho} {mu : Mu} {a b c e e1 e2 : Expr} {es : List Expr} {d d1 d2 : D} {ds ds2 : List D} {pos p : Pos} {i j : Int} {xs : List Int} {E : DE}
def tRevT (K : PySem.W.Frag) (te : TE) : TE := fun σ H Q => te σ H fun x H1 => ∃ (a : Addr) (xs : List V), x = .ref a ∧ SqT K H1 a xs ∧ ∀ p, H1 p = none → Q (.ref p) (upd H1 p (.tup xs.reverse))
theorem pe_revT {te : TE} {k : Nat} {p1 p2 p3 : Pos} (he : PE X e te) : PE X (.Subscript e (.Slice none none (some (.UnaryOp .USub (.Constant (.int 1) k p1) p2)) p3) pos) (tRevT X.K te) := by
  refine ⟨fun pins s σ H Q I h => Subscript_ (thn (he.run pins s σ H _ I h) fun v s1 ⟨x, H1, I1, r1, q1⟩ => ?_)⟩
  obtain ⟨a, xs, ex, hx, q⟩ := q1
  subst ex
  cases r1
  have hst : PO X (some (.UnaryOp .USub (.Constant (.int 1) k p1) p2)) (tPart (tUn (rU fun i => .int (-i)) (tC (.int 1)))) := po_some (pe_un un_neg pe_int)
  refine wpAny_Slice ?_
  rw [evalPart_none]
  refine wpAny_pure (wpAny_pure ?_)
  refine thn (hst.run pins s1 σ H1 (fun o H4 => o = some (-1) ∧ H4 = H1) I1 ⟨1, rfl, -1, rfl, rfl, rfl⟩) fun vs s4 ⟨o, H4, I4, ps, eo, e4⟩ => ?_
  subst eo e4
  have I5 : Inv X pins σ H4 { s4 with heap := s4.heap.push { cls := .type "slice", data := .fields #[.none, .none, vs] } } := I4.kept (t' := s4.toks) fun b ob q => Heap.get?_push_of_some _ q
  obtain ⟨its, r, ht, hz⟩ := I5.tuple hx
  have hlen := r.length
  show wpAny (model X.prog X.w) X.A (subscriptTail e (.Slice none none (some (.UnaryOp .USub (.Constant (.int 1) k p1) p2)) p3) (.ref a) (.ref s4.heap.objs.size)) (EP X pins σ Q) X.xe { s4 with heap := s4.heap.push { cls := .type "slice", data := .fields #[.none, .none, vs] } }
  refine tail_any (ops := [.ref a, .ref s4.heap.objs.size]) ht.typeIs PyProof.Rows.slot_tuple_getitem.lookup ?_ (by with_unfolding_all rfl)
  refine HT.getItem_tuple_rev ht (Heap.IsSliceOf.new _ .none .none vs) ps ?_ (by rw [List.size_toArray]; omega)
  refine ⟨.ref _, _, I5.laid (t' := s4.toks) (o := .tup xs.reverse) (fun b ob q => Heap.get?_push_of_some _ q) (Nat.le_refl _) ?_, rfl, q _ (I5.hok.fresh (Nat.le_refl _))⟩
  exact ⟨by rw [List.length_reverse]; exact hz, _, r.reverse, IsTup.new _ _⟩
theorem ee_revT {k : Nat} {q1 q2 q3 : Pos} (ha : EE X C ρ mu e (.tup ds)) : EE X C ρ mu (.Subscript e (.Slice none none (some (.UnaryOp .USub (.Constant (.int 1) k q1) q2)) q3) pos) (.tup ds.reverse) := by
  obtain ⟨ta, pa, va⟩ := ha
  refine ⟨_, pe_revT pa, fun G σ H ok Q q => va G σ H ok _ fun v H1 x1 r => ?_⟩
  cases r with
  | @tup a ws _ h l at_ =>
    refine ⟨a, ws, rfl, h, fun p hp => q _ _ (x1.trans (Ex.new hp)) (.tup (SqT.of upd_same) (by simp [l]) ?_)⟩
    refine Reps.at_ (Reps.ex (Ex.new hp) ⟨by simp [l], fun k d v h1 h2 => ?_⟩)
    have hi : k < ds.length := by have := (List.getElem?_eq_some_iff.mp h1).1; simpa using this
    rw [List.getElem?_reverse (by omega)] at h1
    rw [List.getElem?_reverse (by omega), ← l] at h2
    exact at_ _ d v h1 h2
/-! ### max(t, default=0) -/
theorem maxOf_fold (ys : List Int) : ∀ y : Int, PySem.W.maxOf y ys = ys.foldl max y := by
  induction ys with
  | nil => intro y; rfl
  | cons z ys ih =>
    intro y
    show PySem.W.maxOf (if PySem.W.DatumOrd.lt y z = true then z else y) ys = _
    rw [ih]
    show ys.foldl max _ = ys.foldl max (max y z)
    congr 1
    have e : PySem.W.DatumOrd.lt y z = decide (y < z) := rfl
    rw [e]
    by_cases h : y < z
    · rw [if_pos (decide_eq_true h)]; omega
    · rw [if_neg (by simpa using h)]; omega
def mx0 (xs : List Int) : Int := match xs with
  | [] => 0
  | y :: ys => ys.foldl max y
def rMax0 (K : PySem.W.Frag) : List V → List V → Hp → VK → Prop := fun vs zs H Q => ∃ (a : Addr) (ns : List Int), vs = [V.ref a] ∧ zs = [.int 0] ∧ SqT K H a (ns.map V.int) ∧ Q (.int (mx0 ns)) H
theorem cr_max0 (hc : X.calm = true) (hu : X.A.units + 64 < cLine) : CallRK X (.builtin "max") [Str.ofString "default"] (rMax0 X.K) := by
  intro pins s σ H xs zs us ws Q I r1 r2 h
  obtain ⟨a, ns, rfl, rfl, hs, q⟩ := h
  obtain ⟨its, rv, hl, _⟩ := I.tuple hs
  rw [Vals.ref1 r1]
  obtain ⟨u, rfl, ⟨t, rfl⟩⟩ : ∃ u, ws = [u] ∧ RelV (.int 0) u := by
    cases r2 with
    | cons r rr =>
      cases rr
      exact ⟨_, rfl, r⟩
  have hi := rv.ints
  have hold : PySem.W.HoldAll s.heap its.toArray.toList ns := ⟨_, hi.reads s.heap⟩
  refine PySem.W.max_tuple_datum_default (α := Int) (I.ok.hd hc) hl hold (by show X.A.units + 1 + 0 < cLine; omega) (fun e h' tk hk => ?_) (fun y ys i v h' tk e hv hh hk => ?_)
  · subst e
    exact ⟨.int 0, H, I.kept hk, ⟨t, rfl⟩, q⟩
  · subst e
    obtain ⟨as, rd⟩ := hh
    rw [maxOf_fold] at rd
    have ev : ∃ t, v = .int (ys.foldl max y) t := by
      generalize hg : (PySem.W.Datum.toD (ys.foldl max y) : PyData) = dd at rd
      cases rd with
      | int i' t' =>
        have : PyData.int (ys.foldl max y) = PyData.int i' := hg
        cases this
        exact ⟨_, rfl⟩
      | _ => exact absurd hg (fun z => by
          have z' : PyData.int (ys.foldl max y) = _ := z
          cases z')
    exact ⟨.int (ys.foldl max y), H, I.kept hk, ev, q⟩
theorem ee_max0 {k : Nat} {p2 p3 : Pos} (hm : X.mg "max" = none) (hu : X.A.units + 64 < cLine) (ha : EE X C ρ mu e (it xs)) (hc : X.calm = true := by rfl) (hg : Gl X "max" := by rfl)
    (he : backTo pos (starEach [e] X.env) = (false, eval e X.env) :: backTo pos (starEach [] X.env) := by rfl) (hse : starEach [e] X.env = (false, eval e X.env) :: starEach [] X.env := by rfl) (hpl : (backTo pos (starEach [e] X.env)).any (·.1) = false := by rfl)
    (hk : PK X [⟨some "default", .Constant (.int 0) k p2, p3⟩] (tCons (tC (.int 0)) tNil) := by exact pk_cons pe_int pk_nil)
    (hall : (backToKw pos (keywordEach [⟨some "default", .Constant (.int 0) k p2, p3⟩] X.env)).all (·.1.isSome) = true := by rfl) (hnone : (backToKw pos (keywordEach [⟨some "default", .Constant (.int 0) k p2, p3⟩] X.env)).any (·.1.isNone) = false := by rfl)
    (hks : (backToKw pos (keywordEach [⟨some "default", .Constant (.int 0) k p2, p3⟩] X.env)).filterMap (·.1) = [Str.ofString "default"] := by rfl) :
    EE X C ρ mu (.Call (.Name "max" p) [e] [⟨some "default", .Constant (.int 0) k p2, p3⟩] pos) (.int (mx0 xs)) := by
  obtain ⟨ta, pa, va⟩ := ea_c ha ea_no hse
  refine ⟨_, pe_callBK (cr_max0 hc hu) hg hm (by decide +kernel) pa hk (by decide) (by decide) he hpl hall hnone hks, fun G σ H ok Q q => va G σ H ok _ fun vs H1 x1 r0 => ?_⟩
  obtain ⟨v, rfl, r⟩ := r0.one
  obtain ⟨a, rfl, h⟩ := r.tupI
  exact ⟨a, xs, rfl, rfl, h, q _ H1 x1 .int⟩
end
end Dd
set_option maxHeartbeats 2000000
/-! The defs' ground: names, promises, how a def is walked. -/
namespace Dd
open PySem PySem.Spec PyProof.Rows L2 Evl
def top (i : Nat) : Stmt := PySem.Challenge.pw_ringstairs_k96_whole_cores_round_maps_an.main.body.getD i (.Pass ⟨0, 0, 0, 0⟩)
/-- the def of this text stands under its name -/
def Df (K : PySem.W.Frag) (mg : Str → Option Value) (x : Str) (st : Stmt) : Prop :=
  ∃ f fd, FunD K x x (defArgs st) (defBody st) (defScope st) [] [] f fd ∧ mg x = some (.ref f)
def rho0 (N : List Str) (ds : List D) : Rho := ds.map some ++ List.replicate (N.length - ds.length) none
theorem env0 {K : PySem.W.Frag} {C : Cs} {H : Hp} {N : List Str} {ds : List D} {vs : List V} (tb : Tb C H) (r : Reps K C none H ds vs) (hl : ds.length ≤ N.length) : EnvOk K C H (L2.start N vs) H (rho0 N ds) none where
  ex := Ex.refl H
  tb := tb
  at_ := fun i d h => by
    unfold rho0 at h
    unfold L2.start
    by_cases hi : i < ds.length
    · rw [List.getElem?_append_left (by simpa using hi), List.getElem?_map] at h
      rw [List.getElem?_append_left (by rw [List.length_map, ← r.len]; exact hi), List.getElem?_map]
      cases z : ds[i]? with
      | none => rw [z] at h; cases h
      | some d' =>
        rw [z] at h
        have e := Option.some.inj (Option.some.inj h)
        obtain ⟨v, h1, h2⟩ := r.get z
        exact ⟨v, by rw [h1]; rfl, e ▸ h2⟩
    · rw [List.getElem?_append_right (by simpa using Nat.le_of_not_lt hi)] at h
      have := (List.mem_replicate.mp (List.mem_of_getElem? h)).2
      cases this
  mu := fun l j ds z => nomatch z
  len := by simp [rho0, L2.start, r.len]
section
variable {P : Program} {w : World} {K : PySem.W.Frag} {mg : Str → Option Value} {base : Heap} {C : Cs}
abbrev BindOk (x : Str) (st : Stmt) (ps : List Str) : Prop := ∀ (kV doc pm : Value) (an : Option Addr) (cdv ct : Value) (us : List Value), us.length = ps.length → bindArgs (PySem.W.fnOf x x (defArgs st) (defBody st) (defScope st) .none kV doc pm an cdv ct) ⟨us, []⟩ = pure (ps.zip us)
/-- the body's context -/
abbrev cxD (P : Program) (w : World) (K : PySem.W.Frag) (mg : Str → Option Value) (base : Heap) (N : List Str) (x : Str) (st : Stmt) (f : Addr) (cdv : Value) (A : Around) (outer : List Env) (s : Shared) (H : Hp) (E : XK) : Cx :=
  (cxOf CX0 P w K mg base N x (defScope st) f cdv A outer s H E).nox
theorem Fd.mk {x : Str} {st : Stmt} {N ps : List Str} {lv : Nat} {f : List D → D → Prop} (D0 : Df K mg x st) (S : FnScope N ps (defScope st)) (hb : BindOk x st ps) (hN : ps.length ≤ N.length)
    (len : ∀ ds d, f ds d → ds.length = ps.length)
    (body : ∀ (fa : Addr) (cdv : Value) (A : Around) (outer : List Env) (s : Shared) (H : Hp) (E : XK) (ds : List D) (d : D), Room lv (cxD P w K mg base N x st fa cdv A outer s H E).A → f ds d →
      SS (cxD P w K mg base N x st fa cdv A outer s H E) C (rho0 N ds) none (defBody st) ⟨fun _ _ => d = .non, fun d' _ => d' = d⟩) : Fd P w K mg base C (lv + 1) x f := by
  obtain ⟨fa, fd, F, hm⟩ := D0
  refine ⟨fa, fd, ps, hm, F.kp, F.bindsN hb, F.ok S (fun vs H Q E ⟨_, ds, d, r, hf, _⟩ => by rw [← r.len]; exact len ds d hf) (fun cdv A outer s H vs Q E hr h => ?_)⟩
  obtain ⟨tb, ds, d, r, hf, q⟩ := h
  obtain ⟨t, pt, vt⟩ := body fa cdv A outer s H E ds d hr hf
  refine ⟨t, PSs.nox pt, vt H (L2.start N vs) H (env0 tb r (by rw [len ds d hf]; exact hN)) _ ⟨fun σ H' ρ mu ok e => ?_, fun σ H' ρ mu v d' ok rv e => ?_⟩⟩
  · subst e
    exact q .non H' ok.ex .non
  · subst e
    exact q v H' ok.ex rv
end
/-- built-ins and numbers by name -/
structure Wd (mg : Str → Option Value) : Prop where
  gcd : mg "gcd" = some (.builtin "math.gcd")
  len : mg "len" = none
  range : mg "range" = none
  zip : mg "zip" = none
  enumerate : mg "enumerate" = none
  sum : mg "sum" = none
  max : mg "max" = none
  min : mg "min" = none
  all : mg "all" = none
  sorted : mg "sorted" = none
  tuple : mg "tuple" = none
  list : mg "list" = none
  int : mg "int" = none
  bool : mg "bool" = none
  abs : mg "abs" = none
  isinstance : mg "isinstance" = none
  next : mg "next" = none
  MOST_RINGS : ∃ t, mg "MOST_RINGS" = some (.int 12 t)
  MOST_PLACES : ∃ t, mg "MOST_PLACES" = some (.int 60 t)
  SIXTY_DIGITS : ∃ t, mg "SIXTY_DIGITS" = some (.int (10 ^ 60) t)
  MAX_ROUND : ∃ t, mg "MAX_ROUND" = some (.int 60 t)
  MOST_VALUE_DIGITS : ∃ t, mg "MOST_VALUE_DIGITS" = some (.int 60 t)
  MAX_FALLS : ∃ t, mg "MAX_FALLS" = some (.int 1000 t)
  MAX_LETTERS : ∃ t, mg "MAX_LETTERS" = some (.int 2000 t)
  MOST_SIDE : ∃ t, mg "MOST_SIDE" = some (.int 60 t)
  LEAST_ORDER : ∃ t, mg "LEAST_ORDER" = some (.int 2 t)
  MAX_ORDER : ∃ t, mg "MAX_ORDER" = some (.int 60 t)
  MAX_CORE_WORD : ∃ t, mg "MAX_CORE_WORD" = some (.int 200 t)
  MOST_GROWN : ∃ t, mg "MOST_GROWN" = some (.int 30 t)
  MOST_WINDOW : ∃ t, mg "MOST_WINDOW" = some (.int 200 t)
  MOST_VALUE_SIGNS : ∃ t, mg "MOST_VALUE_SIGNS" = some (.int 60 t)
theorem ee_num {X : Cx} {C : Cs} {ρ : Rho} {mu : Mu} {pos : Pos} {x : Str} {n : Int} (hm : ∃ t, X.mg x = some (.int n t)) (hg : Gl X x := by rfl) (hd : (x == ("__debug__" : Str)) = false := by decide) : EE X C ρ mu (.Name x pos) (.int n) :=
  let ⟨_, h⟩ := hm; ee_glob h hg hd
end Dd
set_option maxHeartbeats 2000000
/-! The round maps as objects. -/
namespace RdX
open PySem PySem.Spec PyProof.Rows L2
section
variable {M : Model} {prog : Program} {w : World} {A : Around} {E : Value → Shared → Prop} {s : Shared} {K : PySem.W.Frag} {x C g : Addr} {ox : Obj} {od : Option Obj} {b tb : Value}
theorem ne_bound {args : List Value} {Q : Option Value → Shared → Prop} (X : K.In s.heap) (I : PySem.W.InstAt s.heap x ox C od) (hs : PySem.W.findIn K (.ref C) "__ne__" = some (some (.builtin "object.__ne__")))
    (h : wpAny M A (call (.builtin "object.__ne__") (.ref x :: args)) (fun v => Q (some v)) E s) : wpAny M A (callSpecialIfBound? (.ref x) "__ne__" args) Q E s := by
  simp only [callSpecialIfBound?, bindSpecialIfBound?]
  refine wpAny_holding (wpAny_bind (wpAny_bind (wpAny_bind (I.type.here ((PySem.W.looks_findIn X hs).here ?_)))))
  refine wpAny_bind (wpAny_askSetting (wpAny_ite ?_))
  have fin : wpAny M A (call (.builtin "object.__ne__") ([.ref x] ++ args) >>= fun v => pure (some v)) Q E s := wpAny_bind (wpAny_mono h (fun v s' h' => wpAny_pure h') fun _ _ h' => h')
  split
  · exact wpAny_bind (wpAny_of_eq (F.cmp_object.ne.bind _) (wpAny_pure (by exact fin)))
  · exact wpAny_tryCatch (wpAny_bind (wpAny_of_eq (F.cmp_object.ne.bind _) (wpAny_pure (by exact fin))))
/-- object.__ne__ of an instance with its own == -/
theorem ne_entry (X : K.In s.heap) (I : PySem.W.InstAt s.heap x ox C od) (hs : PySem.W.findIn K (.ref C) "__eq__" = some (some (.ref g))) (hf : PySem.W.isFn K (.ref g) = true) (hu : A.units < cLine) {Q : Fin → Shared → Prop}
    (hcall : wpAny M A (call (.ref g) [.ref x, b]) (fun v s' => ∃ t, v = .bool t ∧ Q (.done (.ret (.bool (!t)))) s') E s) : wpAny M A (Builtin.«object.__ne__» ⟨[.ref x, b], []⟩) Q E s := by
  unfold Builtin.«object.__ne__»
  repeat (first
    | with_reducible refine wpAny_cRoomFor hu ?_
    | (refine wpAny_bind (m := callSpecialIfBound? (.ref x) (Str.ofString "__eq__") [b])
        (PySem.W.ifBound_K X I hs hf (wpAny_mono hcall (fun r s' hr => by
          obtain ⟨t, rfl, hq⟩ := hr
          repeat (first | exact hq | exact wpAny_pure hq | exact wpAny_truthy_bool hq | (refine wpAny_bind (m := truthy (.bool _)) (wpAny_truthy_bool ?_)) | wp_step)) fun _ _ e => e)))
    | wp_step)
theorem ne_call {Q : Value → Shared → Prop} (X : K.In s.heap) (I : PySem.W.InstAt s.heap x ox C od) (hm : PySem.W.mroIn K C (.type "object") = some true) (hs : PySem.W.findIn K (.ref C) "__eq__" = some (some (.ref g))) (hf : PySem.W.isFn K (.ref g) = true) (hu : A.units + 1 < cLine)
    (hcall : wpAny (model prog w) A.in1 (call (.ref g) [.ref x, b]) (fun v s' => ∃ t, v = .bool t ∧ Q (.bool (!t)) s') E s) : wpAny (model prog w) A (call (.builtin "object.__ne__") [.ref x, b]) Q E s :=
  wpAny_call (codeAny_call_builtin F.cmp_object.ne.plain F.cmpEntry_ne (PySem.W.check_slot F.cmpKind_ne F.cmpSplit_ne (I.type.andThen (PySem.W.looks_mroIn X hm)) (F.cmpArgs_ne _ _)
    (ne_entry (A := A.in1) X I hs hf hu (wpAny_mono hcall (fun v s' hv => by obtain ⟨t, rfl, q⟩ := hv; first | exact ⟨t, rfl, wpAny_pure q⟩ | exact ⟨t, rfl, wpAny_pure (wpAny_pure q)⟩ | exact ⟨t, rfl, q⟩) fun _ _ e => e))))
theorem ne_K {Q : Value → Shared → Prop} (hu : A.units + 1 < cLine) (X : K.In s.heap) (I : PySem.W.InstAt s.heap x ox C od) (hb : PySem.W.Looks (model prog w) s.heap (typeOf b) tb) (hn : PySem.W.notFirst K C tb = true) (hm : PySem.W.mroIn K C (.type "object") = some true)
    (hne : PySem.W.findIn K (.ref C) "__ne__" = some (some (.builtin "object.__ne__"))) (hs : PySem.W.findIn K (.ref C) "__eq__" = some (some (.ref g))) (hf : PySem.W.isFn K (.ref g) = true)
    (h : wpAny (model prog w) A.in1 (call (.ref g) [.ref x, b]) (fun v s' => ∃ t, v = .bool t ∧ Q (.bool (!t)) s') E s) : wpAny (model prog w) A (richCompare .NotEq (.ref x) b) Q E s := by
  have one : wpAny (model prog w) A (tryCompare (.ref x) (cmpInfo .NotEq).2.1 b) (fun r s' => ∃ v, r = some v ∧ Q v s') E s := by
    unfold tryCompare
    refine wpAny_bind (ne_bound X I hne (ne_call X I hm hs hf hu (wpAny_mono h (fun v s' hv => ?_) fun _ _ e => e)))
    obtain ⟨t, rfl, q⟩ := hv
    exact ⟨t, rfl, wpAny_pure ⟨_, rfl, q⟩⟩
  unfold richCompare
  simp only [oneThing_ref]
  refine wpAny_holding (wpAny_bind (wpAny_cRoomFor (Nat.lt_of_succ_lt hu) ?_))
  refine wpAny_bind (I.type.here (wpAny_bind (hb.here ?_)))
  split
  · rename_i q
    have e : PySem.W.subIn K tb (.ref C) = some false := by
      rcases Bool.or_eq_true_iff.mp hn with e | e
      · rw [beq_iff_eq.mp e] at q; simp at q
      · exact beq_iff_eq.mp e
    refine wpAny_bind ((PySem.W.looks_subIn X e).here ?_)
    simp only [Bool.false_eq_true, if_false]
    refine wpAny_bind (wpAny_mono one (fun r s' z => ?_) fun _ _ e => e)
    obtain ⟨v, rfl, hq⟩ := z
    exact wpAny_pure hq
  · refine wpAny_bind (wpAny_pure ?_)
    simp only [Bool.false_eq_true, if_false]
    refine wpAny_bind (wpAny_mono one (fun r s' z => ?_) fun _ _ e => e)
    obtain ⟨v, rfl, hq⟩ := z
    exact wpAny_pure hq
end
end RdX
namespace Dd
open PySem PySem.Spec PyProof.Rows L2 Evl
/-- what the text says of the class -/
structure Rd0 (K : PySem.W.Frag) (mg : Str → Option Value) (C : Cs) : Prop where
  mg : mg "Round" = some (.ref C.cls)
  cl : SlX.SCls K C.cls
  isi : SlX.SIsi K C.cls
  slot : ∃ p, SlX.Slot1 K C.cls "own_values" p 0
  ne : PySem.W.findIn K (.ref C.cls) "__ne__" = some (some (.builtin "object.__ne__"))
  nf : PySem.W.notFirst K C.cls (.ref C.cls) = true
section
variable {X : Cx} {C : Cs} {ρ : Rho} {mu : Mu} {a b c e e1 e2 : Expr} {es : List Expr} {d d1 d2 : D} {ds ds2 : List D} {pos p : Pos} {i j : Int} {xs vs ws : List Int} {E : DE}
theorem ee_own (R : Rd0 X.K X.mg C) (ha : EE X C ρ mu a (.rnd vs)) (hb : attributeBase a "own_values" X.env (eval a X.env) = eval a X.env := by rfl) : EE X C ρ mu (.Attribute a "own_values" pos) (it vs) := by
  obtain ⟨ta, pa, va⟩ := ha
  obtain ⟨q, sl⟩ := R.slot
  refine ⟨_, SlX.pe_sl pa hb, fun G σ H ok Q k => va G σ H ok _ fun v H1 x1 r => ?_⟩
  cases r with
  | @rnd a dx t _ h h2 => exact ⟨a, C.cls, dx, q, _, 0, .ref t, rfl, h, R.cl, sl, rfl, k _ H1 x1 (Rep.ofI h2)⟩
theorem ee_isRnd {p2 : Pos} (hm : X.mg "isinstance" = none) (R : Rd0 X.K X.mg C) (ha : EE X C ρ mu a (.rnd vs)) (hg : Gl X "isinstance" := by rfl) (hg2 : Gl X "Round" := by rfl)
    (he : starEach [a, .Name "Round" p2] X.env = (false, eval a X.env) :: starEach [.Name "Round" p2] X.env := by rfl) (he2 : starEach [.Name "Round" p2] X.env = (false, eval (.Name "Round" p2) X.env) :: starEach [] X.env := by rfl)
    (hpl : (backTo pos (starEach [.Name "Round" p2] X.env)).any (·.1) = false := by rfl) : EE X C ρ mu (.Call (.Name "isinstance" p) [a, .Name "Round" p2] [] pos) (.bl true) := by
  obtain ⟨ta, pa, va⟩ := ha
  refine ⟨_, pe_callB (SlX.call_isiSl (.ref C.cls)) hg hm PyProof.Rows.boot_isinstance (pa_cons pa (pa_cons (pe_glob (v := V.ref C.cls) hg2 R.mg rfl (by decide)) pa_nil he2) he) (by decide) (by decide) he hpl, fun G σ H ok Q k => va G σ H ok _ fun v H1 x1 r => ?_⟩
  cases r with
  | @rnd a dx t _ h h2 => exact ⟨a, C.cls, dx, _, .ref C.cls, true, rfl, rfl, fun w z => z, h, R.cl, R.isi, kit_self, k _ H1 x1 .bl⟩
end
/-- a promise of the function object at g -/
def Fg (P : Program) (w : World) (K : PySem.W.Frag) (mg : Str → Option Value) (base : Heap) (C : Cs) (lv : Nat) (g : Addr) (f : List D → D → Prop) : Prop := FnR P w K mg base CX0 lv g (spD K C f)
section
variable {X : Cx} {C : Cs} {ρ : Rho} {mu : Mu} {a b c e e1 e2 : Expr} {es : List Expr} {d d1 d2 : D} {ds ds2 : List D} {pos p : Pos} {i j : Int} {xs vs ws : List Int} {E : DE} {lv : Nat} {g q : Addr} {f : List D → D → Prop}
/-- x(i), x a round map -/
theorem ee_callO (cO : StX.CallO X.K C.cls g) (F : Fg X.prog X.w X.K X.mg X.base C lv g f) (hr : Room lv X.A) (ha : EE X C ρ mu a (.rnd vs)) (hb : EA X C ρ mu (b :: es) ds) (im : Im (.rnd vs)) (hf : f (.rnd vs :: ds) d)
    (ht : eval (.Call a (b :: es) [] pos) X.env = (do callWith pos (← eval a X.env) [] (backTo pos (starEach (b :: es) X.env)) (backToKw pos (keywordEach [] X.env))) := by rfl)
    (he : starEach (b :: es) X.env = (false, eval b X.env) :: starEach es X.env := by rfl) (hpl : (backTo pos (starEach es X.env)).any (·.1) = false := by rfl) : EE X C ρ mu (.Call a (b :: es) [] pos) d := by
  obtain ⟨ta, pa, va⟩ := ha
  obtain ⟨tb, pb, vb⟩ := hb
  refine ⟨_, StX.pe_callO pa cO F hr pass0 pb ht he hpl, fun G σ H ok Q k => va G σ H ok _ fun v H1 x1 r => ?_⟩
  have r0 := r
  cases r with
  | @rnd a dx t _ h h2 =>
    refine ⟨a, rfl, vb G σ H1 (ok.mono x1) _ fun us H2 x2 ru => ⟨.inl ⟨dx, _, slt_ex x2 h⟩, ok.tb.ex (x1.trans x2), _, d, Reps.cons (r0.ex x2) ru, hf, fun v H' x r => k v H' ((x1.trans x2).trans x) r⟩⟩
/-- x.falls -/
theorem ee_prop {fld : Str} (R : Rd0 X.K X.mg C) (at_ : PySem.W.findIn X.K (.ref C.cls) fld = some (some (.ref q))) (get : PySem.W.specialIn X.K (.ref q) "__get__" = some (some (.builtin "property.__get__"))) (tk : PySem.W.takesIn X.K (.ref q) = some true)
    (rc : ∃ rest, PySem.W.recIn X.K q "property" = some (.ref g :: rest)) (F : Fg X.prog X.w X.K X.mg X.base C lv g f) (hr : Room (lv + 1) X.A) (ha : EE X C ρ mu a (.rnd vs)) (hf : f [.rnd vs] d)
    (hb : attributeBase a fld X.env (eval a X.env) = eval a X.env := by rfl) : EE X C ρ mu (.Attribute a fld pos) d := by
  obtain ⟨ta, pa, va⟩ := ha
  refine ⟨_, SlX.pe_propSl (E := E0) pa R.cl at_ get tk rc F hr (fun _ _ _ _ z => z) hb, fun G σ H ok Q k => va G σ H ok _ fun v H1 x1 r => ?_⟩
  have r0 := r
  cases r with
  | @rnd a dx t _ h h2 => exact ⟨a, dx, _, rfl, h, ok.tb.ex x1, _, d, Reps.cons r0 Reps.nil, hf, fun v H' x r => k v H' (x1.trans x) r⟩
/-- x != y by the class's own == -/
def rNeR (C : Addr) (sp : Sp) : R2 := fun x y H Q => ∃ a dx vs b dy ws, x = .ref a ∧ y = .ref b ∧ SlX.Slt H a C dx vs ∧ SlX.Slt H b C dy ws ∧ sp [x, y] H (fun z H' => ∃ t, z = .bl t ∧ Q (.bl (!t)) H') E0
theorem op_neR {sp : Sp} {n : Nat} (R : Rd0 X.K X.mg C) (hs : PySem.W.findIn X.K (.ref C.cls) "__eq__" = some (some (.ref g))) (hf : PySem.W.isFn X.K (.ref g) = true) (F : FnR X.prog X.w X.K X.mg X.base CX0 n g sp) (hr : Room (n + 1) X.A) : OpR X (compareOp .NotEq) (rNeR C.cls sp) := by
  intro pins s σ H x y v u Q I rx ry h
  obtain ⟨a, dx, vs, b, dy, ws, rfl, rfl, ha, hb, q⟩ := h
  cases (show v = Value.ref a from rx)
  cases (show u = Value.ref b from ry)
  obtain ⟨sl, od, _, J, _⟩ := SlX.slt_inst I ha
  obtain ⟨sl', od', _, J', _⟩ := SlX.slt_inst I hb
  show wpAny _ _ (compareOp .NotEq (.ref a) (.ref b)) _ _ s
  unfold compareOp
  have un := hr.units
  refine RdX.ne_K (tb := .ref C.cls) (by omega) I.kIn J J'.type R.nf R.isi.cm R.ne hs (beq_iff_eq.mpr (beq_iff_eq.mp hf)) ?_
  refine wpAny_mono (wpAny_call (SlX.run_at (us := [.ref a, .ref b]) (ws := [.ref a, .ref b]) F hr.in1 I.env0.in1 pass0 I (.cons rfl (.cons rfl .nil)) q)) (fun w' s' z => ?_) fun _ _ x => x
  obtain ⟨z', H', I', rz, t, et, qz⟩ := z
  subst et
  obtain rfl : w' = Value.bool t := rz
  exact ⟨t, rfl, .bl (!t), H', I', rfl, qz⟩
theorem eb_neR (R : Rd0 X.K X.mg C) (hs : PySem.W.findIn X.K (.ref C.cls) "__eq__" = some (some (.ref g))) (hf : PySem.W.isFn X.K (.ref g) = true) (F : Fg X.prog X.w X.K X.mg X.base C lv g f) (hr : Room (lv + 1) X.A) (ha : EE X C ρ mu a (.rnd vs)) (hb : EE X C ρ mu b (.rnd ws)) {t : Bool} (hff : f [.rnd vs, .rnd ws] (.bl t)) :
    EB X C ρ mu (.Compare a [.NotEq] [b] pos) (!t) := by
  obtain ⟨ta, pa, va⟩ := ha
  obtain ⟨tb, pb, vb⟩ := hb
  refine ⟨_, pt_cmpR (op_neR R hs hf F hr) pa pb (nomark _), fun G σ H ok Q k => va G σ H ok _ fun v1 H1 x1 r1 => vb G σ H1 (ok.mono x1) _ fun v2 H2 x2 r2 => ?_⟩
  have r1' := r1.ex x2
  have ra := r1'
  have rb := r2
  cases r1' with
  | @rnd a dx t1 _ h1 _ =>
    cases r2 with
    | @rnd b dy t2 _ h2 _ =>
      refine ⟨a, dx, _, b, dy, _, rfl, rfl, h1, h2, ok.tb.ex (x1.trans x2), _, .bl t, Reps.cons ra (Reps.cons rb Reps.nil), hff, fun v H' x r => ?_⟩
      cases r
      exact ⟨t, rfl, _, rfl, k H' ((x1.trans x2).trans x)⟩
/-- ~x -/
def rInvR (C : Addr) (sp : Sp) (x : V) (H : Hp) (Q : VK) : Prop := ∃ a dx vs, x = .ref a ∧ SlX.Slt H a C dx vs ∧ sp [x] H Q E0
theorem un_invR {sp : Sp} {n : Nat} (hs : PySem.W.findIn X.K (.ref C.cls) "__invert__" = some (some (.ref g))) (hf : PySem.W.isFn X.K (.ref g) = true) (F : FnR X.prog X.w X.K X.mg X.base CX0 n g sp) (hr : Room n X.A) : UnR X (unaryOp .Invert) (rInvR C.cls sp) := by
  intro pins s σ H x v Q I rx h
  obtain ⟨a, dx, vs, rfl, ha, q⟩ := h
  cases (show v = Value.ref a from rx)
  obtain ⟨sl, od, _, J, _⟩ := SlX.slt_inst I ha
  obtain ⟨m, hF⟩ := I.fr
  refine PySem.W.ksp_inv hF I.ok.mod.kin J hs hf ?_
  exact wpAny_call (run_fnR (us := [.ref a]) (vs := [.ref a]) F hr pass0 I (.cons rfl .nil) q)
theorem ee_invR (hs : PySem.W.findIn X.K (.ref C.cls) "__invert__" = some (some (.ref g))) (hf : PySem.W.isFn X.K (.ref g) = true) (F : Fg X.prog X.w X.K X.mg X.base C lv g f) (hr : Room lv X.A) (ha : EE X C ρ mu a (.rnd vs)) (hff : f [.rnd vs] d) : EE X C ρ mu (.UnaryOp .Invert a pos) d := by
  obtain ⟨ta, pa, va⟩ := ha
  refine ⟨_, pe_un (un_invR hs hf F hr) pa, fun G σ H ok Q k => va G σ H ok _ fun v1 H1 x1 r1 => ?_⟩
  have r0 := r1
  cases r1 with
  | @rnd a dx t _ h h2 => exact ⟨a, dx, _, rfl, h, ok.tb.ex x1, _, d, Reps.cons r0 Reps.nil, hff, fun v H' x r => k v H' (x1.trans x) r⟩
end
end Dd
set_option maxHeartbeats 2000000
/-! Equality of data told; a list that changes no more. -/
namespace Dd
open PySem PySem.Spec PyProof.Rows L2 Evl
theorem pds_nts (xs : List Int) : pds (nts xs) = xs.map PyData.int := by
  induction xs with
  | nil => rfl
  | cons x xs ih => show _ :: pds (nts xs) = _; rw [ih]; rfl
theorem eqvAll_ints : ∀ (a b : List Int), PyData.eqvAll (a.map PyData.int) (b.map PyData.int) = decide (a = b)
  | [], [] => by simp [PyData.eqvAll]
  | [], y :: b => by simp [PyData.eqvAll]
  | x :: a, [] => by simp [PyData.eqvAll]
  | x :: a, y :: b => by
    show (PyData.eqv (.int x) (.int y) && PyData.eqvAll (a.map PyData.int) (b.map PyData.int)) = _
    rw [eqvAll_ints a b]
    have e : PyData.eqv (.int x) (.int y) = decide (x = y) := by simp only [PyData.eqv]; by_cases h : x = y <;> simp [h]
    rw [e]
    by_cases h1 : x = y <;> by_cases h2 : a = b <;> simp [h1, h2]
theorem eqv_it (a b : List Int) : PyData.eqv (pd (it a)) (pd (it b)) = decide (a = b) := by
  show PyData.eqv (.tuple (pds (nts a))) (.tuple (pds (nts b))) = _
  rw [pds_nts, pds_nts]
  simp only [PyData.eqv]
  exact eqvAll_ints a b
theorem eqvAll_its : ∀ (A B : List (List Int)), PyData.eqvAll (pds (A.map it)) (pds (B.map it)) = decide (A = B)
  | [], [] => by simp [PyData.eqvAll, pds]
  | [], y :: b => by simp [PyData.eqvAll, pds]
  | x :: a, [] => by simp [PyData.eqvAll, pds]
  | x :: a, y :: b => by
    show (PyData.eqv (pd (it x)) (pd (it y)) && PyData.eqvAll (pds (a.map it)) (pds (b.map it))) = _
    rw [eqvAll_its a b, eqv_it]
    by_cases h1 : x = y <;> by_cases h2 : a = b <;> simp [h1, h2]
theorem eqv_its (A B : List (List Int)) : PyData.eqv (pd (.tup (A.map it))) (pd (.tup (B.map it))) = decide (A = B) := by
  show PyData.eqv (.tuple (pds (A.map it))) (.tuple (pds (B.map it))) = _
  simp only [PyData.eqv]
  exact eqvAll_its A B
theorem lay_ints (a : List Int) : PyData.canLayAll0 (a.map PyData.int) = true := by
  induction a with
  | nil => rfl
  | cons x a ih => show (PyData.canLay0 (.int x) && _) = true; rw [ih]; rfl
theorem dep_ints (a : List Int) : PyData.depthAll (a.map PyData.int) = 0 := by
  induction a with
  | nil => rfl
  | cons x a ih => show max (PyData.depth (.int x)) _ = 0; rw [ih]; rfl
theorem shp_it (a : List Int) : SeqAt.shaped (pd (it a)) = true := by
  show SeqAt.shaped (.tuple (pds (nts a))) = true
  rw [pds_nts]
  unfold SeqAt.shaped
  rw [Bool.and_eq_true]
  refine ⟨?_, ?_⟩
  · simp only [PyData.canLay0]; exact lay_ints a
  · have e : (PyData.tuple (a.map PyData.int)).depth = PyData.depthAll (a.map PyData.int) + 1 := by simp only [PyData.depth]
    refine decide_eq_true ?_
    rw [e, dep_ints]
    decide
theorem shp_its (A : List (List Int)) : SeqAt.shaped (pd (.tup (A.map it))) = true := by
  show SeqAt.shaped (.tuple (pds (A.map it))) = true
  have h1 : PyData.canLayAll0 (pds (A.map it)) = true := by
    induction A with
    | nil => rfl
    | cons x A ih =>
      show (PyData.canLay0 (pd (it x)) && _) = true
      rw [ih, Bool.and_true]
      show PyData.canLay0 (.tuple (pds (nts x))) = true
      rw [pds_nts]
      simp only [PyData.canLay0]
      exact lay_ints x
  have h2 : PyData.depthAll (pds (A.map it)) ≤ 1 := by
    induction A with
    | nil => exact Nat.zero_le _
    | cons x A ih =>
      show max (PyData.depth (.tuple (pds (nts x)))) (PyData.depthAll (pds (A.map it))) ≤ 1
      have h3 : PyData.canLayAll0 (pds (A.map it)) = true := by
        have : PyData.canLayAll0 (pds ((x :: A).map it)) = (PyData.canLay0 (pd (it x)) && PyData.canLayAll0 (pds (A.map it))) := rfl
        rw [this, Bool.and_eq_true] at h1
        exact h1.2
      have := ih h3
      rw [pds_nts]
      simp only [PyData.depth]
      rw [dep_ints]
      omega
  unfold SeqAt.shaped
  rw [Bool.and_eq_true]
  refine ⟨?_, ?_⟩
  · simp only [PyData.canLay0]; exact h1
  · have e : (PyData.tuple (pds (A.map it))).depth = PyData.depthAll (pds (A.map it)) + 1 := by simp only [PyData.depth]
    refine decide_eq_true ?_
    rw [e]
    omega
theorem pl_its (A : List (List Int)) : Pl (.tup (A.map it)) := .tup fun d h => by
  obtain ⟨x, _, rfl⟩ := List.mem_map.mp h
  exact pl_it x
section
variable {X : Cx} {C : Cs} {ρ : Rho} {mu : Mu} {a b c e : Expr} {es : List Expr} {d d1 d2 : D} {ds ds2 : List D} {pos p : Pos} {xs ys : List Int} {E : DE} {ss : List Stmt}
theorem ee_eqI2 (hu : X.A.units + 64 < cLine) (ha : EE X C ρ mu a (it xs)) (hb : EE X C ρ mu b (it ys)) : EE X C ρ mu (.Compare a [.Eq] [b] pos) (.bl (decide (xs = ys))) := ee_eqD hu ha hb (pl_it xs) (pl_it ys) (shp_it xs) (shp_it ys) (eqv_it xs ys)
theorem ee_neI2 (hu : X.A.units + 64 < cLine) (ha : EE X C ρ mu a (it xs)) (hb : EE X C ρ mu b (it ys)) : EE X C ρ mu (.Compare a [.NotEq] [b] pos) (.bl (!decide (xs = ys))) := ee_neD hu ha hb (pl_it xs) (pl_it ys) (shp_it xs) (shp_it ys) (eqv_it xs ys)
theorem eb_eqI2 (hu : X.A.units + 64 < cLine) (ha : EE X C ρ mu a (it xs)) (hb : EE X C ρ mu b (it ys)) : EB X C ρ mu (.Compare a [.Eq] [b] pos) (decide (xs = ys)) := eb_eqD hu ha hb (pl_it xs) (pl_it ys) (shp_it xs) (shp_it ys) (eqv_it xs ys)
theorem eb_neI2 (hu : X.A.units + 64 < cLine) (ha : EE X C ρ mu a (it xs)) (hb : EE X C ρ mu b (it ys)) : EB X C ρ mu (.Compare a [.NotEq] [b] pos) (!decide (xs = ys)) := eb_neD hu ha hb (pl_it xs) (pl_it ys) (shp_it xs) (shp_it ys) (eqv_it xs ys)
/-- the list changes no more -/
theorem ss_frz {l : Addr} {j : Nat} (hj : j < ρ.length) (h : SS X C (ρ.set j (some (.lst ds))) none ss E) : SS X C ρ (some (l, j, ds)) ss E := by
  obtain ⟨t, pt, vt⟩ := h
  refine ⟨t, pt, fun G σ H ok Dn sat => vt G σ H ?_ Dn sat⟩
  obtain ⟨h0, h1, h2, vs, h3, h4⟩ := ok.mu l j ds rfl
  refine ⟨ok.ex, ok.tb, fun i d h => ?_, fun l j ds z => (nomatch z), by simpa using ok.len⟩
  rw [List.getElem?_set] at h
  by_cases z : j = i
  · rw [if_pos z, if_pos hj] at h
    cases h
    subst z
    exact ⟨.ref l, h1, .lst (fun z => nomatch z) (.inl h3) h4.len h4.any.at_⟩
  · rw [if_neg z] at h
    obtain ⟨v, k1, k2⟩ := ok.at_ i d h
    exact ⟨v, k1, k2.any⟩
end
/-- the last of what was made step by step -/
theorem atI_last {α : Type} (f : Nat → α) (n : Nat) : L2.atI ((List.range (n + 1)).map f) (-1) = some (f n) := by
  unfold L2.atI L2.ixN
  rw [if_neg (by omega), if_pos (by rw [List.length_map, List.length_range]; omega)]
  show ((List.range (n + 1)).map f)[((-1 : Int) + (((List.range (n + 1)).map f).length : Int)).toNat]? = _
  have e : ((-1 : Int) + (((List.range (n + 1)).map f).length : Int)).toNat = n := by rw [List.length_map, List.length_range]; omega
  rw [e, List.getElem?_map, List.getElem?_range (by omega)]
  rfl
theorem map_snoc {α : Type} (f : Nat → α) (n : Nat) : (List.range (n + 1 + 1)).map f = (List.range (n + 1)).map f ++ [f (n + 1)] := by
  rw [List.range_succ, List.map_append]
  rfl
end Dd
set_option maxHeartbeats 2000000
/-! Methods; the making of a round map. -/
namespace Dd
open PySem PySem.Spec PyProof.Rows L2 Evl
section
variable {P : Program} {w : World} {K : PySem.W.Frag} {mg : Str → Option Value} {base : Heap} {C : Cs}
abbrev BindOkQ (x q : Str) (st : Stmt) (ps : List Str) : Prop := ∀ (kV doc pm : Value) (an : Option Addr) (cdv ct : Value) (us : List Value), us.length = ps.length → bindArgs (PySem.W.fnOf x q (defArgs st) (defBody st) (defScope st) .none kV doc pm an cdv ct) ⟨us, []⟩ = pure (ps.zip us)
abbrev cxQ (P : Program) (w : World) (K : PySem.W.Frag) (mg : Str → Option Value) (base : Heap) (N : List Str) (q : Str) (st : Stmt) (f : Addr) (cdv : Value) (A : Around) (outer : List Env) (s : Shared) (H : Hp) (E : XK) : Cx :=
  (cxOf CX0 P w K mg base N q (defScope st) f cdv A outer s H E).nox
/-- the method of this text is the function object at g -/
def Dm (K : PySem.W.Frag) (x q : Str) (st : Stmt) (g : Addr) : Prop := ∃ fd, FunD K x q (defArgs st) (defBody st) (defScope st) [] [] g fd
theorem Fg.raw {x q : Str} {st : Stmt} {N ps : List Str} {lv : Nat} {g : Addr} {sp : Sp} (D0 : Dm K x q st g) (S : FnScope N ps (defScope st)) (hb : BindOkQ x q st ps) (len : ∀ vs H Q E, sp vs H Q E → vs.length = ps.length)
    (body : ∀ (cdv : Value) (A : Around) (outer : List Env) (s : Shared) (H : Hp) (vs : List V) (Q : VK) (E : XK), Room lv (cxQ P w K mg base N q st g cdv A outer s H E).A → sp vs H Q E →
      ∃ t, PSs (cxQ P w K mg base N q st g cdv A outer s H E) (defBody st) t ∧ t { nx := fun _ H' => Q .non H', rt := Q } (L2.start N vs) H) : FnR P w K mg base CX0 (lv + 1) g sp := by
  obtain ⟨fd, F⟩ := D0
  have F1 : FnOk P w K mg base CX0 (lv + 1) g fd ps sp := F.ok S len fun cdv A outer s H vs Q E hr h => let ⟨t, pt, v⟩ := body cdv A outer s H vs Q E hr h; ⟨t, PSs.nox pt, v⟩
  have F2 := F1.raw (F.bindsN hb) .nil
  exact F2.imp fun vs H Q E h => by rw [List.append_nil]; exact h
theorem Fg.mk {x q : Str} {st : Stmt} {N ps : List Str} {lv : Nat} {g : Addr} {f : List D → D → Prop} (D0 : Dm K x q st g) (S : FnScope N ps (defScope st)) (hb : BindOkQ x q st ps) (hN : ps.length ≤ N.length)
    (len : ∀ ds d, f ds d → ds.length = ps.length)
    (body : ∀ (cdv : Value) (A : Around) (outer : List Env) (s : Shared) (H : Hp) (E : XK) (ds : List D) (d : D), Room lv (cxQ P w K mg base N q st g cdv A outer s H E).A → f ds d →
      SS (cxQ P w K mg base N q st g cdv A outer s H E) C (rho0 N ds) none (defBody st) ⟨fun _ _ => d = .non, fun d' _ => d' = d⟩) : Fg P w K mg base C (lv + 1) g f := by
  refine Fg.raw D0 S hb (fun vs H Q E ⟨_, ds, d, r, hf, _⟩ => by rw [← r.len]; exact len ds d hf) (fun cdv A outer s H vs Q E hr h => ?_)
  obtain ⟨tb, ds, d, r, hf, q⟩ := h
  obtain ⟨t, pt, vt⟩ := body cdv A outer s H E ds d hr hf
  refine ⟨t, pt, vt H (L2.start N vs) H (env0 tb r (by rw [len ds d hf]; exact hN)) _ ⟨fun σ H' ρ mu ok e => ?_, fun σ H' ρ mu v d' ok rv e => ?_⟩⟩
  · subst e
    exact q .non H' ok.ex .non
  · subst e
    exact q v H' ok.ex rv
/-- the promise of the class's __init__ -/
def spI (K : PySem.W.Frag) (C : Cs) (ok : List Int → Prop) : Sp := fun args H Q _ => ∃ (x dx a : Addr) (vs : List Int), args = [.ref x, .ref a] ∧ Tb C H ∧ H x = some (.ins C.cls dx []) ∧ dx ≠ x ∧ SqT K H a (vs.map V.int) ∧ ok vs ∧ ∀ H1, Ex H H1 → Q .non (SlX.slH H1 x C.cls dx (SlX.putS 0 (.ref a) []))
end
section
variable {X : Cx} {C : Cs} {ρ : Rho} {mu : Mu} {a e : Expr} {pos p : Pos} {vs : List Int} {lv : Nat} {g : Addr} {okv : List Int → Prop}
theorem ee_make (R : Rd0 X.K X.mg C) (M : Mk X.K C.cls g) (F : FnR X.prog X.w X.K X.mg X.base CX0 lv g (spI X.K C okv)) (hr : Room (lv + 1) X.A) (ha : EE X C ρ mu a (it vs)) (hv : okv vs) (hg : Gl X "Round" := by rfl)
    (he : starEach [a] X.env = (false, eval a X.env) :: starEach [] X.env := by rfl) (hpl : (backTo pos (starEach [] X.env)).any (·.1) = false := by rfl) : EE X C ρ mu (.Call (.Name "Round" p) [a] [] pos) (.rnd vs) := by
  obtain ⟨ta, pa, va⟩ := ea_c ha ea_no he
  refine ⟨_, StX.pe_makeR M F hr hg R.mg pass0 pa (by decide) he hpl, fun G σ H ok Q k => va G σ H ok _ fun us H1 x1 r0 => ?_⟩
  obtain ⟨v, rfl, r⟩ := r0.one
  obtain ⟨b, rfl, hq⟩ := r.tupI
  intro x dx hx hdx ne
  have e0 : Ex H1 (upd (upd H1 dx (.own x)) x (.ins C.cls dx [])) := (Ex.new hdx).mut hx
  refine ⟨x, dx, b, vs, rfl, (ok.tb.ex x1).ex e0, upd_same, ne, ex_t e0 hq, hv, fun H2 x2 => ⟨rfl, ?_⟩⟩
  have ef : Ex H1 (SlX.slH H2 x C.cls dx (SlX.putS 0 (.ref b) [])) := ((e0.trans x2).mut hdx).mut hx
  exact k _ _ (x1.trans ef) (.rnd (SlX.slH_slt ne) (ex_t ef hq))
/-- tuple(range(..)) -/
theorem cr_tupR (hc : X.calm = true) : CallR X (.type "tuple") (fun vs H Q => ∃ (a : Addr) (lo : Int) (n : Nat), vs = [V.ref a] ∧ H a = some (.rng lo (lo + n)) ∧ (-(2 ^ 62) ≤ lo ∧ lo + n < 2 ^ 62 ∧ n ≤ 10000) ∧ ∀ p, H p = none → Q (.ref p) (upd H p (.tup ((rgs lo n).map V.int)))) := by
  intro pins s σ H vs us Q I r h
  obtain ⟨a, lo, n, rfl, hr, ⟨b1, b2, b3⟩, q⟩ := h
  rw [Vals.ref1 r]
  obtain ⟨t, u, v, e⟩ := I.hok _ _ hr
  refine call_tuple_range (n := n) (I.ok.hd hc) e (small_one b1 (by omega) (by omega) b2) (by rw [rangeSize_one]; split <;> omega) (by omega) fun h' tk acc hk hacc => ?_
  have I1 : Inv X pins σ H { s with heap := h', toks := tk } := I.kept hk
  have hv : Vals ((rgs lo n).map V.int) acc.toList := by
    have := vals_of_get acc.toList (fun j => V.int (lo + (j : Int))) (fun j u e => by
      rw [Array.getElem?_toList] at e
      obtain ⟨t, et⟩ := hacc.2 j u e
      exact ⟨t, by rw [et, Int.mul_one]⟩)
    rw [Array.length_toList, hacc.1] at this
    unfold rgs
    rw [List.map_map]
    exact this
  have hz : ((rgs lo n).map V.int).length ≤ sizeLine := by
    rw [List.length_map]
    unfold rgs
    rw [List.length_map, List.length_range]
    exact Nat.le_trans b3 (by decide)
  have ea : acc.toList.toArray = acc := by simp
  have I2 : Inv X pins σ (upd H h'.objs.size (.tup ((rgs lo n).map V.int))) { s with heap := h'.push { cls := .type "tuple", data := .seq acc }, toks := tk } :=
    I1.laid (t' := tk) (fun b o e => Heap.get?_push_of_some _ e) (Nat.le_refl _) (show ObjOk X.prog X.w _ _ _ (.tup _) from ⟨hz, _, hv, by rw [ea]; exact IsTup.new _ _⟩)
  exact ⟨.ref h'.objs.size, _, I2, rfl, q _ (I1.hok.fresh (Nat.le_refl _))⟩
theorem ee_tupleR {lo : Int} {n : Nat} (hm : X.mg "tuple" = none) (ha : EE X C ρ mu e (.rng lo (lo + n))) (h1 : -(2 ^ 62) ≤ lo) (h2 : lo + n < 2 ^ 62) (h3 : n ≤ 10000) (hc : X.calm = true := by rfl) (hg : Gl X "tuple" := by rfl) (he : starEach [e] X.env = (false, eval e X.env) :: starEach [] X.env := by rfl)
    (hpl : (backTo pos (starEach [] X.env)).any (·.1) = false := by rfl) : EE X C ρ mu (.Call (.Name "tuple" p) [e] [] pos) (it (rgs lo n)) :=
  ee_callTy (cr_tupR hc) hm (by decide +kernel) (by decide) (by decide) (ea_c ha ea_no he) (fun vs H r0 Q q => by
    obtain ⟨v, rfl, r⟩ := r0.one
    cases r with
    | @rng a _ _ h => exact ⟨a, lo, n, rfl, h, ⟨h1, h2, h3⟩, fun p hp => q _ _ (Ex.new hp) (Rep.ofI (SqT.of upd_same))⟩) hg he hpl
end
end Dd
set_option maxHeartbeats 2000000
/-! The defs: whole numbers, rounds. Printed by gen/w1.py. -/
namespace Dd
open PySem PySem.Spec PyProof.Rows L2 Evl
section
variable {P : Program} {w : World} {K : PySem.W.Frag} {mg : Str → Option Value} {base : Heap} {C : Cs}

def Sm (i : Int) : Prop := -(10 ^ 60) < i ∧ i < 10 ^ 60
def f_is_whole (ds : List D) (d : D) : Prop := ∃ i, ds = [.int i] ∧ d = .bl true
def f_is_integer (ds : List D) (d : D) : Prop := ∃ i, ds = [.int i] ∧ Sm i ∧ d = .bl true
def f_is_within (ds : List D) (d : D) : Prop := ∃ i a b, ds = [.int i, .int a, .int b] ∧ d = .bl (decide (a ≤ i) && decide (i ≤ b))
abbrev N_is_whole : List Str := ["value"]
theorem sc_is_whole : FnScope N_is_whole ["value"] (defScope (top 15)) := ⟨rfl, rfl, rfl, by decide +kernel, rfl, by decide +kernel, by decide +kernel⟩
theorem fd_is_whole (W : Wd mg) (D0 : Df K mg "is_whole" (top 15))  : Fd P w K mg base C 3 "is_whole" f_is_whole := by
  refine Fd.mk (lv := 2) D0 sc_is_whole (fun _ _ _ _ _ _ us hl => match us, hl with | [_], _ => rfl) (by decide) (fun ds d hf => by obtain ⟨i, hds, _⟩ := hf; rw [hds]; rfl) fun fa cdv A outer s H E ds d hr hf => ?_
  obtain ⟨i, rfl, rfl⟩ := hf
  exact ss_1 (s1_ret (ee_and (ee_isInt W.isinstance W.int (ee_var 0)) (fun h_ => (ee_one (ee_not (ee_isBool W.isinstance W.bool (ee_var 0)))))) rfl)
abbrev N_is_integer : List Str := ["value"]
theorem sc_is_integer : FnScope N_is_integer ["value"] (defScope (top 16)) := ⟨rfl, rfl, rfl, by decide +kernel, rfl, by decide +kernel, by decide +kernel⟩
theorem fd_is_integer (W : Wd mg) (D0 : Df K mg "is_integer" (top 16)) (F_is_whole : Fd P w K mg base C 3 "is_whole" f_is_whole) : Fd P w K mg base C 6 "is_integer" f_is_integer := by
  refine Fd.mk (lv := 5) D0 sc_is_integer (fun _ _ _ _ _ _ us hl => match us, hl with | [_], _ => rfl) (by decide) (fun ds d hf => by obtain ⟨i, hds, _⟩ := hf; rw [hds]; rfl) fun fa cdv A outer s H E ds d hr hf => ?_
  obtain ⟨i, rfl, hi, rfl⟩ := hf
  refine ss_1 (s1_ret ((ee_and (ee_call F_is_whole (hr.mono (by decide)) (ea_c (ee_var 0) ea_no) ⟨_, rfl, rfl⟩) (fun h_ => (ee_one (ee_lt (ee_abs W.abs (ee_var 0)) (ee_num W.SIXTY_DIGITS)))))) ?_)
  show D.bl _ = D.bl true
  obtain ⟨h1, h2⟩ := hi
  congr 1
  simp only [Bool.true_and, decide_eq_true_eq]
  split <;> omega
abbrev N_is_within : List Str := ["value", "least", "most"]
theorem sc_is_within : FnScope N_is_within ["value", "least", "most"] (defScope (top 17)) := ⟨rfl, rfl, rfl, by decide +kernel, rfl, by decide +kernel, by decide +kernel⟩
theorem fd_is_within (W : Wd mg) (D0 : Df K mg "is_within" (top 17)) (F_is_whole : Fd P w K mg base C 3 "is_whole" f_is_whole) : Fd P w K mg base C 6 "is_within" f_is_within := by
  refine Fd.mk (lv := 5) D0 sc_is_within (fun _ _ _ _ _ _ us hl => match us, hl with | [_, _, _], _ => rfl) (by decide) (fun ds d hf => by obtain ⟨i, a, b, hds, _⟩ := hf; rw [hds]; rfl) fun fa cdv A outer s H E ds d hr hf => ?_
  obtain ⟨i, a, b, rfl, rfl⟩ := hf
  exact ss_1 (s1_ret ((ee_and (ee_call F_is_whole (hr.mono (by decide)) (ea_c (ee_var 0) ea_no) ⟨_, rfl, rfl⟩) (fun h_ => (ee_one (ee_chain (ee_var 1) (ee_var 0) (ee_var 2)))))) rfl)
def vir (vs : List Int) (i : Int) : Int := gt vs (i % vs.length) + i - i % vs.length
def f_value_in_round (ds : List D) (d : D) : Prop := ∃ vs i, ds = [it vs, .int i] ∧ 0 < vs.length ∧ d = .int (vir vs i)
abbrev N_value_in_round : List Str := ["values", "i", "rest"]
theorem sc_value_in_round : FnScope N_value_in_round ["values", "i"] (defScope (top 26)) := ⟨rfl, rfl, rfl, by decide +kernel, rfl, by decide +kernel, by decide +kernel⟩
theorem fd_value_in_round (W : Wd mg) (D0 : Df K mg "value_in_round" (top 26))  : Fd P w K mg base C 3 "value_in_round" f_value_in_round := by
  refine Fd.mk (lv := 2) D0 sc_value_in_round (fun _ _ _ _ _ _ us hl => match us, hl with | [_, _], _ => rfl) (by decide) (fun ds d hf => by obtain ⟨vs, i, hds, _⟩ := hf; rw [hds]; rfl) fun fa cdv A outer s H E ds d hr hf => ?_
  obtain ⟨vs, i, rfl, hv, rfl⟩ := hf
  have h0 : 0 ≤ i % vs.length := Int.emod_nonneg _ (by omega)
  have h1 : i % vs.length < vs.length := Int.emod_lt_of_pos _ (by omega)
  refine ss_c (s1_set 2 (ee_mod (ee_var 1) (ee_lenI W.len (ee_var 0)) (by first | assumption | omega | decide | (simp only [nts, List.length_map, List.length_set] <;> omega) | (have hh_ := of_decide_eq_false h_; omega) | (have hh_ := of_decide_eq_true h_; omega) | (simp; done) | (simp <;> omega))) may0 ?_ sc_value_in_round.nd)
  exact ss_1 (s1_ret (ee_sub (ee_add (ee_ixI (ee_var 0) (ee_var 2) (by first | assumption | omega | decide | (simp only [nts, List.length_map, List.length_set] <;> omega) | (have hh_ := of_decide_eq_false h_; omega) | (have hh_ := of_decide_eq_true h_; omega) | (simp; done) | (simp <;> omega)) (by first | assumption | omega | decide | (simp only [nts, List.length_map, List.length_set] <;> omega) | (have hh_ := of_decide_eq_false h_; omega) | (have hh_ := of_decide_eq_true h_; omega) | (simp; done) | (simp <;> omega))) (ee_var 1)) (ee_var 2)) rfl)
def lf (n s : Int) : Int := -((-n) / s)
def f_lifted (ds : List D) (d : D) : Prop := ∃ n s, ds = [.int n, .int s] ∧ (0 < s ∧ s < 1073741824) ∧ d = .int (lf n s)
abbrev N_lifted : List Str := ["number", "size"]
theorem sc_lifted : FnScope N_lifted ["number", "size"] (defScope (top 27)) := ⟨rfl, rfl, rfl, by decide +kernel, rfl, by decide +kernel, by decide +kernel⟩
theorem fd_lifted (W : Wd mg) (D0 : Df K mg "lifted" (top 27))  : Fd P w K mg base C 3 "lifted" f_lifted := by
  refine Fd.mk (lv := 2) D0 sc_lifted (fun _ _ _ _ _ _ us hl => match us, hl with | [_, _], _ => rfl) (by decide) (fun ds d hf => by obtain ⟨n, s, hds, _⟩ := hf; rw [hds]; rfl) fun fa cdv A outer s H E ds d hr hf => ?_
  obtain ⟨n, s, rfl, hs, rfl⟩ := hf
  exact ss_1 (s1_ret (ee_neg (ee_div (ee_neg (ee_var 0)) (ee_var 1) (by first | assumption | omega | decide | (simp only [nts, List.length_map, List.length_set] <;> omega) | (have hh_ := of_decide_eq_false h_; omega) | (have hh_ := of_decide_eq_true h_; omega) | (simp; done) | (simp <;> omega)))) rfl)
def sh (vs : List Int) : Int := (vs.sum - (vs.length : Int) * ((vs.length : Int) - 1) / 2) / vs.length
def Szd (vs : List Int) : Prop := 0 < vs.length ∧ vs.length ≤ 60
theorem cmul_small {i j : Int} (h1 : -100000 ≤ i) (h2 : i ≤ 100000) (h3 : -100000 ≤ j) (h4 : j ≤ 100000) : CMul i j := by
  unfold CMul
  omega
def f_shift_of (ds : List D) (d : D) : Prop := ∃ vs, ds = [it vs] ∧ Szd vs ∧ d = .int (sh vs)
abbrev N_shift_of : List Str := ["values", "size"]
theorem sc_shift_of : FnScope N_shift_of ["values"] (defScope (top 29)) := ⟨rfl, rfl, rfl, by decide +kernel, rfl, by decide +kernel, by decide +kernel⟩
theorem fd_shift_of (W : Wd mg) (D0 : Df K mg "shift_of" (top 29))  : Fd P w K mg base C 3 "shift_of" f_shift_of := by
  refine Fd.mk (lv := 2) D0 sc_shift_of (fun _ _ _ _ _ _ us hl => match us, hl with | [_], _ => rfl) (by decide) (fun ds d hf => by obtain ⟨vs, hds, _⟩ := hf; rw [hds]; rfl) fun fa cdv A outer s H E ds d hr hf => ?_
  obtain ⟨vs, rfl, ⟨h0, h1⟩, rfl⟩ := hf
  refine ss_c (s1_set 1 (ee_lenI W.len (ee_var 0)) may0 ?_ sc_shift_of.nd)
  exact ss_1 (s1_ret (ee_div (ee_sub (ee_sumT W.sum (ee_var 0)) (ee_div (ee_mul (ee_var 1) (ee_sub (ee_var 1) ee_int) (cmul_small (by omega) (by omega) (by omega) (by omega))) ee_int (by first | assumption | omega | decide | (simp only [nts, List.length_map, List.length_set] <;> omega) | (have hh_ := of_decide_eq_false h_; omega) | (have hh_ := of_decide_eq_true h_; omega) | (simp; done) | (simp <;> omega)))) (ee_var 1) (by first | assumption | omega | decide | (simp only [nts, List.length_map, List.length_set] <;> omega) | (have hh_ := of_decide_eq_false h_; omega) | (have hh_ := of_decide_eq_true h_; omega) | (simp; done) | (simp <;> omega))) rfl)
def df (vs : List Int) (p : Int) : Bool := decide (vir vs (p + 1) < gt vs p)
def Plc (vs : List Int) (p : Int) : Prop := 0 ≤ p ∧ p < vs.length
def f_does_fall (ds : List D) (d : D) : Prop := ∃ vs p, ds = [it vs, .int p] ∧ Plc vs p ∧ d = .bl (df vs p)
abbrev N_does_fall : List Str := ["values", "place"]
theorem sc_does_fall : FnScope N_does_fall ["values", "place"] (defScope (top 44)) := ⟨rfl, rfl, rfl, by decide +kernel, rfl, by decide +kernel, by decide +kernel⟩
theorem fd_does_fall (W : Wd mg) (D0 : Df K mg "does_fall" (top 44)) (F_value_in_round : Fd P w K mg base C 3 "value_in_round" f_value_in_round) : Fd P w K mg base C 6 "does_fall" f_does_fall := by
  refine Fd.mk (lv := 5) D0 sc_does_fall (fun _ _ _ _ _ _ us hl => match us, hl with | [_, _], _ => rfl) (by decide) (fun ds d hf => by obtain ⟨vs, p, hds, _⟩ := hf; rw [hds]; rfl) fun fa cdv A outer s H E ds d hr hf => ?_
  obtain ⟨vs, p, rfl, ⟨h0, h1⟩, rfl⟩ := hf
  exact ss_1 (s1_ret (ee_gt (ee_ixI (ee_var 0) (ee_var 1) (by first | assumption | omega | decide | (simp only [nts, List.length_map, List.length_set] <;> omega) | (have hh_ := of_decide_eq_false h_; omega) | (have hh_ := of_decide_eq_true h_; omega) | (simp; done) | (simp <;> omega)) (by first | assumption | omega | decide | (simp only [nts, List.length_map, List.length_set] <;> omega) | (have hh_ := of_decide_eq_false h_; omega) | (have hh_ := of_decide_eq_true h_; omega) | (simp; done) | (simp <;> omega))) (ee_call F_value_in_round (hr.mono (by decide)) (ea_c (ee_var 0) (ea_c (ee_add (ee_var 1) ee_int) ea_no)) ⟨_, _, rfl, by omega, rfl⟩)) rfl)
end
end Dd
set_option maxHeartbeats 2000000
/-! The defs: rounds, greedy words. Printed by gen/w2.py. -/
namespace Dd
open PySem PySem.Spec PyProof.Rows L2 Evl
section
variable {P : Program} {w : World} {K : PySem.W.Frag} {mg : Str → Option Value} {base : Heap} {C : Cs}

theorem rgs_mem {lo : Int} {n : Nat} {x : Int} (h : x ∈ rgs lo n) : lo ≤ x ∧ x < lo + n := by
  unfold rgs at h
  obtain ⟨i, hi, rfl⟩ := List.mem_map.mp h
  have := List.mem_range.mp hi
  omega
theorem rgs_len (lo : Int) (n : Nat) : (rgs lo n).length = n := by simp [rgs]
def wsh (vs : List Int) (s : Int) : List Int := (rgs 0 vs.length).map fun i => vir vs (i + s)
def f_with_shift (ds : List D) (d : D) : Prop := ∃ vs s, ds = [it vs, .int s] ∧ Szd vs ∧ d = it (wsh vs s)
abbrev N_with_shift : List Str := ["values", "steps", "i"]
theorem sc_with_shift : FnScope N_with_shift ["values", "steps"] (defScope (top 45)) := ⟨rfl, rfl, rfl, by decide +kernel, rfl, by decide +kernel, by decide +kernel⟩
theorem fd_with_shift (W : Wd mg) (D0 : Df K mg "with_shift" (top 45)) (F_value_in_round : Fd P w K mg base C 3 "value_in_round" f_value_in_round) : Fd P w K mg base C 6 "with_shift" f_with_shift := by
  refine Fd.mk (lv := 5) D0 sc_with_shift (fun _ _ _ _ _ _ us hl => match us, hl with | [_, _], _ => rfl) (by decide) (fun ds d hf => by obtain ⟨vs, s, hds, _⟩ := hf; rw [hds]; rfl) fun fa cdv A outer s H E ds d hr hf => ?_
  obtain ⟨vs, s, rfl, ⟨h0, h1⟩, rfl⟩ := hf
  refine ss_1 (s1_ret (ee_tuple W.tuple (EL.ee (el_map (own := [("i", 2)]) (rgs 0 vs.length) (D.int) (fun i => .int (vir vs (i + s))) (ei_src (es_rng1 W.range (ee_lenI W.len (ee_var 0)) (by omega) (by omega) (by omega))) sc_with_shift.nd (blkOk_by (N := N_with_shift) (sc := defScope (top 45)) (by decide +kernel)) (by intro _ _ _ z; cases z) (by rw [rgs_len]; omega) (fun x hx =>  turn_e (fun _ _ _ _ _ => (eg_name 2 sc_with_shift.nd may0)) .int (fun _ _ _ _ _ => (ee_call F_value_in_round (hr.mono (by decide)) (ea_c (ee_var 0) (ea_c (ee_add (ee_var 2) (ee_var 1)) ea_no)) ⟨_, _, rfl, h0, rfl⟩)))))) ?_)
  simp [wsh, it]
def cnt (vs : List Int) (a b : Int) (n : Nat) : Int := Rg.sm n fun j => max 0 ((a - (j : Int)) / (vs.length : Int) - lf (-b - gt vs j) vs.length + 1)
def f_counted_in (ds : List D) (d : D) : Prop := ∃ vs a b, ds = [it vs, .int a, .int b] ∧ Szd vs ∧ d = .int (cnt vs a b vs.length)
theorem enu_int {vs : List Int} {i : Nat} {d : D} (h : (enu (nts vs))[i]? = some d) : i < vs.length ∧ d = .tup [.int i, .int (gt vs i)] := by
  obtain ⟨d', h1, rfl⟩ := enu_get h
  unfold nts at h1
  rw [List.getElem?_map] at h1
  cases z : vs[i]? with
  | none => rw [z] at h1; cases h1
  | some v =>
    rw [z] at h1
    have e := Option.some.inj h1
    refine ⟨(List.getElem?_eq_some_iff.mp z).1, ?_⟩
    rw [← e]
    show D.tup [.int i, .int v] = D.tup [.int i, .int (vs.getD (i : Int).toNat 0)]
    rw [List.getD_eq_getElem?_getD, Int.toNat_natCast, z]
    rfl
theorem enu_len {ds : List D} : (enu ds).length = ds.length := by simp [enu]
abbrev N_counted_in : List Str := ["values", "a", "b", "size", "found", "rest", "value"]
theorem sc_counted_in : FnScope N_counted_in ["values", "a", "b"] (defScope (top 30)) := ⟨rfl, rfl, rfl, by decide +kernel, rfl, by decide +kernel, by decide +kernel⟩
theorem fd_counted_in (W : Wd mg) (D0 : Df K mg "counted_in" (top 30)) (F_lifted : Fd P w K mg base C 3 "lifted" f_lifted) : Fd P w K mg base C 6 "counted_in" f_counted_in := by
  refine Fd.mk (lv := 5) D0 sc_counted_in (fun _ _ _ _ _ _ us hl => match us, hl with | [_, _, _], _ => rfl) (by decide) (fun ds d hf => by obtain ⟨vs, a, b, hds, _⟩ := hf; rw [hds]; rfl) fun fa cdv A outer s H E ds d hr hf => ?_
  obtain ⟨vs, a, b, rfl, ⟨h0, h1⟩, rfl⟩ := hf
  refine ss_c (s1_par 3 4 (ee_lenI W.len (ee_var 0)) ee_int may0 may0 ?_ sc_counted_in.nd)
  refine ss_c (s1_for (fun i ρ mu => mu = none ∧ ∃ o1 o2, ρ = [some (it vs), some (.int a), some (.int b), some (.int vs.length), some (.int (cnt vs a b i)), o1, o2]) (ei_enu W.enumerate (es_tup (ee_var 0) (.inl rfl))) ⟨rfl, _, _, rfl⟩ [5, 6] ?_ ?_)
  · rintro i d ρ1 mu1 hd ⟨rfl, o1, o2, rfl⟩
    obtain ⟨hi, rfl⟩ := enu_int hd
    refine ⟨_, eg_tup (egs_c (eg_name 5 sc_counted_in.nd may0) (egs_c (eg_name 6 sc_counted_in.nd may0) egs_no)), ?_⟩
    exact ss_1 (s1_inc 4 rfl (ee_max2 W.max ee_int (ee_add (ee_sub (ee_div (ee_sub (ee_var 1) (ee_var 5)) (ee_var 3) (by first | assumption | omega | decide | (simp only [nts, List.length_map, List.length_set] <;> omega) | (have hh_ := of_decide_eq_false h_; omega) | (have hh_ := of_decide_eq_true h_; omega) | (simp; done) | (simp <;> omega))) (ee_call F_lifted (hr.mono (by decide)) (ea_c (ee_sub (ee_neg (ee_var 2)) (ee_var 6)) (ea_c (ee_var 3) ea_no)) ⟨_, _, rfl, by omega, rfl⟩)) ee_int)) (fun _ _ _ z => nomatch z) ⟨rfl, _, _, rfl⟩ sc_counted_in.nd)
  · rintro ρ1 mu1 ⟨rfl, o1, o2, rfl⟩
    rw [enu_len, List.length_map]
    exact ss_1 (s1_ret (ee_var 4) rfl)
def lb (vs : List Int) (p : Int) : List Int :=
  if p < (vs.length : Int) - 1 then (vs.set p.toNat (gt vs (p + 1))).set (p + 1).toNat (gt vs p) else (vs.set p.toNat (gt vs 0 + vs.length)).set 0 (gt vs p - vs.length)
theorem lb_len (vs : List Int) (p : Int) : (lb vs p).length = vs.length := by unfold lb; split <;> simp
theorem nts_set (xs : List Int) (i : Nat) (v : Int) : (nts xs).set i (.int v) = nts (xs.set i v) := by unfold nts; rw [List.map_set]
def f_letter_behind (ds : List D) (d : D) : Prop := ∃ vs p, ds = [it vs, .int p] ∧ Szd vs ∧ Plc vs p ∧ d = it (lb vs p)
abbrev N_letter_behind : List Str := ["values", "place", "found", "size"]
theorem sc_letter_behind : FnScope N_letter_behind ["values", "place"] (defScope (top 43)) := ⟨rfl, rfl, rfl, by decide +kernel, rfl, by decide +kernel, by decide +kernel⟩
theorem fd_letter_behind (W : Wd mg) (D0 : Df K mg "letter_behind" (top 43))  : Fd P w K mg base C 3 "letter_behind" f_letter_behind := by
  refine Fd.mk (lv := 2) D0 sc_letter_behind (fun _ _ _ _ _ _ us hl => match us, hl with | [_, _], _ => rfl) (by decide) (fun ds d hf => by obtain ⟨vs, p, hds, _⟩ := hf; rw [hds]; rfl) fun fa cdv A outer s H E ds d hr hf => ?_
  obtain ⟨vs, p, rfl, ⟨h0, h1⟩, ⟨h2, h3⟩, rfl⟩ := hf
  refine ss_c (s1_parL 2 3 (en_list W.list (ee_var 0)) (ee_lenI W.len (ee_var 0)) (fun d h => by obtain ⟨_, _, rfl⟩ := List.mem_map.mp h; exact .int) .int (of_decide_eq_true rfl) (fun l => ?_) sc_letter_behind.nd)
  have hl : (nts vs).length = vs.length := List.length_map ..
  refine ss_c (s1_if (eb_lt (ee_var 1) (ee_sub (ee_var 3) ee_int)) (fun t => ?_) (fun t => ?_))
  · have t' := of_decide_eq_true t
    refine ss_1 (s1_item2 (k1 := p) (k2 := p + 1) (ea_c (ee_ixI (ee_var 0) (ee_add (ee_var 1) ee_int) (by first | assumption | omega | decide | (simp only [nts, List.length_map, List.length_set] <;> omega) | (have hh_ := of_decide_eq_false h_; omega) | (have hh_ := of_decide_eq_true h_; omega) | (simp; done) | (simp <;> omega)) (by first | assumption | omega | decide | (simp only [nts, List.length_map, List.length_set] <;> omega) | (have hh_ := of_decide_eq_false h_; omega) | (have hh_ := of_decide_eq_true h_; omega) | (simp; done) | (simp <;> omega))) (ea_c (ee_ixI (ee_var 0) (ee_var 1) (by first | assumption | omega | decide | (simp only [nts, List.length_map, List.length_set] <;> omega) | (have hh_ := of_decide_eq_false h_; omega) | (have hh_ := of_decide_eq_true h_; omega) | (simp; done) | (simp <;> omega)) (by first | assumption | omega | decide | (simp only [nts, List.length_map, List.length_set] <;> omega) | (have hh_ := of_decide_eq_false h_; omega) | (have hh_ := of_decide_eq_true h_; omega) | (simp; done) | (simp <;> omega))) ea_no)) .int .int (ee_var 1) (ee_add (ee_var 1) ee_int) (by omega) (by first | assumption | omega | decide | (simp only [nts, List.length_map, List.length_set] <;> omega) | (have hh_ := of_decide_eq_false h_; omega) | (have hh_ := of_decide_eq_true h_; omega) | (simp; done) | (simp <;> omega)) (by omega) (by first | assumption | omega | decide | (simp only [nts, List.length_map, List.length_set] <;> omega) | (have hh_ := of_decide_eq_false h_; omega) | (have hh_ := of_decide_eq_true h_; omega) | (simp; done) | (simp <;> omega)) ?_)
    refine ss_1 (s1_ret (EE.is (ee_tuple W.tuple ee_varM) ?_) rfl)
    rw [nts_set, nts_set]
    unfold lb
    rw [if_pos t']
  · have t' := of_decide_eq_false t
    refine ss_1 (s1_item2 (k1 := p) (k2 := 0) (ea_c (ee_add (ee_ixI (ee_var 0) ee_int (by first | assumption | omega | decide | (simp only [nts, List.length_map, List.length_set] <;> omega) | (have hh_ := of_decide_eq_false h_; omega) | (have hh_ := of_decide_eq_true h_; omega) | (simp; done) | (simp <;> omega)) (by first | assumption | omega | decide | (simp only [nts, List.length_map, List.length_set] <;> omega) | (have hh_ := of_decide_eq_false h_; omega) | (have hh_ := of_decide_eq_true h_; omega) | (simp; done) | (simp <;> omega))) (ee_var 3)) (ea_c (ee_sub (ee_ixI (ee_var 0) (ee_var 1) (by first | assumption | omega | decide | (simp only [nts, List.length_map, List.length_set] <;> omega) | (have hh_ := of_decide_eq_false h_; omega) | (have hh_ := of_decide_eq_true h_; omega) | (simp; done) | (simp <;> omega)) (by first | assumption | omega | decide | (simp only [nts, List.length_map, List.length_set] <;> omega) | (have hh_ := of_decide_eq_false h_; omega) | (have hh_ := of_decide_eq_true h_; omega) | (simp; done) | (simp <;> omega))) (ee_var 3)) ea_no)) .int .int (ee_var 1) ee_int (by omega) (by first | assumption | omega | decide | (simp only [nts, List.length_map, List.length_set] <;> omega) | (have hh_ := of_decide_eq_false h_; omega) | (have hh_ := of_decide_eq_true h_; omega) | (simp; done) | (simp <;> omega)) (by omega) (by first | assumption | omega | decide | (simp only [nts, List.length_map, List.length_set] <;> omega) | (have hh_ := of_decide_eq_false h_; omega) | (have hh_ := of_decide_eq_true h_; omega) | (simp; done) | (simp <;> omega)) ?_)
    refine ss_1 (s1_ret (EE.is (ee_tuple W.tuple ee_varM) ?_) rfl)
    rw [nts_set, nts_set]
    unfold lb
    rw [if_neg t']
    rfl
def f_common_round (ds : List D) (d : D) : Prop := ∃ k : Int, ds = [.int k, .int k] ∧ (0 < k ∧ k ≤ 60) ∧ d = .int k
abbrev N_common_round : List Str := ["one", "other", "high", "low"]
theorem sc_common_round : FnScope N_common_round ["one", "other"] (defScope (top 33)) := ⟨rfl, rfl, rfl, by decide +kernel, rfl, by decide +kernel, by decide +kernel⟩
theorem fd_common_round (W : Wd mg) (D0 : Df K mg "common_round" (top 33))  : Fd P w K mg base C 3 "common_round" f_common_round := by
  refine Fd.mk (lv := 2) D0 sc_common_round (fun _ _ _ _ _ _ us hl => match us, hl with | [_, _], _ => rfl) (by decide) (fun ds d hf => by obtain ⟨k, hds, _⟩ := hf; rw [hds]; rfl) fun fa cdv A outer s H E ds d hr hf => ?_
  obtain ⟨k, rfl, ⟨h0, h1⟩, rfl⟩ := hf
  refine ss_c (s1_par 2 3 (ee_var 0) (ee_var 1) may0 may0 ?_ sc_common_round.nd)
  refine ss_c (s1_while (fun m ρ mu => mu = none ∧ ((m = 1 ∧ ρ = [some (.int k), some (.int k), some (.int k), some (.int k)]) ∨ (m = 0 ∧ ρ = [some (.int k), some (.int k), some (.int k), some (.int 0)]))) 1 ⟨rfl, .inl ⟨rfl, rfl⟩⟩ ?_)
  rintro m ρ1 mu1 ⟨rfl, ⟨rfl, rfl⟩ | ⟨rfl, rfl⟩⟩
  · refine ⟨_, (eb_neI (ee_var 3) ee_int), fun _ => ?_, fun t => absurd t (by simp; omega)⟩
    exact ss_1 (s1_par 2 3 (ee_var 3) (ee_mod (ee_var 2) (ee_var 3) (by first | assumption | omega | decide | (simp only [nts, List.length_map, List.length_set] <;> omega) | (have hh_ := of_decide_eq_false h_; omega) | (have hh_ := of_decide_eq_true h_; omega) | (simp; done) | (simp <;> omega))) may0 may0 ⟨0, by omega, rfl, .inr ⟨rfl, by rw [Int.emod_self]; rfl⟩⟩ sc_common_round.nd)
  · refine ⟨_, (eb_neI (ee_var 3) ee_int), fun t => absurd t (by simp), fun _ => ?_⟩
    refine ss_1 (s1_ret (ee_mul (ee_div (ee_var 0) (ee_var 2) (by first | assumption | omega | decide | (simp only [nts, List.length_map, List.length_set] <;> omega) | (have hh_ := of_decide_eq_false h_; omega) | (have hh_ := of_decide_eq_true h_; omega) | (simp; done) | (simp <;> omega))) (ee_var 1) (by rw [Int.ediv_self (by omega)]; exact cmul_small (by omega) (by omega) (by omega) (by omega))) ?_)
    show D.int _ = D.int _
    rw [Int.ediv_self (by omega), Int.one_mul]
def f_are_same_maps (ds : List D) (d : D) : Prop := ∃ vs ws, ds = [it vs, it ws] ∧ (Szd vs ∧ ws.length = vs.length) ∧ d = .bl (decide (vs = ws))
theorem vir_at {vs : List Int} {i : Int} (h0 : 0 ≤ i) (h1 : i < vs.length) : vir vs i = gt vs i := by
  unfold vir
  rw [Int.emod_eq_of_lt h0 h1]
  omega
theorem gt_ext {vs ws : List Int} (hl : ws.length = vs.length) (h : ∀ i : Int, 0 ≤ i → i < vs.length → gt vs i = gt ws i) : vs = ws := by
  refine List.ext_getElem hl.symm fun i h1 h2 => ?_
  have := h i (by omega) (by omega)
  unfold gt at this
  rw [Int.toNat_natCast, List.getD_eq_getElem?_getD, List.getD_eq_getElem?_getD, List.getElem?_eq_getElem h1, List.getElem?_eq_getElem h2] at this
  exact this
abbrev N_are_same_maps : List Str := ["one", "other", "size", "i"]
theorem sc_are_same_maps : FnScope N_are_same_maps ["one", "other"] (defScope (top 34)) := ⟨rfl, rfl, rfl, by decide +kernel, rfl, by decide +kernel, by decide +kernel⟩
theorem fd_are_same_maps (W : Wd mg) (D0 : Df K mg "are_same_maps" (top 34)) (F_value_in_round : Fd P w K mg base C 3 "value_in_round" f_value_in_round) (F_common_round : Fd P w K mg base C 3 "common_round" f_common_round) : Fd P w K mg base C 6 "are_same_maps" f_are_same_maps := by
  refine Fd.mk (lv := 5) D0 sc_are_same_maps (fun _ _ _ _ _ _ us hl => match us, hl with | [_, _], _ => rfl) (by decide) (fun ds d hf => by obtain ⟨vs, ws, hds, _⟩ := hf; rw [hds]; rfl) fun fa cdv A outer s H E ds d hr hf => ?_
  obtain ⟨vs, ws, rfl, ⟨⟨h0, h1⟩, h2⟩, rfl⟩ := hf
  refine ss_c (s1_set 2 (ee_call F_common_round (hr.mono (by decide)) (ea_c (ee_lenI W.len (ee_var 0)) (ea_c (ee_lenI W.len (ee_var 1)) ea_no)) ⟨(vs.length : Int), by rw [h2], by omega, rfl⟩) may0 ?_ sc_are_same_maps.nd)
  refine ss_1 (s1_ret (ee_allL (bs := (rgs 0 vs.length).map fun i => decide (vir vs i = vir ws i)) W.all (EL.ee (EL.is (el_map (own := [("i", 3)]) (rgs 0 vs.length) (D.int) (fun i => .bl (decide (vir vs i = vir ws i))) (ei_src (es_rng1 W.range (ee_var 2) (by omega) (by omega) (by omega))) sc_are_same_maps.nd (blkOk_by (N := N_are_same_maps) (sc := defScope (top 34)) (by decide +kernel)) (by intro _ _ _ z; cases z) (by rw [rgs_len]; omega) (fun x hx =>  turn_e (fun _ _ _ _ _ => (eg_name 3 sc_are_same_maps.nd may0)) .bl (fun _ _ _ _ _ => (ee_eqI (ee_call F_value_in_round (hr.mono (by decide)) (ea_c (ee_var 0) (ea_c (ee_var 3) ea_no)) ⟨_, _, rfl, h0, rfl⟩) (ee_call F_value_in_round (hr.mono (by decide)) (ea_c (ee_var 1) (ea_c (ee_var 3) ea_no)) ⟨_, _, rfl, (by omega), rfl⟩))))) (by rw [List.map_map]; rfl)))) ?_)
  show D.bl _ = D.bl _
  congr 1
  rw [Bool.eq_iff_iff, List.all_map, List.all_eq_true, decide_eq_true_iff]
  constructor
  · intro h
    refine gt_ext h2 fun i a b => ?_
    have := h i (List.mem_map.mpr ⟨i.toNat, List.mem_range.mpr (by omega), by omega⟩)
    have := of_decide_eq_true this
    rw [vir_at a b, vir_at a (by omega)] at this
    exact this
  · rintro rfl i _
    exact decide_eq_true rfl
end
end Dd
set_option maxHeartbeats 2000000
/-! The defs: greedy words, maps compared. Printed by gen/w3.py. -/
namespace Dd
open PySem PySem.Spec PyProof.Rows L2 Evl
section
variable {P : Program} {w : World} {K : PySem.W.Frag} {mg : Str → Option Value} {base : Heap} {C : Cs}

def oD : Option Int → D
  | none => .non
  | some p => .int p
def ff (vs : List Int) : Option Int := (rgs 0 vs.length).find? fun p => df vs p
theorem ff_plc {vs : List Int} {p : Int} (h : ff vs = some p) : Plc vs p ∧ df vs p = true := by
  have h1 := rgs_mem (List.mem_of_find?_eq_some h)
  exact ⟨⟨h1.1, by omega⟩, List.find?_some h⟩
theorem oD_im (o : Option Int) : Im (oD o) := by cases o <;> constructor
def f_first_fall (ds : List D) (d : D) : Prop := ∃ vs, ds = [it vs] ∧ Szd vs ∧ d = oD (ff vs)
/-- the word of a map: falls taken away one by one -/
inductive Wi : List Int → List Int → List Int → Prop where
  | nil {vs : List Int} : ff vs = none → Wi vs [] vs
  | cons {vs ls vs' : List Int} {p : Int} : ff vs = some p → Wi (lb vs p) ls vs' → Wi vs (p :: ls) vs'
theorem Wi.len {vs ls vs' : List Int} (h : Wi vs ls vs') : vs'.length = vs.length := by
  induction h with
  | nil _ => rfl
  | cons _ _ ih => rw [ih, lb_len]
def f_word_in (ds : List D) (d : D) : Prop := ∃ vs ls vs', ds = [it vs] ∧ (2 ≤ vs.length ∧ vs.length ≤ 60 ∧ Wi vs ls vs' ∧ ls.length ≤ 900) ∧ d = .tup [.int (sh vs'), il ls.reverse]
abbrev N_word_in : List Str := ["values", "found", "place"]
theorem sc_word_in : FnScope N_word_in ["values"] (defScope (top 47)) := ⟨rfl, rfl, rfl, by decide +kernel, rfl, by decide +kernel, by decide +kernel⟩
theorem fd_word_in (W : Wd mg) (D0 : Df K mg "word_in" (top 47)) (F_first_fall : Fd P w K mg base C 8 "first_fall" f_first_fall) (F_letter_behind : Fd P w K mg base C 3 "letter_behind" f_letter_behind) (F_shift_of : Fd P w K mg base C 3 "shift_of" f_shift_of) : Fd P w K mg base C 9 "word_in" f_word_in := by
  refine Fd.mk (lv := 8) D0 sc_word_in (fun _ _ _ _ _ _ us hl => match us, hl with | [_], _ => rfl) (by decide) (fun ds d hf => by obtain ⟨vs, ls, vs', hds, _⟩ := hf; rw [hds]; rfl) fun fa cdv A outer s H E ds d hr hf => ?_
  obtain ⟨vs, ls, vs', rfl, ⟨h0, h1, hw, hz⟩, rfl⟩ := hf
  have sz : ∀ {v : List Int}, v.length = vs.length → Szd v := fun {v} e => ⟨by omega, by omega⟩
  refine ss_c (s1_new 1 (en_lst ea_no (by decide)) (fun d h => by cases h) (of_decide_eq_true rfl) (fun l => ?_) sc_word_in.nd)
  refine ss_c (s1_set 2 (ee_if (p := true) (EB.is (eb_gt (ee_lenI W.len (ee_var 0)) ee_int) (decide_eq_true (by omega))) (fun _ => (ee_call F_first_fall (hr.mono (by decide)) (ea_c (ee_var 0) ea_no) ⟨vs, rfl, sz rfl, rfl⟩)) (by intro h; cases h)) (mayI (oD_im _) (by decide)) ?_ sc_word_in.nd)
  refine ss_c (s1_while (fun m ρ mu => ∃ v done rest, Wi v rest vs' ∧ v.length = vs.length ∧ m = rest.length ∧ done ++ rest = ls ∧ ρ = [some (it v), none, some (oD (ff v))] ∧ mu = some (l, 1, nts done)) ls.length ⟨vs, [], ls, hw, rfl, rfl, rfl, rfl, rfl⟩ ?_)
  rintro m ρ1 mu1 ⟨v, done, rest, hv, hl, rfl, hd, rfl, rfl⟩
  cases hv with
  | nil hn =>
    rw [hn]
    refine ⟨_, (eb_notN (ee_var 2)), (by intro t; cases t), fun _ => ?_⟩
    rw [List.append_nil] at hd
    subst hd
    refine ss_1 (s1_ret (ee_tup (ea_c (ee_call F_shift_of (hr.mono (by decide)) (ea_c (ee_var 0) ea_no) ⟨_, rfl, sz hl, rfl⟩) (ea_c (EN.ee (en_rev ee_varM)) ea_no)) (of_decide_eq_true rfl)) ?_)
    show D.tup _ = D.tup _
    unfold nts
    rw [← List.map_reverse]
  | @cons _ ls' _ p hp hv' =>
    rw [hp]
    obtain ⟨hpl, _⟩ := ff_plc hp
    refine ⟨_, (eb_notN (ee_var 2)), fun _ => ?_, (by intro t; cases t)⟩
    have hdl : done.length + (ls'.length + 1) = ls.length := by rw [← hd, List.length_append, List.length_cons]
    refine ss_c (s1_set 0 (d := it (lb v p)) (ee_call F_letter_behind (hr.mono (by decide)) (ea_c (ee_var 0) (ea_c (ee_var 2) ea_no)) ⟨v, p, rfl, sz hl, hpl, rfl⟩) (mayI (im_it _) (by decide)) ?_ sc_word_in.nd)
    refine ss_c (s1_append (ee_var 2) .int (by rw [List.length_map]; omega) ?_)
    refine ss_1 (s1_set 2 (d := oD (ff (lb v p))) (ee_call F_first_fall (hr.mono (by decide)) (ea_c (ee_var 0) ea_no) ⟨lb v p, rfl, sz (by rw [lb_len]; exact hl), rfl⟩) (mayI (oD_im _) (by decide)) ⟨ls'.length, by simp, lb v p, done ++ [p], ls', hv', by rw [lb_len]; exact hl, rfl, by rw [← hd, List.append_assoc]; rfl, rfl, by unfold nts; rw [List.map_append]; rfl⟩ sc_word_in.nd)
def gb (vs : List Int) (ls : List Int) : List Int := ls.foldl (fun v p => if df v p then v else lb v p) vs
theorem gb_len (ls : List Int) : ∀ vs : List Int, (gb vs ls).length = vs.length := by
  induction ls with
  | nil => intro vs; rfl
  | cons p ls ih =>
    intro vs
    show (gb (if df vs p then vs else lb vs p) ls).length = _
    rw [ih]
    split
    · rfl
    · exact lb_len _ _
theorem gb_take {vs ls : List Int} {i : Nat} {p : Int} (h : ls[i]? = some p) : gb vs (ls.take (i + 1)) = if df (gb vs (ls.take i)) p then gb vs (ls.take i) else lb (gb vs (ls.take i)) p := by
  rw [List.take_add_one, h]
  unfold gb
  rw [List.foldl_append]
  rfl
theorem wsh_len (vs : List Int) (s : Int) : (wsh vs s).length = vs.length := by simp [wsh, rgs]
def f_greedily_behind (ds : List D) (d : D) : Prop := ∃ vs s ls dl, ds = [it vs, .int s, dl] ∧ (Szd vs ∧ (∀ p : Int, p ∈ ls → 0 ≤ p ∧ p < vs.length) ∧ (dl = it ls ∨ dl = il ls)) ∧ d = it (gb (wsh vs s) ls)
abbrev N_greedily_behind : List Str := ["values", "steps", "letters", "found", "place"]
theorem sc_greedily_behind : FnScope N_greedily_behind ["values", "steps", "letters"] (defScope (top 48)) := ⟨rfl, rfl, rfl, by decide +kernel, rfl, by decide +kernel, by decide +kernel⟩
theorem fd_greedily_behind (W : Wd mg) (D0 : Df K mg "greedily_behind" (top 48)) (F_with_shift : Fd P w K mg base C 6 "with_shift" f_with_shift) (F_does_fall : Fd P w K mg base C 6 "does_fall" f_does_fall) (F_letter_behind : Fd P w K mg base C 3 "letter_behind" f_letter_behind) : Fd P w K mg base C 9 "greedily_behind" f_greedily_behind := by
  refine Fd.mk (lv := 8) D0 sc_greedily_behind (fun _ _ _ _ _ _ us hl => match us, hl with | [_, _, _], _ => rfl) (by decide) (fun ds d hf => by obtain ⟨vs, s, ls, dl, hds, _⟩ := hf; rw [hds]; rfl) fun fa cdv A outer s H E ds d hr hf => ?_
  obtain ⟨vs, s, ls, dl, rfl, ⟨⟨h0, h1⟩, hp, hdl⟩, rfl⟩ := hf
  refine ss_c (s1_set 3 (ee_call F_with_shift (hr.mono (by decide)) (ea_c (ee_var 0) (ea_c (ee_var 1) ea_no)) ⟨vs, s, rfl, ⟨h0, h1⟩, rfl⟩) may0 ?_ sc_greedily_behind.nd)
  refine ss_c (s1_for (ds := nts ls) (fun i ρ mu => mu = none ∧ ∃ o1, ρ = [some (it vs), some (.int s), some dl, some (it (gb (wsh vs s) (ls.take i))), o1]) ?_ ⟨rfl, _, rfl⟩ [4] ?_ ?_)
  · refine ei_src ?_
    rcases hdl with rfl | rfl
    · exact es_tup (ee_var 2) (.inl rfl)
    · exact es_var 2
  · rintro i d ρ1 mu1 hd ⟨rfl, o1, rfl⟩
    unfold nts at hd
    rw [List.getElem?_map] at hd
    cases z : ls[i]? with
    | none => rw [z] at hd; cases hd
    | some p =>
      rw [z] at hd
      cases hd
      have hl : (gb (wsh vs s) (ls.take i)).length = vs.length := by rw [gb_len, wsh_len]
      obtain ⟨a1, a2⟩ := hp p (List.mem_of_getElem? z)
      refine ⟨_, eg_name 4 sc_greedily_behind.nd may0, ?_⟩
      refine ss_1 (s1_if (eb_not (eb_val (ee_call F_does_fall (hr.mono (by decide)) (ea_c (ee_var 3) (ea_c (ee_var 4) ea_no)) ⟨_, _, rfl, ⟨a1, by rw [hl]; exact a2⟩, rfl⟩))) (fun t => ?_) (fun t => ?_))
      · refine ss_1 (s1_set 3 (ee_call F_letter_behind (hr.mono (by decide)) (ea_c (ee_var 3) (ea_c (ee_var 4) ea_no)) ⟨_, _, rfl, ⟨by rw [hl]; exact h0, by rw [hl]; exact h1⟩, ⟨a1, by rw [hl]; exact a2⟩, rfl⟩) may0 ⟨rfl, some (.int p), ?_⟩ sc_greedily_behind.nd)
        rw [gb_take z, if_neg (by simpa using t)]
        rfl
      · refine ss_nil ⟨rfl, some (.int p), ?_⟩
        rw [gb_take z, if_pos (by simpa using t)]
        rfl
  · rintro ρ1 mu1 ⟨rfl, o1, rfl⟩
    rw [List.length_map, List.take_length]
    exact ss_1 (s1_ret (ee_var 3) rfl)
def f_greedy_in (ds : List D) (d : D) : Prop := ∃ vs ws ls vs', ds = [it ws, it vs] ∧ ((2 ≤ vs.length ∧ vs.length ≤ 60 ∧ Wi vs ls vs' ∧ ls.length ≤ 900) ∧ ws.length = vs.length ∧ (∀ p : Int, p ∈ ls → 0 ≤ p ∧ p < vs.length)) ∧ d = it (gb (wsh ws (sh vs')) ls.reverse)
abbrev N_greedy_in : List Str := ["outer", "inner", "steps", "letters"]
theorem sc_greedy_in : FnScope N_greedy_in ["outer", "inner"] (defScope (top 49)) := ⟨rfl, rfl, rfl, by decide +kernel, rfl, by decide +kernel, by decide +kernel⟩
theorem fd_greedy_in (W : Wd mg) (D0 : Df K mg "greedy_in" (top 49)) (F_word_in : Fd P w K mg base C 9 "word_in" f_word_in) (F_greedily_behind : Fd P w K mg base C 9 "greedily_behind" f_greedily_behind) : Fd P w K mg base C 12 "greedy_in" f_greedy_in := by
  refine Fd.mk (lv := 11) D0 sc_greedy_in (fun _ _ _ _ _ _ us hl => match us, hl with | [_, _], _ => rfl) (by decide) (fun ds d hf => by obtain ⟨vs, ws, ls, vs', hds, _⟩ := hf; rw [hds]; rfl) fun fa cdv A outer s H E ds d hr hf => ?_
  obtain ⟨vs, ws, ls, vs', rfl, ⟨⟨h0, h1, hw, hz⟩, hl, hp⟩, rfl⟩ := hf
  refine ss_c (s1_unp (vs := [2, 3]) (ee_call F_word_in (hr.mono (by decide)) (ea_c (ee_var 1) ea_no) ⟨vs, ls, vs', rfl, ⟨h0, h1, hw, hz⟩, rfl⟩) (eg_tup (egs_c (eg_name 2 sc_greedy_in.nd may0) (egs_c (eg_name 3 sc_greedy_in.nd may0) egs_no))) ?_)
  exact ss_1 (s1_ret (ee_call F_greedily_behind (hr.mono (by decide)) (ea_c (ee_var 0) (ea_c (ee_var 2) (ea_c (ee_var 3) ea_no))) ⟨ws, sh vs', ls.reverse, il ls.reverse, rfl, ⟨⟨by omega, by omega⟩, fun p h => by rw [hl]; exact hp p (List.mem_reverse.mp h), .inr rfl⟩, rfl⟩) rfl)
def wsL (vs : List Int) : List Int := (rgs 0 vs.length).map fun i => if gt vs i - i - sh vs < 0 then -(gt vs i - i - sh vs) else gt vs i - i - sh vs
def ws (vs : List Int) : Int := (wsL vs).foldl max 0
theorem foldl_max (L : List Int) : ∀ a : Int, a ≤ L.foldl max a ∧ (∀ x, x ∈ L → x ≤ L.foldl max a) ∧ (L.foldl max a = a ∨ L.foldl max a ∈ L) := by
  induction L with
  | nil => intro a; exact ⟨Int.le_refl _, fun x h => (nomatch h), .inl rfl⟩
  | cons y L ih =>
    intro a
    obtain ⟨h1, h2, h3⟩ := ih (max a y)
    refine ⟨Int.le_trans (Int.le_max_left a y) h1, fun x hx => ?_, ?_⟩
    · rcases List.mem_cons.mp hx with rfl | hx
      · exact Int.le_trans (Int.le_max_right a x) h1
      · exact h2 x hx
    · rcases h3 with h3 | h3
      · have e : (y :: L).foldl max a = max a y := h3
        rw [e]
        by_cases q : a ≤ y
        · right; rw [Int.max_eq_right q]; exact List.mem_cons_self
        · left; rw [Int.max_eq_left (by omega)]
      · right; exact List.mem_cons_of_mem _ h3
theorem wsL_nn {vs : List Int} {x : Int} (h : x ∈ wsL vs) : 0 ≤ x := by
  obtain ⟨i, _, rfl⟩ := List.mem_map.mp h
  split <;> omega
theorem ws_max {vs : List Int} {y : Int} (h1 : y ∈ wsL vs) (h2 : ∀ z, z ∈ wsL vs → z ≤ y) : y = ws vs := by
  obtain ⟨a, b, c⟩ := foldl_max (wsL vs) 0
  have h3 := b y h1
  have h4 := wsL_nn h1
  unfold ws
  rcases c with c | c
  · omega
  · have := h2 _ c
    omega
def enuI (vs : List Int) : List D := enu (nts vs)
theorem enuI_eq (vs : List Int) : enu (nts vs) = (rgs 0 vs.length).map fun i => D.tup [.int i, .int (gt vs i)] := by
  apply List.ext_getElem?
  intro i
  rw [List.getElem?_map]
  by_cases h : i < vs.length
  · have h1 : (enu (nts vs))[i]? = some ((enu (nts vs))[i]'(by rw [enu_len, List.length_map]; exact h)) := List.getElem?_eq_getElem _
    obtain ⟨_, h2⟩ := enu_int h1
    rw [h1, h2]
    unfold rgs
    rw [List.getElem?_map, List.getElem?_range h]
    simp
  · rw [List.getElem?_eq_none (by rw [enu_len, List.length_map]; omega)]
    rw [List.getElem?_eq_none (by rw [rgs_len]; omega)]
    rfl
def f_widest_step (ds : List D) (d : D) : Prop := ∃ vs, ds = [it vs] ∧ Szd vs ∧ d = .int (ws vs)
abbrev N_widest_step : List Str := ["values", "steps", "place", "value"]
theorem sc_widest_step : FnScope N_widest_step ["values"] (defScope (top 50)) := ⟨rfl, rfl, rfl, by decide +kernel, rfl, by decide +kernel, by decide +kernel⟩
theorem fd_widest_step (W : Wd mg) (D0 : Df K mg "widest_step" (top 50)) (F_shift_of : Fd P w K mg base C 3 "shift_of" f_shift_of) : Fd P w K mg base C 6 "widest_step" f_widest_step := by
  refine Fd.mk (lv := 5) D0 sc_widest_step (fun _ _ _ _ _ _ us hl => match us, hl with | [_], _ => rfl) (by decide) (fun ds d hf => by obtain ⟨vs, hds, _⟩ := hf; rw [hds]; rfl) fun fa cdv A outer s H E ds d hr hf => ?_
  obtain ⟨vs, rfl, ⟨h0, h1⟩, rfl⟩ := hf
  refine ss_c (s1_set 1 (ee_call F_shift_of (hr.mono (by decide)) (ea_c (ee_var 0) ea_no) ⟨vs, rfl, ⟨h0, h1⟩, rfl⟩) may0 ?_ sc_widest_step.nd)
  refine ss_1 (s1_ret (ee_maxL (xs := wsL vs) (m := ws vs) W.max (EL.ee (EL.is (el_map (own := [("place", 2), ("value", 3)]) (rgs 0 vs.length) (fun i => .tup [.int i, .int (gt vs i)]) (fun i => .int (if gt vs i - i - sh vs < 0 then -(gt vs i - i - sh vs) else gt vs i - i - sh vs)) (enuI_eq vs ▸ ei_enu W.enumerate (es_tup (ee_var 0) (.inl rfl))) sc_widest_step.nd (blkOk_by (N := N_widest_step) (sc := defScope (top 50)) (by decide +kernel)) (by intro _ _ _ z; cases z) (by rw [rgs_len]; omega) (fun x hx =>  turn_e (fun _ _ _ _ _ => (eg_tup (egs_c (eg_name 2 sc_widest_step.nd may0) (egs_c (eg_name 3 sc_widest_step.nd may0) egs_no)))) .int (fun _ _ _ _ _ => (ee_abs W.abs (ee_sub (ee_sub (ee_var 3) (ee_var 2)) (ee_var 1)))))) (by unfold wsL; rw [List.map_map]; rfl))) (by simp [wsL, rgs]; omega) (fun y a b => ws_max a b)) rfl)
end
end Dd
set_option maxHeartbeats 2000000
/-! The defs: maps compared, words required. Printed by gen/w4.py. -/
namespace Dd
open PySem PySem.Spec PyProof.Rows L2 Evl
section
variable {P : Program} {w : World} {K : PySem.W.Frag} {mg : Str → Option Value} {base : Heap} {C : Cs}

theorem EW.is {X : Cx} {ρ : Rho} {mu : Mu} {e : Expr} {b b' : Bool} (h : EW X C ρ mu e b) (z : b = b') : EW X C ρ mu e b' := z ▸ h
def bI (b : Bool) : Int := if b then 1 else 0
/-- residues of a round map's values: each once -/
structure Rok (vs : List Int) : Prop where
  sz : Szd vs
  sm : ∀ x, x ∈ vs → Sm x
  inj : ∀ i j : Int, 0 ≤ i → i < vs.length → 0 ≤ j → j < vs.length → gt vs i % vs.length = gt vs j % vs.length → i = j
  sur : ∀ r : Int, 0 ≤ r → r < vs.length → ∃ i : Int, 0 ≤ i ∧ i < vs.length ∧ gt vs i % vs.length = r
def tbx (vs : List Int) (r : Int) : Option Int := (rgs 0 vs.length).find? fun i => decide (gt vs i % vs.length = r)
def tb (vs : List Int) : List Int := (rgs 0 vs.length).map fun r => match tbx vs r with
  | some i => r + i - gt vs i
  | none => 0
theorem tb_len (vs : List Int) : (tb vs).length = vs.length := by simp [tb, rgs]
def f_turned_back (ds : List D) (d : D) : Prop := ∃ vs, ds = [it vs] ∧ Rok vs ∧ d = it (tb vs)
def mic (b0 b1 : List Int) (a : Int) : Nat → Int → Int → Int → Int × Int × Int
  | 0, t, m, u => (t, m, u)
  | n + 1, t, m, u => if m ≤ u then mic b0 b1 a n (t - 1) (m + bI (decide (vir b0 (t - 1) ≤ a))) (u + bI (decide (vir b1 (t - 1) ≤ a))) else (t, m, u)
def top1 (vs : List Int) (a : Int) : Int := a + sh vs + ws vs + 1
def mcR (v1 v2 b0 b1 : List Int) (a bot : Int) : Int × Int × Int := mic b0 b1 a (top1 v1 a - bot).toNat (top1 v1 a) (cnt v1 a (-top1 v1 a) v1.length) (cnt v2 a (-top1 v1 a) v2.length)
def mcol (v1 v2 b0 b1 : List Int) (a bot : Int) : Option Int := if (mcR v1 v2 b0 b1 a bot).2.2 < (mcR v1 v2 b0 b1 a bot).2.1 then some (mcR v1 v2 b0 b1 a bot).1 else none
def f_more_in_column (ds : List D) (d : D) : Prop := ∃ v1 v2 b0 b1 a bot, ds = [it v1, it v2, .tup [it b0, it b1], .int a, .int bot] ∧ (Szd v1 ∧ Szd v2 ∧ 0 < b0.length ∧ 0 < b1.length ∧ bot ≤ top1 v1 a) ∧ d = oD (mcol v1 v2 b0 b1 a bot)
abbrev N_more_in_column : List Str := ["first", "second", "backs", "a", "bottom", "top", "mine", "theirs", "at"]
theorem sc_more_in_column : FnScope N_more_in_column ["first", "second", "backs", "a", "bottom"] (defScope (top 51)) := ⟨rfl, rfl, rfl, by decide +kernel, rfl, by decide +kernel, by decide +kernel⟩
theorem fd_more_in_column (W : Wd mg) (D0 : Df K mg "more_in_column" (top 51)) (F_shift_of : Fd P w K mg base C 3 "shift_of" f_shift_of) (F_widest_step : Fd P w K mg base C 6 "widest_step" f_widest_step) (F_counted_in : Fd P w K mg base C 6 "counted_in" f_counted_in) (F_value_in_round : Fd P w K mg base C 3 "value_in_round" f_value_in_round) : Fd P w K mg base C 9 "more_in_column" f_more_in_column := by
  refine Fd.mk (lv := 8) D0 sc_more_in_column (fun _ _ _ _ _ _ us hl => match us, hl with | [_, _, _, _, _], _ => rfl) (by decide) (fun ds d hf => by obtain ⟨v1, v2, b0, b1, a, bot, hds, _⟩ := hf; rw [hds]; rfl) fun fa cdv A outer s H E ds d hr hf => ?_
  obtain ⟨v1, v2, b0, b1, a, bot, rfl, ⟨s1, s2, l0, l1, hb⟩, rfl⟩ := hf
  refine ss_c (s1_set 5 (d := .int (top1 v1 a)) (ee_add (ee_add (ee_add (ee_var 3) (ee_call F_shift_of (hr.mono (by decide)) (ea_c (ee_var 0) ea_no) ⟨_, rfl, s1, rfl⟩)) (ee_call F_widest_step (hr.mono (by decide)) (ea_c (ee_var 0) ea_no) ⟨_, rfl, s1, rfl⟩)) ee_int) may0 ?_ sc_more_in_column.nd)
  refine ss_c (s1_par 6 7 (ee_call F_counted_in (hr.mono (by decide)) (ea_c (ee_var 0) (ea_c (ee_var 3) (ea_c (ee_neg (ee_var 5)) ea_no))) ⟨_, _, _, rfl, s1, rfl⟩) (ee_call F_counted_in (hr.mono (by decide)) (ea_c (ee_var 1) (ea_c (ee_var 3) (ea_c (ee_neg (ee_var 5)) ea_no))) ⟨_, _, _, rfl, s2, rfl⟩) may0 may0 ?_ sc_more_in_column.nd)
  refine ss_c (s1_set 8 (ee_var 5) may0 ?_ sc_more_in_column.nd)
  refine ss_c (s1_while (fun n ρ mu => mu = none ∧ ∃ t m u, t = bot + n ∧ mic b0 b1 a n t m u = mcR v1 v2 b0 b1 a bot ∧ ρ = [some (it v1), some (it v2), some (.tup [it b0, it b1]), some (.int a), some (.int bot), some (.int (top1 v1 a)), some (.int m), some (.int u), some (.int t)]) (top1 v1 a - bot).toNat ⟨rfl, _, _, _, by omega, rfl, rfl⟩ ?_)
  rintro n ρ1 mu1 ⟨rfl, t, m, u, ht, hm, rfl⟩
  have fin : (t, m, u) = mcR v1 v2 b0 b1 a bot → SS (cxD P w K mg base N_more_in_column "more_in_column" (top 51) fa cdv A outer s H E) C [some (it v1), some (it v2), some (.tup [it b0, it b1]), some (.int a), some (.int bot), some (.int (top1 v1 a)), some (.int m), some (.int u), some (.int t)] none
      ((defBody (top 51)).drop 4) ⟨fun _ _ => oD (mcol v1 v2 b0 b1 a bot) = .non, fun d' _ => d' = oD (mcol v1 v2 b0 b1 a bot)⟩ := fun e => by
    refine ss_1 (s1_ret (d := oD (mcol v1 v2 b0 b1 a bot)) (ee_if (eb_gt (ee_var 6) (ee_var 7)) (fun h => EE.is (ee_var 8) ?_) (fun h => EE.is ee_non ?_)) rfl)
    · unfold mcol
      rw [← e, if_pos (of_decide_eq_true h)]
      rfl
    · unfold mcol
      rw [← e, if_neg (of_decide_eq_false h)]
      rfl
  cases n with
  | zero =>
    refine ⟨false, EB.is (eb_w (ew_and (eb_gt (ee_var 8) (ee_var 4)) (fun h_ => (ew_and1 (eb_le (ee_var 6) (ee_var 7)))))) ?_, (by intro h; cases h), fun _ => fin hm⟩
    rw [decide_eq_false (by omega)]
    rfl
  | succ n =>
    by_cases q : m ≤ u
    · refine ⟨true, EB.is (eb_w (ew_and (eb_gt (ee_var 8) (ee_var 4)) (fun h_ => (ew_and1 (eb_le (ee_var 6) (ee_var 7)))))) (by rw [decide_eq_true (by omega), decide_eq_true q]; rfl), fun _ => ?_, (by intro h; cases h)⟩
      unfold mic at hm
      rw [if_pos q] at hm
      refine ss_c (s1_dec 8 rfl ee_int (fun _ _ _ z => nomatch z) ?_ sc_more_in_column.nd)
      refine ss_c (s1_inc 6 rfl (ee_intB W.int (ee_le (ee_call F_value_in_round (hr.mono (by decide)) (ea_c (ee_ixT (ee_var 2) ee_int rfl) (ea_c (ee_var 8) ea_no)) ⟨_, _, rfl, l0, rfl⟩) (ee_var 3))) (fun _ _ _ z => nomatch z) ?_ sc_more_in_column.nd)
      exact ss_1 (s1_inc 7 rfl (ee_intB W.int (ee_le (ee_call F_value_in_round (hr.mono (by decide)) (ea_c (ee_ixT (ee_var 2) ee_int rfl) (ea_c (ee_var 8) ea_no)) ⟨_, _, rfl, l1, rfl⟩) (ee_var 3))) (fun _ _ _ z => nomatch z) ⟨n, by omega, rfl, t - 1, _, _, by omega, hm, rfl⟩ sc_more_in_column.nd)
    · refine ⟨false, EB.is (eb_w (ew_and (eb_gt (ee_var 8) (ee_var 4)) (fun h_ => (ew_and1 (eb_le (ee_var 6) (ee_var 7)))))) (by rw [decide_eq_false q, Bool.and_false]), (by intro h; cases h), fun _ => fin ?_⟩
      unfold mic at hm
      rw [if_neg q] at hm
      exact hm
def mIn (v1 v2 : List Int) (a : Int) : Option Int := mcol v1 v2 (tb v1) (tb v2) a (a + (sh v1 - ws v1))
def mI (v1 v2 : List Int) : Option (Int × Int) := (rgs 0 v1.length).findSome? fun a => (mIn v1 v2 a).map fun t => (a, -t)
def oD2 : Option (Int × Int) → D
  | none => .non
  | some p => .tup [.int p.1, .int p.2]
theorem ws_nn (vs : List Int) : 0 ≤ ws vs := (foldl_max (wsL vs) 0).1
def f_more_in (ds : List D) (d : D) : Prop := ∃ v1 v2, ds = [it v1, it v2] ∧ (Rok v1 ∧ Rok v2 ∧ v2.length = v1.length ∧ sh v1 ≤ sh v2) ∧ d = oD2 (mI v1 v2)
abbrev N_more_in : List Str := ["first", "second", "backs", "rise", "low", "a", "at"]
theorem sc_more_in : FnScope N_more_in ["first", "second"] (defScope (top 52)) := ⟨rfl, rfl, rfl, by decide +kernel, rfl, by decide +kernel, by decide +kernel⟩
theorem fd_more_in (W : Wd mg) (D0 : Df K mg "more_in" (top 52)) (F_turned_back : Fd P w K mg base C 3 "turned_back" f_turned_back) (F_shift_of : Fd P w K mg base C 3 "shift_of" f_shift_of) (F_widest_step : Fd P w K mg base C 6 "widest_step" f_widest_step) (F_more_in_column : Fd P w K mg base C 9 "more_in_column" f_more_in_column) : Fd P w K mg base C 12 "more_in" f_more_in := by
  refine Fd.mk (lv := 11) D0 sc_more_in (fun _ _ _ _ _ _ us hl => match us, hl with | [_, _], _ => rfl) (by decide) (fun ds d hf => by obtain ⟨v1, v2, hds, _⟩ := hf; rw [hds]; rfl) fun fa cdv A outer s H E ds d hr hf => ?_
  obtain ⟨v1, v2, rfl, ⟨k1, k2, hl, hs⟩, rfl⟩ := hf
  refine ss_c (s1_set 2 (ee_tup (ea_c (ee_call F_turned_back (hr.mono (by decide)) (ea_c (ee_var 0) ea_no) ⟨_, rfl, k1, rfl⟩) (ea_c (ee_call F_turned_back (hr.mono (by decide)) (ea_c (ee_var 1) ea_no) ⟨_, rfl, k2, rfl⟩) ea_no)) (by first | assumption | omega | decide | (simp only [nts, List.length_map, List.length_set] <;> omega) | (have hh_ := of_decide_eq_false h_; omega) | (have hh_ := of_decide_eq_true h_; omega) | (simp; done) | (simp <;> omega))) may0 ?_ sc_more_in.nd)
  refine ss_c (s1_set 3 (ee_sub (ee_call F_shift_of (hr.mono (by decide)) (ea_c (ee_var 0) ea_no) ⟨_, rfl, k1.sz, rfl⟩) (ee_call F_shift_of (hr.mono (by decide)) (ea_c (ee_var 1) ea_no) ⟨_, rfl, k2.sz, rfl⟩)) may0 ?_ sc_more_in.nd)
  refine ss_c (s1_set 4 (d := .int (sh v1 - ws v1)) (ee_if (p := true) (EB.is (eb_le (ee_var 3) ee_int) (decide_eq_true (by omega))) (fun _ => (ee_sub (ee_call F_shift_of (hr.mono (by decide)) (ea_c (ee_var 0) ea_no) ⟨_, rfl, k1.sz, rfl⟩) (ee_call F_widest_step (hr.mono (by decide)) (ea_c (ee_var 0) ea_no) ⟨_, rfl, k1.sz, rfl⟩))) (by intro h; cases h)) may0 ?_ sc_more_in.nd)
  have hz := k1.sz.2
  refine ss_c (s1_for (ds := nts (rgs 0 v1.length)) (fun i ρ mu => mu = none ∧ ((rgs 0 v1.length).drop i).findSome? (fun a => (mIn v1 v2 a).map fun t => (a, -t)) = mI v1 v2 ∧ ∃ o1 o2, ρ = [some (it v1), some (it v2), some (.tup [it (tb v1), it (tb v2)]), some (.int (sh v1 - sh v2)), some (.int (sh v1 - ws v1)), o1, o2]) (ei_src (es_rng1 W.range (ee_lenI W.len (ee_var 0)) (by omega) (by omega) (by omega))) ⟨rfl, rfl, _, _, rfl⟩ [5] ?_ ?_)
  · rintro i d ρ1 mu1 hd ⟨rfl, hq, o1, o2, rfl⟩
    obtain ⟨hi, rfl⟩ := rgs_get hd
    rw [Int.zero_add] at hd ⊢
    refine ⟨_, eg_name 5 sc_more_in.nd may0, ?_⟩
    have hw := ws_nn v1
    refine ss_c (s1_set 6 (d := oD (mIn v1 v2 i)) (ee_call F_more_in_column (hr.mono (by decide)) (ea_c (ee_var 0) (ea_c (ee_var 1) (ea_c (ee_var 2) (ea_c (ee_var 5) (ea_c (ee_add (ee_var 5) (ee_var 4)) ea_no))))) ⟨_, _, _, _, _, _, rfl, ⟨k1.sz, k2.sz, by rw [tb_len]; exact k1.sz.1, by rw [tb_len]; exact k2.sz.1, by unfold top1; omega⟩, rfl⟩) may0 ?_ sc_more_in.nd)
    have hi' : i < (rgs 0 v1.length).length := by rw [rgs_len]; exact hi
    have hg : (rgs 0 v1.length)[i] = (i : Int) := by simp [rgs]
    rw [List.drop_eq_getElem_cons hi', List.findSome?_cons, hg] at hq
    cases z : mIn v1 v2 i with
    | none =>
      rw [z] at hq
      exact ss_1 (s1_if (t := false) (EB.is (eb_notN (ee_var 6)) rfl) (by intro h; cases h) (fun _ => ss_nil ⟨rfl, hq, _, _, rfl⟩))
    | some t =>
      rw [z] at hq
      refine ss_1 (s1_if (t := true) (EB.is (eb_notN (ee_var 6)) rfl) (fun _ => ss_1 (s1_ret (ee_tup (ea_c (ee_var 5) (ea_c (ee_neg (ee_var 6)) ea_no)) (by first | assumption | omega | decide | (simp only [nts, List.length_map, List.length_set] <;> omega) | (have hh_ := of_decide_eq_false h_; omega) | (have hh_ := of_decide_eq_true h_; omega) | (simp; done) | (simp <;> omega))) ?_)) (by intro h; cases h))
      rw [← hq]
      rfl
  · rintro ρ1 mu1 ⟨rfl, hq, o1, o2, rfl⟩
    rw [List.length_map, List.drop_length] at hq
    rw [← hq]
    exact ss_1 (s1_ret ee_non rfl)
def f_is_word_in (ds : List D) (d : D) : Prop := ∃ (k : Int) (ls : List Int), ds = [.int k, .tup [.int 0, it ls]] ∧ (2 ≤ k ∧ ls.length ≤ 900 ∧ ∀ p : Int, p ∈ ls → 0 ≤ p ∧ p < k) ∧ d = .bl true
theorem all_true {α : Type} {L : List α} {f : α → Bool} (h : ∀ x, x ∈ L → f x = true) : (L.map f).all id = true := by
  rw [List.all_map, List.all_eq_true]
  exact h
abbrev N_is_word_in : List Str := ["size", "value", "one"]
theorem sc_is_word_in : FnScope N_is_word_in ["size", "value"] (defScope (top 53)) := ⟨rfl, rfl, rfl, by decide +kernel, rfl, by decide +kernel, by decide +kernel⟩
theorem fd_is_word_in (W : Wd mg) (D0 : Df K mg "is_word_in" (top 53)) (F_is_integer : Fd P w K mg base C 6 "is_integer" f_is_integer) (F_is_within : Fd P w K mg base C 6 "is_within" f_is_within) : Fd P w K mg base C 9 "is_word_in" f_is_word_in := by
  refine Fd.mk (lv := 8) D0 sc_is_word_in (fun _ _ _ _ _ _ us hl => match us, hl with | [_, _], _ => rfl) (by decide) (fun ds d hf => by obtain ⟨k, ls, hds, _⟩ := hf; rw [hds]; rfl) fun fa cdv A outer s H E ds d hr hf => ?_
  obtain ⟨k, ls, rfl, ⟨h0, h1, hp⟩, rfl⟩ := hf
  refine ss_c (s1_if (t := false) (EB.is (eb_w (ew_or (eb_not (eb_val (ee_isTup W.isinstance W.tuple (ee_var 1)))) (fun h_ => (ew_or (eb_neI (ee_lenT W.len (ee_var 1)) ee_int) (fun h_ => (ew_or (eb_not (eb_val (ee_call F_is_integer (hr.mono (by decide)) (ea_c (ee_ixT (ee_var 1) ee_int rfl) ea_no) ⟨0, rfl, by unfold Sm; omega, rfl⟩))) (fun h_ => (ew_or1 (eb_not (eb_val (ee_isTup W.isinstance W.tuple (ee_ixT (ee_var 1) ee_int rfl)))))))))))) (by rfl)) (by intro h; cases h) (fun _ => ss_nil ?_))
  refine ss_c (s1_if (t := false) (EB.is (eb_w (ew_or (eb_gt (ee_lenI W.len (ee_ixT (ee_var 1) ee_int rfl)) (ee_num W.MAX_LETTERS)) (fun h_ => (ew_or1 (eb_w (p := false) (EW.is (ew_and (p := false) (EB.is (eb_eqI (ee_var 0) ee_int) (decide_eq_false (by omega))) (by intro h; cases h) (r := false)) rfl)))))) ?_) (by intro h; cases h) (fun _ => ss_nil ?_))
  · rw [decide_eq_false (by omega)]; rfl
  refine ss_1 (s1_ret (ee_allL (bs := ls.map fun p => decide (0 ≤ p) && decide (p ≤ k - 1)) W.all (EL.ee (EL.is (el_map (own := [("one", 2)]) ls (D.int) (fun p => .bl (decide (0 ≤ p) && decide (p ≤ k - 1))) (ei_src (es_tup (ee_ixT (ee_var 1) ee_int rfl) (.inl rfl))) sc_is_word_in.nd (blkOk_by (N := N_is_word_in) (sc := defScope (top 53)) (by decide +kernel)) (by intro _ _ _ z; cases z) (by omega) (fun x hx =>  turn_e (fun _ _ _ _ _ => (eg_name 2 sc_is_word_in.nd may0)) .bl (fun _ _ _ _ _ => (ee_call F_is_within (hr.mono (by decide)) (ea_c (ee_var 2) (ea_c ee_int (ea_c (ee_sub (ee_var 0) ee_int) ea_no))) ⟨_, _, _, rfl, rfl⟩)))) (by rw [List.map_map]; rfl)))) ?_)
  show D.bl _ = D.bl _
  congr 1
  refine all_true fun p h => ?_
  obtain ⟨a, b⟩ := hp p h
  rw [decide_eq_true a, decide_eq_true (by omega)]
  rfl
def f_require_round_size (ds : List D) (d : D) : Prop := ∃ k l : Int, ds = [.int k, .int l] ∧ (l ≤ k ∧ k ≤ 60) ∧ d = .non
abbrev N_require_round_size : List Str := ["m", "least"]
theorem sc_require_round_size : FnScope N_require_round_size ["m", "least"] (defScope (top 39)) := ⟨rfl, rfl, rfl, by decide +kernel, rfl, by decide +kernel, by decide +kernel⟩
theorem fd_require_round_size (W : Wd mg) (D0 : Df K mg "require_round_size" (top 39)) (F_is_within : Fd P w K mg base C 6 "is_within" f_is_within) : Fd P w K mg base C 9 "require_round_size" f_require_round_size := by
  refine Fd.mk (lv := 8) D0 sc_require_round_size (fun _ _ _ _ _ _ us hl => match us, hl with | [_, _], _ => rfl) (by decide) (fun ds d hf => by obtain ⟨k, l, hds, _⟩ := hf; rw [hds]; rfl) fun fa cdv A outer s H E ds d hr hf => ?_
  obtain ⟨k, l, rfl, ⟨h0, h1⟩, rfl⟩ := hf
  exact ss_1 (s1_if (t := false) (EB.is (eb_not (eb_val (ee_call F_is_within (hr.mono (by decide)) (ea_c (ee_var 0) (ea_c (ee_var 1) (ea_c (ee_num W.MAX_ROUND) ea_no))) ⟨_, _, _, rfl, rfl⟩))) (by rw [decide_eq_true h0, decide_eq_true h1]; rfl)) (by intro h; cases h) (fun _ => ss_nil rfl))
def f_require_word_of_round (ds : List D) (d : D) : Prop := ∃ (k : Int) (ls : List Int), ds = [.int k, .tup [.int 0, it ls]] ∧ (2 ≤ k ∧ k ≤ 60 ∧ ls.length ≤ 900 ∧ ∀ p : Int, p ∈ ls → 0 ≤ p ∧ p < k) ∧ d = .non
abbrev N_require_word_of_round : List Str := ["m", "word"]
theorem sc_require_word_of_round : FnScope N_require_word_of_round ["m", "word"] (defScope (top 56)) := ⟨rfl, rfl, rfl, by decide +kernel, rfl, by decide +kernel, by decide +kernel⟩
theorem fd_require_word_of_round (W : Wd mg) (D0 : Df K mg "require_word_of_round" (top 56)) (F_require_round_size : Fd P w K mg base C 9 "require_round_size" f_require_round_size) (F_is_word_in : Fd P w K mg base C 9 "is_word_in" f_is_word_in) : Fd P w K mg base C 12 "require_word_of_round" f_require_word_of_round := by
  refine Fd.mk (lv := 11) D0 sc_require_word_of_round (fun _ _ _ _ _ _ us hl => match us, hl with | [_, _], _ => rfl) (by decide) (fun ds d hf => by obtain ⟨k, ls, hds, _⟩ := hf; rw [hds]; rfl) fun fa cdv A outer s H E ds d hr hf => ?_
  obtain ⟨k, ls, rfl, ⟨h0, h1, h2, hp⟩, rfl⟩ := hf
  refine ss_c (s1_expr (ee_call F_require_round_size (hr.mono (by decide)) (ea_c (ee_var 0) (ea_c ee_int ea_no)) ⟨_, _, rfl, ⟨by omega, h1⟩, rfl⟩) ?_)
  exact ss_1 (s1_if (t := false) (EB.is (eb_not (eb_val (ee_call F_is_word_in (hr.mono (by decide)) (ea_c (ee_var 0) (ea_c (ee_var 1) ea_no)) ⟨_, _, rfl, ⟨h0, h2, hp⟩, rfl⟩))) rfl) (by intro h; cases h) (fun _ => ss_nil rfl))
def flv (vs : List Int) : Int := Rg.sm vs.length fun i => Rg.sm vs.length fun j => max 0 (lf (gt vs i - gt vs j) vs.length - 1 - ((i : Int) - (j : Int)) / (vs.length : Int))
def f_falls_of (ds : List D) (d : D) : Prop := ∃ vs, ds = [it vs] ∧ Szd vs ∧ d = .int (flv vs)
def f_require_few_falls (ds : List D) (d : D) : Prop := ∃ vs, ds = [it vs] ∧ (Szd vs ∧ flv vs ≤ 1000) ∧ d = .non
abbrev N_require_few_falls : List Str := ["values"]
theorem sc_require_few_falls : FnScope N_require_few_falls ["values"] (defScope (top 54)) := ⟨rfl, rfl, rfl, by decide +kernel, rfl, by decide +kernel, by decide +kernel⟩
theorem fd_require_few_falls (W : Wd mg) (D0 : Df K mg "require_few_falls" (top 54)) (F_falls_of : Fd P w K mg base C 6 "falls_of" f_falls_of) : Fd P w K mg base C 9 "require_few_falls" f_require_few_falls := by
  refine Fd.mk (lv := 8) D0 sc_require_few_falls (fun _ _ _ _ _ _ us hl => match us, hl with | [_], _ => rfl) (by decide) (fun ds d hf => by obtain ⟨vs, hds, _⟩ := hf; rw [hds]; rfl) fun fa cdv A outer s H E ds d hr hf => ?_
  obtain ⟨vs, rfl, ⟨h0, h1⟩, rfl⟩ := hf
  exact ss_1 (s1_if (t := false) (EB.is (eb_gt (ee_call F_falls_of (hr.mono (by decide)) (ea_c (ee_var 0) ea_no) ⟨_, rfl, h0, rfl⟩) (ee_num W.MAX_FALLS)) (decide_eq_false (by omega))) (by intro h; cases h) (fun _ => ss_nil rfl))
end
end Dd
set_option maxHeartbeats 2000000
/-! The defs: chains, heaps. Printed by gen/w5.py. -/
namespace Dd
open PySem PySem.Spec PyProof.Rows L2 Evl
section
variable {P : Program} {w : World} {K : PySem.W.Frag} {mg : Str → Option Value} {base : Heap} {C : Cs}

abbrev rD (r : Int × Int) : D := .tup [.int r.1, .int r.2]
abbrev chD (c : List (Int × Int)) : D := .tup (c.map rD)
def Rg0 (r : Int × Int) : Prop := (2 ≤ r.1 ∧ r.1 ≤ 60) ∧ (1 ≤ r.2 ∧ r.2 ≤ r.1 - 1)
def f_is_ring_in (ds : List D) (d : D) : Prop := ∃ r, ds = [rD r] ∧ Rg0 r ∧ d = .bl true
abbrev N_is_ring_in : List Str := ["value"]
theorem sc_is_ring_in : FnScope N_is_ring_in ["value"] (defScope (top 18)) := ⟨rfl, rfl, rfl, by decide +kernel, rfl, by decide +kernel, by decide +kernel⟩
theorem fd_is_ring_in (W : Wd mg) (D0 : Df K mg "is_ring_in" (top 18)) (F_is_within : Fd P w K mg base C 6 "is_within" f_is_within) : Fd P w K mg base C 9 "is_ring_in" f_is_ring_in := by
  refine Fd.mk (lv := 8) D0 sc_is_ring_in (fun _ _ _ _ _ _ us hl => match us, hl with | [_], _ => rfl) (by decide) (fun ds d hf => by obtain ⟨r, hds, _⟩ := hf; rw [hds]; rfl) fun fa cdv A outer s H E ds d hr hf => ?_
  obtain ⟨r, rfl, ⟨⟨h0, h1⟩, h2, h3⟩, rfl⟩ := hf
  refine ss_c (s1_if (t := false) (EB.is (eb_w (ew_or (eb_not (eb_val (ee_isTup W.isinstance W.tuple (ee_var 0)))) (fun h_ => (ew_or (eb_neI (ee_lenT W.len (ee_var 0)) ee_int) (fun h_ => (ew_or1 (eb_not (eb_val (ee_call F_is_within (hr.mono (by decide)) (ea_c (ee_ixT (ee_var 0) ee_int rfl) (ea_c ee_int (ea_c (ee_num W.MOST_PLACES) ea_no))) ⟨_, _, _, rfl, rfl⟩))))))))) ?_) (by intro h; cases h) (fun _ => ss_nil ?_))
  · rw [decide_eq_true h0, decide_eq_true h1]; rfl
  refine ss_1 (s1_ret (ee_call F_is_within (hr.mono (by decide)) (ea_c (ee_ixT (ee_var 0) ee_int rfl) (ea_c ee_int (ea_c (ee_sub (ee_ixT (ee_var 0) ee_int rfl) ee_int) ea_no))) ⟨_, _, _, rfl, rfl⟩) ?_)
  rw [decide_eq_true h2, decide_eq_true h3]; rfl
def Ch0 (c : List (Int × Int)) : Prop := (1 ≤ c.length ∧ c.length ≤ 12) ∧ ∀ r, r ∈ c → Rg0 r
def f_is_chain_in (ds : List D) (d : D) : Prop := ∃ c, ds = [chD c] ∧ Ch0 c ∧ d = .bl true
abbrev N_is_chain_in : List Str := ["value", "ring"]
theorem sc_is_chain_in : FnScope N_is_chain_in ["value"] (defScope (top 19)) := ⟨rfl, rfl, rfl, by decide +kernel, rfl, by decide +kernel, by decide +kernel⟩
theorem fd_is_chain_in (W : Wd mg) (D0 : Df K mg "is_chain_in" (top 19)) (F_is_ring_in : Fd P w K mg base C 9 "is_ring_in" f_is_ring_in) : Fd P w K mg base C 12 "is_chain_in" f_is_chain_in := by
  refine Fd.mk (lv := 11) D0 sc_is_chain_in (fun _ _ _ _ _ _ us hl => match us, hl with | [_], _ => rfl) (by decide) (fun ds d hf => by obtain ⟨c, hds, _⟩ := hf; rw [hds]; rfl) fun fa cdv A outer s H E ds d hr hf => ?_
  obtain ⟨c, rfl, ⟨⟨h0, h1⟩, h2⟩, rfl⟩ := hf
  refine ss_1 (s1_ret (ee_and (ee_isTup W.isinstance W.tuple (ee_var 0)) (fun h_ => (ee_and (ee_chain ee_int (EE.is (d' := .int c.length) (ee_lenT W.len (ee_var 0)) (by rw [List.length_map])) (ee_num W.MOST_RINGS)) (fun h_ => (ee_one (ee_allL (bs := c.map fun _ => true) W.all (EL.ee (EL.is (el_map (own := [("ring", 1)]) c (rD) (fun _ => .bl true) (ei_src (es_tup (ee_var 0) (.inl rfl))) sc_is_chain_in.nd (blkOk_by (N := N_is_chain_in) (sc := defScope (top 19)) (by decide +kernel)) (by intro _ _ _ z; cases z) (by omega) (fun x hx =>  turn_e (fun _ _ _ _ _ => (eg_name 1 sc_is_chain_in.nd may0)) .bl (fun _ _ _ _ _ => (ee_call F_is_ring_in (hr.mono (by decide)) (ea_c (ee_var 1) ea_no) ⟨x, rfl, h2 x hx, rfl⟩)))) (by rw [List.map_map]; rfl))))))))) ?_)
  rw [decide_eq_true (by omega), decide_eq_true (by omega), all_true (fun _ _ => rfl)]; rfl
def f_order_in (ds : List D) (d : D) : Prop := ∃ r : Int × Int, ds = [rD r] ∧ Rg0 r ∧ d = .int (r.1 / ((Nat.gcd r.1.natAbs r.2.natAbs : Nat) : Int))
abbrev N_order_in : List Str := ["ring"]
theorem sc_order_in : FnScope N_order_in ["ring"] (defScope (top 20)) := ⟨rfl, rfl, rfl, by decide +kernel, rfl, by decide +kernel, by decide +kernel⟩
theorem fd_order_in (W : Wd mg) (D0 : Df K mg "order_in" (top 20))  : Fd P w K mg base C 3 "order_in" f_order_in := by
  refine Fd.mk (lv := 2) D0 sc_order_in (fun _ _ _ _ _ _ us hl => match us, hl with | [_], _ => rfl) (by decide) (fun ds d hf => by obtain ⟨r, hds, _⟩ := hf; rw [hds]; rfl) fun fa cdv A outer s H E ds d hr hf => ?_
  obtain ⟨r, rfl, ⟨⟨h0, h1⟩, h2, h3⟩, rfl⟩ := hf
  have g0 : 0 < Nat.gcd r.1.natAbs r.2.natAbs := Nat.gcd_pos_of_pos_left _ (by omega)
  have g1 : Nat.gcd r.1.natAbs r.2.natAbs ≤ r.1.natAbs := Nat.gcd_le_left _ (by omega)
  exact ss_1 (s1_ret (ee_div (ee_ixT (ee_var 0) ee_int rfl) (ee_gcd W.gcd (ee_ixT (ee_var 0) ee_int rfl) (ee_ixT (ee_var 0) ee_int rfl)) ⟨by omega, by omega⟩) rfl)
def f_require_chain (ds : List D) (d : D) : Prop := ∃ c, ds = [chD c] ∧ Ch0 c ∧ d = .non
abbrev N_require_chain : List Str := ["value"]
theorem sc_require_chain : FnScope N_require_chain ["value"] (defScope (top 21)) := ⟨rfl, rfl, rfl, by decide +kernel, rfl, by decide +kernel, by decide +kernel⟩
theorem fd_require_chain (W : Wd mg) (D0 : Df K mg "require_chain" (top 21)) (F_is_chain_in : Fd P w K mg base C 12 "is_chain_in" f_is_chain_in) : Fd P w K mg base C 15 "require_chain" f_require_chain := by
  refine Fd.mk (lv := 14) D0 sc_require_chain (fun _ _ _ _ _ _ us hl => match us, hl with | [_], _ => rfl) (by decide) (fun ds d hf => by obtain ⟨c, hds, _⟩ := hf; rw [hds]; rfl) fun fa cdv A outer s H E ds d hr hf => ?_
  obtain ⟨c, rfl, h, rfl⟩ := hf
  exact ss_1 (s1_if (t := false) (EB.is (eb_not (eb_val (ee_call F_is_chain_in (hr.mono (by decide)) (ea_c (ee_var 0) ea_no) ⟨_, rfl, h, rfl⟩))) rfl) (by intro h; cases h) (fun _ => ss_nil rfl))
def f_require_integer (ds : List D) (d : D) : Prop := ∃ i, ds = [.int i] ∧ Sm i ∧ d = .non
abbrev N_require_integer : List Str := ["value"]
theorem sc_require_integer : FnScope N_require_integer ["value"] (defScope (top 22)) := ⟨rfl, rfl, rfl, by decide +kernel, rfl, by decide +kernel, by decide +kernel⟩
theorem fd_require_integer (W : Wd mg) (D0 : Df K mg "require_integer" (top 22)) (F_is_integer : Fd P w K mg base C 6 "is_integer" f_is_integer) : Fd P w K mg base C 9 "require_integer" f_require_integer := by
  refine Fd.mk (lv := 8) D0 sc_require_integer (fun _ _ _ _ _ _ us hl => match us, hl with | [_], _ => rfl) (by decide) (fun ds d hf => by obtain ⟨i, hds, _⟩ := hf; rw [hds]; rfl) fun fa cdv A outer s H E ds d hr hf => ?_
  obtain ⟨i, rfl, h, rfl⟩ := hf
  exact ss_1 (s1_if (t := false) (EB.is (eb_not (eb_val (ee_call F_is_integer (hr.mono (by decide)) (ea_c (ee_var 0) ea_no) ⟨_, rfl, h, rfl⟩))) rfl) (by intro h; cases h) (fun _ => ss_nil rfl))
def Tp0 (c : List (Int × Int)) (x : List Int) : Prop := x.length = c.length ∧ c.length ≤ 12 ∧ ∀ p, p ∈ c.zip x → 0 ≤ p.2 ∧ p.2 ≤ p.1.1 - 1
def f_is_tuple_in (ds : List D) (d : D) : Prop := ∃ c x, ds = [chD c, it x] ∧ Tp0 c x ∧ d = .bl true
theorem zpp_map {α β : Type} (f : α → D) (g : β → D) (L : List α) (M : List β) : zpp (L.map f) (M.map g) = (L.zip M).map fun p => .tup [f p.1, g p.2] := by
  unfold zpp
  rw [List.zip_map, List.map_map]
  rfl
abbrev N_is_tuple_in : List Str := ["chain", "value", "ring", "place"]
theorem sc_is_tuple_in : FnScope N_is_tuple_in ["chain", "value"] (defScope (top 62)) := ⟨rfl, rfl, rfl, by decide +kernel, rfl, by decide +kernel, by decide +kernel⟩
theorem fd_is_tuple_in (W : Wd mg) (D0 : Df K mg "is_tuple_in" (top 62)) (F_is_within : Fd P w K mg base C 6 "is_within" f_is_within) : Fd P w K mg base C 9 "is_tuple_in" f_is_tuple_in := by
  refine Fd.mk (lv := 8) D0 sc_is_tuple_in (fun _ _ _ _ _ _ us hl => match us, hl with | [_, _], _ => rfl) (by decide) (fun ds d hf => by obtain ⟨c, x, hds, _⟩ := hf; rw [hds]; rfl) fun fa cdv A outer s H E ds d hr hf => ?_
  obtain ⟨c, x, rfl, ⟨h0, h1, h2⟩, rfl⟩ := hf
  refine ss_c (s1_if (t := false) (EB.is (eb_w (ew_or (eb_not (eb_val (ee_isTup W.isinstance W.tuple (ee_var 1)))) (fun h_ => (ew_or1 (eb_neI (ee_lenI W.len (ee_var 1)) (ee_lenT W.len (ee_var 0))))))) ?_) (by intro h; cases h) (fun _ => ss_nil ?_))
  · rw [List.length_map, decide_eq_true (by omega)]; rfl
  refine ss_1 (s1_ret (ee_allL (bs := (c.zip x).map fun p => decide (0 ≤ p.2) && decide (p.2 ≤ p.1.1 - 1)) W.all (EL.ee (EL.is (el_map (own := [("ring", 2), ("place", 3)]) (c.zip x) (fun p => .tup [rD p.1, .int p.2]) (fun p => .bl (decide (0 ≤ p.2) && decide (p.2 ≤ p.1.1 - 1))) (zpp_map rD D.int c x ▸ ei_zip W.zip (es_tup (ee_var 0) (.inl rfl)) (es_tup (ee_var 1) (.inl rfl))) sc_is_tuple_in.nd (blkOk_by (N := N_is_tuple_in) (sc := defScope (top 62)) (by decide +kernel)) (by intro _ _ _ z; cases z) (by rw [List.length_zip]; omega) (fun p hx =>  turn_e (fun _ _ _ _ _ => (eg_tup (egs_c (eg_name 2 sc_is_tuple_in.nd may0) (egs_c (eg_name 3 sc_is_tuple_in.nd may0) egs_no)))) .bl (fun _ _ _ _ _ => (ee_call F_is_within (hr.mono (by decide)) (ea_c (ee_var 3) (ea_c ee_int (ea_c (ee_sub (ee_ixT (ee_var 2) ee_int rfl) ee_int) ea_no))) ⟨_, _, _, rfl, rfl⟩)))) (by rw [List.map_map]; rfl)))) ?_)
  show D.bl _ = D.bl _
  congr 1
  refine all_true fun p h => ?_
  obtain ⟨a, b⟩ := h2 p h
  rw [decide_eq_true a, decide_eq_true b]
  rfl
def f_require_tuple (ds : List D) (d : D) : Prop := ∃ c x, ds = [chD c, it x] ∧ Tp0 c x ∧ d = .non
abbrev N_require_tuple : List Str := ["chain", "value"]
theorem sc_require_tuple : FnScope N_require_tuple ["chain", "value"] (defScope (top 63)) := ⟨rfl, rfl, rfl, by decide +kernel, rfl, by decide +kernel, by decide +kernel⟩
theorem fd_require_tuple (W : Wd mg) (D0 : Df K mg "require_tuple" (top 63)) (F_is_tuple_in : Fd P w K mg base C 9 "is_tuple_in" f_is_tuple_in) : Fd P w K mg base C 12 "require_tuple" f_require_tuple := by
  refine Fd.mk (lv := 11) D0 sc_require_tuple (fun _ _ _ _ _ _ us hl => match us, hl with | [_, _], _ => rfl) (by decide) (fun ds d hf => by obtain ⟨c, x, hds, _⟩ := hf; rw [hds]; rfl) fun fa cdv A outer s H E ds d hr hf => ?_
  obtain ⟨c, x, rfl, h, rfl⟩ := hf
  exact ss_1 (s1_if (t := false) (EB.is (eb_not (eb_val (ee_call F_is_tuple_in (hr.mono (by decide)) (ea_c (ee_var 0) (ea_c (ee_var 1) ea_no)) ⟨_, _, rfl, h, rfl⟩))) rfl) (by intro h; cases h) (fun _ => ss_nil rfl))
/-- a heap: heights that do not rise -/
structure Hp0 (h : List Int) : Prop where
  len : h.length ≤ 60
  bd : ∀ x, x ∈ h → 1 ≤ x ∧ x ≤ 60
  dn : ∀ p, p ∈ h.zip h.tail → p.2 ≤ p.1
theorem cut1 (h : List Int) : cutD (nts h) (some 1) none = nts h.tail := by
  unfold cutD
  show ((nts h).drop (min (1 : Int).toNat (nts h).length)).take ((nts h).length - min (1 : Int).toNat (nts h).length) = _
  cases h with
  | nil => rfl
  | cons x h =>
    show ((nts (x :: h)).drop (min 1 (nts (x :: h)).length)).take _ = nts h
    have e : min 1 (nts (x :: h)).length = 1 := by simp [nts]
    rw [e]
    show (nts h).take _ = nts h
    exact List.take_of_length_le (by simp [nts])
def f_is_heap_in (ds : List D) (d : D) : Prop := ∃ h, ds = [it h] ∧ Hp0 h ∧ d = .bl true
abbrev N_is_heap_in : List Str := ["value", "height", "one", "other"]
theorem sc_is_heap_in : FnScope N_is_heap_in ["value"] (defScope (top 66)) := ⟨rfl, rfl, rfl, by decide +kernel, rfl, by decide +kernel, by decide +kernel⟩
theorem fd_is_heap_in (W : Wd mg) (D0 : Df K mg "is_heap_in" (top 66)) (F_is_within : Fd P w K mg base C 6 "is_within" f_is_within) : Fd P w K mg base C 9 "is_heap_in" f_is_heap_in := by
  refine Fd.mk (lv := 8) D0 sc_is_heap_in (fun _ _ _ _ _ _ us hl => match us, hl with | [_], _ => rfl) (by decide) (fun ds d hf => by obtain ⟨h, hds, _⟩ := hf; rw [hds]; rfl) fun fa cdv A outer s H E ds d hr hf => ?_
  obtain ⟨h, rfl, k, rfl⟩ := hf
  have k1 := k.len
  refine ss_c (s1_if (t := false) (EB.is (eb_w (ew_or (eb_not (eb_val (ee_isTup W.isinstance W.tuple (ee_var 0)))) (fun h_ => (ew_or1 (eb_gt (ee_lenI W.len (ee_var 0)) (ee_num W.MOST_SIDE)))))) ?_) (by intro h; cases h) (fun _ => ss_nil ?_))
  · rw [decide_eq_false (by omega)]; rfl
  refine ss_c (s1_if (t := false) (EB.is (eb_not (eb_val (ee_allL (bs := h.map fun x => decide (1 ≤ x) && decide (x ≤ 60)) W.all (EL.ee (EL.is (el_map (own := [("height", 1)]) h (D.int) (fun x => .bl (decide (1 ≤ x) && decide (x ≤ 60))) (ei_src (es_tup (ee_var 0) (.inl rfl))) sc_is_heap_in.nd (blkOk_by (N := N_is_heap_in) (sc := defScope (top 66)) (by decide +kernel)) (by intro _ _ _ z; cases z) (by omega) (fun x hx =>  turn_e (fun _ _ _ _ _ => (eg_name 1 sc_is_heap_in.nd may0)) .bl (fun _ _ _ _ _ => (ee_call F_is_within (hr.mono (by decide)) (ea_c (ee_var 1) (ea_c ee_int (ea_c (ee_num W.MOST_SIDE) ea_no))) ⟨_, _, _, rfl, rfl⟩)))) (by rw [List.map_map]; rfl)))))) ?_) (by intro h; cases h) (fun _ => ss_nil ?_))
  · rw [all_true fun x hx => by rw [decide_eq_true (k.bd x hx).1, decide_eq_true (k.bd x hx).2]; rfl]; rfl
  refine ss_1 (s1_ret (ee_allL (bs := (h.zip h.tail).map fun p => decide (p.2 ≤ p.1)) W.all (EL.ee (EL.is (el_map (own := [("one", 2), ("other", 3)]) (h.zip h.tail) (fun p => .tup [.int p.1, .int p.2]) (fun p => .bl (decide (p.2 ≤ p.1))) (zpp_map D.int D.int h h.tail ▸ ei_zip W.zip (es_tup (ee_var 0) (.inl rfl)) (es_tup (EE.is (ee_slT (ee_var 0) (eo_c ee_int) eo_no) (by rw [cut1])) (.inl rfl))) sc_is_heap_in.nd (blkOk_by (N := N_is_heap_in) (sc := defScope (top 66)) (by decide +kernel)) (by intro _ _ _ z; cases z) (by rw [List.length_zip]; omega) (fun p hx =>  turn_e (fun _ _ _ _ _ => (eg_tup (egs_c (eg_name 2 sc_is_heap_in.nd may0) (egs_c (eg_name 3 sc_is_heap_in.nd may0) egs_no)))) .bl (fun _ _ _ _ _ => (ee_ge (ee_var 2) (ee_var 3))))) (by rw [List.map_map]; rfl)))) ?_)
  rw [all_true fun p hp => decide_eq_true (k.dn p hp)]
def hld (a b : List Int) : Bool := decide ((b.length : Int) ≤ a.length) && ((a.zip b).map fun p => decide (p.2 ≤ p.1)).all id
def f_holds_in (ds : List D) (d : D) : Prop := ∃ a b, ds = [it a, it b] ∧ a.length ≤ 60 ∧ d = .bl (hld a b)
abbrev N_holds_in : List Str := ["heap", "other", "one", "two"]
theorem sc_holds_in : FnScope N_holds_in ["heap", "other"] (defScope (top 67)) := ⟨rfl, rfl, rfl, by decide +kernel, rfl, by decide +kernel, by decide +kernel⟩
theorem fd_holds_in (W : Wd mg) (D0 : Df K mg "holds_in" (top 67))  : Fd P w K mg base C 3 "holds_in" f_holds_in := by
  refine Fd.mk (lv := 2) D0 sc_holds_in (fun _ _ _ _ _ _ us hl => match us, hl with | [_, _], _ => rfl) (by decide) (fun ds d hf => by obtain ⟨a, b, hds, _⟩ := hf; rw [hds]; rfl) fun fa cdv A outer s H E ds d hr hf => ?_
  obtain ⟨a, b, rfl, k, rfl⟩ := hf
  exact ss_1 (s1_ret (ee_and (ee_le (ee_lenI W.len (ee_var 1)) (ee_lenI W.len (ee_var 0))) (fun h_ => (ee_one (ee_allL (bs := (a.zip b).map fun p => decide (p.2 ≤ p.1)) W.all (EL.ee (EL.is (el_map (own := [("one", 2), ("two", 3)]) (a.zip b) (fun p => .tup [.int p.1, .int p.2]) (fun p => .bl (decide (p.2 ≤ p.1))) (zpp_map D.int D.int a b ▸ ei_zip W.zip (es_tup (ee_var 0) (.inl rfl)) (es_tup (ee_var 1) (.inl rfl))) sc_holds_in.nd (blkOk_by (N := N_holds_in) (sc := defScope (top 67)) (by decide +kernel)) (by intro _ _ _ z; cases z) (by rw [List.length_zip]; omega) (fun p hx =>  turn_e (fun _ _ _ _ _ => (eg_tup (egs_c (eg_name 2 sc_holds_in.nd may0) (egs_c (eg_name 3 sc_holds_in.nd may0) egs_no)))) .bl (fun _ _ _ _ _ => (ee_ge (ee_var 2) (ee_var 3))))) (by rw [List.map_map]; rfl))))))) rfl)
def f_require_heap (ds : List D) (d : D) : Prop := ∃ h, ds = [it h] ∧ Hp0 h ∧ d = .non
abbrev N_require_heap : List Str := ["heap"]
theorem sc_require_heap : FnScope N_require_heap ["heap"] (defScope (top 75)) := ⟨rfl, rfl, rfl, by decide +kernel, rfl, by decide +kernel, by decide +kernel⟩
theorem fd_require_heap (W : Wd mg) (D0 : Df K mg "require_heap" (top 75)) (F_is_heap_in : Fd P w K mg base C 9 "is_heap_in" f_is_heap_in) : Fd P w K mg base C 12 "require_heap" f_require_heap := by
  refine Fd.mk (lv := 11) D0 sc_require_heap (fun _ _ _ _ _ _ us hl => match us, hl with | [_], _ => rfl) (by decide) (fun ds d hf => by obtain ⟨h, hds, _⟩ := hf; rw [hds]; rfl) fun fa cdv A outer s H E ds d hr hf => ?_
  obtain ⟨h, rfl, k, rfl⟩ := hf
  exact ss_1 (s1_if (t := false) (EB.is (eb_not (eb_val (ee_call F_is_heap_in (hr.mono (by decide)) (ea_c (ee_var 0) ea_no) ⟨_, rfl, k, rfl⟩))) rfl) (by intro h; cases h) (fun _ => ss_nil rfl))
def f_require_two_heaps (ds : List D) (d : D) : Prop := ∃ h k, ds = [it h, it k] ∧ (Hp0 h ∧ Hp0 k) ∧ d = .non
abbrev N_require_two_heaps : List Str := ["one", "other"]
theorem sc_require_two_heaps : FnScope N_require_two_heaps ["one", "other"] (defScope (top 76)) := ⟨rfl, rfl, rfl, by decide +kernel, rfl, by decide +kernel, by decide +kernel⟩
theorem fd_require_two_heaps (W : Wd mg) (D0 : Df K mg "require_two_heaps" (top 76)) (F_require_heap : Fd P w K mg base C 12 "require_heap" f_require_heap) : Fd P w K mg base C 15 "require_two_heaps" f_require_two_heaps := by
  refine Fd.mk (lv := 14) D0 sc_require_two_heaps (fun _ _ _ _ _ _ us hl => match us, hl with | [_, _], _ => rfl) (by decide) (fun ds d hf => by obtain ⟨h, k, hds, _⟩ := hf; rw [hds]; rfl) fun fa cdv A outer s H E ds d hr hf => ?_
  obtain ⟨h, k, rfl, ⟨k1, k2⟩, rfl⟩ := hf
  refine ss_c (s1_expr (ee_call F_require_heap (hr.mono (by decide)) (ea_c (ee_var 0) ea_no) ⟨_, rfl, k1, rfl⟩) ?_)
  exact ss_1 (s1_expr (ee_call F_require_heap (hr.mono (by decide)) (ea_c (ee_var 1) ea_no) ⟨_, rfl, k2, rfl⟩) rfl)
def f_is_held (ds : List D) (d : D) : Prop := ∃ h k, ds = [it h, it k] ∧ (Hp0 h ∧ Hp0 k) ∧ d = .bl (hld h k)
abbrev N_is_held : List Str := ["heap", "other"]
theorem sc_is_held : FnScope N_is_held ["heap", "other"] (defScope (top 77)) := ⟨rfl, rfl, rfl, by decide +kernel, rfl, by decide +kernel, by decide +kernel⟩
theorem fd_is_held (W : Wd mg) (D0 : Df K mg "is_held" (top 77)) (F_require_two_heaps : Fd P w K mg base C 15 "require_two_heaps" f_require_two_heaps) (F_holds_in : Fd P w K mg base C 3 "holds_in" f_holds_in) : Fd P w K mg base C 18 "is_held" f_is_held := by
  refine Fd.mk (lv := 17) D0 sc_is_held (fun _ _ _ _ _ _ us hl => match us, hl with | [_, _], _ => rfl) (by decide) (fun ds d hf => by obtain ⟨h, k, hds, _⟩ := hf; rw [hds]; rfl) fun fa cdv A outer s H E ds d hr hf => ?_
  obtain ⟨h, k, rfl, ⟨k1, k2⟩, rfl⟩ := hf
  refine ss_c (s1_expr (ee_call F_require_two_heaps (hr.mono (by decide)) (ea_c (ee_var 0) (ea_c (ee_var 1) ea_no)) ⟨_, _, rfl, ⟨k1, k2⟩, rfl⟩) ?_)
  exact ss_1 (s1_ret (ee_call F_holds_in (hr.mono (by decide)) (ea_c (ee_var 0) (ea_c (ee_var 1) ea_no)) ⟨_, _, rfl, k1.len, rfl⟩) rfl)
end
end Dd
set_option maxHeartbeats 2000000
/-! The defs: growth of heaps. Printed by gen/w6.py. -/
namespace Dd
open PySem PySem.Spec PyProof.Rows L2 Evl
section
variable {P : Program} {w : World} {K : PySem.W.Frag} {mg : Str → Option Value} {base : Heap} {C : Cs}

theorem mx0_bd {h : List Int} (k : ∀ x, x ∈ h → 0 ≤ x ∧ x ≤ 1000) : 0 ≤ mx0 h ∧ mx0 h ≤ 1000 := by
  cases h with
  | nil => exact ⟨Int.le_refl _, by decide⟩
  | cons y ys =>
    obtain ⟨h1, _, h3⟩ := foldl_max ys y
    have hy := k y List.mem_cons_self
    refine ⟨Int.le_trans hy.1 h1, ?_⟩
    show ys.foldl max y ≤ 1000
    rcases h3 with h3 | h3
    · rw [h3]; exact hy.2
    · exact (k _ (List.mem_cons_of_mem _ h3)).2
def fl1 (h : List Int) (row : Int) : Int := ((h.filter fun x => decide (row < x)).length : Int)
def flp (h : List Int) : List Int := (rgs 0 (mx0 h).toNat).map fun row => fl1 h row
/-- small -/
def Sml (h : List Int) : Prop := h.length ≤ 100 ∧ ∀ x, x ∈ h → 0 ≤ x ∧ x ≤ 1000
def f_flipped_in (ds : List D) (d : D) : Prop := ∃ h, ds = [it h] ∧ Sml h ∧ d = it (flp h)
abbrev N_flipped_in : List Str := ["heap", "row", "height"]
theorem sc_flipped_in : FnScope N_flipped_in ["heap"] (defScope (top 68)) := ⟨rfl, rfl, rfl, by decide +kernel, rfl, by decide +kernel, by decide +kernel⟩
theorem fd_flipped_in (W : Wd mg) (D0 : Df K mg "flipped_in" (top 68))  : Fd P w K mg base C 3 "flipped_in" f_flipped_in := by
  refine Fd.mk (lv := 2) D0 sc_flipped_in (fun _ _ _ _ _ _ us hl => match us, hl with | [_], _ => rfl) (by decide) (fun ds d hf => by obtain ⟨h, hds, _⟩ := hf; rw [hds]; rfl) fun fa cdv A outer s H E ds d hr hf => ?_
  obtain ⟨h, rfl, ⟨k1, k2⟩, rfl⟩ := hf
  obtain ⟨m0, m1⟩ := mx0_bd k2
  refine ss_1 (s1_ret (ee_tuple W.tuple (EL.ee (el_map (own := [("row", 1)]) (rgs 0 (mx0 h).toNat) (D.int) (fun row => .int (fl1 h row)) (ei_src (es_rng1 W.range (ee_max0 W.max hr.units (ee_var 0)) rfl m0 (by omega))) sc_flipped_in.nd (blkOk_by (N := N_flipped_in) (sc := defScope (top 68)) (by decide +kernel)) (by intro _ _ _ z; cases z) (by rw [rgs_len]; omega) (fun row hx =>  turn_e (fun _ _ _ _ _ => (eg_name 1 sc_flipped_in.nd may0)) .int (fun _ _ _ _ _ => (EE.is (d' := .int (fl1 h row)) (ee_lenL W.len (EL.ee (el_filt (own := [("height", 2)]) h (fun x => decide (row < x)) (D.int) (D.int) (ei_src (es_tup (ee_var 0) (.inl rfl))) sc_flipped_in.nd (blkOk_by (by rfl)) (by intro _ _ _ z; cases z) (by omega) (fun x hx =>  turn_t (fun _ _ _ _ _ => (eg_name 2 sc_flipped_in.nd may0)) (fun _ _ _ _ _ => EB.is (eb_gt (ee_var 2) (ee_var 1)) rfl) .int (fun hb => fun _ _ _ _ _ => (ee_var 2)))))) (by rw [List.length_map]; rfl))))))) ?_)
  simp [flp, it]
def hs0 (h : List Int) : List Int := h ++ [0]
theorem hs0_len (h : List Int) : (hs0 h).length = h.length + 1 := by simp [hs0]
theorem hs0_it (h : List Int) : D.tup (nts h ++ [.int 0]) = it (hs0 h) := by unfold hs0 it nts; rw [List.map_append]; rfl
def pac (h : List Int) (c : Int) : Bool := decide (c = 0) || decide (gt (hs0 h) c < gt (hs0 h) (c - 1))
def ac (h : List Int) : List Int := (rgc h.length (-1) (h.length + 1)).filter fun c => pac h c
theorem rgC_down {n : Nat} (h : n ≤ 1000) : RgC (n : Int) (-1) (-1) (n + 1) := by
  have q := RgC.neg (i := (n : Int)) (j := -1) (by omega) (by omega) (by omega) (by omega)
  have e : ((n : Int) - (-1)).toNat = n + 1 := by omega
  rw [e] at q
  exact q
theorem rgc_mem {lo c : Int} {n : Nat} {x : Int} (h : x ∈ rgc lo c n) : ∃ k : Nat, k < n ∧ x = lo + k * c := by
  unfold rgc at h
  obtain ⟨k, hk, rfl⟩ := List.mem_map.mp h
  exact ⟨k, List.mem_range.mp hk, rfl⟩
theorem ac_mem {h : List Int} {c : Int} (q : c ∈ ac h) : 0 ≤ c ∧ c ≤ h.length := by
  obtain ⟨k, hk, rfl⟩ := rgc_mem (List.mem_filter.mp q).1
  constructor <;> omega
theorem ac_len (h : List Int) : (ac h).length ≤ h.length + 1 := Nat.le_trans (List.length_filter_le _ _) (by simp [rgc])
def f_addable_columns (ds : List D) (d : D) : Prop := ∃ h, ds = [it h] ∧ Sml h ∧ d = il (ac h)
abbrev N_addable_columns : List Str := ["heap", "heights", "column"]
theorem sc_addable_columns : FnScope N_addable_columns ["heap"] (defScope (top 69)) := ⟨rfl, rfl, rfl, by decide +kernel, rfl, by decide +kernel, by decide +kernel⟩
theorem fd_addable_columns (W : Wd mg) (D0 : Df K mg "addable_columns" (top 69))  : Fd P w K mg base C 3 "addable_columns" f_addable_columns := by
  refine Fd.mk (lv := 2) D0 sc_addable_columns (fun _ _ _ _ _ _ us hl => match us, hl with | [_], _ => rfl) (by decide) (fun ds d hf => by obtain ⟨h, hds, _⟩ := hf; rw [hds]; rfl) fun fa cdv A outer s H E ds d hr hf => ?_
  obtain ⟨h, rfl, ⟨k1, k2⟩, rfl⟩ := hf
  have hl := hs0_len h
  refine ss_c (s1_set 1 (EE.is (d' := it (hs0 h)) (ee_tup (ea_star (ee_var 0) (ea_c ee_int ea_no)) (by simp; omega)) (hs0_it h)) may0 ?_ sc_addable_columns.nd)
  exact ss_1 (s1_ret (EE.is (EL.ee (el_filt (own := [("column", 2)]) (rgc h.length (-1) (h.length + 1)) (fun c => pac h c) (D.int) (D.int) (ei_rng3 W.range (ee_lenI W.len (ee_var 0)) (ee_neg ee_int) (ee_neg ee_int) (rgC_down (by omega))) sc_addable_columns.nd (blkOk_by (N := N_addable_columns) (sc := defScope (top 69)) (by decide +kernel)) (by intro _ _ _ z; cases z) (by simp [rgc]; omega) (fun c hx => by
    obtain ⟨k, hk, rfl⟩ := rgc_mem hx
    exact  turn_t (fun _ _ _ _ _ => (eg_name 2 sc_addable_columns.nd may0)) (fun _ _ _ _ _ => EB.is (eb_w (ew_or (eb_eqI (ee_var 2) ee_int) (fun h_ => (ew_or1 (eb_gt (ee_ixI (ee_var 1) (ee_sub (ee_var 2) ee_int) (by first | assumption | omega | decide | (simp only [nts, List.length_map, List.length_set] <;> omega) | (have hh_ := of_decide_eq_false h_; omega) | (have hh_ := of_decide_eq_true h_; omega) | (simp; done) | (simp <;> omega)) (by first | assumption | omega | decide | (simp only [nts, List.length_map, List.length_set] <;> omega) | (have hh_ := of_decide_eq_false h_; omega) | (have hh_ := of_decide_eq_true h_; omega) | (simp; done) | (simp <;> omega))) (ee_ixI (ee_var 1) (ee_var 2) (by first | assumption | omega | decide | (simp only [nts, List.length_map, List.length_set] <;> omega) | (have hh_ := of_decide_eq_false h_; omega) | (have hh_ := of_decide_eq_true h_; omega) | (simp; done) | (simp <;> omega)) (by first | assumption | omega | decide | (simp only [nts, List.length_map, List.length_set] <;> omega) | (have hh_ := of_decide_eq_false h_; omega) | (have hh_ := of_decide_eq_true h_; omega) | (simp; done) | (simp <;> omega)))))))) rfl) .int (fun hb => fun _ _ _ _ _ => (ee_var 2))))) (by unfold ac; rfl)) rfl)
def pcr (h : List Int) (c : Int) : Bool := decide (gt (hs0 h) (c + 1) < gt (hs0 h) c)
def crc (h : List Int) : List Int := (rgs 0 h.length).filter fun c => pcr h c
def crm (h : List Int) : List Int := (crc h).map fun c => c - gt (hs0 h) c + 1
theorem crc_mem {h : List Int} {c : Int} (q : c ∈ crc h) : 0 ≤ c ∧ c < h.length := by
  have := rgs_mem (List.mem_filter.mp q).1
  omega
theorem sorted_one : ∀ {ns ys : List Int}, ns.Perm ys → ns.Pairwise (· ≤ ·) → ys.Pairwise (· ≤ ·) → ns = ys
  | [], ys, p, _, _ => (List.nil_perm.mp p).symm
  | x :: ns, [], p, _, _ => absurd p.length_eq (by simp)
  | x :: ns, y :: ys, p, h1, h2 => by
    have h1' := List.pairwise_cons.mp h1
    have h2' := List.pairwise_cons.mp h2
    have a : x ≤ y := by
      rcases List.mem_cons.mp (p.mem_iff.mpr (List.mem_cons_self (a := y) (l := ys))) with e | e
      · omega
      · exact h1'.1 y e
    have b : y ≤ x := by
      rcases List.mem_cons.mp (p.mem_iff.mp (List.mem_cons_self (a := x) (l := ns))) with e | e
      · omega
      · exact h2'.1 x e
    have e : x = y := by omega
    subst e
    rw [sorted_one ((List.perm_cons x).mp p) h1'.2 h2'.2]
def f_can_remove_in (ds : List D) (d : D) : Prop := ∃ h, ds = [it h] ∧ (Sml h ∧ h.length ≤ 60 ∧ (crm h).Pairwise (· ≤ ·)) ∧ d = il (crm h)
abbrev N_can_remove_in : List Str := ["heap", "heights", "columns", "column"]
theorem sc_can_remove_in : FnScope N_can_remove_in ["heap"] (defScope (top 70)) := ⟨rfl, rfl, rfl, by decide +kernel, rfl, by decide +kernel, by decide +kernel⟩
theorem fd_can_remove_in (W : Wd mg) (D0 : Df K mg "can_remove_in" (top 70))  : Fd P w K mg base C 3 "can_remove_in" f_can_remove_in := by
  refine Fd.mk (lv := 2) D0 sc_can_remove_in (fun _ _ _ _ _ _ us hl => match us, hl with | [_], _ => rfl) (by decide) (fun ds d hf => by obtain ⟨h, hds, _⟩ := hf; rw [hds]; rfl) fun fa cdv A outer s H E ds d hr hf => ?_
  obtain ⟨h, rfl, ⟨⟨k1, k2⟩, k3, k4⟩, rfl⟩ := hf
  have hl := hs0_len h
  refine ss_c (s1_set 1 (EE.is (d' := it (hs0 h)) (ee_tup (ea_star (ee_var 0) (ea_c ee_int ea_no)) (by simp; omega)) (hs0_it h)) may0 ?_ sc_can_remove_in.nd)
  refine ss_c (s1_setL 2 (ds := nts (crc h)) (EL.is (el_filt (own := [("column", 3)]) (rgs 0 h.length) (fun c => pcr h c) (D.int) (D.int) (ei_src (es_rng1 W.range (ee_lenI W.len (ee_var 0)) (by omega) (by omega) (by omega))) sc_can_remove_in.nd (blkOk_by (N := N_can_remove_in) (sc := defScope (top 70)) (by decide +kernel)) (by intro _ _ _ z; cases z) (by rw [rgs_len]; omega) (fun c hx => by
    have hm := rgs_mem hx
    exact  turn_t (fun _ _ _ _ _ => (eg_name 3 sc_can_remove_in.nd may0)) (fun _ _ _ _ _ => EB.is (eb_gt (ee_ixI (ee_var 1) (ee_var 3) (by first | assumption | omega | decide | (simp only [nts, List.length_map, List.length_set] <;> omega) | (have hh_ := of_decide_eq_false h_; omega) | (have hh_ := of_decide_eq_true h_; omega) | (simp; done) | (simp <;> omega)) (by first | assumption | omega | decide | (simp only [nts, List.length_map, List.length_set] <;> omega) | (have hh_ := of_decide_eq_false h_; omega) | (have hh_ := of_decide_eq_true h_; omega) | (simp; done) | (simp <;> omega))) (ee_ixI (ee_var 1) (ee_add (ee_var 3) ee_int) (by first | assumption | omega | decide | (simp only [nts, List.length_map, List.length_set] <;> omega) | (have hh_ := of_decide_eq_false h_; omega) | (have hh_ := of_decide_eq_true h_; omega) | (simp; done) | (simp <;> omega)) (by first | assumption | omega | decide | (simp only [nts, List.length_map, List.length_set] <;> omega) | (have hh_ := of_decide_eq_false h_; omega) | (have hh_ := of_decide_eq_true h_; omega) | (simp; done) | (simp <;> omega)))) rfl) .int (fun hb => fun _ _ _ _ _ => (ee_var 3)))) rfl) (fun d q => by obtain ⟨_, _, rfl⟩ := List.mem_map.mp q; exact .int) (by intro _ _ _ z; cases z) ?_)
  exact ss_1 (s1_ret (EN.ee (en_sorted (xs := crm h) W.sorted (EL.ee (EL.is (el_map (own := [("column", 3)]) (crc h) (D.int) (fun c => .int (c - gt (hs0 h) c + 1)) (ei_src (es_var 2)) sc_can_remove_in.nd (blkOk_by (N := N_can_remove_in) (sc := defScope (top 70)) (by decide +kernel)) (by intro _ _ _ z; cases z) (Nat.le_trans (List.length_filter_le _ _) (by rw [rgs_len]; omega)) (fun c hx => by
    have hm := crc_mem hx
    exact  turn_e (fun _ _ _ _ _ => (eg_name 3 sc_can_remove_in.nd may0)) .int (fun _ _ _ _ _ => (ee_add (ee_sub (ee_var 3) (ee_ixI (ee_var 1) (ee_var 3) (by first | assumption | omega | decide | (simp only [nts, List.length_map, List.length_set] <;> omega) | (have hh_ := of_decide_eq_false h_; omega) | (have hh_ := of_decide_eq_true h_; omega) | (simp; done) | (simp <;> omega)) (by first | assumption | omega | decide | (simp only [nts, List.length_map, List.length_set] <;> omega) | (have hh_ := of_decide_eq_false h_; omega) | (have hh_ := of_decide_eq_true h_; omega) | (simp; done) | (simp <;> omega)))) ee_int)))) (by unfold crm; rw [List.map_map]; rfl))) (by unfold crm; rw [List.length_map]; exact Nat.lt_of_le_of_lt (List.length_filter_le _ _) (by rw [rgs_len]; omega)) (fun ns a b => sorted_one a b k4))) rfl)
def risL (h cols : List Int) : List Int := (rgs 0 (h.length + 1)).map fun c => gt (hs0 h) c + bI (decide (c ∈ cols))
def ris (h cols : List Int) : List Int := (risL h cols).filter fun x => decide (0 < x)
def f_risen (ds : List D) (d : D) : Prop := ∃ h cols, ds = [it h, il cols] ∧ Sml h ∧ d = it (ris h cols)
abbrev N_risen : List Str := ["heap", "columns", "heights", "column", "height"]
theorem sc_risen : FnScope N_risen ["heap", "columns"] (defScope (top 71)) := ⟨rfl, rfl, rfl, by decide +kernel, rfl, by decide +kernel, by decide +kernel⟩
theorem fd_risen (W : Wd mg) (D0 : Df K mg "risen" (top 71))  : Fd P w K mg base C 3 "risen" f_risen := by
  refine Fd.mk (lv := 2) D0 sc_risen (fun _ _ _ _ _ _ us hl => match us, hl with | [_, _], _ => rfl) (by decide) (fun ds d hf => by obtain ⟨h, cols, hds, _⟩ := hf; rw [hds]; rfl) fun fa cdv A outer s H E ds d hr hf => ?_
  obtain ⟨h, cols, rfl, ⟨k1, k2⟩, rfl⟩ := hf
  have hl := hs0_len h
  refine ss_c (s1_setL 2 (ds := nts (risL h cols)) (EL.is (el_map (own := [("column", 3), ("height", 4)]) (rgs 0 (hs0 h).length) (fun i => .tup [.int i, .int (gt (hs0 h) i)]) (fun c => .int (gt (hs0 h) c + bI (decide (c ∈ cols)))) (enuI_eq (hs0 h) ▸ ei_enu W.enumerate (es_tup (EE.is (d' := it (hs0 h)) (ee_tup (ea_star (ee_var 0) (ea_c ee_int ea_no)) (by simp; omega)) (hs0_it h)) (.inl rfl))) sc_risen.nd (blkOk_by (N := N_risen) (sc := defScope (top 71)) (by decide +kernel)) (by intro _ _ _ z; cases z) (by rw [rgs_len]; omega) (fun c hx =>  turn_e (fun _ _ _ _ _ => (eg_tup (egs_c (eg_name 3 sc_risen.nd may0) (egs_c (eg_name 4 sc_risen.nd may0) egs_no)))) .int (fun _ _ _ _ _ => (ee_add (ee_var 4) (ee_intB W.int (ee_inL (ee_var 3) (ee_var 1))))))) (by unfold risL; rw [hl]; unfold nts; rw [List.map_map]; rfl)) (fun d q => by obtain ⟨_, _, rfl⟩ := List.mem_map.mp q; exact .int) (by intro _ _ _ z; cases z) ?_)
  exact ss_1 (s1_ret (ee_tuple W.tuple (EL.ee (el_filt (own := [("height", 4)]) (risL h cols) (fun x => decide (0 < x)) (D.int) (D.int) (ei_src (es_var 2)) sc_risen.nd (blkOk_by (N := N_risen) (sc := defScope (top 71)) (by decide +kernel)) (by intro _ _ _ z; cases z) (by unfold risL; rw [List.length_map, rgs_len]; omega) (fun x hx =>  turn_t (fun _ _ _ _ _ => (eg_name 4 sc_risen.nd may0)) (fun _ _ _ _ _ => EB.is (eb_gt (ee_var 4) ee_int) rfl) .int (fun hb => fun _ _ _ _ _ => (ee_var 4)))))) rfl)
def grC (h : List Int) (n s x : Int) : List Int := (ac h).filter fun c => decide (((c - gt (hs0 h) c) * s - x) % n = 0)
def grw (h : List Int) (n s x : Int) : List Int := ris h (grC h n s x)
theorem gt_bd {h : List Int} (k : Sml h) {c : Int} : 0 ≤ gt (hs0 h) c ∧ gt (hs0 h) c ≤ 1000 := by
  unfold gt
  rw [List.getD_eq_getElem?_getD]
  cases z : (hs0 h)[c.toNat]? with
  | none => exact ⟨by decide, by decide⟩
  | some v =>
    have hm := List.mem_of_getElem? z
    rcases List.mem_append.mp hm with q | q
    · exact k.2 v q
    · rw [List.mem_singleton.mp q]
      exact ⟨by decide, by decide⟩
def f_grown_in (ds : List D) (d : D) : Prop := ∃ h n s x, ds = [it h, .tup [.int n, .int s], .int x] ∧ (Sml h ∧ 2 ≤ n ∧ n ≤ 60 ∧ 0 ≤ s ∧ s ≤ 60) ∧ d = it (grw h n s x)
abbrev N_grown_in : List Str := ["heap", "ring", "place", "size", "step", "heights", "diagonals", "column", "diagonal"]
theorem sc_grown_in : FnScope N_grown_in ["heap", "ring", "place"] (defScope (top 72)) := ⟨rfl, rfl, rfl, by decide +kernel, rfl, by decide +kernel, by decide +kernel⟩
theorem fd_grown_in (W : Wd mg) (D0 : Df K mg "grown_in" (top 72)) (F_addable_columns : Fd P w K mg base C 3 "addable_columns" f_addable_columns) (F_risen : Fd P w K mg base C 3 "risen" f_risen) : Fd P w K mg base C 6 "grown_in" f_grown_in := by
  refine Fd.mk (lv := 5) D0 sc_grown_in (fun _ _ _ _ _ _ us hl => match us, hl with | [_, _, _], _ => rfl) (by decide) (fun ds d hf => by obtain ⟨h, n, s, x, hds, _⟩ := hf; rw [hds]; rfl) fun fa cdv A outer s H E ds d hr hf => ?_
  obtain ⟨h, n, s, x, rfl, ⟨k, n0, n1, s0, s1⟩, rfl⟩ := hf
  have hl := hs0_len h
  have k1 := k.1
  refine ss_c (s1_unp (vs := [3, 4]) (ee_var 1) (eg_tup (egs_c (eg_name 3 sc_grown_in.nd may0) (egs_c (eg_name 4 sc_grown_in.nd may0) egs_no))) ?_)
  refine ss_c (s1_set 5 (EE.is (d' := it (hs0 h)) (ee_tup (ea_star (ee_var 0) (ea_c ee_int ea_no)) (by simp; omega)) (hs0_it h)) may0 ?_ sc_grown_in.nd)
  refine ss_c (s1_setL 6 (el_map (own := [("column", 7)]) (ac h) (D.int) (fun c => .tup [.int c, .int (c - gt (hs0 h) c)]) (ei_src (es_lst (ee_call F_addable_columns (hr.mono (by decide)) (ea_c (ee_var 0) ea_no) ⟨_, rfl, k, rfl⟩))) sc_grown_in.nd (blkOk_by (N := N_grown_in) (sc := defScope (top 72)) (by decide +kernel)) (by intro _ _ _ z; cases z) (Nat.le_trans (ac_len h) (by omega)) (fun c hx => by
    have hm := ac_mem hx
    exact  turn_e (fun _ _ _ _ _ => (eg_name 7 sc_grown_in.nd may0)) (.tup fun d q => by rcases List.mem_cons.mp q with rfl | q; exact .int; rw [List.mem_singleton.mp q]; exact .int) (fun _ _ _ _ _ => (ee_tup (ea_c (ee_var 7) (ea_c (ee_sub (ee_var 7) (ee_ixI (ee_var 5) (ee_var 7) (by first | assumption | omega | decide | (simp only [nts, List.length_map, List.length_set] <;> omega) | (have hh_ := of_decide_eq_false h_; omega) | (have hh_ := of_decide_eq_true h_; omega) | (simp; done) | (simp <;> omega)) (by first | assumption | omega | decide | (simp only [nts, List.length_map, List.length_set] <;> omega) | (have hh_ := of_decide_eq_false h_; omega) | (have hh_ := of_decide_eq_true h_; omega) | (simp; done) | (simp <;> omega)))) ea_no)) (by first | assumption | omega | decide | (simp only [nts, List.length_map, List.length_set] <;> omega) | (have hh_ := of_decide_eq_false h_; omega) | (have hh_ := of_decide_eq_true h_; omega) | (simp; done) | (simp <;> omega)))))) (fun d q => by obtain ⟨_, _, rfl⟩ := List.mem_map.mp q; exact .tup fun d q => by rcases List.mem_cons.mp q with rfl | q; exact .int; rw [List.mem_singleton.mp q]; exact .int) (by intro _ _ _ z; cases z) ?_)
  exact ss_1 (s1_ret (ee_call F_risen (hr.mono (by decide)) (ea_c (ee_var 0) (ea_c (EL.ee (el_filt (own := [("column", 7), ("diagonal", 8)]) (ac h) (fun c => decide (((c - gt (hs0 h) c) * s - x) % n = 0)) (fun c => .tup [.int c, .int (c - gt (hs0 h) c)]) (D.int) (ei_src (es_var 6)) sc_grown_in.nd (blkOk_by (N := N_grown_in) (sc := defScope (top 72)) (by decide +kernel)) (by intro _ _ _ z; cases z) (Nat.le_trans (ac_len h) (by omega)) (fun c hx => by
    have hm := ac_mem hx
    have hb := gt_bd k (c := c)
    exact  turn_t (fun _ _ _ _ _ => (eg_tup (egs_c (eg_name 7 sc_grown_in.nd may0) (egs_c (eg_name 8 sc_grown_in.nd may0) egs_no)))) (fun _ _ _ _ _ => EB.is (eb_eqI (ee_mod (ee_sub (ee_mul (ee_var 8) (ee_var 4) (cmul_small (by omega) (by omega) (by omega) (by omega))) (ee_var 2)) (ee_var 3) (by omega)) ee_int) rfl) .int (fun hb => fun _ _ _ _ _ => (ee_var 7))))) ea_no)) ⟨h, grC h n s x, by unfold grC; rfl, k, rfl⟩) rfl)
end
end Dd
set_option maxHeartbeats 2000000
/-! The defs: heaps of chains, cores. Printed by gen/w7.py. -/
namespace Dd
open PySem PySem.Spec PyProof.Rows L2 Evl
section
variable {P : Program} {w : World} {K : PySem.W.Frag} {mg : Str → Option Value} {base : Heap} {C : Cs}

def hfold (L : List ((Int × Int) × Int)) : List Int := L.foldl (fun h p => grw h p.1.1 p.1.2 p.2) []
def hps (L : List ((Int × Int) × Int)) (n : Nat) : List (List Int) := (List.range (n + 1)).map fun j => hfold (L.take j)
theorem hps_snoc (L : List ((Int × Int) × Int)) (n : Nat) : (hps L (n + 1)).map it = (hps L n).map it ++ [it (hfold (L.take (n + 1)))] := by
  unfold hps
  rw [map_snoc, List.map_append]
  rfl
theorem hps_last (L : List ((Int × Int) × Int)) (n : Nat) : L2.atI ((hps L n).map it) (-1) = some (it (hfold (L.take n))) := by
  unfold hps
  rw [List.map_map]
  exact atI_last (it ∘ fun j => hfold (L.take j)) n
theorem hfold_step {L : List ((Int × Int) × Int)} {i : Nat} {p : (Int × Int) × Int} (h : L[i]? = some p) : hfold (L.take (i + 1)) = grw (hfold (L.take i)) p.1.1 p.1.2 p.2 := by
  rw [List.take_add_one, h]
  unfold hfold
  rw [List.foldl_append]
  rfl
theorem im_its {A : List (List Int)} : ∀ d, d ∈ A.map it → Im d := fun d h => by
  obtain ⟨x, _, rfl⟩ := List.mem_map.mp h
  exact im_it x
/-- what growth asks -/
def Gro (c : List (Int × Int)) (x : List Int) : Prop := x.length = c.length ∧ c.length ≤ 30 ∧ (∀ r, r ∈ c → 2 ≤ r.1 ∧ r.1 ≤ 60 ∧ 0 ≤ r.2 ∧ r.2 ≤ 60) ∧ ∀ j, Sml (hfold ((c.zip x).take j))
def f_heaps_in (ds : List D) (d : D) : Prop := ∃ c x, ds = [chD c, it x] ∧ Gro c x ∧ d = .tup ((hps (c.zip x) c.length).map it)
abbrev N_heaps_in : List Str := ["chain", "places", "found", "ring", "place"]
theorem sc_heaps_in : FnScope N_heaps_in ["chain", "places"] (defScope (top 73)) := ⟨rfl, rfl, rfl, by decide +kernel, rfl, by decide +kernel, by decide +kernel⟩
theorem fd_heaps_in (W : Wd mg) (D0 : Df K mg "heaps_in" (top 73)) (F_grown_in : Fd P w K mg base C 6 "grown_in" f_grown_in) : Fd P w K mg base C 9 "heaps_in" f_heaps_in := by
  refine Fd.mk (lv := 8) D0 sc_heaps_in (fun _ _ _ _ _ _ us hl => match us, hl with | [_, _], _ => rfl) (by decide) (fun ds d hf => by obtain ⟨c, x, hds, _⟩ := hf; rw [hds]; rfl) fun fa cdv A outer s H E ds d hr hf => ?_
  obtain ⟨c, x, rfl, ⟨h0, h1, h2, h3⟩, rfl⟩ := hf
  have hz : (c.zip x).length = c.length := by rw [List.length_zip]; omega
  refine ss_c (s1_new 2 (en_lst (ea_c (ee_tup ea_no (by decide)) ea_no) (by decide)) (fun d h => by rw [List.mem_singleton.mp h]; exact .tup (fun _ q => nomatch q)) (of_decide_eq_true rfl) (fun l => ?_) sc_heaps_in.nd)
  refine ss_c (s1_for (ds := (c.zip x).map fun p => .tup [rD p.1, .int p.2]) (fun i ρ mu => i ≤ c.length ∧ mu = some (l, 2, (hps (c.zip x) i).map it) ∧ ∃ o1 o2, ρ = [some (chD c), some (it x), none, o1, o2]) (zpp_map rD D.int c x ▸ ei_zip W.zip (es_tup (ee_var 0) (.inr (.tup fun d q => by obtain ⟨_, _, rfl⟩ := List.mem_map.mp q; exact im_it [_, _]))) (es_tup (ee_var 1) (.inr (im_it x)))) ⟨Nat.zero_le _, rfl, _, _, rfl⟩ [3, 4] ?_ ?_)
  · rintro i d ρ1 mu1 hd ⟨hi, rfl, o1, o2, rfl⟩
    rw [List.getElem?_map] at hd
    cases z : (c.zip x)[i]? with
    | none => rw [z] at hd; cases hd
    | some p =>
      rw [z] at hd
      cases hd
      have hlt := (List.getElem?_eq_some_iff.mp z).1
      obtain ⟨r1, r2, r3, r4⟩ := h2 p.1 (List.of_mem_zip (List.mem_of_getElem? z)).1
      refine ⟨_, eg_tup (egs_c (eg_name 3 sc_heaps_in.nd (mayI (im_it [_, _]) (by decide))) (egs_c (eg_name 4 sc_heaps_in.nd (mayI .int (by decide))) egs_no)), ?_⟩
      exact ss_1 (s1_append (ee_call F_grown_in (hr.mono (by decide)) (ea_c (ee_ixL ee_varM (ee_neg ee_int) (hps_last _ _)) (ea_c (ee_var 3) (ea_c (ee_var 4) ea_no))) ⟨_, _, _, _, rfl, ⟨h3 i, r1, r2, r3, r4⟩, rfl⟩) (im_it _) (by simp [hps]; omega) ⟨by omega, by rw [hps_snoc, hfold_step z], _, _, rfl⟩)
  · rintro ρ1 mu1 ⟨_, rfl, o1, o2, rfl⟩
    rw [List.length_map, hz]
    exact ss_1 (s1_ret (ee_tuple W.tuple ee_varM) rfl)
def f_heap_in (ds : List D) (d : D) : Prop := ∃ c x, ds = [chD c, it x] ∧ Gro c x ∧ d = it (hfold (c.zip x))
abbrev N_heap_in : List Str := ["chain", "places"]
theorem sc_heap_in : FnScope N_heap_in ["chain", "places"] (defScope (top 74)) := ⟨rfl, rfl, rfl, by decide +kernel, rfl, by decide +kernel, by decide +kernel⟩
theorem fd_heap_in (W : Wd mg) (D0 : Df K mg "heap_in" (top 74)) (F_heaps_in : Fd P w K mg base C 9 "heaps_in" f_heaps_in) : Fd P w K mg base C 12 "heap_in" f_heap_in := by
  refine Fd.mk (lv := 11) D0 sc_heap_in (fun _ _ _ _ _ _ us hl => match us, hl with | [_, _], _ => rfl) (by decide) (fun ds d hf => by obtain ⟨c, x, hds, _⟩ := hf; rw [hds]; rfl) fun fa cdv A outer s H E ds d hr hf => ?_
  obtain ⟨c, x, rfl, h, rfl⟩ := hf
  refine ss_1 (s1_ret (ee_ixT (ee_call F_heaps_in (hr.mono (by decide)) (ea_c (ee_var 0) (ea_c (ee_var 1) ea_no)) ⟨_, _, rfl, h, rfl⟩) (ee_neg ee_int) (hps_last _ _)) ?_)
  rw [List.take_of_length_le (by rw [List.length_zip, h.1]; omega)]
def f_heap_of (ds : List D) (d : D) : Prop := ∃ c x, ds = [chD c, it x] ∧ (Ch0 c ∧ Tp0 c x ∧ Gro c x) ∧ d = it (hfold (c.zip x))
abbrev N_heap_of : List Str := ["chain", "places"]
theorem sc_heap_of : FnScope N_heap_of ["chain", "places"] (defScope (top 78)) := ⟨rfl, rfl, rfl, by decide +kernel, rfl, by decide +kernel, by decide +kernel⟩
theorem fd_heap_of (W : Wd mg) (D0 : Df K mg "heap_of" (top 78)) (F_require_chain : Fd P w K mg base C 15 "require_chain" f_require_chain) (F_require_tuple : Fd P w K mg base C 12 "require_tuple" f_require_tuple) (F_heap_in : Fd P w K mg base C 12 "heap_in" f_heap_in) : Fd P w K mg base C 18 "heap_of" f_heap_of := by
  refine Fd.mk (lv := 17) D0 sc_heap_of (fun _ _ _ _ _ _ us hl => match us, hl with | [_, _], _ => rfl) (by decide) (fun ds d hf => by obtain ⟨c, x, hds, _⟩ := hf; rw [hds]; rfl) fun fa cdv A outer s H E ds d hr hf => ?_
  obtain ⟨c, x, rfl, ⟨h1, h2, h3⟩, rfl⟩ := hf
  refine ss_c (s1_expr (ee_call F_require_chain (hr.mono (by decide)) (ea_c (ee_var 0) ea_no) ⟨_, rfl, h1, rfl⟩) ?_)
  refine ss_c (s1_expr (ee_call F_require_tuple (hr.mono (by decide)) (ea_c (ee_var 0) (ea_c (ee_var 1) ea_no)) ⟨_, _, rfl, h2, rfl⟩) ?_)
  exact ss_1 (s1_ret (ee_call F_heap_in (hr.mono (by decide)) (ea_c (ee_var 0) (ea_c (ee_var 1) ea_no)) ⟨_, _, rfl, h3, rfl⟩) rfl)
def bds (h : List Int) : List Int := (rgs 0 h.length).map fun c => gt h c - c - 1
theorem bds_len (h : List Int) : (bds h).length = h.length := by simp [bds, rgs]
def f_bead_list (ds : List D) (d : D) : Prop := ∃ h, ds = [it h] ∧ h.length ≤ 100 ∧ d = il (bds h)
abbrev N_bead_list : List Str := ["heap", "column", "height"]
theorem sc_bead_list : FnScope N_bead_list ["heap"] (defScope (top 82)) := ⟨rfl, rfl, rfl, by decide +kernel, rfl, by decide +kernel, by decide +kernel⟩
theorem fd_bead_list (W : Wd mg) (D0 : Df K mg "bead_list" (top 82))  : Fd P w K mg base C 3 "bead_list" f_bead_list := by
  refine Fd.mk (lv := 2) D0 sc_bead_list (fun _ _ _ _ _ _ us hl => match us, hl with | [_], _ => rfl) (by decide) (fun ds d hf => by obtain ⟨h, hds, _⟩ := hf; rw [hds]; rfl) fun fa cdv A outer s H E ds d hr hf => ?_
  obtain ⟨h, rfl, k, rfl⟩ := hf
  exact ss_1 (s1_ret (EL.ee (EL.is (el_map (own := [("column", 1), ("height", 2)]) (rgs 0 h.length) (fun i => .tup [.int i, .int (gt h i)]) (fun c => .int (gt h c - c - 1)) (enuI_eq h ▸ ei_enu W.enumerate (es_tup (ee_var 0) (.inl rfl))) sc_bead_list.nd (blkOk_by (N := N_bead_list) (sc := defScope (top 82)) (by decide +kernel)) (by intro _ _ _ z; cases z) (by rw [rgs_len]; omega) (fun x hx =>  turn_e (fun _ _ _ _ _ => (eg_tup (egs_c (eg_name 1 sc_bead_list.nd may0) (egs_c (eg_name 2 sc_bead_list.nd may0) egs_no)))) .int (fun _ _ _ _ _ => (ee_sub (ee_sub (ee_var 2) (ee_var 1)) ee_int)))) (by unfold bds; first | (rw [List.map_map]; rfl) | (unfold nts; rw [List.map_map]; rfl)))) rfl)
def isc (k : Int) (h : List Int) : Bool := ((bds h).map fun b => decide (b - k < -(h.length : Int)) || decide (b - k ∈ bds h)).all id
def f_is_core_in (ds : List D) (d : D) : Prop := ∃ k h, ds = [.int k, it h] ∧ h.length ≤ 100 ∧ d = .bl (isc k h)
abbrev N_is_core_in : List Str := ["k", "heap", "beads", "below", "bead"]
theorem sc_is_core_in : FnScope N_is_core_in ["k", "heap"] (defScope (top 83)) := ⟨rfl, rfl, rfl, by decide +kernel, rfl, by decide +kernel, by decide +kernel⟩
theorem fd_is_core_in (W : Wd mg) (D0 : Df K mg "is_core_in" (top 83)) (F_bead_list : Fd P w K mg base C 3 "bead_list" f_bead_list) : Fd P w K mg base C 6 "is_core_in" f_is_core_in := by
  refine Fd.mk (lv := 5) D0 sc_is_core_in (fun _ _ _ _ _ _ us hl => match us, hl with | [_, _], _ => rfl) (by decide) (fun ds d hf => by obtain ⟨k, h, hds, _⟩ := hf; rw [hds]; rfl) fun fa cdv A outer s H E ds d hr hf => ?_
  obtain ⟨k, h, rfl, hl, rfl⟩ := hf
  refine ss_c (s1_cel 2 3 (ee_call F_bead_list (hr.mono (by decide)) (ea_c (ee_var 1) ea_no) ⟨_, rfl, hl, rfl⟩) (ee_neg (ee_lenI W.len (ee_var 1))) may0 may0 ?_ sc_is_core_in.nd)
  exact ss_1 (s1_ret (ee_allL (bs := (bds h).map fun b => decide (b - k < -(h.length : Int)) || decide (b - k ∈ bds h)) W.all (EL.ee (EL.is (el_map (own := [("bead", 4)]) (bds h) (D.int) (fun b => .bl (decide (b - k < -(h.length : Int)) || decide (b - k ∈ bds h))) (ei_src (es_var 2)) sc_is_core_in.nd (blkOk_by (N := N_is_core_in) (sc := defScope (top 83)) (by decide +kernel)) (by intro _ _ _ z; cases z) (by rw [bds_len]; omega) (fun b hx =>  turn_e (fun _ _ _ _ _ => (eg_name 4 sc_is_core_in.nd may0)) .bl (fun _ _ _ _ _ => (ee_or (ee_lt (ee_sub (ee_var 4) (ee_var 0)) (ee_var 3)) (fun h_ => (ee_one (ee_inL (ee_sub (ee_var 4) (ee_var 0)) (ee_var 2)))))))) (by rw [List.map_map]; rfl)))) rfl)
def cst1 (k : Int) (f : List Int) (b : Int) : List Int := if 0 ≤ b then f.set (b % k).toNat (gt f (b % k) + 1) else f
def cst2 (k : Int) (B : List Int) (f : List Int) (b : Int) : List Int := if b ∈ B then f else f.set (b % k).toNat (gt f (b % k) - 1)
def ch1 (k : Int) (h : List Int) : List Int := (bds h).foldl (cst1 k) (List.replicate k.toNat 0)
def chs (k : Int) (h : List Int) : List Int := (rgs (-(h.length : Int)) h.length).foldl (cst2 k (bds h)) (ch1 k h)
theorem cst1_len (k : Int) (f : List Int) (b : Int) : (cst1 k f b).length = f.length := by unfold cst1; split <;> simp
theorem cst2_len (k : Int) (B f : List Int) (b : Int) : (cst2 k B f b).length = f.length := by unfold cst2; split <;> simp
theorem fold_len {α : Type} (g : List Int → α → List Int) (hg : ∀ f b, (g f b).length = f.length) : ∀ (L : List α) (f : List Int), (L.foldl g f).length = f.length
  | [], f => rfl
  | b :: L, f => by rw [List.foldl_cons, fold_len g hg L, hg]
theorem fold_step {α β : Type} (g : β → α → β) (f : β) {L : List α} {i : Nat} {b : α} (h : L[i]? = some b) : (L.take (i + 1)).foldl g f = g ((L.take i).foldl g f) b := by
  rw [List.take_add_one, h, List.foldl_append]
  rfl
def f_charges_in (ds : List D) (d : D) : Prop := ∃ k h, ds = [.int k, it h] ∧ (h.length ≤ 100 ∧ 0 < k ∧ k ≤ 60) ∧ d = it (chs k h)
abbrev N_charges_in : List Str := ["k", "core", "beads", "found", "bead", "number"]
theorem sc_charges_in : FnScope N_charges_in ["k", "core"] (defScope (top 84)) := ⟨rfl, rfl, rfl, by decide +kernel, rfl, by decide +kernel, by decide +kernel⟩
theorem fd_charges_in (W : Wd mg) (D0 : Df K mg "charges_in" (top 84)) (F_bead_list : Fd P w K mg base C 3 "bead_list" f_bead_list) : Fd P w K mg base C 6 "charges_in" f_charges_in := by
  refine Fd.mk (lv := 5) D0 sc_charges_in (fun _ _ _ _ _ _ us hl => match us, hl with | [_, _], _ => rfl) (by decide) (fun ds d hf => by obtain ⟨k, h, hds, _⟩ := hf; rw [hds]; rfl) fun fa cdv A outer s H E ds d hr hf => ?_
  obtain ⟨k, h, rfl, ⟨hl, k0, k1⟩, rfl⟩ := hf
  refine ss_c (s1_parN 2 3 (ee_call F_bead_list (hr.mono (by decide)) (ea_c (ee_var 1) ea_no) ⟨_, rfl, hl, rfl⟩) (en_zeros (en_lst (ea_c ee_int ea_no) (by decide)) (ee_var 0) (by omega) (by omega)) (fun d q => by obtain ⟨_, _, rfl⟩ := List.mem_map.mp q; exact .int) (of_decide_eq_true rfl) (fun l => ?_) sc_charges_in.nd)
  have e0 : (List.replicate k.toNat (0 : Int)).length = k.toNat := List.length_replicate
  refine ss_c (s1_for (ds := nts (bds h)) (fun i ρ mu => mu = some (l, 3, nts (((bds h).take i).foldl (cst1 k) (List.replicate k.toNat 0))) ∧ ∃ o1 o2, ρ = [some (.int k), some (it h), some (il (bds h)), none, o1, o2]) (ei_src (es_var 2)) ⟨rfl, _, _, rfl⟩ [4] ?_ ?_)
  · rintro i d ρ1 mu1 hd ⟨rfl, o1, o2, rfl⟩
    unfold nts at hd
    rw [List.getElem?_map] at hd
    cases z : (bds h)[i]? with
    | none => rw [z] at hd; cases hd
    | some b =>
      rw [z] at hd
      cases hd
      have hm0 := Int.emod_nonneg b (by omega : k ≠ 0)
      have hm1 := Int.emod_lt_of_pos b k0
      have hf : (((bds h).take i).foldl (cst1 k) (List.replicate k.toNat 0)).length = k.toNat := by rw [fold_len _ (cst1_len k), e0]
      refine ⟨_, eg_name 4 sc_charges_in.nd (mayI .int (by decide)), ?_⟩
      refine ss_1 (s1_if (eb_ge (ee_var 4) ee_int) (fun t => ?_) (fun t => ?_))
      · refine ss_1 (s1_augItem (k := b % k) ip_add (ee_mod (ee_var 4) (ee_var 0) (by first | assumption | omega | decide | (simp only [nts, List.length_map, List.length_set] <;> omega) | (have hh_ := of_decide_eq_false h_; omega) | (have hh_ := of_decide_eq_true h_; omega) | (simp; done) | (simp <;> omega))) ee_int hm0 (by omega) ⟨?_, some (.int b), o2, rfl⟩)
        rw [fold_step _ _ z]
        unfold cst1
        rw [if_pos (of_decide_eq_true t)]
      · refine ss_nil ⟨?_, some (.int b), o2, rfl⟩
        rw [fold_step _ _ z]
        unfold cst1
        rw [if_neg (of_decide_eq_false t)]
  · rintro ρ1 mu1 ⟨rfl, o1, o2, rfl⟩
    rw [List.length_map, List.take_length]
    refine ss_c (s1_for (ds := nts (rgs (-(h.length : Int)) h.length)) (fun i ρ mu => mu = some (l, 3, nts (((rgs (-(h.length : Int)) h.length).take i).foldl (cst2 k (bds h)) (ch1 k h))) ∧ ∃ o1 o2, ρ = [some (.int k), some (it h), some (il (bds h)), none, o1, o2]) (ei_src (es_rng2 W.range (ee_neg (ee_lenI W.len (ee_var 1))) ee_int (by omega) (by omega) (by omega) (by omega))) ⟨rfl, _, _, rfl⟩ [5] ?_ ?_)
    · rintro i d ρ1 mu1 hd ⟨rfl, o1, o2, rfl⟩
      unfold nts at hd
      rw [List.getElem?_map] at hd
      cases z : (rgs (-(h.length : Int)) h.length)[i]? with
      | none => rw [z] at hd; cases hd
      | some b =>
        rw [z] at hd
        cases hd
        have hm0 := Int.emod_nonneg b (by omega : k ≠ 0)
        have hm1 := Int.emod_lt_of_pos b k0
        have hf : (((rgs (-(h.length : Int)) h.length).take i).foldl (cst2 k (bds h)) (ch1 k h)).length = k.toNat := by rw [fold_len _ (cst2_len k _)]; unfold ch1; rw [fold_len _ (cst1_len k), e0]
        refine ⟨_, eg_name 5 sc_charges_in.nd (mayI .int (by decide)), ?_⟩
        refine ss_1 (s1_if (eb_ninL (ee_var 5) (ee_var 2)) (fun t => ?_) (fun t => ?_))
        · refine ss_1 (s1_augItem (k := b % k) ip_sub (ee_mod (ee_var 5) (ee_var 0) (by first | assumption | omega | decide | (simp only [nts, List.length_map, List.length_set] <;> omega) | (have hh_ := of_decide_eq_false h_; omega) | (have hh_ := of_decide_eq_true h_; omega) | (simp; done) | (simp <;> omega))) ee_int hm0 (by omega) ⟨?_, o1, some (.int b), rfl⟩)
          rw [fold_step _ _ z]
          unfold cst2
          rw [if_neg (by simpa using t)]
        · refine ss_nil ⟨?_, o1, some (.int b), rfl⟩
          rw [fold_step _ _ z]
          unfold cst2
          rw [if_pos (by simpa using t)]
    · rintro ρ1 mu1 ⟨rfl, o1, o2, rfl⟩
      rw [List.length_map, List.take_length]
      exact ss_1 (s1_ret (ee_tuple W.tuple ee_varM) rfl)
theorem mx0_ge {h : List Int} {x : Int} (q : x ∈ h) : x ≤ mx0 h := by
  cases h with
  | nil => cases q
  | cons y ys =>
    obtain ⟨h1, h2, _⟩ := foldl_max ys y
    rcases List.mem_cons.mp q with rfl | q
    · exact h1
    · exact h2 x q
def hk (h : List Int) (c : Int) : List Int := (rgs 0 (gt h c).toNat).map fun r => gt h c - r + gt (flp h) r - c - 1
def bp1 (k : Int) (h : List Int) (c : Int) : Int := (((hk h c).filter fun x => decide (x < k)).length : Int)
def bpt (k : Int) (h : List Int) : List Int := (rgs 0 h.length).map fun c => bp1 k h c
theorem gt_mem {h : List Int} {c : Int} (h0 : 0 ≤ c) (h1 : c < h.length) : gt h c ∈ h := by
  unfold gt
  rw [List.getD_eq_getElem?_getD, List.getElem?_eq_getElem (by omega)]
  exact List.getElem_mem _
def f_bounded_parts_in (ds : List D) (d : D) : Prop := ∃ k h, ds = [.int k, it h] ∧ Sml h ∧ d = it (bpt k h)
abbrev N_bounded_parts_in : List Str := ["k", "core", "lengths", "found", "column", "height", "hooks", "row", "one"]
theorem sc_bounded_parts_in : FnScope N_bounded_parts_in ["k", "core"] (defScope (top 85)) := ⟨rfl, rfl, rfl, by decide +kernel, rfl, by decide +kernel, by decide +kernel⟩
theorem fd_bounded_parts_in (W : Wd mg) (D0 : Df K mg "bounded_parts_in" (top 85)) (F_flipped_in : Fd P w K mg base C 3 "flipped_in" f_flipped_in) : Fd P w K mg base C 6 "bounded_parts_in" f_bounded_parts_in := by
  refine Fd.mk (lv := 5) D0 sc_bounded_parts_in (fun _ _ _ _ _ _ us hl => match us, hl with | [_, _], _ => rfl) (by decide) (fun ds d hf => by obtain ⟨k, h, hds, _⟩ := hf; rw [hds]; rfl) fun fa cdv A outer s H E ds d hr hf => ?_
  obtain ⟨k, h, rfl, sm, rfl⟩ := hf
  have sm1 := sm.1
  refine ss_c (s1_celN 2 3 (ee_call F_flipped_in (hr.mono (by decide)) (ea_c (ee_var 1) ea_no) ⟨_, rfl, sm, rfl⟩) (en_lst ea_no (by decide)) (fun d q => nomatch q) (of_decide_eq_true rfl) (fun l => ?_) sc_bounded_parts_in.nd)
  refine ss_c (s1_for (ds := enu (nts h)) (fun i ρ mu => mu = some (l, 3, nts (((rgs 0 h.length).take i).map fun c => bp1 k h c)) ∧ ∃ o1 o2 o3 o4 o5, ρ = [some (.int k), some (it h), some (it (flp h)), none, o1, o2, o3, o4, o5]) (ei_enu W.enumerate (es_tup (ee_var 1) (.inr (im_it h)))) ⟨rfl, _, _, _, _, _, rfl⟩ [4, 5] ?_ ?_)
  · rintro i d ρ1 mu1 hd ⟨rfl, o1, o2, o3, o4, o5, rfl⟩
    obtain ⟨hi, rfl⟩ := enu_int hd
    have hgm := gt_mem (h := h) (c := (i : Int)) (by omega) (by omega)
    obtain ⟨g0, g1⟩ := sm.2 _ hgm
    have hmx := mx0_ge hgm
    have hfl : (flp h).length = (mx0 h).toNat := by simp [flp, rgs]
    have z : (rgs 0 h.length)[i]? = some (i : Int) := by unfold rgs; rw [List.getElem?_map, List.getElem?_range hi]; simp
    refine ⟨_, eg_tup (egs_c (eg_name 4 sc_bounded_parts_in.nd (mayI .int (by decide))) (egs_c (eg_name 5 sc_bounded_parts_in.nd (mayI .int (by decide))) egs_no)), ?_⟩
    refine ss_c (s1_setL 6 (ds := nts (hk h i)) (EL.is (el_map (own := [("row", 7)]) (rgs 0 (gt h i).toNat) (D.int) (fun r => .int (gt h i - r + gt (flp h) r - i - 1)) (ei_src (es_rng1 W.range (ee_var 5) (by omega) (by omega) (by omega))) sc_bounded_parts_in.nd (blkOk_by (N := N_bounded_parts_in) (sc := defScope (top 85)) (by decide +kernel)) (by intro _ _ _ z; cases z; decide) (by rw [rgs_len]; omega) (fun r hx => by
        have hm := rgs_mem hx
        exact  turn_e (fun _ _ _ _ _ => (eg_name 7 sc_bounded_parts_in.nd (mayI .int (by decide)))) .int (fun _ _ _ _ _ => (ee_sub (ee_sub (ee_add (ee_sub (ee_var 5) (ee_var 7)) (ee_ixI (ee_var 2) (ee_var 7) (by omega) (by rw [hfl]; omega))) (ee_var 4)) ee_int)))) (by unfold hk; first | (rw [List.map_map]; rfl) | (unfold nts; rw [List.map_map]; rfl))) (fun d q => by obtain ⟨_, _, rfl⟩ := List.mem_map.mp q; exact .int) (by intro _ _ _ z; cases z; decide) ?_)
    refine ss_1 (s1_append (EE.is (d' := .int (bp1 k h i)) (ee_lenL W.len (EL.ee (el_filt (own := [("one", 8)]) (hk h i) (fun x => decide (x < k)) (D.int) (D.int) (ei_src (es_var 6)) sc_bounded_parts_in.nd (blkOk_by (N := N_bounded_parts_in) (sc := defScope (top 85)) (by decide +kernel)) (by intro _ _ _ z; cases z; decide) (by unfold hk; rw [List.length_map, rgs_len]; omega) (fun x hx =>  turn_t (fun _ _ _ _ _ => (eg_name 8 sc_bounded_parts_in.nd (mayI .int (by decide)))) (fun _ _ _ _ _ => EB.is (eb_lt (ee_var 8) (ee_var 0)) rfl) .int (fun hb => fun _ _ _ _ _ => (ee_var 8)))))) (by rw [List.length_map]; rfl)) .int (by rw [List.length_map, List.length_map, List.length_take]; omega) ⟨?_, _, _, _, _, _, rfl⟩)
    rw [List.take_add_one, z, List.map_append]
    unfold nts
    rw [List.map_append]
    rfl
  · rintro ρ1 mu1 ⟨rfl, o1, o2, o3, o4, o5, rfl⟩
    rw [enu_len, List.length_map, List.take_of_length_le (by rw [rgs_len]; omega)]
    exact ss_1 (s1_ret (ee_tuple W.tuple ee_varM) rfl)
def lti (k : Int) (h : List Int) : Int := (bpt k h).sum
def f_letters_in (ds : List D) (d : D) : Prop := ∃ k h, ds = [.int k, it h] ∧ Sml h ∧ d = .int (lti k h)
abbrev N_letters_in : List Str := ["k", "core"]
theorem sc_letters_in : FnScope N_letters_in ["k", "core"] (defScope (top 86)) := ⟨rfl, rfl, rfl, by decide +kernel, rfl, by decide +kernel, by decide +kernel⟩
theorem fd_letters_in (W : Wd mg) (D0 : Df K mg "letters_in" (top 86)) (F_bounded_parts_in : Fd P w K mg base C 6 "bounded_parts_in" f_bounded_parts_in) : Fd P w K mg base C 9 "letters_in" f_letters_in := by
  refine Fd.mk (lv := 8) D0 sc_letters_in (fun _ _ _ _ _ _ us hl => match us, hl with | [_, _], _ => rfl) (by decide) (fun ds d hf => by obtain ⟨k, h, hds, _⟩ := hf; rw [hds]; rfl) fun fa cdv A outer s H E ds d hr hf => ?_
  obtain ⟨k, h, rfl, sm, rfl⟩ := hf
  exact ss_1 (s1_ret (ee_sumT W.sum (ee_call F_bounded_parts_in (hr.mono (by decide)) (ea_c (ee_var 0) (ea_c (ee_var 1) ea_no)) ⟨_, _, rfl, sm, rfl⟩)) rfl)
end
end Dd
set_option maxHeartbeats 2000000
/-! The defs: cores and words. Printed by gen/w8.py. -/
namespace Dd
open PySem PySem.Spec PyProof.Rows L2 Evl
section
variable {P : Program} {w : World} {K : PySem.W.Frag} {mg : Str → Option Value} {base : Heap} {C : Cs}

def Od (k : Int) : Prop := 2 ≤ k ∧ k ≤ 60
def f_require_order (ds : List D) (d : D) : Prop := ∃ k, ds = [.int k] ∧ Od k ∧ d = .non
abbrev N_require_order : List Str := ["k"]
theorem sc_require_order : FnScope N_require_order ["k"] (defScope (top 87)) := ⟨rfl, rfl, rfl, by decide +kernel, rfl, by decide +kernel, by decide +kernel⟩
theorem fd_require_order (W : Wd mg) (D0 : Df K mg "require_order" (top 87)) (F_is_within : Fd P w K mg base C 6 "is_within" f_is_within) : Fd P w K mg base C 9 "require_order" f_require_order := by
  refine Fd.mk (lv := 8) D0 sc_require_order (fun _ _ _ _ _ _ us hl => match us, hl with | [_], _ => rfl) (by decide) (fun ds d hf => by obtain ⟨k, hds, _⟩ := hf; rw [hds]; rfl) fun fa cdv A outer s H E ds d hr hf => ?_
  obtain ⟨k, rfl, ⟨h0, h1⟩, rfl⟩ := hf
  exact ss_1 (s1_if (t := false) (EB.is (eb_not (eb_val (ee_call F_is_within (hr.mono (by decide)) (ea_c (ee_var 0) (ea_c (ee_num W.LEAST_ORDER) (ea_c (ee_num W.MAX_ORDER) ea_no))) ⟨_, _, _, rfl, rfl⟩))) (by rw [decide_eq_true h0, decide_eq_true h1]; rfl)) (by intro h; cases h) (fun _ => ss_nil rfl))
/-- a core -/
def Co (k : Int) (h : List Int) : Prop := Od k ∧ Hp0 h ∧ isc k h = true
theorem Hp0.sml {h : List Int} (k : Hp0 h) : Sml h := ⟨Nat.le_trans k.len (by decide), fun x q => ⟨by have := (k.bd x q).1; omega, by have := (k.bd x q).2; omega⟩⟩
def f_require_core (ds : List D) (d : D) : Prop := ∃ k h, ds = [.int k, it h] ∧ Co k h ∧ d = .non
abbrev N_require_core : List Str := ["k", "core"]
theorem sc_require_core : FnScope N_require_core ["k", "core"] (defScope (top 88)) := ⟨rfl, rfl, rfl, by decide +kernel, rfl, by decide +kernel, by decide +kernel⟩
theorem fd_require_core (W : Wd mg) (D0 : Df K mg "require_core" (top 88)) (F_require_order : Fd P w K mg base C 9 "require_order" f_require_order) (F_is_heap_in : Fd P w K mg base C 9 "is_heap_in" f_is_heap_in) (F_is_core_in : Fd P w K mg base C 6 "is_core_in" f_is_core_in) : Fd P w K mg base C 12 "require_core" f_require_core := by
  refine Fd.mk (lv := 11) D0 sc_require_core (fun _ _ _ _ _ _ us hl => match us, hl with | [_, _], _ => rfl) (by decide) (fun ds d hf => by obtain ⟨k, h, hds, _⟩ := hf; rw [hds]; rfl) fun fa cdv A outer s H E ds d hr hf => ?_
  obtain ⟨k, h, rfl, ⟨h0, h1, h2⟩, rfl⟩ := hf
  refine ss_c (s1_expr (ee_call F_require_order (hr.mono (by decide)) (ea_c (ee_var 0) ea_no) ⟨_, rfl, h0, rfl⟩) ?_)
  exact ss_1 (s1_if (t := false) (EB.is (eb_w (ew_or (eb_not (eb_val (ee_call F_is_heap_in (hr.mono (by decide)) (ea_c (ee_var 1) ea_no) ⟨_, rfl, h1, rfl⟩))) (fun h_ => (ew_or1 (eb_not (eb_val (ee_call F_is_core_in (hr.mono (by decide)) (ea_c (ee_var 0) (ea_c (ee_var 1) ea_no)) ⟨_, _, rfl, h1.sml.1, rfl⟩))))))) (by rw [h2]; rfl)) (by intro h; cases h) (fun _ => ss_nil rfl))
def f_charges (ds : List D) (d : D) : Prop := ∃ k h, ds = [.int k, it h] ∧ Co k h ∧ d = it (chs k h)
abbrev N_charges : List Str := ["k", "core"]
theorem sc_charges : FnScope N_charges ["k", "core"] (defScope (top 89)) := ⟨rfl, rfl, rfl, by decide +kernel, rfl, by decide +kernel, by decide +kernel⟩
theorem fd_charges (W : Wd mg) (D0 : Df K mg "charges" (top 89)) (F_require_core : Fd P w K mg base C 12 "require_core" f_require_core) (F_charges_in : Fd P w K mg base C 6 "charges_in" f_charges_in) : Fd P w K mg base C 15 "charges" f_charges := by
  refine Fd.mk (lv := 14) D0 sc_charges (fun _ _ _ _ _ _ us hl => match us, hl with | [_, _], _ => rfl) (by decide) (fun ds d hf => by obtain ⟨k, h, hds, _⟩ := hf; rw [hds]; rfl) fun fa cdv A outer s H E ds d hr hf => ?_
  obtain ⟨k, h, rfl, hc, rfl⟩ := hf
  refine ss_c (s1_expr (ee_call F_require_core (hr.mono (by decide)) (ea_c (ee_var 0) (ea_c (ee_var 1) ea_no)) ⟨_, _, rfl, hc, rfl⟩) ?_)
  exact ss_1 (s1_ret (ee_call F_charges_in (hr.mono (by decide)) (ea_c (ee_var 0) (ea_c (ee_var 1) ea_no)) ⟨_, _, rfl, ⟨hc.2.1.sml.1, by have := hc.1.1; omega, hc.1.2⟩, rfl⟩) rfl)
def f_letters_of (ds : List D) (d : D) : Prop := ∃ k h, ds = [.int k, it h] ∧ Co k h ∧ d = .int (lti k h)
abbrev N_letters_of : List Str := ["k", "core"]
theorem sc_letters_of : FnScope N_letters_of ["k", "core"] (defScope (top 90)) := ⟨rfl, rfl, rfl, by decide +kernel, rfl, by decide +kernel, by decide +kernel⟩
theorem fd_letters_of (W : Wd mg) (D0 : Df K mg "letters_of" (top 90)) (F_require_core : Fd P w K mg base C 12 "require_core" f_require_core) (F_letters_in : Fd P w K mg base C 9 "letters_in" f_letters_in) : Fd P w K mg base C 15 "letters_of" f_letters_of := by
  refine Fd.mk (lv := 14) D0 sc_letters_of (fun _ _ _ _ _ _ us hl => match us, hl with | [_, _], _ => rfl) (by decide) (fun ds d hf => by obtain ⟨k, h, hds, _⟩ := hf; rw [hds]; rfl) fun fa cdv A outer s H E ds d hr hf => ?_
  obtain ⟨k, h, rfl, hc, rfl⟩ := hf
  refine ss_c (s1_expr (ee_call F_require_core (hr.mono (by decide)) (ea_c (ee_var 0) (ea_c (ee_var 1) ea_no)) ⟨_, _, rfl, hc, rfl⟩) ?_)
  exact ss_1 (s1_ret (ee_call F_letters_in (hr.mono (by decide)) (ea_c (ee_var 0) (ea_c (ee_var 1) ea_no)) ⟨_, _, rfl, hc.2.1.sml, rfl⟩) rfl)
def f_with_letter_in (ds : List D) (d : D) : Prop := ∃ k h l, ds = [.int k, it h, .int l] ∧ (Sml h ∧ Od k) ∧ d = it (grw h k 1 l)
abbrev N_with_letter_in : List Str := ["k", "core", "letter"]
theorem sc_with_letter_in : FnScope N_with_letter_in ["k", "core", "letter"] (defScope (top 94)) := ⟨rfl, rfl, rfl, by decide +kernel, rfl, by decide +kernel, by decide +kernel⟩
theorem fd_with_letter_in (W : Wd mg) (D0 : Df K mg "with_letter_in" (top 94)) (F_grown_in : Fd P w K mg base C 6 "grown_in" f_grown_in) : Fd P w K mg base C 9 "with_letter_in" f_with_letter_in := by
  refine Fd.mk (lv := 8) D0 sc_with_letter_in (fun _ _ _ _ _ _ us hl => match us, hl with | [_, _, _], _ => rfl) (by decide) (fun ds d hf => by obtain ⟨k, h, l, hds, _⟩ := hf; rw [hds]; rfl) fun fa cdv A outer s H E ds d hr hf => ?_
  obtain ⟨k, h, l, rfl, ⟨sm, h0, h1⟩, rfl⟩ := hf
  exact ss_1 (s1_ret (ee_call F_grown_in (hr.mono (by decide)) (ea_c (ee_var 1) (ea_c (ee_tup (ea_c (ee_var 0) (ea_c ee_int ea_no)) (by first | assumption | omega | decide | (simp only [nts, List.length_map, List.length_set] <;> omega) | (have hh_ := of_decide_eq_false h_; omega) | (have hh_ := of_decide_eq_true h_; omega) | (simp; done) | (simp <;> omega))) (ea_c (ee_var 2) ea_no))) ⟨_, _, _, _, rfl, ⟨sm, h0, h1, by decide, by decide⟩, rfl⟩) rfl)
def rm1 (k : Int) (h : List Int) (l c : Int) : Int := gt h c - bI (decide (gt (hs0 h) (c + 1) < gt h c) && decide ((c - gt h c + 1 - l) % k = 0))
def rm (k : Int) (h : List Int) (l : Int) : List Int := ((rgs 0 h.length).map fun c => rm1 k h l c).filter fun x => decide (0 < x)
def f_without_letter (ds : List D) (d : D) : Prop := ∃ k h l, ds = [.int k, it h, .int l] ∧ (Sml h ∧ Od k) ∧ d = it (rm k h l)
abbrev N_without_letter : List Str := ["k", "core", "letter", "heights", "found", "column", "height", "is_last"]
theorem sc_without_letter : FnScope N_without_letter ["k", "core", "letter"] (defScope (top 95)) := ⟨rfl, rfl, rfl, by decide +kernel, rfl, by decide +kernel, by decide +kernel⟩
theorem fd_without_letter (W : Wd mg) (D0 : Df K mg "without_letter" (top 95))  : Fd P w K mg base C 3 "without_letter" f_without_letter := by
  refine Fd.mk (lv := 2) D0 sc_without_letter (fun _ _ _ _ _ _ us hl => match us, hl with | [_, _, _], _ => rfl) (by decide) (fun ds d hf => by obtain ⟨k, h, l, hds, _⟩ := hf; rw [hds]; rfl) fun fa cdv A outer s H E ds d hr hf => ?_
  obtain ⟨k, h, l, rfl, ⟨sm, h0, h1⟩, rfl⟩ := hf
  have sm1 := sm.1
  have hl := hs0_len h
  refine ss_c (s1_set 3 (d := il (hs0 h)) (EE.is (ee_lst (ea_star (ee_var 1) (ea_c ee_int ea_no)) (by simp; omega)) (by unfold hs0 il; rw [List.map_append]; rfl)) may0 ?_ sc_without_letter.nd)
  refine ss_c (s1_new 4 (en_lst ea_no (by decide)) (fun d q => nomatch q) (of_decide_eq_true rfl) (fun l' => ?_) sc_without_letter.nd)
  refine ss_c (s1_for (ds := enu (nts h)) (fun i ρ mu => mu = some (l', 4, nts (((rgs 0 h.length).take i).map fun c => rm1 k h l c)) ∧ ∃ o1 o2 o3, ρ = [some (.int k), some (it h), some (.int l), some (il (hs0 h)), none, o1, o2, o3]) (ei_enu W.enumerate (es_tup (ee_var 1) (.inr (im_it h)))) ⟨rfl, _, _, _, rfl⟩ [5, 6] ?_ ?_)
  · rintro i d ρ1 mu1 hd ⟨rfl, o1, o2, o3, rfl⟩
    obtain ⟨hi, rfl⟩ := enu_int hd
    have z : (rgs 0 h.length)[i]? = some (i : Int) := by unfold rgs; rw [List.getElem?_map, List.getElem?_range hi]; simp
    refine ⟨_, eg_tup (egs_c (eg_name 5 sc_without_letter.nd (mayI .int (by decide))) (egs_c (eg_name 6 sc_without_letter.nd (mayI .int (by decide))) egs_no)), ?_⟩
    refine ss_c (s1_set 7 (ee_gt (ee_var 6) (ee_ixIL (ee_var 3) (ee_add (ee_var 5) ee_int) (by first | assumption | omega | decide | (simp only [nts, List.length_map, List.length_set] <;> omega) | (have hh_ := of_decide_eq_false h_; omega) | (have hh_ := of_decide_eq_true h_; omega) | (simp; done) | (simp <;> omega)) (by first | assumption | omega | decide | (simp only [nts, List.length_map, List.length_set] <;> omega) | (have hh_ := of_decide_eq_false h_; omega) | (have hh_ := of_decide_eq_true h_; omega) | (simp; done) | (simp <;> omega)))) (mayI .bl (by decide)) ?_ sc_without_letter.nd)
    refine ss_1 (s1_append (d := .int (rm1 k h l i)) (ee_sub (ee_var 6) (ee_intB W.int (ee_and (ee_var 7) (fun h_ => (ee_one (ee_eqI (ee_mod (ee_sub (ee_add (ee_sub (ee_var 5) (ee_var 6)) ee_int) (ee_var 2)) (ee_var 0) (by first | assumption | omega | decide | (simp only [nts, List.length_map, List.length_set] <;> omega) | (have hh_ := of_decide_eq_false h_; omega) | (have hh_ := of_decide_eq_true h_; omega) | (simp; done) | (simp <;> omega))) ee_int)))))) .int (by rw [List.length_map, List.length_map, List.length_take]; omega) ⟨?_, _, _, _, rfl⟩)
    rw [List.take_add_one, z, List.map_append]
    unfold nts
    rw [List.map_append]
    rfl
  · rintro ρ1 mu1 ⟨rfl, o1, o2, o3, rfl⟩
    rw [enu_len, List.length_map, List.take_of_length_le (by rw [rgs_len]; omega)]
    refine ss_frz (of_decide_eq_true rfl) ?_
    exact ss_1 (s1_ret (ee_tuple W.tuple (EL.ee (el_filt (own := [("height", 6)]) ((rgs 0 h.length).map fun c => rm1 k h l c) (fun x => decide (0 < x)) (D.int) (D.int) (ei_src (es_var 4)) sc_without_letter.nd (blkOk_by (N := N_without_letter) (sc := defScope (top 95)) (by decide +kernel)) (by intro _ _ _ z; cases z) (by rw [List.length_map, rgs_len]; omega) (fun x hx =>  turn_t (fun _ _ _ _ _ => (eg_name 6 sc_without_letter.nd may0)) (fun _ _ _ _ _ => EB.is (eb_gt (ee_var 6) ee_int) rfl) .int (fun hb => fun _ _ _ _ _ => (ee_var 6)))))) rfl)
def lks (k : Int) (h : List Int) : List (Int × V) := putAll ((crm h).map fun d => (d % k, V.bl true))
/-- the last letters, in order -/
def Lls (k : Int) (h ys : List Int) : Prop := ys.Perm ((lks k h).map (·.1)) ∧ ys.Pairwise (· ≤ ·)
/-- what can_remove_in asks -/
def Crm (h : List Int) : Prop := Sml h ∧ h.length ≤ 60 ∧ (crm h).Pairwise (· ≤ ·)
theorem crm_len (h : List Int) : (crm h).length ≤ h.length := by
  unfold crm
  rw [List.length_map]
  exact Nat.le_trans (List.length_filter_le _ _) (by rw [rgs_len]; exact Nat.le_refl _)
def f_letters_last (ds : List D) (d : D) : Prop := ∃ k h ys, ds = [.int k, it h] ∧ (Crm h ∧ Od k ∧ Lls k h ys) ∧ d = il ys
abbrev N_letters_last : List Str := ["k", "core", "diagonal"]
theorem sc_letters_last : FnScope N_letters_last ["k", "core"] (defScope (top 96)) := ⟨rfl, rfl, rfl, by decide +kernel, rfl, by decide +kernel, by decide +kernel⟩
theorem fd_letters_last (W : Wd mg) (D0 : Df K mg "letters_last" (top 96)) (F_can_remove_in : Fd P w K mg base C 3 "can_remove_in" f_can_remove_in) : Fd P w K mg base C 6 "letters_last" f_letters_last := by
  refine Fd.mk (lv := 5) D0 sc_letters_last (fun _ _ _ _ _ _ us hl => match us, hl with | [_, _], _ => rfl) (by decide) (fun ds d hf => by obtain ⟨k, h, ys, hds, _⟩ := hf; rw [hds]; rfl) fun fa cdv A outer s H E ds d hr hf => ?_
  obtain ⟨k, h, ys, rfl, ⟨cr, ⟨h0, h1⟩, h2, h3⟩, rfl⟩ := hf
  have cl := crm_len h
  have ch := cr.2.1
  refine ss_1 (s1_ret (EN.ee (en_sortD (kvs := lks k h) W.sorted (ed_comp (own := [("diagonal", 2)]) (crm h) D.int (fun d => d % k) (fun _ => .bl true) (fun _ => V.bl true) (ei_src (es_lst (ee_call F_can_remove_in (hr.mono (by decide)) (ea_c (ee_var 1) ea_no) ⟨_, rfl, cr, rfl⟩))) sc_letters_last.nd (blkOk_by (N := N_letters_last) (sc := defScope (top 96)) (by decide +kernel)) (by intro _ _ _ z; cases z) (by omega)
    (fun x hx => ⟨rfl, _, fun _ _ _ _ _ => eg_name 2 sc_letters_last.nd may0, fun _ _ _ _ _ => (ee_mod (ee_var 2) (ee_var 0) (by omega)), fun _ _ _ _ _ => ee_bl⟩)) ?_ (fun ns a b => sorted_one (a.trans h2.symm) b h3))) rfl)
  exact Nat.lt_of_le_of_lt (putAll_len _) (by rw [List.length_map]; omega)
def Wo (k : Int) (ls : List Int) : Prop := ls.length ≤ 30 ∧ ∀ p : Int, p ∈ ls → 0 ≤ p ∧ p ≤ k - 1
def f_is_core_word_in (ds : List D) (d : D) : Prop := ∃ k ls, ds = [.int k, it ls] ∧ Wo k ls ∧ d = .bl true
abbrev N_is_core_word_in : List Str := ["k", "value", "letter"]
theorem sc_is_core_word_in : FnScope N_is_core_word_in ["k", "value"] (defScope (top 97)) := ⟨rfl, rfl, rfl, by decide +kernel, rfl, by decide +kernel, by decide +kernel⟩
theorem fd_is_core_word_in (W : Wd mg) (D0 : Df K mg "is_core_word_in" (top 97)) (F_is_within : Fd P w K mg base C 6 "is_within" f_is_within) : Fd P w K mg base C 9 "is_core_word_in" f_is_core_word_in := by
  refine Fd.mk (lv := 8) D0 sc_is_core_word_in (fun _ _ _ _ _ _ us hl => match us, hl with | [_, _], _ => rfl) (by decide) (fun ds d hf => by obtain ⟨k, ls, hds, _⟩ := hf; rw [hds]; rfl) fun fa cdv A outer s H E ds d hr hf => ?_
  obtain ⟨k, ls, rfl, ⟨h1, hp⟩, rfl⟩ := hf
  refine ss_c (s1_if (t := false) (EB.is (eb_w (ew_or (eb_not (eb_val (ee_isTup W.isinstance W.tuple (ee_var 1)))) (fun h_ => (ew_or1 (eb_gt (ee_lenI W.len (ee_var 1)) (ee_num W.MAX_CORE_WORD)))))) ?_) (by intro h; cases h) (fun _ => ss_nil ?_))
  · rw [decide_eq_false (by omega)]; rfl
  refine ss_1 (s1_ret (ee_allL (bs := ls.map fun p => decide (0 ≤ p) && decide (p ≤ k - 1)) W.all (EL.ee (EL.is (el_map (own := [("letter", 2)]) ls (D.int) (fun p => .bl (decide (0 ≤ p) && decide (p ≤ k - 1))) (ei_src (es_tup (ee_var 1) (.inl rfl))) sc_is_core_word_in.nd (blkOk_by (N := N_is_core_word_in) (sc := defScope (top 97)) (by decide +kernel)) (by intro _ _ _ z; cases z) (by omega) (fun x hx =>  turn_e (fun _ _ _ _ _ => (eg_name 2 sc_is_core_word_in.nd may0)) .bl (fun _ _ _ _ _ => (ee_call F_is_within (hr.mono (by decide)) (ea_c (ee_var 2) (ea_c ee_int (ea_c (ee_sub (ee_var 0) ee_int) ea_no))) ⟨_, _, _, rfl, rfl⟩)))) (by rw [List.map_map]; rfl)))) ?_)
  show D.bl _ = D.bl _
  congr 1
  refine all_true fun p h => ?_
  obtain ⟨a, b⟩ := hp p h
  rw [decide_eq_true a, decide_eq_true b]
  rfl
def f_require_core_word (ds : List D) (d : D) : Prop := ∃ k ls, ds = [.int k, it ls] ∧ Wo k ls ∧ d = .non
abbrev N_require_core_word : List Str := ["k", "value"]
theorem sc_require_core_word : FnScope N_require_core_word ["k", "value"] (defScope (top 101)) := ⟨rfl, rfl, rfl, by decide +kernel, rfl, by decide +kernel, by decide +kernel⟩
theorem fd_require_core_word (W : Wd mg) (D0 : Df K mg "require_core_word" (top 101)) (F_is_core_word_in : Fd P w K mg base C 9 "is_core_word_in" f_is_core_word_in) : Fd P w K mg base C 12 "require_core_word" f_require_core_word := by
  refine Fd.mk (lv := 11) D0 sc_require_core_word (fun _ _ _ _ _ _ us hl => match us, hl with | [_, _], _ => rfl) (by decide) (fun ds d hf => by obtain ⟨k, ls, hds, _⟩ := hf; rw [hds]; rfl) fun fa cdv A outer s H E ds d hr hf => ?_
  obtain ⟨k, ls, rfl, h, rfl⟩ := hf
  exact ss_1 (s1_if (t := false) (EB.is (eb_not (eb_val (ee_call F_is_core_word_in (hr.mono (by decide)) (ea_c (ee_var 0) (ea_c (ee_var 1) ea_no)) ⟨_, _, rfl, h, rfl⟩))) rfl) (by intro h; cases h) (fun _ => ss_nil rfl))
def cfold (k : Int) (L : List Int) : List Int := L.foldl (fun h l => grw h k 1 l) []
def cws (k : Int) (L : List Int) (n : Nat) : List (List Int) := (List.range (n + 1)).map fun j => cfold k (L.take j)
theorem cws_snoc (k : Int) (L : List Int) (n : Nat) : (cws k L (n + 1)).map it = (cws k L n).map it ++ [it (cfold k (L.take (n + 1)))] := by
  unfold cws
  rw [map_snoc, List.map_append]
  rfl
theorem cws_last (k : Int) (L : List Int) (n : Nat) : L2.atI ((cws k L n).map it) (-1) = some (it (cfold k (L.take n))) := by
  unfold cws
  rw [List.map_map]
  exact atI_last (it ∘ fun j => cfold k (L.take j)) n
theorem cfold_step {k : Int} {L : List Int} {i : Nat} {p : Int} (h : L[i]? = some p) : cfold k (L.take (i + 1)) = grw (cfold k (L.take i)) k 1 p := by
  unfold cfold
  exact fold_step _ _ h
def Cw (k : Int) (L : List Int) : Prop := Od k ∧ L.length ≤ 30 ∧ ∀ j, Sml (cfold k (L.take j))
def f_cores_on_the_way (ds : List D) (d : D) : Prop := ∃ k L, ds = [.int k, it L] ∧ Cw k L ∧ d = .lst ((cws k L L.length).map it)
abbrev N_cores_on_the_way : List Str := ["k", "word", "found", "size", "letter", "later"]
theorem sc_cores_on_the_way : FnScope N_cores_on_the_way ["k", "word"] (defScope (top 98)) := ⟨rfl, rfl, rfl, by decide +kernel, rfl, by decide +kernel, by decide +kernel⟩
theorem fd_cores_on_the_way (W : Wd mg) (D0 : Df K mg "cores_on_the_way" (top 98)) (F_with_letter_in : Fd P w K mg base C 9 "with_letter_in" f_with_letter_in) : Fd P w K mg base C 12 "cores_on_the_way" f_cores_on_the_way := by
  refine Fd.mk (lv := 11) D0 sc_cores_on_the_way (fun _ _ _ _ _ _ us hl => match us, hl with | [_, _], _ => rfl) (by decide) (fun ds d hf => by obtain ⟨k, L, hds, _⟩ := hf; rw [hds]; rfl) fun fa cdv A outer s H E ds d hr hf => ?_
  obtain ⟨k, L, rfl, ⟨od, h1, h2⟩, rfl⟩ := hf
  refine ss_c (s1_parL 2 3 (en_lst (ea_c (ee_tup ea_no (by decide)) ea_no) (by decide)) ee_int (fun d h => by rw [List.mem_singleton.mp h]; exact .tup (fun _ q => nomatch q)) .int (of_decide_eq_true rfl) (fun l => ?_) sc_cores_on_the_way.nd)
  refine ss_c (s1_for (ds := nts L) (fun i ρ mu => i ≤ L.length ∧ mu = some (l, 2, (cws k L i).map it) ∧ ∃ z o1 o2, (0 ≤ z ∧ z ≤ (i : Int)) ∧ ρ = [some (.int k), some (it L), none, some (.int z), o1, o2]) (ei_src (es_tup (ee_var 1) (.inr (im_it L)))) ⟨Nat.zero_le _, rfl, 0, _, _, ⟨by decide, by decide⟩, rfl⟩ [4] ?_ ?_)
  · rintro i d ρ1 mu1 hd ⟨hi, rfl, z, o1, o2, ⟨z0, z1⟩, rfl⟩
    unfold nts at hd
    rw [List.getElem?_map] at hd
    cases q : L[i]? with
    | none => rw [q] at hd; cases hd
    | some p =>
      rw [q] at hd
      cases hd
      have hlt := (List.getElem?_eq_some_iff.mp q).1
      refine ⟨_, eg_name 4 sc_cores_on_the_way.nd (mayI .int (by decide)), ?_⟩
      refine ss_c (s1_set 5 (d := it (grw (cfold k (L.take i)) k 1 p)) (ee_call F_with_letter_in (hr.mono (by decide)) (ea_c (ee_var 0) (ea_c (ee_ixL ee_varM (ee_neg ee_int) (cws_last _ _ _)) (ea_c (ee_var 4) ea_no))) ⟨_, _, _, rfl, ⟨h2 i, od⟩, rfl⟩) (mayI (im_it _) (by decide)) ?_ sc_cores_on_the_way.nd)
      refine ss_c (s1_inc 3 rfl (ee_intB W.int (ee_neI2 hr.units (ee_var 5) (ee_ixL ee_varM (ee_neg ee_int) (cws_last _ _ _)))) (by intro _ _ _ z; cases z; decide) ?_ sc_cores_on_the_way.nd)
      have hb : ∀ b : Bool, 0 ≤ (if b = true then (1 : Int) else 0) ∧ (if b = true then (1 : Int) else 0) ≤ 1 := fun b => by cases b <;> decide
      obtain ⟨b0, b1⟩ := hb (!decide (grw (cfold k (L.take i)) k 1 p = cfold k (L.take i)))
      refine ss_c (s1_if (t := false) (EB.is (eb_gt (ee_var 3) (ee_num W.MOST_GROWN)) (decide_eq_false (by omega))) (by intro h; cases h) (fun _ => ss_nil ?_))
      exact ss_1 (s1_append (ee_var 5) (im_it _) (by simp [cws]; omega) ⟨hlt, by rw [cws_snoc, cfold_step q], _, _, _, ⟨by omega, by push_cast; omega⟩, rfl⟩)
  · rintro ρ1 mu1 ⟨_, rfl, z, o1, o2, _, rfl⟩
    rw [List.length_map]
    exact ss_1 (s1_ret ee_varM rfl)
/-- letters taken away one by one, the least first -/
inductive Gw (k : Int) : List Int → List Int → Prop where
  | nil : Gw k [] []
  | cons {h ls ys : List Int} {l : Int} : h ≠ [] → Crm h → Lls k h (l :: ys) → Gw k (rm k h l) ls → Gw k h (l :: ls)
def f_growing_word_in (ds : List D) (d : D) : Prop := ∃ k h ls, ds = [.int k, it h] ∧ (Od k ∧ Gw k h ls ∧ ls.length ≤ 900) ∧ d = it ls.reverse
abbrev N_growing_word_in : List Str := ["k", "core", "found", "letter"]
theorem sc_growing_word_in : FnScope N_growing_word_in ["k", "core"] (defScope (top 100)) := ⟨rfl, rfl, rfl, by decide +kernel, rfl, by decide +kernel, by decide +kernel⟩
theorem fd_growing_word_in (W : Wd mg) (D0 : Df K mg "growing_word_in" (top 100)) (F_letters_last : Fd P w K mg base C 6 "letters_last" f_letters_last) (F_without_letter : Fd P w K mg base C 3 "without_letter" f_without_letter) : Fd P w K mg base C 9 "growing_word_in" f_growing_word_in := by
  refine Fd.mk (lv := 8) D0 sc_growing_word_in (fun _ _ _ _ _ _ us hl => match us, hl with | [_, _], _ => rfl) (by decide) (fun ds d hf => by obtain ⟨k, h, ls, hds, _⟩ := hf; rw [hds]; rfl) fun fa cdv A outer s H E ds d hr hf => ?_
  obtain ⟨k, h, ls, rfl, ⟨od, hw, hz⟩, rfl⟩ := hf
  refine ss_c (s1_new 2 (en_lst ea_no (by decide)) (fun d h => by cases h) (of_decide_eq_true rfl) (fun l => ?_) sc_growing_word_in.nd)
  refine ss_c (s1_while (fun m ρ mu => ∃ v done rest o, Gw k v rest ∧ m = rest.length ∧ done ++ rest = ls ∧ ρ = [some (.int k), some (it v), none, o] ∧ mu = some (l, 2, nts done)) ls.length ⟨h, [], ls, _, hw, rfl, rfl, rfl, rfl⟩ ?_)
  rintro m ρ1 mu1 ⟨v, done, rest, o, hv, rfl, hd, rfl, rfl⟩
  cases hv with
  | nil =>
    refine ⟨false, EB.is (eb_neI2 hr.units (ee_var 1) (EE.is (d' := it []) (ee_tup ea_no (by decide)) rfl)) rfl, (by intro t; cases t), fun _ => ?_⟩
    rw [List.append_nil] at hd
    subst hd
    refine ss_1 (s1_ret (EE.is (ee_tuple W.tuple (EN.ee (en_rev ee_varM))) ?_) rfl)
    unfold nts
    rw [← List.map_reverse]
  | @cons _ ls' ys p hne hcr hll hv' =>
    refine ⟨true, EB.is (eb_neI2 hr.units (ee_var 1) (EE.is (d' := it []) (ee_tup ea_no (by decide)) rfl)) (by rw [decide_eq_false hne]; rfl), fun _ => ?_, (by intro t; cases t)⟩
    have hdl : done.length + (ls'.length + 1) = ls.length := by rw [← hd, List.length_append, List.length_cons]
    refine ss_c (s1_set 3 (d := .int p) (EE.is (ee_ixIL (ee_call F_letters_last (hr.mono (by decide)) (ea_c (ee_var 0) (ea_c (ee_var 1) ea_no)) ⟨_, _, (p :: ys), rfl, ⟨hcr, od, hll⟩, rfl⟩) ee_int (by decide) (by first | assumption | omega | decide | (simp only [nts, List.length_map, List.length_set] <;> omega) | (have hh_ := of_decide_eq_false h_; omega) | (have hh_ := of_decide_eq_true h_; omega) | (simp; done) | (simp <;> omega))) rfl) (mayI .int (by decide)) ?_ sc_growing_word_in.nd)
    refine ss_c (s1_append (ee_var 3) .int (by rw [List.length_map]; omega) ?_)
    refine ss_1 (s1_set 1 (d := it (rm k v p)) (ee_call F_without_letter (hr.mono (by decide)) (ea_c (ee_var 0) (ea_c (ee_var 1) (ea_c (ee_var 3) ea_no))) ⟨_, _, _, rfl, ⟨hcr.1, od⟩, rfl⟩) (mayI (im_it _) (by decide)) ⟨ls'.length, by simp, _, done ++ [p], ls', _, hv', rfl, by rw [← hd, List.append_assoc]; rfl, rfl, by unfold nts; rw [List.map_append]; rfl⟩ sc_growing_word_in.nd)
def f_require_letters_to (ds : List D) (d : D) : Prop := ∃ k h m, ds = [.int k, it h, .int m] ∧ (Sml h ∧ lti k h ≤ m) ∧ d = .non
abbrev N_require_letters_to : List Str := ["k", "core", "most"]
theorem sc_require_letters_to : FnScope N_require_letters_to ["k", "core", "most"] (defScope (top 102)) := ⟨rfl, rfl, rfl, by decide +kernel, rfl, by decide +kernel, by decide +kernel⟩
theorem fd_require_letters_to (W : Wd mg) (D0 : Df K mg "require_letters_to" (top 102)) (F_letters_in : Fd P w K mg base C 9 "letters_in" f_letters_in) : Fd P w K mg base C 12 "require_letters_to" f_require_letters_to := by
  refine Fd.mk (lv := 11) D0 sc_require_letters_to (fun _ _ _ _ _ _ us hl => match us, hl with | [_, _, _], _ => rfl) (by decide) (fun ds d hf => by obtain ⟨k, h, m, hds, _⟩ := hf; rw [hds]; rfl) fun fa cdv A outer s H E ds d hr hf => ?_
  obtain ⟨k, h, m, rfl, ⟨sm, hm⟩, rfl⟩ := hf
  exact ss_1 (s1_if (t := false) (EB.is (eb_gt (ee_call F_letters_in (hr.mono (by decide)) (ea_c (ee_var 0) (ea_c (ee_var 1) ea_no)) ⟨_, _, rfl, sm, rfl⟩) (ee_var 2)) (decide_eq_false (by omega))) (by intro h; cases h) (fun _ => ss_nil rfl))
def f_require_way (ds : List D) (d : D) : Prop := ∃ k L, ds = [.int k, it L] ∧ Cw k L ∧ d = .lst ((cws k L L.length).map it)
abbrev N_require_way : List Str := ["k", "word", "found"]
theorem sc_require_way : FnScope N_require_way ["k", "word"] (defScope (top 103)) := ⟨rfl, rfl, rfl, by decide +kernel, rfl, by decide +kernel, by decide +kernel⟩
theorem fd_require_way (W : Wd mg) (D0 : Df K mg "require_way" (top 103)) (F_cores_on_the_way : Fd P w K mg base C 12 "cores_on_the_way" f_cores_on_the_way) : Fd P w K mg base C 15 "require_way" f_require_way := by
  refine Fd.mk (lv := 14) D0 sc_require_way (fun _ _ _ _ _ _ us hl => match us, hl with | [_, _], _ => rfl) (by decide) (fun ds d hf => by obtain ⟨k, L, hds, _⟩ := hf; rw [hds]; rfl) fun fa cdv A outer s H E ds d hr hf => ?_
  obtain ⟨k, L, rfl, h, rfl⟩ := hf
  refine ss_c (s1_set 2 (ee_call F_cores_on_the_way (hr.mono (by decide)) (ea_c (ee_var 0) (ea_c (ee_var 1) ea_no)) ⟨_, _, rfl, h, rfl⟩) may0 ?_ sc_require_way.nd)
  refine ss_c (s1_if (t := false) (EB.is (eb_isN (ee_var 2)) rfl) (by intro h; cases h) (fun _ => ss_nil ?_))
  exact ss_1 (s1_ret (ee_var 2) rfl)
def f_require_grown_core (ds : List D) (d : D) : Prop := ∃ k h, ds = [.int k, it h] ∧ (Co k h ∧ lti k h ≤ 30) ∧ d = .non
abbrev N_require_grown_core : List Str := ["k", "core"]
theorem sc_require_grown_core : FnScope N_require_grown_core ["k", "core"] (defScope (top 104)) := ⟨rfl, rfl, rfl, by decide +kernel, rfl, by decide +kernel, by decide +kernel⟩
theorem fd_require_grown_core (W : Wd mg) (D0 : Df K mg "require_grown_core" (top 104)) (F_require_order : Fd P w K mg base C 9 "require_order" f_require_order) (F_require_core : Fd P w K mg base C 12 "require_core" f_require_core) (F_require_letters_to : Fd P w K mg base C 12 "require_letters_to" f_require_letters_to) : Fd P w K mg base C 15 "require_grown_core" f_require_grown_core := by
  refine Fd.mk (lv := 14) D0 sc_require_grown_core (fun _ _ _ _ _ _ us hl => match us, hl with | [_, _], _ => rfl) (by decide) (fun ds d hf => by obtain ⟨k, h, hds, _⟩ := hf; rw [hds]; rfl) fun fa cdv A outer s H E ds d hr hf => ?_
  obtain ⟨k, h, rfl, ⟨hc, hm⟩, rfl⟩ := hf
  refine ss_c (s1_expr (ee_call F_require_order (hr.mono (by decide)) (ea_c (ee_var 0) ea_no) ⟨_, rfl, hc.1, rfl⟩) ?_)
  refine ss_c (s1_expr (ee_call F_require_core (hr.mono (by decide)) (ea_c (ee_var 0) (ea_c (ee_var 1) ea_no)) ⟨_, _, rfl, hc, rfl⟩) ?_)
  exact ss_1 (s1_expr (ee_call F_require_letters_to (hr.mono (by decide)) (ea_c (ee_var 0) (ea_c (ee_var 1) (ea_c (ee_num W.MOST_GROWN) ea_no))) ⟨_, _, _, rfl, ⟨hc.2.1.sml, hm⟩, rfl⟩) rfl)
def f_made_by (ds : List D) (d : D) : Prop := ∃ k L, ds = [.int k, it L] ∧ (Wo k L ∧ Cw k L) ∧ d = it (cfold k L)
abbrev N_made_by : List Str := ["k", "word"]
theorem sc_made_by : FnScope N_made_by ["k", "word"] (defScope (top 105)) := ⟨rfl, rfl, rfl, by decide +kernel, rfl, by decide +kernel, by decide +kernel⟩
theorem fd_made_by (W : Wd mg) (D0 : Df K mg "made_by" (top 105)) (F_require_order : Fd P w K mg base C 9 "require_order" f_require_order) (F_require_core_word : Fd P w K mg base C 12 "require_core_word" f_require_core_word) (F_require_way : Fd P w K mg base C 15 "require_way" f_require_way) : Fd P w K mg base C 18 "made_by" f_made_by := by
  refine Fd.mk (lv := 17) D0 sc_made_by (fun _ _ _ _ _ _ us hl => match us, hl with | [_, _], _ => rfl) (by decide) (fun ds d hf => by obtain ⟨k, L, hds, _⟩ := hf; rw [hds]; rfl) fun fa cdv A outer s H E ds d hr hf => ?_
  obtain ⟨k, L, rfl, ⟨hw, hc⟩, rfl⟩ := hf
  refine ss_c (s1_expr (ee_call F_require_order (hr.mono (by decide)) (ea_c (ee_var 0) ea_no) ⟨_, rfl, hc.1, rfl⟩) ?_)
  refine ss_c (s1_expr (ee_call F_require_core_word (hr.mono (by decide)) (ea_c (ee_var 0) (ea_c (ee_var 1) ea_no)) ⟨_, _, rfl, hw, rfl⟩) ?_)
  refine ss_1 (s1_ret (ee_ixL (ee_call F_require_way (hr.mono (by decide)) (ea_c (ee_var 0) (ea_c (ee_var 1) ea_no)) ⟨_, _, rfl, hc, rfl⟩) (ee_neg ee_int) (cws_last _ _ _)) ?_)
  rw [List.take_length]
/-- the places of idle letters -/
def idl (A : List (List Int)) : List Int := (rgs 0 (A.length - 1)).filter fun i => decide (A.getD i.toNat [] = A.getD (i.toNat + 1) [])
def f_idle_in (ds : List D) (d : D) : Prop := ∃ A : List (List Int), ds = [.lst (A.map it)] ∧ A.length ≤ 100 ∧ d = it (idl A)
def f_idle_letters (ds : List D) (d : D) : Prop := ∃ k L, ds = [.int k, it L] ∧ (Wo k L ∧ Cw k L) ∧ d = it (idl (cws k L L.length))
abbrev N_idle_letters : List Str := ["k", "word"]
theorem sc_idle_letters : FnScope N_idle_letters ["k", "word"] (defScope (top 106)) := ⟨rfl, rfl, rfl, by decide +kernel, rfl, by decide +kernel, by decide +kernel⟩
theorem fd_idle_letters (W : Wd mg) (D0 : Df K mg "idle_letters" (top 106)) (F_require_order : Fd P w K mg base C 9 "require_order" f_require_order) (F_require_core_word : Fd P w K mg base C 12 "require_core_word" f_require_core_word) (F_require_way : Fd P w K mg base C 15 "require_way" f_require_way) (F_idle_in : Fd P w K mg base C 6 "idle_in" f_idle_in) : Fd P w K mg base C 18 "idle_letters" f_idle_letters := by
  refine Fd.mk (lv := 17) D0 sc_idle_letters (fun _ _ _ _ _ _ us hl => match us, hl with | [_, _], _ => rfl) (by decide) (fun ds d hf => by obtain ⟨k, L, hds, _⟩ := hf; rw [hds]; rfl) fun fa cdv A outer s H E ds d hr hf => ?_
  obtain ⟨k, L, rfl, ⟨hw, hc⟩, rfl⟩ := hf
  refine ss_c (s1_expr (ee_call F_require_order (hr.mono (by decide)) (ea_c (ee_var 0) ea_no) ⟨_, rfl, hc.1, rfl⟩) ?_)
  refine ss_c (s1_expr (ee_call F_require_core_word (hr.mono (by decide)) (ea_c (ee_var 0) (ea_c (ee_var 1) ea_no)) ⟨_, _, rfl, hw, rfl⟩) ?_)
  exact ss_1 (s1_ret (ee_call F_idle_in (hr.mono (by decide)) (ea_c (ee_call F_require_way (hr.mono (by decide)) (ea_c (ee_var 0) (ea_c (ee_var 1) ea_no)) ⟨_, _, rfl, hc, rfl⟩) ea_no) ⟨_, rfl, by have := hc.2.1; simp [cws]; omega, rfl⟩) rfl)
def f_growing_word (ds : List D) (d : D) : Prop := ∃ k h ls, ds = [.int k, it h] ∧ ((Co k h ∧ lti k h ≤ 30) ∧ Gw k h ls ∧ ls.length ≤ 900) ∧ d = it ls.reverse
abbrev N_growing_word : List Str := ["k", "core"]
theorem sc_growing_word : FnScope N_growing_word ["k", "core"] (defScope (top 107)) := ⟨rfl, rfl, rfl, by decide +kernel, rfl, by decide +kernel, by decide +kernel⟩
theorem fd_growing_word (W : Wd mg) (D0 : Df K mg "growing_word" (top 107)) (F_require_grown_core : Fd P w K mg base C 15 "require_grown_core" f_require_grown_core) (F_growing_word_in : Fd P w K mg base C 9 "growing_word_in" f_growing_word_in) : Fd P w K mg base C 18 "growing_word" f_growing_word := by
  refine Fd.mk (lv := 17) D0 sc_growing_word (fun _ _ _ _ _ _ us hl => match us, hl with | [_, _], _ => rfl) (by decide) (fun ds d hf => by obtain ⟨k, h, ls, hds, _⟩ := hf; rw [hds]; rfl) fun fa cdv A outer s H E ds d hr hf => ?_
  obtain ⟨k, h, ls, rfl, ⟨hc, hw, hz⟩, rfl⟩ := hf
  refine ss_c (s1_expr (ee_call F_require_grown_core (hr.mono (by decide)) (ea_c (ee_var 0) (ea_c (ee_var 1) ea_no)) ⟨_, _, rfl, hc, rfl⟩) ?_)
  exact ss_1 (s1_ret (ee_call F_growing_word_in (hr.mono (by decide)) (ea_c (ee_var 0) (ea_c (ee_var 1) ea_no)) ⟨_, _, _, rfl, ⟨hc.1.1, hw, hz⟩, rfl⟩) rfl)
end
end Dd
set_option maxHeartbeats 2000000
/-! The defs: ends of chains; the law's small helps. Printed by gen/w9.py. -/
namespace Dd
open PySem PySem.Spec PyProof.Rows L2 Evl
section
variable {P : Program} {w : World} {K : PySem.W.Frag} {mg : Str → Option Value} {base : Heap} {C : Cs}

def rlo (r : Int × Int) : Int := r.1 / ((Nat.gcd r.1.natAbs r.2.natAbs : Nat) : Int)
def rl1 (r : Int × Int) (x : Int) : Option Int := (rgs 0 (rlo r).toNat).find? fun i => decide ((i * r.2 + x) % r.1 = 0)
def rl (r : Int × Int) (x : Int) : Option (Int × Int) := (rl1 r x).map fun i => (rlo r, i)
theorem oD2_im (o : Option (Int × Int)) : Im (oD2 o) := by
  cases o with
  | none => exact .non
  | some p => exact im_it [p.1, p.2]
def f_ring_letter (ds : List D) (d : D) : Prop := ∃ r x, ds = [rD r, .int x] ∧ (Rg0 r ∧ 0 ≤ x ∧ x ≤ 60) ∧ d = oD2 (rl r x)
def ltd (c : List (Int × Int)) (x : List Int) : List (Option (Int × Int)) := (c.zip x).map fun p => rl p.1 p.2
def Lt0 (c : List (Int × Int)) (x : List Int) : Prop := c.length ≤ 60 ∧ ∀ p, p ∈ c.zip x → Rg0 p.1 ∧ 0 ≤ p.2 ∧ p.2 ≤ 60
def f_letters_told (ds : List D) (d : D) : Prop := ∃ c x, ds = [chD c, it x] ∧ Lt0 c x ∧ d = .tup ((ltd c x).map oD2)
abbrev N_letters_told : List Str := ["chain", "places", "ring", "place"]
theorem sc_letters_told : FnScope N_letters_told ["chain", "places"] (defScope (top 112)) := ⟨rfl, rfl, rfl, by decide +kernel, rfl, by decide +kernel, by decide +kernel⟩
theorem fd_letters_told (W : Wd mg) (D0 : Df K mg "letters_told" (top 112)) (F_ring_letter : Fd P w K mg base C 6 "ring_letter" f_ring_letter) : Fd P w K mg base C 9 "letters_told" f_letters_told := by
  refine Fd.mk (lv := 8) D0 sc_letters_told (fun _ _ _ _ _ _ us hl => match us, hl with | [_, _], _ => rfl) (by decide) (fun ds d hf => by obtain ⟨c, x, hds, _⟩ := hf; rw [hds]; rfl) fun fa cdv A outer s H E ds d hr hf => ?_
  obtain ⟨c, x, rfl, ⟨h0, h1⟩, rfl⟩ := hf
  exact ss_1 (s1_ret (ee_tuple W.tuple (EL.ee (EL.is (el_map (own := [("ring", 2), ("place", 3)]) (c.zip x) (fun p => .tup [rD p.1, .int p.2]) (fun p => oD2 (rl p.1 p.2)) (zpp_map rD D.int c x ▸ ei_zip W.zip (es_tup (ee_var 0) (.inl rfl)) (es_tup (ee_var 1) (.inl rfl))) sc_letters_told.nd (blkOk_by (N := N_letters_told) (sc := defScope (top 112)) (by decide +kernel)) (by intro _ _ _ z; cases z) (by rw [List.length_zip]; omega) (fun p hx =>  turn_e (fun _ _ _ _ _ => (eg_tup (egs_c (eg_name 2 sc_letters_told.nd may0) (egs_c (eg_name 3 sc_letters_told.nd may0) egs_no)))) (oD2_im _) (fun _ _ _ _ _ => (ee_call F_ring_letter (hr.mono (by decide)) (ea_c (ee_var 2) (ea_c (ee_var 3) ea_no)) ⟨_, _, rfl, h1 p hx, rfl⟩)))) (by unfold ltd; rw [List.map_map]; rfl)))) rfl)
def xs1 (f : List Int) (a : Int) : List Int := if gt f a < gt f (a + 1) then (f.set a.toNat (gt f (a + 1))).set (a + 1).toNat (gt f a) else f
theorem xs1_len (f : List Int) (a : Int) : (xs1 f a).length = f.length := by unfold xs1; split <;> simp
def nst (i j o : Int) : Nat := if i < j then ((j - i - 1) / o + 1).toNat else 0
def exg (v : List Int) (first o r : Int) : List Int := (rgc ((r - first) % o) o (nst ((r - first) % o) ((v.length : Int) - 1) o)).foldl xs1 v
theorem exg_len (v : List Int) (first o r : Int) : (exg v first o r).length = v.length := fold_len _ xs1_len _ _
theorem fits_of {i : Int} (h0 : -1000000 ≤ i) (h1 : i ≤ 1000000) : Builtin.Range.rangeFitsLong i = true := by
  unfold Builtin.Range.rangeFitsLong
  simp only [Bool.and_eq_true, decide_eq_true_eq]
  omega
theorem nst_le {i j o : Int} (h0 : 0 ≤ i) (ho : 0 < o) (hj : j ≤ 1000) : nst i j o ≤ 1000 := by
  unfold nst
  split
  · have h1 : (j - i - 1) / o ≤ j - i - 1 := Int.ediv_le_self _ (by omega)
    omega
  · omega
theorem nst_in {i j o : Int} (ho : 0 < o) {k : Nat} (hk : k < nst i j o) : i + k * o < j := by
  unfold nst at hk
  split at hk
  · have h1 : (k : Int) ≤ (j - i - 1) / o := by omega
    have h2 : (k : Int) * o ≤ j - i - 1 := by
      have h3 := Int.mul_le_mul_of_nonneg_right h1 (Int.le_of_lt ho)
      have h4 := Int.ediv_mul_le (j - i - 1) (by omega : o ≠ 0)
      omega
    omega
  · omega
theorem rgC_up {i j o : Int} (h0 : 0 ≤ i) (h1 : i ≤ 1000) (hj0 : -1 ≤ j) (hj : j ≤ 1000) (ho : 0 < o) (ho1 : o ≤ 1000) : RgC i j o (nst i j o) := by
  have hn := nst_le h0 ho hj
  have e : Builtin.Range.rangeSize i j o = (nst i j o : Int) := by
    unfold Builtin.Range.rangeSize nst
    rw [if_pos (by omega)]
    split
    · have h2 : 0 ≤ (j - i - 1) / o := Int.ediv_nonneg (by omega) (by omega)
      omega
    · rfl
  refine ⟨by omega, by omega, ?_, e⟩
  unfold Builtin.Range.small
  rw [e, fits_of (by omega) (by omega), fits_of (by omega) (by omega), fits_of (by omega) (by omega), fits_of (by omega) (by omega), if_pos (by omega), fits_of (by omega) (by omega)]
  simp
def f_exchanged (ds : List D) (d : D) : Prop := ∃ v a o r, ds = [il v, .int a, .tup [.int o, .int r]] ∧ (v.length ≤ 500 ∧ 0 < o ∧ o ≤ 60) ∧ d = il (exg v a o r)
abbrev N_exchanged : List Str := ["values", "first", "told", "found", "order", "rest", "at"]
theorem sc_exchanged : FnScope N_exchanged ["values", "first", "told"] (defScope (top 113)) := ⟨rfl, rfl, rfl, by decide +kernel, rfl, by decide +kernel, by decide +kernel⟩
theorem fd_exchanged (W : Wd mg) (D0 : Df K mg "exchanged" (top 113))  : Fd P w K mg base C 3 "exchanged" f_exchanged := by
  refine Fd.mk (lv := 2) D0 sc_exchanged (fun _ _ _ _ _ _ us hl => match us, hl with | [_, _, _], _ => rfl) (by decide) (fun ds d hf => by obtain ⟨v, a, o, r, hds, _⟩ := hf; rw [hds]; rfl) fun fa cdv A outer s H E ds d hr hf => ?_
  obtain ⟨v, a, o, r, rfl, ⟨h0, h1, h2⟩, rfl⟩ := hf
  refine ss_c (s1_new 3 (en_listL W.list (ee_var 0)) (fun d q => by obtain ⟨_, _, rfl⟩ := List.mem_map.mp q; exact .int) (of_decide_eq_true rfl) (fun l => ?_) sc_exchanged.nd)
  refine ss_c (s1_unp (vs := [4, 5]) (ee_var 2) (eg_tup (egs_c (eg_name 4 sc_exchanged.nd (mayI .int (by decide))) (egs_c (eg_name 5 sc_exchanged.nd (mayI .int (by decide))) egs_no))) ?_)
  have m0 := Int.emod_nonneg (r - a) (by omega : o ≠ 0)
  have m1 := Int.emod_lt_of_pos (r - a) h1
  refine ss_c (s1_for (ds := nts (rgc ((r - a) % o) o (nst ((r - a) % o) ((v.length : Int) - 1) o))) (fun i ρ mu => mu = some (l, 3, nts (((rgc ((r - a) % o) o (nst ((r - a) % o) ((v.length : Int) - 1) o)).take i).foldl xs1 v)) ∧ ∃ o1, ρ = [some (il v), some (.int a), some (.tup [.int o, .int r]), none, some (.int o), some (.int r), o1])
    (ei_rng3 W.range (ee_mod (ee_sub (ee_var 5) (ee_var 1)) (ee_var 4) (by omega)) (EE.is (d' := .int ((v.length : Int) - 1)) (ee_sub (ee_lenIL W.len ee_varM) ee_int) rfl) (ee_var 4) (rgC_up m0 (by omega) (by omega) (by omega) h1 (by omega))) ⟨rfl, _, rfl⟩ [6] ?_ ?_)
  · rintro i d ρ1 mu1 hd ⟨rfl, o1, rfl⟩
    obtain ⟨hi, rfl⟩ := rgc_get hd
    have hin := nst_in h1 hi
    have z : (rgc ((r - a) % o) o (nst ((r - a) % o) ((v.length : Int) - 1) o))[i]? = some ((r - a) % o + (i : Int) * o) := by unfold rgc; rw [List.getElem?_map, List.getElem?_range hi]; rfl
    have hio : 0 ≤ (i : Int) * o := Int.mul_nonneg (by omega) (by omega)
    have hf := fold_step xs1 v z
    have hlen : (((rgc ((r - a) % o) o (nst ((r - a) % o) ((v.length : Int) - 1) o)).take i).foldl xs1 v).length = v.length := fold_len _ xs1_len _ _
    have hat0 : 0 ≤ (r - a) % o + (i : Int) * o := by omega
    generalize (r - a) % o + (i : Int) * o = at_ at *
    generalize ((rgc ((r - a) % o) o (nst ((r - a) % o) ((v.length : Int) - 1) o)).take i).foldl xs1 v = f at *
    refine ⟨_, eg_name 6 sc_exchanged.nd (mayI .int (by decide)), ?_⟩
    refine ss_1 (s1_if (eb_lt (ee_ixIL ee_varM (ee_var 6) (by omega) (by omega)) (ee_ixIL ee_varM (ee_add (ee_var 6) ee_int) (by omega) (by omega))) (fun t => ?_) (fun t => ?_))
    · refine ss_1 (s1_item2 (k1 := at_) (k2 := at_ + 1) (ea_c (ee_ixIL ee_varM (ee_add (ee_var 6) ee_int) (by omega) (by omega)) (ea_c (ee_ixIL ee_varM (ee_var 6) (by omega) (by omega)) ea_no)) .int .int (ee_var 6) (ee_add (ee_var 6) ee_int) (by omega) (by first | assumption | omega | decide | (simp only [nts, List.length_map, List.length_set] <;> omega) | (have hh_ := of_decide_eq_false h_; omega) | (have hh_ := of_decide_eq_true h_; omega) | (simp; done) | (simp <;> omega)) (by omega) (by first | assumption | omega | decide | (simp only [nts, List.length_map, List.length_set] <;> omega) | (have hh_ := of_decide_eq_false h_; omega) | (have hh_ := of_decide_eq_true h_; omega) | (simp; done) | (simp <;> omega)) ⟨?_, _, rfl⟩)
      rw [hf]
      unfold xs1
      rw [if_pos (of_decide_eq_true t), nts_set, nts_set]
    · refine ss_nil ⟨?_, some (.int at_), rfl⟩
      rw [hf]
      unfold xs1
      rw [if_neg (of_decide_eq_false t)]
  · rintro ρ1 mu1 ⟨rfl, o1, rfl⟩
    rw [List.length_map, List.take_length]
    exact ss_1 (s1_ret ee_varM rfl)
def wst (a : Int) (v : List Int) (t : Option (Int × Int)) : List Int := match t with
  | none => v
  | some p => exg v a p.1 p.2
theorem wst_len (a : Int) (v : List Int) (t : Option (Int × Int)) : (wst a v t).length = v.length := by
  cases t with
  | none => rfl
  | some p => exact exg_len _ _ _ _
def wi0 (g : Int) (m : Nat) (a b : Int) : List Int := (rgs (a - m) (b + m + 1 - (a - m)).toNat).map fun i => i + g - m
def wiV (g : Int) (T : List (Option (Int × Int))) (a b : Int) : List Int := T.reverse.foldl (wst (a - T.length)) (wi0 g T.length a b)
def wiF (g : Int) (T : List (Option (Int × Int))) (a b : Int) : List Int := ((wiV g T a b).drop T.length).take (b - a + 1).toNat
def Wi0 (T : List (Option (Int × Int))) (a b : Int) : Prop := T.length ≤ 60 ∧ (a ≤ b ∧ b ≤ a + 199 ∧ -1000 ≤ a ∧ a ≤ 1000) ∧ ∀ p, some p ∈ T → 0 < p.1 ∧ p.1 ≤ 60
def f_window_in (ds : List D) (d : D) : Prop := ∃ g T a b, ds = [.int g, .tup (T.map oD2), .int a, .int b] ∧ Wi0 T a b ∧ d = il (wiF g T a b)
theorem wi0_len (g : Int) (m : Nat) {a b : Int} (h : a ≤ b) : (wi0 g m a b).length = (b + m + 1 - (a - m)).toNat := by simp [wi0, rgs]
theorem wiV_len (g : Int) (T : List (Option (Int × Int))) {a b : Int} (h : a ≤ b) : (wiV g T a b).length = (b + T.length + 1 - (a - T.length)).toNat := by
  unfold wiV
  rw [fold_len _ (wst_len _), wi0_len g _ h]
theorem cut_ints (v : List Int) (i j : Nat) (h1 : i ≤ j) (h2 : j ≤ v.length) : cutD (nts v) (some (i : Int)) (some (j : Int)) = nts ((v.drop i).take (j - i)) := by
  unfold cutD
  rw [HT.sIx_nat, HT.sIx_nat]
  have e : (nts v).length = v.length := List.length_map ..
  rw [e, Nat.min_eq_left h2, Nat.min_eq_left (Nat.le_trans h1 h2)]
  unfold nts
  rw [List.map_take, List.map_drop]
abbrev N_window_in : List Str := ["degree", "told_letters", "first", "last", "rings", "start", "values", "told", "index"]
theorem sc_window_in : FnScope N_window_in ["degree", "told_letters", "first", "last"] (defScope (top 114)) := ⟨rfl, rfl, rfl, by decide +kernel, rfl, by decide +kernel, by decide +kernel⟩
theorem fd_window_in (W : Wd mg) (D0 : Df K mg "window_in" (top 114)) (F_exchanged : Fd P w K mg base C 3 "exchanged" f_exchanged) : Fd P w K mg base C 6 "window_in" f_window_in := by
  refine Fd.mk (lv := 5) D0 sc_window_in (fun _ _ _ _ _ _ us hl => match us, hl with | [_, _, _, _], _ => rfl) (by decide) (fun ds d hf => by obtain ⟨g, T, a, b, hds, _⟩ := hf; rw [hds]; rfl) fun fa cdv A outer s H E ds d hr hf => ?_
  obtain ⟨g, T, a, b, rfl, ⟨h0, ⟨h1, h2, h3, h4⟩, h5⟩, rfl⟩ := hf
  refine ss_c (s1_set 4 (d := .int T.length) (EE.is (ee_lenT W.len (ee_var 1)) (by rw [List.length_map])) may0 ?_ sc_window_in.nd)
  refine ss_c (s1_set 5 (ee_sub (ee_var 2) (ee_var 4)) may0 ?_ sc_window_in.nd)
  refine ss_c (s1_setL 6 (ds := nts (wi0 g T.length a b)) (EL.is (el_map (own := [("index", 8)]) (rgs (a - T.length) (b + T.length + 1 - (a - T.length)).toNat) (D.int) (fun i => .int (i + g - T.length)) (ei_src (es_rng2 W.range (ee_var 5) (ee_add (ee_add (ee_var 3) (ee_var 4)) ee_int) rfl (by omega) (by omega) (by omega))) sc_window_in.nd (blkOk_by (N := N_window_in) (sc := defScope (top 114)) (by decide +kernel)) (by intro _ _ _ z; cases z) (by rw [rgs_len]; omega) (fun i hx =>  turn_e (fun _ _ _ _ _ => (eg_name 8 sc_window_in.nd may0)) .int (fun _ _ _ _ _ => (ee_sub (ee_add (ee_var 8) (ee_var 0)) (ee_var 4))))) (by unfold wi0; first | (rw [List.map_map]; rfl) | (unfold nts; rw [List.map_map]; rfl))) (fun d q => by obtain ⟨_, _, rfl⟩ := List.mem_map.mp q; exact .int) (by intro _ _ _ z; cases z) ?_)
  refine ss_c (s1_for (ds := (T.map oD2).reverse) (fun i ρ mu => mu = none ∧ ∃ o1 o2, ρ = [some (.int g), some (.tup (T.map oD2)), some (.int a), some (.int b), some (.int T.length), some (.int (a - T.length)), some (il ((T.reverse.take i).foldl (wst (a - T.length)) (wi0 g T.length a b))), o1, o2]) (ei_src (es_tup (ee_revT (ee_var 1)) (.inl rfl))) ⟨rfl, _, _, rfl⟩ [7] ?_ ?_)
  · rintro i d ρ1 mu1 hd ⟨rfl, o1, o2, rfl⟩
    rw [← List.map_reverse, List.getElem?_map] at hd
    cases z : T.reverse[i]? with
    | none => rw [z] at hd; cases hd
    | some t =>
      rw [z] at hd
      cases hd
      have hf := fold_step (wst (a - T.length)) (wi0 g T.length a b) z
      have hlen : ((T.reverse.take i).foldl (wst (a - T.length)) (wi0 g T.length a b)).length = (b + T.length + 1 - (a - T.length)).toNat := by rw [fold_len _ (wst_len _), wi0_len g _ h1]
      refine ⟨_, eg_name 7 sc_window_in.nd may0, ?_⟩
      cases t with
      | none => exact ss_1 (s1_if (t := false) (EB.is (eb_notN (ee_var 7)) rfl) (by intro h; cases h) (fun _ => ss_nil ⟨rfl, _, _, by rw [hf]; rfl⟩))
      | some p =>
        obtain ⟨p0, p1⟩ := h5 p (List.mem_reverse.mp (List.mem_of_getElem? z))
        refine ss_1 (s1_if (t := true) (EB.is (eb_notN (ee_var 7)) rfl) (fun _ => ?_) (by intro h; cases h))
        exact ss_1 (s1_set 6 (d := il (exg ((T.reverse.take i).foldl (wst (a - T.length)) (wi0 g T.length a b)) (a - T.length) p.1 p.2)) (ee_call F_exchanged (hr.mono (by decide)) (ea_c (ee_var 6) (ea_c (ee_var 5) (ea_c (ee_var 7) ea_no))) ⟨_, _, _, _, rfl, ⟨by omega, p0, p1⟩, rfl⟩) may0 ⟨rfl, _, _, by rw [hf]; rfl⟩ sc_window_in.nd)
  · rintro ρ1 mu1 ⟨rfl, o1, o2, rfl⟩
    rw [List.length_reverse, List.length_map, List.take_of_length_le (by rw [List.length_reverse]; exact Nat.le_refl _)]
    refine ss_1 (s1_ret (EN.ee (EN.is (en_slL (ee_var 6) (eo_c (ee_var 4)) (eo_c (ee_add (ee_sub (ee_add (ee_var 4) (ee_var 3)) (ee_var 2)) ee_int))) ?_)) rfl)
    have hv := wiV_len g T h1
    have e : (T.length : Int) + b - a + 1 = ((T.length + (b - a + 1).toNat : Nat) : Int) := by omega
    rw [e]
    have k := cut_ints (wiV g T a b) T.length (T.length + (b - a + 1).toNat) (by omega) (by omega)
    rw [Nat.add_sub_cancel_left] at k
    exact k
def f_ring_letters (ds : List D) (d : D) : Prop := ∃ c x, ds = [chD c, it x] ∧ (Ch0 c ∧ Tp0 c x ∧ Lt0 c x) ∧ d = .tup ((ltd c x).map oD2)
abbrev N_ring_letters : List Str := ["chain", "places"]
theorem sc_ring_letters : FnScope N_ring_letters ["chain", "places"] (defScope (top 116)) := ⟨rfl, rfl, rfl, by decide +kernel, rfl, by decide +kernel, by decide +kernel⟩
theorem fd_ring_letters (W : Wd mg) (D0 : Df K mg "ring_letters" (top 116)) (F_require_chain : Fd P w K mg base C 15 "require_chain" f_require_chain) (F_require_tuple : Fd P w K mg base C 12 "require_tuple" f_require_tuple) (F_letters_told : Fd P w K mg base C 9 "letters_told" f_letters_told) : Fd P w K mg base C 18 "ring_letters" f_ring_letters := by
  refine Fd.mk (lv := 17) D0 sc_ring_letters (fun _ _ _ _ _ _ us hl => match us, hl with | [_, _], _ => rfl) (by decide) (fun ds d hf => by obtain ⟨c, x, hds, _⟩ := hf; rw [hds]; rfl) fun fa cdv A outer s H E ds d hr hf => ?_
  obtain ⟨c, x, rfl, ⟨h1, h2, h3⟩, rfl⟩ := hf
  refine ss_c (s1_expr (ee_call F_require_chain (hr.mono (by decide)) (ea_c (ee_var 0) ea_no) ⟨_, rfl, h1, rfl⟩) ?_)
  refine ss_c (s1_expr (ee_call F_require_tuple (hr.mono (by decide)) (ea_c (ee_var 0) (ea_c (ee_var 1) ea_no)) ⟨_, _, rfl, h2, rfl⟩) ?_)
  exact ss_1 (s1_ret (ee_call F_letters_told (hr.mono (by decide)) (ea_c (ee_var 0) (ea_c (ee_var 1) ea_no)) ⟨_, _, rfl, h3, rfl⟩) rfl)
def f_require_class_parts (ds : List D) (d : D) : Prop := ∃ c g x, ds = [chD c, .int g, it x] ∧ (Ch0 c ∧ Tp0 c x ∧ Lt0 c x ∧ Sm g) ∧ d = .tup ((ltd c x).map oD2)
abbrev N_require_class_parts : List Str := ["chain", "degree", "places"]
theorem sc_require_class_parts : FnScope N_require_class_parts ["chain", "degree", "places"] (defScope (top 115)) := ⟨rfl, rfl, rfl, by decide +kernel, rfl, by decide +kernel, by decide +kernel⟩
theorem fd_require_class_parts (W : Wd mg) (D0 : Df K mg "require_class_parts" (top 115)) (F_require_chain : Fd P w K mg base C 15 "require_chain" f_require_chain) (F_require_integer : Fd P w K mg base C 9 "require_integer" f_require_integer) (F_require_tuple : Fd P w K mg base C 12 "require_tuple" f_require_tuple) (F_letters_told : Fd P w K mg base C 9 "letters_told" f_letters_told) : Fd P w K mg base C 18 "require_class_parts" f_require_class_parts := by
  refine Fd.mk (lv := 17) D0 sc_require_class_parts (fun _ _ _ _ _ _ us hl => match us, hl with | [_, _, _], _ => rfl) (by decide) (fun ds d hf => by obtain ⟨c, g, x, hds, _⟩ := hf; rw [hds]; rfl) fun fa cdv A outer s H E ds d hr hf => ?_
  obtain ⟨c, g, x, rfl, ⟨h1, h2, h3, h4⟩, rfl⟩ := hf
  refine ss_c (s1_expr (ee_call F_require_chain (hr.mono (by decide)) (ea_c (ee_var 0) ea_no) ⟨_, rfl, h1, rfl⟩) ?_)
  refine ss_c (s1_expr (ee_call F_require_integer (hr.mono (by decide)) (ea_c (ee_var 1) ea_no) ⟨_, rfl, h4, rfl⟩) ?_)
  refine ss_c (s1_expr (ee_call F_require_tuple (hr.mono (by decide)) (ea_c (ee_var 0) (ea_c (ee_var 2) ea_no)) ⟨_, _, rfl, h2, rfl⟩) ?_)
  exact ss_1 (s1_ret (ee_call F_letters_told (hr.mono (by decide)) (ea_c (ee_var 0) (ea_c (ee_var 2) ea_no)) ⟨_, _, rfl, h3, rfl⟩) rfl)
def f_window (ds : List D) (d : D) : Prop := ∃ c g x a b, ds = [chD c, .int g, it x, .int a, .int b] ∧ ((Ch0 c ∧ Tp0 c x ∧ Lt0 c x ∧ Sm g) ∧ Wi0 (ltd c x) a b ∧ ∀ v, v ∈ wiF g (ltd c x) a b → Sm v) ∧ d = it (wiF g (ltd c x) a b)
abbrev N_window : List Str := ["chain", "degree", "places", "first", "last", "told_letters", "found", "value"]
theorem sc_window : FnScope N_window ["chain", "degree", "places", "first", "last"] (defScope (top 117)) := ⟨rfl, rfl, rfl, by decide +kernel, rfl, by decide +kernel, by decide +kernel⟩
theorem fd_window (W : Wd mg) (D0 : Df K mg "window" (top 117)) (F_require_class_parts : Fd P w K mg base C 18 "require_class_parts" f_require_class_parts) (F_require_integer : Fd P w K mg base C 9 "require_integer" f_require_integer) (F_is_integer : Fd P w K mg base C 6 "is_integer" f_is_integer) (F_is_within : Fd P w K mg base C 6 "is_within" f_is_within) (F_window_in : Fd P w K mg base C 6 "window_in" f_window_in) : Fd P w K mg base C 21 "window" f_window := by
  refine Fd.mk (lv := 20) D0 sc_window (fun _ _ _ _ _ _ us hl => match us, hl with | [_, _, _, _, _], _ => rfl) (by decide) (fun ds d hf => by obtain ⟨c, g, x, a, b, hds, _⟩ := hf; rw [hds]; rfl) fun fa cdv A outer s H E ds d hr hf => ?_
  obtain ⟨c, g, x, a, b, rfl, ⟨h1, h2, h3⟩, rfl⟩ := hf
  obtain ⟨q0, ⟨q1, q2, q3, q4⟩, q5⟩ := id h2
  refine ss_c (s1_set 5 (ee_call F_require_class_parts (hr.mono (by decide)) (ea_c (ee_var 0) (ea_c (ee_var 1) (ea_c (ee_var 2) ea_no))) ⟨_, _, _, rfl, h1, rfl⟩) may0 ?_ sc_window.nd)
  refine ss_c (s1_expr (ee_call F_require_integer (hr.mono (by decide)) (ea_c (ee_var 3) ea_no) ⟨_, rfl, by unfold Sm; omega, rfl⟩) ?_)
  refine ss_c (s1_if (t := false) (EB.is (eb_w (ew_or (eb_not (eb_val (ee_call F_is_integer (hr.mono (by decide)) (ea_c (ee_var 4) ea_no) ⟨_, rfl, by unfold Sm; omega, rfl⟩))) (fun h_ => (ew_or1 (eb_not (eb_val (ee_call F_is_within (hr.mono (by decide)) (ea_c (ee_var 4) (ea_c (ee_var 3) (ea_c (ee_sub (ee_add (ee_var 3) (ee_num W.MOST_WINDOW)) ee_int) ea_no))) ⟨_, _, _, rfl, rfl⟩))))))) ?_) (by intro h; cases h) (fun _ => ss_nil ?_))
  · rw [decide_eq_true q1, decide_eq_true (by omega)]; rfl
  refine ss_c (s1_set 6 (ee_tuple W.tuple (ee_call F_window_in (hr.mono (by decide)) (ea_c (ee_var 1) (ea_c (ee_var 5) (ea_c (ee_var 3) (ea_c (ee_var 4) ea_no)))) ⟨_, _, _, _, rfl, h2, rfl⟩)) may0 ?_ sc_window.nd)
  refine ss_c (s1_if (t := false) (EB.is (eb_not (eb_val (ee_allL (bs := (wiF g (ltd c x) a b).map fun _ => true) W.all (EL.ee (EL.is (el_map (own := [("value", 7)]) (wiF g (ltd c x) a b) (D.int) (fun _ => .bl true) (ei_src (es_tup (ee_var 6) (.inl rfl))) sc_window.nd (blkOk_by (N := N_window) (sc := defScope (top 117)) (by decide +kernel)) (by intro _ _ _ z; cases z) (by unfold wiF; rw [List.length_take]; omega) (fun v hx =>  turn_e (fun _ _ _ _ _ => (eg_name 7 sc_window.nd may0)) .bl (fun _ _ _ _ _ => (ee_call F_is_integer (hr.mono (by decide)) (ea_c (ee_var 7) ea_no) ⟨_, rfl, h3 v hx, rfl⟩)))) (by rw [List.map_map]; rfl)))))) ?_) (by intro h; cases h) (fun _ => ss_nil ?_))
  · rw [all_true fun _ _ => rfl]; rfl
  exact ss_1 (s1_ret (ee_var 6) rfl)
end
end Dd
set_option maxHeartbeats 2000000
/-! The defs: round maps as objects; the law's plain helps. Printed by gen/w10.py. -/
namespace Dd
open PySem PySem.Spec PyProof.Rows L2 Evl
section
variable {P : Program} {w : World} {K : PySem.W.Frag} {mg : Str → Option Value} {base : Heap} {C : Cs}

def f_is_round_in (ds : List D) (d : D) : Prop := ∃ vs, ds = [it vs] ∧ Rok vs ∧ d = .bl true
theorem init2 {X : Cx} {ρ : Rho} {mu : Mu} {c : Expr} {bd : List Stmt} {pos : Pos} {st2 : Stmt} {t2 : TS} {Dn : Ends} {σ : L2.St} {H : Hp} (tst : EB X C ρ mu c false) (p2 : PS X st2 t2) (env : EnvOk X.K C H σ H ρ mu) (v : ∀ H1, Ex H H1 → t2 Dn σ H1) :
    ∃ t, PSs X [.If c bd [] pos, st2] t ∧ t Dn σ H := by
  obtain ⟨tt, pt, vt⟩ := tst
  exact ⟨_, pss_cons (ps_if pt pss_never pss_nil) (pss_one p2), vt H σ H env _ fun H1 x1 => v H1 x1⟩
abbrev N_R__init__ : List Str := ["self", "values"]
theorem sc_R__init__ : FnScope N_R__init__ ["self", "values"] (defScope (inClass (top 36) 1)) := ⟨rfl, rfl, rfl, by decide +kernel, rfl, by decide +kernel, by decide +kernel⟩
theorem fg_R__init__ {g : Addr} (W : Wd mg) (R : Rd0 K mg C) (D0 : Dm K "__init__" "Round.__init__" (inClass (top 36) 1) g) (F_is_round_in : Fd P w K mg base C 9 "is_round_in" f_is_round_in) : FnR P w K mg base CX0 15 g (spI K C Rok) := by
  refine Fg.raw (lv := 14) D0 sc_R__init__ (fun _ _ _ _ _ _ us hl => match us, hl with | [_, _], _ => rfl) (fun vs H Q E h => by obtain ⟨x, dx, a, ws, rfl, _⟩ := h; rfl) fun cdv A outer s H vs Q E hr h => ?_
  obtain ⟨x, dx, a, ws, rfl, tb, hx, ne, hq, ok, q⟩ := h
  obtain ⟨p, sl⟩ := R.slot
  have env : EnvOk K C H (L2.start N_R__init__ [.ref x, .ref a]) H [none, some (it ws)] none := by
    refine ⟨Ex.refl H, tb, fun i d hd => ?_, fun l j ds z => (nomatch z), Nat.le_refl 2⟩
    match i, hd with
    | 1, hd =>
      cases hd
      exact ⟨.ref a, rfl, Rep.ofI hq⟩
  refine init2 (ρ := [none, some (it ws)]) (EB.is (eb_not (eb_val (ee_call F_is_round_in (hr.mono (by decide)) (ea_c (ee_var 1) ea_no) ⟨_, rfl, ok, rfl⟩))) rfl) (SlX.ps_sl (pe_var (i := 0) rfl (Or.inl rfl) (by decide) (by decide)) (pe_var (i := 1) rfl (Or.inl rfl) (by decide) (by decide))) env fun H1 x1 => ?_
  exact ⟨.ref a, rfl, .ref x, rfl, x, C.cls, dx, p, [], 0, rfl, .inl ⟨x1.at hx, rfl⟩, R.cl, sl, q H1 x1⟩
def f_told_round (ds : List D) (d : D) : Prop := ∃ vs, ds = [it vs] ∧ Rok vs ∧ d = .rnd vs
abbrev N_told_round : List Str := ["values", "one"]
theorem sc_told_round : FnScope N_told_round ["values"] (defScope (top 37)) := ⟨rfl, rfl, rfl, by decide +kernel, rfl, by decide +kernel, by decide +kernel⟩
theorem fd_told_round (W : Wd mg) (D0 : Df K mg "told_round" (top 37)) (F_is_integer : Fd P w K mg base C 6 "is_integer" f_is_integer) {g : Addr} (R : Rd0 K mg C) (M : Mk K C.cls g) (FI : FnR P w K mg base CX0 15 g (spI K C Rok)) : Fd P w K mg base C 21 "told_round" f_told_round := by
  refine Fd.mk (lv := 20) D0 sc_told_round (fun _ _ _ _ _ _ us hl => match us, hl with | [_], _ => rfl) (by decide) (fun ds d hf => by obtain ⟨vs, hds, _⟩ := hf; rw [hds]; rfl) fun fa cdv A outer s H E ds d hr hf => ?_
  obtain ⟨vs, rfl, ok, rfl⟩ := hf
  have sz := ok.sz.2
  refine ss_c (s1_if (t := false) (EB.is (eb_not (eb_val (ee_allL (bs := vs.map fun _ => true) W.all (EL.ee (EL.is (el_map (own := [("one", 1)]) vs (D.int) (fun _ => .bl true) (ei_src (es_tup (ee_var 0) (.inl rfl))) sc_told_round.nd (blkOk_by (N := N_told_round) (sc := defScope (top 37)) (by decide +kernel)) (by intro _ _ _ z; cases z) (by omega) (fun v hx =>  turn_e (fun _ _ _ _ _ => (eg_name 1 sc_told_round.nd may0)) .bl (fun _ _ _ _ _ => (ee_call F_is_integer (hr.mono (by decide)) (ea_c (ee_var 1) ea_no) ⟨_, rfl, ok.sm v hx, rfl⟩)))) (by rw [List.map_map]; rfl)))))) ?_) (by intro h; cases h) (fun _ => ss_nil ?_))
  · rw [all_true fun _ _ => rfl]; rfl
  exact ss_1 (s1_ret (ee_make R M FI (hr.mono (by decide)) (ee_var 0) ok) rfl)
def f_R__call__ (ds : List D) (d : D) : Prop := ∃ vs i, ds = [.rnd vs, .int i] ∧ (Sm i ∧ 0 < vs.length) ∧ d = .int (vir vs i)
abbrev N_R__call__ : List Str := ["self", "i"]
theorem sc_R__call__ : FnScope N_R__call__ ["self", "i"] (defScope (inClass (top 36) 5)) := ⟨rfl, rfl, rfl, by decide +kernel, rfl, by decide +kernel, by decide +kernel⟩
theorem fg_R__call__ {g : Addr} (W : Wd mg) (R : Rd0 K mg C) (D0 : Dm K "__call__" "Round.__call__" (inClass (top 36) 5) g) (F_is_integer : Fd P w K mg base C 6 "is_integer" f_is_integer) (F_value_in_round : Fd P w K mg base C 3 "value_in_round" f_value_in_round) : Fg P w K mg base C 9 g f_R__call__ := by
  refine Fg.mk (lv := 8) D0 sc_R__call__ (fun _ _ _ _ _ _ us hl => match us, hl with | [_, _], _ => rfl) (by decide) (fun ds d hf => by obtain ⟨vs, i, hds, _⟩ := hf; rw [hds]; rfl) fun cdv A outer s H E ds d hr hf => ?_
  obtain ⟨vs, i, rfl, ⟨h0, h1⟩, rfl⟩ := hf
  refine ss_c (s1_if (t := false) (EB.is (eb_not (eb_val (ee_call F_is_integer (hr.mono (by decide)) (ea_c (ee_var 1) ea_no) ⟨_, rfl, h0, rfl⟩))) rfl) (by intro h; cases h) (fun _ => ss_nil ?_))
  exact ss_1 (s1_ret (ee_call F_value_in_round (hr.mono (by decide)) (ea_c (ee_own R (ee_var 0)) (ea_c (ee_var 1) ea_no)) ⟨_, _, rfl, h1, rfl⟩) rfl)
def f_R__eq__ (ds : List D) (d : D) : Prop := ∃ vs ws, ds = [.rnd vs, .rnd ws] ∧ (Szd vs ∧ ws.length = vs.length) ∧ d = .bl (decide (vs = ws))
abbrev N_R__eq__ : List Str := ["self", "other"]
theorem sc_R__eq__ : FnScope N_R__eq__ ["self", "other"] (defScope (inClass (top 36) 8)) := ⟨rfl, rfl, rfl, by decide +kernel, rfl, by decide +kernel, by decide +kernel⟩
theorem fg_R__eq__ {g : Addr} (W : Wd mg) (R : Rd0 K mg C) (D0 : Dm K "__eq__" "Round.__eq__" (inClass (top 36) 8) g) (F_are_same_maps : Fd P w K mg base C 6 "are_same_maps" f_are_same_maps) : Fg P w K mg base C 9 g f_R__eq__ := by
  refine Fg.mk (lv := 8) D0 sc_R__eq__ (fun _ _ _ _ _ _ us hl => match us, hl with | [_, _], _ => rfl) (by decide) (fun ds d hf => by obtain ⟨vs, ws, hds, _⟩ := hf; rw [hds]; rfl) fun cdv A outer s H E ds d hr hf => ?_
  obtain ⟨vs, ws, rfl, h0, rfl⟩ := hf
  exact ss_1 (s1_ret (ee_and (ee_isRnd W.isinstance R (ee_var 1)) (fun h_ => (ee_one (ee_call F_are_same_maps (hr.mono (by decide)) (ea_c (ee_own R (ee_var 0)) (ea_c (ee_own R (ee_var 1)) ea_no)) ⟨_, _, rfl, h0, rfl⟩)))) rfl)
def f_R__invert__ (ds : List D) (d : D) : Prop := ∃ vs, ds = [.rnd vs] ∧ (Rok vs ∧ Rok (tb vs)) ∧ d = .rnd (tb vs)
abbrev N_R__invert__ : List Str := ["self"]
theorem sc_R__invert__ : FnScope N_R__invert__ ["self"] (defScope (inClass (top 36) 10)) := ⟨rfl, rfl, rfl, by decide +kernel, rfl, by decide +kernel, by decide +kernel⟩
theorem fg_R__invert__ {g : Addr} (W : Wd mg) (R : Rd0 K mg C) (D0 : Dm K "__invert__" "Round.__invert__" (inClass (top 36) 10) g) (F_told_round : Fd P w K mg base C 21 "told_round" f_told_round) (F_turned_back : Fd P w K mg base C 3 "turned_back" f_turned_back) : Fg P w K mg base C 24 g f_R__invert__ := by
  refine Fg.mk (lv := 23) D0 sc_R__invert__ (fun _ _ _ _ _ _ us hl => match us, hl with | [_], _ => rfl) (by decide) (fun ds d hf => by obtain ⟨vs, hds, _⟩ := hf; rw [hds]; rfl) fun cdv A outer s H E ds d hr hf => ?_
  obtain ⟨vs, rfl, ⟨h0, h1⟩, rfl⟩ := hf
  exact ss_1 (s1_ret (ee_call F_told_round (hr.mono (by decide)) (ea_c (ee_call F_turned_back (hr.mono (by decide)) (ea_c (ee_own R (ee_var 0)) ea_no) ⟨_, rfl, h0, rfl⟩) ea_no) ⟨_, rfl, h1, rfl⟩) rfl)
def f_Rfalls (ds : List D) (d : D) : Prop := ∃ vs, ds = [.rnd vs] ∧ Szd vs ∧ d = .int (flv vs)
abbrev N_Rfalls : List Str := ["self"]
theorem sc_Rfalls : FnScope N_Rfalls ["self"] (defScope (inClass (top 36) 4)) := ⟨rfl, rfl, rfl, by decide +kernel, rfl, by decide +kernel, by decide +kernel⟩
theorem fg_Rfalls {g : Addr} (W : Wd mg) (R : Rd0 K mg C) (D0 : Dm K "falls" "Round.falls" (inClass (top 36) 4) g) (F_falls_of : Fd P w K mg base C 6 "falls_of" f_falls_of) : Fg P w K mg base C 9 g f_Rfalls := by
  refine Fg.mk (lv := 8) D0 sc_Rfalls (fun _ _ _ _ _ _ us hl => match us, hl with | [_], _ => rfl) (by decide) (fun ds d hf => by obtain ⟨vs, hds, _⟩ := hf; rw [hds]; rfl) fun cdv A outer s H E ds d hr hf => ?_
  obtain ⟨vs, rfl, h0, rfl⟩ := hf
  exact ss_1 (s1_ret (ee_call F_falls_of (hr.mono (by decide)) (ea_c (ee_own R (ee_var 0)) ea_no) ⟨_, rfl, h0, rfl⟩) rfl)
/-- two maps of one round with few falls -/
def Tm (v1 v2 : List Int) : Prop := (Rok v1 ∧ Rok v2 ∧ v2.length = v1.length) ∧ flv v1 ≤ 1000 ∧ flv v2 ≤ 1000
def f_require_two_maps (ds : List D) (d : D) : Prop := ∃ v1 v2, ds = [.rnd v1, .rnd v2] ∧ Tm v1 v2 ∧ d = .non
abbrev N_require_two_maps : List Str := ["p", "q"]
theorem sc_require_two_maps : FnScope N_require_two_maps ["p", "q"] (defScope (top 55)) := ⟨rfl, rfl, rfl, by decide +kernel, rfl, by decide +kernel, by decide +kernel⟩
theorem fd_require_two_maps (W : Wd mg) (D0 : Df K mg "require_two_maps" (top 55)) (F_require_few_falls : Fd P w K mg base C 9 "require_few_falls" f_require_few_falls) (R : Rd0 K mg C) : Fd P w K mg base C 12 "require_two_maps" f_require_two_maps := by
  refine Fd.mk (lv := 11) D0 sc_require_two_maps (fun _ _ _ _ _ _ us hl => match us, hl with | [_, _], _ => rfl) (by decide) (fun ds d hf => by obtain ⟨v1, v2, hds, _⟩ := hf; rw [hds]; rfl) fun fa cdv A outer s H E ds d hr hf => ?_
  obtain ⟨v1, v2, rfl, ⟨⟨h0, h1, h2⟩, h3, h4⟩, rfl⟩ := hf
  refine ss_c (s1_if (t := false) (EB.is (eb_not (eb_val (ee_isRnd W.isinstance R (ee_var 0)))) rfl) (by intro h; cases h) (fun _ => ss_nil ?_))
  refine ss_c (s1_if (t := false) (EB.is (eb_w (ew_or (eb_not (eb_val (ee_isRnd W.isinstance R (ee_var 1)))) (fun h_ => (ew_or1 (eb_neI (ee_lenI W.len (ee_own R (ee_var 1))) (ee_lenI W.len (ee_own R (ee_var 0)))))))) ?_) (by intro h; cases h) (fun _ => ss_nil ?_))
  · rw [decide_eq_true (by omega)]; rfl
  refine ss_c (s1_expr (ee_call F_require_few_falls (hr.mono (by decide)) (ea_c (ee_own R (ee_var 0)) ea_no) ⟨_, rfl, ⟨h0.sz, h3⟩, rfl⟩) ?_)
  exact ss_1 (s1_expr (ee_call F_require_few_falls (hr.mono (by decide)) (ea_c (ee_own R (ee_var 1)) ea_no) ⟨_, rfl, ⟨h1.sz, h4⟩, rfl⟩) rfl)
def grd (v1 v2' ls : List Int) : List Int := gb (wsh v1 (sh v2')) ls.reverse
def f_greedy (ds : List D) (d : D) : Prop := ∃ v1 v2 ls v2', ds = [.rnd v1, .rnd v2] ∧ (Tm v1 v2 ∧ (2 ≤ v2.length ∧ Wi v2 ls v2' ∧ ls.length ≤ 900 ∧ ∀ p : Int, p ∈ ls → 0 ≤ p ∧ p < v2.length) ∧ Rok (grd v1 v2' ls) ∧ flv (grd v1 v2' ls) ≤ 1000) ∧ d = .rnd (grd v1 v2' ls)
abbrev N_greedy : List Str := ["p", "q", "found"]
theorem sc_greedy : FnScope N_greedy ["p", "q"] (defScope (top 57)) := ⟨rfl, rfl, rfl, by decide +kernel, rfl, by decide +kernel, by decide +kernel⟩
theorem fd_greedy (W : Wd mg) (D0 : Df K mg "greedy" (top 57)) (F_require_two_maps : Fd P w K mg base C 12 "require_two_maps" f_require_two_maps) (F_told_round : Fd P w K mg base C 21 "told_round" f_told_round) (F_greedy_in : Fd P w K mg base C 12 "greedy_in" f_greedy_in) (F_require_few_falls : Fd P w K mg base C 9 "require_few_falls" f_require_few_falls) (R : Rd0 K mg C) : Fd P w K mg base C 24 "greedy" f_greedy := by
  refine Fd.mk (lv := 23) D0 sc_greedy (fun _ _ _ _ _ _ us hl => match us, hl with | [_, _], _ => rfl) (by decide) (fun ds d hf => by obtain ⟨v1, v2, ls, v2', hds, _⟩ := hf; rw [hds]; rfl) fun fa cdv A outer s H E ds d hr hf => ?_
  obtain ⟨v1, v2, ls, v2', rfl, ⟨t, ⟨k0, k1, k2, k3⟩, r0, r1⟩, rfl⟩ := hf
  obtain ⟨⟨h0, h1, h2⟩, h3, h4⟩ := id t
  have z2 := h1.sz.2
  refine ss_c (s1_expr (ee_call F_require_two_maps (hr.mono (by decide)) (ea_c (ee_var 0) (ea_c (ee_var 1) ea_no)) ⟨_, _, rfl, t, rfl⟩) ?_)
  refine ss_c (s1_set 2 (d := .rnd (grd v1 v2' ls)) (ee_call F_told_round (hr.mono (by decide)) (ea_c (ee_call F_greedy_in (hr.mono (by decide)) (ea_c (ee_own R (ee_var 0)) (ea_c (ee_own R (ee_var 1)) ea_no)) ⟨v2, v1, ls, v2', rfl, ⟨⟨k0, z2, k1, k2⟩, by omega, k3⟩, rfl⟩) ea_no) ⟨_, rfl, r0, rfl⟩) may0 ?_ sc_greedy.nd)
  refine ss_c (s1_expr (ee_call F_require_few_falls (hr.mono (by decide)) (ea_c (ee_own R (ee_var 2)) ea_no) ⟨_, rfl, ⟨r0.sz, r1⟩, rfl⟩) ?_)
  exact ss_1 (s1_ret (ee_var 2) rfl)
def f_is_below (ds : List D) (d : D) : Prop := ∃ v1 v2, ds = [.rnd v1, .rnd v2] ∧ (Tm v1 v2 ∧ sh v1 ≤ sh v2) ∧ d = .bl (mI v1 v2).isNone
abbrev N_is_below : List Str := ["p", "q"]
theorem sc_is_below : FnScope N_is_below ["p", "q"] (defScope (top 58)) := ⟨rfl, rfl, rfl, by decide +kernel, rfl, by decide +kernel, by decide +kernel⟩
theorem fd_is_below (W : Wd mg) (D0 : Df K mg "is_below" (top 58)) (F_require_two_maps : Fd P w K mg base C 12 "require_two_maps" f_require_two_maps) (F_more_in : Fd P w K mg base C 12 "more_in" f_more_in) (R : Rd0 K mg C) : Fd P w K mg base C 15 "is_below" f_is_below := by
  refine Fd.mk (lv := 14) D0 sc_is_below (fun _ _ _ _ _ _ us hl => match us, hl with | [_, _], _ => rfl) (by decide) (fun ds d hf => by obtain ⟨v1, v2, hds, _⟩ := hf; rw [hds]; rfl) fun fa cdv A outer s H E ds d hr hf => ?_
  obtain ⟨v1, v2, rfl, ⟨t, hs⟩, rfl⟩ := hf
  obtain ⟨⟨h0, h1, h2⟩, h3, h4⟩ := id t
  refine ss_c (s1_expr (ee_call F_require_two_maps (hr.mono (by decide)) (ea_c (ee_var 0) (ea_c (ee_var 1) ea_no)) ⟨_, _, rfl, t, rfl⟩) ?_)
  refine ss_1 (s1_ret (ee_isN (ee_call F_more_in (hr.mono (by decide)) (ea_c (ee_own R (ee_var 0)) (ea_c (ee_own R (ee_var 1)) ea_no)) ⟨_, _, rfl, ⟨h0, h1, h2, hs⟩, rfl⟩)) ?_)
  cases mI v1 v2 <;> rfl
def f_does_nothing (ds : List D) (d : D) : Prop := ∃ v c, ds = [.rnd v, .int c] ∧ (Szd v ∧ 2 ≤ v.length ∧ Plc v c ∧ flv v ≤ 1000) ∧ d = .bl (df v c)
abbrev N_does_nothing : List Str := ["p", "c"]
theorem sc_does_nothing : FnScope N_does_nothing ["p", "c"] (defScope (top 59)) := ⟨rfl, rfl, rfl, by decide +kernel, rfl, by decide +kernel, by decide +kernel⟩
theorem fd_does_nothing (W : Wd mg) (D0 : Df K mg "does_nothing" (top 59)) (F_is_within : Fd P w K mg base C 6 "is_within" f_is_within) (F_require_few_falls : Fd P w K mg base C 9 "require_few_falls" f_require_few_falls) (F_does_fall : Fd P w K mg base C 6 "does_fall" f_does_fall) (R : Rd0 K mg C) : Fd P w K mg base C 12 "does_nothing" f_does_nothing := by
  refine Fd.mk (lv := 11) D0 sc_does_nothing (fun _ _ _ _ _ _ us hl => match us, hl with | [_, _], _ => rfl) (by decide) (fun ds d hf => by obtain ⟨v, c, hds, _⟩ := hf; rw [hds]; rfl) fun fa cdv A outer s H E ds d hr hf => ?_
  obtain ⟨v, c, rfl, ⟨h0, h1, h2, h3⟩, rfl⟩ := hf
  obtain ⟨p0, p1⟩ := id h2
  refine ss_c (s1_if (t := false) (EB.is (eb_not (eb_val (ee_isRnd W.isinstance R (ee_var 0)))) rfl) (by intro h; cases h) (fun _ => ss_nil ?_))
  refine ss_c (s1_if (t := false) (EB.is (eb_w (ew_or (eb_lt (ee_lenI W.len (ee_own R (ee_var 0))) ee_int) (fun h_ => (ew_or1 (eb_not (eb_val (ee_call F_is_within (hr.mono (by decide)) (ea_c (ee_var 1) (ea_c ee_int (ea_c (ee_sub (ee_lenI W.len (ee_own R (ee_var 0))) ee_int) ea_no))) ⟨_, _, _, rfl, rfl⟩))))))) ?_) (by intro h; cases h) (fun _ => ss_nil ?_))
  · rw [decide_eq_false (by omega), decide_eq_true p0, decide_eq_true (by omega)]; rfl
  refine ss_c (s1_expr (ee_call F_require_few_falls (hr.mono (by decide)) (ea_c (ee_own R (ee_var 0)) ea_no) ⟨_, rfl, ⟨h0, h3⟩, rfl⟩) ?_)
  exact ss_1 (s1_ret (ee_call F_does_fall (hr.mono (by decide)) (ea_c (ee_own R (ee_var 0)) (ea_c (ee_var 1) ea_no)) ⟨_, _, rfl, h2, rfl⟩) rfl)
def gmd (k : Int) (ls : List Int) : List Int := gb (wsh (rgs 0 k.toNat) 0) ls
def Gm (k : Int) (ls : List Int) : Prop := (2 ≤ k ∧ k ≤ 60 ∧ ls.length ≤ 900 ∧ ∀ p : Int, p ∈ ls → 0 ≤ p ∧ p < k) ∧ Rok (gmd k ls) ∧ flv (gmd k ls) ≤ 1000
def f_greedily_made (ds : List D) (d : D) : Prop := ∃ k ls, ds = [.int k, .tup [.int 0, it ls]] ∧ Gm k ls ∧ d = .rnd (gmd k ls)
abbrev N_greedily_made : List Str := ["m", "word", "found"]
theorem sc_greedily_made : FnScope N_greedily_made ["m", "word"] (defScope (top 60)) := ⟨rfl, rfl, rfl, by decide +kernel, rfl, by decide +kernel, by decide +kernel⟩
theorem fd_greedily_made (W : Wd mg) (D0 : Df K mg "greedily_made" (top 60)) (F_require_word_of_round : Fd P w K mg base C 12 "require_word_of_round" f_require_word_of_round) (F_told_round : Fd P w K mg base C 21 "told_round" f_told_round) (F_greedily_behind : Fd P w K mg base C 9 "greedily_behind" f_greedily_behind) (F_require_few_falls : Fd P w K mg base C 9 "require_few_falls" f_require_few_falls) (R : Rd0 K mg C) : Fd P w K mg base C 24 "greedily_made" f_greedily_made := by
  refine Fd.mk (lv := 23) D0 sc_greedily_made (fun _ _ _ _ _ _ us hl => match us, hl with | [_, _], _ => rfl) (by decide) (fun ds d hf => by obtain ⟨k, ls, hds, _⟩ := hf; rw [hds]; rfl) fun fa cdv A outer s H E ds d hr hf => ?_
  obtain ⟨k, ls, rfl, ⟨hw, r0, r1⟩, rfl⟩ := hf
  obtain ⟨k0, k1, k2, k3⟩ := id hw
  have ez : (rgs 0 k.toNat).length = k.toNat := rgs_len _ _
  have ek : k = 0 + (k.toNat : Int) := by omega
  refine ss_c (s1_expr (ee_call F_require_word_of_round (hr.mono (by decide)) (ea_c (ee_var 0) (ea_c (ee_var 1) ea_no)) ⟨_, _, rfl, hw, rfl⟩) ?_)
  refine ss_c (s1_set 2 (d := .rnd (gmd k ls)) (ee_call F_told_round (hr.mono (by decide)) (ea_c (ee_call F_greedily_behind (hr.mono (by decide)) (ea_c (ee_tupleR (lo := 0) (n := k.toNat) W.tuple (ee_rng1 W.range (EE.is (ee_var 0) (by rw [← ek]))) (by decide) (by omega) (by omega)) (ea_c (ee_ixT (ee_var 1) ee_int rfl) (ea_c (ee_ixT (ee_var 1) ee_int rfl) ea_no))) ⟨rgs 0 k.toNat, 0, ls, it ls, rfl, ⟨⟨by omega, by omega⟩, fun p h => ⟨(k3 p h).1, by rw [ez]; have := (k3 p h).2; omega⟩, .inl rfl⟩, rfl⟩) ea_no) ⟨_, rfl, r0, rfl⟩) may0 ?_ sc_greedily_made.nd)
  refine ss_c (s1_expr (ee_call F_require_few_falls (hr.mono (by decide)) (ea_c (ee_own R (ee_var 2)) ea_no) ⟨_, rfl, ⟨r0.sz, r1⟩, rfl⟩) ?_)
  exact ss_1 (s1_ret (ee_var 2) rfl)
def mir (k : Int) (L : List Int) : List Int := L.reverse.map fun l => (0 - l) % k
def f__law_mirrored (ds : List D) (d : D) : Prop := ∃ k L, ds = [.int k, it L] ∧ (0 < k ∧ L.length ≤ 900) ∧ d = it (mir k L)
abbrev N__law_mirrored : List Str := ["_law_k", "_law_word", "_law_letter"]
theorem sc__law_mirrored : FnScope N__law_mirrored ["_law_k", "_law_word"] (defScope (top 127)) := ⟨rfl, rfl, rfl, by decide +kernel, rfl, by decide +kernel, by decide +kernel⟩
theorem fd__law_mirrored (W : Wd mg) (D0 : Df K mg "_law_mirrored" (top 127))  : Fd P w K mg base C 3 "_law_mirrored" f__law_mirrored := by
  refine Fd.mk (lv := 2) D0 sc__law_mirrored (fun _ _ _ _ _ _ us hl => match us, hl with | [_, _], _ => rfl) (by decide) (fun ds d hf => by obtain ⟨k, L, hds, _⟩ := hf; rw [hds]; rfl) fun fa cdv A outer s H E ds d hr hf => ?_
  obtain ⟨k, L, rfl, ⟨h0, h1⟩, rfl⟩ := hf
  refine ss_1 (s1_ret (ee_tuple W.tuple (EL.ee (el_map (own := [("_law_letter", 2)]) L.reverse (D.int) (fun l => .int ((0 - l) % k)) (ei_src (es_tup (EE.is (ee_revT (ee_var 1)) (by show D.tup _ = D.tup _; rw [← List.map_reverse])) (.inl rfl))) sc__law_mirrored.nd (blkOk_by (N := N__law_mirrored) (sc := defScope (top 127)) (by decide +kernel)) (by intro _ _ _ z; cases z) (by rw [List.length_reverse]; omega) (fun l hx =>  turn_e (fun _ _ _ _ _ => (eg_name 2 sc__law_mirrored.nd may0)) .int (fun _ _ _ _ _ => (ee_mod (ee_sub ee_int (ee_var 2)) (ee_var 0) h0)))))) ?_)
  simp [mir, it]
def f__law_least_map (ds : List D) (d : D) : Prop := ∃ k h ls, ds = [.int k, it h] ∧ (((Co k h ∧ lti k h ≤ 30) ∧ Gw k h ls ∧ ls.length ≤ 900) ∧ Gm k (mir k ls.reverse)) ∧ d = .rnd (gmd k (mir k ls.reverse))
abbrev N__law_least_map : List Str := ["_law_k", "_law_core"]
theorem sc__law_least_map : FnScope N__law_least_map ["_law_k", "_law_core"] (defScope (top 128)) := ⟨rfl, rfl, rfl, by decide +kernel, rfl, by decide +kernel, by decide +kernel⟩
theorem fd__law_least_map (W : Wd mg) (D0 : Df K mg "_law_least_map" (top 128)) (F_greedily_made : Fd P w K mg base C 24 "greedily_made" f_greedily_made) (F__law_mirrored : Fd P w K mg base C 3 "_law_mirrored" f__law_mirrored) (F_growing_word : Fd P w K mg base C 18 "growing_word" f_growing_word) : Fd P w K mg base C 27 "_law_least_map" f__law_least_map := by
  refine Fd.mk (lv := 26) D0 sc__law_least_map (fun _ _ _ _ _ _ us hl => match us, hl with | [_, _], _ => rfl) (by decide) (fun ds d hf => by obtain ⟨k, h, ls, hds, _⟩ := hf; rw [hds]; rfl) fun fa cdv A outer s H E ds d hr hf => ?_
  obtain ⟨k, h, ls, rfl, ⟨h0, h1⟩, rfl⟩ := hf
  have hk := h0.1.1.1.1
  exact ss_1 (s1_ret (ee_call F_greedily_made (hr.mono (by decide)) (ea_c (ee_var 0) (ea_c (ee_tup (ea_c ee_int (ea_c (ee_call F__law_mirrored (hr.mono (by decide)) (ea_c (ee_var 0) (ea_c (ee_call F_growing_word (hr.mono (by decide)) (ea_c (ee_var 0) (ea_c (ee_var 1) ea_no)) ⟨_, _, _, rfl, h0, rfl⟩) ea_no)) ⟨_, _, rfl, ⟨by omega, by rw [List.length_reverse]; exact h0.2.2⟩, rfl⟩) ea_no)) (by first | assumption | omega | decide | (simp only [nts, List.length_map, List.length_set] <;> omega) | (have hh_ := of_decide_eq_false h_; omega) | (have hh_ := of_decide_eq_true h_; omega) | (simp; done) | (simp <;> omega))) ea_no)) ⟨_, _, rfl, h1, rfl⟩) rfl)
def cby1 (k : Int) (v : List Int) (f : List Int) (i : Int) : List Int := f.set ((vir v i - 1) % k).toNat ((vir v i + k - 1) / k)
def cby (k : Int) (v : List Int) : List Int := (rgs (1 - k) k.toNat).foldl (cby1 k v) (List.replicate k.toNat 0)
def f__law_charges_by (ds : List D) (d : D) : Prop := ∃ k v, ds = [.int k, .rnd v] ∧ (0 < k ∧ k ≤ 60 ∧ 0 < v.length) ∧ d = it (cby k v)
abbrev N__law_charges_by : List Str := ["_law_k", "_law_one", "_law_found", "_law_i", "_law_value"]
theorem sc__law_charges_by : FnScope N__law_charges_by ["_law_k", "_law_one"] (defScope (top 129)) := ⟨rfl, rfl, rfl, by decide +kernel, rfl, by decide +kernel, by decide +kernel⟩
theorem fd__law_charges_by (W : Wd mg) (D0 : Df K mg "_law_charges_by" (top 129))  {gc : Addr} (cO : StX.CallO K C.cls gc) (FC : Fg P w K mg base C 9 gc f_R__call__) : Fd P w K mg base C 12 "_law_charges_by" f__law_charges_by := by
  refine Fd.mk (lv := 11) D0 sc__law_charges_by (fun _ _ _ _ _ _ us hl => match us, hl with | [_, _], _ => rfl) (by decide) (fun ds d hf => by obtain ⟨k, v, hds, _⟩ := hf; rw [hds]; rfl) fun fa cdv A outer s H E ds d hr hf => ?_
  obtain ⟨k, v, rfl, ⟨h0, h1, h2⟩, rfl⟩ := hf
  refine ss_c (s1_new 2 (en_zeros (en_lst (ea_c ee_int ea_no) (by decide)) (ee_var 0) (by omega) (by omega)) (fun d q => by obtain ⟨_, _, rfl⟩ := List.mem_map.mp q; exact .int) (of_decide_eq_true rfl) (fun l => ?_) sc__law_charges_by.nd)
  have e0 : (List.replicate k.toNat (0 : Int)).length = k.toNat := List.length_replicate
  refine ss_c (s1_for (ds := nts (rgs (1 - k) k.toNat)) (fun i ρ mu => mu = some (l, 2, nts (((rgs (1 - k) k.toNat).take i).foldl (cby1 k v) (List.replicate k.toNat 0))) ∧ ∃ o1 o2, ρ = [some (.int k), some (.rnd v), none, o1, o2]) (ei_src (es_rng2 W.range (ee_sub ee_int (ee_var 0)) ee_int (by omega) (by omega) (by omega) (by omega))) ⟨rfl, _, _, rfl⟩ [3] ?_ ?_)
  · rintro i d ρ1 mu1 hd ⟨rfl, o1, o2, rfl⟩
    obtain ⟨hi, rfl⟩ := rgs_get hd
    have z : (rgs (1 - k) k.toNat)[i]? = some (1 - k + (i : Int)) := by unfold rgs; rw [List.getElem?_map, List.getElem?_range hi]; rfl
    have hm0 := Int.emod_nonneg (vir v (1 - k + (i : Int)) - 1) (by omega : k ≠ 0)
    have hm1 := Int.emod_lt_of_pos (vir v (1 - k + (i : Int)) - 1) h0
    have hf : (((rgs (1 - k) k.toNat).take i).foldl (cby1 k v) (List.replicate k.toNat 0)).length = k.toNat := by rw [fold_len _ (fun f b => by unfold cby1; simp), e0]
    refine ⟨_, eg_name 3 sc__law_charges_by.nd (mayI .int (by decide)), ?_⟩
    refine ss_c (s1_set 4 (d := .int (vir v (1 - k + (i : Int)))) (ee_callO cO FC (hr.mono (by decide)) (ee_var 1) (ea_c (ee_var 3) ea_no) .rnd ⟨_, _, rfl, ⟨by unfold Sm; omega, h2⟩, rfl⟩) (mayI .int (by decide)) ?_ sc__law_charges_by.nd)
    refine ss_1 (s1_item (k := (vir v (1 - k + (i : Int)) - 1) % k) (ee_mod (ee_sub (ee_var 4) ee_int) (ee_var 0) (by first | assumption | omega | decide | (simp only [nts, List.length_map, List.length_set] <;> omega) | (have hh_ := of_decide_eq_false h_; omega) | (have hh_ := of_decide_eq_true h_; omega) | (simp; done) | (simp <;> omega))) (ee_div (ee_sub (ee_add (ee_var 4) (ee_var 0)) ee_int) (ee_var 0) (by omega)) .int hm0 (by rw [List.length_map, hf]; omega) ⟨?_, _, _, rfl⟩)
    rw [fold_step _ _ z, nts_set]
    rfl
  · rintro ρ1 mu1 ⟨rfl, o1, o2, rfl⟩
    rw [List.length_map, List.take_length]
    exact ss_1 (s1_ret (ee_tuple W.tuple ee_varM) rfl)
end
end Dd
set_option maxHeartbeats 2000000
/-! The defs: a map turned back. Printed by gen/w11.py. -/
namespace Dd
open PySem PySem.Spec PyProof.Rows L2 Evl
section
variable {P : Program} {w : World} {K : PySem.W.Frag} {mg : Str → Option Value} {base : Heap} {C : Cs}

theorem ed_is {X : Cx} {ρ : Rho} {mu : Mu} {e : Expr} {a b : List (Int × V)} (h : ED X C ρ mu e a) (z : a = b) : ED X C ρ mu e b := z ▸ h
/-- keys that differ: nothing is put over -/
theorem putAll_nd : ∀ (L : List (Int × V)), (L.map (·.1)).Nodup → putAll L = L := by
  have key : ∀ (L acc : List (Int × V)), ((acc ++ L).map (·.1)).Nodup → L.foldl (fun kvs q => putI kvs q.1 q.2) acc = acc ++ L := fun L => by
    induction L with
    | nil => intro acc _; simp
    | cons q L ih =>
      intro acc h
      have e : putI acc q.1 q.2 = acc ++ [q] := by
        unfold putI
        rw [if_neg]
        intro z
        obtain ⟨r, hr, e⟩ := List.any_eq_true.mp z
        rw [List.map_append, List.nodup_append] at h
        exact h.2.2 _ (List.mem_map_of_mem hr) _ (List.mem_map_of_mem (List.mem_cons_self ..)) (of_decide_eq_true e)
      rw [List.foldl_cons, e, ih _ (by rw [List.append_assoc]; exact h), List.append_assoc]
      rfl
  intro L h
  exact key L [] h
theorem zip_rgs (vs : List Int) : (rgs 0 vs.length).zip vs = (rgs 0 vs.length).map fun i => (i, gt vs i) := by
  refine List.ext_getElem? fun i => ?_
  rw [List.getElem?_map]
  by_cases h : i < vs.length
  · have e1 : (rgs 0 vs.length)[i]? = some (i : Int) := by simp [rgs, h]
    have e2 : ((rgs 0 vs.length).zip vs)[i]? = some ((i : Int), vs[i]) := List.getElem?_zip_eq_some.mpr ⟨e1, List.getElem?_eq_getElem h⟩
    rw [e1, e2]
    simp [gt, List.getD, List.getElem?_eq_getElem h]
  · rw [List.getElem?_eq_none (by rw [List.length_zip, rgs_len]; omega), List.getElem?_eq_none (by rw [rgs_len]; omega)]
    rfl
theorem rgs_nd (n : Nat) : (rgs 0 n).Nodup := by
  unfold rgs
  rw [List.nodup_iff_pairwise_ne, List.pairwise_map]
  refine List.nodup_range.imp_of_mem ?_
  intro a b _ _ h z
  exact h (by omega)
theorem nd_map {α β : Type} (f : α → β) : ∀ (L : List α), L.Nodup → (∀ x, x ∈ L → ∀ y, y ∈ L → f x = f y → x = y) → (L.map f).Nodup := fun L => by
  induction L with
  | nil => intro _ _; exact List.nodup_nil
  | cons x L ih =>
    intro h i
    rw [List.nodup_cons] at h
    rw [List.map_cons, List.nodup_cons]
    refine ⟨fun z => ?_, ih h.2 fun a ha b hb => i a (List.mem_cons_of_mem _ ha) b (List.mem_cons_of_mem _ hb)⟩
    obtain ⟨y, hy, e⟩ := List.mem_map.mp z
    exact h.1 (i x (List.mem_cons_self ..) y (List.mem_cons_of_mem _ hy) e.symm ▸ hy)
def tbk (vs : List Int) : List (Int × Int) := (rgs 0 vs.length).map fun i => (gt vs i % vs.length, gt vs i % vs.length + i - gt vs i)
theorem tbk_find {vs : List Int} (ok : Rok vs) {r : Int} (h : r ∈ rgs 0 vs.length) : ∃ v, (tbk vs).find? (fun q => decide (q.1 = r)) = some (r, v) ∧ (match tbx vs r with | some i => r + i - gt vs i | none => 0) = v := by
  have hr := rgs_mem h
  obtain ⟨i, i0, i1, e⟩ := ok.sur r hr.1 (by omega)
  have hx : ∃ j, tbx vs r = some j := by
    cases z : tbx vs r with
    | some j => exact ⟨j, rfl⟩
    | none =>
      unfold tbx at z
      rw [List.find?_eq_none] at z
      refine absurd (decide_eq_true e) (z i ?_)
      unfold rgs
      exact List.mem_map.mpr ⟨i.toNat, List.mem_range.mpr (by omega), by omega⟩
  obtain ⟨j, hj⟩ := hx
  have hd : gt vs j % vs.length = r := by
    have hj' := hj
    unfold tbx at hj'
    have z := List.find?_some hj'
    exact of_decide_eq_true z
  refine ⟨r + j - gt vs j, ?_, by rw [hj]⟩
  unfold tbk
  rw [List.find?_map]
  have e2 : ((fun q : Int × Int => decide (q.1 = r)) ∘ fun i => (gt vs i % vs.length, gt vs i % vs.length + i - gt vs i)) = fun i => decide (gt vs i % vs.length = r) := rfl
  rw [e2]
  unfold tbx at hj
  rw [hj]
  show some (gt vs j % vs.length, gt vs j % vs.length + j - gt vs j) = _
  rw [hd]
abbrev N_turned_back : List Str := ["values", "size", "back", "start", "value", "rest"]
theorem sc_turned_back : FnScope N_turned_back ["values"] (defScope (top 32)) := ⟨rfl, rfl, rfl, by decide +kernel, rfl, by decide +kernel, by decide +kernel⟩
theorem fd_turned_back (W : Wd mg) (D0 : Df K mg "turned_back" (top 32))  : Fd P w K mg base C 3 "turned_back" f_turned_back := by
  refine Fd.mk (lv := 2) D0 sc_turned_back (fun _ _ _ _ _ _ us hl => match us, hl with | [_], _ => rfl) (by decide) (fun ds d hf => by obtain ⟨vs, hds, _⟩ := hf; rw [hds]; rfl) fun fa cdv A outer s H E ds d hr hf => ?_
  obtain ⟨vs, rfl, ok, rfl⟩ := hf
  obtain ⟨z0, z1⟩ := ok.sz
  refine ss_c (s1_set 1 (d := .int vs.length) (ee_lenI W.len (ee_var 0)) may0 ?_ sc_turned_back.nd)
  refine ss_c (s1_set 2 (d := .dic (tbk vs)) (ee_dic (ed_is (ed_comp (own := [("start", 3), ("value", 4)]) ((rgs 0 vs.length).zip vs) (fun p => .tup [.int p.1, .int p.2]) (fun p => p.2 % vs.length) (fun p => .int (p.2 % vs.length + p.1 - p.2)) (fun p => V.int (p.2 % vs.length + p.1 - p.2)) (zpp_map D.int D.int (rgs 0 vs.length) vs ▸ ei_zip W.zip (es_rng1 W.range (ee_var 1) (by omega) (by omega) (by omega)) (es_tup (ee_var 0) (.inl rfl))) sc_turned_back.nd (blkOk_by (N := N_turned_back) (sc := defScope (top 32)) (by decide +kernel)) (by intro _ _ _ z; cases z) (by rw [List.length_zip]; omega)
    (fun p hx => ⟨rfl, _, (fun _ _ _ _ _ => (eg_tup (egs_c (eg_name 3 sc_turned_back.nd may0) (egs_c (eg_name 4 sc_turned_back.nd may0) egs_no)))), (fun _ _ _ _ _ => (ee_mod (ee_var 4) (ee_var 1) (by omega))), (fun _ _ _ _ _ => (ee_sub (ee_add (ee_mod (ee_var 4) (ee_var 1) (by omega)) (ee_var 3)) (ee_var 4)))⟩)) ?_)) may0 ?_ sc_turned_back.nd)
  · rw [zip_rgs, List.map_map, putAll_nd]
    · unfold tbk
      rw [List.map_map]
      rfl
    · rw [List.map_map]
      refine nd_map _ _ (rgs_nd _) fun x hx y hy e => ?_
      have h1 := rgs_mem hx
      have h2 := rgs_mem hy
      exact ok.inj x y h1.1 (by omega) h2.1 (by omega) e
  exact ss_1 (s1_ret (ee_tuple W.tuple (EL.ee (EL.is (el_map (own := [("rest", 5)]) (rgs 0 vs.length) (D.int) (fun r => .int (match tbx vs r with | some i => r + i - gt vs i | none => 0)) (ei_src (es_rng1 W.range (ee_var 1) (by omega) (by omega) (by omega))) sc_turned_back.nd (blkOk_by (N := N_turned_back) (sc := defScope (top 32)) (by decide +kernel)) (by intro _ _ _ z; cases z) (by rw [rgs_len]; omega) (fun r hx =>  turn_e (fun _ _ _ _ _ => (eg_name 5 sc_turned_back.nd may0)) .int (fun _ _ _ _ _ => (let ⟨v, h1, h2⟩ := tbk_find ok hx; h2 ▸ ee_dget (kvs := tbk vs) hr.units (ee_var 2) (ee_var 5) h1)))) (by unfold tb; rw [List.map_map]; rfl)))) rfl)
end
end Dd
set_option maxHeartbeats 2000000
/-! Sets of whole numbers, built by a comprehension. -/
namespace Dd
open PySem PySem.Spec PyProof.Rows L2 Evl PpSet
section
variable {X : Cx}
abbrev noI : Int → Bool := fun _ => false
/-- {elt for target in iter}, elt a whole number, no tests: S is the new set -/
def tScN (w : World) (wi : TI) (g : TG) (te : TE) (vs : List Nat) : TE := fun σ H Q => wi σ H fun J H1 => ∀ S, H1 S = none → ∃ W : Nat → Nat → Hp → Prop, (∃ m, W 0 m (upd H1 S (SetO w S noI 0))) ∧ ∀ i m H, W i m H →
  (J.stop i H ∧ Q (.ref S) H) ∨ (J.go i H ∧ ∃ Nx : Hp → Prop, (∀ H', Nx H' → ∃ m', m' < m ∧ W (i + 1) m' H') ∧ ∀ x H', J.yld i H x H' → g x (wipe σ vs) H' fun σ2 H2 => wipe σ2 vs = wipe σ vs ∧
    te σ2 H2 fun y H3 => ∃ (k : Int) (f : Int → Bool) (n : Nat), y = .int k ∧ H3 S = some (SetO w S f n) ∧ n + 1 < scanBound ∧ Nx (upd H3 S (SetO w S (fun j => f j || decide (j = k)) (if f k = true then n else n + 1))))
theorem pe_scN {elt tg iter : Expr} {scope : Scope} {own : List (Str × Nat)} {pos : Pos} {wi : TI} {g : TG} {te : TE} (calm : X.calm = true) (nd : X.N.Nodup) (src : PI X tg iter wi) (ok : BlkOk X.N X.env.scope scope own)
    (bind : ∀ (s : Shared) (H : Hp) (C : Addr) (cl : List (Str × Addr)) (fp : List Addr), PG (X.blk s H scope (compEnvC scope cl C X.env) fp) tg g)
    (val : ∀ (s : Shared) (H : Hp) (C : Addr) (cl : List (Str × Addr)) (fp : List Addr), PE (X.blk s H scope (compEnvC scope cl C X.env) fp) elt te) (plain : ∀ x, foldedSetIterable iter X.env x = pure x) :
    PE X (.SetComp elt [⟨tg, iter, [], 0⟩] scope pos) (tScN X.w wi g te (own.map (·.2))) := by
  refine ⟨fun pins s σ H Q I sat => ?_⟩
  rw [eval_SetComp]
  have cells : ∀ y ∈ scope.names, y.2 = .free → ∃ c, X.env.cells.lookup y.1 = some c := fun y hy e =>
    (ok.free y hy e).elim (fun k => I.ok.has _ (.inl k)) fun k => I.ok.has _ (.inr k)
  refine wpAny_comprehension_free (use := none) rfl plain (closure_ok cells) ok.kind (fun y hy e => by rw [ok.uniq y hy, e])
    (thn (src.run pins s σ H _ I sat) fun _ ra got => thn got fun _ rb got2 => ?_)
  obtain ⟨cur, held, at_, J, Ha, rfl, Ia, T, sta, apart, rest⟩ := got2
  refine newSet_ok (newEnv_comp ?_)
  generalize hS : rb.heap.objs.size = S
  have gone : Ha S = none := Ia.hok.fresh (Nat.le_of_eq hS)
  obtain ⟨W, ⟨m0, w0⟩, turn⟩ := rest S gone
  generalize hrc : ({ rb with heap := rb.heap.push { cls := .type "set", dict := none, data := .set #[] 0 (.fresh 0 0 (!X.w.params.followText "set-order")) } } : Shared) = rc
  have keepc : rc.heap = rb.heap.push { cls := .type "set", dict := none, data := .set #[] 0 (.fresh 0 0 (!X.w.params.followText "set-order")) } := by rw [← hrc]
  have Ic : Inv X pins σ (upd Ha S (SetO X.w S noI 0)) rc := by
    subst hrc
    subst hS
    exact Ia.laid (t' := rb.toks) (fun _ _ e => Heap.get?_push_of_some _ e) (Nat.le_refl _) (setO_new (setR_fresh X.w))
  have low : ∀ b ∈ held, b < rb.heap.objs.size := fun b hb => let ⟨_, e, _⟩ := T.obj _ _ sta b hb; Heap.lt_size e
  have heldc : ∀ b ∈ held, FpOk X pins (upd Ha S (SetO X.w S noI 0)) b ∧ b < rc.heap.objs.size := fun b hb =>
    ⟨⟨(upd_ne (hS ▸ Nat.ne_of_lt (low b hb))).trans (apart b hb).1, (apart b hb).2⟩, by rw [keepc, Heap.size_push]; exact Nat.lt_succ_of_lt (low b hb)⟩
  have stc : at_ 0 rc.heap := T.keep _ _ _ sta fun _ _ _ e => keepc ▸ Heap.get?_push_of_some _ e
  have Id := block_start Ic ok nd heldc
  have kg := bind rc (upd Ha S (SetO X.w S noI 0)) rc.heap.objs.size (cellsFrom (rc.heap.objs.size + 1) scope.names (cloFrom X.env.cells scope.names [])) held
  have kv := val rc (upd Ha S (SetO X.w S noI 0)) rc.heap.objs.size (cellsFrom (rc.heap.objs.size + 1) scope.names (cloFrom X.env.cells scope.names [])) held
  generalize hHc : upd Ha S (SetO X.w S noI 0) = Hc at Ic Id kg kv w0 heldc
  generalize hblk : compEnvC scope (cellsFrom (rc.heap.objs.size + 1) scope.names (cloFrom X.env.cells scope.names [])) rc.heap.objs.size X.env = inner at Id kg kv
  have innerL : inner.locals = rc.heap.objs.size := by subst hblk; rfl
  show codeAny _ _ (.compStart (.SetComp elt [⟨tg, iter, [], 0⟩] scope pos) 0 (.ref cur) (.ref S) (compEnvC scope (cellsFrom (rc.heap.objs.size + 1) scope.names (cloFrom X.env.cells scope.names [])) rc.heap.objs.size X.env)) (compPost (model X.prog X.w) X.A X.xe none (EP X pins σ Q) (.ref S) rc.heap.objs.size) { rc with heap := pushCells (rc.heap.push { cls := .type "dict", data := .dict #[] }) scope.names }
  rw [hblk]
  generalize hrd : ({ rc with heap := pushCells (rc.heap.push { cls := .type "dict", data := .dict #[] }) scope.names } : Shared) = rd at Id ⊢
  have std : at_ 0 rd.heap := T.keep _ _ _ stc fun _ _ _ e => hrd ▸ pushCells_keeps _ _ _ _ (Heap.get?_push_of_some _ e)
  have own1 : ∀ {τ : L2.St} {G : Hp} {r : Shared}, Inv (X.blk rc Hc scope inner held) [] τ G r → (∀ b ∈ held, G b = none) → ∀ b ∈ held, FpOk (X.blk rc Hc scope inner held) [] G b := fun J1 z b hb =>
    ⟨z b hb, (J1.ok.exf b hb).1, J1.ok.exfs b hb, .inl hb, fun x c e => (J1.ok.exf b hb).2 x c e, fun p hp => absurd (show p ∈ ([] : List (Addr × Obj)) ++ [] from hp) (by simp)⟩
  have go : codeAny (model X.prog X.w) X.A (.compLoop (.SetComp elt [⟨tg, iter, [], 0⟩] scope pos) 0 (.ref cur) (.ref S) inner) (compPost (model X.prog X.w) X.A X.xe none (EP X pins σ Q) (.ref S) rc.heap.objs.size) rd := by
    refine compLoopS_any (fun n r => ∃ i G, Inv (X.blk rc Hc scope inner held) [] (wipe σ (own.map (·.2))) G r ∧ at_ i r.heap ∧ (∀ b ∈ held, G b = none) ∧ W i n G) ?_ m0 ⟨0, Hc, Id, std, fun b hb => (heldc b hb).1.1, w0⟩
    rintro n re ⟨i, He, Ie, ste, ne, we⟩
    rcases turn i n He we with ⟨stop, fin⟩ | ⟨more, Nx, nxt, step⟩
    · refine thnF (T.done (X.blk rc Hc scope inner held) rfl rfl rfl calm i [] re _ He (fun _ _ => False) Ie (own1 Ie ne) ste stop) fun _ rf ⟨hr, If⟩ => ?_
      subst hr
      have Ig : Inv X pins σ He rf := Ic.call' (ch := held) If.os If.base If.hok If.bare fun b hb => let z := (heldc b hb).1.2; ⟨z.2.2.1, z.1, z.2.2.2.1, z.2.2.2.2⟩
      obtain ⟨len, hn, _⟩ := If.loc
      have hn1 : rf.heap.Ns inner.locals len := hn
      have nC : He inner.locals = none := If.free
      rw [innerL] at hn1 nC
      obtain ⟨f0, f1, f2, f3, f4, f5⟩ := Ic.fpOk (Nat.le_refl _) nC
      exact ⟨len, hn1, fun h'' sb => ⟨.ref S, He, Ig.turned (t' := rf.toks) (fun b o hb e => (sb.2 b hb).trans e) f0 f1 f3 f4 f5, rfl, fin⟩⟩
    · refine thnF (T.item (X.blk rc Hc scope inner held) rfl rfl rfl calm i [] re _ He (fun _ _ => False) Ie (own1 Ie ne) ste more) fun _ rf ⟨u, hr, tail⟩ => ?_
      subst hr
      refine thnF tail fun _ rg ⟨x, Hg, Ig, rx, yx, stg, ng⟩ => ?_
      have Ip := Ig.pinned (own1 Ig ng) (T.obj _ _ stg)
      refine thnF (kg.run _ rg _ Hg x u _ Ip rx (step x Hg yx)) fun _ rh ⟨τ, Hh, Ih, wh, qh⟩ => ?_
      show wpAny _ _ (pure true) _ _ _
      refine wpAny_pure ?_
      rw [if_pos rfl]
      refine thnF (kv.run _ rh τ Hh _ Ih qh) fun z ri ⟨y, Hi, Ii, ry, k, f, c, ey, hSi, room, nx⟩ => ?_
      subst ey
      refine thnF (mt_sadd (X := X.blk rc Hc scope inner held) _ ri τ Hi (.ref S) [.int k] (.ref S) [z] (fun _ G => Nx G) Ii rfl (.cons ry .nil) ⟨S, k, f, c, rfl, rfl, hSi, room, nx⟩) fun _ rj ⟨_, Hj, Ij, _, qj⟩ => ?_
      obtain ⟨m', hm, w'⟩ := nxt Hj qj
      have pin1 : ∀ b ∈ held, ∀ o, rg.heap.get? b = some o → rj.heap.get? b = some o ∧ Hj b = none := fun b hb o e =>
        let z := Ij.pin (b, o) (List.mem_append_right _ (List.mem_append_right _ (mem_pinsAt hb e)))
        ⟨z.1, z.2.1⟩
      refine ⟨m', hm, i + 1, Hj, (Ij.unpinned (pins := [])).weak (by rw [← wh, wipe_length]) (fun j v e => ?_), T.keep _ _ _ stg fun b hb o e => (pin1 b hb o e).1, fun b hb => ?_, w'⟩
      · rw [← wh] at e
        exact (wipe_some e).1
      · obtain ⟨o, e, _⟩ := T.obj _ _ stg b hb
        exact (pin1 b hb o e).2
  exact codeAny_compStart_set go (T.self X.A 0 _ _ _ std go)
/-- len of such a set -/
def rLenSO (w : World) : List V → Hp → VK → Prop := fun xs H Q => ∃ (a : Addr) (f : Int → Bool) (n : Nat), xs = [.ref a] ∧ H a = some (SetO w a f n) ∧ n < 1000 ∧ Q (.int n) H
theorem cr_lenSO : CallR X (.builtin "len") (rLenSO X.w) := by
  intro pins s σ H xs us Q I r h
  obtain ⟨a, f, n, rfl, ha, hn, q⟩ := h
  obtain ⟨u, rfl, rx⟩ := vals1 r
  cases rx
  obtain ⟨o, es, ep, t, ho, hex, hd, _, _, _, hf, hz⟩ := (setO_get I ha).setOf (P := X.prog)
  exact call_len_set ho hex hd hf (by rw [hz]; omega) ⟨.int n, H, I.tok _, ⟨_, by rw [hz]⟩, q⟩
end
section
variable {X : Cx} {C : Cs} {ρ : Rho} {mu : Mu} {pos pos2 p : Pos}
/-- len({k for .. in ..}), the k all differ -/
theorem ee_lenSC {α : Type} (L : List α) (g : α → D) (kf : α → Int) {tg iter kx : Expr} {scope : Scope} {own : List (Str × Nat)} (hm : X.mg "len" = none) (ei : EI X C ρ mu tg iter (L.map g)) (hN : X.N.Nodup) (ok : BlkOk X.N X.env.scope scope own) (hj : ∀ l j xs, mu = some (l, j, xs) → j ∉ own.map (·.2)) (hz : L.length ≤ 100) (nd : (L.map kf).Nodup)
    (body : ∀ x, x ∈ L → ∃ ρ2, Blk X scope (fun Y => EG Y C mu (own.map (·.2)) tg (g x) (wr ρ (own.map (·.2))) ρ2) ∧ Blk X scope (fun Y => EE Y C ρ2 mu kx (.int (kf x))))
    (hc : X.calm = true := by rfl) (hs : ∀ x, foldedSetIterable iter X.env x = pure x := by intro _; rfl) (hg : Gl X "len" := by rfl) (he : starEach [.SetComp kx [⟨tg, iter, [], 0⟩] scope pos] X.env = (false, eval (.SetComp kx [⟨tg, iter, [], 0⟩] scope pos) X.env) :: starEach [] X.env := by rfl)
    (hpl : (backTo pos2 (starEach [] X.env)).any (·.1) = false := by rfl) : EE X C ρ mu (.Call (.Name "len" p) [.SetComp kx [⟨tg, iter, [], 0⟩] scope pos] [] pos2) (.int L.length) := by
  obtain ⟨wi, pi, vi⟩ := ei
  have pg0 : ∀ (s : Shared) (H : Hp) (c : Addr) (cl : List (Str × Addr)) (fp : List Addr), PG (X.blk s H scope (compEnvC scope cl c X.env) fp) tg (fun v σ H Q => Blk X scope fun Y => ∃ g, PG Y tg g ∧ g v σ H Q) := fun s0 H0 c0 cl fp => ⟨fun pins s σ H v u Q I r q => let ⟨g, p, q⟩ := q s0 H0 c0 cl fp; p.run pins s σ H v u Q I r q⟩
  have pk0 : ∀ (s : Shared) (H : Hp) (c : Addr) (cl : List (Str × Addr)) (fp : List Addr), PE (X.blk s H scope (compEnvC scope cl c X.env) fp) kx (fun σ H Q => Blk X scope fun Y => ∃ t, PE Y kx t ∧ t σ H Q) := fun s0 H0 c0 cl fp => ⟨fun pins s σ H Q I q => let ⟨g, p, q⟩ := q s0 H0 c0 cl fp; p.run pins s σ H Q I q⟩
  refine ⟨_, pe_callB cr_lenSO hg hm PySem.boot_len (pa_cons (pe_scN hc hN pi ok pg0 pk0 hs) pa_nil he) (by decide) (by decide) he hpl, fun G σ H okE Q q => vi G σ H okE _ fun J H1 e1 yl Sn hS => ?_⟩
  have ok1 := okE.mono e1
  have nl : (L.map g).length = L.length := List.length_map ..
  refine ⟨fun i m H' => i ≤ L.length ∧ m = L.length - i ∧ Ex H1 H' ∧ H' Sn = some (SetO X.w Sn (fun k => decide (k ∈ (L.take i).map kf)) i), ⟨L.length, Nat.zero_le _, rfl, Ex.new hS, upd_same⟩, ?_⟩
  rintro i m H' ⟨hi, rfl, x1, hacc⟩
  by_cases hlt : i < L.length
  · have hx : L[i]? = some L[i] := List.getElem?_eq_getElem hlt
    generalize L[i] = a at hx
    have hd' : (L.map g)[i]? = some (g a) := by rw [List.getElem?_map, hx]; rfl
    have tk : (L.take (i + 1)).map kf = (L.take i).map kf ++ [kf a] := by rw [List.take_add_one, hx, List.map_append]; rfl
    have new : kf a ∉ (L.take i).map kf := fun z => by
      have h1 : ((L.take (i + 1)).map kf).Nodup := List.Sublist.nodup ((List.take_sublist (i + 1) L).map kf) nd
      rw [tk, List.nodup_append] at h1
      exact h1.2.2 _ z _ (List.mem_singleton.mpr rfl) rfl
    obtain ⟨ρ2, tgt, kk⟩ := body a (List.mem_of_getElem? hx)
    refine .inr ⟨yl.go i H' _ (hole_le.trans x1) hd', fun H3 => Ex H1 H3 ∧ H3 Sn = some (SetO X.w Sn (fun k => decide (k ∈ (L.take (i + 1)).map kf)) (i + 1)), fun H3 q => ⟨L.length - (i + 1), by omega, hlt, rfl, q⟩, fun x H2 y => ?_⟩
    obtain ⟨x2, r2⟩ := yl.yl i H' _ x H2 (hole_le.trans x1) hd' y
    have okw : EnvOk X.K C G (L2.wipe σ (own.map (·.2))) H2 (wr ρ (own.map (·.2))) mu := ((ok1.mono x1).mono x2).wipe _ hj
    intro s0 H0 c0 cl fp
    obtain ⟨gg, pg, vg⟩ := tgt s0 H0 c0 cl fp
    refine ⟨gg, pg, vg G _ H2 x okw r2 _ fun σ2 ok2 w2 => ⟨by rw [w2, wipe_wipe], ?_⟩⟩
    intro s0 H0 c0 cl fp
    obtain ⟨tk', pk, vk⟩ := kk s0 H0 c0 cl fp
    refine ⟨tk', pk, vk G σ2 H2 ok2 _ fun v H3 x3 r3 => ?_⟩
    cases r3
    have xx : Ex H' H3 := x2.trans x3
    refine ⟨kf a, _, i, rfl, xx.at hacc, Nat.lt_of_le_of_lt (Nat.succ_le_succ (Nat.le_trans hi hz)) (by decide), (x1.trans xx).mut hS, ?_⟩
    rw [upd_same, if_neg (by rw [decide_eq_true_iff]; exact new), tk]
    congr 2
    funext j
    by_cases q1 : j ∈ (L.take i).map kf
    · rw [decide_eq_true q1, decide_eq_true (List.mem_append_left _ q1)]; rfl
    · by_cases q2 : j = kf a
      · rw [decide_eq_true q2, Bool.or_true, decide_eq_true (List.mem_append_right _ (List.mem_singleton.mpr q2))]
      · rw [decide_eq_false q1, decide_eq_false q2, decide_eq_false fun z => (List.mem_append.mp z).elim q1 fun z => q2 (List.mem_singleton.mp z)]; rfl
  · have ei : i = L.length := by omega
    subst ei
    refine .inl ⟨by have := yl.stop H' (hole_le.trans x1); rwa [nl] at this, ?_⟩
    exact ⟨Sn, _, L.length, rfl, hacc, by omega, q _ H' (e1.trans x1) .int⟩
/-- least <= value <= most, as a test -/
theorem eb_chain {a b c : Expr} {i j k : Int} (ha : EE X C ρ mu a (.int i)) (hb : EE X C ρ mu b (.int j)) (hc : EE X C ρ mu c (.int k)) (hm : lastMarks [CmpOp.LtE, CmpOp.LtE] [b, c] = false := by rfl) : EB X C ρ mu (.Compare a [.LtE, .LtE] [b, c] pos) (decide (i ≤ j) && decide (j ≤ k)) := by
  obtain ⟨ta, pa, va⟩ := ha
  obtain ⟨tb, pb, vb⟩ := hb
  obtain ⟨tc, pc, vc⟩ := hc
  refine ⟨_, pt_chain op_le op_le pa pb pc hm, fun G σ H ok Q q => va G σ H ok _ fun v1 H1 e1 r1 => vb G σ H1 (ok.mono e1) _ fun v2 H2 e2 r2 => ?_⟩
  cases r1
  cases r2
  refine ⟨i, j, rfl, rfl, decide (i ≤ j), rfl, ?_⟩
  by_cases h : i ≤ j
  · rw [decide_eq_true h]
    show tc σ H2 _
    refine vc G σ H2 ((ok.mono e1).mono e2) _ fun v3 H3 e3 r3 => ?_
    cases r3
    refine ⟨j, k, rfl, rfl, decide (j ≤ k), rfl, ?_⟩
    have z := q H3 ((e1.trans e2).trans e3)
    rwa [decide_eq_true h, Bool.true_and] at z
  · rw [decide_eq_false h]
    show ∃ t, V.bl false = V.bl t ∧ Q t H2
    refine ⟨false, rfl, ?_⟩
    have z := q H2 (e1.trans e2)
    rwa [decide_eq_false h, Bool.false_and] at z
end
end Dd
set_option maxHeartbeats 2000000
/-! The defs: round maps told. Printed by gen/w12.py. -/
namespace Dd
open PySem PySem.Spec PyProof.Rows L2 Evl
section
variable {P : Program} {w : World} {K : PySem.W.Frag} {mg : Str → Option Value} {base : Heap} {C : Cs}

theorem map_gt (vs : List Int) : vs = (rgs 0 vs.length).map (gt vs) := by
  refine List.ext_getElem? fun i => ?_
  rw [List.getElem?_map]
  by_cases h : i < vs.length
  · have e1 : (rgs 0 vs.length)[i]? = some (i : Int) := by simp [rgs, h]
    rw [e1]
    simp [gt, List.getD, List.getElem?_eq_getElem h]
  · rw [List.getElem?_eq_none (by omega), List.getElem?_eq_none (by rw [rgs_len]; omega)]
    rfl
theorem Rok.nd {vs : List Int} (ok : Rok vs) : (vs.map fun x => x % (vs.length : Int)).Nodup := by
  have e : (vs.map fun x => x % (vs.length : Int)) = (rgs 0 vs.length).map fun i => gt vs i % vs.length := by
    conv => lhs; arg 2; rw [map_gt vs]
    rw [List.map_map]
    rfl
  rw [e]
  refine nd_map _ _ (rgs_nd _) fun x hx y hy z => ?_
  have h1 := rgs_mem hx
  have h2 := rgs_mem hy
  exact ok.inj x y h1.1 (by omega) h2.1 (by omega) z
abbrev N_is_round_in : List Str := ["value", "one"]
theorem sc_is_round_in : FnScope N_is_round_in ["value"] (defScope (top 35)) := ⟨rfl, rfl, rfl, by decide +kernel, rfl, by decide +kernel, by decide +kernel⟩
theorem fd_is_round_in (W : Wd mg) (D0 : Df K mg "is_round_in" (top 35)) (F_is_integer : Fd P w K mg base C 6 "is_integer" f_is_integer) : Fd P w K mg base C 9 "is_round_in" f_is_round_in := by
  refine Fd.mk (lv := 8) D0 sc_is_round_in (fun _ _ _ _ _ _ us hl => match us, hl with | [_], _ => rfl) (by decide) (fun ds d hf => by obtain ⟨vs, hds, _⟩ := hf; rw [hds]; rfl) fun fa cdv A outer s H E ds d hr hf => ?_
  obtain ⟨vs, rfl, ok, rfl⟩ := hf
  obtain ⟨z0, z1⟩ := ok.sz
  refine ss_c (s1_if (t := false) (EB.is (eb_w (ew_or (eb_not (eb_val (ee_isTup W.isinstance W.tuple (ee_var 0)))) (fun h_ => (ew_or1 (eb_not (eb_chain ee_int (ee_lenI W.len (ee_var 0)) (ee_num W.MAX_ROUND))))))) ?_) (by intro h; cases h) (fun _ => ss_nil ?_))
  · rw [decide_eq_true (by omega), decide_eq_true (by omega)]; rfl
  refine ss_c (s1_if (t := false) (EB.is (eb_not (eb_val (ee_allL (bs := vs.map fun _ => true) W.all (EL.ee (EL.is (el_map (own := [("one", 1)]) vs (D.int) (fun _ => .bl true) (ei_src (es_tup (ee_var 0) (.inl rfl))) sc_is_round_in.nd (blkOk_by (N := N_is_round_in) (sc := defScope (top 35)) (by decide +kernel)) (by intro _ _ _ z; cases z) (by omega) (fun v hx =>  turn_e (fun _ _ _ _ _ => (eg_name 1 sc_is_round_in.nd may0)) .bl (fun _ _ _ _ _ => (ee_call F_is_integer (hr.mono (by decide)) (ea_c (ee_var 1) ea_no) ⟨_, rfl, ok.sm v hx, rfl⟩)))) (by rw [List.map_map]; rfl)))))) ?_) (by intro h; cases h) (fun _ => ss_nil ?_))
  · rw [all_true fun _ _ => rfl]; rfl
  refine ss_1 (s1_ret (EE.is (ee_eqI (ee_lenSC (own := [("one", 1)]) vs D.int (fun x => x % vs.length) W.len (ei_src (es_tup (ee_var 0) (.inl rfl))) sc_is_round_in.nd (blkOk_by (N := N_is_round_in) (sc := defScope (top 35)) (by decide +kernel)) (by intro _ _ _ z; cases z) (by omega) ok.nd
    (fun x hx => ⟨_, (fun _ _ _ _ _ => (eg_name 1 sc_is_round_in.nd may0)), (fun _ _ _ _ _ => (ee_mod (ee_var 1) (ee_lenI W.len (ee_var 0)) (by omega)))⟩)) (ee_lenI W.len (ee_var 0))) (by rw [decide_eq_true rfl])) rfl)
end
end Dd
set_option maxHeartbeats 2000000
/-! zip whose pairs are kept: list(zip(..)), enumerate(zip(..)). -/
namespace Dd
open PySem PySem.Spec PyProof.Rows L2 Evl
section
variable {prog : Program} {w : World} {A : Around} {E : Value → Shared → Prop} {s : Shared} {z TI TO T i1 i2 : Addr} {fp1 fp2 : List Addr} {n1 n2 i : Nat} {P1 P2 : Nat → Value → Prop} {St1 St2 : Nat → Heap → Prop} {f : Bool} {oT : Obj}
/-- one pair more, the tuple T of before being kept somewhere -/
theorem zh_item {Q : Value → Shared → Prop} (S : ZipSep2 z TI TO i1 i2 fp1 fp2) (D1 : Draws prog w A i1 fp1 n1 P1 St1) (D2 : Draws prog w A i2 fp2 n2 P2 St2) (hz : IsZipHeld s.heap z TI TO T f) (hT : s.heap.get? T = some oT)
    (hTI : IsTupOf2 s.heap TI (.ref i1) (.ref i2)) (st1 : St1 i s.heap) (st2 : St2 i s.heap) (l1 : i < n1) (l2 : i < n2)
    (hQ : ∀ x1 x2 h' tk, P1 i x1 → P2 i x2 → IsZipHeld h' z TI TO T true → St1 (i + 1) h' → St2 (i + 1) h' → IsTupOf2 h' s.heap.objs.size x1 x2 → h'.objs.size = s.heap.objs.size + 1 →
      (∀ c o, c ≠ z → c ≠ i1 → c ≠ i2 → s.heap.get? c = some o → h'.get? c = some o) → Q (.ref s.heap.objs.size) { s with heap := h', toks := tk }) :
    wpAny (model prog w) A (Builtin.«zip.__next__» ⟨[.ref z], []⟩) (fun fin s' => ∃ v, fin = .done (.ret v) ∧ Q v s') E s := by
  obtain ⟨hp, gg, dr, tk0, os⟩ := s
  show wpAny _ _ (field (.ref z) 2 >>= _) _ _ _
  refine wpAny_bind (wpAny_field hz rfl (x := .bool false) rfl ?_)
  show wpAny _ _ (field (.ref z) 3 >>= _) _ _ _
  refine wpAny_bind (wpAny_field hz rfl (x := .ref TI) rfl ?_)
  refine wpAny_bind (wpAny_seqItems hTI rfl ?_)
  show wpAny _ _ (Builtin.SmallTypes.ownedTupleIsFree (.ref z) >>= _) _ _ _
  refine wpAny_bind (wpAny_tupleHeld_zip hz hT fun a0 za sa => ?_)
  replace sa : Heap.SameBut z hp a0 := sa
  simp only [Bool.false_eq_true, if_false]
  refine wpAny_bind ?_
  rw [← Array.forIn_toList]
  simp only [List.forIn_cons, List.forIn_nil]
  refine wpAny_bind (wpAny_bind (wpAny_holding ?_))
  show wpAny _ _ (Builtin.SmallTypes.nextOf (.ref i1) >>= _) _ _ ⟨a0, gg, dr, tk0, os⟩
  refine wpAny_bind (D1.item i ⟨a0, gg, dr, tk0, os⟩ _ _ l1 (D1.over st1 sa S.zf1) fun x1 b0 tk1 hx1 sb1 sb => wpAny_pure ?_)
  replace sb : Heap.SameBut i1 a0 b0 := sb
  refine wpAny_pure ?_
  refine wpAny_bind (wpAny_bind (wpAny_holding ?_))
  show wpAny _ _ (Builtin.SmallTypes.nextOf (.ref i2) >>= _) _ _ ⟨b0, gg, dr, tk1, os⟩
  refine wpAny_bind (D2.item i ⟨b0, gg, dr, tk1, os⟩ _ _ l2 (D2.over (D2.over st2 sa S.zf2) sb S.sep1_2) fun x2 c0 tk2 hx2 sc2 sc => wpAny_pure ?_)
  replace sc : Heap.SameBut i2 b0 c0 := sc
  refine wpAny_pure (wpAny_pure ?_)
  show wpAny _ _ (newTuple [x1, x2] >>= _) _ _ _
  refine wpAny_bind (wpAny_newTuple ?_)
  have size : c0.objs.size = hp.objs.size := by rw [sc.1, sb.1, sa.1]
  have zc : IsZipHeld c0 z TI TO T true := sc.extBut _ _ S.zi2 (sb.extBut _ _ S.zi1 za)
  have keep : ∀ c o, c ≠ z → c ≠ i1 → c ≠ i2 → hp.get? c = some o → c0.get? c = some o := fun c o k1 k2 k3 e => sc.extBut _ _ k3 (sb.extBut _ _ k2 (sa.extBut _ _ k1 e))
  refine wpAny_pure ⟨_, rfl, ?_⟩
  show Q (.ref c0.objs.size) _
  have pair : IsTupOf2 (c0.push { cls := .type "tuple", data := .seq #[x1, x2] }) c0.objs.size x1 x2 := Heap.get?_push_size _ rfl
  have more : (c0.push { cls := .type "tuple", data := .seq #[x1, x2] }).objs.size = c0.objs.size + 1 := Heap.size_push ..
  rw [size] at pair more ⊢
  exact hQ x1 x2 _ tk2 hx1 hx2 (Heap.get?_push_of_some _ zc) (D1.frame _ _ _ (D1.over sb1 sc S.sep2_1) fun _ _ _ e => Heap.get?_push_of_some _ e) (D2.frame _ _ _ sc2 fun _ _ _ e => Heap.get?_push_of_some _ e) pair more
    fun c o k1 k2 k3 e => Heap.get?_push_of_some _ (keep c o k1 k2 k3 e)
/-- no pair more -/
theorem zh_end {Q : Fin → Shared → Prop} (S : ZipSep2 z TI TO i1 i2 fp1 fp2) (D1 : Draws prog w A i1 fp1 n1 P1 St1) (D2 : Draws prog w A i2 fp2 n2 P2 St2) (hz : IsZipHeld s.heap z TI TO T f) (hT : s.heap.get? T = some oT)
    (hTI : IsTupOf2 s.heap TI (.ref i1) (.ref i2)) (st1 : St1 i s.heap) (st2 : St2 i s.heap) (l1 : i ≤ n1) (l2 : i ≤ n2) (stop : i = n1 ∨ i = n2)
    (hE : ∀ h' tk e, (∀ c o, c ≠ z → c ≠ TO → c ≠ i1 → c ≠ i2 → s.heap.get? c = some o → h'.get? c = some o) → (∃ o, h'.get? e = some o ∧ o.cls = .type "StopIteration") → E (.ref e) { s with heap := h', toks := tk }) :
    wpAny (model prog w) A (Builtin.«zip.__next__» ⟨[.ref z], []⟩) Q E s := by
  obtain ⟨hp, gg, dr, tk0, os⟩ := s
  show wpAny _ _ (field (.ref z) 2 >>= _) _ _ _
  refine wpAny_bind (wpAny_field hz rfl (x := .bool false) rfl ?_)
  show wpAny _ _ (field (.ref z) 3 >>= _) _ _ _
  refine wpAny_bind (wpAny_field hz rfl (x := .ref TI) rfl ?_)
  refine wpAny_bind (wpAny_seqItems hTI rfl ?_)
  show wpAny _ _ (Builtin.SmallTypes.ownedTupleIsFree (.ref z) >>= _) _ _ _
  refine wpAny_bind (wpAny_tupleHeld_zip hz hT fun a0 za sa => ?_)
  replace sa : Heap.SameBut z hp a0 := sa
  simp only [Bool.false_eq_true, if_false]
  refine wpAny_bind ?_
  rw [← Array.forIn_toList]
  simp only [List.forIn_cons, List.forIn_nil]
  refine wpAny_bind (wpAny_bind (wpAny_holding ?_))
  show wpAny _ _ (Builtin.SmallTypes.nextOf (.ref i1) >>= _) _ _ ⟨a0, gg, dr, tk0, os⟩
  by_cases h1 : i = n1
  · subst h1
    refine wpAny_bind (D1.done ⟨a0, gg, dr, tk0, os⟩ _ _ (D1.over st1 sa S.zf1) fun b0 e sb stp => ?_)
    exact hE b0 tk0 e (fun c o k1 k2 k3 k4 y => sb _ _ k3 (sa.extBut _ _ k1 y)) stp
  · have h2 : i = n2 := stop.resolve_left h1
    subst h2
    refine wpAny_bind (D1.item i ⟨a0, gg, dr, tk0, os⟩ _ _ (by omega) (D1.over st1 sa S.zf1) fun x1 b0 tk1 hx1 sb1 sb => wpAny_pure ?_)
    replace sb : Heap.SameBut i1 a0 b0 := sb
    refine wpAny_pure ?_
    refine wpAny_bind (wpAny_bind (wpAny_holding ?_))
    show wpAny _ _ (Builtin.SmallTypes.nextOf (.ref i2) >>= _) _ _ ⟨b0, gg, dr, tk1, os⟩
    refine wpAny_bind (D2.done ⟨b0, gg, dr, tk1, os⟩ _ _ (D2.over (D2.over st2 sa S.zf2) sb S.sep1_2) fun c0 e sc stp => ?_)
    exact hE c0 tk1 e (fun c o k1 k2 k3 k4 y => sc _ _ k4 (sb.extBut _ _ k3 (sa.extBut _ _ k1 y))) stp
/-- a zip between two pairs -/
abbrev ZCel (h : Heap) (z TI TO : Addr) (x : Value) (f : Bool) : Prop := h.get? z = some { cls := .type "zip", dict := none, data := .fields #[x, .bool f, .bool false, .ref TI, .ref TO], slots := #[] }
theorem dead_at {a : Addr} {Q : Option Obj → Shared → Prop} (ho : s.heap.get? a = none) (h : Q none s) : wpAny (model prog w) A (loadIfAlive a) Q E s := by
  have h' : Q (s.heap.get? a) s := by rw [ho]; exact h
  exact fun _ _ _ => h'
variable {a1 a2 : Value}
/-- one pair more, the tuple of before gone -/
theorem zd_item {Q : Value → Shared → Prop} (S : ZipSep2 z TI TO i1 i2 fp1 fp2) (D1 : Draws prog w A i1 fp1 n1 P1 St1) (D2 : Draws prog w A i2 fp2 n2 P2 St2) (hz : IsZipHeld s.heap z TI TO T f) (hT : s.heap.get? T = none)
    (hTI : IsTupOf2 s.heap TI (.ref i1) (.ref i2)) (hTO : IsTupOf2 s.heap TO a1 a2) (st1 : St1 i s.heap) (st2 : St2 i s.heap) (l1 : i < n1) (l2 : i < n2)
    (hQ : ∀ x1 x2 h' tk, P1 i x1 → P2 i x2 → IsZipHeld h' z TI TO s.heap.objs.size false → IsTupOf2 h' TO x1 x2 → St1 (i + 1) h' → St2 (i + 1) h' → IsTupOf2 h' s.heap.objs.size x1 x2 → h'.objs.size = s.heap.objs.size + 1 →
      (∀ c o, c ≠ z → c ≠ TO → c ≠ i1 → c ≠ i2 → s.heap.get? c = some o → h'.get? c = some o) → Q (.ref s.heap.objs.size) { s with heap := h', toks := tk }) :
    wpAny (model prog w) A (Builtin.«zip.__next__» ⟨[.ref z], []⟩) (fun fin s' => ∃ v, fin = .done (.ret v) ∧ Q v s') E s := by
  obtain ⟨hp, gg, dr, tk0, os⟩ := s
  show wpAny _ _ (field (.ref z) 2 >>= _) _ _ _
  refine wpAny_bind (wpAny_field hz rfl (x := .bool false) rfl ?_)
  show wpAny _ _ (field (.ref z) 3 >>= _) _ _ _
  refine wpAny_bind (wpAny_field hz rfl (x := .ref TI) rfl ?_)
  refine wpAny_bind (wpAny_seqItems hTI rfl ?_)
  show wpAny _ _ (Builtin.SmallTypes.ownedTupleIsFree (.ref z) >>= _) _ _ _
  refine wpAny_bind ?_
  unfold Builtin.SmallTypes.ownedTupleIsFree
  refine wpAny_bind (wpAny_field hz rfl (x := rawInt T) rfl ?_)
  show wpAny _ _ (loadIfAlive ((T : Int).toNat) >>= _) _ _ _
  rw [Int.toNat_natCast]
  refine wpAny_bind (dead_at hT ?_)
  simp only [Option.isNone_none, if_true]
  refine wpAny_pure ?_
  refine wpAny_bind (wpAny_rule ?_)
  refine wpAny_bind (wpAny_field hz rfl (x := .ref TO) rfl ?_)
  refine wpAny_bind (wpAny_setField_rec hz (by simp) fun ha za sa => ?_)
  replace za : ZCel ha z TI TO .ellipsis f := za
  replace sa : Heap.SameBut z hp ha := sa
  refine wpAny_bind ?_
  simp only [List.zipIdx_cons, List.zipIdx_nil, List.forIn_cons, List.forIn_nil]
  refine wpAny_bind (wpAny_bind (wpAny_onRaise ?_))
  show wpAny _ _ (Builtin.SmallTypes.nextOf (.ref i1) >>= _) _ _ ⟨ha, gg, dr, tk0, os⟩
  refine wpAny_bind (D1.item i ⟨ha, gg, dr, tk0, os⟩ _ _ l1 (D1.over st1 sa S.zf1) fun x1 hb tk1 px1 sb1 sb => wpAny_pure ?_)
  replace sb : Heap.SameBut i1 ha hb := sb
  have Ub : IsTupOf2 hb TO a1 a2 := sb.extBut _ _ S.Ti1 (sa.extBut _ _ S.TOz hTO)
  refine wpAny_bind (wpAny_seqItems (s := ⟨hb, gg, dr, tk1, os⟩) Ub rfl ?_)
  refine wpAny_bind (updateSeq_IsTupOf2 (s := ⟨hb, gg, dr, tk1, os⟩) Ub fun hc Uc sc => ?_)
  replace Uc : IsTupOf2 hc TO x1 a2 := Uc
  replace sc : Heap.SameBut TO hb hc := sc
  refine wpAny_bind (wpAny_letGo (wpAny_pure ?_))
  refine wpAny_bind (wpAny_bind (wpAny_onRaise ?_))
  show wpAny _ _ (Builtin.SmallTypes.nextOf (.ref i2) >>= _) _ _ ⟨hc, gg, dr, tk1, os⟩
  refine wpAny_bind (D2.item i ⟨hc, gg, dr, tk1, os⟩ _ _ l2 (D2.over (D2.over (D2.over st2 sa S.zf2) sb S.sep1_2) sc S.Tf2) fun x2 hd tk2 px2 sd2 sd => wpAny_pure ?_)
  replace sd : Heap.SameBut i2 hc hd := sd
  have Ud : IsTupOf2 hd TO x1 a2 := sd.extBut _ _ S.Ti2 Uc
  refine wpAny_bind (wpAny_seqItems (s := ⟨hd, gg, dr, tk2, os⟩) Ud rfl ?_)
  refine wpAny_bind (updateSeq_IsTupOf2 (s := ⟨hd, gg, dr, tk2, os⟩) Ud fun hf Uf sf => ?_)
  replace Uf : IsTupOf2 hf TO x1 x2 := Uf
  replace sf : Heap.SameBut TO hd hf := sf
  refine wpAny_bind (wpAny_letGo (wpAny_pure (wpAny_pure ?_)))
  refine wpAny_bind (wpAny_seqItems (s := ⟨hf, gg, dr, tk2, os⟩) Uf rfl ?_)
  refine wpAny_bind (wpAny_newTuple ?_)
  have size : hf.objs.size = hp.objs.size := by rw [sf.1, sd.1, sc.1, sb.1, sa.1]
  have zf : ZCel hf z TI TO .ellipsis f := sf.extBut _ _ S.TOz.symm (sd.extBut _ _ S.zi2 (sc.extBut _ _ S.TOz.symm (sb.extBut _ _ S.zi1 za)))
  have keep : ∀ c o, c ≠ z → c ≠ TO → c ≠ i1 → c ≠ i2 → hp.get? c = some o → hf.get? c = some o := fun c o k1 k2 k3 k4 e =>
    sf.extBut _ _ k2 (sd.extBut _ _ k4 (sc.extBut _ _ k2 (sb.extBut _ _ k3 (sa.extBut _ _ k1 e))))
  have r1 : St1 (i + 1) hf := D1.over (D1.over (D1.over sb1 sc S.Tf1) sd S.sep2_1) sf S.Tf1
  have r2 : St2 (i + 1) hf := D2.over sd2 sf S.Tf2
  have zl : z < hf.objs.size := Heap.lt_size zf
  show wpAny _ _ (Builtin.SmallTypes.ownedTupleHandOut (.ref z) (.ref hf.objs.size) >>= _) _ _ ⟨hf.push { cls := .type "tuple", data := .seq #[x1, x2] }, gg, dr, tk2, os⟩
  refine wpAny_bind ?_
  unfold Builtin.SmallTypes.ownedTupleHandOut
  have zg : ZCel (hf.push { cls := .type "tuple", data := .seq #[x1, x2] }) z TI TO .ellipsis f := Heap.get?_push_of_some _ zf
  refine wpAny_bind (wpAny_setField_rec zg (by simp) fun hj zj sj => ?_)
  replace zj : ZCel hj z TI TO (rawInt hf.objs.size) f := zj
  refine wpAny_setField_rec zj (by simp) fun hk zk sk => ?_
  replace zk : ZCel hk z TI TO (rawInt hf.objs.size) false := zk
  replace sj : Heap.SameBut z (hf.push { cls := .type "tuple", data := .seq #[x1, x2] }) hj := sj
  replace sk : Heap.SameBut z hj hk := sk
  have up : ∀ c o, c ≠ z → hf.get? c = some o → hk.get? c = some o := fun c o k1 e => sk.extBut _ _ k1 (sj.extBut _ _ k1 (Heap.get?_push_of_some _ e))
  have pr : IsTupOf2 hk hf.objs.size x1 x2 := sk.extBut _ _ (Nat.ne_of_gt zl) (sj.extBut _ _ (Nat.ne_of_gt zl) (Heap.get?_push_size _ rfl))
  have more : hk.objs.size = hf.objs.size + 1 := by rw [sk.1, sj.1, Heap.size_push]
  rw [size] at zk pr more
  refine wpAny_pure ⟨_, rfl, ?_⟩
  show Q (.ref hf.objs.size) ⟨hk, gg, dr, tk2, os⟩
  rw [size]
  exact hQ x1 x2 hk tk2 px1 px2 zk (up _ _ S.TOz Uf) (D1.frame _ _ _ r1 fun b hb o e => up b o (fun q => S.zf1 (q ▸ hb)) e) (D2.frame _ _ _ r2 fun b hb o e => up b o (fun q => S.zf2 (q ▸ hb)) e) pr more fun c o k1 k2 k3 k4 e => up c o k1 (keep c o k1 k2 k3 k4 e)
theorem zd_end {Q : Fin → Shared → Prop} (S : ZipSep2 z TI TO i1 i2 fp1 fp2) (D1 : Draws prog w A i1 fp1 n1 P1 St1) (D2 : Draws prog w A i2 fp2 n2 P2 St2) (hz : IsZipHeld s.heap z TI TO T f) (hT : s.heap.get? T = none)
    (hTI : IsTupOf2 s.heap TI (.ref i1) (.ref i2)) (hTO : IsTupOf2 s.heap TO a1 a2) (st1 : St1 i s.heap) (st2 : St2 i s.heap) (l1 : i ≤ n1) (l2 : i ≤ n2) (stop : i = n1 ∨ i = n2)
    (hE : ∀ h' tk e, (∀ c o, c ≠ z → c ≠ TO → c ≠ i1 → c ≠ i2 → s.heap.get? c = some o → h'.get? c = some o) → (∃ o, h'.get? e = some o ∧ o.cls = .type "StopIteration") → E (.ref e) { s with heap := h', toks := tk }) :
    wpAny (model prog w) A (Builtin.«zip.__next__» ⟨[.ref z], []⟩) Q E s := by
  obtain ⟨hp, gg, dr, tk0, os⟩ := s
  show wpAny _ _ (field (.ref z) 2 >>= _) _ _ _
  refine wpAny_bind (wpAny_field hz rfl (x := .bool false) rfl ?_)
  show wpAny _ _ (field (.ref z) 3 >>= _) _ _ _
  refine wpAny_bind (wpAny_field hz rfl (x := .ref TI) rfl ?_)
  refine wpAny_bind (wpAny_seqItems hTI rfl ?_)
  show wpAny _ _ (Builtin.SmallTypes.ownedTupleIsFree (.ref z) >>= _) _ _ _
  refine wpAny_bind ?_
  unfold Builtin.SmallTypes.ownedTupleIsFree
  refine wpAny_bind (wpAny_field hz rfl (x := rawInt T) rfl ?_)
  show wpAny _ _ (loadIfAlive ((T : Int).toNat) >>= _) _ _ _
  rw [Int.toNat_natCast]
  refine wpAny_bind (dead_at hT ?_)
  simp only [Option.isNone_none, if_true]
  refine wpAny_pure ?_
  refine wpAny_bind (wpAny_rule ?_)
  refine wpAny_bind (wpAny_field hz rfl (x := .ref TO) rfl ?_)
  refine wpAny_bind (wpAny_setField_rec hz (by simp) fun ha za sa => ?_)
  replace za : ZCel ha z TI TO .ellipsis f := za
  replace sa : Heap.SameBut z hp ha := sa
  refine wpAny_bind ?_
  simp only [List.zipIdx_cons, List.zipIdx_nil, List.forIn_cons, List.forIn_nil]
  refine wpAny_bind (wpAny_bind (wpAny_onRaise ?_))
  show wpAny _ _ (Builtin.SmallTypes.nextOf (.ref i1) >>= _) _ _ ⟨ha, gg, dr, tk0, os⟩
  by_cases q1 : i = n1
  · subst q1
    refine wpAny_bind (D1.done ⟨ha, gg, dr, tk0, os⟩ _ _ (D1.over st1 sa S.zf1) fun hb e sb stp => ?_)
    replace sb : Heap.ExtBut i1 ha hb := sb
    obtain ⟨oe, hoe, ce⟩ := stp
    replace hoe : hb.get? e = some oe := hoe
    have zb : ZCel hb z TI TO .ellipsis f := sb _ _ S.zi1 za
    have ne : e ≠ z := fun x => by subst x; rw [zb] at hoe; cases hoe; simp at ce
    refine wpAny_setField_rec (s := ⟨hb, gg, dr, tk0, os⟩) zb (by simp) fun hc _ sc => ?_
    replace sc : Heap.SameBut z hb hc := sc
    exact hE hc tk0 e (fun c o k1 k2 k3 k4 y => sc.extBut _ _ k1 (sb _ _ k3 (sa.extBut _ _ k1 y))) ⟨oe, sc.extBut _ _ ne hoe, ce⟩
  · have q2 : i = n2 := stop.resolve_left q1
    subst q2
    refine wpAny_bind (D1.item i ⟨ha, gg, dr, tk0, os⟩ _ _ (by omega) (D1.over st1 sa S.zf1) fun x1 hb tk1 px1 sb1 sb => wpAny_pure ?_)
    replace sb : Heap.SameBut i1 ha hb := sb
    have Ub : IsTupOf2 hb TO a1 a2 := sb.extBut _ _ S.Ti1 (sa.extBut _ _ S.TOz hTO)
    refine wpAny_bind (wpAny_seqItems (s := ⟨hb, gg, dr, tk1, os⟩) Ub rfl ?_)
    refine wpAny_bind (updateSeq_IsTupOf2 (s := ⟨hb, gg, dr, tk1, os⟩) Ub fun hc Uc sc => ?_)
    replace sc : Heap.SameBut TO hb hc := sc
    refine wpAny_bind (wpAny_letGo (wpAny_pure ?_))
    refine wpAny_bind (wpAny_bind (wpAny_onRaise ?_))
    show wpAny _ _ (Builtin.SmallTypes.nextOf (.ref i2) >>= _) _ _ ⟨hc, gg, dr, tk1, os⟩
    refine wpAny_bind (D2.done ⟨hc, gg, dr, tk1, os⟩ _ _ (D2.over (D2.over (D2.over st2 sa S.zf2) sb S.sep1_2) sc S.Tf2) fun hd e sd stp => ?_)
    replace sd : Heap.ExtBut i2 hc hd := sd
    obtain ⟨oe, hoe, ce⟩ := stp
    replace hoe : hd.get? e = some oe := hoe
    have zd : ZCel hd z TI TO .ellipsis f := sd _ _ S.zi2 (sc.extBut _ _ S.TOz.symm (sb.extBut _ _ S.zi1 za))
    have ne : e ≠ z := fun x => by subst x; rw [zd] at hoe; cases hoe; simp at ce
    refine wpAny_setField_rec (s := ⟨hd, gg, dr, tk1, os⟩) zd (by simp) fun hf _ sf => ?_
    replace sf : Heap.SameBut z hd hf := sf
    exact hE hf tk1 e (fun c o k1 k2 k3 k4 y => sf.extBut _ _ k1 (sd _ _ k4 (sc.extBut _ _ k2 (sb.extBut _ _ k3 (sa.extBut _ _ k1 y))))) ⟨oe, sf.extBut _ _ ne hoe, ce⟩
/-- a zip that stands, its pair of before kept or none yet -/
def ZSt (h : Heap) (z TI TO i1 i2 : Addr) : Prop := IsTupOf2 h TI (.ref i1) (.ref i2) ∧ (∃ x y, IsTupOf2 h TO x y) ∧ (IsZip h z TI TO .none ∨ ∃ T f, IsZipHeld h z TI TO T f)
theorem ZSt.here {h : Heap} (st : ZSt h z TI TO i1 i2) : ∃ o, h.get? z = some o ∧ o.cls = .type "zip" ∧ ∀ v, o.data ≠ .cell v := by
  obtain ⟨_, _, q | ⟨_, _, q⟩⟩ := st
  · exact ⟨_, q, rfl, fun v y => nomatch y⟩
  · exact ⟨_, q, rfl, fun v y => nomatch y⟩
theorem zs_item {Q : Value → Shared → Prop} (S : ZipSep2 z TI TO i1 i2 fp1 fp2) (D1 : Draws prog w A i1 fp1 n1 P1 St1) (D2 : Draws prog w A i2 fp2 n2 P2 St2) (st : ZSt s.heap z TI TO i1 i2) (hi1 : i1 < s.heap.objs.size) (hi2 : i2 < s.heap.objs.size)
    (st1 : St1 i s.heap) (st2 : St2 i s.heap) (l1 : i < n1) (l2 : i < n2)
    (hQ : ∀ x1 x2 h' tk, P1 i x1 → P2 i x2 → ZSt h' z TI TO i1 i2 → St1 (i + 1) h' → St2 (i + 1) h' → IsTupOf2 h' s.heap.objs.size x1 x2 → h'.objs.size = s.heap.objs.size + 1 →
      (∀ c o, c ≠ z → c ≠ TO → c ≠ i1 → c ≠ i2 → s.heap.get? c = some o → h'.get? c = some o) → Q (.ref s.heap.objs.size) { s with heap := h', toks := tk }) :
    wpAny (model prog w) A (Builtin.«zip.__next__» ⟨[.ref z], []⟩) (fun fin s' => ∃ v, fin = .done (.ret v) ∧ Q v s') E s := by
  obtain ⟨hTI, ⟨x, y, hTO⟩, hz | ⟨T, f, hz⟩⟩ := st
  · refine zipD2_next_item S D1 D2 hz hTI hTO st1 st2 l1 l2 fun x1 x2 h' tk p1 p2 z' TO' c1 c2 hT sz k => hQ x1 x2 h' tk p1 p2 ⟨k _ _ S.TIz S.TITO S.TIi1 S.TIi2 hTI, ⟨_, _, TO'⟩, .inr ⟨s.heap.objs.size, false, z'⟩⟩ c1 c2 hT sz k
  · cases hT : s.heap.get? T with
    | none => exact zd_item S D1 D2 hz hT hTI hTO st1 st2 l1 l2 fun x1 x2 h' tk p1 p2 z' TO' c1 c2 hT sz k => hQ x1 x2 h' tk p1 p2 ⟨k _ _ S.TIz S.TITO S.TIi1 S.TIi2 hTI, ⟨_, _, TO'⟩, .inr ⟨s.heap.objs.size, false, z'⟩⟩ c1 c2 hT sz k
    | some oT =>
    refine zh_item S D1 D2 hz hT hTI st1 st2 l1 l2 fun x1 x2 h' tk p1 p2 z' c1 c2 pr sz k => hQ x1 x2 h' tk p1 p2 ⟨?_, ⟨x, y, ?_⟩, .inr ⟨T, true, z'⟩⟩ c1 c2 pr sz fun c o k1 k2 k3 k4 e => k c o k1 k3 k4 e
    · exact k _ _ S.TIz S.TIi1 S.TIi2 hTI
    · exact k _ _ S.TOz S.Ti1 S.Ti2 hTO
theorem zs_end {Q : Fin → Shared → Prop} (S : ZipSep2 z TI TO i1 i2 fp1 fp2) (D1 : Draws prog w A i1 fp1 n1 P1 St1) (D2 : Draws prog w A i2 fp2 n2 P2 St2) (st : ZSt s.heap z TI TO i1 i2)
    (st1 : St1 i s.heap) (st2 : St2 i s.heap) (l1 : i ≤ n1) (l2 : i ≤ n2) (stop : i = n1 ∨ i = n2)
    (hE : ∀ h' tk e, (∀ c o, c ≠ z → c ≠ TO → c ≠ i1 → c ≠ i2 → s.heap.get? c = some o → h'.get? c = some o) → (∃ o, h'.get? e = some o ∧ o.cls = .type "StopIteration") → E (.ref e) { s with heap := h', toks := tk }) :
    wpAny (model prog w) A (Builtin.«zip.__next__» ⟨[.ref z], []⟩) Q E s := by
  obtain ⟨hTI, ⟨x, y, hTO⟩, hz | ⟨T, f, hz⟩⟩ := st
  · exact zipD2_next_end S D1 D2 hz hTI hTO st1 st2 l1 l2 stop hE
  · cases hT : s.heap.get? T with
    | none => exact zd_end S D1 D2 hz hT hTI hTO st1 st2 l1 l2 stop hE
    | some oT => exact zh_end S D1 D2 hz hT hTI st1 st2 l1 l2 stop hE
theorem ps_item {Q : Option Value → Shared → Prop} (S : ZipSep2 z TI TO i1 i2 fp1 fp2) (D1 : Draws prog w A.in1 i1 fp1 n1 P1 St1) (D2 : Draws prog w A.in1 i2 fp2 n2 P2 St2) (st : ZSt s.heap z TI TO i1 i2) (hi1 : i1 < s.heap.objs.size) (hi2 : i2 < s.heap.objs.size)
    (st1 : St1 i s.heap) (st2 : St2 i s.heap) (l1 : i < n1) (l2 : i < n2)
    (hQ : ∀ x1 x2 h' tk, P1 i x1 → P2 i x2 → ZSt h' z TI TO i1 i2 → St1 (i + 1) h' → St2 (i + 1) h' → IsTupOf2 h' s.heap.objs.size x1 x2 → h'.objs.size = s.heap.objs.size + 1 →
      (∀ c o, c ≠ z → c ≠ TO → c ≠ i1 → c ≠ i2 → s.heap.get? c = some o → h'.get? c = some o) → Q (some (.ref s.heap.objs.size)) { s with heap := h', toks := tk }) :
    wpAny (model prog w) A (pyNext (.ref z)) Q E s := by
  obtain ⟨oz, hz, cz, _⟩ := st.here
  have ty : s.TypeIs (.ref z) "zip" := ⟨_, hz, cz⟩
  unfold pyNext
  exact wpAny_bind (wpAny_attempt (wpAny_callSpecial?_slot (name := Str.ofString "__next__") ty F.slot_zip_next
    (wpAny_call_entry F.slot_zip_next ty F.entry_zip_next (zs_item S D1 D2 st hi1 hi2 st1 st2 l1 l2 fun x1 x2 h' tk a b c d e f g k => wpAny_pure (hQ x1 x2 h' tk a b c d e f g k)) (F.args_zip_next_1 _))))
theorem ps_end {Q : Option Value → Shared → Prop} (S : ZipSep2 z TI TO i1 i2 fp1 fp2) (D1 : Draws prog w A.in1 i1 fp1 n1 P1 St1) (D2 : Draws prog w A.in1 i2 fp2 n2 P2 St2) (st : ZSt s.heap z TI TO i1 i2)
    (st1 : St1 i s.heap) (st2 : St2 i s.heap) (l1 : i ≤ n1) (l2 : i ≤ n2) (stop : i = n1 ∨ i = n2)
    (hQ : ∀ h' tk, (∀ c o, c ≠ z → c ≠ TO → c ≠ i1 → c ≠ i2 → s.heap.get? c = some o → h'.get? c = some o) → Q none { s with heap := h', toks := tk }) : wpAny (model prog w) A (pyNext (.ref z)) Q E s := by
  obtain ⟨oz, hz, cz, _⟩ := st.here
  have ty : s.TypeIs (.ref z) "zip" := ⟨_, hz, cz⟩
  unfold pyNext
  refine wpAny_bind (wpAny_attempt (wpAny_callSpecial?_slot (name := Str.ofString "__next__") ty F.slot_zip_next
    (wpAny_call_entry F.slot_zip_next ty F.entry_zip_next (zs_end S D1 D2 st st1 st2 l1 l2 stop fun h' tk e k stp => ?_) (F.args_zip_next_1 _))))
  obtain ⟨o, ho, hc⟩ := stp
  refine wpAny_bind (wpAny_isInstance (T := "StopIteration") (b := true) ⟨o, ho, hc⟩ isSubtype_stop ?_)
  exact wpAny_pure (hQ h' tk k)
end
end Dd
set_option maxHeartbeats 2000000
/-! list(zip(a, b)). -/
namespace Dd
open PySem PySem.Spec PyProof.Rows L2 Evl
theorem zip_nolen : typeLookup (.type "zip") "__len__" = pure none := by rw [typeLookup_type, builtinLookup_eq_fast]; kernel_rfl
theorem zip_nohint : typeLookup (.type "zip") "__length_hint__" = pure none := by rw [typeLookup_type, builtinLookup_eq_fast]; kernel_rfl
/-- the five cells of a zip -/
abbrev zcs (z TI TO i1 i2 : Addr) : List Addr := [z, TI, TO, i1, i2]
section
variable {z TI TO i1 i2 : Addr}
theorem zcs_mem {b : Addr} : b ∈ zcs z TI TO i1 i2 ↔ b = z ∨ b = TI ∨ b = TO ∨ b = i1 ∨ b = i2 := by simp
/-- another cell written -/
theorem ZSt.at {h h' : Heap} (st : ZSt h z TI TO i1 i2) (k : ∀ b o, b ∈ zcs z TI TO i1 i2 → h.get? b = some o → h'.get? b = some o) : ZSt h' z TI TO i1 i2 := by
  obtain ⟨a, ⟨x, y, b⟩, c⟩ := st
  refine ⟨k _ _ (by simp) a, ⟨x, y, k _ _ (by simp) b⟩, ?_⟩
  rcases c with c | ⟨T, g, c⟩
  · exact .inl (k _ _ (by simp) c)
  · exact .inr ⟨T, g, k _ _ (by simp) c⟩
theorem ZSt.upd {h : Heap} {q : Addr} {f : Array Value → Array Value} (st : ZSt h z TI TO i1 i2) (hq : q ∉ zcs z TI TO i1 i2) : ZSt (h.update q (Obj.mapSeq f)) z TI TO i1 i2 :=
  st.at fun b o hb e => (Heap.get?_update_other _ _ (fun e' : q = b => hq (e' ▸ hb))).trans e
theorem ZSt.push {h : Heap} {o : Obj} (st : ZSt h z TI TO i1 i2) : ZSt (h.push o) z TI TO i1 i2 := st.at fun b o hb e => Heap.get?_push_of_some _ e
end
/-- pairs that stand, told by the sources -/
def Prs (S1 S2 : Src) (H : Hp) (ts : List Addr) : Prop := ∀ (i : Nat) (T : Addr), ts[i]? = some T → ∃ x y, H T = some (.tup [x, y]) ∧ S1.val i = some x ∧ S2.val i = some y
theorem Prs.ex {S1 S2 : Src} {H H' : Hp} {ts : List Addr} (p : Prs S1 S2 H ts) (k : ∀ c xs, H c = some (.tup xs) → H' c = some (.tup xs)) : Prs S1 S2 H' ts := fun i T h => let ⟨x, y, a, b, c⟩ := p i T h; ⟨x, y, k _ _ a, b, c⟩
section
variable {X : Cx} {pins : List (Addr × Obj)} {σ : L2.St} {A1 : Around} {z TI TO i1 i2 q : Addr} {S1 S2 : Src}
/-- what is known between two turns of the list's filling -/
structure LzI (X : Cx) (pins : List (Addr × Obj)) (σ : L2.St) (S1 S2 : Src) (H1 : Hp) (z TI TO i1 i2 q : Addr) (i : Nat) (ts : List Addr) (H : Hp) (s : Shared) : Prop where
  inv : Inv X pins σ H s
  ex : Ex H1 H
  lst : H q = some (.lst (ts.map V.ref))
  len : ts.length = i
  prs : Prs S1 S2 H ts
  zst : ZSt s.heap z TI TO i1 i2
  c1 : S1.cell i1 i s.heap
  c2 : S2.cell i2 i s.heap
  fp : ∀ b ∈ zcs z TI TO i1 i2, FpOk X pins H b
theorem LzI.nq {H1 H : Hp} {i : Nat} {ts : List Addr} {s : Shared} (L : LzI X pins σ S1 S2 H1 z TI TO i1 i2 q i ts H s) : q ∉ zcs z TI TO i1 i2 := fun hb => by
  have e := (L.fp q hb).1
  rw [L.lst] at e
  cases e
theorem lz_sep {H : Hp} {s : Shared} {i : Nat} {its its2 : List Value} (D : Sep z TI TO i1 i2) (zst : ZSt s.heap z TI TO i1 i2) (d1 : TO ∉ S1.fp) (d2 : TO ∉ S2.fp) (h1 : S1.cell i1 i s.heap) (h2 : S2.cell i2 i s.heap) (rd : S1.read its s.heap) (rd2 : S2.read its2 s.heap) :
    ZipSep2 z TI TO i1 i2 (i1 :: S1.fp) (i2 :: S2.fp) := by
  obtain ⟨oc1, hoc1, n1, n2, n3, n4⟩ := Src.cell_cls h1
  obtain ⟨oc2, hoc2, m1, m2, m3, m4⟩ := Src.cell_cls h2
  obtain ⟨oz, hz, cz, _⟩ := zst.here
  have q1 : oz.cls ≠ .type "tuple" ∧ oz.cls ≠ .type "list" := by rw [cz]; exact ⟨tyne (by decide), tyne (by decide)⟩
  exact { TIz := D.TIz, TOz := D.TOz, TITO := D.TITO, TIi1 := D.TIi1, mem1 := List.mem_cons_self, zf1 := fun q => (List.mem_cons.mp q).elim D.zi1 (Src.apart rd hz q1), Tf1 := fun q => (List.mem_cons.mp q).elim D.TOi1 d1,
          TIi2 := D.TIi2, mem2 := List.mem_cons_self, zf2 := fun q => (List.mem_cons.mp q).elim D.zi2 (Src.apart rd2 hz q1), Tf2 := fun q => (List.mem_cons.mp q).elim D.TOi2 d2,
          sep1_2 := fun q => (List.mem_cons.mp q).elim D.i12 (Src.apart rd2 hoc1 ⟨n1, n2⟩), sep2_1 := fun q => (List.mem_cons.mp q).elim D.i12.symm (Src.apart rd hoc2 ⟨m1, m2⟩) }
theorem zc_lt {h : Heap} (zst : ZSt h z TI TO i1 i2) {i : Nat} (h1 : S1.cell i1 i h) (h2 : S2.cell i2 i h) {b : Addr} (hb : b ∈ zcs z TI TO i1 i2) : b < h.objs.size := by
  obtain ⟨oz, hz, _⟩ := zst.here
  obtain ⟨a, ⟨x, y, b'⟩, _⟩ := zst
  obtain ⟨_, o1, _⟩ := Src.cell_obj h1
  obtain ⟨_, o2, _⟩ := Src.cell_obj h2
  rcases zcs_mem.mp hb with e | e | e | e | e
  · rw [e]; exact Heap.lt_size hz
  · rw [e]; exact Heap.lt_size a
  · rw [e]; exact Heap.lt_size b'
  · rw [e]; exact Heap.lt_size o1
  · rw [e]; exact Heap.lt_size o2
theorem lz_loop {H1 : Hp} {Rs : Result → Shared → Prop} (hh : A1.handled = none) (D : Sep z TI TO i1 i2) (d1 : TO ∉ S1.fp) (d2 : TO ∉ S2.fp) (ok1 : S1.ok X.K H1) (ok2 : S2.ok X.K H1) (hq1 : H1 q = none) (small : min S1.len S2.len ≤ 10000)
    (fin : ∀ ts H s, Inv X pins σ H s → Ex H1 H → H q = some (.lst (ts.map V.ref)) → ts.length = min S1.len S2.len → Prs S1 S2 H ts → Rs (.ok (.ret .none)) s) :
    ∀ (m i : Nat) (ts : List Addr) (H : Hp) (s : Shared), i + m = min S1.len S2.len → LzI X pins σ S1 S2 H1 z TI TO i1 i2 q i ts H s → codeAny (model X.prog X.w) A1 (.builtin "list.extend.loop" ⟨[.ref q, .ref z, .none], []⟩) Rs s := by
  have big : sizeLine = 16777216 := sizeLine_eq
  intro m
  induction m with
  | zero =>
    intro i ts H s hm L
    obtain ⟨its, rd⟩ := Src.reads L.inv (Src.ok_ex L.ex ok1)
    obtain ⟨its2, rd2⟩ := Src.reads L.inv (Src.ok_ex L.ex ok2)
    obtain ⟨oc1, hoc1, n1, n2, _⟩ := Src.cell_cls L.c1
    obtain ⟨oc2, hoc2, m1, m2, _⟩ := Src.cell_cls L.c2
    refine codeAny_builtin PySem.F.entry_extend_loop ?_
    rw [Around.under_plainId PySem.F.plain_extend_loop _]
    show wpAny _ A1.in1 (pyNext (.ref z) >>= _) _ _ s
    refine wpAny_bind (ps_end (lz_sep (H := H) D L.zst d1 d2 L.c1 L.c2 rd rd2) (Src.draws (A := A1.in1.in1) hh i1 its (Src.apart rd hoc1 ⟨n1, n2⟩)) (Src.draws (A := A1.in1.in1) hh i2 its2 (Src.apart rd2 hoc2 ⟨m1, m2⟩)) L.zst ⟨L.c1, rd⟩ ⟨L.c2, rd2⟩ (by omega) (by omega) (by omega) fun h' tk k => ?_)
    refine wpAny_pure (fin ts H _ (L.inv.turnedL (t' := tk) (ch := zcs z TI TO i1 i2) (fun b o hb e => ?_) L.fp) L.ex L.lst (by rw [L.len]; omega) L.prs)
    exact k b o (fun e' => hb (by simp [e'])) (fun e' => hb (by simp [e'])) (fun e' => hb (by simp [e'])) (fun e' => hb (by simp [e'])) e
  | succ m ih =>
    intro i ts H s hm L
    obtain ⟨its, rd⟩ := Src.reads L.inv (Src.ok_ex L.ex ok1)
    obtain ⟨its2, rd2⟩ := Src.reads L.inv (Src.ok_ex L.ex ok2)
    obtain ⟨oc1, hoc1, n1, n2, _⟩ := Src.cell_cls L.c1
    obtain ⟨oc2, hoc2, m1, m2, _⟩ := Src.cell_cls L.c2
    refine codeAny_builtin PySem.F.entry_extend_loop ?_
    rw [Around.under_plainId PySem.F.plain_extend_loop _]
    show wpAny _ A1.in1 (pyNext (.ref z) >>= _) _ _ s
    refine wpAny_bind (ps_item (lz_sep (H := H) D L.zst d1 d2 L.c1 L.c2 rd rd2) (Src.draws (A := A1.in1.in1) hh i1 its (Src.apart rd hoc1 ⟨n1, n2⟩)) (Src.draws (A := A1.in1.in1) hh i2 its2 (Src.apart rd2 hoc2 ⟨m1, m2⟩)) L.zst (Heap.lt_size hoc1) (Heap.lt_size hoc2) ⟨L.c1, rd⟩ ⟨L.c2, rd2⟩ (by omega) (by omega)
      fun u u2 h' tk hP1 hP2 zst' c1' c2' hT hsz k => ?_)
    obtain ⟨x, hx, ru⟩ := hP1
    obtain ⟨y, hy, ru2⟩ := hP2
    have new : ObjOk X.prog X.w (upd H s.heap.objs.size (.tup [x, y])) h' s.heap.objs.size (.tup [x, y]) := ⟨by show 2 ≤ sizeLine; decide, [u, u2], .cons ru (.cons ru2 .nil), ⟨_, hT, rfl, _, rfl⟩⟩
    have fr : H s.heap.objs.size = none := L.inv.hok.fresh (Nat.le_refl _)
    have I1 : Inv X pins σ (upd H s.heap.objs.size (.tup [x, y])) { s with heap := h', toks := tk } :=
      L.inv.turnedNew (t' := tk) (ch := zcs z TI TO i1 i2) (fun b o hb e => k b o (fun e' => hb (by simp [e'])) (fun e' => hb (by simp [e'])) (fun e' => hb (by simp [e'])) (fun e' => hb (by simp [e'])) e) L.fp (Nat.le_refl _) new
    have hq : upd H s.heap.objs.size (.tup [x, y]) q = some (.lst (ts.map V.ref)) := by rw [upd_ne (ne_of_none L.lst fr)]; exact L.lst
    show wpAny _ A1.in1 (updateSeq q (·.push (.ref s.heap.objs.size)) >>= _) _ _ _
    obtain ⟨z0, its0, kk, r0, hl0, e0⟩ := I1.lstM hq
    have hl1 : its0.length = i := by rw [← hl0, List.length_map, L.len]
    refine wpAny_bind (wpAny_updateSeq e0 rfl (wpAny_pure ⟨plainId_quiet PySem.F.plain_extend_loop _, ?_⟩) (by rw [List.size_toArray]; omega) (by show (its0.toArray.push _).size ≤ sizeLine + 1; rw [Array.size_push, List.size_toArray]; omega))
    have nq := L.nq
    refine ih (i + 1) (ts ++ [s.heap.objs.size]) (upd (upd H s.heap.objs.size (.tup [x, y])) q (.lst ((ts ++ [s.heap.objs.size]).map V.ref))) _ (by omega) ⟨?_, ?_, upd_same, ?_, ?_, zst'.upd nq, ?_, ?_, fun b hb => ?_⟩
    · refine I1.lset (its' := its0 ++ [.ref s.heap.objs.size]) (t' := tk) hq e0 (by simp) ?_ (by rw [List.length_map, List.length_append, L.len, List.length_singleton]; omega)
      rw [List.map_append]
      exact r0.append (.cons rfl .nil)
    · exact (L.ex.trans (Ex.new fr)).mut hq1
    · rw [List.length_append, L.len, List.length_singleton]
    · intro j T hj
      have key : ∀ x' y', upd H s.heap.objs.size (.tup [x, y]) T = some (.tup [x', y']) → upd (upd H s.heap.objs.size (.tup [x, y])) q (.lst ((ts ++ [s.heap.objs.size]).map V.ref)) T = some (.tup [x', y']) := fun x' y' e => by
        rw [upd_ne (fun e' => ?_)]
        · exact e
        · rw [e', hq] at e
          cases e
      by_cases hlt : j < ts.length
      · rw [List.getElem?_append_left hlt] at hj
        obtain ⟨x', y', a, b, c⟩ := L.prs j T hj
        exact ⟨x', y', key _ _ (by rw [upd_ne (ne_of_none a fr)]; exact a), b, c⟩
      · rw [List.getElem?_append_right (by omega)] at hj
        have ej : j - ts.length = 0 := by
          have := (List.getElem?_eq_some_iff.mp hj).1
          rw [List.length_singleton] at this
          omega
        rw [ej] at hj
        cases hj
        have e1 : j = i := by have := L.len; omega
        rw [e1]
        exact ⟨x, y, key _ _ upd_same, hx, hy⟩
    · exact Src.cell_at c1'.1 fun o e => (Heap.get?_update_other _ _ (fun e' : q = i1 => nq (by simp [e']))).trans e
    · exact Src.cell_at c2'.1 fun o e => (Heap.get?_update_other _ _ (fun e' : q = i2 => nq (by simp [e']))).trans e
    · have hlt := zc_lt L.zst L.c1 L.c2 hb
      refine ⟨?_, (L.fp b hb).2⟩
      rw [upd_ne (fun e' : b = q => nq (by rw [← e']; exact hb)), upd_ne (Nat.ne_of_lt hlt)]
      exact (L.fp b hb).1

/-- list(zip(..)) -/
def tLZ (K : PySem.W.Frag) (ta : TA) : TE := fun σ H Q => ta σ H fun vs H1 => ∃ S1 S2 : Src, vs = [.ref S1.at, .ref S2.at] ∧ S1.ok K H1 ∧ S2.ok K H1 ∧ min S1.len S2.len ≤ 10000 ∧
  ∀ p ts H', H1 p = none → Ex H1 H' → H' p = some (.lst (ts.map V.ref)) → ts.length = min S1.len S2.len → Prs S1 S2 H' ts → Q (.ref p) H'
theorem pe_lz {e e2 : Expr} {ta : TA} {p p2 pos pos2 : Pos} (hc : X.calm = true) (hg : Gl X "list") (hm : X.mg "list" = none) (hg2 : Gl X "zip") (hm2 : X.mg "zip" = none) (ha : PA X [e, e2] ta)
    (hs : starEach [e, e2] X.env = (false, eval e X.env) :: starEach [e2] X.env := by rfl) (hpl : (backTo pos2 (starEach [e2] X.env)).any (·.1) = false := by rfl) :
    PE X (.Call (.Name "list" p) [.Call (.Name "zip" p2) [e, e2] [] pos2] [] pos) (tLZ X.K ta) := by
  refine ⟨fun pins s σ H Q I h => ?_⟩
  refine Call_ (ld_blt I hg hm PyProof.Rows.boot_list ?_)
  refine PyProof.Rows.callWith_type1 (PyProof.Rows.args_cons ?_ rfl) rfl rfl
  refine Call_ (ld_blt I hg2 hm2 PyProof.Rows.boot_zip (PyProof.Rows.callWith_type1 (thn (ha.run pos2 pins s σ H _ I h) fun us s1 ⟨vs, H1, I1, r1, q1⟩ => ?_) hs hpl))
  obtain ⟨S1, S2, ex, ok1, ok2, small, q⟩ := q1
  subst ex
  obtain ⟨v1, v2, rfl, r, r'⟩ : ∃ v1 v2, us = [v1, v2] ∧ RelV (.ref S1.at) v1 ∧ RelV (.ref S2.at) v2 := by
    cases r1 with
    | cons r rr =>
      cases rr with
      | cons r' rr =>
        cases rr
        exact ⟨_, _, rfl, r, r'⟩
  cases r
  cases r'
  obtain ⟨its, rd, bg⟩ := Src.begun I1 ok1
  obtain ⟨its2, rd2, bg2⟩ := Src.begun I1 ok2
  refine zip_begins2 (Src.begins S1 its) (Src.begins S2 its2) bg bg2 fun h' hz hTI hTO h1 h2 hsz hk => ?_
  have I2 : Inv X pins σ H1 { s1 with heap := h' } := I1.kept (t' := s1.toks) hk
  have fp2 : ∀ b ∈ zcs (s1.heap.objs.size + 4) (s1.heap.objs.size + 2) (s1.heap.objs.size + 3) s1.heap.objs.size (s1.heap.objs.size + 1), FpOk X pins H1 b := fun b hb => by
    have lb : s1.heap.objs.size ≤ b := by
      rcases zcs_mem.mp hb with e | e | e | e | e <;> rw [e] <;> first | exact Nat.le_refl _ | exact Nat.le_add_right _ _
    exact I1.fpOk lb (I1.hok.fresh lb)
  have d1 : s1.heap.objs.size + 3 ∉ S1.fp := fun z => absurd (Src.fpLt rd _ z) (Nat.not_lt.mpr (Nat.le_add_right _ _))
  have d2 : s1.heap.objs.size + 3 ∉ S2.fp := fun z => absurd (Src.fpLt rd2 _ z) (Nat.not_lt.mpr (Nat.le_add_right _ _))
  have c1 : S1.cell s1.heap.objs.size 0 h' := Src.cell0 h1
  have c2 : S2.cell (s1.heap.objs.size + 1) 0 h' := Src.cell0 h2
  have zst : ZSt h' (s1.heap.objs.size + 4) (s1.heap.objs.size + 2) (s1.heap.objs.size + 3) s1.heap.objs.size (s1.heap.objs.size + 1) := ⟨hTI, ⟨_, _, hTO⟩, .inl hz⟩
  have D := sep_new s1.heap.objs.size
  generalize s1.heap.objs.size + 4 = z at *
  generalize s1.heap.objs.size + 2 = TI at *
  generalize s1.heap.objs.size + 3 = TO at *
  generalize hi2 : s1.heap.objs.size + 1 = i2 at *
  generalize s1.heap.objs.size = i1 at *
  refine PyProof.Rows.args_nil ?_
  generalize hs2 : ({ s1 with heap := h' } : Shared) = s2 at I2 ⊢
  have eh : s2.heap = h' := by rw [← hs2]
  rw [← eh] at zst c1 c2 hz
  clear hs2 eh
  have ty : s2.TypeIs (.ref z) "zip" := ⟨_, hz, rfl⟩
  refine callType_codes (Q₁ := fun obj s₁ => obj = .ref s2.heap.objs.size ∧ s₁ = { s2 with heap := s2.heap.push { cls := .type "list", data := .seq #[] } }) PySem.F.called_list (PySem.F.typeCall_list_1 _) PySem.F.entry_list_init
    (code_list_new _ ⟨rfl, rfl⟩) fun obj sa ha' => ?_
  obtain ⟨rfl, rfl⟩ := ha'
  have hS : (s2.heap.push { cls := .type "list", data := .seq #[] }).get? s2.heap.objs.size = some { cls := .type "list", data := .seq #[] } := Heap.get?_push_size _ rfl
  refine ⟨⟨_, hS, rfl⟩, PySem.F.args_list_init_2 _ _, ?_⟩
  have fr : H1 s2.heap.objs.size = none := I2.hok.fresh (Nat.le_refl _)
  have zq : s2.heap.objs.size ∉ zcs z TI TO i1 i2 := fun hb => Nat.lt_irrefl _ (zc_lt zst c1 c2 hb)
  have Ia : Inv X pins σ (upd H1 s2.heap.objs.size (.lst [])) { s2 with heap := s2.heap.push { cls := .type "list", data := .seq #[] } } := I2.lnew (its := []) (t' := s2.toks) .nil (Nat.zero_le _)
  show wpAny _ _ (do let old ← Builtin.List.listItems (.ref s2.heap.objs.size); Builtin.List.listUpdate (.ref s2.heap.objs.size) (fun _ => #[]); letGo old.toList.reverse; Builtin.List.listExtendWith (.ref s2.heap.objs.size) (.ref z) .none) _ _ _
  refine wpAny_bind ?_
  unfold Builtin.List.listItems
  refine wpAny_bind (wpAny_seqItems hS rfl (wpAny_pure ?_))
  show wpAny _ _ (updateSeq s2.heap.objs.size (fun _ => #[]) >>= fun _ => letGo (#[] : Array Value).toList.reverse >>= fun _ => Builtin.List.listExtendWith (.ref s2.heap.objs.size) (.ref z) .none) _ _ _
  refine wpAny_bind (wpAny_updateSeq hS rfl ?_)
  have Ib := Ia.lset (f := fun _ => #[]) (its := []) (its' := []) (ys := []) (t' := s2.toks) upd_same hS rfl .nil (Nat.zero_le _)
  rw [upd_upd] at Ib
  refine wpAny_bind (wpAny_letGo ?_)
  have zstB := (zst.push (o := { cls := .type "list", data := .seq #[] })).upd (f := fun _ => #[]) zq
  have c1B : S1.cell i1 0 ((s2.heap.push { cls := .type "list", data := .seq #[] }).update s2.heap.objs.size (Obj.mapSeq fun _ => #[])) := Src.cell_at c1 fun o e => (Heap.get?_update_other _ _ (fun e' : s2.heap.objs.size = i1 => zq (by simp [e']))).trans (Heap.get?_push_of_some _ e)
  have c2B : S2.cell i2 0 ((s2.heap.push { cls := .type "list", data := .seq #[] }).update s2.heap.objs.size (Obj.mapSeq fun _ => #[])) := Src.cell_at c2 fun o e => (Heap.get?_update_other _ _ (fun e' : s2.heap.objs.size = i2 => zq (by simp [e']))).trans (Heap.get?_push_of_some _ e)
  have hzB : IsZip ((s2.heap.push { cls := .type "list", data := .seq #[] }).update s2.heap.objs.size (Obj.mapSeq fun _ => #[])) z TI TO .none := (Heap.get?_update_other _ _ (fun e' : s2.heap.objs.size = z => zq (by simp [e']))).trans (Heap.get?_push_of_some _ hz)
  generalize hs3 : ({ s2 with heap := (s2.heap.push { cls := .type "list", data := .seq #[] }).update s2.heap.objs.size (Obj.mapSeq fun _ => #[]), toks := s2.toks } : Shared) = s3 at Ib
  have eh3 : s3.heap = (s2.heap.push { cls := .type "list", data := .seq #[] }).update s2.heap.objs.size (Obj.mapSeq fun _ => #[]) := by rw [← hs3]
  rw [← eh3] at zstB c1B c2B hzB
  clear hs3 eh3 Ia hS zst c1 c2 hz ty
  generalize s2.heap.objs.size = q0 at *
  have ty : s3.TypeIs (.ref z) "zip" := ⟨_, hzB, rfl⟩
  unfold Builtin.List.listExtendWith
  refine wpAny_bind (wpAny_typeOf ty ?_)
  have k1 : Builtin.List.listSameRef (.ref q0) (.ref z) = false := by
    have : q0 ≠ z := fun e' => zq (by simp [e'])
    simp [Builtin.List.listSameRef, this]
  have k2 : (Value.type "zip" == Value.type "list") = false := by decide
  have k3 : (Value.type "zip" == Value.type "tuple") = false := by decide
  simp only [k1, k2, k3, Bool.or_false, Bool.false_eq_true, if_false]
  refine wpAny_bind (wpAny_pyIter_zip hzB ?_)
  refine wpAny_bind (wpAny_holding ?_)
  unfold Builtin.List.listLengthHint
  refine wpAny_bind (wpAny_specialOf ty zip_nolen ?_)
  show wpAny _ _ (specialOf (Value.ref z) (Str.ofString "__length_hint__") >>= _) _ _ _
  refine wpAny_bind (wpAny_specialOf ty zip_nohint ?_)
  refine wpAny_pure ?_
  show wpAny _ _ (rule "list.extend.makes-room" >>= fun _ => Builtin.List.listTouch (.ref q0) >>= fun _ => again (.builtin "list.extend.loop" ⟨[.ref q0, .ref z, .none], []⟩)) _ _ _
  refine wpAny_bind (wpAny_rule ?_)
  refine wpAny_bind ?_
  show wpAny _ _ (updateSeq q0 (·.push .none) >>= fun _ => updateSeq q0 (·.pop)) _ _ _
  obtain ⟨z3, its3, n3, r3, hl3, e3⟩ := Ib.lstM upd_same
  cases r3
  refine wpAny_bind (wpAny_updateSeq e3 rfl ?_)
  have Ic := Ib.lset (f := (·.push Value.none)) (its' := [Value.none]) (ys := [.non]) (t' := s3.toks) upd_same e3 (by simp) (.cons rfl .nil) (by rw [List.length_singleton, sizeLine_eq]; decide)
  rw [upd_upd] at Ic
  obtain ⟨z4, its4, n4, r4, hl4, e4⟩ := Ic.lstM upd_same
  obtain ⟨u4, rfl, ru4⟩ := r4.one
  refine wpAny_updateSeq e4 rfl ?_ (by show 1 ≤ sizeLine; rw [sizeLine_eq]; decide) (by show 0 ≤ sizeLine + 1; exact Nat.zero_le _)
  have Id := Ic.lset (f := (·.pop)) (its := [u4]) (its' := []) (ys := []) (t' := s3.toks) upd_same e4 (by rfl) .nil (Nat.zero_le _)
  rw [upd_upd] at Id
  refine wpAny_pure ⟨plainId_quiet PySem.F.plain_extend_loop _, lz_loop (A1 := X.A.in1) (q := q0) (z := z) (TI := TI) (TO := TO) (i1 := i1) (i2 := i2) (H1 := H1) (I1.ok.hd hc) D d1 d2 ok1 ok2 fr small (fun ts H3 s4 I4 x4 l4 n4 p4 => ?_) (min S1.len S2.len) 0 [] (upd H1 q0 (.lst [])) _ (by omega)
    ⟨Id, Ex.new fr, upd_same, rfl, fun i T hj => (nomatch hj), (zstB.upd zq).upd zq, ?_, ?_, fun b hb => ⟨?_, (fp2 b hb).2⟩⟩⟩
  · exact ⟨rfl, .ref q0, H3, I4, rfl, q q0 ts H3 fr x4 l4 n4 p4⟩
  · exact Src.cell_at c1B fun o e => (Heap.get?_update_other _ _ (fun e' : q0 = i1 => zq (by simp [e']))).trans ((Heap.get?_update_other _ _ (fun e' : q0 = i1 => zq (by simp [e']))).trans e)
  · exact Src.cell_at c2B fun o e => (Heap.get?_update_other _ _ (fun e' : q0 = i2 => zq (by simp [e']))).trans ((Heap.get?_update_other _ _ (fun e' : q0 = i2 => zq (by simp [e']))).trans e)
  · rw [upd_ne (fun e' : b = q0 => zq (by rw [← e']; exact hb))]
    exact (fp2 b hb).1
end
end Dd
set_option maxHeartbeats 2000000
/-! list(zip(..)) and comprehensions with two clauses, as data. -/
namespace Dd
open PySem PySem.Spec PyProof.Rows L2 Evl
section
variable {X : Cx} {C : Cs} {ρ : Rho} {mu : Mu} {e e2 : Expr} {ds ds2 : List D} {pos pos2 p p2 : Pos} {tg iter elt tg1 iter1 : Expr} {scope : Scope} {own : List (Str × Nat)}
theorem en_lz (hm : X.mg "list" = none) (hm2 : X.mg "zip" = none) (h : ES X C ρ mu e ds) (h2 : ES X C ρ mu e2 ds2) (hz : ds.length ≤ 10000) (hc : X.calm = true := by rfl) (hg : Gl X "list" := by rfl) (hg2 : Gl X "zip" := by rfl)
    (hs : starEach [e, e2] X.env = (false, eval e X.env) :: starEach [e2] X.env := by rfl) (hs2 : starEach [e2] X.env = (false, eval e2 X.env) :: starEach [] X.env := by rfl) (hpl : (backTo pos2 (starEach [e2] X.env)).any (·.1) = false := by rfl) :
    EN X C ρ mu (.Call (.Name "list" p) [.Call (.Name "zip" p2) [e, e2] [] pos2] [] pos) (zpp ds ds2) := by
  obtain ⟨te, pe, ve⟩ := h
  obtain ⟨te2, pe2, ve2⟩ := h2
  refine ⟨_, pe_lz hc hg hm hg2 hm2 (pa_cons pe (pa_cons pe2 pa_nil hs2) hs) hs hpl, fun G σ H ok Q q => ve G σ H ok _ fun S H1 e1 sd => ve2 G σ H1 (ok.mono e1) _ fun S2 H2 e2 sd2 => ?_⟩
  have o1 : S.ok X.K (hole H2 mu) := Src.ok_ex (hole_mono e2) sd.ok
  refine ⟨S, S2, rfl, Src.ok_ex hole_le o1, Src.ok_ex hole_le sd2.ok, by rw [sd.len]; omega, fun p ts H' hp x hl hn pr => ?_⟩
  refine q p (ts.map V.ref) H' (fresh_back (e1.trans e2) hp) ((e1.trans e2).trans x) hl ⟨?_, fun i d v hd hv => ?_⟩
  · rw [List.length_map, hn, sd.len, sd2.len]; simp [zpp]
  · obtain ⟨d1, d2, k1, k2, rfl⟩ := zpp_get hd
    rw [List.getElem?_map] at hv
    cases hT : ts[i]? with
    | none => rw [hT] at hv; cases hv
    | some T =>
      rw [hT] at hv
      cases hv
      obtain ⟨a, b, hh, ha, hb⟩ := pr i T hT
      obtain ⟨v1, g1, r1⟩ := sd.at_ i d1 k1
      obtain ⟨v2, g2, r2⟩ := sd2.at_ i d2 k2
      rw [ha] at g1
      cases g1
      rw [hb] at g2
      cases g2
      exact rep_two hh ((r1.ex (hole_le.trans e2)).ex x) ((r2.ex hole_le).ex x)
/-- [h a b for a in L for b in M], M in a list that a name holds -/
theorem el_lc2 {α β : Type} (L : List α) (M : List β) (g : α → D) (g' : β → D) (h : α → β → D) {vs1 : List Nat} (k1 : Nat) {x1 : Str} {q1 : Pos} (ei : EI X C ρ mu tg iter (L.map g)) (hk : ρ[k1]? = some (some (.lst (M.map g')))) (nk : k1 ∉ own.map (·.2)) (pv : Blk X scope fun Y => PE Y (.Name x1 q1) (tVar k1))
    (hN : X.N.Nodup) (ok : BlkOk X.N X.env.scope scope own) (hv : ∀ i ∈ vs1, i ∈ own.map (·.2)) (hj : ∀ l j xs, mu = some (l, j, xs) → j ∉ own.map (·.2)) (hz : L.length * M.length ≤ 10000)
    (body : ∀ a, a ∈ L → ∃ ρ2, Blk X scope (fun Y => EG Y C mu (own.map (·.2)) tg (g a) (wr ρ (own.map (·.2))) ρ2) ∧ (∀ i d, ρ2[i]? = some (some d) → (ρ[i]? = some (some d) ∧ i ∉ own.map (·.2)) ∨ Im d) ∧
      ∀ b, b ∈ M → ∃ ρ3, Blk X scope (fun Y => EG Y C mu vs1 tg1 (g' b) (wr ρ2 vs1) ρ3) ∧ Im (h a b) ∧ Blk X scope (fun Y => EE Y C ρ3 mu elt (h a b)))
    (hc : X.calm = true := by rfl) (hs : ∀ x, foldedSetIterable iter X.env x = pure x := by intro _; rfl) (hs1 : ∀ env x, foldedSetIterable (.Name x1 q1) env x = pure x := by intro _ _; rfl) :
    EL X C ρ mu (.ListComp elt [⟨tg, iter, [], 0⟩, ⟨tg1, .Name x1 q1, [], 0⟩] scope pos) (L.flatMap fun a => M.map (h a)) := by
  obtain ⟨wi, pi, vi⟩ := ei
  have pg0 : ∀ t : Expr, ∀ (s : Shared) (H : Hp) (c : Addr) (cl : List (Str × Addr)) (fp : List Addr), PG (X.blk s H scope (compEnvC scope cl c X.env) fp) t (fun v σ H Q => Blk X scope fun Y => ∃ g, PG Y t g ∧ g v σ H Q) := fun t s0 H0 c0 cl fp => ⟨fun pins s σ H v u Q I r q => let ⟨g, p, q⟩ := q s0 H0 c0 cl fp; p.run pins s σ H v u Q I r q⟩
  have pi0 : ∀ (s : Shared) (H : Hp) (c : Addr) (cl : List (Str × Addr)) (fp : List Addr), PI (X.blk s H scope (compEnvC scope cl c X.env) fp) tg1 (.Name x1 q1) (isrc X.K (tVar k1)) := fun s0 H0 c0 cl fp => pi_src (pv s0 H0 c0 cl fp)
  have pe0 : ∀ (s : Shared) (H : Hp) (c : Addr) (cl : List (Str × Addr)) (fp : List Addr), PE (X.blk s H scope (compEnvC scope cl c X.env) fp) elt (fun σ H Q => Blk X scope fun Y => ∃ t, PE Y elt t ∧ t σ H Q) := fun s0 H0 c0 cl fp => ⟨fun pins s σ H Q I q => let ⟨g, p, q⟩ := q s0 H0 c0 cl fp; p.run pins s σ H Q I q⟩
  refine ⟨_, pe_lc2 hc hN pi ok hv (pg0 tg) (fun _ _ _ _ _ => pts_nil) pi0 (pg0 tg1) (fun _ _ _ _ _ => pts_nil) pe0 hs hs1, fun i y py spos hy hyl hsw => ps_setLc2 hc hN hy hyl hsw pi ok hv (pg0 tg) (fun _ _ _ _ _ => pts_nil) pi0 (pg0 tg1) (fun _ _ _ _ _ => pts_nil) pe0 hs hs1,
    fun G σ H okE Q q => vi G σ H okE _ fun J H1 e1 yl Dn hD => ?_⟩
  have ok1 := okE.mono e1
  obtain ⟨v1, hv1, rep1⟩ := ok1.at_ k1 _ hk
  have nl : (L.map g).length = L.length := List.length_map ..
  have nm : (M.map g').length = M.length := List.length_map ..
  cases rep1 with
  | @lst A1 ws _ na hA lA atA =>
  let out : Nat → List D := fun i => (L.take i).flatMap fun a => M.map (h a)
  have lo : ∀ i, i ≤ L.length → (out i).length = i * M.length := fun i hi => by
    show ((L.take i).flatMap fun a => M.map (h a)).length = _
    rw [List.length_flatMap]
    have : ∀ (K : List α), (K.map fun a => (M.map (h a)).length).sum = K.length * M.length := fun K => by
      induction K with
      | nil => simp
      | cons a K ih => rw [List.map_cons, List.sum_cons, ih, List.length_map, List.length_cons, Nat.add_mul]; omega
    rw [this, List.length_take, Nat.min_eq_left hi]
  refine ⟨fun i m H' => i ≤ L.length ∧ m = L.length - i ∧ Ex H1 H' ∧ ∃ acc, H' Dn = some (.lst acc) ∧ Reps X.K C (some Dn) H' (out i) acc, ⟨L.length, Nat.zero_le _, rfl, Ex.new hD, [], upd_same, Reps.nil⟩, ?_⟩
  rintro i m H' ⟨hi, rfl, x1, acc, hacc, racc⟩
  by_cases hlt : i < L.length
  · have hx : L[i]? = some L[i] := List.getElem?_eq_getElem hlt
    generalize L[i] = a at hx
    have hd' : (L.map g)[i]? = some (g a) := by rw [List.getElem?_map, hx]; rfl
    have onext : out (i + 1) = out i ++ M.map (h a) := by
      show (L.take (i + 1)).flatMap _ = (L.take i).flatMap _ ++ _
      rw [List.take_add_one, hx, List.flatMap_append]
      simp
    have room : (i + 1) * M.length ≤ 10000 := Nat.le_trans (Nat.mul_le_mul_right _ hlt) hz
    obtain ⟨ρ2, tgt, known, rest⟩ := body a (List.mem_of_getElem? hx)
    refine .inr ⟨yl.go i H' _ (hole_le.trans x1) hd', fun H3 => Ex H1 H3 ∧ ∃ acc, H3 Dn = some (.lst acc) ∧ Reps X.K C (some Dn) H3 (out (i + 1)) acc, fun H3 q => ⟨L.length - (i + 1), by omega, hlt, rfl, q⟩, fun x H2 y => ?_⟩
    obtain ⟨x2, r2⟩ := yl.yl i H' _ x H2 (hole_le.trans x1) hd' y
    have okw : EnvOk X.K C G (wipe σ (own.map (·.2))) H2 (wr ρ (own.map (·.2))) mu := ((ok1.mono x1).mono x2).wipe _ hj
    intro s0 H0 c0 cl fp
    obtain ⟨gg, pg, vg⟩ := tgt s0 H0 c0 cl fp
    refine ⟨gg, pg, vg G _ H2 x okw r2 _ fun σ2 ok2 w2 => ⟨by rw [w2, wipe_wipe], ?_⟩⟩
    simp only [tYes, if_true]
    have w3 : wipe σ2 (own.map (·.2)) = wipe σ (own.map (·.2)) := by rw [w2, wipe_wipe]
    have same : ∀ i, i ∉ own.map (·.2) → σ2[i]? = σ[i]? := fun i hi => by rw [← wipe_keep (σ := σ2) hi, w3, wipe_keep hi]
    have x12 : Ex H1 H2 := x1.trans x2
    -- what the block's slots hold, while the list grows
    have stand : ∀ H5, Ex H1 H5 → (∀ i d, ρ2[i]? = some (some d) → Im d → ∃ v, σ2[i]? = some (some v) ∧ Rep X.K C (some Dn) H5 d v) → EnvOk X.K C G σ2 H5 ρ2 mu := fun H5 y1 im => by
      refine ⟨ok1.ex.trans y1, ok1.tb.ex y1, fun i d hd => ?_, fun l j ds hm => ?_, ok2.len⟩
      · rcases known i d hd with ⟨hd1, ni⟩ | hi
        · obtain ⟨v, e, r⟩ := ok1.at_ i d hd1
          exact ⟨v, (same i ni).trans e, r.ex y1⟩
        · obtain ⟨v, e, r⟩ := im i d hd hi
          exact ⟨v, e, r.any.im hi _⟩
      · obtain ⟨a1, a2, _, _⟩ := ok2.mu l j ds hm
        obtain ⟨_, _, a3, vs, a4, a5⟩ := ok1.mu l j ds hm
        exact ⟨a1, a2, a3, vs, y1.at a4, a5.ex y1⟩
    refine ⟨.ref A1, (same k1 nk).trans hv1, .lst A1 ws, rfl, ex_rd x12 hA, ?_⟩
    refine ⟨fun j k H5 => j ≤ M.length ∧ k = M.length - j ∧ Ex H1 H5 ∧ (∀ i d, ρ2[i]? = some (some d) → Im d → ∃ v, σ2[i]? = some (some v) ∧ Rep X.K C (some Dn) H5 d v) ∧ ∃ acc, H5 Dn = some (.lst acc) ∧ Reps X.K C (some Dn) H5 (out i ++ (M.take j).map (h a)) acc,
      ⟨M.length, Nat.zero_le _, rfl, x12, fun i d hd hi => let ⟨v, e, r⟩ := ok2.at_ i d hd; ⟨v, e, r.any.im hi _⟩, acc, x2.at hacc, by rw [List.take_zero]; exact (List.append_nil (out i)).symm ▸ racc.ex x2⟩, ?_⟩
    rintro j k H5 ⟨hjm, rfl, y1, imm, acc5, hacc5, racc5⟩
    have lw : ws.length = M.length := by rw [← lA, nm]
    by_cases hlt1 : j < M.length
    · have hxb : M[j]? = some M[j] := List.getElem?_eq_getElem hlt1
      generalize M[j] = b at hxb
      have hdb : (M.map g')[j]? = some (g' b) := by rw [List.getElem?_map, hxb]; rfl
      obtain ⟨ρ3, tgt1, im, ev⟩ := rest b (List.mem_of_getElem? hxb)
      refine .inr ⟨⟨ex_rd y1 hA, by show j < ws.length; omega⟩, fun H6 => Ex H1 H6 ∧ (∀ i d, ρ2[i]? = some (some d) → Im d → ∃ v, σ2[i]? = some (some v) ∧ Rep X.K C (some Dn) H6 d v) ∧ ∃ acc, H6 Dn = some (.lst acc) ∧ Reps X.K C (some Dn) H6 (out i ++ (M.take (j + 1)).map (h a)) acc, fun H6 q => ⟨M.length - (j + 1), by omega, hlt1, rfl, q⟩, fun x H6 yy => ?_⟩
      obtain ⟨rfl, yv⟩ := yy
      have rb : Rep X.K C none H6 (g' b) x := ((atA j _ x hdb yv).ex y1).any
      have hj1 : ∀ l j' xs, mu = some (l, j', xs) → j' ∉ vs1 := fun l j' xs e q => hj l j' xs e (hv j' q)
      have okw1 : EnvOk X.K C G (wipe σ2 vs1) H6 (wr ρ2 vs1) mu := (stand H6 y1 imm).wipe _ hj1
      intro s0 H0 c0 cl fp
      obtain ⟨g1, pg1, vg1⟩ := tgt1 s0 H0 c0 cl fp
      refine ⟨g1, pg1, vg1 G _ H6 x okw1 rb _ fun σ3 ok3 w3 => ⟨by rw [w3, wipe_wipe], ?_⟩⟩
      intro s0 H0 c0 cl fp
      obtain ⟨te, pe, ve⟩ := ev s0 H0 c0 cl fp
      refine ⟨te, pe, ve G σ3 H6 ok3 _ fun v H7 x7 r7 => ?_⟩
      refine ⟨acc5, x7.at hacc5, ?_, (y1.trans x7).mut hD, fun i d hd hi => ?_, acc5 ++ [v], upd_same, ?_⟩
      · rw [← racc5.len, List.length_append, lo i hi, List.length_map, List.length_take, Nat.min_eq_left hjm]
        rw [Nat.add_mul] at room
        have : i * M.length + j < 10001 := by omega
        exact Nat.lt_of_lt_of_le this (by decide)
      · obtain ⟨w, e, r⟩ := imm i d hd hi
        exact ⟨w, e, Rep.mut (x7.at hacc5) (r.ex x7)⟩
      · have tk : out i ++ (M.take (j + 1)).map (h a) = (out i ++ (M.take j).map (h a)) ++ [h a b] := by
          rw [List.take_add_one, hxb, List.map_append, List.append_assoc]
          rfl
        rw [tk]
        have rr := Reps.app (racc5.ex x7) (Reps.cons (r7.im im (some Dn)) Reps.nil)
        exact ⟨rr.len, fun k d v h1 h2 => Rep.mut (x7.at hacc5) (rr.at_ k d v h1 h2)⟩
    · have ej : j = M.length := by omega
      subst ej
      refine .inl ⟨⟨ex_rd y1 hA, by show M.length = ws.length; omega⟩, y1, acc5, hacc5, ?_⟩
      rw [onext]
      rw [List.take_length] at racc5
      exact racc5
  · have ei : i = L.length := by omega
    subst ei
    refine .inl ⟨by have := yl.stop H' (hole_le.trans x1); rwa [nl] at this, q Dn acc H' (fresh_back e1 hD) (e1.trans x1) hacc ?_⟩
    have e : out L.length = L.flatMap fun a => M.map (h a) := by show (L.take L.length).flatMap _ = _; rw [List.take_length]
    rw [e] at racc
    exact racc.any
end
end Dd
set_option maxHeartbeats 2000000
/-! The defs: falls counted. Printed by gen/w13.py. -/
namespace Dd
open PySem PySem.Spec PyProof.Rows L2 Evl
section
variable {P : Program} {w : World} {K : PySem.W.Frag} {mg : Str → Option Value} {base : Heap} {C : Cs}

theorem sum_rgs (f : Int → Int) (n : Nat) : ((rgs 0 n).map f).sum = Rg.sm n fun i => f i := by
  induction n with
  | zero => rfl
  | succ n ih =>
    have e : rgs 0 (n + 1) = rgs 0 n ++ [(n : Int)] := by unfold rgs; rw [List.range_succ, List.map_append]; simp
    rw [e, List.map_append, List.sum_append, ih]
    show _ = Rg.sm n _ + f n
    simp
theorem sum_flat {α : Type} (L : List α) (f : α → List Int) : (L.flatMap f).sum = (L.map fun a => (f a).sum).sum := by
  induction L with
  | nil => rfl
  | cons a L ih => rw [List.flatMap_cons, List.sum_append, ih, List.map_cons, List.sum_cons]
theorem flat_two {α : Type} (n : Nat) (f : Int → Int → α) : ((rgs 0 n).flatMap fun i => (rgs 0 n).map fun j => (i, j)).map (fun p => f p.1 p.2) = (rgs 0 n).flatMap fun i => (rgs 0 n).map fun j => f i j := by
  rw [List.map_flatMap]
  congr 1
  funext i
  rw [List.map_map]
  rfl
theorem flv_eq (vs : List Int) : (((rgs 0 vs.length).flatMap fun i => (rgs 0 vs.length).map fun j => (i, j)).map fun p => max 0 (lf (gt vs p.1 - gt vs p.2) vs.length - 1 - (p.1 - p.2) / (vs.length : Int))).sum = flv vs := by
  rw [flat_two vs.length fun i j => max 0 (lf (gt vs i - gt vs j) vs.length - 1 - (i - j) / (vs.length : Int)), sum_flat]
  unfold flv
  rw [← sum_rgs fun i => Rg.sm vs.length fun j => max 0 (lf (gt vs i - gt vs j) vs.length - 1 - (i - (j : Int)) / (vs.length : Int))]
  congr 1
  refine List.map_congr_left fun i _ => ?_
  rw [← sum_rgs fun j => max 0 (lf (gt vs i - gt vs j) vs.length - 1 - (i - j) / (vs.length : Int))]
abbrev prD (vs : List Int) (i : Int) : D := .tup [.int i, .int (gt vs i)]
abbrev hpD (vs : List Int) (i j : Int) : D := .tup [.int (gt vs i - gt vs j), .int (i - j)]
theorem fl_len (vs : List Int) (z1 : vs.length ≤ 60) : ((rgs 0 vs.length).map fun i => ((rgs 0 vs.length).map fun j => (i, j)).length).sum ≤ 10000 := by
  have key : ∀ (L : List Int) (k : Nat), (L.map fun i => ((rgs 0 k).map fun j => (i, j)).length).sum = L.length * k := fun L k => by
    induction L with
    | nil => simp
    | cons a L ih => rw [List.map_cons, List.sum_cons, ih, List.length_map, rgs_len, List.length_cons, Nat.add_mul]; omega
  rw [key, rgs_len]
  exact Nat.le_trans (Nat.mul_le_mul z1 z1) (by decide)
abbrev N_falls_of : List Str := ["values", "size", "told", "pairs", "one", "high", "other", "low", "fall", "gap"]
theorem sc_falls_of : FnScope N_falls_of ["values"] (defScope (top 28)) := ⟨rfl, rfl, rfl, by decide +kernel, rfl, by decide +kernel, by decide +kernel⟩
theorem fd_falls_of (W : Wd mg) (D0 : Df K mg "falls_of" (top 28)) (F_lifted : Fd P w K mg base C 3 "lifted" f_lifted) : Fd P w K mg base C 6 "falls_of" f_falls_of := by
  refine Fd.mk (lv := 5) D0 sc_falls_of (fun _ _ _ _ _ _ us hl => match us, hl with | [_], _ => rfl) (by decide) (fun ds d hf => by obtain ⟨vs, hds, _⟩ := hf; rw [hds]; rfl) fun fa cdv A outer s H E ds d hr hf => ?_
  obtain ⟨vs, rfl, sz, rfl⟩ := hf
  obtain ⟨z0, z1⟩ := id sz
  refine ss_c (s1_set 1 (d := .int vs.length) (ee_lenI W.len (ee_var 0)) may0 ?_ sc_falls_of.nd)
  refine ss_c (s1_setN 2 (ds := (rgs 0 vs.length).map (prD vs)) (EN.is (en_lz W.list W.zip (es_rng1 (n := vs.length) W.range (ee_var 1) (by omega) (by omega) (by omega)) (es_tup (ee_var 0) (.inl rfl)) (by rw [List.length_map, rgs_len]; omega)) (by rw [zpp_map D.int D.int (rgs 0 vs.length) vs, zip_rgs, List.map_map]; rfl)) (fun d q => by obtain ⟨i, _, rfl⟩ := List.mem_map.mp q; exact im_it [_, _]) (fun _ _ _ z => nomatch z) ?_ sc_falls_of.nd)
  refine ss_c (s1_setL 3 (ds := (rgs 0 vs.length).flatMap fun i => (rgs 0 vs.length).map (hpD vs i)) (el_lc2 (own := [("one", 4), ("high", 5), ("other", 6), ("low", 7)]) (vs1 := [6, 7]) (rgs 0 vs.length) (rgs 0 vs.length) (prD vs) (prD vs) (hpD vs) 2 (ei_src (es_var 2)) rfl (by decide) (fun _ _ _ _ _ => pe_var rfl (Or.inr (Or.inl rfl)) (by decide) (by decide)) sc_falls_of.nd (blkOk_by (N := N_falls_of) (sc := defScope (top 28)) (by decide +kernel)) (by decide) (by intro _ _ _ z; cases z) (by rw [rgs_len]; exact Nat.le_trans (Nat.mul_le_mul z1 z1) (by decide))
    (fun a ha => ⟨_, (fun _ _ _ _ _ => (eg_tup (egs_c (eg_name 4 sc_falls_of.nd may0) (egs_c (eg_name 5 sc_falls_of.nd may0) egs_no)))), ?_, fun b hb => ⟨_, (fun _ _ _ _ _ => (eg_tup (egs_c (eg_name 6 sc_falls_of.nd may0) (egs_c (eg_name 7 sc_falls_of.nd may0) egs_no)))), im_it [_, _], (fun _ _ _ _ _ => (ee_tup (ea_c (ee_sub (ee_var 5) (ee_var 7)) (ea_c (ee_sub (ee_var 4) (ee_var 6)) ea_no)) (by first | assumption | omega | decide | (simp only [nts, List.length_map, List.length_set] <;> omega) | (have hh_ := of_decide_eq_false h_; omega) | (have hh_ := of_decide_eq_true h_; omega) | (simp; done) | (simp <;> omega))))⟩⟩)) (fun d q => by obtain ⟨i, _, q⟩ := List.mem_flatMap.mp q; obtain ⟨j, _, rfl⟩ := List.mem_map.mp q; exact im_it [_, _]) (fun _ _ _ z => nomatch z) ?_)
  · intro i d h
    match i, h with
    | 0, h => exact .inl ⟨h, by decide⟩
    | 1, h => exact .inl ⟨h, by decide⟩
    | 2, h => exact .inl ⟨h, by decide⟩
    | 3, h => cases h
    | 4, h => cases h; exact .inr .int
    | 5, h => cases h; exact .inr .int
    | 6, h => cases h
    | 7, h => cases h
    | 8, h => cases h
    | 9, h => cases h
    | _ + 10, h => cases h
  exact ss_1 (s1_ret (EE.is (ee_sumL W.sum (EL.ee (EL.is (el_map (own := [("fall", 8), ("gap", 9)]) ((rgs 0 vs.length).flatMap fun i => (rgs 0 vs.length).map fun j => (i, j)) (fun p => hpD vs p.1 p.2) (fun p => .int (max 0 (lf (gt vs p.1 - gt vs p.2) vs.length - 1 - (p.1 - p.2) / (vs.length : Int)))) (flat_two vs.length (hpD vs) ▸ ei_src (es_var 3)) sc_falls_of.nd (blkOk_by (N := N_falls_of) (sc := defScope (top 28)) (by decide +kernel)) (by intro _ _ _ z; cases z) (by rw [List.length_flatMap]; exact fl_len vs z1) (fun p hx =>  turn_e (fun _ _ _ _ _ => (eg_tup (egs_c (eg_name 8 sc_falls_of.nd may0) (egs_c (eg_name 9 sc_falls_of.nd may0) egs_no)))) .int (fun _ _ _ _ _ => (ee_max2 W.max ee_int (ee_sub (ee_sub (ee_call F_lifted (hr.mono (by decide)) (ea_c (ee_var 8) (ea_c (ee_var 1) ea_no)) ⟨_, _, rfl, ⟨by omega, by omega⟩, rfl⟩) ee_int) (ee_div (ee_var 9) (ee_var 1) (by omega))))))) (List.map_map ..).symm))) (by rw [flv_eq])) rfl)
end
end Dd
set_option maxHeartbeats 2000000
/-! enumerate(zip(a, b)) as what a loop walks. -/
namespace Dd
open PySem PySem.Spec PyProof.Rows L2 Evl
section
variable {prog : Program} {w : World} {A : Around} {E : Value → Shared → Prop} {s : Shared} {z TI TO T i1 i2 e it : Addr} {fp1 fp2 : List Addr} {n1 n2 i : Nat} {P1 P2 : Nat → Value → Prop} {St1 St2 : Nat → Heap → Prop} {c : Int} {old : Value}
theorem nz_item {Q : Value → Shared → Prop} (S : ZipSep2 z TI TO i1 i2 fp1 fp2) (D1 : Draws prog w A.in1 i1 fp1 n1 P1 St1) (D2 : Draws prog w A.in1 i2 fp2 n2 P2 St2) (st : ZSt s.heap z TI TO i1 i2) (hi1 : i1 < s.heap.objs.size) (hi2 : i2 < s.heap.objs.size)
    (st1 : St1 i s.heap) (st2 : St2 i s.heap) (l1 : i < n1) (l2 : i < n2)
    (hQ : ∀ x1 x2 h' tk, P1 i x1 → P2 i x2 → ZSt h' z TI TO i1 i2 → St1 (i + 1) h' → St2 (i + 1) h' → IsTupOf2 h' s.heap.objs.size x1 x2 → h'.objs.size = s.heap.objs.size + 1 →
      (∀ c o, c ≠ z → c ≠ TO → c ≠ i1 → c ≠ i2 → s.heap.get? c = some o → h'.get? c = some o) → Q (.ref s.heap.objs.size) { s with heap := h', toks := tk }) :
    wpAny (model prog w) A (Builtin.SmallTypes.nextOf (.ref z)) Q E s := by
  obtain ⟨oz, hz, cz, _⟩ := st.here
  have ty : s.TypeIs (.ref z) "zip" := ⟨_, hz, cz⟩
  unfold Builtin.SmallTypes.nextOf
  exact wpAny_bind (wpAny_callSpecial?_slot (name := Str.ofString "__next__") ty F.slot_zip_next
    (wpAny_call_entry F.slot_zip_next ty F.entry_zip_next (zs_item S D1 D2 st hi1 hi2 st1 st2 l1 l2 fun x1 x2 h' tk a b c d e f g k => wpAny_pure (hQ x1 x2 h' tk a b c d e f g k)) (F.args_zip_next_1 _)))
theorem nz_end {Q : Value → Shared → Prop} (S : ZipSep2 z TI TO i1 i2 fp1 fp2) (D1 : Draws prog w A.in1 i1 fp1 n1 P1 St1) (D2 : Draws prog w A.in1 i2 fp2 n2 P2 St2) (st : ZSt s.heap z TI TO i1 i2)
    (st1 : St1 i s.heap) (st2 : St2 i s.heap) (l1 : i ≤ n1) (l2 : i ≤ n2) (stop : i = n1 ∨ i = n2)
    (hE : ∀ h' tk e, (∀ c o, c ≠ z → c ≠ TO → c ≠ i1 → c ≠ i2 → s.heap.get? c = some o → h'.get? c = some o) → (∃ o, h'.get? e = some o ∧ o.cls = .type "StopIteration") → E (.ref e) { s with heap := h', toks := tk }) :
    wpAny (model prog w) A (Builtin.SmallTypes.nextOf (.ref z)) Q E s := by
  obtain ⟨oz, hz, cz, _⟩ := st.here
  have ty : s.TypeIs (.ref z) "zip" := ⟨_, hz, cz⟩
  unfold Builtin.SmallTypes.nextOf
  exact wpAny_bind (wpAny_callSpecial?_slot (name := Str.ofString "__next__") ty F.slot_zip_next
    (wpAny_call_entry F.slot_zip_next ty F.entry_zip_next (zs_end S D1 D2 st st1 st2 l1 l2 stop hE) (F.args_zip_next_1 _)))
/-- one number more, whatever is numbered -/
theorem en_any {Q : Value → Shared → Prop} (he : IsEnum s.heap e it c old)
    (inner : wpAny (model prog w) A (Builtin.SmallTypes.nextOf (.ref it)) (fun x s1 => ∃ hz tk, s1 = { s with heap := hz, toks := tk } ∧ IsEnum hz e it c old ∧
      ∀ h', IsEnumOut h' e it (c + 1) x hz.objs.size → h'.get? hz.objs.size = some { cls := .type "tuple", data := .seq #[.int c tk, x] } → h'.objs.size = hz.objs.size + 1 →
        (∀ b o, b ≠ e → hz.get? b = some o → h'.get? b = some o) → Q (.ref hz.objs.size) { s with heap := h', toks := tk + 1 }) E s) :
    wpAny (model prog w) A (Builtin.«enumerate.__next__» ⟨[.ref e], []⟩) (fun fin s' => ∃ v, fin = .done (.ret v) ∧ Q v s') E s := by
  obtain ⟨hp, gg, dr, tk0, os⟩ := s
  show wpAny _ _ (field (.ref e) 2 >>= _) _ _ _
  refine wpAny_bind (wpAny_field he rfl (x := .ref it) rfl ?_)
  refine wpAny_bind (wpAny_mono inner (fun x s1 hx => ?_) fun _ _ y => y)
  obtain ⟨hz, tk, rfl, he1, hQ⟩ := hx
  show wpAny _ _ (field (.ref e) 3 >>= _) _ _ ⟨hz, gg, dr, tk, os⟩
  refine wpAny_bind (wpAny_field he1 rfl (x := rawInt c) rfl ?_)
  show wpAny _ _ (field (.ref e) 4 >>= _) _ _ ⟨hz, gg, dr, tk, os⟩
  refine wpAny_bind (wpAny_field he1 rfl (x := .none) rfl ?_)
  show wpAny _ _ (mkInt c >>= _) _ _ ⟨hz, gg, dr, tk, os⟩
  refine wpAny_bind (wpAny_mkInt ?_)
  show wpAny _ _ (setField (.ref e) 3 (rawInt (c + 1)) >>= _) _ _ ⟨hz, gg, dr, tk + 1, os⟩
  refine wpAny_bind (wpAny_setField_rec he1 (by simp) fun a2 he2 sb2 => ?_)
  replace sb2 : Heap.SameBut e hz a2 := sb2
  replace he2 : IsEnum a2 e it (c + 1) old := he2
  show wpAny _ _ (setField (.ref e) 4 .none >>= _) _ _ ⟨a2, gg, dr, tk + 1, os⟩
  refine wpAny_bind (wpAny_setField_rec he2 (by simp) fun a3 he3 sb3 => ?_)
  replace sb3 : Heap.SameBut e a2 a3 := sb3
  replace he3 : IsEnum a3 e it (c + 1) old := he3
  show wpAny _ _ (newTuple [.int c tk, x] >>= _) _ _ ⟨a3, gg, dr, tk + 1, os⟩
  refine wpAny_bind (wpAny_newTuple ?_)
  have he4 : IsEnum (a3.push { cls := .type "tuple", data := .seq #[.int c tk, x] }) e it (c + 1) old := Heap.get?_push_of_some _ he3
  have size : a3.objs.size = hz.objs.size := by rw [sb3.1, sb2.1]
  have el : e < hz.objs.size := Heap.lt_size he1
  have t4 : (a3.push { cls := .type "tuple", data := .seq #[.int c tk, x] }).get? hz.objs.size = some { cls := .type "tuple", data := .seq #[.int c tk, x] } := by rw [← size]; exact Heap.get?_push_size _ rfl
  have z4 : (a3.push { cls := .type "tuple", data := .seq #[.int c tk, x] }).objs.size = hz.objs.size + 1 := by rw [Heap.size_push, size]
  have k4 : ∀ b o, b ≠ e → hz.get? b = some o → (a3.push { cls := .type "tuple", data := .seq #[.int c tk, x] }).get? b = some o := fun b o hb y => Heap.get?_push_of_some _ (sb3.extBut b o hb (sb2.extBut b o hb y))
  show wpAny _ _ (Builtin.SmallTypes.ownedTupleIsFree (.ref e) >>= _) _ _ ⟨a3.push { cls := .type "tuple", data := .seq #[.int c tk, x] }, gg, dr, tk + 1, os⟩
  rw [size]
  generalize a3.push { cls := .type "tuple", data := .seq #[.int c tk, x] } = a4 at *
  refine wpAny_bind ?_
  unfold Builtin.SmallTypes.ownedTupleIsFree
  refine wpAny_bind (wpAny_field he4 rfl (x := .none) rfl (wpAny_pure ?_))
  simp only [if_true]
  refine wpAny_bind (wpAny_rule ?_)
  refine wpAny_bind (wpAny_field he4 rfl (x := old) rfl ?_)
  refine wpAny_bind (wpAny_setField_rec he4 (by simp) fun a5 he5 sb5 => ?_)
  replace sb5 : Heap.SameBut e a4 a5 := sb5
  replace he5 : IsEnum a5 e it (c + 1) x := he5
  show wpAny _ _ (Builtin.SmallTypes.ownedTupleHandOut (.ref e) (.ref hz.objs.size) >>= _) _ _ ⟨a5, gg, dr, tk + 1, os⟩
  refine wpAny_bind ?_
  unfold Builtin.SmallTypes.ownedTupleHandOut
  refine wpAny_bind (wpAny_setField_rec he5 (by simp) fun a6 he6 sb6 => ?_)
  replace sb6 : Heap.SameBut e a5 a6 := sb6
  replace he6 : IsEnumOut a6 e it (c + 1) x hz.objs.size := he6
  refine wpAny_setField_rec he6 (by simp) fun a7 he7 sb7 => ?_
  replace sb7 : Heap.SameBut e a6 a7 := sb7
  replace he7 : IsEnumOut a7 e it (c + 1) x hz.objs.size := he7
  have up : ∀ b o, b ≠ e → a4.get? b = some o → a7.get? b = some o := fun b o hb y => sb7.extBut b o hb (sb6.extBut b o hb (sb5.extBut b o hb y))
  exact wpAny_bind (wpAny_letGo (wpAny_pure ⟨_, rfl, hQ a7 he7 (up _ _ (Nat.ne_of_gt el) t4) (by rw [sb7.1, sb6.1, sb5.1, z4]) fun b o hb y => up b o hb (k4 b o hb y)⟩))
theorem en_stop {Q : Fin → Shared → Prop} (he : IsEnum s.heap e it c old) (inner : ∀ Q', wpAny (model prog w) A (Builtin.SmallTypes.nextOf (.ref it)) Q' E s) : wpAny (model prog w) A (Builtin.«enumerate.__next__» ⟨[.ref e], []⟩) Q E s := by
  show wpAny _ _ (field (.ref e) 2 >>= _) _ _ _
  refine wpAny_bind (wpAny_field he rfl (x := .ref it) rfl ?_)
  exact wpAny_bind (inner _)
theorem pn_item {Q : Option Value → Shared → Prop} (he : IsEnum s.heap e it c old)
    (inner : wpAny (model prog w) A.in1 (Builtin.SmallTypes.nextOf (.ref it)) (fun x s1 => ∃ hz tk, s1 = { s with heap := hz, toks := tk } ∧ IsEnum hz e it c old ∧
      ∀ h', IsEnumOut h' e it (c + 1) x hz.objs.size → h'.get? hz.objs.size = some { cls := .type "tuple", data := .seq #[.int c tk, x] } → h'.objs.size = hz.objs.size + 1 →
        (∀ b o, b ≠ e → hz.get? b = some o → h'.get? b = some o) → Q (some (.ref hz.objs.size)) { s with heap := h', toks := tk + 1 }) (fun _ _ => False) s) :
    wpAny (model prog w) A (pyNext (.ref e)) Q E s := by
  have ty : s.TypeIs (.ref e) "enumerate" := ⟨_, he, rfl⟩
  unfold pyNext
  refine wpAny_bind (wpAny_attempt (wpAny_callSpecial?_slot (name := Str.ofString "__next__") ty F.slot_enumerate_next
    (wpAny_call_entry F.slot_enumerate_next ty F.entry_enumerate_next (en_any he (wpAny_mono inner (fun x s1 hx => ?_) fun _ _ y => y.elim)) (F.args_enumerate_next_1 _))))
  obtain ⟨hz, tk, e1, e2, k⟩ := hx
  exact ⟨hz, tk, e1, e2, fun h' a b c d => wpAny_pure (k h' a b c d)⟩
theorem pn_end {Q : Option Value → Shared → Prop} (he : IsEnum s.heap e it c old)
    (inner : ∀ (Q' : Value → Shared → Prop) (E' : Value → Shared → Prop), (∀ h' tk x, (∃ o, h'.get? x = some o ∧ o.cls = .type "StopIteration") → Q none { s with heap := h', toks := tk } → E' (.ref x) { s with heap := h', toks := tk }) → wpAny (model prog w) A.in1 (Builtin.SmallTypes.nextOf (.ref it)) Q' E' s) :
    wpAny (model prog w) A (pyNext (.ref e)) Q E s := by
  have ty : s.TypeIs (.ref e) "enumerate" := ⟨_, he, rfl⟩
  unfold pyNext
  refine wpAny_bind (wpAny_attempt (wpAny_callSpecial?_slot (name := Str.ofString "__next__") ty F.slot_enumerate_next
    (wpAny_call_entry F.slot_enumerate_next ty F.entry_enumerate_next (en_stop he fun Q' => inner Q' _ fun h' tk x stp q => ?_) (F.args_enumerate_next_1 _))))
  obtain ⟨o, ho, hc⟩ := stp
  refine wpAny_bind (wpAny_isInstance (T := "StopIteration") (b := true) ⟨o, ho, hc⟩ isSubtype_stop ?_)
  exact wpAny_pure q
end
end Dd
set_option maxHeartbeats 2000000
/-! enumerate(zip(a, b)): the turns, and as data. -/
namespace Dd
open PySem PySem.Spec PyProof.Rows L2 Evl
/-- numbered pairs of two sources, all new -/
def Iez (K : PySem.W.Frag) (S1 S2 : Src) : It :=
  ⟨fun i H => S1.ok K H ∧ S2.ok K H ∧ i < S1.len ∧ i < S2.len, fun i H v H' => ∃ T U x y, v = .ref U ∧ H T = none ∧ upd H T (.tup [x, y]) U = none ∧ H' = upd (upd H T (.tup [x, y])) U (.tup [.int (i : Nat), .ref T]) ∧ S1.val i = some x ∧ S2.val i = some y,
    fun i H => S1.ok K H ∧ S2.ok K H ∧ i = min S1.len S2.len⟩
theorem turn_ez {P : Program} {w : World} {K : PySem.W.Frag} {elts : List Expr} {kk : Nat} {tpos : Pos} (S1 S2 : Src) {z TI TO i1 i2 e : Addr} (D : Sep z TI TO i1 i2) (d1 : TO ∉ S1.fp) (d2 : TO ∉ S2.fp) (ne : e ∉ zcs z TI TO i1 i2) :
    Turn P w K (.Tuple elts kk tpos) (Iez K S1 S2) (e :: zcs z TI TO i1 i2) e (fun i h => (∃ old, IsEnum h e z (0 + ((i : Nat) : Int)) old) ∧ ZSt h z TI TO i1 i2 ∧ S1.cell i1 i h ∧ S2.cell i2 i h) where
  mem := List.mem_cons_self
  obj := fun i h st b hb => by
    obtain ⟨⟨old, he⟩, zst, c1, c2⟩ := st
    rcases List.mem_cons.mp hb with q | q
    · rw [q]; exact ⟨_, he, fun v q => nomatch q⟩
    · obtain ⟨oz, hz, _, nz⟩ := zst.here
      obtain ⟨a, ⟨x, y, b'⟩, _⟩ := zst
      rcases zcs_mem.mp q with q | q | q | q | q
      · rw [q]; exact ⟨_, hz, nz⟩
      · rw [q]; exact ⟨_, a, fun v q => nomatch q⟩
      · rw [q]; exact ⟨_, b', fun v q => nomatch q⟩
      · rw [q]; exact Src.cell_obj c1
      · rw [q]; exact Src.cell_obj c2
  keep := fun i h h' st k => by
    obtain ⟨⟨old, he⟩, zst, c1, c2⟩ := st
    exact ⟨⟨old, k e (by simp) _ he⟩, zst.at fun b o hb => k b (List.mem_cons_of_mem _ hb) o, Src.cell_at c1 fun o q => k i1 (by simp) o q, Src.cell_at c2 fun o q => k i2 (by simp) o q⟩
  item := by
    intro X hP hw hK hc i pins s σ H E I hf st hg
    subst hP hw hK
    obtain ⟨⟨old, he⟩, zst, c1, c2⟩ := st
    obtain ⟨ok1, ok2, hi1, hi2⟩ := hg
    obtain ⟨its, rd⟩ := Src.reads I ok1
    obtain ⟨its2, rd2⟩ := Src.reads I ok2
    obtain ⟨oc1, hoc1, n1, n2, _⟩ := Src.cell_cls c1
    obtain ⟨oc2, hoc2, m1, m2, _⟩ := Src.cell_cls c2
    have out : ∀ b o, b ∉ zcs z TI TO i1 i2 → s.heap.get? b = some o → b ≠ z ∧ b ≠ TO ∧ b ≠ i1 ∧ b ≠ i2 := fun b o hb _ => ⟨fun q => hb (by simp [q]), fun q => hb (by simp [q]), fun q => hb (by simp [q]), fun q => hb (by simp [q])⟩
    have el : e < s.heap.objs.size := Heap.lt_size he
    refine pn_item he (nz_item (A := X.A.in1) (lz_sep (H := H) D zst d1 d2 c1 c2 rd rd2) (Src.draws (A := X.A.in1.in1) (I.ok.hd hc) i1 its (Src.apart rd hoc1 ⟨n1, n2⟩)) (Src.draws (A := X.A.in1.in1) (I.ok.hd hc) i2 its2 (Src.apart rd2 hoc2 ⟨m1, m2⟩)) zst (Heap.lt_size hoc1) (Heap.lt_size hoc2) ⟨c1, rd⟩ ⟨c2, rd2⟩ hi1 hi2
      fun u u2 hz tk hP1 hP2 zst' c1' c2' hT hsz k => ⟨hz, tk, rfl, let o := out e _ ne he; k e _ o.1 o.2.1 o.2.2.1 o.2.2.2 he, fun h' ho tT sz2 k2 => ?_⟩)
    obtain ⟨x, hx, ru⟩ := hP1
    obtain ⟨y, hy, ru2⟩ := hP2
    refine ⟨_, rfl, wpAny_letOwnedTupleGo_enum (s := { s with heap := h', toks := tk + 1 }) ho fun h'' he' sb => ?_⟩
    have fT : H s.heap.objs.size = none := I.hok.fresh (Nat.le_refl _)
    have newT : ObjOk X.prog X.w (upd H s.heap.objs.size (.tup [x, y])) hz s.heap.objs.size (.tup [x, y]) := ⟨by show 2 ≤ sizeLine; decide, [u, u2], .cons ru (.cons ru2 .nil), ⟨_, hT, rfl, _, rfl⟩⟩
    have I1 : Inv X pins σ (upd H s.heap.objs.size (.tup [x, y])) { s with heap := hz, toks := tk } :=
      I.turnedNew (t' := tk) (ch := e :: zcs z TI TO i1 i2) (fun b o hb q => let w := out b o (fun q => hb (List.mem_cons_of_mem _ q)) q; k b o w.1 w.2.1 w.2.2.1 w.2.2.2 q) hf (Nat.le_refl _) newT
    have eh : e < hz.objs.size := by rw [hsz]; exact Nat.lt_succ_of_lt el
    have keep2 : ∀ b o, b ≠ e → hz.get? b = some o → h''.get? b = some o := fun b o hb q => (sb.2 b hb).trans (k2 b o hb q)
    have hU : h''.get? hz.objs.size = some { cls := .type "tuple", data := .seq #[.int (0 + (i : Int)) tk, .ref s.heap.objs.size] } := (sb.2 _ (Nat.ne_of_gt eh)).trans tT
    have fU : upd H s.heap.objs.size (.tup [x, y]) hz.objs.size = none := I1.hok.fresh (Nat.le_refl _)
    have newU : ObjOk X.prog X.w (upd (upd H s.heap.objs.size (.tup [x, y])) hz.objs.size (.tup [.int (i : Nat), .ref s.heap.objs.size])) h'' hz.objs.size (.tup [.int (i : Nat), .ref s.heap.objs.size]) :=
      ⟨by show 2 ≤ sizeLine; decide, [.int (0 + (i : Int)) tk, .ref s.heap.objs.size], .cons ⟨tk, by rw [Int.zero_add]⟩ (.cons rfl .nil), ⟨_, hU, rfl, _, rfl⟩⟩
    have I2 : Inv X pins σ (upd (upd H s.heap.objs.size (.tup [x, y])) hz.objs.size (.tup [.int (i : Nat), .ref s.heap.objs.size])) { s with heap := h'', toks := tk + 1 } :=
      I1.turnedNew (t' := tk + 1) (ch := [e]) (fun b o hb q => keep2 b o (fun z => hb (by simp [z])) q) (fun b hb => by
        rw [List.mem_singleton.mp hb]
        exact ⟨by rw [upd_ne (Nat.ne_of_lt el)]; exact (hf e List.mem_cons_self).1, (hf e List.mem_cons_self).2⟩) (Nat.le_refl _) newU
    have zne : ∀ b, b ∈ zcs z TI TO i1 i2 → b ≠ e := fun b hb q => ne (q ▸ hb)
    refine ⟨.ref hz.objs.size, _, I2, rfl, ⟨_, _, x, y, rfl, fT, fU, rfl, hx, hy⟩, ⟨⟨.ref s.heap.objs.size, ?_⟩, zst'.at fun b o hb q => keep2 b o (zne b hb) q, ?_, ?_⟩, fun b hb => ?_⟩
    · have e1 : 0 + ((i + 1 : Nat) : Int) = 0 + (i : Int) + 1 := by omega
      rw [e1]
      exact he'
    · exact Src.cell_at c1'.1 fun o q => keep2 i1 o (zne i1 (by simp)) q
    · exact Src.cell_at c2'.1 fun o q => keep2 i2 o (zne i2 (by simp)) q
    · have hlt : b < s.heap.objs.size := by
        rcases List.mem_cons.mp hb with q | q
        · rw [q]; exact el
        · exact zc_lt zst c1 c2 q
      rw [upd_ne (Nat.ne_of_lt (by rw [hsz]; exact Nat.lt_succ_of_lt hlt) : b ≠ hz.objs.size), upd_ne (Nat.ne_of_lt hlt)]
      exact (hf b hb).1
  done := by
    intro X hP hw hK hc i pins s σ H E I hf st hg
    subst hP hw hK
    obtain ⟨⟨old, he⟩, zst, c1, c2⟩ := st
    obtain ⟨ok1, ok2, hend⟩ := hg
    obtain ⟨its, rd⟩ := Src.reads I ok1
    obtain ⟨its2, rd2⟩ := Src.reads I ok2
    obtain ⟨oc1, hoc1, n1, n2, _⟩ := Src.cell_cls c1
    obtain ⟨oc2, hoc2, m1, m2, _⟩ := Src.cell_cls c2
    refine pn_end he fun Q' E' hE => nz_end (A := X.A.in1) (lz_sep (H := H) D zst d1 d2 c1 c2 rd rd2) (Src.draws (A := X.A.in1.in1) (I.ok.hd hc) i1 its (Src.apart rd hoc1 ⟨n1, n2⟩)) (Src.draws (A := X.A.in1.in1) (I.ok.hd hc) i2 its2 (Src.apart rd2 hoc2 ⟨m1, m2⟩)) zst ⟨c1, rd⟩ ⟨c2, rd2⟩ (by omega) (by omega) (by omega)
      fun h' tk x k stp => hE h' tk x stp ⟨rfl, I.turnedL (t' := tk) (ch := e :: zcs z TI TO i1 i2) (fun b o hb q => k b o (fun z => hb (by simp [z])) (fun z => hb (by simp [z])) (fun z => hb (by simp [z])) (fun z => hb (by simp [z])) q) hf⟩
  self := fun A i s Q E st h => let ⟨⟨_, he⟩, _⟩ := st; wpAny_pyIter_enum he h
section
variable {X : Cx} {tg e e2 : Expr} {ta : TA} {C : Cs} {ρ : Rho} {mu : Mu} {ds ds2 : List D}
def iez (K : PySem.W.Frag) (ta : TA) : TI := fun σ H R => ta σ H fun vs H1 => ∃ S1 S2 : Src, vs = [.ref S1.at, .ref S2.at] ∧ S1.ok K H1 ∧ S2.ok K H1 ∧ R (Iez K S1 S2) H1
theorem enum_newZ {z TI TO : Addr} :
    Meets (Builtin.«enumerate.__new__» ⟨[.type "enumerate", .ref z], []⟩) (fun _ R s => IsZip s.heap z TI TO .none ∧
      R (.ok (.ret (.ref s.heap.objs.size))) { s with heap := s.heap.push { cls := .type "enumerate", data := .fields #[.none, .bool false, .ref z, rawInt 0, .none, .none] } }) :=
  .of_wp fun prog w A R s hh => by
    obtain ⟨hp, g, d, tk, os⟩ := s; obtain ⟨hb, hr⟩ := hh
    have hsb := sub_enumerate
    have qi : ∀ {A' : Around} {E' : Value → Shared → Prop} {Q' : Value → Shared → Prop}, Q' (.ref z) ⟨hp, g, d, tk, os⟩ → wpAny (model prog w) A' (pyIter (.ref z)) Q' E' ⟨hp, g, d, tk, os⟩ :=
      fun q => wpAny_pyIter_zip hb q
    wp_walk using qi
    refine wpAny_stack_any fun sk => wpAny_pure ?_
    split
    · rename_i c _ _ _ _ _
      cases (c == Value.type "enumerate")
      · wp_walk using qi
        exact ⟨_, rfl, hr⟩
      · wp_walk using qi
        exact ⟨_, rfl, hr⟩
    · wp_walk using qi
      exact ⟨_, rfl, hr⟩
theorem enum_callZ {prog : Program} {w : World} {A : Around} {E : Value → Shared → Prop} {s : Shared} {z TI TO : Addr} {Q : Value → Shared → Prop} (hz : IsZip s.heap z TI TO .none)
    (hq : ∀ h', IsEnum h' s.heap.objs.size z 0 .none → (∀ b u, s.heap.get? b = some u → h'.get? b = some u) → Q (.ref s.heap.objs.size) { s with heap := h' }) :
    wpAny (model prog w) A (call (.type "enumerate") [.ref z]) Q E s := by
  refine callType_new F.called_enumerate (by decide) (F.typeCall_enumerate_1 _) (F.newCall_enumerate_1 _) (fun obj => F.args_object_init_2 obj _) F.entry_enumerate_new
    (enum_newZ (TI := TI) (TO := TO)) ⟨hz, ?_⟩
  have cell : IsEnum (s.heap.push { cls := .type "enumerate", data := .fields #[.none, .bool false, .ref z, rawInt 0, .none, .none] }) s.heap.objs.size z 0 .none := Heap.get?_push_size _ rfl
  exact ⟨⟨_, cell, rfl⟩, hq _ cell fun b u x => Heap.get?_push_of_some _ x⟩
theorem pi_ez {p p2 pos pos2 tpos : Pos} {elts : List Expr} {kk : Nat} (hg : Gl X "enumerate") (hm : X.mg "enumerate" = none) (hg2 : Gl X "zip") (hm2 : X.mg "zip" = none) (ha : PA X [e, e2] ta)
    (hs : starEach [e, e2] X.env = (false, eval e X.env) :: starEach [e2] X.env := by rfl) (hpl : (backTo pos2 (starEach [e2] X.env)).any (·.1) = false := by rfl) :
    PI X (.Tuple elts kk tpos) (.Call (.Name "enumerate" p) [.Call (.Name "zip" p2) [e, e2] [] pos2] [] pos) (iez X.K ta) := by
  refine ⟨fun pins s σ H R I h => ?_⟩
  refine Call_ (ld_blt I hg hm boot_enumerate ?_)
  refine PyProof.Rows.callWith_type1 (PyProof.Rows.args_cons ?_ rfl) rfl rfl
  refine Call_ (ld_blt I hg2 hm2 PyProof.Rows.boot_zip (PyProof.Rows.callWith_type1 (thn (ha.run pos2 pins s σ H _ I h) fun us s1 ⟨vs, H1, I1, r1, q1⟩ => ?_) hs hpl))
  obtain ⟨S1, S2, ex, ok1, ok2, q⟩ := q1
  subst ex
  obtain ⟨v1, v2, rfl, r, r'⟩ : ∃ v1 v2, us = [v1, v2] ∧ RelV (.ref S1.at) v1 ∧ RelV (.ref S2.at) v2 := by
    cases r1 with
    | cons r rr =>
      cases rr with
      | cons r' rr =>
        cases rr
        exact ⟨_, _, rfl, r, r'⟩
  cases r
  cases r'
  obtain ⟨its, rd, bg⟩ := Src.begun I1 ok1
  obtain ⟨its2, rd2, bg2⟩ := Src.begun I1 ok2
  refine zip_begins2 (Src.begins S1 its) (Src.begins S2 its2) bg bg2 fun h' hz hTI hTO h1 h2 hsz hk => ?_
  refine PyProof.Rows.args_nil ?_
  refine enum_callZ (s := { s1 with heap := h' }) hz fun h2' he hk2 => wpAny_pyIter_enum he ?_
  have I2 : Inv X pins σ H1 { s1 with heap := h2' } := I1.kept (t' := s1.toks) fun b o q => hk2 b o (hk b o q)
  have d1 : s1.heap.objs.size + 3 ∉ S1.fp := fun z => absurd (Src.fpLt rd _ z) (Nat.not_lt.mpr (Nat.le_add_right _ _))
  have d2 : s1.heap.objs.size + 3 ∉ S2.fp := fun z => absurd (Src.fpLt rd2 _ z) (Nat.not_lt.mpr (Nat.le_add_right _ _))
  have ne : h'.objs.size ∉ zcs (s1.heap.objs.size + 4) (s1.heap.objs.size + 2) (s1.heap.objs.size + 3) s1.heap.objs.size (s1.heap.objs.size + 1) := fun hb => by
    rw [hsz] at hb
    rcases zcs_mem.mp hb with q | q | q | q | q <;> exact absurd q (by simp [Addr])
  refine ⟨h'.objs.size, _, _, _, H1, rfl, I2, turn_ez S1 S2 (sep_new s1.heap.objs.size) d1 d2 ne, ⟨⟨.none, he⟩, ⟨hk2 _ _ hTI, ⟨_, _, hk2 _ _ hTO⟩, .inl (hk2 _ _ hz)⟩, Src.cell0 (hk2 _ _ h1), Src.cell0 (hk2 _ _ h2)⟩, fun b hb => ?_, q⟩
  have lb : s1.heap.objs.size ≤ b := by
    rcases List.mem_cons.mp hb with e | e
    · rw [e]
      show s1.heap.objs.size ≤ h'.objs.size
      rw [hsz]; exact Nat.le_add_right _ _
    · rcases zcs_mem.mp e with e | e | e | e | e <;> rw [e] <;> first | exact Nat.le_refl _ | exact Nat.le_add_right _ _
  exact I1.fpOk lb (I1.hok.fresh lb)
theorem ei_ez {p p2 pos pos2 tpos : Pos} {elts : List Expr} {kk : Nat} (hm : X.mg "enumerate" = none) (hm2 : X.mg "zip" = none) (h : ES X C ρ mu e ds) (h2 : ES X C ρ mu e2 ds2) (hg : Gl X "enumerate" := by rfl) (hg2 : Gl X "zip" := by rfl)
    (hs : starEach [e, e2] X.env = (false, eval e X.env) :: starEach [e2] X.env := by rfl) (hs2 : starEach [e2] X.env = (false, eval e2 X.env) :: starEach [] X.env := by rfl) (hpl : (backTo pos2 (starEach [e2] X.env)).any (·.1) = false := by rfl) :
    EI X C ρ mu (.Tuple elts kk tpos) (.Call (.Name "enumerate" p) [.Call (.Name "zip" p2) [e, e2] [] pos2] [] pos) (enu (zpp ds ds2)) := by
  obtain ⟨te, pe, ve⟩ := h
  obtain ⟨te2, pe2, ve2⟩ := h2
  refine ⟨_, pi_ez hg hm hg2 hm2 (pa_cons pe (pa_cons pe2 pa_nil hs2) hs) hs hpl, fun G σ H ok R q => ve G σ H ok _ fun S H1 e1 sd => ve2 G σ H1 (ok.mono e1) _ fun S2 H2 e2 sd2 => ?_⟩
  have o1 : S.ok X.K (hole H2 mu) := Src.ok_ex (hole_mono e2) sd.ok
  refine ⟨S, S2, rfl, Src.ok_ex hole_le o1, Src.ok_ex hole_le sd2.ok, q _ H2 (e1.trans e2) ⟨fun i H d x hd => ⟨Src.ok_ex x o1, Src.ok_ex x sd2.ok, ?_, ?_⟩, fun i H d v H' x hd y => ?_, fun H x => ⟨Src.ok_ex x o1, Src.ok_ex x sd2.ok, ?_⟩⟩⟩
  · obtain ⟨d', h1, rfl⟩ := enu_get hd
    obtain ⟨d1, d2, k1, k2, _⟩ := zpp_get h1
    rw [sd.len]; exact (List.getElem?_eq_some_iff.mp k1).1
  · obtain ⟨d', h1, rfl⟩ := enu_get hd
    obtain ⟨d1, d2, k1, k2, _⟩ := zpp_get h1
    rw [sd2.len]; exact (List.getElem?_eq_some_iff.mp k2).1
  · obtain ⟨d', h1, rfl⟩ := enu_get hd
    obtain ⟨d1, d2, k1, k2, rfl⟩ := zpp_get h1
    obtain ⟨T, U, a, b, rfl, hT, hU, rfl, ha, hb⟩ := y
    obtain ⟨v1, g1, r1⟩ := sd.at_ i d1 k1
    obtain ⟨v2, g2, r2⟩ := sd2.at_ i d2 k2
    rw [ha] at g1
    cases g1
    rw [hb] at g2
    cases g2
    have x2 : Ex H (upd (upd H T (.tup [a, b])) U (.tup [.int (i : Nat), .ref T])) := (Ex.new hT).trans (Ex.new hU)
    refine ⟨x2, rep_two upd_same .int (rep_two ((Ex.new hU).at upd_same) ((((r1.ex (hole_mono e2)).ex x)).ex x2) ((r2.ex x).ex x2))⟩
  · rw [sd.len, sd2.len]; simp [enu, zpp]
end
end Dd
set_option maxHeartbeats 2000000
/-! The defs: idle letters. Printed by gen/w14.py. -/
namespace Dd
open PySem PySem.Spec PyProof.Rows L2 Evl
section
variable {P : Program} {w : World} {K : PySem.W.Frag} {mg : Str → Option Value} {base : Heap} {C : Cs}

theorem EI.is {X : Cx} {ρ : Rho} {mu : Mu} {tg e : Expr} {a b : List D} (h : EI X C ρ mu tg e a) (z : a = b) : EI X C ρ mu tg e b := z ▸ h
theorem cut1D (ds : List D) : cutD ds (some 1) none = ds.tail := by
  unfold cutD
  cases ds with
  | nil => rfl
  | cons d ds =>
    have e : HT.sIx (d :: ds).length 0 (some 1) = 1 := by
      unfold HT.sIx
      rw [List.length_cons]
      simp
    have e2 : HT.sIx (d :: ds).length (d :: ds).length none = (d :: ds).length := rfl
    rw [e, e2]
    simp
abbrev ezD (A : List (List Int)) (i : Int) : D := .tup [.int i, .tup [it (A.getD i.toNat []), it (A.getD (i.toNat + 1) [])]]
theorem ez_eq (A : List (List Int)) : enu (zpp (A.map it) ((A.map it).tail)) = (rgs 0 (A.length - 1)).map (ezD A) := by
  refine List.ext_getElem? fun i => ?_
  unfold enu zpp
  rw [List.getElem?_map, List.getElem?_zipIdx, List.getElem?_map, List.getElem?_map]
  by_cases h : i < A.length - 1
  · have e1 : (rgs 0 (A.length - 1))[i]? = some (i : Int) := by simp [rgs, h]
    have h1 : i < A.length := by omega
    have h2 : i + 1 < A.length := by omega
    have e2 : ((A.map it).zip (A.map it).tail)[i]? = some (it A[i], it A[i + 1]) := List.getElem?_zip_eq_some.mpr ⟨by rw [List.getElem?_map, List.getElem?_eq_getElem h1]; rfl, by rw [List.getElem?_tail, List.getElem?_map, List.getElem?_eq_getElem h2]; rfl⟩
    rw [e1, e2]
    simp [List.getD, List.getElem?_eq_getElem h1, List.getElem?_eq_getElem h2]
  · rw [List.getElem?_eq_none (by rw [List.length_zip, List.length_tail, List.length_map]; omega), List.getElem?_eq_none (by rw [rgs_len]; omega)]
    rfl
abbrev N_idle_in : List Str := ["cores", "index", "one", "other"]
theorem sc_idle_in : FnScope N_idle_in ["cores"] (defScope (top 99)) := ⟨rfl, rfl, rfl, by decide +kernel, rfl, by decide +kernel, by decide +kernel⟩
theorem fd_idle_in (W : Wd mg) (D0 : Df K mg "idle_in" (top 99))  : Fd P w K mg base C 6 "idle_in" f_idle_in := by
  refine Fd.mk (lv := 5) D0 sc_idle_in (fun _ _ _ _ _ _ us hl => match us, hl with | [_], _ => rfl) (by decide) (fun ds d hf => by obtain ⟨A, hds, _⟩ := hf; rw [hds]; rfl) fun fa cdv A outer s H E ds d hr hf => ?_
  obtain ⟨A, rfl, hz, rfl⟩ := hf
  exact ss_1 (s1_ret (ee_tuple W.tuple (EL.ee (el_filt (own := [("index", 1), ("one", 2), ("other", 3)]) (rgs 0 (A.length - 1)) (fun i => decide (A.getD i.toNat [] = A.getD (i.toNat + 1) [])) (ezD A) (.int) (EI.is (ei_ez W.enumerate W.zip (es_var 0) (es_en (en_slL (ee_var 0) (eo_c ee_int) eo_no) (fun d q => by rw [cut1D] at q; obtain ⟨x, _, rfl⟩ := List.mem_map.mp (List.mem_of_mem_tail q); exact im_it x))) (by rw [cut1D, ez_eq])) sc_idle_in.nd (blkOk_by (N := N_idle_in) (sc := defScope (top 99)) (by decide +kernel)) (by intro _ _ _ z; cases z) (by rw [rgs_len]; omega) (fun i hx =>  turn_t (fun _ _ _ _ _ => (eg_tup (egs_c (eg_name 1 sc_idle_in.nd may0) (egs_c (eg_tup (egs_c (eg_name 2 sc_idle_in.nd may0) (egs_c (eg_name 3 sc_idle_in.nd may0) egs_no))) egs_no)))) (fun _ _ _ _ _ => EB.is (eb_eqI2 hr.units (ee_var 2) (ee_var 3)) rfl) .int (fun hb => fun _ _ _ _ _ => (ee_var 1)))))) rfl)
end
end Dd
set_option maxHeartbeats 2000000
/-! A generator expression's own frame. -/
namespace Dd
open PySem PySem.Spec PyProof.Rows L2 Evl
/-- the generator's environment -/
abbrev genv (X : Cx) (scope : Scope) (c : Addr) (code : Value) : Env := genEnv scope (cloFrom X.env.cells scope.names []) c code builtinsNs X.env
/-- the context of the generator's body while it is woken: the frame is its own, the callers' frames lie below -/
abbrev gcx (X : Cx) (s : Shared) (H : Hp) (scope : Scope) (code : Value) (fp : List Addr) (A' : Around) : Cx :=
  { X with A := A', s_0 := s, H_0 := H, env := genv X scope s.heap.objs.size code, outer := X.stack, stack := genv X scope s.heap.objs.size code :: X.stack, ex := fp, fn := fun _ => false, pn := [], xe := fun _ _ => False }
section
variable {X : Cx} {pins : List (Addr × Obj)} {σ : L2.St} {H : Hp} {s s5 : Shared}
theorem gen_begin {scope : Scope} {own : List (Str × Nat)} {fp : List Addr} {code : Value} {A' : Around} {m0 : Str → Option Value} (I : Inv X pins σ H s) (ok : BlkOk X.N X.env.scope scope own) (nd : X.N.Nodup) (noc : ∀ y ∈ scope.names, y.2 ≠ .cell) (hfp : ∀ b ∈ fp, FpOk X pins H b ∧ b < s.heap.objs.size)
    (hh : A'.handled = none) (hf : A'.frames = some (genv X scope s.heap.objs.size code :: X.stack)) (os : s5.os = s.os) (bare : AllBare s5.gens) (ns : s5.heap.Ns s.heap.objs.size m0) (kp : ∀ b o, s.heap.get? b = some o → s5.heap.get? b = some o) :
    Inv (gcx X s H scope code fp A') [] (wipe σ (own.map (·.2))) H s5 := by
  have free : ∀ y ∈ scope.names, y.2 = .free → ∃ c, X.env.cells.lookup y.1 = some c := fun y hy e => (ok.free y hy e).elim (fun k => I.ok.has _ (.inl k)) fun k => I.ok.has _ (.inr k)
  have mem : ∀ {y c}, (cloFrom X.env.cells scope.names []).lookup y = some c → X.env.cells.lookup y = some c := fun {y c} e => by
    rcases cloFrom_mem (PySem.mem_of_lookup e) with hm | ⟨h1, h2⟩
    · cases hm
    · obtain ⟨c', hc⟩ := free _ h1 rfl
      rw [h2, hc]
      rfl
  have low : ∀ {y c}, (cloFrom X.env.cells scope.names []).lookup y = some c → c < s.heap.objs.size := fun e => let ⟨_, z⟩ := I.cell _ _ (mem e); z.lt
  have look : ∀ {y}, scope.names.lookup y = some .free → ∃ c, (cloFrom X.env.cells scope.names []).lookup y = some c ∧ X.env.cells.lookup y = some c := fun {y} hl => by
    obtain ⟨c', e'⟩ := mem_lookup (cloFrom_has (cells := X.env.cells) (acc := []) (PySem.mem_of_lookup hl))
    exact ⟨c', e', mem e'⟩
  have nocell : ∀ {y}, scope.names.lookup y ≠ some .cell := fun {y} e => noc _ (PySem.mem_of_lookup e) rfl
  have okB : (gcx X s H scope code fp A').Ok := by
    refine ⟨I.ok.mod, ok.kind, I.ok.glob, rfl, Nat.le_refl _, fun y z c e1 e2 => I.ok.inj y z c (mem e1) (mem e2), fun y hy => ?_, fun y c z _ => (nomatch z), fun _ => hh, hf, .inr ⟨rfl, rfl⟩, fun b hb => ⟨Nat.ne_of_lt (hfp b hb).2, fun y c e z => (hfp b hb).1.2.2.2.2.1 y c (mem e) z⟩, I.bs, Nat.le_trans I.ok.bsz I.sz, fun b o e hb => ?_, fun b hb z => ?_, I.stack, I.stkFree⟩
    · rcases hy with hy | hy
      · exact absurd hy nocell
      · exact let ⟨c, h, _⟩ := look hy; ⟨c, h⟩
    · rcases (hfp b hb).1.2.2.2.1 with z | z
      · exact I.ok.noex b o e z
      · exact absurd (Nat.lt_of_lt_of_le (Heap.lt_size e) (Nat.le_trans I.ok.bsz z)) (Nat.lt_irrefl _)
    · rcases List.mem_cons.mp (I.stkSub b z) with z | z
      · exact (hfp b hb).1.2.1 z
      · exact (hfp b hb).1.2.2.1 z
  refine ⟨okB, os, bare, Un.kept kp, ⟨m0, ns, fun i y v e1 e2 e3 => ?_⟩, fun y c e => ?_, I.hok.fresh (Nat.le_refl _), fun y c e => I.freeC y c (mem e), fun p hp => absurd (show p ∈ ([] : List (Addr × Obj)) ++ [] from hp) (by simp), I.hok.kept kp, by rw [wipe_length]; exact I.len⟩
  · obtain ⟨e2, hne⟩ := wipe_some e2
    have e3 : Vis scope y := e3
    have hfr : scope.names.lookup y = some .free := by
      rcases e3 with e3 | e3 | e3
      · rcases ok.own _ (PySem.mem_of_lookup e3) (.inl rfl) with e' | e'
        · obtain ⟨p, hp, hpy⟩ := List.mem_map.mp e'
          have z := ok.ix p hp
          rw [show p.1 = y from hpy] at z
          exact absurd (List.mem_map.mpr ⟨p, hp, nodup_ix nd z e1⟩) hne
        · exact absurd (List.mem_of_getElem? e1) e'
      · exact absurd e3 nocell
      · exact e3
    obtain ⟨m, hn, hl⟩ := I.loc
    have kx := ok.free _ (PySem.mem_of_lookup hfr) rfl
    obtain ⟨u, r, q⟩ := hl i y v e1 e2 (kx.elim (fun k => .inr (.inl k)) fun k => .inr (.inr k))
    obtain ⟨c, h1, h2⟩ := look hfr
    refine ⟨u, r, .inr ⟨.inr hfr, c, h1, ?_⟩⟩
    rcases q with ⟨k, _⟩ | ⟨_, c', e', z⟩
    · have k : X.env.scope.names.lookup y = some .local := k
      rcases kx with k' | k' <;> rw [show X.env.scope.names.lookup y = _ from k'] at k <;> cases k
    · rw [h2] at e'
      cases e'
      exact z.keeps kp
  · obtain ⟨u, z⟩ := I.cell y c (mem e)
    exact ⟨u, z.keeps kp⟩
/-- the code that walks it -/
abbrev gLoop (X : Cx) (s : Shared) (scope : Scope) (code : Value) (elt iter : Expr) (x : Str) (px : Pos) (ifs : List Expr) (pos : Pos) (it : Addr) : Code := .compLoop (.GeneratorExp elt [⟨.Name x px, iter, ifs, 0⟩] scope pos) 0 (.ref it) .none (genv X scope s.heap.objs.size code)
/-- what is known when an item is handed out -/
abbrev gOut (Y : Cx) (Qy : VK) : Protocol := fun _ _ v s₁ _ => ∃ y H' σ' pins', Inv Y pins' σ' H' s₁ ∧ RelV y v ∧ Qy y H'
abbrev gFin (Y : Cx) (σ : L2.St) (Qn : Hp → Prop) : GenEnd := fun _ _ r s₁ => r = .ok .next ∧ ∃ H', Inv Y [] σ H' s₁ ∧ Qn H'
theorem gen_seg {scope : Scope} {own : List (Str × Nat)} {fp : List Addr} {code : Value} {A : Around} {elt iter : Expr} {x : Str} {px pos : Pos} {ifs : List Expr} {it : Addr} {J : It} {tn : Nat → Heap → Prop} {g : TG} {tt : TT} {te : TE} {Qn : Hp → Prop} {Qy : VK} {W : Nat → Nat → Hp → Prop} {σ : L2.St} {H : Hp} {s s₀ : Shared}
    (calm : X.calm = true) (co : scope.isCoroutine = false) (T : Turn X.prog X.w X.K (.Name x px) J fp it tn)
    (pg : PG (gcx X s H scope code fp (A.over (gLoop X s scope code elt iter x px ifs pos it) [])) (.Name x px) g) (pt : PTs (gcx X s H scope code fp (A.over (gLoop X s scope code elt iter x px ifs pos it) [])) ifs tt) (pe : PE (gcx X s H scope code fp (A.over (gLoop X s scope code elt iter x px ifs pos it) [])) elt te)
    (turn : ∀ i m H, W i m H → (J.stop i H ∧ Qn H) ∨ (J.go i H ∧ ∃ Nx : Hp → Prop, (∀ H', Nx H' → ∃ m', m' < m ∧ W (i + 1) m' H') ∧ ∀ x H', J.yld i H x H' → g x (wipe σ (own.map (·.2))) H' fun σ2 H2 => wipe σ2 (own.map (·.2)) = wipe σ (own.map (·.2)) ∧ tt σ2 H2 fun b H3 =>
      if b = true then te σ2 H3 Qy else Nx H3)) :
    ∀ (m i : Nat) (H5 : Hp) (s5 : Shared), Inv (gcx X s H scope code fp (A.over (gLoop X s scope code elt iter x px ifs pos it) [])) [] (wipe σ (own.map (·.2))) H5 s5 → tn i s5.heap → (∀ b ∈ fp, H5 b = none) → W i m H5 →
      Seg (model X.prog X.w) A (gFin (gcx X s H scope code fp (A.over (gLoop X s scope code elt iter x px ifs pos it) [])) (wipe σ (own.map (·.2))) Qn) (gOut (gcx X s H scope code fp (A.over (gLoop X s scope code elt iter x px ifs pos it) [])) Qy) 1 s₀
        (gLoop X s scope code elt iter x px ifs pos it) ((model X.prog X.w).den (gLoop X s scope code elt iter x px ifs pos it)) [] s5 := by
  have stat : ∀ {τ : L2.St} {G : Hp} {r : Shared}, Inv (gcx X s H scope code fp (A.over (gLoop X s scope code elt iter x px ifs pos it) [])) [] τ G r → (∀ b ∈ fp, G b = none) → ∀ b ∈ fp, FpOk (gcx X s H scope code fp (A.over (gLoop X s scope code elt iter x px ifs pos it) [])) [] G b := fun J1 z b hb =>
    ⟨z b hb, (J1.ok.exf b hb).1, J1.ok.exfs b hb, .inl hb, fun x c e => (J1.ok.exf b hb).2 x c e, fun p hp => absurd (show p ∈ ([] : List (Addr × Obj)) ++ [] from hp) (by simp)⟩
  intro m
  induction m using Nat.strongRecOn with
  | _ m ih =>
    intro i H5 s5 I5 st5 n5 w5
    show Seg _ A _ _ _ s₀ _ ((compTurn (.GeneratorExp elt [⟨.Name x px, iter, ifs, 0⟩] scope pos) 0 (.ref it) .none (genv X scope s.heap.objs.size code)).onRaise (leaving (genv X scope s.heap.objs.size code))) [] s5
    rw [compTurn_gen, Sem.onRaise_eq_wrap]
    refine seg_bind_wrap (wpAny_standAt ?_)
    rcases turn i m H5 w5 with ⟨stop, fin⟩ | ⟨go, Nx, nxt, step⟩
    · refine seg_bind_wrap (thnF (T.done (gcx X s H scope code fp (A.over (gLoop X s scope code elt iter x px ifs pos it) [])) rfl rfl rfl calm i [] s5 _ H5 (fun _ _ => False) I5 (stat I5 n5) st5 stop) fun r s6 ⟨hr, I6⟩ => ?_)
      subst hr
      exact seg_end (.ok .next) ⟨rfl, H5, I6, fin⟩
    · refine seg_bind_wrap (thnF (T.item (gcx X s H scope code fp (A.over (gLoop X s scope code elt iter x px ifs pos it) [])) rfl rfl rfl calm i [] s5 _ H5 (fun _ _ => False) I5 (stat I5 n5) st5 go) fun r s6 ⟨u, hr, h6⟩ => ?_)
      subst hr
      refine seg_bind_wrap (thnF h6 fun _ s7 ⟨v, H7, I7, r7, y7, st7, n7⟩ => ?_)
      have Ip := I7.pinned (stat I7 n7) (T.obj _ _ st7)
      refine seg_bind_wrap (thnF (pg.run _ s7 _ H7 v u _ Ip r7 (step v H7 y7)) fun _ s8 ⟨σ8, H8, I8, hw8, q8⟩ => ?_)
      refine seg_bind_wrap (thnF (pt.run _ s8 σ8 H8 _ I8 q8) fun b s9 ⟨H9, I9, q9⟩ => ?_)
      cases b with
      | false =>
        simp only [Bool.false_eq_true, if_false] at q9 ⊢
        obtain ⟨m', hm, w'⟩ := nxt H9 q9
        have pin1 : ∀ b ∈ fp, ∀ o, s7.heap.get? b = some o → s9.heap.get? b = some o ∧ H9 b = none := fun b hb o e =>
          let z := I9.pin (b, o) (List.mem_append_right _ (List.mem_append_right _ (mem_pinsAt hb e)))
          ⟨z.1, z.2.1⟩
        refine seg_again rfl (ih m' hm (i + 1) H9 s9 ((I9.unpinned (pins := [])).weak (by rw [← hw8, wipe_length]) fun j v e => ?_) (T.keep _ _ _ st7 fun b hb o e => (pin1 b hb o e).1) (fun b hb => ?_) w')
        · rw [← hw8] at e
          exact (wipe_some e).1
        · obtain ⟨o, e, _⟩ := T.obj _ _ st7 b hb
          exact (pin1 b hb o e).2
      | true =>
        simp only [if_true] at q9 ⊢
        have hy : ∀ v, yieldOut (genv X scope s.heap.objs.size code) v = yieldValue v := fun v => by simp only [yieldOut, genEnv, co, Bool.false_eq_true, if_false]
        simp only [hy]
        rw [Sem.bind_eq_wrap', Sem.bind_eq_wrap', Sem.wrap_wrap, Sem.wrap_wrap]
        refine seg_wrap (thnF (pe.run _ s9 σ8 H9 _ I9 q9) fun z s10 ⟨y, H10, I10, r10, q10⟩ => ?_)
        exact seg_at (seg_yield rfl rfl rfl ⟨y, H10, σ8, _, I10, r10, q10⟩)
end
end Dd
set_option maxHeartbeats 2000000
/-! next(x for x in .. if .., None). -/
namespace Dd
open PySem PySem.Spec PyProof.Rows L2 Evl GenW
/-- in the frame of a generator expression of X's def -/
abbrev GBlk (X : Cx) (k : Nat) (scope : Scope) (Pr : Cx → Prop) : Prop := ∀ (s : Shared) (H : Hp) (code : Value) (fp : List Addr) (A' : Around), Room k A' → Pr (gcx X s H scope code fp A')
theorem over_gen {A : Around} {X : Cx} {s : Shared} {scope : Scope} {code : Value} {elt iter : Expr} {x : Str} {px pos : Pos} {ifs : List Expr} {it : Addr} {L : List Env} (h : A.frames = some L) : (A.over (gLoop X s scope code elt iter x px ifs pos it) []).frames = some (genv X scope s.heap.objs.size code :: L) := by
  unfold Around.over
  have e : Code.envs (gLoop X s scope code elt iter x px ifs pos it) = [genv X scope s.heap.objs.size code] := by
    unfold Code.envs
    rw [if_pos (show (gLoop X s scope code elt iter x px ifs pos it).isFrame = true from rfl)]
    rfl
  simp [h, e, pushEnvs_eq, envsOf]
theorem room_gen {k : Nat} {A : Around} {X : Cx} {s : Shared} {scope : Scope} {code : Value} {elt iter : Expr} {x : Str} {px pos : Pos} {ifs : List Expr} {it : Addr} (r : Room (k + 1) A) : Room k (A.in1.in1.over (gLoop X s scope code elt iter x px ifs pos it) []) where
  hd := r.hd
  dp := by have := r.dp; show A.depth + 0 + 1 + 3 * k + 5 < _; omega
  un := by
    have := r.un
    show A.units + 1 + 1 + 0 + 3 + 16 * k + 200 < _
    omega
/-- what the generator's body asks -/
def tNxG (K : PySem.W.Frag) (P : Addr) (ti : TE) (g : TG) (tt : TT) (te : TE) (vs : List Nat) : TE := fun σ H Q => ti σ H fun v H1 => ∃ S : Src, v = .ref S.at ∧ S.ok K H1 ∧ GxR.TabG H1 P ∧ ∀ H2, GxR.Tabbed P H1 H2 → ∃ W : Nat → Nat → Hp → Prop, (∃ m, W 0 m H2) ∧
  ∀ i m H, W i m H → ((Isr K S).stop i H ∧ Q .non H) ∨ ((Isr K S).go i H ∧ ∃ Nx : Hp → Prop, (∀ H', Nx H' → ∃ m', m' < m ∧ W (i + 1) m' H') ∧ ∀ x H', (Isr K S).yld i H x H' → g x (wipe σ vs) H' fun σ2 H2 => wipe σ2 vs = wipe σ vs ∧ tt σ2 H2 fun b H3 =>
    if b = true then te σ2 H3 Q else Nx H3)
section
variable {X : Cx}
theorem pe_nxG {c P : Addr} {k nk : Nat} {elt iter : Expr} {x : Str} {px p gpos pos npos : Pos} {ifs : List Expr} {scope : Scope} {own : List (Str × Nat)} {ti : TE} {g : TG} {tt : TT} {te : TE} (calm : X.calm = true) (hr : Room (k + 1) X.A) (hg : Gl X "next") (hm : X.mg "next" = none) (TB : GxR.TabB X.base X.mg c P) (hcode : X.env.code = .ref c)
    (ok : BlkOk X.N X.env.scope scope own) (nd : X.N.Nodup) (co : scope.isCoroutine = false) (noc : ∀ y ∈ scope.names, y.2 ≠ .cell) (dot : scope.names.lookup (".0" : Str) = some NameKind.local) (hi : PE X iter ti)
    (pg : GBlk X k scope fun Y => PG Y (.Name x px) g) (pt : GBlk X k scope fun Y => PTs Y ifs tt) (pe : GBlk X k scope fun Y => PE Y elt te) (hs : ∀ v, genFold iter X.env v = pure v)
    (he : starEach [.GeneratorExp elt [⟨.Name x px, iter, ifs, 0⟩] scope gpos, .Constant .none nk npos] X.env = (false, eval (.GeneratorExp elt [⟨.Name x px, iter, ifs, 0⟩] scope gpos) X.env) :: starEach [.Constant .none nk npos] X.env := by rfl)
    (hpl : (backTo pos (starEach [.Constant .none nk npos] X.env)).any (·.1) = false := by rfl) :
    PE X (.Call (.Name "next" p) [.GeneratorExp elt [⟨.Name x px, iter, ifs, 0⟩] scope gpos, .Constant .none nk npos] [] pos) (tNxG X.K P ti g tt te (own.map (·.2))) := by
  refine ⟨fun pins s σ H Q I h => ?_⟩
  refine wpAny_Call_Name_kw (ld_blt I hg hm PyProof.Rows.boot_next ?_)
  refine PyProof.Rows.callWith_builtin1 (PyProof.Rows.args_cons ?_ he) he hpl
  have free : ∀ y ∈ scope.names, y.2 = .free → ∃ c, X.env.cells.lookup y.1 = some c := fun y hy e => (ok.free y hy e).elim (fun k => I.ok.has _ (.inl k)) fun k => I.ok.has _ (.inr k)
  refine wpAny_GeneratorExp_make co (closure_ok free) noc dot ok.kind (by have := hr.dp; omega) ?_ hs
  refine thn (hi.run pins s σ H _ I h) fun _ s1 ⟨v, H1, I1, r1, q1⟩ => ?_
  obtain ⟨S, rfl, ok1, ⟨ps, hP, ht⟩, q1⟩ := q1
  cases r1
  obtain ⟨its, rd, bg⟩ := Src.begun I1 ok1
  refine (Src.begins S its).iter _ _ _ _ s1 _ bg ?_
  have nofree := (Src.begins S its).free
  have hPs : s1.heap.get? P = some { cls := .none, data := .fields ps } := I1.hok P _ hP
  have hPlt : P < s1.heap.objs.size := Heap.lt_size hPs
  have hP2 : (s1.heap.push S.obj).get? P = some { cls := .none, data := .fields ps } := Heap.get?_push_of_some _ hPs
  have cd : PySem.W.CodeHd (s1.heap.push S.obj) c P := TB.code.keeps fun b u e => Heap.get?_push_of_some _ (I1.bk b u e)
  have lim2 : (s1.heap.push S.obj).NoLimit := I1.nolimit.push S.obj
  have hit2 : (s1.heap.push S.obj).get? s1.heap.objs.size = some S.obj := Heap.get?_push_size _ nofree
  refine ⟨lim2, ?_⟩
  have cont : ∀ (code : Value) (h3 : Heap) (tk : Nat) (ps' : Array Value), Heap.ExtBut P (s1.heap.push S.obj) h3 → (s1.heap.push S.obj).objs.size ≤ h3.objs.size → h3.get? P = some { cls := .none, data := .fields ps' } → (∃ more, ps' = ps ++ more) → TriplesOk ps'.toList →
      wpAny (model X.prog X.w) X.A (builtinsFor X.env.globals X.env.builtins) (fun bi s₄ => ∀ h', h'.Ns s₄.heap.objs.size (fun y => if y = ".0" then some (.ref s1.heap.objs.size) else none) → Heap.SameBut s₄.heap.objs.size (s₄.heap.push { cls := .type "frame", data := .dict #[] }) h' →
        wpAny (model X.prog X.w) X.A (spliced (backTo pos (starEach [.Constant .none nk npos] X.env))) (fun vs s₂ => wpAny (model X.prog X.w) X.A (call (.builtin "next") (.ref h'.objs.size :: vs)) (EP X pins σ Q) X.xe s₂) X.xe
          { s₄ with
            gens := s₄.gens.push (.fresh (.compStart (.GeneratorExp elt [⟨.Name x px, iter, ifs, 0⟩] scope gpos) 0 (.ref s1.heap.objs.size) .none (genEnv scope (cloFrom X.env.cells scope.names []) s₄.heap.objs.size code bi X.env))),
            toks := s₄.toks + 1 + 1 + 1,
            heap := h'.push { cls := .type "generator", data := .fields #[.int s₄.gens.size 0, .str "<genexpr>" (s₄.toks + 1), .str (X.env.qual ++ "<genexpr>") (s₄.toks + 1 + 1)] } }) X.xe { s1 with heap := h3, toks := tk } := by
    intro code h3 tk ps' hx hsz hP3 hmore ht3
    obtain ⟨bm, ob, e1, e2, e3, e4, e5, e6, e7, e8⟩ := TB.bm
    have hcP : cStatics ≠ P := fun e => by
      obtain ⟨_, hns, _⟩ := I1.nolimit
      obtain ⟨o', es, ep, ho, hd, _⟩ := hns
      rw [e, hPs] at ho
      cases ho
      cases hd
    have keep3 : ∀ b u, b ≠ P → s1.heap.get? b = some u → h3.get? b = some u := fun b u hb e => hx b u hb (Heap.get?_push_of_some _ e)
    refine wpAny_builtinsFor (m := X.mg) (by rw [I1.ok.glob]; exact ((I1.mod.glob.keeps I1.bk).push S.obj).extBut hx TB.gP) e1 e2 (keep3 _ _ e4 (I1.bk _ _ e5)) e6 e7 e8 ?_
    obtain ⟨more, rfl⟩ := hmore
    have itP : s1.heap.objs.size ≠ P := Nat.ne_of_gt hPlt
    have hit3 : h3.get? s1.heap.objs.size = some S.obj := hx _ _ itP hit2
    have J := GxR.inv_tab (more := more) (h' := h3) (g' := s1.gens) (d' := s1.drawn) (t' := tk) I1 hP keep3 hP3 I1.bare
    have tab2 : GxR.Tabbed P H1 (upd H1 P (.tbl (ps ++ more))) := ⟨⟨ps ++ more, upd_same, ht3⟩, fun b hb => upd_ne hb⟩
    have lim4 : h3.NoLimit := lim2.extBut hx hcP
    have itFree : upd H1 P (.tbl (ps ++ more)) s1.heap.objs.size = none := by rw [upd_ne itP]; exact I1.hok.fresh (Nat.le_refl _)
    have itFp : FpOk X pins (upd H1 P (.tbl (ps ++ more))) s1.heap.objs.size := I1.fpOk (Nat.le_refl _) itFree
    generalize hH2 : upd H1 P (.tbl (ps ++ more)) = H2 at J tab2 itFree itFp
    obtain ⟨W, ⟨m0, w0⟩, turn⟩ := q1 H2 tab2
    generalize hs4 : ({ s1 with heap := h3, gens := s1.gens, drawn := s1.drawn, toks := tk } : Shared) = s4 at J
    intro h' ns sb
    have eh : s4.heap = h3 := by rw [← hs4]
    have eg : s4.gens = s1.gens := by rw [← hs4]
    rw [← eh] at hit3 lim4 hsz
    have size' : h'.objs.size = s4.heap.objs.size + 1 := by rw [sb.1, Heap.size_push]
    have keep' : ∀ b o, s4.heap.get? b = some o → h'.get? b = some o := fun b o e => sb.extBut b o (Nat.ne_of_lt (Heap.lt_size e)) (Heap.get?_push_of_some _ e)
    generalize hgn : s4.gens.size = gn
    generalize hs6 : ({ s4 with gens := s4.gens.push (.fresh (.compStart (.GeneratorExp elt [⟨.Name x px, iter, ifs, 0⟩] scope gpos) 0 (.ref s1.heap.objs.size) .none (genEnv scope (cloFrom X.env.cells scope.names []) s4.heap.objs.size code builtinsNs X.env))), toks := s4.toks + 1 + 1 + 1, heap := h'.push { cls := .type "generator", data := .fields #[.int gn 0, .str "<genexpr>" (s4.toks + 1), .str (X.env.qual ++ "<genexpr>") (s4.toks + 1 + 1)] } } : Shared) = s6
    have h6 : s6.heap = h'.push { cls := .type "generator", data := .fields #[.int gn 0, .str "<genexpr>" (s4.toks + 1), .str (X.env.qual ++ "<genexpr>") (s4.toks + 1 + 1)] } := by rw [← hs6]
    have g6 : s6.gens = s4.gens.push (.fresh (.compStart (.GeneratorExp elt [⟨.Name x px, iter, ifs, 0⟩] scope gpos) 0 (.ref s1.heap.objs.size) .none (genv X scope s4.heap.objs.size code))) := by rw [← hs6]
    have o6 : s6.os = s4.os := by rw [← hs6]
    have isg : s6.heap.IsGen h'.objs.size gn := by rw [h6]; exact ⟨_, _, _, Heap.get?_push_size _ rfl, rfl, rfl, rfl⟩
    have keep6 : ∀ b o, s4.heap.get? b = some o → s6.heap.get? b = some o := fun b o e => by rw [h6]; exact Heap.get?_push_of_some _ (keep' b o e)
    have lim6 : s6.heap.NoLimit := lim4.keeps keep6
    have ns6 : s6.heap.Ns s4.heap.objs.size (fun y => if y = ".0" then some (.ref s1.heap.objs.size) else none) := by rw [h6]; exact ns.push _
    have gs6 : s6.gens[gn]? = some (.fresh (.compStart (.GeneratorExp elt [⟨.Name x px, iter, ifs, 0⟩] scope gpos) 0 (.ref s1.heap.objs.size) .none (genv X scope s4.heap.objs.size code))) := by rw [g6, ← hgn]; exact Array.getElem?_push_size ..
    have bare6 : AllBare s6.gens := by rw [g6]; exact J.bare.push rfl
    clear hs6
    refine PyProof.Rows.args_cons (wpAny_pure (PyProof.Rows.args_nil ?_)) rfl
    refine Calls.call_function_entry (by decide +kernel) (by decide +kernel) PySem.W.kdk_entry_next (PySem.W.kdk_args_next2 _ _) ?_
    unfold Builtin.«next»
    refine wpAny_bind (m := someArgs "next" 1 2 _) (wpAny_of_eq (a := [Value.ref h'.objs.size, .none]) (by first | rfl | kernel_rfl!) ?_)
    dsimp only
    refine wpAny_bind (wpAny_specialOf (name := Str.ofString "__next__") isg.typeIs slot_gen_next.lookup ?_)
    refine wpAny_ite_split (fun hab => absurd hab (by decide)) (fun _ => ?_)
    have hh : X.A.handled = none := hr.hd
    have lt1 : s1.heap.objs.size < s4.heap.objs.size := Heap.lt_size hit3
    have bareR : ∀ {y : GenState}, y.bare = true → ∀ {r : Shared}, AllBare r.gens → AllBare (r.setGen gn y).gens := fun {y} hy {r} hb => allBare_setGen hb hy
    have back : ∀ {Hk : Hp} {τ : L2.St} {pk : List (Addr × Obj)} {r r' : Shared}, Inv (gcx X s4 H2 scope code [s1.heap.objs.size] (X.A.in1.in1.over (gLoop X s4 scope code elt iter x px ifs gpos s1.heap.objs.size) [])) pk τ Hk r → r'.os = r.os → AllBare r'.gens → (∀ b o, r.heap.get? b = some o → r'.heap.get? b = some o) → Inv X pins σ Hk r' := fun {Hk τ pk r r'} K e1 e2 e3 => by
      have K1 := K.call' (s' := r') (ch := []) e1 (Un.kept e3) (K.hok.kept e3) e2 (fun _ z => nomatch z)
      exact J.call' (ch := [s1.heap.objs.size]) K1.os K1.base K1.hok e2 fun b hb => by
        rw [List.mem_singleton.mp hb]
        exact ⟨itFp.2.2.2.1, itFp.2.1, itFp.2.2.2.2.1, itFp.2.2.2.2.2⟩
    refine wpAny_bind (wpAny_pyNext_genexpQ (n := 1) (P := fun _ _ s₁ => ∃ H', Inv (gcx X s4 H2 scope code [s1.heap.objs.size] (X.A.in1.in1.over (gLoop X s4 scope code elt iter x px ifs gpos s1.heap.objs.size) [])) [] (wipe σ (own.map (·.2))) H' s₁ ∧ Q .non H')
      (Y := gOut (gcx X s4 H2 scope code [s1.heap.objs.size] (X.A.in1.in1.over (gLoop X s4 scope code elt iter x px ifs gpos s1.heap.objs.size) [])) Q) hh lim6 (by have := hr.dp; show X.A.depth < _; omega) isg gs6 ⟨rfl, ?_⟩ (fun v s₁ gs' hb hv => ?_) (fun s₁ hp h'' hk => ?_))
    · have T := turn_sr (P := X.prog) (w := X.w) (K := X.K) (tg := .Name x px) S s1.heap.objs.size
      have room := room_gen (X := X) (s := s4) (scope := scope) (code := code) (elt := elt) (iter := iter) (x := x) (px := px) (pos := gpos) (ifs := ifs) (it := s1.heap.objs.size) hr
      have I5 := gen_begin (s5 := s6.setGen gn .running) (code := code) (fp := [s1.heap.objs.size]) J ok nd noc (fun b hb => by rw [List.mem_singleton.mp hb]; exact ⟨itFp, lt1⟩) (A' := X.A.in1.in1.over (gLoop X s4 scope code elt iter x px ifs gpos s1.heap.objs.size) []) room.hd (over_gen (A := X.A.in1.in1) J.ok.frames) o6 (bareR rfl bare6) ns6 keep6
      have st5 : S.cell s1.heap.objs.size 0 (s6.setGen gn .running).heap := Src.cell0 (keep6 _ _ hit3)
      have loop := gen_seg (s₀ := s6.setGen gn .running) (A := X.A.in1.in1) (own := own) (σ := σ) calm co T (pg s4 H2 code [s1.heap.objs.size] _ room) (pt s4 H2 code [s1.heap.objs.size] _ room) (pe s4 H2 code [s1.heap.objs.size] _ room) turn m0 0 H2 (s6.setGen gn .running) I5 st5 (fun b hb => by rw [List.mem_singleton.mp hb]; exact itFree) w0
      show Seg _ X.A.in1.in1 _ _ _ (s6.setGen gn .running) _ ((compStart (.GeneratorExp elt [⟨.Name x px, iter, ifs, 0⟩] scope gpos) 0 (.ref s1.heap.objs.size) .none (genv X scope s4.heap.objs.size code)).onRaise (leaving (genv X scope s4.heap.objs.size code))) [] (s6.setGen gn .running)
      unfold compStart
      rw [Sem.onRaise_eq_wrap]
      show Seg _ X.A.in1.in1 _ _ _ (s6.setGen gn .running) _ ((ask >>= _).wrap _ _ _ _) [] (s6.setGen gn .running)
      refine seg_bind_wrap (wpAny_askSetting ?_)
      split
      · exact seg_again rfl loop
      · first
          | exact seg_bind_wrap (wpAny_rule (seg_bind_wrap (wpAny_standAt (seg_bind_wrap (T.self _ 0 _ _ _ st5 (seg_again rfl loop))))))
          | (refine seg_bind_wrap (wpAny_rule ?_); show Seg _ X.A.in1.in1 _ _ _ (s6.setGen gn .running) _ ((standAt iter.pos >>= _).wrap _ _ _ _) [] (s6.setGen gn .running); exact seg_bind_wrap (wpAny_standAt (seg_bind_wrap (T.self _ 0 _ _ _ st5 (seg_again rfl loop)))))
    · obtain ⟨y, H', σ', pins', I', rv, qy⟩ := hv
      exact wpAny_pure ⟨_, rfl, y, H', back I' rfl (bareR hb I'.bare) (fun _ _ e => e), rv, qy⟩
    · obtain ⟨H', I', qn⟩ := hp
      exact wpAny_pure ⟨_, rfl, .non, H', back I' rfl (bareR rfl I'.bare) hk, rfl, qn⟩
  cases hf : codeAmong gpos ps.toList with
  | none =>
    refine wpAny_genexprCodeX hcode (cd.code hP2 ht) (cd.tab hP2) hf fun c' h' tk hx hge hlt hco' _ htab' _ => ?_
    obtain ⟨o1, vs, f1, tf, fl, tg, inF, tx, tt, op, _, _, _, _, _, _, _, _, _, htr, _⟩ := hco'
    exact cont _ h' tk _ hx (Nat.le_trans hge (Nat.le_of_lt hlt)) htab'.2 ⟨_, rfl⟩ htr
  | some cv =>
    refine wpAny_genexprCode_hit hcode (cd.code hP2 ht) hf ?_
    exact cont cv (s1.heap.push S.obj) s1.toks ps (Heap.ExtBut.refl _ _) (Nat.le_refl _) hP2 ⟨#[], by simp⟩ ht
end
theorem ex_tabbed {P : Addr} {H H' : Hp} (h0 : GxR.TabG H P) (h : GxR.Tabbed P H H') : Ex H H' := by
  obtain ⟨ps, hp, _⟩ := h0
  refine ⟨fun a o ha n => ?_, fun a o ha => ?_, fun a ha => ?_⟩
  · rw [h.2 a fun e => ?_]
    · exact ha
    · rw [e, hp] at ha
      cases ha
      cases n
  · by_cases e : a = P
    · obtain ⟨qs, hq, _⟩ := h.1
      exact ⟨_, e ▸ hq⟩
    · exact ⟨o, (h.2 a e).trans ha⟩
  · by_cases e : a = P
    · exact e ▸ h.1
    · obtain ⟨qs, hq, z⟩ := ha
      exact ⟨qs, (h.2 a e).trans hq, z⟩
section
variable {X : Cx} {C : Cs} {ρ : Rho} {mu : Mu}
/-- next((h for .. in .. if p), None) -/
theorem ee_nxG {α : Type} (L : List α) (gI : α → D) (p : α → Bool) (h : α → D) {c P : Addr} {k nk : Nat} {elt iter : Expr} {x : Str} {px pp gpos pos npos : Pos} {ifs : List Expr} {scope : Scope} {own : List (Str × Nat)} (hm : X.mg "next" = none) (tb : ∀ H, Tb C H → GxR.TabG H P) (hr : Room (k + 1) X.A) (TB : GxR.TabB X.base X.mg c P) (hcode : X.env.code = .ref c)
    (es : ES X C ρ mu iter (L.map gI)) (nd : X.N.Nodup) (ok : BlkOk X.N X.env.scope scope own) (noc : ∀ y ∈ scope.names, y.2 ≠ .cell) (hj : ∀ l j xs, mu = some (l, j, xs) → j ∉ own.map (·.2))
    (body : ∀ a, a ∈ L → ∃ ρ2, GBlk X k scope (fun Y => EG Y C mu (own.map (·.2)) (.Name x px) (gI a) (wr ρ (own.map (·.2))) ρ2) ∧ GBlk X k scope (fun Y => ET Y C ρ2 mu ifs (p a)) ∧ (p a = true → GBlk X k scope (fun Y => EE Y C ρ2 mu elt (h a))))
    (hg : Gl X "next" := by rfl) (co : scope.isCoroutine = false := by rfl) (dot : scope.names.lookup (".0" : Str) = some NameKind.local := by rfl) (calm : X.calm = true := by rfl) (hs : ∀ v, genFold iter X.env v = pure v := by intro _; rfl)
    (he : starEach [.GeneratorExp elt [⟨.Name x px, iter, ifs, 0⟩] scope gpos, .Constant .none nk npos] X.env = (false, eval (.GeneratorExp elt [⟨.Name x px, iter, ifs, 0⟩] scope gpos) X.env) :: starEach [.Constant .none nk npos] X.env := by rfl)
    (hpl : (backTo pos (starEach [.Constant .none nk npos] X.env)).any (·.1) = false := by rfl) :
    EE X C ρ mu (.Call (.Name "next" pp) [.GeneratorExp elt [⟨.Name x px, iter, ifs, 0⟩] scope gpos, .Constant .none nk npos] [] pos) (match L.find? p with | some a => h a | none => .non) := by
  obtain ⟨ti, pi, vi⟩ := es
  have pg0 : GBlk X k scope fun Y => PG Y (.Name x px) (fun v σ H Q => GBlk X k scope fun Y => ∃ g, PG Y (.Name x px) g ∧ g v σ H Q) := fun s0 H0 c0 fp A' r => ⟨fun pins s σ H v u Q I rv q => let ⟨g, p, q⟩ := q s0 H0 c0 fp A' r; p.run pins s σ H v u Q I rv q⟩
  have pt0 : GBlk X k scope fun Y => PTs Y ifs (fun σ H Q => GBlk X k scope fun Y => ∃ t, PTs Y ifs t ∧ t σ H Q) := fun s0 H0 c0 fp A' r => ⟨fun pins s σ H Q I q => let ⟨g, p, q⟩ := q s0 H0 c0 fp A' r; p.run pins s σ H Q I q⟩
  have pe0 : GBlk X k scope fun Y => PE Y elt (fun σ H Q => GBlk X k scope fun Y => ∃ t, PE Y elt t ∧ t σ H Q) := fun s0 H0 c0 fp A' r => ⟨fun pins s σ H Q I q => let ⟨g, p, q⟩ := q s0 H0 c0 fp A' r; p.run pins s σ H Q I q⟩
  refine ⟨_, pe_nxG calm hr hg hm TB hcode ok nd co noc dot pi pg0 pt0 pe0 hs he hpl, fun G σ H okE Q q => vi G σ H okE _ fun S H1 e1 sd => ?_⟩
  have ok1 := okE.mono e1
  have nl : (L.map gI).length = L.length := List.length_map ..
  have tb1 := tb H1 ok1.tb
  refine ⟨S, rfl, Src.ok_ex hole_le sd.ok, tb1, fun H2 tab => ?_⟩
  have x12 := ex_tabbed tb1 tab
  have ok2 := ok1.mono x12
  refine ⟨fun i m H' => i ≤ L.length ∧ m = L.length - i ∧ Ex H2 H' ∧ L.find? p = (L.drop i).find? p, ⟨L.length, Nat.zero_le _, rfl, Ex.refl _, rfl⟩, ?_⟩
  rintro i m H' ⟨hi, rfl, x2, hfind⟩
  have okS : S.ok X.K H' := Src.ok_ex (hole_le.trans (x12.trans x2)) sd.ok
  by_cases hlt : i < L.length
  · have hx : L[i]? = some L[i] := List.getElem?_eq_getElem hlt
    have hdr : L.drop i = L[i] :: L.drop (i + 1) := List.drop_eq_getElem_cons hlt
    generalize L[i] = a at hx hdr
    have hd' : (L.map gI)[i]? = some (gI a) := by rw [List.getElem?_map, hx]; rfl
    obtain ⟨v0, hv0, rep0⟩ := sd.at_ i _ hd'
    obtain ⟨ρ2, tgt, tst, el⟩ := body a (List.mem_of_getElem? hx)
    refine .inr ⟨⟨okS, by rw [sd.len, nl]; exact hlt⟩, fun H3 => Ex H2 H3 ∧ p a = false, fun H3 q => ⟨L.length - (i + 1), by omega, hlt, rfl, q.1, by rw [hfind, hdr, List.find?_cons_of_neg (by rw [q.2]; exact Bool.false_ne_true)]⟩, fun x H3 y => ?_⟩
    obtain ⟨rfl, y⟩ := y
    rw [hv0] at y
    cases y
    have okw : EnvOk X.K C G (L2.wipe σ (own.map (·.2))) H3 (wr ρ (own.map (·.2))) mu := (ok2.mono x2).wipe _ hj
    intro s0 H0 c0 fp A' r
    obtain ⟨gg, pg, vg⟩ := tgt s0 H0 c0 fp A' r
    refine ⟨gg, pg, vg G _ H3 v0 okw (rep0.ex (hole_le.trans (x12.trans x2))) _ fun σ2 okr w2 => ⟨by rw [w2, wipe_wipe], ?_⟩⟩
    intro s0 H0 c0 fp A' r
    obtain ⟨t, pt, vt⟩ := tst s0 H0 c0 fp A' r
    refine ⟨t, pt, vt G σ2 H3 okr _ fun H4 x4 => ?_⟩
    cases hb : p a with
    | false =>
      rw [if_neg Bool.false_ne_true]
      exact ⟨x2.trans x4, rfl⟩
    | true =>
      rw [if_pos rfl]
      intro s0 H0 c0 fp A' r
      obtain ⟨te, pe, ve⟩ := el hb s0 H0 c0 fp A' r
      refine ⟨te, pe, ve G σ2 H4 (okr.mono x4) _ fun v H5 x5 r5 => q v H5 ((e1.trans x12).trans ((x2.trans x4).trans x5)) ?_⟩
      rw [hfind, hdr, List.find?_cons_of_pos hb]
      exact r5
  · have ei : i = L.length := by omega
    subst ei
    refine .inl ⟨⟨okS, by rw [sd.len, nl]⟩, q _ H' ((e1.trans x12).trans x2) ?_⟩
    rw [hfind, List.drop_length]
    exact .non
end
end Dd
set_option maxHeartbeats 2000000
/-! The defs that ask a generator for its first item. Printed by gen/w15.py. -/
namespace Dd
open PySem PySem.Spec PyProof.Rows L2 Evl
section
variable {P : Program} {w : World} {K : PySem.W.Frag} {mg : Str → Option Value} {base : Heap} {C : Cs}

/-- the def stands under its name, its code object at c -/
def DfC (K : PySem.W.Frag) (mg : Str → Option Value) (x : Str) (st : Stmt) (c : Addr) : Prop :=
  ∃ (f : Addr) (dV kV doc pm ct oc : Value) (an od : Option Addr) (osl : Array (Option Value)), FunD K x x (defArgs st) (defBody st) (defScope st) [] [] f (PySem.W.fnOf x x (defArgs st) (defBody st) (defScope st) dV kV doc pm an (.ref c) ct) ∧
    K.lookup f = some ⟨oc, od, .func (PySem.W.fnOf x x (defArgs st) (defBody st) (defScope st) dV kV doc pm an (.ref c) ct), osl⟩ ∧ PySem.W.codeIn K (.ref c) x = true ∧ mg x = some (.ref f)
theorem Fd.mkC {x : Str} {st : Stmt} {N ps : List Str} {lv : Nat} {f : List D → D → Prop} {c : Addr} (D0 : DfC K mg x st c) (S : FnScope N ps (defScope st)) (hb : BindOk x st ps) (hN : ps.length ≤ N.length)
    (len : ∀ ds d, f ds d → ds.length = ps.length)
    (body : ∀ (fa : Addr) (A : Around) (outer : List Env) (s : Shared) (H : Hp) (E : XK) (ds : List D) (d : D), Room lv (cxD P w K mg base N x st fa (.ref c) A outer s H E).A → f ds d →
      SS (cxD P w K mg base N x st fa (.ref c) A outer s H E) C (rho0 N ds) none (defBody st) ⟨fun _ _ => d = .non, fun d' _ => d' = d⟩) : Fd P w K mg base C (lv + 1) x f := by
  obtain ⟨fa, dV, kV, doc, pm, ct, oc, an, od, osl, F, lk, hcd, hm⟩ := D0
  refine ⟨fa, _, ps, hm, F.kp, F.bindsN hb, fn_of lk hcd S (fun vs H Q E ⟨_, ds, d, r, hf, _⟩ => by rw [← r.len]; exact len ds d hf) (fun A outer s H vs Q E hr h => ?_)⟩
  obtain ⟨tb, ds, d, r, hf, q⟩ := h
  obtain ⟨t, pt, vt⟩ := body fa A outer s H E ds d hr hf
  refine ⟨t, PSs.nox pt, vt H (L2.start N vs) H (env0 tb r (by rw [len ds d hf]; exact hN)) _ ⟨fun σ H' ρ mu ok e => ?_, fun σ H' ρ mu v d' ok rv e => ?_⟩⟩
  · subst e
    exact q .non H' ok.ex .non
  · subst e
    exact q v H' ok.ex rv
abbrev N_first_fall : List Str := ["values", "place"]
theorem sc_first_fall : FnScope N_first_fall ["values"] (defScope (top 46)) := ⟨rfl, rfl, rfl, by decide +kernel, rfl, by decide +kernel, by decide +kernel⟩
theorem fd_first_fall (W : Wd mg) (D0 : DfC K mg "first_fall" (top 46) C.c1) (F_does_fall : Fd P w K mg base C 6 "does_fall" f_does_fall) (TB : GxR.TabB base mg C.c1 C.t1) : Fd P w K mg base C 8 "first_fall" f_first_fall := by
  refine Fd.mkC (lv := 7) D0 sc_first_fall (fun _ _ _ _ _ _ us hl => match us, hl with | [_], _ => rfl) (by decide) (fun ds d hf => by obtain ⟨vs, hds, _⟩ := hf; rw [hds]; rfl) fun fa A outer s H E ds d hr hf => ?_
  obtain ⟨vs, rfl, ⟨z0, z1⟩, rfl⟩ := hf
  refine ss_1 (s1_ret (d := oD (ff vs)) (EE.is (ee_nxG (k := 6) (P := C.t1) (c := C.c1) (own := [("place", 1)]) (rgs 0 vs.length) D.int (fun p => df vs p) D.int W.next (fun _ t => t.1) hr TB rfl (es_rng1 (n := vs.length) W.range (ee_lenI W.len (ee_var 0)) (by omega) (by omega) (by omega)) sc_first_fall.nd (blkOk_by (N := N_first_fall) (sc := defScope (top 46)) (by decide +kernel)) (by decide +kernel) (by intro _ _ _ z; cases z)
    (fun a ha => ⟨_, (fun _ _ _ _ _ rm => (eg_name 1 sc_first_fall.nd may0)), (fun _ _ _ _ _ rm => et_one (EB.is (eb_val (ee_call F_does_fall (rm.mono (by decide)) (ea_c (ee_var 0) (ea_c (ee_var 1) ea_no)) ⟨vs, a, rfl, ⟨(rgs_mem ha).1, by have := (rgs_mem ha).2; omega⟩, rfl⟩)) rfl)), fun _ => (fun _ _ _ _ _ rm => (ee_var 1))⟩)) ?_) rfl)
  unfold ff
  cases (rgs 0 vs.length).find? fun p => df vs p <;> rfl
abbrev N_ring_letter : List Str := ["ring", "place", "size", "step", "order", "first", "index"]
theorem sc_ring_letter : FnScope N_ring_letter ["ring", "place"] (defScope (top 111)) := ⟨rfl, rfl, rfl, by decide +kernel, rfl, by decide +kernel, by decide +kernel⟩
theorem fd_ring_letter (W : Wd mg) (D0 : DfC K mg "ring_letter" (top 111) C.c2) (F_order_in : Fd P w K mg base C 3 "order_in" f_order_in) (TB : GxR.TabB base mg C.c2 C.t2) : Fd P w K mg base C 6 "ring_letter" f_ring_letter := by
  refine Fd.mkC (lv := 5) D0 sc_ring_letter (fun _ _ _ _ _ _ us hl => match us, hl with | [_, _], _ => rfl) (by decide) (fun ds d hf => by obtain ⟨r, x, hds, _⟩ := hf; rw [hds]; rfl) fun fa A outer s H E ds d hr hf => ?_
  obtain ⟨r, x, rfl, ⟨h0, h1, h2⟩, rfl⟩ := hf
  obtain ⟨⟨a0, a1⟩, b0, b1⟩ := id h0
  have hpos : 0 < r.1 := by omega
  have lo0 : 0 ≤ rlo r := Int.ediv_nonneg (by omega) (by omega)
  have lo1 : rlo r ≤ 60 := Int.le_trans (Int.ediv_le_self _ (by omega)) a1
  refine ss_c (s1_unp (vs := [2, 3]) (ee_var 0) (eg_tup (egs_c (eg_name 2 sc_ring_letter.nd may0) (egs_c (eg_name 3 sc_ring_letter.nd may0) egs_no))) ?_)
  refine ss_c (s1_set 4 (d := .int (rlo r)) (ee_call F_order_in (hr.mono (by decide)) (ea_c (ee_var 0) ea_no) ⟨r, rfl, h0, rfl⟩) may0 ?_ sc_ring_letter.nd)
  refine ss_c (s1_set 5 (d := oD (rl1 r x)) (EE.is (ee_nxG (k := 0) (P := C.t2) (c := C.c2) (own := [("index", 6)]) (rgs 0 (rlo r).toNat) D.int (fun i => decide ((i * r.2 + x) % r.1 = 0)) D.int W.next (fun _ t => t.2) (hr.mono (by decide)) TB rfl (es_rng1 (n := (rlo r).toNat) W.range (ee_var 4) rfl (by omega) (by omega)) sc_ring_letter.nd (blkOk_by (N := N_ring_letter) (sc := defScope (top 111)) (by decide +kernel)) (by decide +kernel) (by intro _ _ _ z; cases z)
    (fun a ha => ⟨_, (fun _ _ _ _ _ rm => (eg_name 6 sc_ring_letter.nd may0)), (fun _ _ _ _ _ rm => et_one (eb_eqI (ee_mod (ee_add (ee_mul (ee_var 6) (ee_var 3) (cmul_small (by have := (rgs_mem ha).1; omega) (by have := (rgs_mem ha).2; omega) (by omega) (by omega))) (ee_var 1)) (ee_var 2) (by omega)) ee_int)), fun _ => (fun _ _ _ _ _ rm => (ee_var 6))⟩)) ?_) may0 ?_ sc_ring_letter.nd)
  · unfold rl1
    cases (rgs 0 (rlo r).toNat).find? fun i => decide ((i * r.2 + x) % r.1 = 0) <;> rfl
  unfold rl
  cases rl1 r x with
  | none => exact ss_1 (s1_ret (ee_if (p := true) (EB.is (eb_isN (ee_var 5)) rfl) (fun _ => ee_non) (by intro h; cases h)) rfl)
  | some i => exact ss_1 (s1_ret (ee_if (p := false) (EB.is (eb_isN (ee_var 5)) rfl) (by intro h; cases h) (fun _ => EE.is (ee_tup (ea_c (ee_var 4) (ea_c (ee_var 5) ea_no)) (by first | assumption | omega | decide | (simp only [nts, List.length_map, List.length_set] <;> omega) | (have hh_ := of_decide_eq_false h_; omega) | (have hh_ := of_decide_eq_true h_; omega) | (simp; done) | (simp <;> omega))) rfl)) rfl)
end
end Dd
set_option maxHeartbeats 2000000
/-! Expressions that change the one list that may change: it is handed on to defs that write it. -/
namespace Dd
open PySem PySem.Spec PyProof.Rows L2 Evl
/-- behind e the list at l (slot j) holds ds' -/
def EM (X : Cx) (C : Cs) (ρ : Rho) (l : Addr) (j : Nat) (ds : List D) (e : Expr) (d : D) (ds' : List D) : Prop :=
  ∃ te, PE X e te ∧ ∀ G σ H, EnvOk X.K C G σ H ρ (some (l, j, ds)) → ∀ Q : VK, (∀ v H2, EnvOk X.K C (hole H (some (l, j, ds))) σ H2 ρ (some (l, j, ds')) → Rep X.K C (some l) H2 d v → Q v H2) → te σ H Q
theorem hole_same {H : Hp} {l : Addr} {j j' : Nat} {ds ds' : List D} : hole H (some (l, j, ds)) = hole H (some (l, j', ds')) := rfl
theorem hole_hole {K : PySem.W.Frag} {C : Cs} {H H2 : Hp} {σ : L2.St} {ρ : Rho} {l : Addr} {j : Nat} {ds ds' : List D} (e : EnvOk K C (hole H (some (l, j, ds))) σ H2 ρ (some (l, j, ds'))) : Ex (hole H (some (l, j, ds))) (hole H2 (some (l, j, ds'))) := hole_ex e
section
variable {X : Cx} {C : Cs} {ρ : Rho} {l : Addr} {j : Nat} {ds ds' ds2 : List D} {a b e e1 e2 : Expr} {es : List Expr} {d : D} {i k : Int} {pos p : Pos}
theorem EM.is {d' : D} (h : EM X C ρ l j ds e d ds') (z : d = d') : EM X C ρ l j ds e d' ds' := z ▸ h
theorem em_ee (h : EE X C ρ (some (l, j, ds)) e d) (im : Im d) : EM X C ρ l j ds e d ds := by
  obtain ⟨te, pe, ve⟩ := h
  exact ⟨te, pe, fun G σ H ok Q q => ve G σ H ok Q fun v H2 x r => q v H2 (ok.holed.mono x) (r.im im _)⟩
/-- pure op changing -/
theorem em_op0 {op : Operator} {g : Int → Int → Int} (ho : OpR X (binaryOp op) (rI0 fun i j => .int (g i j))) (ha : EE X C ρ (some (l, j, ds)) a (.int i)) (hb : EM X C ρ l j ds b (.int k) ds') : EM X C ρ l j ds (.BinOp a op b pos) (.int (g i k)) ds' := by
  obtain ⟨ta, pa, va⟩ := ha
  obtain ⟨tb, pb, vb⟩ := hb
  refine ⟨_, pe_op ho pa pb, fun G σ H ok Q q => va G σ H ok _ fun v1 H1 x1 r1 => vb _ σ H1 (ok.holed.mono x1) _ fun v2 H2 ok2 r2 => ?_⟩
  cases r1
  cases r2
  refine ⟨i, k, rfl, rfl, q _ H2 (ok2.base ?_) .int⟩
  exact hole_ex (ok.holed.mono x1)
/-- changing op pure -/
theorem em_op0L {op : Operator} {g : Int → Int → Int} (ho : OpR X (binaryOp op) (rI0 fun i j => .int (g i j))) (ha : EM X C ρ l j ds a (.int i) ds') (hb : EE X C ρ (some (l, j, ds')) b (.int k)) : EM X C ρ l j ds (.BinOp a op b pos) (.int (g i k)) ds' := by
  obtain ⟨ta, pa, va⟩ := ha
  obtain ⟨tb, pb, vb⟩ := hb
  refine ⟨_, pe_op ho pa pb, fun G σ H ok Q q => va G σ H ok _ fun v1 H1 ok1 r1 => vb _ σ H1 ok1 _ fun v2 H2 x2 r2 => ?_⟩
  cases r1
  cases r2
  exact ⟨i, k, rfl, rfl, q _ H2 (ok1.mono x2) .int⟩
theorem em_op2 {op : Operator} {Cn : Int → Int → Prop} {g : Int → Int → Int} (ho : OpR X (binaryOp op) (rI Cn fun i j => .int (g i j))) (ha : EE X C ρ (some (l, j, ds)) a (.int i)) (hb : EM X C ρ l j ds b (.int k) ds') (hc : Cn i k) : EM X C ρ l j ds (.BinOp a op b pos) (.int (g i k)) ds' := by
  obtain ⟨ta, pa, va⟩ := ha
  obtain ⟨tb, pb, vb⟩ := hb
  refine ⟨_, pe_op ho pa pb, fun G σ H ok Q q => va G σ H ok _ fun v1 H1 x1 r1 => vb _ σ H1 (ok.holed.mono x1) _ fun v2 H2 ok2 r2 => ?_⟩
  cases r1
  cases r2
  exact ⟨i, k, rfl, rfl, hc, q _ H2 (ok2.base (hole_ex (ok.holed.mono x1))) .int⟩
theorem em_add (ha : EE X C ρ (some (l, j, ds)) a (.int i)) (hb : EM X C ρ l j ds b (.int k) ds') : EM X C ρ l j ds (.BinOp a .Add b pos) (.int (i + k)) ds' := em_op0 op_add ha hb
theorem em_sub (ha : EM X C ρ l j ds a (.int i) ds') (hb : EE X C ρ (some (l, j, ds')) b (.int k)) : EM X C ρ l j ds (.BinOp a .Sub b pos) (.int (i - k)) ds' := em_op0L op_sub ha hb
theorem em_mul (ha : EE X C ρ (some (l, j, ds)) a (.int i)) (hb : EM X C ρ l j ds b (.int k) ds') (h : CMul i k) : EM X C ρ l j ds (.BinOp a .Mult b pos) (.int (i * k)) ds' := em_op2 op_mul ha hb h
/-- (pure, changing), whole numbers -/
theorem em_pair {x1} (ha : EE X C ρ (some (l, j, ds)) a (.int i)) (hb : EM X C ρ l j ds b (.int k) ds') (hs : starEach [a, b] X.env = (false, eval a X.env) :: starEach [b] X.env := by rfl) (hs2 : starEach [b] X.env = (false, eval b X.env) :: starEach [] X.env := by rfl) :
    EM X C ρ l j ds (.Tuple [a, b] x1 pos) (.tup [.int i, .int k]) ds' := by
  obtain ⟨ta, pa, va⟩ := ha
  obtain ⟨tb, pb, vb⟩ := hb
  refine ⟨_, pe_tup (pa_cons pa (pa_cons pb pa_nil hs2) hs), fun G σ H ok Q q => va G σ H ok _ fun v1 H1 x1 r1 => vb _ σ H1 (ok.holed.mono x1) _ fun v2 H2 ok2 r2 => ?_⟩
  cases r1
  cases r2
  refine ⟨by show 2 ≤ sizeLine; decide, fun p hp => q _ _ ((ok2.base (hole_ex (ok.holed.mono x1))).mono (Ex.new hp)) ?_⟩
  exact (rep_two upd_same .int .int).im (im_it [i, k]) _
/-- statements -/
theorem s1_setM (n : Nat) {x : Str} {p' : Pos} {E : DE} (he : EM X C ρ l j ds e d ds') (hj : j ≠ n) (h : E.nx (ρ.set n (some d)) (some (l, j, ds'))) (hN : X.N.Nodup) (hi : X.N[n]? = some x := by rfl) (hx : Loc X.env.scope x := by first | exact Or.inl rfl | exact Or.inr rfl)
    (hs : swapsWith e (some (.Name x p')) pos.line X.env = pure false := by rfl) (hf : X.fn x = true ∨ X.env.scope.names.lookup x = some .local := by first | exact .inl rfl | exact .inr rfl) : S1 X C ρ (some (l, j, ds)) (.Assign [.Name x p'] e pos) E := by
  obtain ⟨te, pe, ve⟩ := he
  exact ⟨_, ps_set hN hi hx pe hs hf, fun G σ H ok Dn sat => ve G σ H ok _ fun v H2 ok2 r => sat.nx _ H2 _ _ ((ok2.base (hole_ex ok)).set n r (fun _ _ _ z => by cases z; exact hj)) h⟩
theorem s1_retM {E : DE} (he : EM X C ρ l j ds e d ds') (h : E.rt d (some (l, j, ds'))) : S1 X C ρ (some (l, j, ds)) (.Return (some e) pos) E := by
  obtain ⟨te, pe, ve⟩ := he
  exact ⟨_, ps_ret pe, fun G σ H ok Dn sat => ve G σ H ok _ fun v H2 ok2 r => sat.rt σ H2 ρ _ v d (ok2.base (hole_ex ok)) r.any h⟩
end
/-! ### defs that write the list they are given first -/
theorem hole_l {H : Hp} {l : Addr} {j : Nat} {ds : List D} : hole H (some (l, j, ds)) l = none := if_pos rfl
theorem rep_over {K : PySem.W.Frag} {C : Cs} {H H' : Hp} {l : Addr} {j : Nat} {ds : List D} {xs : List V} {d : D} {v : V} (hl : H l = some (.lst xs)) (r : Rep K C (some l) H d v) (x : Ex (hole H (some (l, j, ds))) H') : Rep K C (some l) H' d v :=
  have r0 : Rep K C none (hole H (some (l, j, ds))) d v := Rep.rid hl (fun a o h n => (hole_at (mu := some (l, j, ds)) fun z => n (Option.some.inj z).symm).trans h) r
  (Rep.fresh hole_l r0).ex x
theorem tb_hole {C : Cs} {H : Hp} {l : Addr} {j : Nat} {ds : List D} {xs : List V} (hl : H l = some (.lst xs)) (t : Tb C H) : Tb C (hole H (some (l, j, ds))) := by
  have key : ∀ a, GxR.TabG H a → GxR.TabG (hole H (some (l, j, ds))) a := fun a ⟨ps, h, z⟩ => ⟨ps, (hole_at fun e => by
    rw [← Option.some.inj (show some l = some a from e), hl] at h
    cases h).trans h, z⟩
  exact ⟨key _ t.1, key _ t.2⟩
/-- the promise of such a def -/
def spM (K : PySem.W.Frag) (C : Cs) (f : List Int → List D → D → List Int → Prop) : Sp := fun vs H Q _ => Tb C H ∧ ∃ l xs ws ds d ys, vs = .ref l :: ws ∧ H l = some (.lst (xs.map V.int)) ∧ Reps K C (some l) H ds ws ∧ f xs ds d ys ∧
  ∀ v H', Ex (hole H (some (l, 0, []))) H' → H' l = some (.lst (ys.map V.int)) → Rep K C (some l) H' d v → Q v H'
def FdM (P : Program) (w : World) (K : PySem.W.Frag) (mg : Str → Option Value) (base : Heap) (C : Cs) (lv : Nat) (x : Str) (f : List Int → List D → D → List Int → Prop) : Prop :=
  ∃ fa fd ps, mg x = some (.ref fa) ∧ PySem.W.keepIn K (.ref fa) = true ∧ Binds K fd ps [] ∧ FnOk P w K mg base CX0 lv fa fd ps (spM K C f)
/-- arguments that the list is not among -/
def EAM (X : Cx) (C : Cs) (ρ : Rho) (l : Addr) (j : Nat) (cs : List D) (es : List Expr) (ds : List D) : Prop :=
  ∃ ta, PA X es ta ∧ ∀ G σ H, EnvOk X.K C G σ H ρ (some (l, j, cs)) → ∀ Q : List V → Hp → Prop, (∀ vs H2, Ex H H2 → Reps X.K C (some l) H2 ds vs → Q vs H2) → ta σ H Q
section
variable {X : Cx} {C : Cs} {ρ : Rho} {l : Addr} {j : Nat} {cs ds ds' ds2 : List D} {a b e e1 e2 : Expr} {es : List Expr} {d : D} {i k : Int} {pos p : Pos} {xs ys : List Int}
theorem eam_no : EAM X C ρ l j cs [] [] := ⟨_, pa_nil, fun G σ H ok Q q => q [] H (Ex.refl H) Reps.nil⟩
theorem eam_c (he : EE X C ρ (some (l, j, cs)) e d) (im : Im d) (hr : EAM X C ρ l j cs es ds) (hs : starEach (e :: es) X.env = (false, eval e X.env) :: starEach es X.env := by rfl) : EAM X C ρ l j cs (e :: es) (d :: ds) := by
  obtain ⟨te, pe, ve⟩ := he
  obtain ⟨tr, pr, vr⟩ := hr
  refine ⟨_, pa_cons pe pr hs, fun G σ H ok Q q => ve G σ H ok _ fun v H1 e1 r1 => vr G σ H1 (ok.mono e1) _ fun vs H2 e2 r2 => ?_⟩
  exact q (v :: vs) H2 (e1.trans e2) (Reps.cons ((r1.im im _).ex e2) r2)
theorem eam_var (n : Nat) {x : Str} (hr : EAM X C ρ l j cs es ds) (h : ρ[n]? = some (some d) := by rfl) (hN : X.N[n]? = some x := by rfl) (hv : Vis X.env.scope x := by first | exact Or.inl rfl | exact Or.inr (Or.inl rfl) | exact Or.inr (Or.inr rfl)) (hd : (x == ("__debug__" : Str)) = false := by decide)
    (hcd : (x == ("__classdict__" : Str)) = false := by decide) (hs : starEach (.Name x pos :: es) X.env = (false, eval (.Name x pos) X.env) :: starEach es X.env := by rfl) : EAM X C ρ l j cs (.Name x pos :: es) (d :: ds) := by
  obtain ⟨tr, pr, vr⟩ := hr
  refine ⟨_, pa_cons (pe_var hN hv hd hcd) pr hs, fun G σ H ok Q q => ?_⟩
  obtain ⟨v, h1, h2⟩ := ok.at_ n _ h
  refine ⟨v, h1, vr G σ H ok _ fun vs H2 e2 r2 => q (v :: vs) H2 e2 (Reps.cons (h2.ex e2) r2)⟩
/-- behind a call that changed it -/
theorem EnvOk.over {K : PySem.W.Frag} {C : Cs} {G H H1 H' : Hp} {σ : L2.St} {ρ : Rho} (ok : EnvOk K C G σ H ρ (some (l, j, nts xs))) (x : Ex H H1) (y : Ex (hole H1 (some (l, 0, []))) H') (h : H' l = some (.lst (ys.map V.int))) : EnvOk K C (hole H (some (l, j, nts xs))) σ H' ρ (some (l, j, nts ys)) := by
  obtain ⟨h0, h1, h2, vs, h4, h5⟩ := ok.mu l j _ rfl
  have l1 : H1 l = some (.lst vs) := x.at h4
  refine ⟨(hole_mono (mu := some (l, j, nts xs)) x).trans y, (tb_hole l1 (ok.tb.ex x)).ex y, fun i d hd => ?_, fun l' j' ds' hm => ?_, ok.len⟩
  · obtain ⟨v, e, r⟩ := ok.at_ i d hd
    exact ⟨v, e, rep_over l1 (Rep.ex x r) y⟩
  · cases hm
    exact ⟨h0, h1, hole_l, _, h, nts_reps _⟩
theorem em_call {lv : Nat} {x y : Str} {q1 : Pos} {f : List Int → List D → D → List Int → Prop} (F : FdM X.prog X.w X.K X.mg X.base C lv x f) (hr : Room lv X.A) (ha : EAM X C ρ l j (nts xs) es ds) (hf : f xs ds d ys) (hg : Gl X x := by rfl) (hdb : (x == ("__debug__" : Str)) = false := by decide)
    (he : starEach (.Name y q1 :: es) X.env = (false, eval (.Name y q1) X.env) :: starEach es X.env := by rfl) (hpl : (backTo pos (starEach es X.env)).any (·.1) = false := by rfl) (hN : X.N[j]? = some y := by rfl) (hv : Vis X.env.scope y := by first | exact Or.inl rfl | exact Or.inr (Or.inl rfl) | exact Or.inr (Or.inr rfl)) (hd : (y == ("__debug__" : Str)) = false := by decide)
    (hcd : (y == ("__classdict__" : Str)) = false := by decide) : EM X C ρ l j (nts xs) (.Call (.Name x p) (.Name y q1 :: es) [] pos) d (nts ys) := by
  obtain ⟨fa, fd, ps, hm, hk, hb, F⟩ := F
  obtain ⟨ta, pa, va⟩ := ha
  refine ⟨_, pe_call F hr hg hm hk hb .nil pass0 (pa_cons (pe_var hN hv hd hcd) pa he) hdb he hpl, fun G σ H ok Q q => ?_⟩
  obtain ⟨h0, h1, h2, vs, h4, h5⟩ := ok.mu l j _ rfl
  refine ⟨.ref l, h1, va G σ H ok _ fun ws H1 e1 r1 => ?_⟩
  show spM X.K C f ((.ref l :: ws) ++ []) H1 Q E0
  rw [List.append_nil]
  have ev := reps_nts h5
  subst ev
  exact ⟨ok.tb.ex e1, l, xs, ws, ds, d, ys, rfl, e1.at h4, r1, hf, fun v H' x hl r => q v H' (ok.over e1 x hl) r⟩
end
end Dd
set_option maxHeartbeats 2000000
/-! Comprehensions whose items change the list that may change. -/
namespace Dd
open PySem PySem.Spec PyProof.Rows L2 Evl
/-- what a loop walks, told behind a change -/
def EIM (X : Cx) (C : Cs) (ρ : Rho) (l : Addr) (j : Nat) (cs : List D) (tg iter : Expr) (ds cs' : List D) : Prop :=
  ∃ wi, PI X tg iter wi ∧ ∀ G σ H, EnvOk X.K C G σ H ρ (some (l, j, cs)) → ∀ R : It → Hp → Prop, (∀ J H1, EnvOk X.K C (hole H (some (l, j, cs))) σ H1 ρ (some (l, j, cs')) → Yl X.K C J (hole H1 (some (l, j, cs'))) ds → R J H1) → wi σ H R
/-- a new list -/
def EMN (X : Cx) (C : Cs) (ρ : Rho) (l : Addr) (j : Nat) (cs : List D) (e : Expr) (ds cs' : List D) : Prop :=
  ∃ te, PE X e te ∧ ∀ G σ H, EnvOk X.K C G σ H ρ (some (l, j, cs)) → ∀ Q : VK, (∀ p vs H2, EnvOk X.K C (hole H (some (l, j, cs))) σ H2 ρ (some (l, j, cs')) → H2 p = some (.lst vs) → Reps X.K C (some l) H2 ds vs → Q (.ref p) H2) → te σ H Q
section
variable {X : Cx} {C : Cs} {ρ : Rho} {l : Addr} {j : Nat} {cs cs' ds : List D} {a b e : Expr} {pos p : Pos} {xs ys : List Int} {tg iter elt : Expr} {scope : Scope} {own : List (Str × Nat)}
theorem eim_ei (h : EI X C ρ (some (l, j, cs)) tg iter ds) : EIM X C ρ l j cs tg iter ds cs := by
  obtain ⟨wi, pi, vi⟩ := h
  exact ⟨wi, pi, fun G σ H ok R q => vi G σ H ok R fun J H1 x y => q J H1 (ok.holed.mono x) y⟩
/-- [elt for tg in iter], each item changing -/
theorem em_lc (n : Nat) (g h : Nat → D) (st : Nat → List Int) (ei : EIM X C ρ l j (nts xs) tg iter ((List.range n).map g) (nts (st 0))) (hN : X.N.Nodup) (ok : BlkOk X.N X.env.scope scope own) (hj : j ∉ own.map (·.2)) (hz : n ≤ 10000)
    (body : ∀ i, i < n → ∃ ρ2, Blk X scope (fun Y => EG Y C (some (l, j, nts (st i))) (own.map (·.2)) tg (g i) (wr ρ (own.map (·.2))) ρ2) ∧ Im (h i) ∧ Blk X scope (fun Y => EM Y C ρ2 l j (nts (st i)) elt (h i) (nts (st (i + 1)))))
    (hc : X.calm = true := by rfl) (hs : ∀ x, foldedSetIterable iter X.env x = pure x := by intro _; rfl) : EMN X C ρ l j (nts xs) (.ListComp elt [⟨tg, iter, [], 0⟩] scope pos) ((List.range n).map h) (nts (st n)) := by
  obtain ⟨wi, pi, vi⟩ := ei
  have pg0 : ∀ (s : Shared) (H : Hp) (c : Addr) (cl : List (Str × Addr)) (fp : List Addr), PG (X.blk s H scope (compEnvC scope cl c X.env) fp) tg (fun v σ H Q => Blk X scope fun Y => ∃ g, PG Y tg g ∧ g v σ H Q) := fun s0 H0 c0 cl fp => ⟨fun pins s σ H v u Q I r q => let ⟨g, p, q⟩ := q s0 H0 c0 cl fp; p.run pins s σ H v u Q I r q⟩
  have pe0 : ∀ (s : Shared) (H : Hp) (c : Addr) (cl : List (Str × Addr)) (fp : List Addr), PE (X.blk s H scope (compEnvC scope cl c X.env) fp) elt (fun σ H Q => Blk X scope fun Y => ∃ t, PE Y elt t ∧ t σ H Q) := fun s0 H0 c0 cl fp => ⟨fun pins s σ H Q I q => let ⟨g, p, q⟩ := q s0 H0 c0 cl fp; p.run pins s σ H Q I q⟩
  refine ⟨_, pe_lc hc hN pi ok pg0 (fun _ _ _ _ _ => pts_nil) pe0 hs, fun G σ H okE Q q => vi G σ H okE _ fun J H1 ok1 yl Dn hD => ?_⟩
  have nl : ((List.range n).map g).length = n := by rw [List.length_map, List.length_range]
  obtain ⟨_, _, _, vs0, l0, r0⟩ := ok1.mu l j _ rfl
  have ev := reps_nts r0
  subst ev
  have nDl : l ≠ Dn := ne_of_none l0 hD
  refine ⟨fun i m H' => i ≤ n ∧ m = n - i ∧ Ex (hole H1 (some (l, 0, []))) H' ∧ H' l = some (.lst ((st i).map V.int)) ∧ ∃ acc, H' Dn = some (.lst acc) ∧ Reps X.K C (some Dn) H' ((List.range i).map h) acc,
    ⟨n, Nat.zero_le _, rfl, hole_le.trans (Ex.new hD), by rw [upd_ne nDl]; exact l0, [], upd_same, Reps.nil⟩, ?_⟩
  rintro i m H' ⟨hi, rfl, x1, hl, acc, hacc, racc⟩
  by_cases hlt : i < n
  · have hd' : ((List.range n).map g)[i]? = some (g i) := by simp [hlt]
    obtain ⟨ρ2, tgt, im, el⟩ := body i hlt
    refine .inr ⟨yl.go i H' _ x1 hd', fun H3 => Ex (hole H1 (some (l, 0, []))) H3 ∧ H3 l = some (.lst ((st (i + 1)).map V.int)) ∧ ∃ acc, H3 Dn = some (.lst acc) ∧ Reps X.K C (some Dn) H3 ((List.range (i + 1)).map h) acc, fun H3 q => ⟨n - (i + 1), by omega, hlt, rfl, q⟩, fun x H2 y => ?_⟩
    obtain ⟨x2, r2⟩ := yl.yl i H' _ x H2 x1 hd' y
    have okw : EnvOk X.K C (hole H1 (some (l, j, nts (st 0)))) (wipe σ (own.map (·.2))) H2 (wr ρ (own.map (·.2))) (some (l, j, nts (st i))) := (ok1.over (Ex.refl H1) (x1.trans x2) (x2.at hl)).wipe _ fun _ _ _ z => by cases z; exact hj
    intro s0 H0 c0 cl fp
    obtain ⟨gg, pg, vg⟩ := tgt s0 H0 c0 cl fp
    refine ⟨gg, pg, vg _ _ H2 x okw r2 _ fun σ2 ok2 w2 => ⟨by rw [w2, wipe_wipe], ?_⟩⟩
    simp only [tYes, if_true]
    intro s0 H0 c0 cl fp
    obtain ⟨te, pe, ve⟩ := el s0 H0 c0 cl fp
    refine ⟨te, pe, ve _ σ2 H2 ok2 _ fun v H4 ok4 r4 => ?_⟩
    have l2 : H2 l = some (.lst ((st i).map V.int)) := x2.at hl
    have hx : Ex (hole H2 (some (l, j, nts (st i)))) H4 := ok4.ex
    have n2 : Mu.av (some (l, j, nts (st i))) ≠ some Dn := fun z => nDl (Option.some.inj z)
    have acc4 : H4 Dn = some (.lst acc) := hx.at ((hole_at n2).trans (x2.at hacc))
    obtain ⟨_, _, _, vs4, l4, r4'⟩ := ok4.mu l j _ rfl
    have ev := reps_nts r4'
    subst ev
    refine ⟨acc, acc4, ?_, ?_, ?_, acc ++ [v], upd_same, ?_⟩
    · rw [← racc.len, List.length_map, List.length_range]
      exact Nat.lt_of_le_of_lt (Nat.le_trans hi hz) (by decide)
    · have big : Ex (hole H1 (some (l, 0, []))) H4 := by
        have k1 : Ex (hole H1 (some (l, 0, []))) (hole H2 (some (l, j, nts (st i)))) := by
          have z := x1.trans x2
          refine ⟨fun a o h n => (hole_at (hole_in h).1).trans (z.get a o h n), fun a o h => let ⟨o', h'⟩ := z.dom a o h; ⟨o', (hole_at (hole_in h).1).trans h'⟩, fun a ⟨ps, h, t⟩ => let ⟨qs, h', t'⟩ := z.tab a ⟨ps, h, t⟩; ⟨qs, (hole_at (hole_in h).1).trans h', t'⟩⟩
        exact k1.trans hx
      exact big.mut ((hole_at (mu := some (l, 0, [])) fun z => nDl (Option.some.inj z)).trans hD)
    · rw [upd_ne nDl]
      exact l4
    · have keep : Reps X.K C (some Dn) H4 ((List.range i).map h) acc := by
        have ra := racc.ex x2
        refine ⟨ra.len, fun k d v h1 h2 => ?_⟩
        have hm : d ∈ (List.range i).map h := List.mem_of_getElem? h1
        obtain ⟨k', hk', rfl⟩ := List.mem_map.mp hm
        obtain ⟨_, _, im', _⟩ := body k' (by have := List.mem_range.mp hk'; omega)
        exact (rep_over (j := j) (ds := nts (st i)) l2 ((ra.at_ k _ v h1 h2).any.im im' (some l)) hx).any.im im' _
      have rr := Reps.app keep (Reps.cons (r4.any.im im (some Dn)) Reps.nil)
      rw [List.range_succ, List.map_append]
      exact ⟨rr.len, fun k d v h1 h2 => Rep.mut acc4 (rr.at_ k d v h1 h2)⟩
  · have ei : i = n := by omega
    subst ei
    refine .inl ⟨by have := yl.stop H' x1; rwa [nl] at this, q Dn acc H' ((ok1.over (Ex.refl H1) x1 hl).base (hole_ex ok1)) hacc ?_⟩
    refine ⟨racc.len, fun k d v h1 h2 => ?_⟩
    obtain ⟨k', hk', rfl⟩ := List.mem_map.mp (List.mem_of_getElem? h1)
    obtain ⟨_, _, im', _⟩ := body k' (List.mem_range.mp hk')
    exact (racc.at_ k _ v h1 h2).any.im im' _
/-- tuple([..]) -/
theorem em_tuple (hm : X.mg "tuple" = none) (ha : EMN X C ρ l j cs e ds cs') (hg : Gl X "tuple" := by rfl) (he : starEach [e] X.env = (false, eval e X.env) :: starEach [] X.env := by rfl) (hpl : (backTo pos (starEach [] X.env)).any (·.1) = false := by rfl) :
    EM X C ρ l j cs (.Call (.Name "tuple" p) [e] [] pos) (.tup ds) cs' := by
  obtain ⟨te, pe, ve⟩ := ha
  refine ⟨_, pe_callTy call_tuple_of hg hm (by decide +kernel) (pa_cons pe pa_nil he) (by decide) (by decide) he hpl, fun G σ H ok Q q => ve G σ H ok _ fun a vs H1 ok1 h r => ?_⟩
  refine ⟨a, vs, rfl, .inl ⟨.inl (.inl h), fun p hp => q _ _ (ok1.mono (Ex.new hp)) ?_⟩⟩
  exact .tup (SqT.of upd_same) r.len (Reps.ex (Ex.new hp) r).at_
/-- range(1 + a changing number) and the like: a source told behind a change -/
theorem eim_rng1 {n : Nat} {m : Int} (hm : X.mg "range" = none) (ha : EM X C ρ l j cs a (.int m) cs') (hn : n = m.toNat) (h0 : 0 ≤ m) (h1 : m ≤ 1000000) (hg : Gl X "range" := by rfl) (he : starEach [a] X.env = (false, eval a X.env) :: starEach [] X.env := by rfl) (hpl : (backTo pos (starEach [] X.env)).any (·.1) = false := by rfl) :
    EIM X C ρ l j cs tg (.Call (.Name "range" p) [a] [] pos) (nts (rgs 0 n)) cs' := by
  obtain ⟨te, pe, ve⟩ := ha
  have z : m = 0 + (n : Int) := by omega
  refine ⟨_, pi_src (pe_callTy cr_rng1 hg hm boot_range (pa_cons pe pa_nil he) (by decide) (by decide) he hpl), fun G σ H ok R q => ve G σ H ok _ fun v H1 ok1 r => ?_⟩
  cases r
  refine ⟨m, rfl, fun p hp => ?_⟩
  have x1 : Ex H1 (upd H1 p (.rng 0 m)) := Ex.new hp
  have okr : (Src.rng p 0 n).ok X.K (hole (upd H1 p (.rng 0 m)) (some (l, j, cs'))) := by
    obtain ⟨_, _, _, vs, h4, _⟩ := ok1.mu l j _ rfl
    refine ⟨(hole_at (mu := some (l, j, cs')) fun e => ne_of_none h4 hp (Option.some.inj e)).trans ?_, by decide, by omega⟩
    rw [upd_same, z]
  refine ⟨.rng p 0 n, rfl, Src.ok_ex hole_le okr, q _ _ (ok1.mono x1) ⟨fun i H d x hd => ⟨Src.ok_ex x okr, ?_⟩, fun i H d v H' x hd y => ?_, fun H x => ⟨Src.ok_ex x okr, ?_⟩⟩⟩
  · exact (rgs_get hd).1
  · obtain ⟨rfl, y⟩ := y
    obtain ⟨h3, rfl⟩ := rgs_get hd
    have y' : (if i < n then some (V.int (0 + i)) else none) = some v := y
    rw [if_pos h3] at y'
    cases y'
    exact ⟨Ex.refl _, .int⟩
  · show (nts (rgs 0 n)).length = n
    simp [rgs]
end
end Dd
set_option maxHeartbeats 2000000
/-! Defs that write the list they are given first; items told by a changing index. -/
namespace Dd
open PySem PySem.Spec PyProof.Rows L2 Evl
def rhoM (N : List Str) (ds : List D) : Rho := none :: (ds.map some ++ List.replicate (N.length - (ds.length + 1)) none)
theorem env0M {K : PySem.W.Frag} {C : Cs} {H : Hp} {N : List Str} {ds : List D} {ws : List V} {l : Addr} {xs : List Int} (tb : Tb C H) (hl : H l = some (.lst (xs.map V.int))) (r : Reps K C (some l) H ds ws) (hz : ds.length + 1 ≤ N.length) :
    EnvOk K C (hole H (some (l, 0, []))) (L2.start N (.ref l :: ws)) H (rhoM N ds) (some (l, 0, nts xs)) where
  ex := hole_le
  tb := tb
  at_ := fun i d h => by
    unfold rhoM at h
    unfold L2.start
    cases i with
    | zero => cases h
    | succ i =>
      rw [List.getElem?_cons_succ] at h
      rw [List.map_cons, List.cons_append, List.getElem?_cons_succ]
      by_cases hi : i < ds.length
      · rw [List.getElem?_append_left (by simpa using hi), List.getElem?_map] at h
        rw [List.getElem?_append_left (by rw [List.length_map, ← r.len]; exact hi), List.getElem?_map]
        cases z : ds[i]? with
        | none => rw [z] at h; cases h
        | some d' =>
          rw [z] at h
          have e := Option.some.inj (Option.some.inj h)
          obtain ⟨v, h1, h2⟩ := r.get z
          exact ⟨v, by rw [h1]; rfl, e ▸ h2⟩
      · rw [List.getElem?_append_right (by simpa using Nat.le_of_not_lt hi)] at h
        have := (List.mem_replicate.mp (List.mem_of_getElem? h)).2
        cases this
  mu := fun l' j' ds' z => by
    cases z
    exact ⟨rfl, rfl, hole_l, _, hl, nts_reps _⟩
  len := by simp [rhoM, L2.start, r.len]
section
variable {P : Program} {w : World} {K : PySem.W.Frag} {mg : Str → Option Value} {base : Heap} {C : Cs}
theorem FdM.mk {x : Str} {st : Stmt} {N ps : List Str} {lv : Nat} {f : List Int → List D → D → List Int → Prop} (D0 : Df K mg x st) (S : FnScope N ps (defScope st)) (hb : BindOk x st ps) (hN : ps.length ≤ N.length)
    (len : ∀ xs ds d ys, f xs ds d ys → ds.length + 1 = ps.length)
    (body : ∀ (fa : Addr) (cdv : Value) (A : Around) (outer : List Env) (s : Shared) (H : Hp) (E : XK) (l : Addr) (xs : List Int) (ds : List D) (d : D) (ys : List Int), Room lv (cxD P w K mg base N x st fa cdv A outer s H E).A → f xs ds d ys →
      Im d ∧ SS (cxD P w K mg base N x st fa cdv A outer s H E) C (rhoM N ds) (some (l, 0, nts xs)) (defBody st) ⟨fun _ _ => False, fun d' mu' => d' = d ∧ mu' = some (l, 0, nts ys)⟩) : FdM P w K mg base C (lv + 1) x f := by
  obtain ⟨fa, fd, F, hm⟩ := D0
  refine ⟨fa, fd, ps, hm, F.kp, F.bindsN hb, F.ok S (fun vs H Q E ⟨_, l, xs, ws, ds, d, ys, e, _, r, hf, _⟩ => by rw [e, List.length_cons, ← r.len]; exact len xs ds d ys hf) (fun cdv A outer s H vs Q E hr h => ?_)⟩
  obtain ⟨tb, l, xs, ws, ds, d, ys, rfl, hl, r, hf, q⟩ := h
  obtain ⟨im, t, pt, vt⟩ := body fa cdv A outer s H E l xs ds d ys hr hf
  refine ⟨t, PSs.nox pt, vt (hole H (some (l, 0, []))) (L2.start N (.ref l :: ws)) H (env0M tb hl r (by rw [len xs ds d ys hf]; exact hN)) _ ⟨fun σ H' ρ mu ok e => e.elim, fun σ H' ρ mu v d' ok rv e => ?_⟩⟩
  obtain ⟨rfl, rfl⟩ := e
  obtain ⟨_, _, _, vs', h4, h5⟩ := ok.mu l 0 _ rfl
  have ev := reps_nts h5
  subst ev
  exact q v H' ok.ex h4 (rv.im im _)
end
section
variable {X : Cx} {C : Cs} {ρ : Rho} {mu : Mu} {l : Addr} {j : Nat} {cs cs' : List D} {a b c e : Expr} {pos p : Pos} {i k : Int} {body orelse : List Stmt} {E : DE}
theorem ee_mulW (ha : EE X C ρ mu a (.int i)) (hb : EE X C ρ mu b (.int k)) (h : CMulW i k) : EE X C ρ mu (.BinOp a .Mult b pos) (.int (i * k)) := ee_op2 op_mulW ha hb h
theorem ee_divW (ha : EE X C ρ mu a (.int i)) (hb : EE X C ρ mu b (.int k)) (h : CDivW i k) : EE X C ρ mu (.BinOp a .FloorDiv b pos) (.int (i / k)) := ee_op2 op_fdivW ha hb h
/-- items[changing index], items a list under a name -/
theorem em_ixVar (n : Nat) {x : Str} {q1 : Pos} {ds : List D} {d : D} (h : ρ[n]? = some (some (.lst ds))) (hb : EM X C ρ l j cs b (.int k) cs') (hk : L2.atI ds k = some d) (hN : X.N[n]? = some x := by rfl) (hv : Vis X.env.scope x := by first | exact Or.inl rfl | exact Or.inr (Or.inl rfl) | exact Or.inr (Or.inr rfl)) (hd : (x == ("__debug__" : Str)) = false := by decide)
    (hcd : (x == ("__classdict__" : Str)) = false := by decide) (hs : PlainIx b := by exact fun _ _ => rfl) : EM X C ρ l j cs (.Subscript (.Name x q1) b pos) d cs' := by
  obtain ⟨tb, pb, vb⟩ := hb
  refine ⟨_, pe_ix ix_list (pe_var hN hv hd hcd) pb hs, fun G σ H ok Q q => ?_⟩
  obtain ⟨v1, e1, r1⟩ := ok.at_ n _ h
  refine ⟨v1, e1, vb G σ H ok _ fun v2 H2 ok2 r2 => ?_⟩
  obtain ⟨v1', e1', r1'⟩ := ok2.at_ n _ h
  rw [e1] at e1'
  cases e1'
  cases r2
  cases r1' with
  | @lst p vs _ n' hq l' at_ =>
    obtain ⟨v, hv', rv⟩ := Reps.atI ⟨l', at_⟩ hk
    exact ⟨p, vs, k, v, rfl, rfl, .inl hq, hv', q v H2 ok2 rv⟩
/-- if (not) changing -/
theorem s1_ifNM {t : Bool} {q1 : Pos} (hc : EM X C ρ l j cs c (.bl t) cs') (h1 : t = false → SS X C ρ (some (l, j, cs')) body E) (h2 : t = true → SS X C ρ (some (l, j, cs')) orelse E) (he : ∀ whole, isTrue c X.env whole = (do let v ← whole; standAt c.pos; holding [v] (truthy v)) := by intro _; rfl) : S1 X C ρ (some (l, j, cs)) (.If (.UnaryOp .Not c q1) body orelse pos) E := by
  obtain ⟨tc, pc, vc⟩ := hc
  cases t with
  | true =>
    obtain ⟨tb, pb, vb⟩ := h2 rfl
    refine ⟨_, ps_if (pt_not (pt_val pc he)) pss_never pb, fun G σ H ok Dn sat => vc G σ H ok _ fun v H2 ok2 r => ?_⟩
    cases r
    exact ⟨true, rfl, vb G σ H2 (ok2.base (hole_ex ok)) Dn sat⟩
  | false =>
    obtain ⟨tb, pb, vb⟩ := h1 rfl
    refine ⟨_, ps_if (pt_not (pt_val pc he)) pb pss_never, fun G σ H ok Dn sat => vc G σ H ok _ fun v H2 ok2 r => ?_⟩
    cases r
    exact ⟨false, rfl, vb G σ H2 (ok2.base (hole_ex ok)) Dn sat⟩
end
end Dd
set_option maxHeartbeats 2000000
/-! The law's own defs: dice. Printed by gen/w16.py. -/
namespace Dd
open PySem PySem.Spec PyProof.Rows L2 Evl
section
variable {P : Program} {w : World} {K : PySem.W.Frag} {mg : Str → Option Value} {base : Heap} {C : Cs}

def f__law_common (ds : List D) (d : D) : Prop := ∃ a b : Nat, ds = [.int a, .int b] ∧ 0 < a ∧ d = .int (Nat.gcd a b : Nat)
abbrev N__law_common : List Str := ["_law_one", "_law_other"]
theorem sc__law_common : FnScope N__law_common ["_law_one", "_law_other"] (defScope (top 122)) := ⟨rfl, rfl, rfl, by decide +kernel, rfl, by decide +kernel, by decide +kernel⟩
theorem fd__law_common (W : Wd mg) (D0 : Df K mg "_law_common" (top 122))  : Fd P w K mg base C 3 "_law_common" f__law_common := by
  refine Fd.mk (lv := 2) D0 sc__law_common (fun _ _ _ _ _ _ us hl => match us, hl with | [_, _], _ => rfl) (by decide) (fun ds d hf => by obtain ⟨a, b, hds, _⟩ := hf; rw [hds]; rfl) fun fa cdv A outer s H E ds d hr hf => ?_
  obtain ⟨a, b, rfl, ha, rfl⟩ := hf
  refine ss_c (s1_while (fun n ρ mu => mu = none ∧ ∃ x : Nat, 0 < x ∧ Nat.gcd x n = Nat.gcd a b ∧ ρ = [some (.int x), some (.int n)]) b ⟨rfl, a, ha, rfl, rfl⟩ ?_)
  rintro n ρ1 mu1 ⟨rfl, x, hx, hg, rfl⟩
  cases n with
  | zero =>
    refine ⟨false, EB.is (eb_neI (ee_var 1) ee_int) (by simp), (by intro h; cases h), fun _ => ?_⟩
    exact ss_1 (s1_ret (EE.is (ee_var 0) (by rw [← hg, Nat.gcd_zero_right])) rfl)
  | succ n =>
    refine ⟨true, EB.is (eb_neI (ee_var 1) ee_int) (by simp; omega), fun _ => ?_, (by intro h; cases h)⟩
    refine ss_1 (s1_par 0 1 (ee_var 1) (ee_mod (ee_var 0) (ee_var 1) (by omega)) may0 may0 ⟨x % (n + 1), Nat.mod_lt _ (Nat.succ_pos n), rfl, n + 1, Nat.succ_pos n, ?_, ?_⟩ sc__law_common.nd)
    · rw [← hg, Nat.gcd_comm x, Nat.gcd_rec (n + 1) x, Nat.gcd_comm]
    · simp
theorem ss_mu {X : Cx} {ρ : Rho} {l : Addr} {j : Nat} {ds ds' : List D} {ss : List Stmt} {E : DE} (z : ds = ds') (h : SS X C ρ (some (l, j, ds')) ss E) : SS X C ρ (some (l, j, ds)) ss E := z ▸ h
def rl1_ (b c : Int) : Int := (b + 1000409 * (c + 1)) % 2305843009213693951
def rl2_ (b c : Int) : Int := (rl1_ b c * rl1_ b c % 2305843009213693921 * rl1_ b c + 9479 * (c + 1)) % 2305843009213693907
/-- what is drawn below n, and the dice behind it -/
def rlV (a b c n : Int) : Int := if 0 < a then a % n else rl2_ b c / 4096 % n
def rlS (a b c n : Int) : List Int := if 0 < a then [a / n, b, c] else [a, b, c + 1]
def f__law_roll (xs : List Int) (ds : List D) (d : D) (ys : List Int) : Prop := ∃ a b c n, xs = [a, b, c] ∧ ds = [.int n] ∧ (0 ≤ a ∧ 0 ≤ b ∧ b < 2147482661 ∧ 0 ≤ c ∧ c ≤ 10000 ∧ 0 < n ∧ n ≤ 1000) ∧ d = .int (rlV a b c n) ∧ ys = rlS a b c n
theorem rl1_bd (b c : Int) : (rl1_ b c).natAbs < 2 ^ 61 := by
  have h1 : 0 ≤ rl1_ b c := Int.emod_nonneg _ (by decide)
  have h2 : rl1_ b c < 2305843009213693951 := Int.emod_lt_of_pos _ (by decide)
  omega
abbrev N__law_roll : List Str := ["_law_dice_here", "_law_total", "_law_size", "_law_drawn", "_law_one", "_law_two"]
theorem sc__law_roll : FnScope N__law_roll ["_law_dice_here", "_law_total"] (defScope (top 120)) := ⟨rfl, rfl, rfl, by decide +kernel, rfl, by decide +kernel, by decide +kernel⟩
theorem fd__law_roll (W : Wd mg) (D0 : Df K mg "_law_roll" (top 120))  : FdM P w K mg base C 3 "_law_roll" f__law_roll := by
  refine FdM.mk (lv := 2) D0 sc__law_roll (fun _ _ _ _ _ _ us hl => match us, hl with | [_, _], _ => rfl) (by decide) (fun xs ds d ys hf => by obtain ⟨a, b, c, n, _, hds, _⟩ := hf; rw [hds]; rfl) fun fa cdv A outer s H E l xs ds d ys hr hf => ?_
  obtain ⟨a, b, c, n, rfl, rfl, ⟨a0, b0, b1, c0, c1, n0, n1⟩, rfl, rfl⟩ := hf
  refine ⟨.int, ?_⟩
  have bd := rl1_bd b c
  have cm : CMul (rl1_ b c) (rl1_ b c) := .inl ⟨by omega, by omega⟩
  have cm2 : CMul (rl1_ b c * rl1_ b c % 2305843009213693921) (rl1_ b c) := .inr ⟨by omega, by omega⟩
  refine ss_c (s1_set 2 (d := .int n) (ee_intI W.int (ee_var 1)) (mayI .int (by decide)) ?_ sc__law_roll.nd)
  by_cases h : 0 < a
  · refine ss_c (s1_if (t := true) (EB.is (eb_gt (ee_ixIL ee_varM ee_int (by decide) (by show (0 : Int) < 3; decide)) ee_int) (decide_eq_true h)) (fun _ => ?_) (by intro h; cases h))
    refine ss_c (s1_set 3 (d := .int (a % n)) (ee_mod (ee_ixIL ee_varM ee_int (by decide) (by show (0 : Int) < 3; decide)) (ee_var 2) n0) (mayI .int (by decide)) ?_ sc__law_roll.nd)
    refine ss_c (s1_item (k := 0) (d := .int (a / n)) ee_int (ee_div (ee_ixIL ee_varM ee_int (by decide) (by show (0 : Int) < 3; decide)) (ee_var 2) ⟨n0, by omega⟩) .int (by decide) (by show (0 : Int) < 3; decide) ?_)
    refine ss_1 (s1_ret (ee_intI W.int (ee_var 3)) ⟨?_, ?_⟩)
    · unfold rlV; rw [if_pos h]
    · unfold rlS; rw [if_pos h]; rfl
  · refine ss_c (s1_if (t := false) (EB.is (eb_gt (ee_ixIL ee_varM ee_int (by decide) (by show (0 : Int) < 3; decide)) ee_int) (decide_eq_false h)) (by intro h; cases h) (fun _ => ss_nil ?_))
    refine ss_c (s1_item (k := 2) (d := .int (c + 1)) ee_int (ee_add (ee_ixIL ee_varM ee_int (by decide) (by show (2 : Int) < 3; decide)) ee_int) .int (by decide) (by show (2 : Int) < 3; decide) ?_)
    refine ss_mu (ds' := nts [a, b, c + 1]) rfl ?_
    refine ss_c (s1_set 4 (d := .int (rl1_ b c)) (EE.is (ee_mod (ee_add (ee_ixIL ee_varM ee_int (by decide) (by show (1 : Int) < 3; decide)) (ee_mul ee_int (ee_ixIL ee_varM ee_int (by decide) (by show (2 : Int) < 3; decide)) (.inl ⟨by decide, by decide⟩))) ee_int (by decide)) rfl) (mayI .int (by decide)) ?_ sc__law_roll.nd)
    refine ss_c (s1_set 5 (d := .int (rl1_ b c * rl1_ b c % 2305843009213693921 * rl1_ b c + 9479 * (c + 1))) (EE.is (ee_add (ee_mul (ee_mod (ee_mul (ee_var 4) (ee_var 4) cm) ee_int (by decide)) (ee_var 4) cm2) (ee_mul ee_int (ee_ixIL ee_varM ee_int (by decide) (by show (2 : Int) < 3; decide)) (.inl ⟨by decide, by decide⟩))) rfl) (mayI .int (by decide)) ?_ sc__law_roll.nd)
    refine ss_c (s1_set 5 (d := .int (rl2_ b c)) (EE.is (ee_mod (ee_var 5) ee_int (by decide)) rfl) (mayI .int (by decide)) ?_ sc__law_roll.nd)
    refine ss_1 (s1_ret (ee_intI W.int (ee_mod (ee_div (ee_var 5) ee_int (by decide)) (ee_var 2) n0)) ⟨?_, ?_⟩)
    · unfold rlV; rw [if_neg h]
    · unfold rlS; rw [if_neg h]
theorem rlV_bd {a b c n : Int} (n0 : 0 < n) : 0 ≤ rlV a b c n ∧ rlV a b c n < n := by
  unfold rlV
  split
  · exact ⟨Int.emod_nonneg _ (by omega), Int.emod_lt_of_pos _ n0⟩
  · exact ⟨Int.emod_nonneg _ (by omega), Int.emod_lt_of_pos _ n0⟩
/-- dice that may be rolled k times more -/
def Dc (k : Int) (xs : List Int) : Prop := ∃ a b c, xs = [a, b, c] ∧ 0 ≤ a ∧ 0 ≤ b ∧ b < 2147482661 ∧ 0 ≤ c ∧ c + k ≤ 10000
def rl0 (xs : List Int) (n : Int) : Int := rlV (gt xs 0) (gt xs 1) (gt xs 2) n
def rs0 (xs : List Int) (n : Int) : List Int := rlS (gt xs 0) (gt xs 1) (gt xs 2) n
theorem Dc.roll {k n : Int} {xs : List Int} (h : Dc (k + 1) xs) (hk : 0 ≤ k) (n0 : 0 < n) (n1 : n ≤ 1000) : f__law_roll xs [.int n] (.int (rl0 xs n)) (rs0 xs n) ∧ Dc k (rs0 xs n) ∧ 0 ≤ rl0 xs n ∧ rl0 xs n < n := by
  obtain ⟨a, b, c, rfl, a0, b0, b1, c0, c1⟩ := h
  refine ⟨⟨a, b, c, n, rfl, rfl, ⟨a0, b0, b1, c0, by omega, n0, n1⟩, rfl, rfl⟩, ?_, rlV_bd n0⟩
  show Dc k (rlS a b c n)
  unfold rlS
  split
  · exact ⟨a / n, b, c, rfl, Int.ediv_nonneg a0 (by omega), b0, b1, c0, by omega⟩
  · exact ⟨a, b, c + 1, rfl, a0, b0, b1, by omega, by omega⟩
def f__law_one_of (xs : List Int) (ds : List D) (d : D) (ys : List Int) : Prop := ∃ its k, ds = [il its] ∧ (Dc (k + 1) xs ∧ 0 ≤ k ∧ 0 < its.length ∧ its.length ≤ 1000) ∧ d = .int (gt its (rl0 xs its.length)) ∧ ys = rs0 xs its.length
abbrev N__law_one_of : List Str := ["_law_dice_here", "_law_items"]
theorem sc__law_one_of : FnScope N__law_one_of ["_law_dice_here", "_law_items"] (defScope (top 121)) := ⟨rfl, rfl, rfl, by decide +kernel, rfl, by decide +kernel, by decide +kernel⟩
theorem fd__law_one_of (W : Wd mg) (D0 : Df K mg "_law_one_of" (top 121)) (F__law_roll : FdM P w K mg base C 3 "_law_roll" f__law_roll) : FdM P w K mg base C 6 "_law_one_of" f__law_one_of := by
  refine FdM.mk (lv := 5) D0 sc__law_one_of (fun _ _ _ _ _ _ us hl => match us, hl with | [_, _], _ => rfl) (by decide) (fun xs ds d ys hf => by obtain ⟨its, k, hds, _⟩ := hf; rw [hds]; rfl) fun fa cdv A outer s H E l xs ds d ys hr hf => ?_
  obtain ⟨its, k, rfl, ⟨hd, hk, z0, z1⟩, rfl, rfl⟩ := hf
  obtain ⟨hr1, _, v0, v1⟩ := hd.roll (n := its.length) hk (by omega) (by omega)
  exact ⟨.int, ss_1 (s1_retM (em_ixVar 1 rfl (em_call F__law_roll (hr.mono (by decide)) (eam_c (ee_lenIL W.len (ee_var 1)) .int eam_no) hr1) (atI_nts v0 v1)) ⟨rfl, rfl⟩)⟩
def stp (k : Int) : List Int := (rgs 1 (k - 1).toNat).filter fun s => decide (Nat.gcd k.toNat s.toNat = 1)
/-- a ring of order k: its parts, the dice behind -/
def rgM (xs : List Int) (t : Int) : Int := 1 + rl0 xs t
def rgS (xs : List Int) (k t : Int) : Int := rgM xs t * gt (stp k) (rl0 (rs0 xs t) (stp k).length)
def rgD (xs : List Int) (k t : Int) : List Int := rs0 (rs0 xs t) (stp k).length
def f__law_ring_of (xs : List Int) (ds : List D) (d : D) (ys : List Int) : Prop := ∃ k t m, ds = [.int k, .int t] ∧ (Dc (m + 2) xs ∧ 0 ≤ m ∧ 2 ≤ k ∧ k ≤ 60 ∧ 0 < t ∧ t ≤ 10) ∧ d = .tup [.int (k * rgM xs t), .int (rgS xs k t)] ∧ ys = rgD xs k t
theorem stp_ne {k : Int} (h : 2 ≤ k) : 0 < (stp k).length := by
  have : (1 : Int) ∈ stp k := by
    unfold stp rgs
    exact List.mem_filter.mpr ⟨List.mem_map.mpr ⟨0, List.mem_range.mpr (by omega), rfl⟩, by simp⟩
  exact List.length_pos_of_mem this
theorem stp_le {k : Int} (h : k ≤ 60) : (stp k).length ≤ 60 := by
  have := List.length_filter_le (fun s => decide (Nat.gcd k.toNat s.toNat = 1)) (rgs 1 (k - 1).toNat)
  rw [rgs_len] at this
  unfold stp
  omega
abbrev N__law_ring_of : List Str := ["_law_dice_here", "_law_k", "_law_times", "_law_more", "_law_steps", "_law_one"]
theorem sc__law_ring_of : FnScope N__law_ring_of ["_law_dice_here", "_law_k", "_law_times"] (defScope (top 123)) := ⟨rfl, rfl, rfl, by decide +kernel, rfl, by decide +kernel, by decide +kernel⟩
theorem fd__law_ring_of (W : Wd mg) (D0 : Df K mg "_law_ring_of" (top 123)) (F__law_roll : FdM P w K mg base C 3 "_law_roll" f__law_roll) (F__law_common : Fd P w K mg base C 3 "_law_common" f__law_common) (F__law_one_of : FdM P w K mg base C 6 "_law_one_of" f__law_one_of) : FdM P w K mg base C 9 "_law_ring_of" f__law_ring_of := by
  refine FdM.mk (lv := 8) D0 sc__law_ring_of (fun _ _ _ _ _ _ us hl => match us, hl with | [_, _, _], _ => rfl) (by decide) (fun xs ds d ys hf => by obtain ⟨k, t, m, hds, _⟩ := hf; rw [hds]; rfl) fun fa cdv A outer s H E l xs ds d ys hr hf => ?_
  obtain ⟨k, t, m, rfl, ⟨hd, hm, k0, k1, t0, t1⟩, rfl, rfl⟩ := hf
  obtain ⟨hr1, hd1, v0, v1⟩ := Dc.roll (k := m + 1) (by rw [show m + 1 + 1 = m + 2 by omega]; exact hd) (by omega) t0 (by omega)
  have ll := stp_ne k0
  have lm := stp_le k1
  refine ⟨im_it [_, _], ?_⟩
  refine ss_c (s1_setM 3 (d := .int (rgM xs t)) (em_add ee_int (em_call F__law_roll (hr.mono (by decide)) (eam_c (ee_var 2) .int eam_no) hr1)) (by decide) ?_ sc__law_ring_of.nd)
  refine ss_c (s1_setL 4 (ds := nts (stp k)) (el_filt (own := [("_law_one", 5)]) (rgs 1 (k - 1).toNat) (fun s => decide (Nat.gcd k.toNat s.toNat = 1)) (D.int) (D.int) (ei_src (es_rng2 (n := (k - 1).toNat) W.range ee_int (ee_var 1) rfl (by omega) (by omega) (by omega))) sc__law_ring_of.nd (blkOk_by (N := N__law_ring_of) (sc := defScope (top 123)) (by decide +kernel)) (by intro _ _ _ z; cases z; decide) (by rw [rgs_len]; omega) (fun s hs =>  turn_t (fun _ _ _ _ _ => (eg_name 5 sc__law_ring_of.nd (mayI .int (by decide)))) (fun _ _ _ _ _ => EB.is (eb_eqI (ee_call F__law_common (hr.mono (by decide)) (ea_c (ee_var 1) (ea_c (ee_var 5) ea_no)) ⟨k.toNat, s.toNat, by have := (rgs_mem hs).1; rw [show ((k.toNat : Nat) : Int) = k by omega, show ((s.toNat : Nat) : Int) = s by omega], by omega, rfl⟩) ee_int) (decide_eq_decide.mpr (by omega))) .int (fun hb => fun _ _ _ _ _ => (ee_var 5)))) (fun d q => by obtain ⟨x, _, rfl⟩ := List.mem_map.mp q; exact .int) (fun _ _ _ z => by cases z; decide) ?_)
  exact ss_1 (s1_retM (em_pair (ee_mul (ee_var 1) (ee_var 3) (.inl ⟨by omega, by omega⟩)) (em_mul (ee_var 3) (em_call F__law_one_of (hr.mono (by decide)) (eam_var 4 eam_no) ⟨stp k, m, rfl, ⟨hd1, hm, ll, by omega⟩, rfl, rfl⟩) (.inl ⟨by unfold rgM; omega, by unfold rgM; omega⟩))) ⟨rfl, rfl⟩)
/-- the dice behind i rings -/
def ecD (xs : List Int) (k : Int) : Nat → List Int
  | 0 => xs
  | i + 1 => rgD (ecD xs k i) k 2
def ecR (xs : List Int) (k : Int) (i : Nat) : Int × Int := (k * rgM (ecD xs k i) 2, rgS (ecD xs k i) k 2)
theorem Dc.ring {m k t : Int} {xs : List Int} (h : Dc (m + 2) xs) (hm : 0 ≤ m) (k0 : 2 ≤ k) (k1 : k ≤ 60) (t0 : 0 < t) (t1 : t ≤ 10) : Dc m (rgD xs k t) := by
  have h1 := (Dc.roll (k := m + 1) (by rw [show m + 1 + 1 = m + 2 by omega]; exact h) (by omega) t0 (by omega)).2.1
  exact (Dc.roll (n := (stp k).length) h1 hm (by have := stp_ne k0; omega) (by have := stp_le k1; omega)).2.1
theorem Dc.rings {m k : Int} {xs : List Int} (hm : 0 ≤ m) (k0 : 2 ≤ k) (k1 : k ≤ 60) : ∀ (n i : Nat), Dc (m + 2 * (n : Int)) xs → i ≤ n → Dc (m + 2 * ((n : Int) - (i : Int))) (ecD xs k i) := fun n i h => by
  induction i with
  | zero => intro _; show Dc _ xs; rw [show m + 2 * ((n : Int) - ((0 : Nat) : Int)) = m + 2 * (n : Int) by omega]; exact h
  | succ i ih =>
    intro hi
    refine Dc.ring (by rw [show m + 2 * ((n : Int) - ((i + 1 : Nat) : Int)) + 2 = m + 2 * ((n : Int) - (i : Int)) by omega]; exact ih (by omega)) (by omega) k0 k1 (by decide) (by decide)
def f__law_equal_chain (xs : List Int) (ds : List D) (d : D) (ys : List Int) : Prop := ∃ n k m, ds = [.int n, .int k] ∧ (Dc (m + 2 * n) xs ∧ 0 ≤ m ∧ 0 ≤ n ∧ n ≤ 60 ∧ 2 ≤ k ∧ k ≤ 60) ∧ d = .tup ((List.range n.toNat).map fun i => rD (ecR xs k i)) ∧ ys = ecD xs k n.toNat
abbrev N__law_equal_chain : List Str := ["_law_dice_here", "_law_rings", "_law_k", "_law_turn"]
theorem sc__law_equal_chain : FnScope N__law_equal_chain ["_law_dice_here", "_law_rings", "_law_k"] (defScope (top 124)) := ⟨rfl, rfl, rfl, by decide +kernel, rfl, by decide +kernel, by decide +kernel⟩
theorem fd__law_equal_chain (W : Wd mg) (D0 : Df K mg "_law_equal_chain" (top 124)) (F__law_ring_of : FdM P w K mg base C 9 "_law_ring_of" f__law_ring_of) : FdM P w K mg base C 12 "_law_equal_chain" f__law_equal_chain := by
  refine FdM.mk (lv := 11) D0 sc__law_equal_chain (fun _ _ _ _ _ _ us hl => match us, hl with | [_, _, _], _ => rfl) (by decide) (fun xs ds d ys hf => by obtain ⟨n, k, m, hds, _⟩ := hf; rw [hds]; rfl) fun fa cdv A outer s H E l xs ds d ys hr hf => ?_
  obtain ⟨n, k, m, rfl, ⟨hd, hm, n0, n1, k0, k1⟩, rfl, rfl⟩ := hf
  have nn : ((n.toNat : Nat) : Int) = n := by omega
  have hds := fun i hi => Dc.rings (k := k) hm k0 k1 n.toNat i (by rw [nn]; exact hd) hi
  refine ⟨.tup fun d q => by obtain ⟨i, _, rfl⟩ := List.mem_map.mp q; exact im_it [_, _], ?_⟩
  refine ss_1 (s1_retM (em_tuple W.tuple (em_lc (own := [("_law_turn", 3)]) n.toNat (fun i => .int (0 + (i : Int))) (fun i => rD (ecR xs k i)) (ecD xs k) (eim_ei (EI.is (ei_src (es_rng1 (n := n.toNat) W.range (ee_var 1) rfl (by omega) (by omega))) (by unfold rgs nts; rw [List.map_map]; rfl))) sc__law_equal_chain.nd (blkOk_by (N := N__law_equal_chain) (sc := defScope (top 124)) (by decide +kernel)) (by decide) (by omega)
    (fun i hi => ⟨_, (fun _ _ _ _ _ => (eg_name 3 sc__law_equal_chain.nd (mayI .int (by decide)))), im_it [_, _], fun _ _ _ _ _ => em_call F__law_ring_of (hr.mono (by decide)) (eam_c (ee_var 2) .int (eam_c ee_int .int eam_no)) ⟨k, 2, m + 2 * ((n.toNat : Int) - (i : Int)) - 2, rfl, ⟨by have := hds i (by omega); rw [show m + 2 * ((n.toNat : Int) - (i : Int)) - 2 + 2 = m + 2 * ((n.toNat : Int) - (i : Int)) by omega]; exact this, by omega, k0, k1, by decide, by decide⟩, rfl, rfl⟩⟩))) ⟨rfl, rfl⟩)
end
end Dd
set_option maxHeartbeats 2000000
/-! A def that hands out a new list of whole numbers. -/
namespace Dd
open PySem PySem.Spec PyProof.Rows L2 Evl
/-- the statements end by handing out a new list -/
def SR (X : Cx) (C : Cs) (ρ : Rho) (mu : Mu) (ss : List Stmt) (ys : List Int) : Prop :=
  ∃ t, PSs X ss t ∧ ∀ G σ H, EnvOk X.K C G σ H ρ mu → ∀ Dn : Ends, (∀ p H2, G p = none → Ex G H2 → H2 p = some (.lst (ys.map V.int)) → Dn.rt (.ref p) H2) → t Dn σ H
section
variable {X : Cx} {C : Cs} {ρ : Rho} {mu : Mu} {s : Stmt} {ss : List Stmt} {ys : List Int} {e : Expr} {pos : Pos}
theorem sr_c (h : S1 X C ρ mu s ⟨fun ρ' mu' => SR X C ρ' mu' ss ys, fun _ _ => False⟩) : SR X C ρ mu (s :: ss) ys := by
  obtain ⟨t, pt, vt⟩ := h
  have pu : PSs X ss (fun Dn σ H => ∃ t', PSs X ss t' ∧ t' Dn σ H) := ⟨fun pins s σ H D I ⟨t', p', q⟩ => p'.run pins s σ H D I q⟩
  refine ⟨_, pss_cons pt pu, fun G σ H ok Dn sat => vt G σ H ok _ ⟨fun σ' H' ρ' mu' ok' h' => ?_, fun σ' H' ρ' mu' v d ok' r h' => h'.elim⟩⟩
  obtain ⟨t', p', v'⟩ := h'
  exact ⟨t', p', v' G σ' H' ok' Dn sat⟩
theorem sr_ret (he : EN X C ρ mu e (nts ys)) : SR X C ρ mu [.Return (some e) pos] ys := by
  obtain ⟨te, pe, ve⟩ := he
  refine ⟨_, pss_one (ps_ret pe), fun G σ H ok Dn sat => ve G σ H ok _ fun p vs H2 hp x h r => sat p H2 (fresh_back ok.ex hp) (ok.ex.trans x) ?_⟩
  rw [h, reps_nts r]
end
/-- its promise -/
def spN (K : PySem.W.Frag) (C : Cs) (f : List D → List Int → Prop) : Sp := fun vs H Q _ => Tb C H ∧ ∃ ds ys, Reps K C none H ds vs ∧ f ds ys ∧ ∀ p H', H p = none → Ex H H' → H' p = some (.lst (ys.map V.int)) → Q (.ref p) H'
def FdN (P : Program) (w : World) (K : PySem.W.Frag) (mg : Str → Option Value) (base : Heap) (C : Cs) (lv : Nat) (x : Str) (f : List D → List Int → Prop) : Prop :=
  ∃ fa fd ps, mg x = some (.ref fa) ∧ PySem.W.keepIn K (.ref fa) = true ∧ Binds K fd ps [] ∧ FnOk P w K mg base CX0 lv fa fd ps (spN K C f)
section
variable {P : Program} {w : World} {K : PySem.W.Frag} {mg : Str → Option Value} {base : Heap} {C : Cs}
theorem FdN.mk {x : Str} {st : Stmt} {N ps : List Str} {lv : Nat} {f : List D → List Int → Prop} (D0 : Df K mg x st) (S : FnScope N ps (defScope st)) (hb : BindOk x st ps) (hN : ps.length ≤ N.length) (len : ∀ ds ys, f ds ys → ds.length = ps.length)
    (body : ∀ (fa : Addr) (cdv : Value) (A : Around) (outer : List Env) (s : Shared) (H : Hp) (E : XK) (ds : List D) (ys : List Int), Room lv (cxD P w K mg base N x st fa cdv A outer s H E).A → f ds ys →
      SR (cxD P w K mg base N x st fa cdv A outer s H E) C (rho0 N ds) none (defBody st) ys) : FdN P w K mg base C (lv + 1) x f := by
  obtain ⟨fa, fd, F, hm⟩ := D0
  refine ⟨fa, fd, ps, hm, F.kp, F.bindsN hb, F.ok S (fun vs H Q E ⟨_, ds, ys, r, hf, _⟩ => by rw [← r.len]; exact len ds ys hf) (fun cdv A outer s H vs Q E hr h => ?_)⟩
  obtain ⟨tb, ds, ys, r, hf, q⟩ := h
  obtain ⟨t, pt, vt⟩ := body fa cdv A outer s H E ds ys hr hf
  exact ⟨t, PSs.nox pt, vt H (L2.start N vs) H (env0 tb r (by rw [len ds ys hf]; exact hN)) _ fun p H2 hp x h => q p H2 hp x h⟩
end
end Dd
set_option maxHeartbeats 2000000
/-! The law's own defs: new dice, heaps. Printed by gen/w17.py. -/
namespace Dd
open PySem PySem.Spec PyProof.Rows L2 Evl
section
variable {P : Program} {w : World} {K : PySem.W.Frag} {mg : Str → Option Value} {base : Heap} {C : Cs}

def dcC (scr : List Int) (i : Nat) : Int := if i < scr.length then gt scr i else 101 * i + 47
def dcG (scr : List Int) (i : Nat) : Int := ((dcC scr i).natAbs : Int) % (10 ^ 60) ^ 10
/-- the dice that a script's cell gives -/
def dcV (scr : List Int) (i : Nat) : List Int := [dcG scr i / 10 ^ 18, (dcG scr i % 2147482697 * 60497 + 3533 * i + 89 * (if dcC scr i < 0 then 1 else 0) + 109) % 2147482661, 0]
theorem dcV_ok (scr : List Int) (i : Nat) : Dc 10000 (dcV scr i) := by
  refine ⟨_, _, _, rfl, Int.ediv_nonneg (Int.emod_nonneg _ (by decide)) (by decide), Int.emod_nonneg _ (by decide), Int.emod_lt_of_pos _ (by decide), Int.le_refl 0, by decide⟩
def f__law_dice (ds : List D) (ys : List Int) : Prop := ∃ (scr : List Int) (i : Nat), ds = [il scr, .int i] ∧ i ≤ 100 ∧ ys = dcV scr i
abbrev N__law_dice : List Str := ["_law_script", "_law_at", "_law_cell", "_law_great", "_law_left", "_law_mixed"]
theorem sc__law_dice : FnScope N__law_dice ["_law_script", "_law_at"] (defScope (top 119)) := ⟨rfl, rfl, rfl, by decide +kernel, rfl, by decide +kernel, by decide +kernel⟩
theorem fd__law_dice (W : Wd mg) (D0 : Df K mg "_law_dice" (top 119))  : FdN P w K mg base C 3 "_law_dice" f__law_dice := by
  refine FdN.mk (lv := 2) D0 sc__law_dice (fun _ _ _ _ _ _ us hl => match us, hl with | [_, _], _ => rfl) (by decide) (fun ds ys hf => by obtain ⟨scr, i, hds, _⟩ := hf; rw [hds]; rfl) fun fa cdv A outer s H E ds ys hr hf => ?_
  obtain ⟨scr, i, rfl, hi, rfl⟩ := hf
  refine sr_c (s1_set 2 (d := .int (101 * i + 47)) (ee_add (ee_mul ee_int (ee_var 1) (.inl ⟨by decide, by decide⟩)) ee_int) may0 ?_ sc__law_dice.nd)
  have step : SR (cxD P w K mg base N__law_dice "_law_dice" (top 119) fa cdv A outer s H E) C [some (il scr), some (.int i), some (.int (dcC scr i)), none, none, none] none ((defBody (top 119)).drop 2) (dcV scr i) := by
    refine sr_c (s1_set 3 (d := .int (dcG scr i)) (EE.is (ee_mod (ee_intI W.int (ee_abs W.abs (ee_var 2))) (ee_pow (ee_pow ee_int ee_int (by decide) (by decide)) ee_int (by decide) (by decide)) (by decide)) ?_) may0 ?_ sc__law_dice.nd)
    · unfold dcG; congr 2; split <;> omega
    refine sr_c (s1_set 4 (d := .int (dcG scr i / 10 ^ 18)) (EE.is (ee_divW (ee_var 3) (ee_pow ee_int ee_int (by decide) (by decide)) (wide_div (b := 64) (by decide) (by decide) (by decide) (by decide))) rfl) may0 ?_ sc__law_dice.nd)
    refine sr_c (s1_set 5 (ee_add (ee_add (ee_add (ee_mul (ee_mod (ee_var 3) ee_int (by decide)) ee_int (.inr ⟨by decide, by decide⟩)) (ee_mul ee_int (ee_var 1) (.inl ⟨by decide, by decide⟩))) (ee_mul ee_int (ee_intB W.int (ee_lt (ee_var 2) ee_int)) (.inl ⟨by decide, by decide⟩))) ee_int) may0 ?_ sc__law_dice.nd)
    refine sr_ret (EN.is (en_lst (ea_c (ee_var 4) (ea_c (ee_mod (ee_var 5) ee_int (by decide)) (ea_c ee_int ea_no))) (by show 3 ≤ 1000; decide)) ?_)
    unfold dcV; simp
  by_cases h : (i : Int) < scr.length
  · refine sr_c (s1_if (t := true) (EB.is (eb_lt (ee_var 1) (ee_lenIL W.len (ee_var 0))) (decide_eq_true h)) (fun _ => ss_1 (s1_set 2 (ee_ixIL (ee_var 0) (ee_var 1) (by omega) h) may0 ?_ sc__law_dice.nd)) (by intro h; cases h))
    have e : dcC scr i = gt scr i := if_pos (by omega)
    rw [e] at step
    exact step
  · refine sr_c (s1_if (t := false) (EB.is (eb_lt (ee_var 1) (ee_lenIL W.len (ee_var 0))) (decide_eq_false h)) (by intro h; cases h) (fun _ => ss_nil ?_))
    have e : dcC scr i = 101 * i + 47 := if_neg (by omega)
    rw [e] at step
    exact step
end
end Dd
set_option maxHeartbeats 2000000
/-! The law's own defs: heaps. Printed by gen/w18.py. -/
namespace Dd
open PySem PySem.Spec PyProof.Rows L2 Evl
section
variable {P : Program} {w : World} {K : PySem.W.Frag} {mg : Str → Option Value} {base : Heap} {C : Cs}

def lgc (h : List Int) (n s x c : Int) : Bool := pac h c && decide (((c - gt (hs0 h) c) * s - x) % n = 0)
def lgs (h : List Int) (n s x : Int) (f : List Int) (c : Int) : List Int := if lgc h n s x c = true then (if c < h.length then f.set c.toNat (gt (hs0 h) c + 1) else f ++ [1]) else f
def lgr (h : List Int) (n s x : Int) : List Int := (rgs 0 (h.length + 1)).foldl (lgs h n s x) h
theorem lgs_len (h : List Int) (n s x : Int) : ∀ i : Nat, i ≤ h.length → (((rgs 0 (h.length + 1)).take i).foldl (lgs h n s x) h).length = h.length := by
  intro i
  induction i with
  | zero => intro _; rfl
  | succ i ih =>
    intro hi
    have z : (rgs 0 (h.length + 1))[i]? = some (0 + (i : Int)) := by
      unfold rgs
      rw [List.getElem?_map, List.getElem?_range (by omega)]
      rfl
    rw [fold_step _ _ z]
    have := ih (by omega)
    unfold lgs
    split
    · rw [if_pos (by omega), List.length_set]
      exact this
    · exact this
theorem hs0_lt {h : List Int} {c : Int} (h0 : 0 ≤ c) (h1 : c < h.length) : gt (hs0 h) c = gt h c := by
  unfold gt hs0
  rw [List.getD_eq_getElem?_getD, List.getD_eq_getElem?_getD, List.getElem?_append_left (by omega)]
theorem hs0_end {h : List Int} {c : Int} (h1 : c = h.length) : gt (hs0 h) c = 0 := by
  subst h1
  unfold gt hs0
  rw [List.getD_eq_getElem?_getD, List.getElem?_append_right (by omega)]
  simp
def f__law_grown (ds : List D) (d : D) : Prop := ∃ h n s x, ds = [it h, .tup [.int n, .int s], .int x] ∧ (Sml h ∧ 2 ≤ n ∧ n ≤ 60 ∧ 0 ≤ s ∧ s ≤ 60) ∧ d = it (lgr h n s x)
abbrev N__law_grown : List Str := ["_law_heap_here", "_law_ring", "_law_x", "_law_n", "_law_s", "_law_found", "_law_column", "_law_height", "_law_can_rise"]
theorem sc__law_grown : FnScope N__law_grown ["_law_heap_here", "_law_ring", "_law_x"] (defScope (top 125)) := ⟨rfl, rfl, rfl, by decide +kernel, rfl, by decide +kernel, by decide +kernel⟩
theorem fd__law_grown (W : Wd mg) (D0 : Df K mg "_law_grown" (top 125))  : Fd P w K mg base C 3 "_law_grown" f__law_grown := by
  refine Fd.mk (lv := 2) D0 sc__law_grown (fun _ _ _ _ _ _ us hl => match us, hl with | [_, _, _], _ => rfl) (by decide) (fun ds d hf => by obtain ⟨h, n, s, x, hds, _⟩ := hf; rw [hds]; rfl) fun fa cdv A outer s H E ds d hr hf => ?_
  obtain ⟨h, n, s, x, rfl, ⟨k, n0, n1, s0, s1⟩, rfl⟩ := hf
  have k1 := k.1
  refine ss_c (s1_unp (vs := [3, 4]) (ee_var 1) (eg_tup (egs_c (eg_name 3 sc__law_grown.nd may0) (egs_c (eg_name 4 sc__law_grown.nd may0) egs_no))) ?_)
  refine ss_c (s1_new 5 (EN.is (en_list W.list (ee_var 0)) rfl) (ds := nts h) (fun d q => by obtain ⟨_, _, rfl⟩ := List.mem_map.mp q; exact .int) (of_decide_eq_true rfl) (fun l => ?_) sc__law_grown.nd)
  refine ss_c (s1_for (ds := nts (rgs 0 (h.length + 1))) (fun i ρ mu => i ≤ h.length + 1 ∧ mu = some (l, 5, nts (((rgs 0 (h.length + 1)).take i).foldl (lgs h n s x) h)) ∧ ∃ o1 o2 o3, ρ = [some (it h), some (.tup [.int n, .int s]), some (.int x), some (.int n), some (.int s), none, o1, o2, o3]) (ei_src (es_rng1 (n := h.length + 1) W.range (ee_add (ee_lenI W.len (ee_var 0)) ee_int) (by omega) (by omega) (by omega))) ⟨Nat.zero_le _, rfl, _, _, _, rfl⟩ [6] ?_ ?_)
  · rintro i d ρ1 mu1 hd ⟨hi, rfl, o1, o2, o3, rfl⟩
    unfold nts at hd
    rw [List.getElem?_map] at hd
    cases z : (rgs 0 (h.length + 1))[i]? with
    | none => rw [z] at hd; cases hd
    | some c =>
      rw [z] at hd
      cases hd
      have hm := rgs_mem (List.mem_of_getElem? z)
      have hlt := (List.getElem?_eq_some_iff.mp z).1
      rw [rgs_len] at hlt
      have ec : c = i := by
        unfold rgs at z
        rw [List.getElem?_map, List.getElem?_range hlt] at z
        have z' : (0 : Int) + (i : Int) = c := Option.some.inj z
        omega
      have hL := lgs_len h n s x i (by omega)
      have hb := gt_bd k (c := c)
      have hS := fold_step (lgs h n s x) h z
      refine ⟨_, eg_name 6 sc__law_grown.nd (mayI .int (by decide)), ?_⟩
      refine ss_c (s1_set 7 (d := .int (gt (hs0 h) c)) (ee_if (eb_lt (ee_var 6) (ee_lenI W.len (ee_var 0))) (fun h_ => EE.is (ee_ixI (ee_var 0) (ee_var 6) (by omega) (by have hh_ := of_decide_eq_true h_; omega)) (by rw [hs0_lt (by omega) (of_decide_eq_true h_)])) (fun h_ => EE.is ee_int (by have hh_ := of_decide_eq_false h_; rw [hs0_end (by omega)]))) (mayI .int (by decide)) ?_ sc__law_grown.nd)
      refine ss_c (s1_set 8 (d := .bl (pac h c)) (EE.is (ee_or (ee_eqI (ee_var 6) ee_int) (fun h_ => (ee_one (ee_gt (ee_ixI (ee_var 0) (ee_sub (ee_var 6) ee_int) (by have hh_ := of_decide_eq_false h_; omega) (by have hh_ := of_decide_eq_false h_; omega)) (ee_var 7))))) ?_) (mayI .bl (by decide)) ?_ sc__law_grown.nd)
      · unfold pac
        by_cases q : c = 0
        · simp [q]
        · rw [hs0_lt (c := c - 1) (by omega) (by omega)]
      refine ss_1 (s1_if (t := lgc h n s x c) (EB.is (eb_w (ew_and (eb_val (ee_var 8)) (fun h_ => (ew_and1 (eb_eqI (ee_mod (ee_sub (ee_mul (ee_sub (ee_var 6) (ee_var 7)) (ee_var 4) (cmul_small (by omega) (by omega) (by omega) (by omega))) (ee_var 2)) (ee_var 3) (by omega)) ee_int))))) ?_) (fun t => ?_) (fun t => ss_nil ?_))
      · rfl
      · refine ss_1 (s1_if (eb_lt (ee_var 6) (ee_lenI W.len (ee_var 0))) (fun u => ?_) (fun u => ?_))
        · have u' := of_decide_eq_true u
          refine ss_1 (s1_item (k := c) (d := .int (gt (hs0 h) c + 1)) (ee_var 6) (ee_add (ee_var 7) ee_int) .int (by omega) (by rw [nts, List.length_map, hL]; exact u') ⟨by omega, ?_, _, _, _, rfl⟩)
          rw [hS]
          unfold lgs
          rw [if_pos t, if_pos u']
          unfold nts
          rw [List.map_set]
        · have u' := of_decide_eq_false u
          refine ss_1 (s1_append (d := .int 1) ee_int .int (by rw [nts, List.length_map, hL]; omega) ⟨by omega, ?_, _, _, _, rfl⟩)
          rw [hS]
          unfold lgs
          rw [if_pos t, if_neg u']
          unfold nts
          rw [List.map_append]
          rfl
      · refine ⟨by omega, ?_, _, _, _, rfl⟩
        rw [hS]
        unfold lgs
        rw [if_neg (by rw [t]; decide)]
  · rintro ρ1 mu1 ⟨_, rfl, o1, o2, o3, rfl⟩
    unfold nts
    rw [List.length_map, List.take_length]
    exact ss_1 (s1_ret (ee_tuple W.tuple ee_varM) rfl)
def lgf (L : List ((Int × Int) × Int)) : List Int := L.foldl (fun h p => lgr h p.1.1 p.1.2 p.2) []
theorem lgf_step {L : List ((Int × Int) × Int)} {i : Nat} {p : (Int × Int) × Int} (h : L[i]? = some p) : lgf (L.take (i + 1)) = lgr (lgf (L.take i)) p.1.1 p.1.2 p.2 := by
  rw [List.take_add_one, h]
  unfold lgf
  rw [List.foldl_append]
  rfl
def f__law_heap (ds : List D) (d : D) : Prop := ∃ c x, ds = [chD c, it x] ∧ (x.length = c.length ∧ c.length ≤ 30 ∧ (∀ r, r ∈ c → 2 ≤ r.1 ∧ r.1 ≤ 60 ∧ 0 ≤ r.2 ∧ r.2 ≤ 60) ∧ ∀ j, Sml (lgf ((c.zip x).take j))) ∧ d = it (lgf (c.zip x))
abbrev N__law_heap : List Str := ["_law_chain", "_law_x", "_law_heap_here", "_law_ring", "_law_place"]
theorem sc__law_heap : FnScope N__law_heap ["_law_chain", "_law_x"] (defScope (top 126)) := ⟨rfl, rfl, rfl, by decide +kernel, rfl, by decide +kernel, by decide +kernel⟩
theorem fd__law_heap (W : Wd mg) (D0 : Df K mg "_law_heap" (top 126)) (F__law_grown : Fd P w K mg base C 3 "_law_grown" f__law_grown) : Fd P w K mg base C 6 "_law_heap" f__law_heap := by
  refine Fd.mk (lv := 5) D0 sc__law_heap (fun _ _ _ _ _ _ us hl => match us, hl with | [_, _], _ => rfl) (by decide) (fun ds d hf => by obtain ⟨c, x, hds, _⟩ := hf; rw [hds]; rfl) fun fa cdv A outer s H E ds d hr hf => ?_
  obtain ⟨c, x, rfl, ⟨h0, h1, h2, h3⟩, rfl⟩ := hf
  have hz : (c.zip x).length = c.length := by rw [List.length_zip]; omega
  refine ss_c (s1_set 2 (d := it []) (ee_tup ea_no (by decide)) may0 ?_ sc__law_heap.nd)
  refine ss_c (s1_for (ds := (c.zip x).map fun p => .tup [rD p.1, .int p.2]) (fun i ρ mu => mu = none ∧ ∃ o1 o2, ρ = [some (chD c), some (it x), some (it (lgf ((c.zip x).take i))), o1, o2]) (zpp_map rD D.int c x ▸ ei_zip W.zip (es_tup (ee_var 0) (.inl rfl)) (es_tup (ee_var 1) (.inl rfl))) ⟨rfl, _, _, rfl⟩ [3, 4] ?_ ?_)
  · rintro i d ρ1 mu1 hd ⟨rfl, o1, o2, rfl⟩
    rw [List.getElem?_map] at hd
    cases z : (c.zip x)[i]? with
    | none => rw [z] at hd; cases hd
    | some p =>
      rw [z] at hd
      cases hd
      obtain ⟨r1, r2, r3, r4⟩ := h2 p.1 (List.of_mem_zip (List.mem_of_getElem? z)).1
      refine ⟨_, eg_tup (egs_c (eg_name 3 sc__law_heap.nd may0) (egs_c (eg_name 4 sc__law_heap.nd may0) egs_no)), ?_⟩
      exact ss_1 (s1_set 2 (d := it (lgf ((c.zip x).take (i + 1)))) (ee_call F__law_grown (hr.mono (by decide)) (ea_c (ee_var 2) (ea_c (ee_var 3) (ea_c (ee_var 4) ea_no))) ⟨_, _, _, _, rfl, ⟨h3 i, r1, r2, r3, r4⟩, by rw [lgf_step z]⟩) may0 ⟨rfl, _, _, rfl⟩ sc__law_heap.nd)
  · rintro ρ1 mu1 ⟨rfl, o1, o2, rfl⟩
    rw [List.length_map, List.take_length]
    exact ss_1 (s1_ret (ee_var 2) rfl)
end
end Dd
set_option maxHeartbeats 2000000
/-! The law's own defs: a drawn chain. Printed by gen/w19.py. -/
namespace Dd
open PySem PySem.Spec PyProof.Rows L2 Evl
section
variable {P : Program} {w : World} {K : PySem.W.Frag} {mg : Str → Option Value} {base : Heap} {C : Cs}

/-- the places that let the letters -/
def xof (L : List Int) (c : List (Int × Int)) : List Int := (L.zip c).map fun p => p.1 * p.2.2 % p.2.1
def chn (xs : List Int) (k : Int) (n : Nat) : List (Int × Int) := (List.range n).map (ecR xs k)
/-- what the law asks of a word and a chain of its order -/
structure CR (k : Int) (L : List Int) (c : List (Int × Int)) : Prop where
  od : Od k
  wo : Wo k L
  cw : Cw k L
  gm : Gm k (mir k L)
  vl : (gmd k (mir k L)).length = k.toNat
  ln : c.length = L.length
  ch : Ch0 c
  tp : Tp0 c (xof L c)
  gro : Gro c (xof L c)
  lt : Lt0 c (xof L c)
  co : Co k (cfold k L)
  heap : hfold (c.zip (xof L c)) = cfold k L
  sml : ∀ j, Sml (lgf ((c.zip (xof L c)).take j))
  heap2 : lgf (c.zip (xof L c)) = cfold k L
  chg : chs k (cfold k L) = cby k (gmd k (mir k L))
  rls : ltd c (xof L c) = L.map fun l => some (k, (0 - l) % k)
  win : ∀ t, -2 ≤ t → t ≤ 6 → wiF t (ltd c (xof L c)) (0 - k) k = (rgs (0 - k) (2 * k + 1).toNat).map fun i => vir (gmd k (mir k L)) i + t - c.length
  wsm : ∀ i, -k ≤ i → i ≤ k → -1000 ≤ vir (gmd k (mir k L)) i ∧ vir (gmd k (mir k L)) i ≤ 1000
def f__law_chain_right (xs : List Int) (ds : List D) (d : D) (ys : List Int) : Prop := ∃ k L m, ds = [.int k, it L] ∧ (Dc (m + 1 + 2 * (L.length : Int)) xs ∧ 0 ≤ m ∧ L.length ≤ 12 ∧ CR k L (chn xs k L.length)) ∧ d = .bl true ∧ ys = rs0 (ecD xs k L.length) 9
abbrev N__law_chain_right : List Str := ["_law_dice_here", "_law_k", "_law_word", "_law_chain", "_law_x", "_law_core", "_law_one", "_law_total", "_law_letter", "_law_n", "_law_s", "_law_i"]
theorem sc__law_chain_right : FnScope N__law_chain_right ["_law_dice_here", "_law_k", "_law_word"] (defScope (top 130)) := ⟨rfl, rfl, rfl, by decide +kernel, rfl, by decide +kernel, by decide +kernel⟩
theorem fd__law_chain_right (W : Wd mg) (D0 : Df K mg "_law_chain_right" (top 130)) (F__law_equal_chain : FdM P w K mg base C 12 "_law_equal_chain" f__law_equal_chain) (F__law_roll : FdM P w K mg base C 3 "_law_roll" f__law_roll) (F_made_by : Fd P w K mg base C 18 "made_by" f_made_by) (F_greedily_made : Fd P w K mg base C 24 "greedily_made" f_greedily_made) (F__law_mirrored : Fd P w K mg base C 3 "_law_mirrored" f__law_mirrored) (F_heap_of : Fd P w K mg base C 18 "heap_of" f_heap_of) (F__law_heap : Fd P w K mg base C 6 "_law_heap" f__law_heap) (F_charges : Fd P w K mg base C 15 "charges" f_charges) (F__law_charges_by : Fd P w K mg base C 12 "_law_charges_by" f__law_charges_by) (F_ring_letters : Fd P w K mg base C 18 "ring_letters" f_ring_letters) (F_window : Fd P w K mg base C 21 "window" f_window) {gc : Addr} (cO : StX.CallO K C.cls gc) (FC : Fg P w K mg base C 9 gc f_R__call__) : FdM P w K mg base C 27 "_law_chain_right" f__law_chain_right := by
  refine FdM.mk (lv := 26) D0 sc__law_chain_right (fun _ _ _ _ _ _ us hl => match us, hl with | [_, _, _], _ => rfl) (by decide) (fun xs ds d ys hf => by obtain ⟨k, L, m, hds, _⟩ := hf; rw [hds]; rfl) fun fa cdv A outer s H E l xs ds d ys hr hf => ?_
  obtain ⟨k, L, m, rfl, ⟨hd, hm, hL, q⟩, rfl, rfl⟩ := hf
  obtain ⟨k0, k1⟩ := id q.od
  have dr : Dc (m + 1) (ecD xs k L.length) := by
    have := Dc.rings (k := k) (m := m + 1) (by omega) k0 k1 L.length L.length hd (Nat.le_refl _)
    rwa [show m + 1 + 2 * ((L.length : Int) - (L.length : Int)) = m + 1 by omega] at this
  obtain ⟨hr1, _, v0, v1⟩ := dr.roll (n := 9) hm (by decide) (by decide)
  have hz : (L.zip (chn xs k L.length)).length = L.length := by rw [List.length_zip, q.ln]; omega
  have vl := q.vl
  have ln := q.ln
  have rg : ∀ p, p ∈ L.zip (chn xs k L.length) → (0 ≤ p.1 ∧ p.1 ≤ k - 1) ∧ Rg0 p.2 := fun p hp => ⟨q.wo.2 _ (List.of_mem_zip hp).1, q.ch.2 _ (List.of_mem_zip hp).2⟩
  generalize rl0 (ecD xs k L.length) 9 = rv at hr1 v0 v1
  refine ⟨.bl, ?_⟩
  refine ss_c (s1_setM 3 (d := chD (chn xs k L.length)) (EM.is (em_call F__law_equal_chain (hr.mono (by decide)) (eam_c (ee_lenI W.len (ee_var 2)) .int (eam_c (ee_var 1) .int eam_no)) ⟨(L.length : Int), k, m + 1, rfl, ⟨hd, by omega, by omega, by omega, k0, k1⟩, rfl, rfl⟩) (by show D.tup _ = D.tup _; unfold chn; rw [List.map_map]; rfl)) (by decide) ?_ sc__law_chain_right.nd)
  refine ss_mu (ds' := nts (ecD xs k L.length)) rfl ?_
  generalize chn xs k L.length = c at *
  refine ss_c (s1_set 4 (d := it (xof L c)) (EE.is (ee_tuple W.tuple (EL.ee (el_map (own := [("_law_letter", 8), ("_law_n", 9), ("_law_s", 10)]) (L.zip c) (fun p => .tup [.int p.1, rD p.2]) (fun p => .int (p.1 * p.2.2 % p.2.1)) (zpp_map D.int rD L c ▸ ei_zip W.zip (es_tup (ee_var 2) (.inr (im_it L))) (es_tup (ee_var 3) (.inr (.tup fun d q => by obtain ⟨_, _, rfl⟩ := List.mem_map.mp q; exact im_it [_, _])))) sc__law_chain_right.nd (blkOk_by (N := N__law_chain_right) (sc := defScope (top 130)) (by decide +kernel)) (by intro _ _ _ z; cases z; decide) (by omega) (fun p hp =>  turn_e (fun _ _ _ _ _ => (eg_tup (egs_c (eg_name 8 sc__law_chain_right.nd (mayI .int (by decide))) (egs_c (eg_tup (egs_c (eg_name 9 sc__law_chain_right.nd (mayI .int (by decide))) (egs_c (eg_name 10 sc__law_chain_right.nd (mayI .int (by decide))) egs_no))) egs_no)))) .int (fun _ _ _ _ _ => (ee_mod (ee_mul (ee_var 8) (ee_var 10) (by obtain ⟨⟨_, _⟩, ⟨_, _⟩, _, _⟩ := rg p hp; exact .inl ⟨by omega, by omega⟩)) (ee_var 9) (by obtain ⟨⟨_, _⟩, ⟨_, _⟩, _, _⟩ := rg p hp; omega))))))) (by unfold xof it; rw [List.map_map]; rfl)) (mayI (im_it _) (by decide)) ?_ sc__law_chain_right.nd)
  refine ss_c (s1_cel 5 6 (ee_call F_made_by (hr.mono (by decide)) (ea_c (ee_var 1) (ea_c (ee_var 2) ea_no)) ⟨_, _, rfl, ⟨q.wo, q.cw⟩, rfl⟩) (ee_call F_greedily_made (hr.mono (by decide)) (ea_c (ee_var 1) (ea_c (ee_tup (ea_c ee_int (ea_c (ee_call F__law_mirrored (hr.mono (by decide)) (ea_c (ee_var 1) (ea_c (ee_var 2) ea_no)) ⟨_, _, rfl, ⟨by omega, by omega⟩, rfl⟩) ea_no)) (by first | assumption | omega | decide | (simp only [nts, List.length_map, List.length_set] <;> omega) | (have hh_ := of_decide_eq_false h_; omega) | (have hh_ := of_decide_eq_true h_; omega) | (simp; done) | (simp <;> omega))) ea_no)) ⟨_, _, rfl, q.gm, rfl⟩) (mayI (im_it _) (by decide)) (mayI .rnd (by decide)) ?_ sc__law_chain_right.nd)
  refine ss_c (s1_setM 7 (d := .int (rv - 2)) (em_sub (em_call F__law_roll (hr.mono (by decide)) (eam_c ee_int .int eam_no) hr1) ee_int) (by decide) ?_ sc__law_chain_right.nd)
  refine ss_c (s1_if (t := false) (EB.is (eb_w (ew_or (eb_neI2 hr.units (ee_call F_heap_of (hr.mono (by decide)) (ea_c (ee_var 3) (ea_c (ee_var 4) ea_no)) ⟨_, _, rfl, ⟨q.ch, q.tp, q.gro⟩, rfl⟩) (ee_var 5)) (fun h_ => (ew_or (eb_neI2 hr.units (ee_var 5) (ee_call F__law_heap (hr.mono (by decide)) (ea_c (ee_var 3) (ea_c (ee_var 4) ea_no)) ⟨_, _, rfl, ⟨q.gro.1, q.gro.2.1, q.gro.2.2.1, q.sml⟩, rfl⟩)) (fun h_ => (ew_or1 (eb_neI2 hr.units (ee_call F_charges (hr.mono (by decide)) (ea_c (ee_var 1) (ea_c (ee_var 5) ea_no)) ⟨_, _, rfl, q.co, rfl⟩) (ee_call F__law_charges_by (hr.mono (by decide)) (ea_c (ee_var 1) (ea_c (ee_var 6) ea_no)) ⟨_, _, rfl, ⟨by omega, by omega, by omega⟩, rfl⟩)))))))) ?_) (by intro h; cases h) (fun _ => ss_nil ?_))
  · rw [q.heap, q.heap2, q.chg]; simp
  refine ss_c (s1_if (t := false) (EB.is (eb_neD (t := true) hr.units (ee_call F_ring_letters (hr.mono (by decide)) (ea_c (ee_var 3) (ea_c (ee_var 4) ea_no)) ⟨_, _, rfl, ⟨q.ch, q.tp, q.lt⟩, rfl⟩) (EE.is (ee_tuple W.tuple (EL.ee (el_map (own := [("_law_letter", 8)]) L (D.int) (fun l => it [k, (0 - l) % k]) (ei_src (es_tup (ee_var 2) (.inr (im_it L)))) sc__law_chain_right.nd (blkOk_by (N := N__law_chain_right) (sc := defScope (top 130)) (by decide +kernel)) (by intro _ _ _ z; cases z; decide) (by omega) (fun l hl =>  turn_e (fun _ _ _ _ _ => (eg_name 8 sc__law_chain_right.nd (mayI .int (by decide)))) (im_it [_, _]) (fun _ _ _ _ _ => (ee_tup (ea_c (ee_var 1) (ea_c (ee_mod (ee_sub ee_int (ee_var 8)) (ee_var 1) (by omega)) ea_no)) (by first | assumption | omega | decide | (simp only [nts, List.length_map, List.length_set] <;> omega) | (have hh_ := of_decide_eq_false h_; omega) | (have hh_ := of_decide_eq_true h_; omega) | (simp; done) | (simp <;> omega)))))))) rfl) ?_ ?_ ?_ ?_ ?_) rfl) (by intro h; cases h) (fun _ => ss_nil ?_))
  · rw [q.rls, List.map_map]
    exact (List.map_map (f := fun l => [k, (0 - l) % k]) (g := it) (l := L)) ▸ pl_its (L.map fun l => [k, (0 - l) % k])
  · exact (List.map_map (f := fun l => [k, (0 - l) % k]) (g := it) (l := L)) ▸ pl_its (L.map fun l => [k, (0 - l) % k])
  · rw [q.rls, List.map_map]
    exact (List.map_map (f := fun l => [k, (0 - l) % k]) (g := it) (l := L)) ▸ shp_its (L.map fun l => [k, (0 - l) % k])
  · exact (List.map_map (f := fun l => [k, (0 - l) % k]) (g := it) (l := L)) ▸ shp_its (L.map fun l => [k, (0 - l) % k])
  · rw [q.rls, List.map_map]
    have := eqv_its (L.map fun l => [k, (0 - l) % k]) (L.map fun l => [k, (0 - l) % k])
    rw [List.map_map, decide_eq_true rfl] at this
    exact this
  have hwin := q.win (rv - 2) (by omega) (by omega)
  refine ss_1 (s1_ret (EE.is (ee_eqI2 hr.units (ee_call F_window (hr.mono (by decide)) (ea_c (ee_var 3) (ea_c (ee_var 7) (ea_c (ee_var 4) (ea_c (ee_sub ee_int (ee_var 1)) (ea_c (ee_var 1) ea_no))))) ⟨c, rv - 2, xof L c, 0 - k, k, rfl, ⟨⟨q.ch, q.tp, q.lt, by unfold Sm; omega⟩, ⟨?_, ⟨by omega, by omega, by omega, by omega⟩, ?_⟩, ?_⟩, rfl⟩) (EE.is (d' := it ((rgs (0 - k) (2 * k + 1).toNat).map fun i => vir (gmd k (mir k L)) i + (rv - 2) - c.length)) (ee_tuple W.tuple (EL.ee (el_map (own := [("_law_i", 11)]) (rgs (0 - k) (2 * k + 1).toNat) (D.int) (fun i => .int (vir (gmd k (mir k L)) i + (rv - 2) - c.length)) (ei_src (es_rng2 (n := (2 * k + 1).toNat) W.range (ee_sub ee_int (ee_var 1)) (ee_add (ee_var 1) ee_int) (by omega) (by omega) (by omega) (by omega))) sc__law_chain_right.nd (blkOk_by (N := N__law_chain_right) (sc := defScope (top 130)) (by decide +kernel)) (by intro _ _ _ z; cases z; decide) (by rw [rgs_len]; omega) (fun i hi =>  turn_e (fun _ _ _ _ _ => (eg_name 11 sc__law_chain_right.nd (mayI .int (by decide)))) .int (fun _ _ _ _ _ => (ee_sub (ee_add (ee_callO cO FC (hr.mono (by decide)) (ee_var 6) (ea_c (ee_var 11) ea_no) .rnd ⟨_, _, rfl, ⟨by have := rgs_mem hi; unfold Sm; omega, by omega⟩, rfl⟩) (ee_var 7)) (EE.is (ee_lenT W.len (ee_var 3)) (by rw [List.length_map])))))))) (by unfold it; rw [List.map_map]; rfl))) (by rw [hwin]; simp)) ⟨rfl, rfl⟩)
  · rw [q.rls, List.length_map]; omega
  · intro p hp
    rw [q.rls] at hp
    obtain ⟨l, _, e⟩ := List.mem_map.mp hp
    cases e
    exact ⟨by show 0 < k; omega, k1⟩
  · intro v hv
    rw [hwin] at hv
    obtain ⟨i, hi, rfl⟩ := List.mem_map.mp hv
    have h1 := rgs_mem hi
    have h2 := q.wsm i (by omega) (by omega)
    unfold Sm
    omega
end
end Dd
set_option maxHeartbeats 2000000
/-! The law's own defs: drawn words. Printed by gen/w20.py. -/
namespace Dd
open PySem PySem.Spec PyProof.Rows L2 Evl
section
variable {P : Program} {w : World} {K : PySem.W.Frag} {mg : Str → Option Value} {base : Heap} {C : Cs}

abbrev WL := List Int × List Int
abbrev cof (k : Int) (a : WL) : List Int := cfold k a.1
abbrev lmo (k : Int) (a : WL) : List Int := gmd k (mir k a.2.reverse)
/-- what the law asks of one word; with it the letters that take its core away -/
structure LC (k : Int) (a : WL) : Prop where
  wo : Wo k a.1
  cw : Cw k a.1
  gm : Gm k (mir k a.1)
  co : Co k (cof k a)
  lt : lti k (cof k a) ≤ 30
  gw : Gw k (cof k a) a.2
  l9 : a.2.length ≤ 900
  gl : Gm k (mir k a.2.reverse)
  vl : (lmo k a).length = k.toNat
  fal : lti k (cof k a) = flv (lmo k a)
  chg : chs k (cof k a) = cby k (lmo k a)
/-- what greedy asks -/
structure GB (v1 v2 v : List Int) : Prop where
  ex : ∃ ls v2', (Tm v1 v2 ∧ (2 ≤ v2.length ∧ Wi v2 ls v2' ∧ ls.length ≤ 900 ∧ ∀ p : Int, p ∈ ls → 0 ≤ p ∧ p < v2.length) ∧ Rok (grd v1 v2' ls) ∧ flv (grd v1 v2' ls) ≤ 1000) ∧ v = grd v1 v2' ls
theorem GB.f {v1 v2 v : List Int} (h : GB v1 v2 v) : f_greedy [.rnd v1, .rnd v2] (.rnd v) := by
  obtain ⟨ls, v2', q, rfl⟩ := h.ex
  exact ⟨_, _, _, _, rfl, q, rfl⟩
structure PB (k : Int) (a b : WL) : Prop where
  tm : Tm (lmo k b) (lmo k a)
  sh : sh (lmo k b) ≤ sh (lmo k a)
  eq : hld (cof k a) (cof k b) = (mI (lmo k b) (lmo k a)).isNone
abbrev A3 (L1 L2 g1 g2 g3 : List Int) : List WL := [(L1, g1), (L2, g2), (L1 ++ L2, g3)]
structure LR (k : Int) (L1 L2 : List Int) (l : Int) (g1 g2 g3 bh : List Int) : Prop where
  od : 2 ≤ k ∧ k ≤ 6
  len : L1.length + L2.length ≤ 30
  lc : ∀ a, a ∈ A3 L1 L2 g1 g2 g3 → LC k a
  pb : ∀ a b, a ∈ A3 L1 L2 g1 g2 g3 → b ∈ A3 L1 L2 g1 g2 g3 → PB k a b
  gr : GB (gmd k (mir k L2)) (gmd k (mir k L1)) (gmd k (mir k (L1 ++ L2)))
  vl3 : (gmd k (mir k (L1 ++ L2))).length = k.toNat
  idl : (L1.length : Int) - (idl (cws k L1 L1.length)).length = flv (lmo k (L1, g1))
  gm1 : Gm k [(0 - l) % k]
  gbh : GB (gmd k [(0 - l) % k]) (lmo k (L1, g1)) bh
  wo : Wo k (L1 ++ [l])
  cw : Cw k (L1 ++ [l])
  idle : decide (cfold k (L1 ++ [l]) = cfold k L1) = decide (cby k bh = chs k (cfold k L1))
  bl : bh.length = k.toNat
  rb : Rok bh
  rt : Rok (tb bh)
  ft : flv (tb bh) ≤ 1000
  no : ¬ cfold k (L1 ++ [l]) = cfold k L1 → df (tb bh) ((0 - l) % k) = true
/-- a drawn word; a drawn chain -/
def VW (k : Int) (L : List Int) : Prop := (1 ≤ L.length ∧ L.length ≤ 9) ∧ ∀ l : Int, l ∈ L → 0 ≤ l ∧ l < k
def VC (k : Int) (c : List (Int × Int)) : Prop := ∀ r : Int × Int, r ∈ c → ∃ m s : Int, 1 ≤ m ∧ m ≤ 2 ∧ 1 ≤ s ∧ s < k ∧ Nat.gcd k.toNat s.toNat = 1 ∧ r = (k * m, m * s)
theorem stp_mem {k s : Int} (h : s ∈ stp k) : 1 ≤ s ∧ s < k ∧ Nat.gcd k.toNat s.toNat = 1 := by
  unfold stp at h
  have h1 := rgs_mem (List.mem_filter.mp h).1
  have h2 := of_decide_eq_true (List.mem_filter.mp h).2
  exact ⟨by omega, by omega, h2⟩
theorem Dc.mono {j k : Int} {xs : List Int} (h : Dc k xs) (z : j ≤ k) : Dc j xs := by
  obtain ⟨a, b, c, e, h1, h2, h3, h4, h5⟩ := h
  exact ⟨a, b, c, e, h1, h2, h3, h4, by omega⟩
theorem vc_chn {k m : Int} {xs : List Int} (hm : 0 ≤ m) (k0 : 2 ≤ k) (k1 : k ≤ 60) (n : Nat) (h : Dc (m + 2 * (n : Int)) xs) : VC k (chn xs k n) := by
  intro r hr
  obtain ⟨i, hi, rfl⟩ := List.mem_map.mp hr
  have hi' := List.mem_range.mp hi
  have d := Dc.rings (k := k) hm k0 k1 n i h (by omega)
  have d1 := (d.mono (j := m + 1 + 1) (by omega)).roll (n := 2) (by omega) (by decide) (by decide)
  have sl := stp_ne k0
  have d2 := d1.2.1.roll (n := (stp k).length) hm (by omega) (by have := stp_le k1; omega)
  have e := stp_mem (gt_mem d2.2.2.1 d2.2.2.2)
  exact ⟨rgM (ecD xs k i) 2, _, by unfold rgM; omega, by unfold rgM; omega, e.1, e.2.1, e.2.2, rfl⟩
/-- the dice behind i rolls -/
def rsI (xs : List Int) (k : Int) : Nat → List Int
  | 0 => xs
  | i + 1 => rs0 (rsI xs k i) k
def wrd (xs : List Int) (k : Int) (n : Nat) : List Int := (List.range n).map fun i => rl0 (rsI xs k i) k
theorem Dc.rolls {m k : Int} {xs : List Int} (hm : 0 ≤ m) (k0 : 0 < k) (k1 : k ≤ 1000) : ∀ (n i : Nat), Dc (m + n) xs → i ≤ n → Dc (m + ((n : Int) - (i : Int))) (rsI xs k i) := fun n i h => by
  induction i with
  | zero => intro _; show Dc _ xs; exact h.mono (by omega)
  | succ i ih =>
    intro hi
    exact ((ih (by omega)).mono (j := m + ((n : Int) - ((i + 1 : Nat) : Int)) + 1) (by omega)).roll (by omega) k0 k1 |>.2.1
theorem wrd_vw {m k : Int} {xs : List Int} (hm : 0 ≤ m) (k0 : 0 < k) (k1 : k ≤ 1000) {n : Nat} (h : Dc (m + n) xs) (n0 : 1 ≤ n) (n1 : n ≤ 9) : VW k (wrd xs k n) := by
  refine ⟨by simp [wrd]; omega, fun l hl => ?_⟩
  obtain ⟨i, hi, rfl⟩ := List.mem_map.mp hl
  have hi' := List.mem_range.mp hi
  exact (((Dc.rolls hm k0 k1 n i h (by omega)).mono (j := m + 1) (by omega)).roll hm k0 k1).2.2
theorem rng_g (n : Nat) : nts (rgs 0 n) = (List.range n).map fun i : Nat => D.int (0 + (i : Int)) := by unfold rgs nts; rw [List.map_map]; rfl
def lk (xs : List Int) : Int := 2 + rl0 xs 5
def ln1 (xs : List Int) : Int := 1 + rl0 (rs0 xs 5) 9
def la2 (xs : List Int) : List Int := rs0 (rs0 xs 5) 9
def lL1 (xs : List Int) : List Int := wrd (la2 xs) (lk xs) (ln1 xs).toNat
def la3 (xs : List Int) : List Int := rsI (la2 xs) (lk xs) (ln1 xs).toNat
def ln2 (xs : List Int) : Int := 1 + rl0 (la3 xs) 9
def la4 (xs : List Int) : List Int := rs0 (la3 xs) 9
def lL2 (xs : List Int) : List Int := wrd (la4 xs) (lk xs) (ln2 xs).toNat
def la5 (xs : List Int) : List Int := rsI (la4 xs) (lk xs) (ln2 xs).toNat
def la6 (xs : List Int) : List Int := rs0 (ecD (la5 xs) (lk xs) (lL1 xs).length) 9
def lrD (xs : List Int) : List Int := rs0 (la6 xs) (lk xs)
def f__law_right (xs : List Int) (ds : List D) (d : D) (ys : List Int) : Prop := ds = [] ∧ Dc 41 xs ∧ d = .bl true ∧ ys = lrD xs
theorem zip_self {α : Type} (L : List α) : L.zip L = L.map fun a => (a, a) := by
  induction L with
  | nil => rfl
  | cons a L ih => rw [List.zip_cons_cons, ih]; rfl
theorem at3 {α : Type} {A : List α} {i : Nat} (h : A.length = 3) (hi : i < 3) : ∃ a, a ∈ A ∧ ∀ f : α → D, L2.atI (A.map f) (0 + (i : Int)) = some (f a) := by
  refine ⟨A[i]'(by omega), List.getElem_mem _, fun f => ?_⟩
  refine atI_of (by omega) (by rw [List.length_map]; omega) ?_
  rw [List.getElem?_map, show (0 + (i : Int)).toNat = i by omega, List.getElem?_eq_getElem (by omega)]
  rfl
abbrev N__law_right : List Str := ["_law_dice_here", "_law_k", "_law_first", "_law_second", "_law_maps", "_law_cores", "_law_least", "_law_core", "_law_one", "_law_at", "_law_to", "_law_letter", "_law_behind", "_law_is_idle", "_law_turn", "_law_word"]
theorem sc__law_right : FnScope N__law_right ["_law_dice_here"] (defScope (top 131)) := ⟨rfl, rfl, rfl, by decide +kernel, rfl, by decide +kernel, by decide +kernel⟩
theorem fd__law_right (W : Wd mg) (D0 : Df K mg "_law_right" (top 131)) (F__law_roll : FdM P w K mg base C 3 "_law_roll" f__law_roll) (F__law_chain_right : FdM P w K mg base C 27 "_law_chain_right" f__law_chain_right) (F_greedily_made : Fd P w K mg base C 24 "greedily_made" f_greedily_made) (F__law_mirrored : Fd P w K mg base C 3 "_law_mirrored" f__law_mirrored) (F_greedy : Fd P w K mg base C 24 "greedy" f_greedy) (F_made_by : Fd P w K mg base C 18 "made_by" f_made_by) (F__law_least_map : Fd P w K mg base C 27 "_law_least_map" f__law_least_map) (F_letters_of : Fd P w K mg base C 15 "letters_of" f_letters_of) (F_charges : Fd P w K mg base C 15 "charges" f_charges) (F__law_charges_by : Fd P w K mg base C 12 "_law_charges_by" f__law_charges_by) (F_idle_letters : Fd P w K mg base C 18 "idle_letters" f_idle_letters) (F_is_held : Fd P w K mg base C 18 "is_held" f_is_held) (F_is_below : Fd P w K mg base C 15 "is_below" f_is_below) (F_does_nothing : Fd P w K mg base C 12 "does_nothing" f_does_nothing) (R : Rd0 K mg C) {ge : Addr} (he1 : PySem.W.findIn K (.ref C.cls) "__eq__" = some (some (.ref ge))) (he2 : PySem.W.isFn K (.ref ge) = true) (FE : Fg P w K mg base C 9 ge f_R__eq__) {gi : Addr} (hi1 : PySem.W.findIn K (.ref C.cls) "__invert__" = some (some (.ref gi))) (hi2 : PySem.W.isFn K (.ref gi) = true) (FI : Fg P w K mg base C 24 gi f_R__invert__) {gf gq : Addr} (hf1 : PySem.W.findIn K (.ref C.cls) "falls" = some (some (.ref gq))) (hf2 : PySem.W.specialIn K (.ref gq) "__get__" = some (some (.builtin "property.__get__"))) (hf3 : PySem.W.takesIn K (.ref gq) = some true) (hf4 : ∃ rest, PySem.W.recIn K gq "property" = some (.ref gf :: rest)) (FF : Fg P w K mg base C 9 gf f_Rfalls) (MT1 : ∀ k L c, 2 ≤ k → k ≤ 6 → VW k L → VC k c → c.length = L.length → CR k L c) (MT2 : ∀ k L1 L2 l, 2 ≤ k → k ≤ 6 → VW k L1 → VW k L2 → 0 ≤ l → l < k → ∃ g1 g2 g3 bh, LR k L1 L2 l g1 g2 g3 bh) : FdM P w K mg base C 30 "_law_right" f__law_right := by
  refine FdM.mk (lv := 29) D0 sc__law_right (fun _ _ _ _ _ _ us hl => match us, hl with | [_], _ => rfl) (by decide) (fun xs ds d ys hf => by obtain ⟨hds, _⟩ := hf; rw [hds]; rfl) fun fa cdv A outer s H E l xs ds d ys hr hf => ?_
  obtain ⟨rfl, hd, rfl, rfl⟩ := hf
  obtain ⟨r1, d1, u0, u1⟩ := Dc.roll (k := 40) (n := 5) hd (by decide) (by decide) (by decide)
  obtain ⟨r2, d2, u2, u3⟩ := Dc.roll (k := 39) (n := 9) d1 (by decide) (by decide) (by decide)
  have k0 : 2 ≤ lk xs := by unfold lk; omega
  have k1 : lk xs ≤ 6 := by unfold lk; omega
  have n0 : 1 ≤ ln1 xs := by unfold ln1; omega
  have n1 : ln1 xs ≤ 9 := by unfold ln1; omega
  have d2' : Dc (30 + (((ln1 xs).toNat : Nat) : Int)) (la2 xs) := Dc.mono d2 (by omega)
  have rr1 := fun i hi => Dc.rolls (k := lk xs) (by decide) (by omega) (by omega) (ln1 xs).toNat i d2' hi
  have w1 : VW (lk xs) (lL1 xs) := wrd_vw (by decide) (by omega) (by omega) d2' (by omega) (by omega)
  have d3 : Dc 30 (la3 xs) := (rr1 _ (Nat.le_refl _)).mono (by omega)
  obtain ⟨r3, d4, u4, u5⟩ := Dc.roll (k := 29) (n := 9) d3 (by decide) (by decide) (by decide)
  have n2 : 1 ≤ ln2 xs := by unfold ln2; omega
  have n3 : ln2 xs ≤ 9 := by unfold ln2; omega
  have d4' : Dc (20 + (((ln2 xs).toNat : Nat) : Int)) (la4 xs) := Dc.mono d4 (by omega)
  have rr2 := fun i hi => Dc.rolls (k := lk xs) (by decide) (by omega) (by omega) (ln2 xs).toNat i d4' hi
  have w2 : VW (lk xs) (lL2 xs) := wrd_vw (by decide) (by omega) (by omega) d4' (by omega) (by omega)
  have d5 : Dc 20 (la5 xs) := (rr2 _ (Nat.le_refl _)).mono (by omega)
  have l1 : (lL1 xs).length = (ln1 xs).toNat := by simp [lL1, wrd]
  have l2 : (lL2 xs).length = (ln2 xs).toNat := by simp [lL2, wrd]
  have d5' : Dc (1 + 1 + 2 * ((lL1 xs).length : Int)) (la5 xs) := d5.mono (by omega)
  have cr := MT1 (lk xs) (lL1 xs) (chn (la5 xs) (lk xs) (lL1 xs).length) k0 k1 w1 (vc_chn (m := 1 + 1) (by decide) k0 (by omega) _ d5') (by simp [chn])
  have d6 : Dc 1 (la6 xs) := by
    have := Dc.rings (k := lk xs) (m := 1 + 1) (by decide) k0 (by omega) _ _ d5' (Nat.le_refl _)
    exact ((this.mono (j := 1 + 1) (by omega)).roll (n := 9) (by decide) (by decide) (by decide)).2.1
  obtain ⟨r4, d7, u6, u7⟩ := Dc.roll (k := 0) (n := lk xs) d6 (by decide) (by omega) (by omega)
  refine ⟨.bl, ?_⟩
  refine ss_c (s1_setM 1 (d := .int (lk xs)) (em_add ee_int (em_call F__law_roll (hr.mono (by decide)) (eam_c ee_int .int eam_no) r1)) (by decide) ?_ sc__law_right.nd)
  refine ss_c (s1_setM 2 (d := it (lL1 xs)) (EM.is (em_tuple W.tuple (em_lc (own := [("_law_turn", 14)]) (ln1 xs).toNat (fun i => .int (0 + (i : Int))) (fun i => .int (rl0 (rsI (la2 xs) (lk xs) i) (lk xs))) (rsI (la2 xs) (lk xs)) (rng_g (ln1 xs).toNat ▸ eim_rng1 W.range (em_add ee_int (em_call F__law_roll (hr.mono (by decide)) (eam_c ee_int .int eam_no) r2)) rfl (by show 0 ≤ ln1 xs; omega) (by show ln1 xs ≤ _; omega)) sc__law_right.nd (blkOk_by (N := N__law_right) (sc := defScope (top 131)) (by decide +kernel)) (by decide) (by omega)
    (fun i hi => ⟨_, (fun _ _ _ _ _ => (eg_name 14 sc__law_right.nd (mayI .int (by decide)))), .int, fun _ _ _ _ _ => em_call F__law_roll (hr.mono (by decide)) (eam_c (ee_var 1) .int eam_no) ((rr1 i (by omega)).mono (j := 0 + 1) (by omega) |>.roll (by decide) (by omega) (by omega)).1⟩))) (by unfold lL1 wrd it; rw [List.map_map]; rfl)) (by decide) ?_ sc__law_right.nd)
  refine ss_mu (ds' := nts (la3 xs)) rfl ?_
  refine ss_c (s1_setM 3 (d := it (lL2 xs)) (EM.is (em_tuple W.tuple (em_lc (own := [("_law_turn", 14)]) (ln2 xs).toNat (fun i => .int (0 + (i : Int))) (fun i => .int (rl0 (rsI (la4 xs) (lk xs) i) (lk xs))) (rsI (la4 xs) (lk xs)) (rng_g (ln2 xs).toNat ▸ eim_rng1 W.range (em_add ee_int (em_call F__law_roll (hr.mono (by decide)) (eam_c ee_int .int eam_no) r3)) rfl (by show 0 ≤ ln2 xs; omega) (by show ln2 xs ≤ _; omega)) sc__law_right.nd (blkOk_by (N := N__law_right) (sc := defScope (top 131)) (by decide +kernel)) (by decide) (by omega)
    (fun i hi => ⟨_, (fun _ _ _ _ _ => (eg_name 14 sc__law_right.nd (mayI .int (by decide)))), .int, fun _ _ _ _ _ => em_call F__law_roll (hr.mono (by decide)) (eam_c (ee_var 1) .int eam_no) ((rr2 i (by omega)).mono (j := 0 + 1) (by omega) |>.roll (by decide) (by omega) (by omega)).1⟩))) (by unfold lL2 wrd it; rw [List.map_map]; rfl)) (by decide) ?_ sc__law_right.nd)
  refine ss_mu (ds' := nts (la5 xs)) rfl ?_
  refine ss_c (s1_ifNM (t := true) (em_call F__law_chain_right (hr.mono (by decide)) (eam_c (ee_var 1) .int (eam_c (ee_var 2) (im_it _) eam_no)) ⟨lk xs, lL1 xs, 1, rfl, ⟨d5', by decide, by omega, cr⟩, rfl, rfl⟩) (by intro h; cases h) (fun _ => ss_nil ?_))
  refine ss_mu (ds' := nts (la6 xs)) rfl ?_
  obtain ⟨g1, g2, g3, bh, q⟩ := MT2 (lk xs) (lL1 xs) (lL2 xs) (rl0 (la6 xs) (lk xs)) k0 k1 w1 w2 u6 u7
  show SS _ C [none, some (.int (lk xs)), some (it (lL1 xs)), some (it (lL2 xs)), none, none, none, none, none, none, none, none, none, none, none, none] (some (l, 0, nts (la6 xs))) _ _
  show SS _ C _ _ _ ⟨fun _ _ => False, fun d' mu' => d' = .bl true ∧ mu' = some (l, 0, nts (rs0 (la6 xs) (lk xs)))⟩
  generalize lk xs = k at *
  generalize lL1 xs = L1 at *
  generalize lL2 xs = L2 at *
  generalize rs0 (la6 xs) k = ys at *
  generalize rl0 (la6 xs) k = lt at *
  generalize la6 xs = zs at *
  clear cr rr1 rr2 d2' d4' d5'
  have c1 := q.lc (L1, g1) (by simp)
  have c2 := q.lc (L2, g2) (by simp)
  have c3 := q.lc (L1 ++ L2, g3) (by simp)
  have ln := q.len
  refine ss_c (s1_setL 4 (el_map (own := [("_law_word", 15)]) [L1, L2, L1 ++ L2] (it) (fun x => .rnd (gmd k (mir k x))) (ei_src (es_tup (EE.is (ee_tup (ea_c (ee_var 2) (ea_c (ee_var 3) (ea_c (ee_cat (ee_var 2) (ee_var 3) (by rw [List.length_map, List.length_map]; omega)) ea_no))) (by simp)) (d' := .tup ([L1, L2, L1 ++ L2].map it)) (by simp [it])) (.inr (.tup fun d q => by obtain ⟨_, _, rfl⟩ := List.mem_map.mp q; exact im_it _)))) sc__law_right.nd (blkOk_by (N := N__law_right) (sc := defScope (top 131)) (by decide +kernel)) (by intro _ _ _ z; cases z; decide) (by simp) (fun x hx => by
    have hq : ∃ z, LC k (x, z) := by
      rcases List.mem_cons.mp hx with rfl | hx
      · exact ⟨_, c1⟩
      · rcases List.mem_cons.mp hx with rfl | hx
        · exact ⟨_, c2⟩
        · rw [List.mem_singleton.mp hx]; exact ⟨_, c3⟩
    obtain ⟨z, cz⟩ := hq
    exact  turn_e (fun _ _ _ _ _ => (eg_name 15 sc__law_right.nd (mayI (im_it _) (by decide)))) .rnd (fun _ _ _ _ _ => (ee_call F_greedily_made (hr.mono (by decide)) (ea_c (ee_var 1) (ea_c (ee_tup (ea_c ee_int (ea_c (ee_call F__law_mirrored (hr.mono (by decide)) (ea_c (ee_var 1) (ea_c (ee_var 15) ea_no)) ⟨_, _, rfl, ⟨by omega, by have := cz.wo.1; omega⟩, rfl⟩) ea_no)) (by first | assumption | omega | decide | (simp only [nts, List.length_map, List.length_set] <;> omega) | (have hh_ := of_decide_eq_false h_; omega) | (have hh_ := of_decide_eq_true h_; omega) | (simp; done) | (simp <;> omega))) ea_no)) ⟨_, _, rfl, cz.gm, rfl⟩)))) (fun d q => by obtain ⟨_, _, rfl⟩ := List.mem_map.mp q; exact .rnd) (fun _ _ _ z => by cases z; decide) ?_)
  refine ss_c (s1_if (t := false) (EB.is (eb_neR (t := true) R he1 he2 FE (hr.mono (by decide)) (ee_call F_greedy (hr.mono (by decide)) (ea_c (ee_ixL (ee_var 4) ee_int rfl) (ea_c (ee_ixL (ee_var 4) ee_int rfl) ea_no)) q.gr.f) (ee_ixL (ee_var 4) ee_int rfl) ⟨_, _, rfl, ⟨⟨by have := q.vl3; omega, by have := q.vl3; omega⟩, rfl⟩, by rw [decide_eq_true rfl]⟩) rfl) (by intro h; cases h) (fun _ => ss_nil ?_))
  refine ss_c (s1_setL 5 (ds := (A3 L1 L2 g1 g2 g3).map fun a => it (cof k a)) (EL.is (el_map (own := [("_law_word", 15)]) [L1, L2, L1 ++ L2] (it) (fun x => it (cfold k x)) (ei_src (es_tup (EE.is (ee_tup (ea_c (ee_var 2) (ea_c (ee_var 3) (ea_c (ee_cat (ee_var 2) (ee_var 3) (by rw [List.length_map, List.length_map]; omega)) ea_no))) (by simp)) (d' := .tup ([L1, L2, L1 ++ L2].map it)) (by simp [it])) (.inr (.tup fun d q => by obtain ⟨_, _, rfl⟩ := List.mem_map.mp q; exact im_it _)))) sc__law_right.nd (blkOk_by (N := N__law_right) (sc := defScope (top 131)) (by decide +kernel)) (by intro _ _ _ z; cases z; decide) (by simp) (fun x hx => by
    have hq : ∃ z, LC k (x, z) := by
      rcases List.mem_cons.mp hx with rfl | hx
      · exact ⟨_, c1⟩
      · rcases List.mem_cons.mp hx with rfl | hx
        · exact ⟨_, c2⟩
        · rw [List.mem_singleton.mp hx]; exact ⟨_, c3⟩
    obtain ⟨z, cz⟩ := hq
    exact  turn_e (fun _ _ _ _ _ => (eg_name 15 sc__law_right.nd (mayI (im_it _) (by decide)))) (im_it _) (fun _ _ _ _ _ => (ee_call F_made_by (hr.mono (by decide)) (ea_c (ee_var 1) (ea_c (ee_var 15) ea_no)) ⟨_, _, rfl, ⟨cz.wo, cz.cw⟩, rfl⟩)))) rfl) (fun d q => by obtain ⟨_, _, rfl⟩ := List.mem_map.mp q; exact im_it _) (fun _ _ _ z => by cases z; decide) ?_)
  refine ss_c (s1_setL 6 (ds := (A3 L1 L2 g1 g2 g3).map fun a => .rnd (lmo k a)) (el_map (own := [("_law_core", 7)]) (A3 L1 L2 g1 g2 g3) (fun a => it (cof k a)) (fun a => .rnd (lmo k a)) (ei_src (es_var 5)) sc__law_right.nd (blkOk_by (N := N__law_right) (sc := defScope (top 131)) (by decide +kernel)) (by intro _ _ _ z; cases z; decide) (by simp) (fun x hx =>  turn_e (fun _ _ _ _ _ => (eg_name 7 sc__law_right.nd (mayI (im_it _) (by decide)))) .rnd (fun _ _ _ _ _ => (ee_call F__law_least_map (hr.mono (by decide)) (ea_c (ee_var 1) (ea_c (ee_var 7) ea_no)) ⟨_, _, _, rfl, ⟨⟨⟨(q.lc x hx).co, (q.lc x hx).lt⟩, (q.lc x hx).gw, (q.lc x hx).l9⟩, (q.lc x hx).gl⟩, rfl⟩)))) (fun d q => by obtain ⟨_, _, rfl⟩ := List.mem_map.mp q; exact .rnd) (fun _ _ _ z => by cases z; decide) ?_)
  have hA : (A3 L1 L2 g1 g2 g3).length = 3 := rfl
  refine ss_c (s1_for (ds := ((A3 L1 L2 g1 g2 g3).zip (A3 L1 L2 g1 g2 g3)).map fun p => .tup [it (cof k p.1), .rnd (lmo k p.2)]) (fun i ρ mu => mu = some (l, 0, nts zs) ∧ ∃ o1 o2, ρ = [none, some (.int k), some (it L1), some (it L2), some (.lst ([L1, L2, L1 ++ L2].map fun x => .rnd (gmd k (mir k x)))), some (.lst ((A3 L1 L2 g1 g2 g3).map fun a => it (cof k a))), some (.lst ((A3 L1 L2 g1 g2 g3).map fun a => .rnd (lmo k a))), o1, o2, none, none, none, none, none, none, none]) (zpp_map (fun a => it (cof k a)) (fun a => D.rnd (lmo k a)) (A3 L1 L2 g1 g2 g3) (A3 L1 L2 g1 g2 g3) ▸ ei_zip W.zip (es_var 5) (es_var 6)) ⟨rfl, _, _, rfl⟩ [7, 8] ?_ ?_)
  · rintro i d ρ1 mu1 hd ⟨rfl, o1, o2, rfl⟩
    rw [List.getElem?_map] at hd
    cases z : ((A3 L1 L2 g1 g2 g3).zip (A3 L1 L2 g1 g2 g3))[i]? with
    | none => rw [z] at hd; cases hd
    | some p =>
      rw [z] at hd
      cases hd
      have hp : p.1 = p.2 ∧ p.1 ∈ (A3 L1 L2 g1 g2 g3) := by
        have := List.mem_of_getElem? z
        rw [zip_self] at this
        obtain ⟨a, ha, rfl⟩ := List.mem_map.mp this
        exact ⟨rfl, ha⟩
      obtain ⟨p, p'⟩ := p
      obtain ⟨e, hp⟩ := hp
      have e : p = p' := e
      subst e
      have hp : p ∈ (A3 L1 L2 g1 g2 g3) := hp
      have cz := q.lc p hp
      have vz := cz.vl
      refine ⟨_, eg_tup (egs_c (eg_name 7 sc__law_right.nd (mayI (im_it _) (by decide))) (egs_c (eg_name 8 sc__law_right.nd (mayI .rnd (by decide))) egs_no)), ?_⟩
      refine ss_1 (s1_if (t := false) (EB.is (eb_w (ew_or (eb_neI (ee_call F_letters_of (hr.mono (by decide)) (ea_c (ee_var 1) (ea_c (ee_var 7) ea_no)) ⟨_, _, rfl, cz.co, rfl⟩) (ee_prop R hf1 hf2 hf3 hf4 FF (hr.mono (by decide)) (ee_var 8) ⟨lmo k p, rfl, ⟨by omega, by omega⟩, rfl⟩)) (fun h_ => (ew_or1 (eb_neI2 hr.units (ee_call F_charges (hr.mono (by decide)) (ea_c (ee_var 1) (ea_c (ee_var 7) ea_no)) ⟨_, _, rfl, cz.co, rfl⟩) (ee_call F__law_charges_by (hr.mono (by decide)) (ea_c (ee_var 1) (ea_c (ee_var 8) ea_no)) ⟨k, lmo k p, rfl, ⟨by omega, by omega, by omega⟩, rfl⟩)))))) ?_) (by intro h; cases h) (fun _ => ss_nil ⟨rfl, _, _, rfl⟩))
      rw [cz.fal, cz.chg]
      simp
  rintro ρ1 mu1 ⟨rfl, o1, o2, rfl⟩
  refine ss_c (s1_if (t := false) (EB.is (eb_neI (ee_sub (ee_lenI W.len (ee_var 2)) (ee_lenI W.len (ee_call F_idle_letters (hr.mono (by decide)) (ea_c (ee_var 1) (ea_c (ee_var 2) ea_no)) ⟨_, _, rfl, ⟨c1.wo, c1.cw⟩, rfl⟩))) (ee_prop R hf1 hf2 hf3 hf4 FF (hr.mono (by decide)) (ee_ixL (ee_var 6) ee_int rfl) ⟨_, rfl, ⟨by have := c1.vl; omega, by have := c1.vl; omega⟩, rfl⟩)) ?_) (by intro h; cases h) (fun _ => ss_nil ?_))
  · rw [q.idl]; simp
  refine ss_c (s1_for (ds := nts (rgs 0 3)) (fun i ρ mu => mu = some (l, 0, nts zs) ∧ ∃ o3 o4, ρ = [none, some (.int k), some (it L1), some (it L2), some (.lst ([L1, L2, L1 ++ L2].map fun x => .rnd (gmd k (mir k x)))), some (.lst ((A3 L1 L2 g1 g2 g3).map fun a => it (cof k a))), some (.lst ((A3 L1 L2 g1 g2 g3).map fun a => .rnd (lmo k a))), o1, o2, o3, o4, none, none, none, none, none]) (ei_src (es_rng1 (n := 3) W.range ee_int rfl (by decide) (by decide))) ⟨rfl, _, _, rfl⟩ [9] ?_ ?_)
  · rintro i d ρ1 mu1 hd ⟨rfl, o3, o4, rfl⟩
    obtain ⟨hi, rfl⟩ := rgs_get hd
    obtain ⟨a, ha, ia⟩ := at3 (A := (A3 L1 L2 g1 g2 g3)) rfl hi
    refine ⟨_, eg_name 9 sc__law_right.nd (mayI .int (by decide)), ?_⟩
    refine ss_1 (s1_for (ds := nts (rgs 0 3)) (fun j ρ mu => mu = some (l, 0, nts zs) ∧ ∃ o4, ρ = [none, some (.int k), some (it L1), some (it L2), some (.lst ([L1, L2, L1 ++ L2].map fun x => .rnd (gmd k (mir k x)))), some (.lst ((A3 L1 L2 g1 g2 g3).map fun a => it (cof k a))), some (.lst ((A3 L1 L2 g1 g2 g3).map fun a => .rnd (lmo k a))), o1, o2, some (.int (0 + (i : Int))), o4, none, none, none, none, none]) (ei_src (es_rng1 (n := 3) W.range ee_int rfl (by decide) (by decide))) ⟨rfl, _, rfl⟩ [10] ?_ ?_)
    · rintro j d ρ1 mu1 hd ⟨rfl, o4, rfl⟩
      obtain ⟨hj, rfl⟩ := rgs_get hd
      obtain ⟨b, hb, ib⟩ := at3 (A := (A3 L1 L2 g1 g2 g3)) rfl hj
      have pb := q.pb a b ha hb
      refine ⟨_, eg_name 10 sc__law_right.nd (mayI .int (by decide)), ?_⟩
      refine ss_1 (s1_if (t := false) (EB.is (eb_neB (ee_call F_is_held (hr.mono (by decide)) (ea_c (ee_ixL (ee_var 5) (ee_var 9) (ia fun a => it (cof k a))) (ea_c (ee_ixL (ee_var 5) (ee_var 10) (ib fun a => it (cof k a))) ea_no)) ⟨_, _, rfl, ⟨(q.lc a ha).co.2.1, (q.lc b hb).co.2.1⟩, rfl⟩) (ee_call F_is_below (hr.mono (by decide)) (ea_c (ee_ixL (ee_var 6) (ee_var 10) (ib fun a => .rnd (lmo k a))) (ea_c (ee_ixL (ee_var 6) (ee_var 9) (ia fun a => .rnd (lmo k a))) ea_no)) ⟨_, _, rfl, ⟨pb.tm, pb.sh⟩, rfl⟩)) ?_) (by intro h; cases h) (fun _ => ss_nil ⟨rfl, _, rfl⟩))
      rw [pb.eq]
      simp
    · rintro ρ1 mu1 ⟨rfl, o4, rfl⟩
      exact ⟨rfl, _, _, rfl⟩
  rintro ρ1 mu1 ⟨rfl, o3, o4, rfl⟩
  refine ss_c (s1_setM 11 (d := .int lt) (em_call F__law_roll (hr.mono (by decide)) (eam_c (ee_var 1) .int eam_no) r4) (by decide) ?_ sc__law_right.nd)
  refine ss_c (s1_set 12 (d := .rnd bh) (ee_call F_greedy (hr.mono (by decide)) (ea_c (ee_call F_greedily_made (hr.mono (by decide)) (ea_c (ee_var 1) (ea_c (ee_tup (ea_c ee_int (ea_c (ee_tup (ea_c (ee_mod (ee_sub ee_int (ee_var 11)) (ee_var 1) (by omega)) ea_no) (by first | assumption | omega | decide | (simp only [nts, List.length_map, List.length_set] <;> omega) | (have hh_ := of_decide_eq_false h_; omega) | (have hh_ := of_decide_eq_true h_; omega) | (simp; done) | (simp <;> omega))) ea_no)) (by first | assumption | omega | decide | (simp only [nts, List.length_map, List.length_set] <;> omega) | (have hh_ := of_decide_eq_false h_; omega) | (have hh_ := of_decide_eq_true h_; omega) | (simp; done) | (simp <;> omega))) ea_no)) ⟨_, [(0 - lt) % k], rfl, q.gm1, rfl⟩) (ea_c (ee_ixL (ee_var 6) ee_int rfl) ea_no)) q.gbh.f) (mayI .rnd (by decide)) ?_ sc__law_right.nd)
  refine ss_c (s1_set 13 (d := .bl (decide (cfold k (L1 ++ [lt]) = cfold k L1))) (ee_eqI2 hr.units (ee_call F_made_by (hr.mono (by decide)) (ea_c (ee_var 1) (ea_c (EE.is (d' := it (L1 ++ [lt])) (ee_cat (ee_var 2) (ee_tup (ea_c (ee_var 11) ea_no) (by simp)) (by rw [List.length_map]; simp; omega)) (by simp [it])) ea_no)) ⟨_, _, rfl, ⟨q.wo, q.cw⟩, rfl⟩) (ee_ixL (ee_var 5) ee_int rfl)) (mayI .bl (by decide)) ?_ sc__law_right.nd)
  refine ss_c (s1_if (t := false) (EB.is (eb_neB (ee_var 13) (ee_eqI2 hr.units (ee_call F__law_charges_by (hr.mono (by decide)) (ea_c (ee_var 1) (ea_c (ee_var 12) ea_no)) ⟨_, _, rfl, ⟨by omega, by omega, by have := q.bl; omega⟩, rfl⟩) (ee_call F_charges (hr.mono (by decide)) (ea_c (ee_var 1) (ea_c (ee_ixL (ee_var 5) ee_int rfl) ea_no)) ⟨_, _, rfl, c1.co, rfl⟩))) ?_) (by intro h; cases h) (fun _ => ss_nil ?_))
  · rw [q.idle]; simp
  have hm0 := Int.emod_nonneg (0 - lt) (show k ≠ 0 by omega)
  have hm1 := Int.emod_lt_of_pos (0 - lt) (show 0 < k by omega)
  have bl := q.bl
  have tl : (tb bh).length = bh.length := by simp [tb, rgs]
  refine ss_1 (s1_ret (EE.is (ee_or (ee_var 13) (fun h_ => (ee_one (ee_call F_does_nothing (hr.mono (by decide)) (ea_c (ee_invR hi1 hi2 FI (hr.mono (by decide)) (ee_var 12) ⟨_, rfl, ⟨q.rb, q.rt⟩, rfl⟩) (ea_c (ee_mod (ee_sub ee_int (ee_var 11)) (ee_var 1) (by omega)) ea_no)) ⟨_, _, rfl, ⟨⟨by omega, by omega⟩, by omega, ⟨hm0, by omega⟩, q.ft⟩, rfl⟩)))) ?_) ⟨rfl, rfl⟩)
  by_cases hh : cfold k (L1 ++ [lt]) = cfold k L1
  · rw [decide_eq_true hh]; rfl
  · rw [decide_eq_false hh, q.no hh]; rfl
end
end Dd
set_option maxHeartbeats 2000000
/-! A def that writes its list, called with a list just handed out. -/
namespace Dd
open PySem PySem.Spec PyProof.Rows L2 Evl
theorem ex_hole {H H' : Hp} {p : Addr} {j : Nat} {ds : List D} (x : Ex H H') (h : H p = none) : Ex H (hole H' (some (p, j, ds))) where
  get := fun a o ha n => (hole_at fun e => by rw [← Option.some.inj (show some p = some a from e), h] at ha; cases ha).trans (x.get a o ha n)
  dom := fun a o ha => let ⟨o', h'⟩ := x.dom a o ha; ⟨o', (hole_at fun e => by rw [← Option.some.inj (show some p = some a from e), h] at ha; cases ha).trans h'⟩
  tab := fun a ⟨ps, ha, t⟩ => let ⟨qs, h', t'⟩ := x.tab a ⟨ps, ha, t⟩; ⟨qs, (hole_at fun e => by rw [← Option.some.inj (show some p = some a from e), h] at ha; cases ha).trans h', t'⟩
section
variable {X : Cx} {C : Cs} {ρ : Rho} {e : Expr} {es : List Expr} {ds : List D} {d : D} {pos p p2 pos2 : Pos} {xs ys : List Int}
theorem ee_callMN {lv lv2 : Nat} {x y : Str} {f : List Int → List D → D → List Int → Prop} {f2 : List D → List Int → Prop} (F : FdM X.prog X.w X.K X.mg X.base C lv x f) (hr : Room lv X.A) (F2 : FdN X.prog X.w X.K X.mg X.base C lv2 y f2) (hr2 : Room lv2 X.A)
    (ha : EA X C ρ none (e :: es) ds) (h2 : f2 ds xs) (hf : f xs [] d ys) (im : Im d) (hg : Gl X x := by rfl) (hdb : (x == ("__debug__" : Str)) = false := by decide) (hg2 : Gl X y := by rfl) (hdb2 : (y == ("__debug__" : Str)) = false := by decide)
    (he : starEach (e :: es) X.env = (false, eval e X.env) :: starEach es X.env := by rfl) (hpl : (backTo pos2 (starEach es X.env)).any (·.1) = false := by rfl)
    (he2 : starEach [.Call (.Name y p2) (e :: es) [] pos2] X.env = (false, eval (.Call (.Name y p2) (e :: es) [] pos2) X.env) :: starEach [] X.env := by rfl) (hpl2 : (backTo pos (starEach [] X.env)).any (·.1) = false := by rfl) :
    EE X C ρ none (.Call (.Name x p) [.Call (.Name y p2) (e :: es) [] pos2] [] pos) d := by
  obtain ⟨fa, fd, ps, hm, hk, hb, F⟩ := F
  obtain ⟨fa2, fd2, ps2, hm2, hk2, hb2, F2⟩ := F2
  obtain ⟨ta, pa, va⟩ := ha
  refine ⟨_, pe_call F hr hg hm hk hb .nil pass0 (pa_cons (pe_call F2 hr2 hg2 hm2 hk2 hb2 .nil pass0 pa hdb2 he hpl) pa_nil he2) hdb he2 hpl2, fun G σ H ok Q q => ?_⟩
  refine va G σ H ok _ fun vs H1 e1 r1 => ?_
  show spN X.K C f2 (vs ++ []) H1 _ E0
  rw [List.append_nil]
  refine ⟨ok.tb.ex e1, ds, xs, r1, h2, fun a H2 ha x2 hl => ?_⟩
  show spM X.K C f ([.ref a] ++ []) H2 Q E0
  refine ⟨(ok.tb.ex e1).ex x2, a, xs, [], [], d, ys, rfl, hl, Reps.nil, hf, fun v H' x3 _ r => ?_⟩
  exact q v H' (e1.trans ((ex_hole x2 ha).trans x3)) r.any
end
end Dd
set_option maxHeartbeats 2000000
/-! The law itself. Printed by gen/w21.py. -/
namespace Dd
open PySem PySem.Spec PyProof.Rows L2 Evl
section
variable {P : Program} {w : World} {K : PySem.W.Frag} {mg : Str → Option Value} {base : Heap} {C : Cs}

def f_law (ds : List D) (d : D) : Prop := ∃ scr : List Int, ds = [il scr] ∧ scr.length ≤ 63 ∧ d = .bl true
/-- a def's promise for its own function object -/
theorem okF {x : Str} {st : Stmt} {N ps : List Str} {lv : Nat} {f : List D → D → Prop} {fa0 : Addr} {fd0 : FuncData} (F : FunD K x x (defArgs st) (defBody st) (defScope st) [] [] fa0 fd0) (S : FnScope N ps (defScope st)) (hN : ps.length ≤ N.length) (len : ∀ ds d, f ds d → ds.length = ps.length)
    (body : ∀ (fa : Addr) (cdv : Value) (A : Around) (outer : List Env) (s : Shared) (H : Hp) (E : XK) (ds : List D) (d : D), Room lv (cxD P w K mg base N x st fa cdv A outer s H E).A → f ds d →
      SS (cxD P w K mg base N x st fa cdv A outer s H E) C (rho0 N ds) none (defBody st) ⟨fun _ _ => d = .non, fun d' _ => d' = d⟩) : FnOk P w K mg base CX0 (lv + 1) fa0 fd0 ps (spD K C f) := by
  refine F.ok S (fun vs H Q E ⟨_, ds, d, r, hf, _⟩ => by rw [← r.len]; exact len ds d hf) (fun cdv A outer s H vs Q E hr h => ?_)
  obtain ⟨tb, ds, d, r, hf, q⟩ := h
  obtain ⟨t, pt, vt⟩ := body fa0 cdv A outer s H E ds d hr hf
  refine ⟨t, PSs.nox pt, vt H (L2.start N vs) H (env0 tb r (by rw [len ds d hf]; exact hN)) _ ⟨fun σ H' ρ mu ok e => ?_, fun σ H' ρ mu v d' ok rv e => ?_⟩⟩
  · subst e
    exact q .non H' ok.ex .non
  · subst e
    exact q v H' ok.ex rv
abbrev N_law : List Str := ["_law_script", "_law_at"]
theorem sc_law : FnScope N_law ["_law_script"] (defScope (top 132)) := ⟨rfl, rfl, rfl, by decide +kernel, rfl, by decide +kernel, by decide +kernel⟩
theorem ok_law (W : Wd mg) {fa0 : Addr} {fd0 : FuncData} (D0 : FunD K "law" "law" (defArgs (top 132)) (defBody (top 132)) (defScope (top 132)) [] [] fa0 fd0)  (F__law_right : FdM P w K mg base C 30 "_law_right" f__law_right) (F__law_dice : FdN P w K mg base C 3 "_law_dice" f__law_dice) : FnOk P w K mg base CX0 33 fa0 fd0 ["_law_script"] (spD K C f_law) := by
  refine okF (lv := 32) D0 sc_law (by decide) (fun ds d hf => by obtain ⟨scr, hds, _⟩ := hf; rw [hds]; rfl) fun fa cdv A outer s H E ds d hr hf => ?_
  obtain ⟨scr, rfl, hl, rfl⟩ := hf
  refine ss_c (s1_for (ds := nts (rgs 0 (max 1 (min 4 (scr.length : Int))).toNat)) (fun i ρ mu => mu = none ∧ ∃ o1, ρ = [some (il scr), o1]) (ei_src (es_rng1 W.range (ee_max2 W.max ee_int (ee_min2 W.min ee_int (ee_lenIL W.len (ee_var 0)))) rfl (by omega) (by omega))) ⟨rfl, _, rfl⟩ [1] ?_ ?_)
  · rintro i d ρ1 mu1 hd ⟨rfl, o1, rfl⟩
    obtain ⟨hi, rfl⟩ := rgs_get hd
    refine ⟨_, eg_name 1 sc_law.nd may0, ?_⟩
    exact ss_1 (s1_if (t := false) (EB.is (eb_not (eb_val (ee_callMN F__law_right (hr.mono (by decide)) F__law_dice (hr.mono (by decide)) (ea_c (ee_var 0) (ea_c (ee_var 1) ea_no)) ⟨scr, i, by rw [Int.zero_add], by omega, rfl⟩ ⟨rfl, (dcV_ok scr i).mono (by decide), rfl, rfl⟩ .bl))) rfl) (by intro h; cases h) (fun _ => ss_nil ⟨rfl, _, rfl⟩))
  · rintro ρ1 mu1 ⟨rfl, o1, rfl⟩
    exact ss_1 (s1_ret ee_bl rfl)
end
end Dd
set_option maxHeartbeats 200000
/-! Lists of values and the maps they tell. -/
namespace Dd
open Rg
theorem ext_gt {v w : List Int} (hl : v.length = w.length) (h : ∀ i : Int, 0 ≤ i → i < v.length → gt v i = gt w i) : v = w := by
  refine List.ext_getElem hl fun i h1 h2 => ?_
  have q := h i (by omega) (by omega)
  unfold gt at q
  rw [List.getD_eq_getElem?_getD, List.getD_eq_getElem?_getD, Int.toNat_natCast, List.getElem?_eq_getElem h1, List.getElem?_eq_getElem h2] at q
  exact q
theorem gt_set {v : List Int} {i j x : Int} (h0 : 0 ≤ i) (h1 : i < v.length) (j0 : 0 ≤ j) : gt (v.set i.toNat x) j = if i = j then x else gt v j := by
  unfold gt
  rw [List.getD_eq_getElem?_getD, List.getD_eq_getElem?_getD, List.getElem?_set]
  by_cases h : i = j
  · subst h
    rw [if_pos rfl, if_pos (by omega), if_pos rfl]
    rfl
  · rw [if_neg (by omega), if_neg h]
theorem gt_rgs {lo : Int} {n : Nat} {i : Int} (h0 : 0 ≤ i) (h1 : i < n) : gt (rgs lo n) i = lo + i := by
  unfold gt rgs
  rw [List.getD_eq_getElem?_getD, List.getElem?_map, List.getElem?_range (by omega)]
  show lo + ((i.toNat : Nat) : Int) = lo + i
  omega
theorem gt_map {α : Type} (f : α → Int) {L : List α} {i : Int} {a : α} (h : L[i.toNat]? = some a) : gt (L.map f) i = f a := by
  unfold gt
  rw [List.getD_eq_getElem?_getD, List.getElem?_map, h]
  rfl
theorem gt_mapR (f : Int → Int) {lo : Int} {n : Nat} {i : Int} (h0 : 0 ≤ i) (h1 : i < n) : gt ((rgs lo n).map f) i = f (lo + i) := by
  refine gt_map f ?_
  unfold rgs
  rw [List.getElem?_map, List.getElem?_range (by omega)]
  show some (lo + ((i.toNat : Nat) : Int)) = some (lo + i)
  congr 1
  omega
theorem modz {k x : Int} (h1 : -k < x) (h2 : x < k) : x % k = 0 ↔ x = 0 := by
  constructor
  · intro h
    obtain ⟨y, rfl⟩ := dvd_of h
    have : y = 0 := by
      rcases Int.lt_trichotomy y 0 with z | z | z
      · have := Int.mul_le_mul_of_nonneg_left (show y ≤ -1 by omega) (show 0 ≤ k by omega)
        omega
      · exact z
      · have := Int.mul_le_mul_of_nonneg_left (show 1 ≤ y by omega) (show 0 ≤ k by omega)
        omega
    subst this
    simp
  · rintro rfl
    simp
theorem modz1 {k x : Int} (hk : 2 ≤ k) (h1 : -k ≤ x) (h2 : x < k - 1) : x % k = 0 ↔ x = 0 ∨ x = -k := by
  by_cases e : x = -k
  · subst e
    constructor
    · intro _; exact .inr rfl
    · intro _
      rw [show -k = k * -1 by omega, Int.mul_emod_right]
  · rw [modz (by omega) (by omega)]
    constructor
    · exact .inl
    · rintro (z | z)
      · exact z
      · exact absurd z e
/-- v tells P at 0 .. k - 1 -/
structure Rp (k : Int) (P : Int → Int) (v : List Int) : Prop where
  len : (v.length : Int) = k
  val : ∀ i : Int, 0 ≤ i → i < k → gt v i = P i
section
variable {k : Int} {P : Int → Int} {v : List Int}
theorem Rp.uniq {w : List Int} (h : Rp k P v) (h' : Rp k P w) : v = w := by
  have l1 := h.len
  have l2 := h'.len
  exact ext_gt (by omega) fun i h0 h1 => by rw [h.val i h0 (by omega), h'.val i h0 (by omega)]
theorem Rp.vir (h : Rp k P v) (hk : 2 ≤ k) (pr : ∀ i j, P (i + k * j) = P i + k * j) (i : Int) : vir v i = P i := by
  unfold Dd.vir
  rw [h.len]
  have m0 := Int.emod_nonneg i (show k ≠ 0 by omega)
  have m1 := Int.emod_lt_of_pos i (show 0 < k by omega)
  rw [h.val _ m0 m1]
  have e := pr (i % k) (i / k)
  have d := Int.emod_add_mul_ediv i k
  rw [d] at e
  omega
/-- the exchange at p -/
theorem Rp.lb (h : Rp k P v) (hk : 2 ≤ k) (pr : ∀ i j, P (i + k * j) = P i + k * j) {p : Int} (p0 : 0 ≤ p) (p1 : p < k) :
    Rp k (fun a => if (a - p) % k = 0 then P (a + 1) else if (a - p - 1) % k = 0 then P (a - 1) else P a) (lb v p) := by
  have hl := h.len
  refine ⟨by rw [lb_len]; exact hl, fun i i0 i1 => ?_⟩
  show _ = if (i - p) % k = 0 then P (i + 1) else if (i - p - 1) % k = 0 then P (i - 1) else P i
  have c1 := modz (k := k) (x := i - p) (by omega) (by omega)
  have c2 := modz1 (k := k) (x := i - p - 1) hk (by omega) (by omega)
  unfold Dd.lb
  by_cases q : p < (v.length : Int) - 1
  · rw [if_pos q, gt_set (by omega) (by rw [List.length_set]; omega) i0, gt_set p0 (by omega) i0]
    by_cases e1 : i = p
    · rw [if_neg (show ¬ p + 1 = i by omega), if_pos e1.symm, if_pos (c1.mpr (by omega)), h.val _ (by omega) (by omega), e1]
    · have n1 : ¬ (i - p) % k = 0 := fun z => e1 (by have := c1.mp z; omega)
      rw [if_neg n1]
      by_cases e2 : i = p + 1
      · rw [if_pos (show p + 1 = i from e2.symm), if_pos (c2.mpr (.inl (by omega))), h.val _ p0 p1]
        congr 1
        omega
      · have n2 : ¬ (i - p - 1) % k = 0 := fun z => by have := c2.mp z; omega
        rw [if_neg (show ¬ p + 1 = i from fun z => e2 z.symm), if_neg (show ¬ p = i from fun z => e1 z.symm), if_neg n2, h.val _ i0 i1]
  · rw [if_neg q, show (0 : Nat) = (0 : Int).toNat from rfl, gt_set (by omega) (by rw [List.length_set]; omega) i0, gt_set p0 (by omega) i0]
    have ep : p = k - 1 := by omega
    by_cases e1 : i = p
    · rw [if_neg (show ¬ 0 = i by omega), if_pos e1.symm, if_pos (c1.mpr (by omega)), h.val 0 (by omega) (by omega), hl]
      have := pr 0 1
      rw [Int.mul_one] at this
      rw [show i + 1 = 0 + k by omega, this]
    · have n1 : ¬ (i - p) % k = 0 := fun z => e1 (by have := c1.mp z; omega)
      rw [if_neg n1]
      by_cases e2 : i = 0
      · rw [if_pos (show 0 = i from e2.symm), if_pos (c2.mpr (.inr (by omega))), h.val _ p0 p1, hl]
        have := pr (i - 1) 1
        rw [Int.mul_one, show i - 1 + k = p by omega] at this
        omega
      · have n2 : ¬ (i - p - 1) % k = 0 := fun z => by have := c2.mp z; omega
        rw [if_neg (show ¬ 0 = i from fun z => e2 z.symm), if_neg (show ¬ p = i from fun z => e1 z.symm), if_neg n2, h.val _ i0 i1]
theorem Rp.df (h : Rp k P v) (hk : 2 ≤ k) (pr : ∀ i j, P (i + k * j) = P i + k * j) {p : Int} (p0 : 0 ≤ p) (p1 : p < k) : df v p = decide (P (p + 1) < P p) := by
  unfold Dd.df
  rw [h.vir hk pr, h.val p p0 p1]
/-- the places of p and of p + 1 -/
theorem per_at (pr : ∀ i j, P (i + k * j) = P i + k * j) {a p : Int} (h : (a - p) % k = 0) : ∃ z, P a = P p + z ∧ P (a + 1) = P (p + 1) + z := by
  obtain ⟨y, hy⟩ := dvd_of h
  refine ⟨k * y, ?_, ?_⟩
  · have := pr p y
    rwa [show p + k * y = a by omega] at this
  · have := pr (p + 1) y
    rwa [show p + 1 + k * y = a + 1 by omega] at this
theorem act_ris (pr : ∀ i j, P (i + k * j) = P i + k * j) {p : Int} (h : ¬ P (p + 1) < P p) : act k p P = fun a => if (a - p) % k = 0 then P (a + 1) else if (a - p - 1) % k = 0 then P (a - 1) else P a := by
  funext a
  unfold act
  split
  · rename_i c
    obtain ⟨z, e1, e2⟩ := per_at pr c
    omega
  · split
    · rename_i c
      obtain ⟨z, e1, e2⟩ := per_at pr (a := a - 1) (p := p) (by rw [show a - 1 - p = a - p - 1 by omega]; exact c)
      rw [show a - 1 + 1 = a by omega] at e2
      omega
    · rfl
theorem act_fal (pr : ∀ i j, P (i + k * j) = P i + k * j) {p : Int} (h : P (p + 1) < P p) : act k p P = P := by
  funext a
  unfold act
  split
  · rename_i c
    obtain ⟨z, e1, e2⟩ := per_at pr c
    omega
  · split
    · rename_i c
      obtain ⟨z, e1, e2⟩ := per_at pr (a := a - 1) (p := p) (by rw [show a - 1 - p = a - p - 1 by omega]; exact c)
      rw [show a - 1 + 1 = a by omega] at e2
      omega
    · rfl
end
/-- the map of a word of letters from the right -/
def Mw (k : Int) (u : List Int) : Int → Int := mw k u fun i => i
theorem Mw_Pw (k : Int) (u : List Int) : Mw k u = Pw k u.reverse := by unfold Mw Pw; rw [List.reverse_reverse]
theorem tab_Mw {k : Int} (hk : 2 ≤ k) (u : List Int) : IsTab (Mw k u) (Tw k u.reverse) := by rw [Mw_Pw]; exact tab_Pw hk _
theorem good_Mw {k : Int} (hk : 2 ≤ k) (u : List Int) : Good k u.length (Tw k u.reverse) := by have := good_Tw hk u.reverse; rwa [List.length_reverse] at this
theorem pr_Mw {k : Int} (hk : 2 ≤ k) (u : List Int) (i j : Int) : Mw k u (i + k * j) = Mw k u i + k * j := tab_perN hk (tab_Mw hk u) (good_Mw hk u) i j
theorem Mw_snoc (k : Int) (u : List Int) (p : Int) : Mw k (u ++ [p]) = act k p (Mw k u) := mw_app k u [p] _
theorem rp_step {k : Int} (hk : 2 ≤ k) {u v : List Int} (h : Rp k (Mw k u) v) {p : Int} (p0 : 0 ≤ p) (p1 : p < k) : Rp k (Mw k (u ++ [p])) (if df v p then v else lb v p) := by
  rw [Mw_snoc, h.df hk (pr_Mw hk u) p0 p1]
  by_cases q : Mw k u (p + 1) < Mw k u p
  · rw [decide_eq_true q, if_pos rfl, act_fal (pr_Mw hk u) q]
    exact h
  · rw [decide_eq_false q, if_neg Bool.false_ne_true, act_ris (pr_Mw hk u) q]
    exact h.lb hk (pr_Mw hk u) p0 p1
theorem rp_gb {k : Int} (hk : 2 ≤ k) : ∀ (ls u v : List Int), (∀ p : Int, p ∈ ls → 0 ≤ p ∧ p < k) → Rp k (Mw k u) v → Rp k (Mw k (u ++ ls)) (gb v ls)
  | [], u, v, _, h => by rw [List.append_nil]; exact h
  | p :: ls, u, v, hp, h => by
    have q := hp p List.mem_cons_self
    have := rp_gb hk ls (u ++ [p]) _ (fun x hx => hp x (List.mem_cons_of_mem _ hx)) (rp_step hk h q.1 q.2)
    rwa [List.append_assoc, List.singleton_append] at this
theorem rp_id {k : Int} (hk : 2 ≤ k) : Rp k (Mw k []) (rgs 0 k.toNat) := ⟨by rw [rgs_len]; omega, fun i h0 h1 => by rw [gt_rgs h0 (by omega)]; show 0 + i = i; omega⟩
theorem wsh0 {v : List Int} (h : 0 < v.length) : wsh v 0 = v := by
  refine ext_gt (by simp [wsh, rgs]) fun i h0 h1 => ?_
  have h1 : i < v.length := by rw [wsh, List.length_map, rgs_len] at h1; exact h1
  unfold wsh
  rw [gt_mapR _ h0 h1]
  unfold vir
  rw [show 0 + i + 0 = i by omega, Int.emod_eq_of_lt h0 h1]
  omega
theorem rp_gmd {k : Int} (hk : 2 ≤ k) {ls : List Int} (h : ∀ p : Int, p ∈ ls → 0 ≤ p ∧ p < k) : Rp k (Mw k ls) (gmd k ls) := by
  unfold gmd
  rw [wsh0 (by rw [rgs_len]; omega)]
  exact rp_gb hk ls [] _ h (rp_id hk)
end Dd
set_option maxHeartbeats 200000
/-! What the lists tell: residues, falls, tables, inverse maps, shift. -/
namespace Dd
open Rg
theorem emod_sub0 {x y k : Int} (h : x % k = y % k) : (x - y) % k = 0 := by rw [Int.sub_emod, h, Int.sub_self, Int.zero_emod]
theorem emod_of_sub {x y k : Int} (h : (x - y) % k = 0) : x % k = y % k := by
  obtain ⟨z, hz⟩ := dvd_of h
  rw [show x = y + k * z by omega, Int.add_mul_emod_self_left]
section
variable {k n : Int} {P : Int → Int} {r : Rg.Tb} {v : List Int}
theorem Rp.szd (hv : Rp k P v) (hk : 2 ≤ k) (h6 : k ≤ 6) : Szd v := by have := hv.len; exact ⟨by omega, by omega⟩
theorem Rp.rok (hv : Rp k P v) (hk : 2 ≤ k) (h6 : k ≤ 6) (h : IsTab P r) (g : Good k n r) (hn : n ≤ 900) : Rok v where
  sz := hv.szd hk h6
  sm := fun x hx => by
    obtain ⟨i, hi, rfl⟩ := List.getElem_of_mem hx
    have hl := hv.len
    have e := hv.val i (by omega) (by omega)
    unfold gt at e
    rw [List.getD_eq_getElem?_getD, Int.toNat_natCast, List.getElem?_eq_getElem hi] at e
    have e' : v[i] = P i := e
    have := tab_bd h g i
    unfold Sm
    omega
  inj := fun i j i0 i1 j0 j1 e => by
    have hl := hv.len
    rw [hl] at e
    rw [hv.val i i0 (by omega), hv.val j j0 (by omega)] at e
    have := res_un hk h g (i := i.toNat) (j := j.toNat) (by omega) (by omega) (by rw [Int.toNat_of_nonneg i0, Int.toNat_of_nonneg j0]; exact emod_sub0 e)
    omega
  sur := fun x x0 x1 => by
    have hl := hv.len
    obtain ⟨i, hi, e⟩ := res_ex hk h g x
    refine ⟨i, by omega, by omega, ?_⟩
    rw [hl, hv.val i (by omega) (by omega), emod_of_sub e, Int.emod_eq_of_lt x0 (by omega)]
theorem Rp.flv (hv : Rp k P v) : flv v = fl k P := by
  have hl := hv.len
  have hn : v.length = k.toNat := by omega
  unfold Dd.flv fl
  rw [hn]
  refine sm_congr fun i hi => sm_congr fun j hj => ?_
  rw [hv.val i (by omega) (by omega), hv.val j (by omega) (by omega)]
  unfold lf tm
  rw [show ((k.toNat : Nat) : Int) = k by omega]
/-- steps of floors -/
theorem div_step {k x : Int} (hk : 0 < k) : x / k = (x - 1) / k + if x % k = 0 then 1 else 0 := by
  have d1 := Int.emod_add_mul_ediv x k
  have d2 := Int.emod_add_mul_ediv (x - 1) k
  have a0 := Int.emod_nonneg x (show k ≠ 0 by omega)
  have a1 := Int.emod_lt_of_pos x hk
  have b0 := Int.emod_nonneg (x - 1) (show k ≠ 0 by omega)
  have b1 := Int.emod_lt_of_pos (x - 1) hk
  by_cases h : x % k = 0
  · rw [if_pos h]
    have e : (x - 1) / k = x / k - 1 := by
      have : x - 1 = (k - 1) + k * (x / k - 1) := by rw [Int.mul_sub]; omega
      rw [this, Int.add_mul_ediv_left _ _ (by omega), Int.ediv_eq_zero_of_lt (by omega) (by omega)]
      omega
    omega
  · rw [if_neg h]
    have e : (x - 1) / k = x / k := by
      have : x - 1 = (x % k - 1) + k * (x / k) := by omega
      have z : (x % k - 1) / k = 0 := Int.ediv_eq_zero_of_lt (by omega) (by omega)
      rw [this, Int.add_mul_ediv_left _ _ (by omega), z]
      omega
    omega
theorem lf_le {k x y : Int} (hk : 0 < k) : lf x k ≤ y ↔ x ≤ k * y := by
  unfold lf
  have d := Int.emod_add_mul_ediv (-x) k
  have a0 := Int.emod_nonneg (-x) (show k ≠ 0 by omega)
  have a1 := Int.emod_lt_of_pos (-x) hk
  constructor
  · intro h
    have := Int.mul_le_mul_of_nonneg_left (show -((-x) / k) ≤ y from h) (show 0 ≤ k by omega)
    rw [Int.mul_neg] at this
    omega
  · intro h
    apply Classical.byContradiction
    intro hn
    have := Int.mul_le_mul_of_nonneg_left (show y + 1 ≤ -((-x) / k) by omega) (show 0 ≤ k by omega)
    rw [Int.mul_neg, Int.mul_add] at this
    omega
theorem Rp.cntTab (hv : Rp k P v) (hk : 2 ≤ k) (h : IsTab P r) (g : Good k n r) : IsTab P (fun a c => cnt v a (-c) k.toNat) := by
  have hl := hv.len
  have pr := tab_perN hk h g
  have term : ∀ (j : Nat) (a c : Int), j < k.toNat → max 0 ((a - (j : Int)) / (v.length : Int) - lf (- -c - gt v j) v.length + 1) = max 0 ((a - (j : Int)) / k - lf (c - P j) k + 1) := fun j a c hj => by
    rw [hl, hv.val j (by omega) (by omega), show - -c - P (j : Int) = c - P j by omega]
  refine ⟨fun a c => ?_, fun c => ?_⟩
  · show cnt v a (-c) k.toNat = cnt v (a - 1) (-c) k.toNat + _
    unfold cnt
    rw [sm_congr (fun j hj => term j a c hj), sm_congr (fun j hj => term j (a - 1) c hj)]
    have m0 := Int.emod_nonneg a (show k ≠ 0 by omega)
    have m1 := Int.emod_lt_of_pos a (show 0 < k by omega)
    have one : ∀ j : Nat, j < k.toNat → max 0 ((a - (j : Int)) / k - lf (c - P j) k + 1) = max 0 ((a - 1 - (j : Int)) / k - lf (c - P j) k + 1) + if (j : Int) = a % k then (if c ≤ P a then 1 else 0) else 0 := fun j hj => by
      have ds := div_step (k := k) (x := a - j) (by omega)
      rw [show a - (j : Int) - 1 = a - 1 - j by omega] at ds
      have em : (a - (j : Int)) % k = 0 ↔ (j : Int) = a % k := by
        constructor
        · intro z
          have := emod_of_sub z
          have e : (j : Int) % k = j := Int.emod_eq_of_lt (by omega) (by omega)
          omega
        · intro z
          rw [z]
          exact emod_sub0 (by rw [Int.emod_emod])
      by_cases q : (j : Int) = a % k
      · rw [if_pos q]
        rw [if_pos (em.mpr q)] at ds
        have pj := pr j (a / k)
        have dd := Int.emod_add_mul_ediv a k
        have ea : (j : Int) + k * (a / k) = a := by omega
        rw [ea] at pj
        have e1 : (a - (j : Int)) / k = a / k := by
          rw [show a - (j : Int) = k * (a / k) by omega, Int.mul_ediv_cancel_left _ (by omega)]
        have le := lf_le (k := k) (x := c - P j) (y := a / k) (by omega)
        by_cases u : c ≤ P a
        · rw [if_pos u]
          have := le.mpr (by omega)
          omega
        · rw [if_neg u]
          have : ¬ lf (c - P j) k ≤ a / k := fun z => u (by have := le.mp z; omega)
          omega
      · rw [if_neg q]
        rw [if_neg (fun z => q (em.mp z))] at ds
        omega
    rw [sm_congr one, sm_add]
    congr 1
    exact sm_one (p := fun j : Nat => (j : Int) = a % k) (a % k).toNat (by omega) (by omega) (fun j hj z => by omega)
  · refine ⟨c - n - 1 - k, fun a ha => ?_⟩
    show cnt v a (-c) k.toNat = 0
    unfold cnt
    rw [sm_congr (fun j hj => term j a c hj)]
    refine sm_zero fun j hj => ?_
    have b := tab_bd h g j
    have le := lf_le (k := k) (x := c - P j) (y := (a - (j : Int)) / k) (by omega)
    have d := Int.emod_add_mul_ediv (a - (j : Int)) k
    have a0 := Int.emod_nonneg (a - (j : Int)) (show k ≠ 0 by omega)
    have : ¬ lf (c - P j) k ≤ (a - (j : Int)) / k := fun z => by
      have := le.mp z
      omega
    omega
theorem Rp.cnt (hv : Rp k P v) (hk : 2 ≤ k) (h : IsTab P r) (g : Good k n r) (a c : Int) : cnt v a (-c) v.length = r a c := by
  have hl := hv.len
  rw [show v.length = k.toNat by omega]
  exact congrFun (congrFun ((hv.cntTab hk h g).uniq h) a) c
/-- the inverse map -/
theorem Rp.tb (hv : Rp k P v) (hk : 2 ≤ k) (h6 : k ≤ 6) (h : IsTab P r) (g : Good k n r) (hn : n ≤ 900) (c : Int) : P (Dd.vir (tb v) c) = c := by
  have hl := hv.len
  have rk := hv.rok hk h6 h g hn
  have pr := tab_perN hk h g
  have m0 := Int.emod_nonneg c (show k ≠ 0 by omega)
  have m1 := Int.emod_lt_of_pos c (show 0 < k by omega)
  have key : P (gt (Dd.tb v) (c % k)) = c % k := by
    unfold Dd.tb
    rw [gt_mapR _ m0 (by omega), Int.zero_add]
    cases z : tbx v (c % k) with
    | none =>
      exfalso
      obtain ⟨i, i0, i1, e⟩ := rk.sur (c % k) m0 (by omega)
      unfold tbx at z
      have := List.find?_eq_none.mp z i (by unfold rgs; exact List.mem_map.mpr ⟨i.toNat, List.mem_range.mpr (by omega), by omega⟩)
      exact this (decide_eq_true e)
    | some i =>
      unfold tbx at z
      have e0 := List.find?_some z
      have e : gt v i % v.length = c % k := of_decide_eq_true e0
      have hi := rgs_mem (List.mem_of_find?_eq_some z)
      show P (c % k + i - gt v i) = c % k
      rw [hl, hv.val i (by omega) (by omega)] at e
      rw [hv.val i (by omega) (by omega)]
      obtain ⟨y, hy⟩ := dvd_of (emod_sub0 (show c % k % k = P i % k by rw [Int.emod_emod]; exact e.symm))
      rw [show c % k + i - P i = i + k * y by omega, pr]
      omega
  unfold Dd.vir
  rw [tb_len, hl]
  have d := Int.emod_add_mul_ediv c k
  have := pr (gt (Dd.tb v) (c % k)) (c / k)
  rw [show gt (Dd.tb v) (c % k) + c - c % k = gt (Dd.tb v) (c % k) + k * (c / k) by omega, this, key]
  omega
theorem Rp.tbR (hv : Rp k P v) (hk : 2 ≤ k) (h6 : k ≤ 6) (h : IsTab P r) (g : Good k n r) (hn : n ≤ 900) : Rp k (Dd.vir (Dd.tb v)) (Dd.tb v) := by
  have hl := hv.len
  refine ⟨by rw [tb_len]; exact hl, fun i i0 i1 => ?_⟩
  unfold Dd.vir
  rw [tb_len, hl, Int.emod_eq_of_lt i0 i1]
  omega
/-- small inverse values -/
theorem Rp.tb_bd (hv : Rp k P v) (hk : 2 ≤ k) (h6 : k ≤ 6) (h : IsTab P r) (g : Good k n r) (hn : n ≤ 900) (c : Int) : c - n ≤ Dd.vir (Dd.tb v) c ∧ Dd.vir (Dd.tb v) c ≤ c + n := by
  have := hv.tb hk h6 h g hn c
  have b := Rg.tab_bd h g (Dd.vir (Dd.tb v) c)
  omega
end
end Dd
set_option maxHeartbeats 200000
/-! Sums and shifts; maps below one another. -/
namespace Dd
open Rg
theorem sum_set {v : List Int} {i : Int} {x : Int} (h0 : 0 ≤ i) (h1 : i < v.length) : (v.set i.toNat x).sum = v.sum - gt v i + x := by
  have key : ∀ (v : List Int) (n : Nat), n < v.length → (v.set n x).sum = v.sum - v.getD n 0 + x := by
    intro v
    induction v with
    | nil => intro n h; cases h
    | cons a v ih =>
      intro n h
      cases n with
      | zero => show x + v.sum = a + v.sum - a + x; omega
      | succ n =>
        have := ih n (by simpa using h)
        show a + (v.set n x).sum = a + v.sum - v.getD n 0 + x
        omega
  exact key v i.toNat (by omega)
theorem lb_sum {v : List Int} {p : Int} (h2 : 2 ≤ v.length) (p0 : 0 ≤ p) (p1 : p < v.length) : (lb v p).sum = v.sum := by
  unfold lb
  split
  · rw [sum_set (by omega) (by rw [List.length_set]; omega), sum_set p0 p1, gt_set p0 p1 (by omega), if_neg (by omega)]
    omega
  · rw [show (0 : Nat) = (0 : Int).toNat from rfl, sum_set (by omega) (by rw [List.length_set]; omega), sum_set p0 p1, gt_set p0 p1 (by omega), if_neg (by omega)]
    omega
theorem gb_sum : ∀ (ls v : List Int), 2 ≤ v.length → (∀ p : Int, p ∈ ls → 0 ≤ p ∧ p < v.length) → (gb v ls).sum = v.sum
  | [], v, _, _ => rfl
  | p :: ls, v, h2, hp => by
    have q := hp p List.mem_cons_self
    have hl : (if df v p then v else lb v p).length = v.length := by split; rfl; exact lb_len _ _
    show (gb (if df v p then v else lb v p) ls).sum = _
    rw [gb_sum ls _ (by rw [hl]; exact h2) (fun x hx => by rw [hl]; exact hp x (List.mem_cons_of_mem _ hx))]
    split
    · rfl
    · exact lb_sum h2 q.1 q.2
/-- the sum of a map without shift -/
def Sm0 (v : List Int) : Prop := v.sum = (v.length : Int) * ((v.length : Int) - 1) / 2
theorem Sm0.sh {v : List Int} (h : Sm0 v) : sh v = 0 := by
  unfold Dd.sh
  rw [h, Int.sub_self, Int.zero_ediv]
theorem sm0_id {k : Int} (hk : 2 ≤ k) (h6 : k ≤ 6) : Sm0 (rgs 0 k.toNat) := by
  rcases k_cases hk h6 with rfl | rfl | rfl | rfl | rfl <;> (unfold Sm0; decide)
theorem sm0_gmd {k : Int} (hk : 2 ≤ k) (h6 : k ≤ 6) {ls : List Int} (h : ∀ p : Int, p ∈ ls → 0 ≤ p ∧ p < k) : Sm0 (gmd k ls) := by
  have l0 : (rgs 0 k.toNat).length = k.toNat := rgs_len _ _
  unfold gmd
  rw [wsh0 (by omega)]
  unfold Sm0
  rw [gb_sum ls _ (by omega) (fun p hp => ⟨(h p hp).1, by have := (h p hp).2; omega⟩), gb_len]
  exact sm0_id hk h6
theorem ws_ge {v : List Int} {i : Int} (h0 : 0 ≤ i) (h1 : i < v.length) : gt v i - i - sh v ≤ ws v ∧ -(gt v i - i - sh v) ≤ ws v := by
  obtain ⟨_, h2, _⟩ := foldl_max (wsL v) 0
  have hm : (if gt v i - i - sh v < 0 then -(gt v i - i - sh v) else gt v i - i - sh v) ∈ wsL v := by
    unfold wsL
    refine List.mem_map.mpr ⟨i, ?_, rfl⟩
    unfold rgs
    exact List.mem_map.mpr ⟨i.toNat, List.mem_range.mpr (by omega), by omega⟩
  have := h2 _ hm
  unfold ws
  split at this <;> omega
section
variable {k n n1 n2 : Int} {P P1 P2 : Int → Int} {r r1 r2 : Rg.Tb} {v v1 v2 : List Int}
theorem zero_of (h : IsTab P r) {a c : Int} (q : ∀ i, i ≤ a → P i < c) : r a c = 0 := by
  obtain ⟨N, hN⟩ := h.lo c
  have key : ∀ (d : Nat) (b : Int), b ≤ N + d → b ≤ a → r b c = 0 := by
    intro d
    induction d with
    | zero => intro b hb _; exact hN b (by omega)
    | succ d ih =>
      intro b hb ha
      have e := h.st b c
      rw [if_neg (by have := q b ha; omega), ih (b - 1) (by omega) (by omega)] at e
      omega
  exact key (a - N).toNat a (by omega) (Int.le_refl _)
theorem full_of (h : IsTab P r) (g : Good k n r) {a c : Int} (q : ∀ i, a < i → c ≤ P i) : r a c = a - c + 1 := by
  have key : ∀ d : Nat, r (a + d) c = r a c + d := by
    intro d
    induction d with
    | zero => simp
    | succ d ih =>
      have e := h.up (a + d) c
      rw [if_pos (q _ (by omega)), ih] at e
      rw [show a + ((d + 1 : Nat) : Int) = a + d + 1 by omega, e]
      omega
  have e := key (n - (a - c + 1)).toNat
  have hi := g.high (a + ((n - (a - c + 1)).toNat : Nat)) c (by omega)
  omega
theorem mic_iff {b0 b1 : List Int} {a : Int} (h1 : ∀ t, bI (decide (Dd.vir b0 t ≤ a)) = nn r1 a t) (h2 : ∀ t, bI (decide (Dd.vir b1 t ≤ a)) = nn r2 a t) :
    ∀ (n : Nat) (t : Int), (mic b0 b1 a n t (r1 a t) (r2 a t)).2.2 < (mic b0 b1 a n t (r1 a t) (r2 a t)).2.1 ↔ ∃ s, t - n ≤ s ∧ s ≤ t ∧ r2 a s < r1 a s := by
  intro n
  induction n with
  | zero =>
    intro t
    show r2 a t < r1 a t ↔ _
    constructor
    · intro h; exact ⟨t, by omega, by omega, h⟩
    · rintro ⟨s, x, y, h⟩
      have : s = t := by omega
      rwa [this] at h
  | succ n ih =>
    intro t
    unfold mic
    by_cases q : r1 a t ≤ r2 a t
    · rw [if_pos q]
      have e1 : r1 a t + bI (decide (Dd.vir b0 (t - 1) ≤ a)) = r1 a (t - 1) := by rw [h1]; unfold nn; rw [show t - 1 + 1 = t by omega]; omega
      have e2 : r2 a t + bI (decide (Dd.vir b1 (t - 1) ≤ a)) = r2 a (t - 1) := by rw [h2]; unfold nn; rw [show t - 1 + 1 = t by omega]; omega
      rw [e1, e2, ih (t - 1)]
      constructor
      · rintro ⟨s, x, y, h⟩
        exact ⟨s, by omega, by omega, h⟩
      · rintro ⟨s, x, y, h⟩
        refine ⟨s, by omega, ?_, h⟩
        apply Classical.byContradiction
        intro hn
        have : s = t := by omega
        subst this
        omega
    · rw [if_neg q]
      constructor
      · intro h; exact ⟨t, by omega, by omega, h⟩
      · intro _; show r2 a t < r1 a t; omega
theorem Rp.nnb (hv : Rp k P v) (hk : 2 ≤ k) (h6 : k ≤ 6) (h : IsTab P r) (g : Good k n r) (hn : n ≤ 900) (a t : Int) : bI (decide (Dd.vir (Dd.tb v) t ≤ a)) = nn r a t := by
  have e := hv.tb hk h6 h g hn t
  have q := nn01 g a t
  have i := nn_iff h g (a := a) (c := t)
  by_cases z : Dd.vir (Dd.tb v) t ≤ a
  · rw [decide_eq_true z]
    exact (i.mpr ⟨_, z, e⟩).symm
  · rw [decide_eq_false z]
    show 0 = _
    have : ¬ nn r a t = 1 := fun w => by
      obtain ⟨j, hj, ej⟩ := i.mp w
      have := Rg.tab_inj h g (ej.trans e.symm)
      omega
    omega
/-- below: nothing found -/
theorem mI_iff (hk : 2 ≤ k) (h6 : k ≤ 6) (hv1 : Rp k P1 v1) (h1 : IsTab P1 r1) (g1 : Good k n1 r1) (m1 : n1 ≤ 900) (z1 : sh v1 = 0) (hv2 : Rp k P2 v2) (h2 : IsTab P2 r2) (g2 : Good k n2 r2) (m2 : n2 ≤ 900) :
    (mI v1 v2).isNone = true ↔ ∀ a c, r1 a c ≤ r2 a c := by
  have l1 := hv1.len
  have col : ∀ a, mIn v1 v2 a = none ↔ ∀ t, a + (sh v1 - ws v1) ≤ t → t ≤ top1 v1 a → r1 a t ≤ r2 a t := fun a => by
    have w0 : 0 ≤ ws v1 := (foldl_max (wsL v1) 0).1
    have q := mic_iff (r1 := r1) (r2 := r2) (b0 := tb v1) (b1 := tb v2) (a := a) (hv1.nnb hk h6 h1 g1 m1 a) (hv2.nnb hk h6 h2 g2 m2 a) (top1 v1 a - (a + (sh v1 - ws v1))).toNat (top1 v1 a)
    have c1 := hv1.cnt hk h1 g1 a (top1 v1 a)
    have c2 := hv2.cnt hk h2 g2 a (top1 v1 a)
    unfold mIn mcol mcR
    rw [c1, c2]
    have tp : a + (sh v1 - ws v1) ≤ top1 v1 a := by unfold top1; omega
    constructor
    · intro e t t0 t1
      apply Classical.byContradiction
      intro hn
      rw [if_pos (q.mpr ⟨t, by omega, t1, by omega⟩)] at e
      cases e
    · intro e
      rw [if_neg]
      intro z
      obtain ⟨s, s0, s1, hs⟩ := q.mp z
      have := e s (by omega) s1
      omega
  have all : (mI v1 v2).isNone = true ↔ ∀ a, 0 ≤ a → a < k → mIn v1 v2 a = none := by
    rw [Option.isNone_iff_eq_none]
    unfold mI
    rw [List.findSome?_eq_none_iff]
    constructor
    · intro e a a0 a1
      have := e a (by unfold rgs; exact List.mem_map.mpr ⟨a.toNat, List.mem_range.mpr (by omega), by omega⟩)
      exact Option.map_eq_none_iff.mp this
    · intro e a ha
      have := rgs_mem ha
      rw [e a this.1 (by omega)]
      rfl
  have w1 : ∀ i, i + (sh v1 - ws v1) ≤ P1 i ∧ P1 i ≤ i + sh v1 + ws v1 := fun i => by
    have m0 := Int.emod_nonneg i (show k ≠ 0 by omega)
    have m1 := Int.emod_lt_of_pos i (show 0 < k by omega)
    have q := ws_ge (v := v1) m0 (by omega)
    rw [hv1.val _ m0 m1] at q
    have p := tab_perN hk h1 g1 (i % k) (i / k)
    have d := Int.emod_add_mul_ediv i k
    rw [d] at p
    omega
  rw [all]
  constructor
  · intro e a c
    have key : ∀ a c, 0 ≤ a → a < k → r1 a c ≤ r2 a c := fun a c a0 a1 => by
      have q := (col a).mp (e a a0 a1)
      by_cases c1 : top1 v1 a < c
      · rw [zero_of h1 (fun i hi => by have := (w1 i).2; unfold top1 at c1; omega)]
        have := g2.ge a c
        unfold r0 at this
        omega
      · by_cases c0 : c < a + (sh v1 - ws v1)
        · rw [full_of h1 g1 (fun i hi => by have := (w1 i).1; omega)]
          have := g2.ge a c
          unfold r0 at this
          omega
        · exact q c (by omega) (by omega)
    have m0 := Int.emod_nonneg a (show k ≠ 0 by omega)
    have m1 := Int.emod_lt_of_pos a (show 0 < k by omega)
    have d := Int.emod_add_mul_ediv a k
    have p1 := good_perN g1 (a % k) (c - k * (a / k)) (a / k)
    have p2 := good_perN g2 (a % k) (c - k * (a / k)) (a / k)
    rw [d, show c - k * (a / k) + k * (a / k) = c by omega] at p1 p2
    rw [p1, p2]
    exact key _ _ m0 m1
  · intro e a _ _
    exact (col a).mpr fun t _ _ => e a t
end
end Dd
set_option maxHeartbeats 200000
/-! Falls taken away one by one; greedy products. -/
namespace Dd
open Rg
/-- the exchange at p, of maps -/
def sP (k p : Int) (P : Int → Int) : Int → Int := fun a => if (a - p) % k = 0 then P (a + 1) else if (a - p - 1) % k = 0 then P (a - 1) else P a
theorem vir_pr {k : Int} {v : List Int} (hl : (v.length : Int) = k) (hk : 2 ≤ k) (i j : Int) : vir v (i + k * j) = vir v i + k * j := by
  unfold vir
  rw [hl, Int.add_mul_emod_self_left]
  omega
theorem rp_vir {k : Int} {v : List Int} (hl : (v.length : Int) = k) : Rp k (vir v) v := ⟨hl, fun i h0 h1 => by
  unfold vir
  rw [hl, Int.emod_eq_of_lt h0 h1]
  omega⟩
theorem sP_pr {k p : Int} {P : Int → Int} (pr : ∀ i j, P (i + k * j) = P i + k * j) (i j : Int) : sP k p P (i + k * j) = sP k p P i + k * j := by
  unfold sP
  rw [show i + k * j - p = i - p + k * j by omega, Int.add_mul_emod_self_left, show i - p + k * j - 1 = i - p - 1 + k * j by omega, Int.add_mul_emod_self_left,
    show i + k * j + 1 = i + 1 + k * j by omega, show i + k * j - 1 = i - 1 + k * j by omega, pr, pr, pr]
  split
  · rfl
  · split <;> rfl
theorem sP_inj {k p : Int} {P : Int → Int} (hk : 2 ≤ k) (inj : ∀ i j, P i = P j → i = j) (i j : Int) (h : sP k p P i = sP k p P j) : i = j := by
  unfold sP at h
  by_cases a1 : (i - p) % k = 0
  · rw [if_pos a1] at h
    have a2 := mod_next hk a1
    by_cases b1 : (j - p) % k = 0
    · rw [if_pos b1] at h
      have := inj _ _ h
      omega
    · rw [if_neg b1] at h
      by_cases b2 : (j - p - 1) % k = 0
      · rw [if_pos b2] at h
        have e := inj _ _ h
        exfalso
        apply mod_next hk b2
        have b3 : ((i - p) + 1) % k = 0 := by rw [show i - p + 1 = j - p - 1 by omega]; exact b2
        exact absurd (mod_next hk b3) (by rw [show i - p + 1 - 1 = i - p by omega]; exact fun z => z a1)
      · rw [if_neg b2] at h
        have e := inj _ _ h
        exfalso
        apply b2
        rw [show j - p - 1 = i - p by omega]
        exact a1
  · rw [if_neg a1] at h
    by_cases a2 : (i - p - 1) % k = 0
    · rw [if_pos a2] at h
      by_cases b1 : (j - p) % k = 0
      · rw [if_pos b1] at h
        have e := inj _ _ h
        exfalso
        have b3 : ((j - p) + 1) % k = 0 := by rw [show j - p + 1 = i - p - 1 by omega]; exact a2
        exact absurd (mod_next hk b3) (by rw [show j - p + 1 - 1 = j - p by omega]; exact fun z => z b1)
      · rw [if_neg b1] at h
        by_cases b2 : (j - p - 1) % k = 0
        · rw [if_pos b2] at h
          have := inj _ _ h
          omega
        · rw [if_neg b2] at h
          have e := inj _ _ h
          exfalso
          apply b1
          rw [show j - p = i - p - 1 by omega]
          exact a2
    · rw [if_neg a2] at h
      by_cases b1 : (j - p) % k = 0
      · rw [if_pos b1] at h
        have e := inj _ _ h
        exfalso
        apply a2
        rw [show i - p - 1 = j - p by omega]
        exact b1
      · rw [if_neg b1] at h
        by_cases b2 : (j - p - 1) % k = 0
        · rw [if_pos b2] at h
          have e := inj _ _ h
          exfalso
          apply a1
          rw [show i - p = j - p - 1 by omega]
          exact b2
        · rw [if_neg b2] at h
          exact inj _ _ h
section
variable {k : Int} {v : List Int}
theorem lb_rp (hl : (v.length : Int) = k) (hk : 2 ≤ k) {p : Int} (p0 : 0 ≤ p) (p1 : p < k) : Rp k (sP k p (vir v)) (lb v p) := (rp_vir hl).lb hk (vir_pr hl hk) p0 p1
theorem lb_vir (hl : (v.length : Int) = k) (hk : 2 ≤ k) {p : Int} (p0 : 0 ≤ p) (p1 : p < k) : vir (lb v p) = sP k p (vir v) := funext fun i => (lb_rp hl hk p0 p1).vir hk (sP_pr (vir_pr hl hk)) i
theorem sP_at (hk : 2 ≤ k) (p : Int) (P : Int → Int) : sP k p P p = P (p + 1) ∧ sP k p P (p + 1) = P p := by
  unfold sP
  refine ⟨by rw [if_pos (by rw [Int.sub_self, Int.zero_emod])], ?_⟩
  have n1 : ¬ (p + 1 - p) % k = 0 := by
    rw [show p + 1 - p = 1 by omega, Int.emod_eq_of_lt (by decide) (by omega)]
    decide
  rw [if_neg n1, if_pos (by rw [show p + 1 - p - 1 = 0 by omega, Int.zero_emod]), show p + 1 - 1 = p by omega]
theorem sP_sP (hk : 2 ≤ k) (p : Int) (P : Int → Int) : sP k p (sP k p P) = P := by
  funext a
  by_cases a1 : (a - p) % k = 0
  · have b : ¬ (a + 1 - p) % k = 0 := fun z => mod_next hk z (by rw [show a + 1 - p - 1 = a - p by omega]; exact a1)
    show (if (a - p) % k = 0 then sP k p P (a + 1) else _) = _
    rw [if_pos a1]
    unfold sP
    rw [if_neg b, if_pos (by rw [show a + 1 - p - 1 = a - p by omega]; exact a1), show a + 1 - 1 = a by omega]
  · by_cases a2 : (a - p - 1) % k = 0
    · show (if (a - p) % k = 0 then _ else if (a - p - 1) % k = 0 then sP k p P (a - 1) else _) = _
      rw [if_neg a1, if_pos a2]
      unfold sP
      rw [if_pos (by rw [show a - 1 - p = a - p - 1 by omega]; exact a2), show a - 1 + 1 = a by omega]
    · show (if (a - p) % k = 0 then _ else if (a - p - 1) % k = 0 then _ else sP k p P a) = _
      rw [if_neg a1, if_neg a2]
      unfold sP
      rw [if_neg a1, if_neg a2]
/-- taken away and put back -/
theorem lb_back (hl : (v.length : Int) = k) (hk : 2 ≤ k) {p : Int} (p0 : 0 ≤ p) (p1 : p < k) (h : df v p = true) : (if df (lb v p) p then lb v p else lb (lb v p) p) = v := by
  have l2 : ((lb v p).length : Int) = k := by rw [lb_len]; exact hl
  have d1 : vir v (p + 1) < vir v p := by
    have := (rp_vir hl).df hk (vir_pr hl hk) p0 p1
    rw [this] at h
    exact of_decide_eq_true h
  have e := lb_vir hl hk p0 p1
  have s := sP_at hk p (vir v)
  have d2 : df (lb v p) p = false := by
    rw [(rp_vir l2).df hk (vir_pr l2 hk) p0 p1, e, s.1, s.2]
    exact decide_eq_false (by omega)
  rw [d2, if_neg Bool.false_ne_true]
  have r2 := lb_rp l2 hk p0 p1
  rw [e, sP_sP hk] at r2
  exact r2.uniq (rp_vir hl)
theorem sq_up (x : Int) : (x + 1) * (x + 1) = x * x + 2 * x + 1 := by
  rw [Int.add_mul, Int.mul_add]
  omega
/-- squares of the steps -/
def mes (k : Int) (P : Int → Int) : Int := sm k.toNat fun i => (P i - i) * (P i - i)
theorem sm_two {n : Nat} {f g : Nat → Int} {i j : Nat} {a b : Int} (hi : i < n) (hj : j < n) (hij : i ≠ j) (ei : f i = g i + a) (ej : f j = g j + b) (h : ∀ x, x < n → x ≠ i → x ≠ j → f x = g x) : sm n f = sm n g + a + b := by
  have e : sm n f = sm n fun x => (g x + if x = i then a else 0) + if x = j then b else 0 := sm_congr fun x hx => by
    by_cases q : x = i
    · subst q
      rw [if_pos rfl, if_neg hij, ei]
      omega
    · by_cases q2 : x = j
      · subst q2
        rw [if_neg q, if_pos rfl, ej]
        omega
      · rw [if_neg q, if_neg q2, h x hx q q2]
        omega
  rw [e, sm_add, sm_add, sm_one (p := fun x : Nat => x = i) i hi rfl (fun _ _ z => z), sm_one (p := fun x : Nat => x = j) j hj rfl (fun _ _ z => z)]
theorem mes_nn (k : Int) (P : Int → Int) : 0 ≤ mes k P := by
  unfold mes
  have : ∀ n : Nat, 0 ≤ sm n fun i => (P i - i) * (P i - i) := by
    intro n
    induction n with
    | zero => exact Int.le_refl 0
    | succ n ih =>
      show 0 ≤ sm n _ + (P n - n) * (P n - n)
      have : 0 ≤ (P n - n) * (P n - n) := by
        rcases Int.le_total 0 (P n - n) with z | z
        · exact Int.mul_nonneg z z
        · exact Int.mul_nonneg_of_nonpos_of_nonpos z z
      omega
  exact this _
theorem mes_dn {P : Int → Int} (hk : 2 ≤ k) (pr : ∀ i j, P (i + k * j) = P i + k * j) {p : Int} (p0 : 0 ≤ p) (p1 : p < k) (h : P (p + 1) < P p) : mes k (sP k p P) + 2 ≤ mes k P := by
  obtain ⟨s1, s2⟩ := sP_at hk p P
  have q1 := sq_up (P p - p - 1)
  have q2 := sq_up (P (p + 1) - p - 1)
  rw [show P p - p - 1 + 1 = P p - p by omega] at q1
  rw [show P (p + 1) - p - 1 + 1 = P (p + 1) - p by omega] at q2
  have keep : ∀ i : Nat, i < k.toNat → (i : Int) ≠ p → (i : Int) ≠ p + 1 → (i : Int) ≠ p + 1 - k → sP k p P i = P i := fun i hi a b c => by
    unfold sP
    rw [if_neg, if_neg]
    · intro z
      rcases (modz1 hk (by omega) (by omega)).mp z with z | z <;> omega
    · intro z
      have := (modz (by omega) (by omega)).mp z
      omega
  by_cases e : p + 1 < k
  · have t := sm_two (n := k.toNat) (f := fun i : Nat => (sP k p P i - i) * (sP k p P i - i)) (g := fun i : Nat => (P i - i) * (P i - i)) (i := p.toNat) (j := (p + 1).toNat) (a := (P (p + 1) - p) * (P (p + 1) - p) - (P p - p) * (P p - p)) (b := (P p - p - 1) * (P p - p - 1) - (P (p + 1) - p - 1) * (P (p + 1) - p - 1))
      (by omega) (by omega) (by omega) (by rw [show ((p.toNat : Nat) : Int) = p by omega, s1]; omega)
      (by rw [show (((p + 1).toNat : Nat) : Int) = p + 1 by omega, s2, show P p - (p + 1) = P p - p - 1 by omega, show P (p + 1) - (p + 1) = P (p + 1) - p - 1 by omega]; omega)
      (fun x hx a b => by rw [keep x hx (by omega) (by omega) (by omega)])
    unfold mes
    rw [t]
    omega
  · have ep : p = k - 1 := by omega
    have w := pr 0 1
    rw [Int.mul_one, show (0 : Int) + k = p + 1 by omega] at w
    have s3 : sP k p P 0 = P p - k := by
      have := sP_pr (p := p) pr 0 1
      rw [Int.mul_one, show (0 : Int) + k = p + 1 by omega, s2] at this
      omega
    have t := sm_two (n := k.toNat) (f := fun i : Nat => (sP k p P i - i) * (sP k p P i - i)) (g := fun i : Nat => (P i - i) * (P i - i)) (i := p.toNat) (j := 0) (a := (P (p + 1) - p) * (P (p + 1) - p) - (P p - p) * (P p - p)) (b := (P p - p - 1) * (P p - p - 1) - (P (p + 1) - p - 1) * (P (p + 1) - p - 1))
      (by omega) (by omega) (by omega) (by rw [show ((p.toNat : Nat) : Int) = p by omega, s1]; omega)
      (by rw [show (((0 : Nat)) : Int) = 0 by omega, s3, show P p - k - 0 = P p - p - 1 by omega, show P 0 - 0 = P (p + 1) - p - 1 by omega]; omega)
      (fun x hx a b => by rw [keep x hx (by omega) (by omega) (by omega)])
    unfold mes
    rw [t]
    omega
theorem wi_ex (hk : 2 ≤ k) : ∀ (N : Nat) (v : List Int), (v.length : Int) = k → (∀ i j, vir v i = vir v j → i = j) → mes k (vir v) ≤ 2 * N + 1 →
    ∃ ls v', Wi v ls v' ∧ ls.length ≤ N ∧ (∀ p : Int, p ∈ ls → 0 ≤ p ∧ p < k) ∧ gb v' ls.reverse = v ∧ (v'.length : Int) = k ∧ (∀ i j, vir v' i = vir v' j → i = j) ∧ ff v' = none ∧ v'.sum = v.sum := by
  intro N
  induction N with
  | zero =>
    intro v hl inj hm
    cases z : ff v with
    | none => exact ⟨[], v, .nil z, Nat.le_refl _, fun p h => (nomatch h), rfl, hl, inj, z, rfl⟩
    | some p =>
      exfalso
      have d := List.find?_some (show (rgs 0 v.length).find? (fun p => df v p) = some p from z)
      have hp := rgs_mem (List.mem_of_find?_eq_some (show (rgs 0 v.length).find? (fun p => df v p) = some p from z))
      rw [(rp_vir hl).df hk (vir_pr hl hk) (by omega) (by omega)] at d
      have := mes_dn hk (vir_pr hl hk) (by omega) (by omega) (of_decide_eq_true d)
      have := mes_nn k (sP k p (vir v))
      omega
  | succ N ih =>
    intro v hl inj hm
    cases z : ff v with
    | none => exact ⟨[], v, .nil z, Nat.zero_le _, fun p h => (nomatch h), rfl, hl, inj, z, rfl⟩
    | some p =>
      have d := List.find?_some (show (rgs 0 v.length).find? (fun p => df v p) = some p from z)
      have hp := rgs_mem (List.mem_of_find?_eq_some (show (rgs 0 v.length).find? (fun p => df v p) = some p from z))
      have d0 : df v p = true := d
      rw [(rp_vir hl).df hk (vir_pr hl hk) (by omega) (by omega)] at d
      have m := mes_dn hk (vir_pr hl hk) (by omega) (by omega) (of_decide_eq_true d)
      have e := lb_vir hl hk (p := p) (by omega) (by omega)
      obtain ⟨ls, v', w, ll, lp, bk, l', i', f', s'⟩ := ih (lb v p) (by rw [lb_len]; exact hl) (by rw [e]; exact fun i j q => sP_inj hk inj i j q) (by rw [e]; omega)
      refine ⟨p :: ls, v', .cons z w, by rw [List.length_cons]; omega, fun x hx => ?_, ?_, l', i', f', by rw [s', lb_sum (by omega) (by omega) (by omega)]⟩
      · rcases List.mem_cons.mp hx with rfl | hx
        · exact ⟨by omega, by omega⟩
        · exact lp x hx
      · rw [List.reverse_cons]
        unfold gb at bk ⊢
        rw [List.foldl_append, bk]
        exact lb_back hl hk (by omega) (by omega) d0
theorem sum_rgL (c : Int) (n : Nat) : (rgs c n).sum = c * n + (rgs 0 n).sum := by
  induction n with
  | zero => simp [rgs]
  | succ n ih =>
    have e : ∀ c : Int, (rgs c (n + 1)).sum = (rgs c n).sum + (c + n) := fun c => by
      unfold rgs
      rw [List.range_succ, List.map_append, List.sum_append]
      simp
    rw [e, e, ih]
    have : c * ((n + 1 : Nat) : Int) = c * n + c := by rw [Int.natCast_add, Int.mul_add]; simp
    omega
/-- no falls, no shift: the map that leaves all -/
theorem wi_end (hk : 2 ≤ k) (h6 : k ≤ 6) (hl : (v.length : Int) = k) (inj : ∀ i j, vir v i = vir v j → i = j) (hf : ff v = none) (hs : Sm0 v) : v = rgs 0 k.toNat := by
  have up : ∀ p, 0 ≤ p → p < k → vir v p + 1 ≤ vir v (p + 1) := fun p p0 p1 => by
    have := List.find?_eq_none.mp (show (rgs 0 v.length).find? (fun p => df v p) = none from hf) p (by unfold rgs; exact List.mem_map.mpr ⟨p.toNat, List.mem_range.mpr (by omega), by omega⟩)
    rw [(rp_vir hl).df hk (vir_pr hl hk) p0 p1] at this
    have n1 : ¬ vir v (p + 1) < vir v p := fun z => this (decide_eq_true z)
    have n2 : vir v (p + 1) ≠ vir v p := fun z => by
      have := inj _ _ z
      omega
    omega
  have lo : ∀ i : Nat, (i : Int) ≤ k → vir v 0 + i ≤ vir v i := by
    intro i
    induction i with
    | zero => intro _; show vir v 0 + 0 ≤ vir v 0; omega
    | succ i ih =>
      intro hi
      have := ih (by omega)
      have := up i (by omega) (by omega)
      rw [show ((i + 1 : Nat) : Int) = (i : Int) + 1 by omega]
      omega
  have hi : ∀ d : Nat, (d : Int) ≤ k → vir v (k - d) ≤ vir v 0 + k - d := by
    intro d
    induction d with
    | zero =>
      intro _
      have := vir_pr hl hk 0 1
      rw [Int.mul_one, Int.zero_add] at this
      show vir v (k - 0) ≤ _
      rw [show k - 0 = k by omega]
      omega
    | succ d ih =>
      intro hd
      have q := ih (by omega)
      have := up (k - ((d + 1 : Nat) : Int)) (by omega) (by omega)
      rw [show k - ((d + 1 : Nat) : Int) + 1 = k - d by omega] at this
      omega
  have val : ∀ i, 0 ≤ i → i < k → gt v i = vir v 0 + i := fun i i0 i1 => by
    have a := lo i.toNat (by omega)
    have b := hi (k - i).toNat (by omega)
    have e : ((i.toNat : Nat) : Int) = i := by omega
    have e2 : k - (((k - i).toNat : Nat) : Int) = i := by omega
    rw [e] at a
    rw [e2] at b
    rw [(rp_vir hl).val i i0 i1]
    omega
  have ev : v = rgs (vir v 0) k.toNat := ext_gt (by rw [rgs_len]; omega) fun i i0 i1 => by rw [val i i0 (by omega), gt_rgs i0 (by omega)]
  have s0 : Sm0 (rgs 0 k.toNat) := sm0_id hk h6
  have e1 := sum_rgL (vir v 0) k.toNat
  rw [← ev] at e1
  unfold Sm0 at hs s0
  rw [rgs_len, show ((k.toNat : Nat) : Int) = k by omega] at s0
  rw [hl] at hs
  rw [show ((k.toNat : Nat) : Int) = k by omega] at e1
  have z : vir v 0 * k = 0 := by omega
  have : vir v 0 = 0 := by
    rcases Int.mul_eq_zero.mp z with z | z
    · exact z
    · omega
  rw [this] at ev
  exact ev
end
end Dd
set_option maxHeartbeats 200000
/-! Words on both sides: the maps of words as lists, greedy products. -/
namespace Dd
open Rg
/-- letters of a word -/
def Lt (k : Int) (u : List Int) : Prop := ∀ p : Int, p ∈ u → 0 ≤ p ∧ p < k
theorem Lt.app {k : Int} {u w : List Int} (h : Lt k u) (h' : Lt k w) : Lt k (u ++ w) := fun p q => (List.mem_append.mp q).elim (h p) (h' p)
theorem Lt.rev {k : Int} {u : List Int} (h : Lt k u) : Lt k u.reverse := fun p q => h p (List.mem_reverse.mp q)
section
variable {k : Int} (hk : 2 ≤ k) (h6 : k ≤ 6)
include hk h6
/-- falls: few -/
theorem fl_le (w : List Int) : fl k (Pw k w) ≤ w.length := by
  have key : ∀ n (w : List Int), w.length = n → fl k (Pw k w) ≤ w.length := by
    intro n
    induction n with
    | zero =>
      intro w hw
      have : w = [] := List.length_eq_zero_iff.mp hw
      subst this
      exact Int.le_of_eq (fl_id hk h6)
    | succ n ih =>
      intro w hw
      have hne : w ≠ [] := fun z => by rw [z] at hw; cases hw
      obtain ⟨w', m, rfl⟩ : ∃ w' m, w = w' ++ [m] := ⟨w.dropLast, w.getLast hne, (List.dropLast_concat_getLast hne).symm⟩
      rw [List.length_append] at hw
      have hl : w'.length = n := by simpa using hw
      have q := ih w' hl
      have e : ((w' ++ [m]).length : Int) = w'.length + 1 := by rw [List.length_append]; simp
      rw [e]
      by_cases z : Ris k m (Tw k w')
      · rw [Pw_ris hk z, fl_sw hk h6 (tab_Pw hk w') (good_Tw hk w') z]
        omega
      · rw [Pw_idle hk z]
        omega
  exact key _ w rfl
theorem rok_Mw {u v : List Int} (hv : Rp k (Mw k u) v) (hn : u.length ≤ 900) : Rok v := hv.rok hk h6 (tab_Mw hk u) (good_Mw hk u) (by omega)
theorem flv_Mw {u v : List Int} (hv : Rp k (Mw k u) v) : Dd.flv v ≤ u.length := by
  rw [hv.flv, Mw_Pw]
  have := fl_le hk h6 u.reverse
  rwa [List.length_reverse] at this
theorem gm_ok {ls : List Int} (h : Lt k ls) (hn : ls.length ≤ 900) : Gm k ls := by
  have hv := rp_gmd hk h
  exact ⟨⟨hk, by omega, hn, h⟩, rok_Mw hk h6 hv hn, Int.le_trans (flv_Mw hk h6 hv) (by omega)⟩
theorem tm_ok {u1 u2 v1 v2 : List Int} (h1 : Rp k (Mw k u1) v1) (h2 : Rp k (Mw k u2) v2) (n1 : u1.length ≤ 900) (n2 : u2.length ≤ 900) : Tm v1 v2 := by
  have l1 := h1.len
  have l2 := h2.len
  exact ⟨⟨rok_Mw hk h6 h1 n1, rok_Mw hk h6 h2 n2, by omega⟩, Int.le_trans (flv_Mw hk h6 h1) (by omega), Int.le_trans (flv_Mw hk h6 h2) (by omega)⟩
/-- the falls of a map of a short word can be taken away -/
theorem wi_Mw {u v : List Int} (hv : Rp k (Mw k u) v) (h0 : Sm0 v) (hn : u.length ≤ 9) : ∃ ls v', Wi v ls v' ∧ ls.length ≤ 900 ∧ Lt k ls ∧ Dd.sh v' = 0 ∧ Mw k ls.reverse = Mw k u := by
  have hl := hv.len
  have e : Dd.vir v = Mw k u := funext fun i => hv.vir hk (pr_Mw hk u) i
  have b := tab_bd (tab_Mw hk u) (good_Mw hk u)
  have hm : mes k (Dd.vir v) ≤ 2 * ((900 : Nat) : Int) + 1 := by
    rw [e]
    have one : ∀ i : Nat, i < k.toNat → (Mw k u i - i) * (Mw k u i - i) ≤ 81 := fun i _ => by
      have := b i
      have key : ∀ x : Int, -9 ≤ x → x ≤ 9 → x * x ≤ 81 := fun x x0 x1 => by
        rcases Int.le_total 0 x with z | z
        · have := Int.mul_le_mul x1 x1 z (by decide); omega
        · have := Int.mul_le_mul (show -x ≤ 9 by omega) (show -x ≤ 9 by omega) (by omega) (by decide)
          rw [Int.neg_mul_neg] at this
          omega
      exact key _ (by omega) (by omega)
    have := sm_le one
    unfold mes
    have e6 : (k.toNat : Int) * 81 ≤ 6 * 81 := Int.mul_le_mul_of_nonneg_right (by omega) (by decide)
    omega
  obtain ⟨ls, v', w, ll, lp, bk, l', i', f', s'⟩ := wi_ex hk 900 v hl (by rw [e]; exact fun i j q => tab_inj (tab_Mw hk u) (good_Mw hk u) q) hm
  have s0' : Sm0 v' := by
    unfold Sm0 at h0 ⊢
    rw [s', h0]
    rw [show (v'.length : Int) = v.length by omega]
  have ev := wi_end hk h6 l' i' f' s0'
  refine ⟨ls, v', w, ll, lp, s0'.sh, ?_⟩
  have q := rp_gb hk ls.reverse [] v' (Lt.rev lp) (by rw [ev]; exact rp_id hk)
  rw [bk, List.nil_append] at q
  have lq := q.vir hk (pr_Mw hk _)
  funext i
  rw [← lq, ← hv.vir hk (pr_Mw hk u)]
theorem Mw_app (u w : List Int) : Mw k (u ++ w) = mw k w (Mw k u) := mw_app k u w _
/-- the greedy product of two maps of words -/
theorem gb_ok {u1 u2 v1 v2 v : List Int} (h1 : Rp k (Mw k u1) v1) (h2 : Rp k (Mw k u2) v2) (z2 : Sm0 v2) (n1 : u1.length ≤ 800) (n2 : u2.length ≤ 9) (hv : Rp k (Mw k (u1 ++ u2)) v) : GB v1 v2 v := by
  obtain ⟨ls, v2', w, ll, lp, s0, em⟩ := wi_Mw hk h6 h2 z2 n2
  have l1 := h1.len
  have l2 := h2.len
  have e : Mw k (u1 ++ ls.reverse) = Mw k (u1 ++ u2) := by
    rw [Mw_app hk h6, Mw_app hk h6]
    exact mw_same hk em u1
  have r : Rp k (Mw k (u1 ++ u2)) (grd v1 v2' ls) := by
    unfold grd
    rw [s0, wsh0 (by omega), ← e]
    exact rp_gb hk ls.reverse u1 v1 (Lt.rev lp) h1
  have ev := hv.uniq r
  have hn : (u1 ++ u2).length ≤ 900 := by rw [List.length_append]; omega
  exact ⟨ls, v2', ⟨tm_ok hk h6 h1 h2 (by omega) (by omega), ⟨by omega, w, ll, fun p hp => ⟨(lp p hp).1, by have := (lp p hp).2; omega⟩⟩, rok_Mw hk h6 r hn, Int.le_trans (flv_Mw hk h6 r) (by omega)⟩, ev⟩
end
end Dd
set_option maxHeartbeats 200000
/-! Heaps and columns. -/
namespace Dd
open Rg
/-- a column of a table: n letters -/
structure Col (n : Int) (r : Int → Int) : Prop where
  cm : ∀ c, r (c + 1) ≤ r c ∧ r c ≤ r (c + 1) + 1
  low : ∀ c, n + 1 ≤ c → r c = 0
  high : ∀ c, c ≤ 1 - n → r c = 1 - c
theorem Col.of {k n : Int} {r : Rg.Tb} (g : Good k n r) : Col n (r 0) := ⟨fun c => g.cm 0 c, fun c h => g.low 0 c (by omega), fun c h => by rw [g.high 0 c (by omega)]; omega⟩
def tL1 (k m : Int) (r : Int → Int) : Int → Int := fun c => if (c - m - 1) % k = 0 then min (r (c - 1)) (r (c + 1) + 1) else r c
/-- h stands over the column r -/
def HR (f : Int → Int) (r : Int → Int) : Prop := ∀ c : Int, 0 ≤ c → r (f c - c) = c + 1 ∧ r (f c - c + 1) = c
section
variable {n : Int} {r r' : Int → Int} {f f' : Int → Int} {k m l : Int}
theorem Col.anti (C : Col n r) {x y : Int} (h : x ≤ y) : r y ≤ r x := by
  have key : ∀ (d : Nat) (x : Int), r (x + d) ≤ r x := by
    intro d
    induction d with
    | zero => intro x; simp
    | succ d ih =>
      intro x
      have := ih x
      have := (C.cm (x + d)).1
      rw [show x + ((d + 1 : Nat) : Int) = x + d + 1 by omega]
      omega
  have := key (y - x).toNat x
  rwa [show x + ((y - x).toNat : Int) = y by omega] at this
theorem Col.nn (C : Col n r) (x : Int) : 0 ≤ r x := by
  have := C.anti (show x ≤ max x (n + 1) by omega)
  rw [C.low _ (by omega)] at this
  exact this
theorem HR.dn (C : Col n r) (h : HR f r) {c : Int} (c0 : 0 ≤ c) : f (c + 1) ≤ f c := by
  have a := h c c0
  have b := h (c + 1) (by omega)
  apply Classical.byContradiction
  intro hn
  have := C.anti (show f c - c ≤ f (c + 1) - (c + 1) by omega)
  omega
theorem HR.nnf (C : Col n r) (h : HR f r) {c : Int} (c0 : 0 ≤ c) : 0 ≤ f c := by
  apply Classical.byContradiction
  intro hn
  have key : ∀ d : Nat, f (c + d) ≤ f c := by
    intro d
    induction d with
    | zero => simp
    | succ d ih =>
      have := h.dn C (c := c + d) (by omega)
      rw [show c + ((d + 1 : Nat) : Int) = c + d + 1 by omega]
      omega
  have q := key (n - c).toNat
  have b := (h (c + ((n - c).toNat : Nat)) (by omega)).2
  rw [C.high _ (by omega)] at b
  omega
theorem HR.le (C : Col n r) {n' : Int} (C' : Col n' r') (h : HR f r) (h' : HR f' r') : (∀ x, r x ≤ r' x) ↔ ∀ c, 0 ≤ c → f c ≤ f' c := by
  constructor
  · intro le c c0
    have a := h c c0
    have b := h' c c0
    apply Classical.byContradiction
    intro hn
    have := C'.anti (show f' c - c + 1 ≤ f c - c by omega)
    have := le (f c - c)
    omega
  · intro le x
    rcases (by have := C.nn x; omega : r x = 0 ∨ 1 ≤ r x) with z | z
    · have := C'.nn x
      omega
    · have a := h (r x - 1) (by omega)
      have b := h' (r x - 1) (by omega)
      have l1 := le (r x - 1) (by omega)
      have l2 : x ≤ f (r x - 1) - (r x - 1) := by
        apply Classical.byContradiction
        intro hn
        have := C.anti (show f (r x - 1) - (r x - 1) + 1 ≤ x by omega)
        omega
      have := C'.anti (show x ≤ f' (r x - 1) - (r x - 1) by omega)
      omega
theorem HR.one (C : Col n r) (h : HR f r) (h' : HR f' r) {c : Int} (c0 : 0 ≤ c) : f c = f' c := by
  have a := (h.le C C h').mp (fun x => Int.le_refl _) c c0
  have b := (h'.le C C h).mp (fun x => Int.le_refl _) c c0
  omega
theorem HR.col (C : Col n r) {n' : Int} (C' : Col n' r') (h : HR f r) (h' : HR f r') : r = r' := by
  funext x
  have a := (h.le C C' h').mpr (fun c _ => Int.le_refl _) x
  have b := (h'.le C' C h).mpr (fun c _ => Int.le_refl _) x
  omega
/-- what stands up to 0 -/
theorem HR.val (C : Col n r) (h : HR f r) (x : Int) : r x - r (x + 1) = 1 ↔ ∃ c, 0 ≤ c ∧ f c - c = x := by
  constructor
  · intro e
    have c0 := C.nn (x + 1)
    have a := h (r (x + 1)) c0
    refine ⟨r (x + 1), c0, ?_⟩
    have l1 : x ≤ f (r (x + 1)) - r (x + 1) := by
      apply Classical.byContradiction
      intro hn
      have := C.anti (show f (r (x + 1)) - r (x + 1) + 1 ≤ x by omega)
      omega
    have l2 : f (r (x + 1)) - r (x + 1) ≤ x := by
      apply Classical.byContradiction
      intro hn
      have := C.anti (show x + 1 ≤ f (r (x + 1)) - r (x + 1) by omega)
      omega
    omega
  · rintro ⟨c, c0, rfl⟩
    have a := h c c0
    omega
/-- the squares that are added -/
def adb (f : Int → Int) (k l c : Int) : Bool := decide (c = 0 ∨ f c < f (c - 1)) && decide ((c - f c - l) % k = 0)
theorem HR.grow (C : Col n r) (h : HR f r) (hk : 2 ≤ k) (hm : (m + l) % k = 0) : HR (fun c => f c + bI (adb f k l c)) (tL1 k m r) := by
  intro c c0
  have a := h c c0
  have md : ∀ x, (x - m) % k = 0 ↔ (-x - l) % k = 0 := fun x => by
    obtain ⟨y, hy⟩ := dvd_of hm
    constructor
    · intro z
      obtain ⟨w, hw⟩ := dvd_of z
      rw [show -x - l = k * (-w - y) by rw [Int.mul_sub, Int.mul_neg]; omega, Int.mul_emod_right]
    · intro z
      obtain ⟨w, hw⟩ := dvd_of z
      rw [show x - m = k * (-w - y) by rw [Int.mul_sub, Int.mul_neg]; omega, Int.mul_emod_right]
  have mv := md (f c - c)
  rw [show -(f c - c) - l = c - f c - l by omega] at mv
  show tL1 k m r (f c + bI (adb f k l c) - c) = c + 1 ∧ tL1 k m r (f c + bI (adb f k l c) - c + 1) = c
  generalize hv : f c - c = v at *
  by_cases q : adb f k l c = true
  · rw [q]
    have q' := q
    unfold adb at q'
    rw [Bool.and_eq_true] at q'
    have q1 := of_decide_eq_true q'.1
    have q2 := mv.mpr (of_decide_eq_true q'.2)
    rw [show f c + bI true - c = v + 1 by show f c + 1 - c = v + 1; omega]
    have up : r (v + 1 + 1) = c := by
      rcases q1 with z | z
      · have := C.anti (show v + 1 ≤ v + 1 + 1 by omega)
        have := C.nn (v + 1 + 1)
        omega
      · by_cases e : c = 0
        · have := C.anti (show v + 1 ≤ v + 1 + 1 by omega)
          have := C.nn (v + 1 + 1)
          omega
        have b := h (c - 1) (by omega)
        have := C.anti (show v + 1 + 1 ≤ f (c - 1) - (c - 1) by omega)
        have := C.anti (show v + 1 ≤ v + 1 + 1 by omega)
        omega
    constructor
    · unfold tL1
      rw [if_pos (by rw [show v + 1 - m - 1 = v - m by omega]; exact q2), show v + 1 - 1 = v by omega, up]
      omega
    · unfold tL1
      rw [if_neg, up]
      intro z
      exact mod_next hk z (by rw [show v + 1 + 1 - m - 1 - 1 = v - m by omega]; exact q2)
  · rw [show f c + bI (adb f k l c) - c = v by rw [Bool.not_eq_true _ |>.mp q]; show f c + 0 - c = v; omega]
    constructor
    · unfold tL1
      split
      · have := C.anti (show v - 1 ≤ v by omega)
        omega
      · exact a.1
    · unfold tL1
      split
      · rename_i z
        rw [show v + 1 - m - 1 = v - m by omega] at z
        have cond := mv.mp z
        have ne : ¬ (c = 0 ∨ f c < f (c - 1)) := fun y => q (by unfold adb; rw [decide_eq_true y, decide_eq_true cond]; rfl)
        have c1 : 0 ≤ c - 1 := by omega
        have b := h (c - 1) c1
        have dn := h.dn C c1
        rw [show c - 1 + 1 = c by omega] at dn
        have e : f (c - 1) = f c := by omega
        rw [e, show f c - (c - 1) = v + 1 by omega] at b
        rw [show v + 1 - 1 = v by omega]
        omega
      · exact a.2
end
end Dd
set_option maxHeartbeats 200000
/-! Heaps as lists; the cores of words. -/
namespace Dd
open Rg
theorem gt_out {h : List Int} {c : Int} (q : (h.length : Int) ≤ c) : gt h c = 0 := by
  unfold gt
  rw [List.getD_eq_getElem?_getD, List.getElem?_eq_none (by omega)]
  rfl
theorem gt_hs0 {h : List Int} {c : Int} (c0 : 0 ≤ c) : gt (hs0 h) c = gt h c := by
  by_cases q : c < h.length
  · exact hs0_lt c0 q
  · rw [gt_out (h := h) (by omega)]
    by_cases e : c = h.length
    · exact hs0_end e
    · exact gt_out (by rw [hs0_len]; omega)
theorem gt_cons0 (x : Int) (t : List Int) : gt (x :: t) 0 = x := rfl
theorem gt_consS (x : Int) (t : List Int) {c : Int} (c0 : 0 ≤ c) : gt (x :: t) (c + 1) = gt t c := by
  unfold gt
  rw [show (c + 1).toNat = c.toNat + 1 by omega]
  rfl
/-- without its zeros -/
theorem gt_filter : ∀ (xs : List Int), (∀ x, x ∈ xs → 0 ≤ x) → (∀ c, 0 ≤ c → gt xs (c + 1) ≤ gt xs c) → ∀ c, 0 ≤ c → gt (xs.filter fun x => decide (0 < x)) c = gt xs c
  | [], _, _, c, _ => rfl
  | x :: t, hn, hd, c, c0 => by
    have hd' : ∀ c, 0 ≤ c → gt t (c + 1) ≤ gt t c := fun c c0 => by
      have := hd (c + 1) (by omega)
      rwa [gt_consS x t (c := c + 1) (by omega), gt_consS x t c0] at this
    by_cases q : 0 < x
    · have ef : (x :: t).filter (fun x => decide (0 < x)) = x :: t.filter fun x => decide (0 < x) := List.filter_cons_of_pos (p := fun x => decide (0 < x)) (decide_eq_true q)
      rw [ef]
      by_cases e : c = 0
      · subst e; rfl
      · have := gt_filter t (fun y hy => hn y (List.mem_cons_of_mem _ hy)) hd' (c - 1) (by omega)
        have e1 := gt_consS x (t.filter fun x => decide (0 < x)) (c := c - 1) (by omega)
        have e2 := gt_consS x t (c := c - 1) (by omega)
        rw [show c - 1 + 1 = c by omega] at e1 e2
        rw [e1, e2, this]
    · have x0 : x = 0 := by have := hn x List.mem_cons_self; omega
      have z : ∀ n : Nat, gt t n ≤ 0 := by
        intro n
        induction n with
        | zero =>
          have := hd 0 (by omega)
          rw [gt_consS x t (c := 0) (by omega), gt_cons0] at this
          show gt t 0 ≤ 0
          omega
        | succ n ih => have := hd' n (by omega); rw [show ((n + 1 : Nat) : Int) = (n : Int) + 1 by omega]; omega
      have zz : ∀ y, y ∈ t → y = 0 := fun y hy => by
        obtain ⟨i, hi, rfl⟩ := List.getElem_of_mem hy
        have a := z i
        unfold gt at a
        rw [List.getD_eq_getElem?_getD, Int.toNat_natCast, List.getElem?_eq_getElem hi] at a
        have a' : t[i] ≤ 0 := a
        have := hn t[i] (List.mem_cons_of_mem _ (List.getElem_mem hi))
        omega
      have e : (x :: t).filter (fun x => decide (0 < x)) = [] := by
        rw [List.filter_eq_nil_iff]
        intro y hy
        rcases List.mem_cons.mp hy with rfl | hy
        · simp [x0]
        · simp [zz y hy]
      rw [e]
      by_cases e : c = 0
      · subst e; rw [gt_cons0, x0]; rfl
      · have e2 := gt_consS x t (c := c - 1) (by omega)
        rw [show c - 1 + 1 = c by omega] at e2
        rw [e2]
        have := z (c - 1).toNat
        rw [show (((c - 1).toNat : Nat) : Int) = c - 1 by omega] at this
        have hg : 0 ≤ gt t (c - 1) := by
          unfold gt
          rw [List.getD_eq_getElem?_getD]
          cases w : t[(c - 1).toNat]? with
          | none => exact Int.le_refl 0
          | some v => rw [zz v (List.mem_of_getElem? w)]; exact Int.le_refl 0
        show 0 = gt t (c - 1)
        omega
/-- positive -/
def Pos (h : List Int) : Prop := ∀ x, x ∈ h → 0 < x
theorem Pos.nn {h : List Int} (p : Pos h) (c : Int) : 0 ≤ gt h c := by
  unfold gt
  rw [List.getD_eq_getElem?_getD]
  cases w : h[c.toNat]? with
  | none => exact Int.le_refl 0
  | some v => exact Int.le_of_lt (p v (List.mem_of_getElem? w))
theorem gt_in {h : List Int} {i : Nat} (hi : i < h.length) : gt h i = h[i] := by
  unfold gt
  rw [List.getD_eq_getElem?_getD, Int.toNat_natCast, List.getElem?_eq_getElem hi]
  rfl
theorem Pos.at_ {h : List Int} (p : Pos h) {c : Int} (c0 : 0 ≤ c) (c1 : c < h.length) : 0 < gt h c := by
  have := gt_in (h := h) (i := c.toNat) (by omega)
  rw [show ((c.toNat : Nat) : Int) = c by omega] at this
  rw [this]
  exact p _ (List.getElem_mem _)
/-- positive heaps with the same heights are the same -/
theorem pos_ext {h h' : List Int} (p : Pos h) (p' : Pos h') (e : ∀ c, 0 ≤ c → gt h c = gt h' c) : h = h' := by
  have l1 : ¬ h.length < h'.length := fun z => by
    have := p'.at_ (c := h.length) (by omega) (by omega)
    rw [← e _ (by omega), gt_out (Int.le_refl _)] at this
    omega
  have l2 : ¬ h'.length < h.length := fun z => by
    have := p.at_ (c := h'.length) (by omega) (by omega)
    rw [e _ (by omega), gt_out (Int.le_refl _)] at this
    omega
  exact ext_gt (by omega) fun i i0 _ => e i i0
theorem ris_pos (h cols : List Int) : Pos (ris h cols) := fun x hx => of_decide_eq_true (List.mem_filter.mp hx).2
theorem gt_risL {h cols : List Int} {c : Int} (c0 : 0 ≤ c) (hc : ∀ x, x ∈ cols → x ≤ h.length) : gt (risL h cols) c = gt h c + bI (decide (c ∈ cols)) := by
  by_cases q : c < h.length + 1
  · unfold risL
    rw [gt_mapR _ c0 (by omega), Int.zero_add, gt_hs0 c0]
  · rw [gt_out (by unfold risL; rw [List.length_map, rgs_len]; omega), gt_out (h := h) (by omega), decide_eq_false (fun z => by have := hc c z; omega)]
    rfl
theorem mem_ac {h : List Int} {c : Int} : c ∈ ac h ↔ (0 ≤ c ∧ c ≤ h.length) ∧ pac h c = true := by
  unfold ac
  rw [List.mem_filter]
  constructor
  · rintro ⟨a, b⟩
    obtain ⟨k, hk, rfl⟩ := rgc_mem a
    exact ⟨⟨by omega, by omega⟩, b⟩
  · rintro ⟨⟨a, a'⟩, b⟩
    refine ⟨?_, b⟩
    unfold rgc
    exact List.mem_map.mpr ⟨(h.length - c).toNat, List.mem_range.mpr (by omega), by omega⟩
theorem pac_iff {h : List Int} {c : Int} (c0 : 0 ≤ c) : pac h c = decide (c = 0 ∨ gt h c < gt h (c - 1)) := by
  unfold pac
  by_cases e : c = 0
  · simp [e]
  · rw [gt_hs0 c0, gt_hs0 (by omega)]
    by_cases q : gt h c < gt h (c - 1) <;> simp [e, q]
theorem grC_dec {h : List Int} {k l c : Int} (c0 : 0 ≤ c) : decide (c ∈ grC h k 1 l) = adb (gt h) k l c := by
  have key : c ∈ grC h k 1 l ↔ adb (gt h) k l c = true := by
    unfold grC adb
    rw [List.mem_filter, mem_ac, pac_iff c0, gt_hs0 c0, Int.mul_one, Bool.and_eq_true]
    constructor
    · rintro ⟨⟨_, a⟩, b⟩; exact ⟨a, b⟩
    · rintro ⟨a, b⟩
      refine ⟨⟨⟨c0, ?_⟩, a⟩, b⟩
      have a' := of_decide_eq_true a
      apply Classical.byContradiction
      intro hn
      rw [gt_out (h := h) (c := c) (by omega), gt_out (h := h) (c := c - 1) (by omega)] at a'
      omega
  by_cases q : c ∈ grC h k 1 l
  · rw [decide_eq_true q, key.mp q]
  · rw [decide_eq_false q]
    cases z : adb (gt h) k l c with
    | false => rfl
    | true => exact absurd (key.mpr z) q
theorem grC_le {h : List Int} {k s l : Int} : ∀ x, x ∈ grC h k s l → x ≤ h.length := fun x hx => (mem_ac.mp (List.mem_filter.mp hx).1).1.2
section
variable {n k m l : Int} {r : Int → Int} {h : List Int}
theorem tL1_col (hk : 2 ≤ k) (C : Col n r) (hn : 0 ≤ n) : Col (n + 1) (tL1 k m r) := by
  have e : ∀ c, r (c - 1) ≥ r c ∧ r (c - 1) ≤ r c + 1 := fun c => by
    have := C.cm (c - 1)
    rw [show c - 1 + 1 = c by omega] at this
    omega
  refine ⟨fun c => ?_, fun c h => ?_, fun c h => ?_⟩
  · unfold tL1
    have e0 := e c
    have e1 := C.cm c
    have e2 := C.cm (c + 1)
    rw [show c + 1 - 1 = c by omega]
    by_cases h1 : (c - m - 1) % k = 0 <;> by_cases h2 : (c + 1 - m - 1) % k = 0 <;> simp only [h1, h2, if_true, if_false] <;> omega
  · unfold tL1
    have e0 := e c
    rw [C.low c (by omega)] at *
    rw [C.low (c + 1) (by omega)]
    have := C.low (c - 1) (by omega)
    split <;> omega
  · unfold tL1
    rw [C.high c (by omega), C.high (c + 1) (by omega), C.high (c - 1) (by omega)]
    split <;> omega
/-- growth of a heap over a column -/
theorem gt_grw (hk : 2 ≤ k) (hn : 0 ≤ n) (C : Col n r) (H : HR (gt h) r) (hm : (m + l) % k = 0) {c : Int} (c0 : 0 ≤ c) : gt (grw h k 1 l) c = gt h c + bI (adb (gt h) k l c) := by
  have G := H.grow C hk hm
  have C' := tL1_col (m := m) hk C hn
  have val : ∀ c, 0 ≤ c → gt (risL h (grC h k 1 l)) c = gt h c + bI (adb (gt h) k l c) := fun c c0 => by
    rw [gt_risL c0 grC_le, grC_dec c0]
  unfold grw ris
  rw [gt_filter _ ?_ ?_ c c0, val c c0]
  · intro x hx
    obtain ⟨i, hi, rfl⟩ := List.getElem_of_mem hx
    rw [← gt_in hi, val _ (by omega)]
    exact G.nnf C' (c := i) (by omega)
  · intro c c0
    rw [val c c0, val (c + 1) (by omega)]
    exact G.dn C' c0
theorem HR.grw (hk : 2 ≤ k) (hn : 0 ≤ n) (C : Col n r) (H : HR (gt h) r) (hm : (m + l) % k = 0) : HR (gt (grw h k 1 l)) (tL1 k m r) := fun c c0 => by
  rw [gt_grw hk hn C H hm c0]
  exact H.grow C hk hm c c0
/-- sizes -/
theorem HR.len (C : Col n r) (H : HR (gt h) r) (p : Pos h) (hn : 0 ≤ n) : (h.length : Int) ≤ n := by
  apply Classical.byContradiction
  intro hz
  have a := (H (h.length - 1) (by omega)).1
  have b := p.at_ (c := h.length - 1) (by omega) (by omega)
  have := C.anti (show 1 - ((h.length : Int) - 1) ≤ gt h (h.length - 1) - (h.length - 1) by omega)
  rw [C.high (1 - ((h.length : Int) - 1)) (by omega)] at this
  omega
theorem HR.hgt (C : Col n r) (H : HR (gt h) r) (hn : 0 ≤ n) {c : Int} (c0 : 0 ≤ c) : gt h c ≤ n := by
  have key : ∀ c : Nat, gt h c ≤ n := by
    intro c
    induction c with
    | zero =>
      apply Classical.byContradiction
      intro hz
      have a := (H 0 (by omega)).1
      have hz' : ¬ gt h 0 ≤ n := hz
      rw [C.low _ (by omega)] at a
      omega
    | succ c ih =>
      have := H.dn C (c := c) (by omega)
      rw [show ((c + 1 : Nat) : Int) = (c : Int) + 1 by omega]
      omega
  have := key c.toNat
  rwa [show ((c.toNat : Nat) : Int) = c by omega] at this
theorem HR.sml (C : Col n r) (H : HR (gt h) r) (p : Pos h) (hn : 0 ≤ n) (hb : n ≤ 60) : Sml h := by
  have := H.len C p hn
  refine ⟨by omega, fun x hx => ?_⟩
  obtain ⟨i, hi, rfl⟩ := List.getElem_of_mem hx
  have a := H.hgt C hn (c := i) (by omega)
  rw [gt_in hi] at a
  have := p _ (List.getElem_mem hi)
  omega
theorem HR.hp0 (C : Col n r) (H : HR (gt h) r) (p : Pos h) (hn : 0 ≤ n) (hb : n ≤ 60) : Hp0 h := by
  have hl := H.len C p hn
  refine ⟨by omega, fun x hx => ?_, fun q hq => ?_⟩
  · obtain ⟨i, hi, rfl⟩ := List.getElem_of_mem hx
    have a := H.hgt C hn (c := i) (by omega)
    rw [gt_in hi] at a
    have := p _ (List.getElem_mem hi)
    omega
  · obtain ⟨i, hi, rfl⟩ := List.getElem_of_mem hq
    rw [List.length_zip, List.length_tail] at hi
    rw [List.getElem_zip, List.getElem_tail]
    have a := H.dn C (c := i) (by omega)
    have e := gt_in (h := h) (i := i + 1) (by omega)
    rw [show ((i + 1 : Nat) : Int) = (i : Int) + 1 by omega] at e
    rw [e, gt_in (h := h) (i := i) (by omega)] at a
    exact a
/-- closed: a core -/
def Cl (k : Int) (r : Int → Int) : Prop := ∀ x, r x - r (x + 1) = 1 → r (x - k) - r (x - k + 1) = 1
theorem mem_bds {b : Int} : b ∈ bds h ↔ ∃ c : Int, 0 ≤ c ∧ c < h.length ∧ b = gt h c - c - 1 := by
  unfold bds
  rw [List.mem_map]
  constructor
  · rintro ⟨c, hc, rfl⟩
    have := rgs_mem hc
    exact ⟨c, by omega, by omega, rfl⟩
  · rintro ⟨c, c0, c1, rfl⟩
    refine ⟨c, ?_, rfl⟩
    unfold rgs
    exact List.mem_map.mpr ⟨c.toNat, List.mem_range.mpr (by omega), by omega⟩
theorem HR.isc (C : Col n r) (H : HR (gt h) r) (hc : Cl k r) : isc k h = true := by
  unfold Dd.isc
  rw [List.all_eq_true]
  intro x hx
  obtain ⟨b, hb, rfl⟩ := List.mem_map.mp hx
  obtain ⟨c, c0, c1, rfl⟩ := mem_bds.mp hb
  have e := (H.val C (gt h c - c)).mpr ⟨c, c0, rfl⟩
  obtain ⟨c', c0', e'⟩ := (H.val C (gt h c - c - k)).mp (hc _ e)
  show (decide _ || decide _) = true
  rw [Bool.or_eq_true]
  by_cases q : c' < h.length
  · right
    exact decide_eq_true (mem_bds.mpr ⟨c', c0', q, by omega⟩)
  · left
    rw [gt_out (by omega)] at e'
    exact decide_eq_true (by omega)
end
end Dd
set_option maxHeartbeats 200000
/-! The cores of words; letters that change nothing left out. -/
namespace Dd
open Rg
/-- the letters of the map -/
def nw (k : Int) (w : List Int) : List Int := w.map fun l => (0 - l) % k
theorem nw_lt {k : Int} (hk : 2 ≤ k) (w : List Int) : Lt k (nw k w) := fun p hp => by
  obtain ⟨l, _, rfl⟩ := List.mem_map.mp hp
  exact ⟨Int.emod_nonneg _ (by omega), Int.emod_lt_of_pos _ (by omega)⟩
theorem nw_len (k : Int) (w : List Int) : (nw k w).length = w.length := by simp [nw]
theorem nw_app (k : Int) (u w : List Int) : nw k (u ++ w) = nw k u ++ nw k w := by unfold nw; rw [List.map_append]
theorem mir_nw (k : Int) (w : List Int) : mir k w = (nw k w).reverse := by unfold mir nw; rw [List.map_reverse]
theorem neg_mod {k l : Int} (hk : 2 ≤ k) : ((0 - l) % k + l) % k = 0 := by
  have d := Int.emod_add_mul_ediv (0 - l) k
  rw [show (0 - l) % k + l = k * (-((0 - l) / k)) by rw [Int.mul_neg]; omega, Int.mul_emod_right]
theorem tL_col (k m : Int) (r : Rg.Tb) : tL k m r 0 = tL1 k m (r 0) := rfl
theorem col_Tw {k : Int} (hk : 2 ≤ k) (u : List Int) : Col u.length (Tw k u 0) := Col.of (good_Tw hk u)
theorem cl_Tw {k : Int} (hk : 2 ≤ k) (u : List Int) : Cl k (Tw k u 0) := fun x e => by
  have g := good_Tw hk u
  have h := tab_Pw hk u
  have p := nn_perN g 0 (x - k) 1
  rw [Int.mul_one, Int.zero_add, show x - k + k = x by omega] at p
  have q := nn_mono h (show (0 : Int) ≤ k by omega) x
  have b := nn01 g k x
  have e' : nn (Tw k u) 0 x = 1 := e
  show nn (Tw k u) 0 (x - k) = 1
  omega
theorem hr_nil : HR (gt []) (r0 0) := fun c c0 => by
  have e : gt [] c = 0 := by unfold gt; simp
  rw [e]
  unfold r0
  omega
/-- the core of a word stands over the column of its letters -/
theorem core_app {k : Int} (hk : 2 ≤ k) : ∀ (w h u : List Int), HR (gt h) (Tw k u 0) → Pos h → HR (gt (w.foldl (fun h l => grw h k 1 l) h)) (Tw k (u ++ nw k w) 0) ∧ Pos (w.foldl (fun h l => grw h k 1 l) h)
  | [], h, u, H, p => by rw [show nw k [] = [] from rfl, List.append_nil]; exact ⟨H, p⟩
  | l :: w, h, u, H, p => by
    have H1 := H.grw hk (by omega) (col_Tw hk u) (neg_mod (l := l) hk)
    rw [← tL_col, ← Tw_snoc] at H1
    have := core_app hk w (grw h k 1 l) (u ++ [(0 - l) % k]) H1 (ris_pos _ _)
    rw [List.append_assoc] at this
    exact this
theorem hr_word {k : Int} (hk : 2 ≤ k) (w : List Int) : HR (gt (cfold k w)) (Tw k (nw k w) 0) := (core_app hk w [] [] hr_nil (fun x h => nomatch h)).1
theorem pos_word {k : Int} (hk : 2 ≤ k) (w : List Int) : Pos (cfold k w) := (core_app hk w [] [] hr_nil (fun x h => nomatch h)).2
theorem cfold_snoc (k : Int) (w : List Int) (l : Int) : cfold k (w ++ [l]) = grw (cfold k w) k 1 l := by unfold cfold; rw [List.foldl_append]; rfl
section
variable {k : Int} (hk : 2 ≤ k) (h6 : k ≤ 6)
include hk h6
theorem sml_word {w : List Int} (hw : w.length ≤ 30) : Sml (cfold k w) := (hr_word hk w).sml (n := w.length) (by have := col_Tw hk (nw k w); rwa [nw_len] at this) (pos_word hk w) (by omega) (by omega)
theorem cw_ok {w : List Int} (hw : w.length ≤ 30) : Cw k w := ⟨⟨hk, by omega⟩, hw, fun j => sml_word hk h6 (by rw [List.length_take]; omega)⟩
theorem co_ok {w : List Int} (hw : w.length ≤ 30) : Co k (cfold k w) := by
  have C : Col (w.length : Int) (Tw k (nw k w) 0) := by have := col_Tw hk (nw k w); rwa [nw_len] at this
  exact ⟨⟨hk, by omega⟩, (hr_word hk w).hp0 C (pos_word hk w) (by omega) (by omega), (hr_word hk w).isc C (cl_Tw hk _)⟩
omit hk h6 in
theorem wo_ok {w : List Int} (hw : w.length ≤ 30) (hl : Lt k w) : Wo k w := ⟨hw, fun p hp => by have := hl p hp; omega⟩
/-- the same heaps: the same columns -/
theorem heap_iff {h h' u u' : List Int} (H : HR (gt h) (Tw k u 0)) (p : Pos h) (H' : HR (gt h') (Tw k u' 0)) (p' : Pos h') : h = h' ↔ Tw k u 0 = Tw k u' 0 := by
  constructor
  · rintro rfl
    exact H.col (col_Tw hk u) (col_Tw hk u') H'
  · intro e
    rw [← e] at H'
    exact pos_ext p p' fun c c0 => H.one (col_Tw hk u) H' c0
theorem col_same {m : Int} {u : List Int} (h : ¬ Ris0 k m (Tw k u)) : tL1 k m (Tw k u 0) = Tw k u 0 := by
  funext c
  unfold tL1
  split
  · rename_i hc
    have g := good_Tw hk u
    have e0 := g.cm 0 (c - 1)
    have e1 := g.cm 0 c
    rw [show c - 1 + 1 = c by omega] at e0
    apply Classical.byContradiction
    intro hn
    apply h
    refine ⟨c, hc, ?_, ?_⟩
    · unfold nn
      rw [show c - 1 + 1 = c by omega]
      omega
    · unfold nn
      omega
  · rfl
theorem col_diff {m : Int} {u : List Int} (h : Ris0 k m (Tw k u)) : tL1 k m (Tw k u 0) ≠ Tw k u 0 := fun e => by
  obtain ⟨c, hc, e1, e0⟩ := h
  have q := congrFun e c
  unfold tL1 at q
  rw [if_pos hc] at q
  unfold nn at e1 e0
  rw [show c - 1 + 1 = c by omega] at e1
  omega
/-- letters that leave the core as it is, left out -/
theorem drop_ok : ∀ (n : Nat) (w : List Int), w.length = n → ∃ u, Grow k u ∧ Lt k u ∧ Tw k u 0 = Tw k (nw k w) 0 ∧ (w.length : Int) - (idl (cws k w w.length)).length = u.length := by
  intro n
  induction n with
  | zero =>
    intro w hw
    have : w = [] := List.length_eq_zero_iff.mp hw
    subst this
    exact ⟨[], .nil, fun p h => (nomatch h), rfl, rfl⟩
  | succ n ih =>
    intro w hw
    have hne : w ≠ [] := fun z => by rw [z] at hw; cases hw
    obtain ⟨w, l, rfl⟩ : ∃ w' l, w = w' ++ [l] := ⟨w.dropLast, w.getLast hne, (List.dropLast_concat_getLast hne).symm⟩
    rw [List.length_append] at hw
    have hl : w.length = n := by simpa using hw
    obtain ⟨u, G, lt, e, ec⟩ := ih w hl
    have m0 := Int.emod_nonneg (0 - l) (show k ≠ 0 by omega)
    have m1 := Int.emod_lt_of_pos (0 - l) (show 0 < k by omega)
    have en : nw k (w ++ [l]) = nw k w ++ [(0 - l) % k] := nw_app k w [l]
    have et : Tw k (nw k (w ++ [l])) 0 = tL1 k ((0 - l) % k) (Tw k u 0) := by rw [en, Tw_snoc, tL_col, e]
    have count : (idl (cws k (w ++ [l]) (w ++ [l]).length)).length = (idl (cws k w w.length)).length + if cfold k w = cfold k (w ++ [l]) then 1 else 0 := by
      have gw : ∀ (w : List Int) (i : Nat), i ≤ w.length → (cws k w w.length).getD i [] = cfold k (w.take i) := fun w i hi => by
        unfold cws
        rw [List.getD_eq_getElem?_getD, List.getElem?_map, List.getElem?_range (by omega)]
        rfl
      have lw : ∀ w : List Int, (cws k w w.length).length - 1 = w.length := fun w => by unfold cws; simp
      have idf : ∀ w : List Int, (idl (cws k w w.length)).length = ((rgs 0 w.length).filter fun i => decide (cfold k (w.take i.toNat) = cfold k (w.take (i.toNat + 1)))).length := fun w => by
        unfold idl
        rw [lw]
        congr 1
        refine List.filter_congr fun x hx => ?_
        have hb := rgs_mem hx
        rw [gw w _ (by omega), gw w _ (by omega)]
      have er : rgs 0 (w ++ [l]).length = rgs 0 w.length ++ [(w.length : Int)] := by
        unfold rgs
        rw [List.length_append, show w.length + [l].length = w.length + 1 from rfl, List.range_succ, List.map_append]
        simp
      rw [idf, idf, er, List.filter_append, List.length_append]
      congr 1
      · congr 1
        refine List.filter_congr fun x hx => ?_
        have hb := rgs_mem hx
        rw [List.take_append_of_le_length (by omega), List.take_append_of_le_length (by omega)]
      · rw [List.filter_cons]
        rw [Int.toNat_natCast, List.take_append_of_le_length (Nat.le_refl _), List.take_length, List.take_of_length_le (by simp)]
        by_cases q : cfold k w = cfold k (w ++ [l])
        · rw [if_pos (decide_eq_true q), if_pos q]; rfl
        · rw [if_neg (by simpa using q), if_neg q]; rfl
    have same := heap_iff hk h6 (hr_word hk w) (pos_word hk w) (hr_word hk (w ++ [l])) (pos_word hk (w ++ [l]))
    rw [et, ← e] at same
    have el : ((w ++ [l]).length : Int) = w.length + 1 := by rw [List.length_append]; simp
    by_cases z : Ris0 k ((0 - l) % k) (Tw k u)
    · refine ⟨u ++ [(0 - l) % k], .snoc G z, lt.app (fun p hp => by rw [List.mem_singleton.mp hp]; exact ⟨m0, m1⟩), ?_, ?_⟩
      · rw [et, Tw_snoc, tL_col]
      · rw [count, if_neg (fun q => col_diff hk h6 z (same.mp q).symm), List.length_append, List.length_append]
        simp
        omega
    · refine ⟨u, G, lt, ?_, ?_⟩
      · rw [et, col_same hk h6 z]
      · rw [count, if_pos (same.mpr (col_same hk h6 z).symm), List.length_append]
        simp
        omega
end
end Dd
set_option maxHeartbeats 200000
/-! Letters taken away from a core. -/
namespace Dd
open Rg
def tLd1 (k m : Int) (r : Int → Int) : Int → Int := fun c => if (c - m - 1) % k = 0 then max (r (c + 1)) (r (c - 1) - 1) else r c
/-- the squares that are taken away -/
def rmb (f : Int → Int) (k l c : Int) : Bool := decide (f (c + 1) < f c) && decide ((c - f c + 1 - l) % k = 0)
section
variable {n k m l : Int} {r : Int → Int} {f : Int → Int} {h : List Int}
theorem md_iff (hm : (m + l) % k = 0) (v : Int) : (v - m - 1) % k = 0 ↔ (-v + 1 - l) % k = 0 := by
  obtain ⟨y, hy⟩ := dvd_of hm
  constructor
  · intro z
    obtain ⟨w, hw⟩ := dvd_of z
    rw [show -v + 1 - l = k * (-w - y) by rw [Int.mul_sub, Int.mul_neg]; omega, Int.mul_emod_right]
  · intro z
    obtain ⟨w, hw⟩ := dvd_of z
    rw [show v - m - 1 = k * (-w - y) by rw [Int.mul_sub, Int.mul_neg]; omega, Int.mul_emod_right]
theorem HR.gap (C : Col n r) (H : HR f r) {c : Int} (c0 : 0 ≤ c) (q : f (c + 1) < f c) : r (f c - c - 1) = c + 1 := by
  have a := H c c0
  have b := H (c + 1) (by omega)
  have := C.anti (show f (c + 1) - (c + 1) + 1 ≤ f c - c - 1 by omega)
  have := C.anti (show f c - c - 1 ≤ f c - c by omega)
  omega
theorem HR.shrink (C : Col n r) (H : HR f r) (hk : 2 ≤ k) (hm : (m + l) % k = 0) : HR (fun c => f c - bI (rmb f k l c)) (tLd1 k m r) := by
  intro c c0
  have a := H c c0
  have mv := md_iff hm (f c - c)
  rw [show -(f c - c) + 1 - l = c - f c + 1 - l by omega] at mv
  have gap := H.gap C c0
  have dn := H.dn C c0
  show tLd1 k m r (f c - bI (rmb f k l c) - c) = c + 1 ∧ tLd1 k m r (f c - bI (rmb f k l c) - c + 1) = c
  have nx := (H (c + 1) (by omega)).1
  generalize hv : f c - c = v at *
  by_cases q : rmb f k l c = true
  · rw [q]
    have q' := q
    unfold rmb at q'
    rw [Bool.and_eq_true] at q'
    have q1 := gap (of_decide_eq_true q'.1)
    have q2 := mv.mpr (of_decide_eq_true q'.2)
    rw [show f c - bI true - c = v - 1 by show f c - 1 - c = v - 1; omega]
    constructor
    · unfold tLd1
      rw [if_neg]
      · exact q1
      · intro z
        exact mod_next hk q2 (by rw [show v - m - 1 - 1 = v - 1 - m - 1 by omega]; exact z)
    · unfold tLd1
      rw [show v - 1 + 1 = v by omega, if_pos q2]
      omega
  · rw [show f c - bI (rmb f k l c) - c = v by rw [Bool.not_eq_true _ |>.mp q]; show f c - 0 - c = v; omega]
    constructor
    · unfold tLd1
      split
      · rename_i z
        have ne : ¬ f (c + 1) < f c := fun y => q (by unfold rmb; rw [decide_eq_true y, decide_eq_true (mv.mp z)]; rfl)
        rw [show f (c + 1) - (c + 1) = v - 1 by omega] at nx
        omega
      · exact a.1
    · unfold tLd1
      split
      · have := C.anti (show v + 1 ≤ v + 1 + 1 by omega)
        rw [show v + 1 - 1 = v by omega]
        omega
      · exact a.2
theorem tLd1_col (hk : 2 ≤ k) (C : Col n r) (hn : 0 ≤ n) : Col (n + 1) (tLd1 k m r) := by
  have e : ∀ c, r (c - 1) ≥ r c ∧ r (c - 1) ≤ r c + 1 := fun c => by
    have := C.cm (c - 1)
    rw [show c - 1 + 1 = c by omega] at this
    omega
  refine ⟨fun c => ?_, fun c h => ?_, fun c h => ?_⟩
  · unfold tLd1
    have e0 := e c
    have e1 := C.cm c
    have e2 := C.cm (c + 1)
    rw [show c + 1 - 1 = c by omega]
    by_cases h1 : (c - m - 1) % k = 0 <;> by_cases h2 : (c + 1 - m - 1) % k = 0 <;> simp only [h1, h2, if_true, if_false] <;> omega
  · unfold tLd1
    have e0 := e c
    rw [C.low c (by omega)] at *
    rw [C.low (c + 1) (by omega)]
    have := C.low (c - 1) (by omega)
    split <;> omega
  · unfold tLd1
    rw [C.high c (by omega), C.high (c + 1) (by omega), C.high (c - 1) (by omega)]
    split <;> omega
theorem Cl.iter (hC : Cl k r) (j : Nat) {x : Int} (h : r x - r (x + 1) = 1) : r (x - k * j) - r (x - k * j + 1) = 1 := by
  induction j with
  | zero => simpa using h
  | succ j ih =>
    have := hC _ ih
    rwa [show x - k * (j : Int) - k = x - k * ((j + 1 : Nat) : Int) by rw [Int.natCast_add, Int.mul_add]; simp; omega] at this
/-- a square can be taken away: none can be added -/
theorem no_add (hk : 2 ≤ k) (C : Col n r) (hC : Cl k r) {c0 : Int} (h0 : (c0 - m - 1) % k = 0) (e0 : r (c0 - 1) = r c0) (e1 : r c0 - r (c0 + 1) = 1) {c : Int} (hc : (c - m - 1) % k = 0) : ¬ (r (c - 1) - r c = 1 ∧ r c = r (c + 1)) := by
  rintro ⟨a, b⟩
  obtain ⟨y, hy⟩ := dvd_of h0
  obtain ⟨z, hz⟩ := dvd_of hc
  have sub : k * (y - z) = k * y - k * z := Int.mul_sub _ _ _
  rcases Int.le_total 0 (y - z) with w | w
  · have := hC.iter (y - z).toNat e1
    rw [Int.toNat_of_nonneg w, show c0 - k * (y - z) = c by omega] at this
    omega
  · have sub2 : k * (z - y) = k * z - k * y := Int.mul_sub _ _ _
    have := hC.iter (z - y).toNat (x := c - 1) (by rw [show c - 1 + 1 = c by omega]; exact a)
    rw [Int.toNat_of_nonneg (by omega), show c - 1 - k * (z - y) = c0 - 1 by omega, show c0 - 1 + 1 = c0 by omega] at this
    omega
theorem regrow (hk : 2 ≤ k) (C : Col n r) (hC : Cl k r) {c0 : Int} (h0 : (c0 - m - 1) % k = 0) (e0 : r (c0 - 1) = r c0) (e1 : r c0 - r (c0 + 1) = 1) : tL1 k m (tLd1 k m r) = r := by
  funext c
  unfold tL1
  by_cases hc : (c - m - 1) % k = 0
  · rw [if_pos hc]
    have n1 : ¬ (c - 1 - m - 1) % k = 0 := fun z => mod_next hk hc (by rw [show c - m - 1 - 1 = c - 1 - m - 1 by omega]; exact z)
    have n2 : ¬ (c + 1 - m - 1) % k = 0 := fun z => mod_next hk z (by rw [show c + 1 - m - 1 - 1 = c - m - 1 by omega]; exact hc)
    unfold tLd1
    rw [if_neg n1, if_neg n2]
    have na := no_add hk C hC h0 e0 e1 hc
    have u1 := C.cm c
    have u0 := C.cm (c - 1)
    rw [show c - 1 + 1 = c by omega] at u0
    omega
  · rw [if_neg hc]
    unfold tLd1
    rw [if_neg hc]
theorem ld_ne {c0 : Int} (h0 : (c0 - m - 1) % k = 0) (e0 : r (c0 - 1) = r c0) (e1 : r c0 - r (c0 + 1) = 1) : tLd1 k m r ≠ r := fun e => by
  have := congrFun e c0
  unfold tLd1 at this
  rw [if_pos h0] at this
  omega
theorem cl_ld (hk : 2 ≤ k) (C : Col n r) (hC : Cl k r) {c0 : Int} (h0 : (c0 - m - 1) % k = 0) (e0 : r (c0 - 1) = r c0) (e1 : r c0 - r (c0 + 1) = 1) : Cl k (tLd1 k m r) := by
  -- what stands: the exchange of m and m + 1
  have at1 : ∀ x, (x - m - 1) % k = 0 → tLd1 k m r x - tLd1 k m r (x + 1) = r (x - 1) - r x := fun x hx => by
    have n2 : ¬ (x + 1 - m - 1) % k = 0 := fun z => mod_next hk z (by rw [show x + 1 - m - 1 - 1 = x - m - 1 by omega]; exact hx)
    unfold tLd1
    rw [if_pos hx, if_neg n2]
    have na := no_add hk C hC h0 e0 e1 hx
    have u1 := C.cm x
    have u0 := C.cm (x - 1)
    rw [show x - 1 + 1 = x by omega] at u0
    omega
  have at0 : ∀ x, (x - m) % k = 0 → tLd1 k m r x - tLd1 k m r (x + 1) = r (x + 1) - r (x + 2) := fun x hx => by
    have n1 : ¬ (x - m - 1) % k = 0 := mod_next hk hx
    have hx' : (x + 1 - m - 1) % k = 0 := by rw [show x + 1 - m - 1 = x - m by omega]; exact hx
    unfold tLd1
    rw [if_neg n1, if_pos hx', show x + 1 - 1 = x by omega, show x + 1 + 1 = x + 2 by omega]
    have na := no_add hk C hC h0 e0 e1 hx'
    rw [show x + 1 - 1 = x by omega, show x + 1 + 1 = x + 2 by omega] at na
    have u1 := C.cm x
    have u2 := C.cm (x + 1)
    rw [show x + 1 + 1 = x + 2 by omega] at u2
    omega
  have at2 : ∀ x, ¬ (x - m) % k = 0 → ¬ (x - m - 1) % k = 0 → tLd1 k m r x - tLd1 k m r (x + 1) = r x - r (x + 1) := fun x h1 h2 => by
    unfold tLd1
    rw [if_neg h2, if_neg (by rw [show x + 1 - m - 1 = x - m by omega]; exact h1)]
  have sub : ∀ x, (x - k) % k = x % k := fun x => by rw [Int.sub_emod, Int.emod_self, Int.sub_zero, Int.emod_emod]
  intro x e
  by_cases h1 : (x - m - 1) % k = 0
  · rw [at1 x h1] at e
    rw [at1 (x - k) (by rw [show x - k - m - 1 = x - m - 1 - k by omega, sub]; exact h1)]
    have := hC (x - 1) (by rw [show x - 1 + 1 = x by omega]; exact e)
    rwa [show x - 1 - k = x - k - 1 by omega, show x - k - 1 + 1 = x - k by omega] at this
  · by_cases h2 : (x - m) % k = 0
    · rw [at0 x h2] at e
      rw [at0 (x - k) (by rw [show x - k - m = x - m - k by omega, sub]; exact h2)]
      have := hC (x + 1) (by rw [show x + 1 + 1 = x + 2 by omega]; exact e)
      rwa [show x + 1 - k = x - k + 1 by omega, show x - k + 1 + 1 = x - k + 2 by omega] at this
    · rw [at2 x h2 h1] at e
      rw [at2 (x - k) (by rw [show x - k - m = x - m - k by omega, sub]; exact h2) (by rw [show x - k - m - 1 = x - m - 1 - k by omega, sub]; exact h1)]
      exact hC x e
end
end Dd
set_option maxHeartbeats 200000
/-! The growing word of a core. -/
namespace Dd
open Rg
open PySem L2 in
theorem putI_keys {kvs : List (Int × V)} {k x : Int} {v : V} : x ∈ (putI kvs k v).map (·.1) ↔ x ∈ kvs.map (·.1) ∨ x = k := by
  unfold putI
  split
  · rename_i h
    obtain ⟨q, hq, e⟩ := List.any_eq_true.mp h
    have e' := of_decide_eq_true e
    have same : (kvs.map fun q => if q.1 = k then (q.1, v) else q).map (·.1) = kvs.map (·.1) := by
      rw [List.map_map]
      refine List.map_congr_left fun q _ => ?_
      show (if q.1 = k then (q.1, v) else q).1 = q.1
      split <;> rfl
    rw [same]
    constructor
    · exact .inl
    · rintro (z | z)
      · exact z
      · rw [z, ← e']; exact List.mem_map.mpr ⟨q, hq, rfl⟩
  · rw [List.map_append, List.mem_append]
    simp
open PySem L2 in
theorem putAll_keys (L : List (Int × V)) (x : Int) : x ∈ (putAll L).map (·.1) ↔ x ∈ L.map (·.1) := by
  have key : ∀ (L acc : List (Int × V)), x ∈ (L.foldl (fun kvs q => putI kvs q.1 q.2) acc).map (·.1) ↔ x ∈ acc.map (·.1) ∨ x ∈ L.map (·.1) := by
    intro L
    induction L with
    | nil => intro acc; simp
    | cons q L ih =>
      intro acc
      rw [List.foldl_cons, ih, putI_keys, List.map_cons, List.mem_cons, or_assoc]
  unfold putAll
  rw [key]
  simp
theorem lks_keys (k : Int) (h : List Int) (x : Int) : x ∈ (lks k h).map (·.1) ↔ ∃ d, d ∈ crm h ∧ x = d % k := by
  unfold lks
  rw [putAll_keys, List.map_map, List.mem_map]
  constructor
  · rintro ⟨d, hd, rfl⟩; exact ⟨d, hd, rfl⟩
  · rintro ⟨d, hd, rfl⟩; exact ⟨d, hd, rfl⟩
theorem lls_ex (k : Int) (h : List Int) : ∃ ys, Lls k h ys := by
  refine ⟨((lks k h).map (·.1)).mergeSort (fun a b => decide (a ≤ b)), List.mergeSort_perm _ _, ?_⟩
  have := List.pairwise_mergeSort (le := fun a b : Int => decide (a ≤ b)) (fun a b c x y => by have := of_decide_eq_true x; have := of_decide_eq_true y; exact decide_eq_true (by omega)) (fun a b => by
    by_cases q : a ≤ b
    · rw [decide_eq_true q]; rfl
    · rw [decide_eq_true (show b ≤ a by omega), Bool.or_true]) ((lks k h).map (·.1))
  exact this.imp fun {a b} q => of_decide_eq_true q
theorem sm_lt {f g : Nat → Int} : ∀ {n : Nat}, (∀ i, i < n → f i ≤ g i) → ∀ j, j < n → f j < g j → sm n f < sm n g
  | 0, _, j, hj, _ => absurd hj (Nat.not_lt_zero _)
  | n + 1, h, j, hj, hl => by
    show sm n f + f n < sm n g + g n
    have hn := h n (by omega)
    by_cases e : j = n
    · subst e
      have : sm j f ≤ sm j g := by
        have key : ∀ m, m ≤ j → sm m f ≤ sm m g := by
          intro m
          induction m with
          | zero => intro _; exact Int.le_refl _
          | succ m ih =>
            intro hm
            have := ih (by omega)
            have := h m (by omega)
            show sm m f + f m ≤ sm m g + g m
            omega
        exact key j (Nat.le_refl _)
      omega
    · have := sm_lt (n := n) (fun i hi => h i (by omega)) j (by omega) hl
      omega
def vol (h : List Int) : Int := sm 100 fun c => gt h c
section
variable {n k m l : Int} {r : Int → Int} {f : Int → Int} {h : List Int}
theorem gt_rm (hk : 2 ≤ k) (hn : 0 ≤ n) (C : Col n r) (H : HR (gt h) r) (hm : (m + l) % k = 0) {c : Int} (c0 : 0 ≤ c) : gt (rm k h l) c = gt h c - bI (rmb (gt h) k l c) := by
  have G := H.shrink C hk hm
  have C' := tLd1_col (m := m) hk C hn
  have val : ∀ c, 0 ≤ c → gt ((rgs 0 h.length).map fun c => rm1 k h l c) c = gt h c - bI (rmb (gt h) k l c) := fun c c0 => by
    by_cases q : c < h.length
    · rw [gt_mapR _ c0 q, Int.zero_add]
      unfold rm1 rmb
      rw [gt_hs0 (by omega)]
    · rw [gt_out (by rw [List.length_map, rgs_len]; omega), gt_out (h := h) (by omega)]
      have e : rmb (gt h) k l c = false := by
        unfold rmb
        rw [gt_out (h := h) (c := c) (by omega), gt_out (h := h) (c := c + 1) (by omega)]
        rfl
      rw [e]
      rfl
  unfold rm
  rw [gt_filter _ ?_ ?_ c c0, val c c0]
  · intro x hx
    obtain ⟨i, hi, rfl⟩ := List.getElem_of_mem hx
    rw [← gt_in hi, val _ (by omega)]
    exact G.nnf C' (c := i) (by omega)
  · intro c c0
    rw [val c c0, val (c + 1) (by omega)]
    exact G.dn C' c0
theorem HR.rm (hk : 2 ≤ k) (hn : 0 ≤ n) (C : Col n r) (H : HR (gt h) r) (hm : (m + l) % k = 0) : HR (gt (rm k h l)) (tLd1 k m r) := fun c c0 => by
  rw [gt_rm hk hn C H hm c0]
  exact H.shrink C hk hm c c0
theorem rm_pos : Pos (Dd.rm k h l) := fun x hx => of_decide_eq_true (List.mem_filter.mp hx).2
theorem rm_sml (s : Sml h) : Sml (Dd.rm k h l) ∧ (Dd.rm k h l).length ≤ h.length := by
  have ll : (Dd.rm k h l).length ≤ h.length := by
    unfold Dd.rm
    exact Nat.le_trans (List.length_filter_le _ _) (by rw [List.length_map, rgs_len]; exact Nat.le_refl _)
  refine ⟨⟨Nat.le_trans ll s.1, fun x hx => ?_⟩, ll⟩
  have p := rm_pos x hx
  obtain ⟨c, hc, rfl⟩ := List.mem_map.mp (List.mem_filter.mp hx).1
  have hb := rgs_mem hc
  have := s.2 _ (gt_mem (h := h) (c := c) (by omega) (by omega))
  unfold rm1 at p ⊢
  have b0 : ∀ b : Bool, 0 ≤ bI b := fun b => by cases b <;> decide
  have := b0 (decide (gt (hs0 h) (c + 1) < gt h c) && decide ((c - gt h c + 1 - l) % k = 0))
  omega
theorem HR.dnl (C : Col n r) (H : HR f r) {a b : Int} (a0 : 0 ≤ a) (h : a ≤ b) : f b ≤ f a := by
  have key : ∀ d : Nat, f (a + d) ≤ f a := by
    intro d
    induction d with
    | zero => simp
    | succ d ih =>
      have := H.dn C (c := a + d) (by omega)
      rw [show a + ((d + 1 : Nat) : Int) = a + d + 1 by omega]
      omega
  have := key (b - a).toNat
  rwa [show a + ((b - a).toNat : Int) = b by omega] at this
theorem crm_sorted (C : Col n r) (H : HR (gt h) r) : (crm h).Pairwise (· ≤ ·) := by
  unfold crm
  rw [List.pairwise_map]
  have rp : (crc h).Pairwise (· < ·) := by
    unfold crc
    refine List.Pairwise.filter _ ?_
    unfold rgs
    rw [List.pairwise_map]
    exact List.pairwise_lt_range.imp fun {a b} q => by omega
  refine rp.imp_of_mem fun {a b} ha hb q => ?_
  have h1 := crc_mem ha
  rw [gt_hs0 h1.1, gt_hs0 (by omega)]
  have := H.dnl C h1.1 (show a ≤ b by omega)
  omega
/-- taken away letter by letter -/
theorem gw_ex (hk : 2 ≤ k) (h6 : k ≤ 6) : ∀ (N : Nat) (h : List Int) (r : Int → Int) (n : Int), vol h ≤ N → 0 ≤ n → Col n r → HR (gt h) r → Pos h → Cl k r → Sml h → h.length ≤ 60 →
    ∃ ls, Gw k h ls ∧ Lt k ls ∧ Grow k (nw k ls.reverse) ∧ Tw k (nw k ls.reverse) 0 = r := by
  intro N
  induction N with
  | zero =>
    intro h r n hv hn C H p hC s hl
    by_cases e : h = []
    · subst e
      exact ⟨[], .nil, fun x h => (nomatch h), .nil, (hr_nil.col (Col.of (good_r0 k)) C H)⟩
    · exfalso
      have hp : 0 < h.length := List.length_pos_iff.mpr e
      have z := p.at_ (c := 0) (by omega) (by omega)
      have := sm_lt (f := fun _ => 0) (g := fun c => gt h c) (n := 100) (fun i _ => p.nn i) 0 (by decide) z
      rw [sm_zero (f := fun _ => 0) (n := 100) (fun _ _ => rfl)] at this
      unfold vol at hv
      omega
  | succ N ih =>
    intro h r n hv hn C H p hC s hl
    by_cases e : h = []
    · subst e
      exact ⟨[], .nil, fun x h => (nomatch h), .nil, (hr_nil.col (Col.of (good_r0 k)) C H)⟩
    · have hp : 0 < h.length := List.length_pos_iff.mpr e
      obtain ⟨ys, hy⟩ := lls_ex k h
      have ne : ys ≠ [] := fun z => by
        have hlast : ((h.length : Int) - 1) ∈ crc h := by
          unfold crc
          refine List.mem_filter.mpr ⟨by unfold rgs; exact List.mem_map.mpr ⟨h.length - 1, List.mem_range.mpr (by omega), by omega⟩, ?_⟩
          unfold pcr
          rw [gt_hs0 (by omega), gt_hs0 (by omega), gt_out (h := h) (c := (h.length : Int) - 1 + 1) (by omega)]
          exact decide_eq_true (p.at_ (by omega) (by omega))
        have hm : ((h.length : Int) - 1 - gt (hs0 h) ((h.length : Int) - 1) + 1) ∈ crm h := by unfold crm; exact List.mem_map.mpr ⟨_, hlast, rfl⟩
        have := (lks_keys k h _).mpr ⟨_, hm, rfl⟩
        rw [← hy.1.mem_iff, z] at this
        cases this
      obtain ⟨l, ys, rfl⟩ : ∃ l ys', ys = l :: ys' := by
        cases ys with
        | nil => exact absurd rfl ne
        | cons l ys => exact ⟨l, ys, rfl⟩
      obtain ⟨d, hd, el⟩ := (lks_keys k h l).mp (hy.1.mem_iff.mp List.mem_cons_self)
      unfold crm at hd
      obtain ⟨c, hc, ed⟩ := List.mem_map.mp hd
      have hcm := crc_mem hc
      have hrem : gt h (c + 1) < gt h c := by
        have := of_decide_eq_true (List.mem_filter.mp hc).2
        rwa [gt_hs0 (by omega), gt_hs0 hcm.1] at this
      rw [gt_hs0 hcm.1] at ed
      have m0 := Int.emod_nonneg (0 - l) (show k ≠ 0 by omega)
      have m1 := Int.emod_lt_of_pos (0 - l) (show 0 < k by omega)
      have hm := neg_mod (l := l) hk
      have l0 : 0 ≤ l ∧ l < k := by rw [el]; exact ⟨Int.emod_nonneg _ (by omega), Int.emod_lt_of_pos _ (by omega)⟩
      have cond : (c - gt h c + 1 - l) % k = 0 := by rw [ed, el]; exact emod_sub0 (by rw [Int.emod_emod])
      generalize hmm : (0 - l) % k = m at *
      -- the place of the square
      have a := H c hcm.1
      have h0 : (gt h c - c - m - 1) % k = 0 := (md_iff hm _).mpr (by rw [show -(gt h c - c) + 1 - l = c - gt h c + 1 - l by omega]; exact cond)
      have e0 : r (gt h c - c - 1) = r (gt h c - c) := by rw [H.gap C hcm.1 hrem, a.1]
      have e1 : r (gt h c - c) - r (gt h c - c + 1) = 1 := by omega
      have C' := tLd1_col (m := m) hk C hn
      have H' := H.rm hk hn C hm
      have hrm := fun c c0 => gt_rm (c := c) hk hn C H hm c0
      have less : vol (Dd.rm k h l) < vol h := by
        unfold vol
        have hb := s.1
        refine sm_lt (fun i _ => ?_) c.toNat (by omega) ?_
        · rw [hrm _ (by omega)]
          have b0 : ∀ b : Bool, 0 ≤ bI b := fun b => by cases b <;> decide
          have := b0 (rmb (gt h) k l i)
          omega
        · rw [hrm _ (by omega), show ((c.toNat : Nat) : Int) = c by omega]
          have : rmb (gt h) k l c = true := by unfold rmb; rw [decide_eq_true hrem, decide_eq_true cond]; rfl
          rw [this]
          show gt h c - 1 < gt h c
          omega
      obtain ⟨ls, G, lt, gr, et⟩ := ih (Dd.rm k h l) (tLd1 k m r) (n + 1) (by omega) (by omega) C' H' rm_pos (cl_ld hk C hC h0 e0 e1) (rm_sml s).1 (Nat.le_trans (rm_sml s).2 hl)
      have en : nw k (l :: ls).reverse = nw k ls.reverse ++ [m] := by rw [List.reverse_cons, nw_app]; show _ ++ [(0 - l) % k] = _; rw [hmm]
      refine ⟨l :: ls, .cons e ⟨s, hl, crm_sorted C H⟩ hy G, fun x hx => ?_, ?_, ?_⟩
      · rcases List.mem_cons.mp hx with rfl | hx
        · exact l0
        · exact lt x hx
      · rw [en]
        refine .snoc gr ?_
        apply Classical.byContradiction
        intro hn
        have := col_same hk h6 hn
        rw [et, regrow hk C hC h0 e0 e1] at this
        exact ld_ne h0 e0 e1 this.symm
      · rw [en, Tw_snoc, tL_col, et]
        exact regrow hk C hC h0 e0 e1
end
end Dd
set_option maxHeartbeats 200000
/-! Charges. -/
namespace Dd
open Rg
theorem len_same {L M : List Int} (a : L.Nodup) (b : M.Nodup) (h : ∀ x, x ∈ L ↔ x ∈ M) : L.length = M.length := ((List.perm_ext_iff_of_nodup a b).mpr fun x => h x).length_eq
theorem ndl_map {α : Type} {L : List α} {f : α → Int} (hL : L.Nodup) (inj : ∀ a b, a ∈ L → b ∈ L → f a = f b → a = b) : (L.map f).Nodup := by
  rw [List.nodup_iff_pairwise_ne, List.pairwise_map]
  refine List.Pairwise.imp_of_mem ?_ hL
  intro a b ha hb hab e
  exact hab (inj a b ha hb e)
theorem rgs_ndl (lo : Int) (n : Nat) : (rgs lo n).Nodup := ndl_map List.nodup_range fun a b _ _ e => by omega
theorem mem_rgs {lo : Int} {n : Nat} {x : Int} : x ∈ rgs lo n ↔ lo ≤ x ∧ x < lo + n := by
  constructor
  · exact rgs_mem
  · rintro ⟨a, b⟩
    unfold rgs
    exact List.mem_map.mpr ⟨(x - lo).toNat, List.mem_range.mpr (by omega), by omega⟩
theorem set_step {f : List Int} {k b y : Int} (hk : 2 ≤ k) (hf : (f.length : Int) = k) {z : Int} (z0 : 0 ≤ z) (z1 : z < k) : gt (f.set (b % k).toNat y) z = if b % k = z then y else gt f z := by
  have m0 := Int.emod_nonneg b (show k ≠ 0 by omega)
  have m1 := Int.emod_lt_of_pos b (show 0 < k by omega)
  exact gt_set m0 (by omega) z0
section
variable {k : Int}
theorem cst1_sum (hk : 2 ≤ k) {z : Int} (z0 : 0 ≤ z) (z1 : z < k) : ∀ (L f : List Int), (f.length : Int) = k → gt (L.foldl (cst1 k) f) z = gt f z + ((L.filter fun b => decide (0 ≤ b) && decide (b % k = z)).length : Int)
  | [], f, _ => by simp
  | b :: L, f, hf => by
    rw [List.foldl_cons, cst1_sum hk z0 z1 L _ (by rw [cst1_len]; exact hf), List.filter_cons]
    unfold cst1
    by_cases q : 0 ≤ b
    · rw [if_pos q, set_step hk hf z0 z1, decide_eq_true q, Bool.true_and]
      by_cases e : b % k = z
      · rw [if_pos e, decide_eq_true e, if_pos rfl, List.length_cons, e]
        omega
      · rw [if_neg e, decide_eq_false e, if_neg Bool.false_ne_true]
    · rw [if_neg q, decide_eq_false q, Bool.false_and, if_neg Bool.false_ne_true]
theorem cst2_sum (hk : 2 ≤ k) (B : List Int) {z : Int} (z0 : 0 ≤ z) (z1 : z < k) : ∀ (L f : List Int), (f.length : Int) = k → gt (L.foldl (cst2 k B) f) z = gt f z - ((L.filter fun b => !decide (b ∈ B) && decide (b % k = z)).length : Int)
  | [], f, _ => by simp
  | b :: L, f, hf => by
    rw [List.foldl_cons, cst2_sum hk B z0 z1 L _ (by rw [cst2_len]; exact hf), List.filter_cons]
    unfold cst2
    by_cases q : b ∈ B
    · rw [if_pos q, decide_eq_true q, Bool.not_true, Bool.false_and, if_neg Bool.false_ne_true]
    · rw [if_neg q, set_step hk hf z0 z1, decide_eq_false q, Bool.not_false, Bool.true_and]
      by_cases e : b % k = z
      · rw [if_pos e, decide_eq_true e, if_pos rfl, List.length_cons, e]
        omega
      · rw [if_neg e, decide_eq_false e, if_neg Bool.false_ne_true]
theorem chs_len (k : Int) (h : List Int) : (chs k h).length = k.toNat := by
  unfold chs ch1
  rw [fold_len _ (cst2_len k _), fold_len _ (cst1_len k), List.length_replicate]
theorem chs_at (hk : 2 ≤ k) (h : List Int) {z : Int} (z0 : 0 ≤ z) (z1 : z < k) : gt (chs k h) z = (((bds h).filter fun b => decide (0 ≤ b) && decide (b % k = z)).length : Int) - (((rgs (-(h.length : Int)) h.length).filter fun b => !decide (b ∈ bds h) && decide (b % k = z)).length : Int) := by
  have l0 : ((List.replicate k.toNat (0 : Int)).length : Int) = k := by rw [List.length_replicate]; omega
  unfold chs ch1
  rw [cst2_sum hk _ z0 z1 _ _ (by rw [fold_len _ (cst1_len k)]; exact l0), cst1_sum hk z0 z1 _ _ l0]
  have : gt (List.replicate k.toNat (0 : Int)) z = 0 := by
    unfold gt
    rw [List.getD_eq_getElem?_getD, List.getElem?_replicate]
    split <;> rfl
  rw [this]
  omega
theorem cby_len (k : Int) (v : List Int) : (cby k v).length = k.toNat := by
  unfold cby
  rw [fold_len _ (fun f b => by unfold cby1; simp), List.length_replicate]
theorem cby_fold (hk : 2 ≤ k) (v : List Int) {z V : Int} (z0 : 0 ≤ z) (z1 : z < k) : ∀ (L f : List Int), (f.length : Int) = k → (∀ i, i ∈ L → (vir v i - 1) % k = z → (vir v i + k - 1) / k = V) → (gt f z = V ∨ ∃ i, i ∈ L ∧ (vir v i - 1) % k = z) → gt (L.foldl (cby1 k v) f) z = V
  | [], f, _, _, h => by
    rcases h with h | ⟨i, hi, _⟩
    · exact h
    · cases hi
  | i :: L, f, hf, hv, h => by
    rw [List.foldl_cons]
    refine cby_fold hk v z0 z1 L _ (by unfold cby1; rw [List.length_set]; exact hf) (fun j hj => hv j (List.mem_cons_of_mem _ hj)) ?_
    unfold cby1
    rw [set_step hk hf z0 z1]
    by_cases e : (vir v i - 1) % k = z
    · rw [if_pos e]
      exact .inl (hv i List.mem_cons_self e)
    · rw [if_neg e]
      rcases h with h | ⟨j, hj, ej⟩
      · exact .inl h
      · rcases List.mem_cons.mp hj with rfl | hj
        · exact absurd ej e
        · exact .inr ⟨j, hj, ej⟩
/-- the values up to 0 of one residue: the largest one -/
structure Top (k : Int) (P : Int → Int) (z M : Int) : Prop where
  res : (M - 1) % k = z
  ex : ∃ i, -k < i ∧ i ≤ 0 ∧ P i = M
  up : ∀ t, (∃ i, i ≤ 0 ∧ P i = M + k * t) ↔ t ≤ 0
theorem top_ex (hk : 2 ≤ k) {P : Int → Int} {r : Rg.Tb} {n : Int} (h : IsTab P r) (g : Good k n r) {z : Int} (z0 : 0 ≤ z) (z1 : z < k) : ∃ M, Top k P z M := by
  have pr := tab_perN hk h g
  obtain ⟨i, hi, e⟩ := res_ex hk h g (z + 1)
  have key : ∃ i0 : Int, -k < i0 ∧ i0 ≤ 0 ∧ (P i0 - 1) % k = z := by
    have ez : z % k = z := Int.emod_eq_of_lt z0 z1
    by_cases q : i = 0
    · refine ⟨i, by omega, by omega, ?_⟩
      have := emod_of_sub (x := P i - 1) (y := z) (k := k) (by rw [show P (i : Int) - 1 - z = P i - (z + 1) by omega]; exact e)
      rw [this, ez]
    · refine ⟨(i : Int) - k, by omega, by omega, ?_⟩
      have p := pr i (-1)
      rw [show (i : Int) + k * -1 = i - k by omega] at p
      have := emod_of_sub (x := P ((i : Int) - k) - 1) (y := z) (k := k) (by
        obtain ⟨y, hy⟩ := dvd_of e
        rw [p, show P (i : Int) + k * -1 - 1 - z = k * (y - 1) by rw [Int.mul_sub]; omega, Int.mul_emod_right])
      rw [this, ez]
  obtain ⟨i0, a, b, c⟩ := key
  refine ⟨P i0, c, ⟨i0, a, b, rfl⟩, fun t => ?_⟩
  have p := pr i0 t
  constructor
  · rintro ⟨j, hj, ej⟩
    have ei : j = i0 + k * t := tab_inj h g (ej.trans p.symm)
    apply Classical.byContradiction
    intro hn
    have := Int.mul_le_mul_of_nonneg_left (show 1 ≤ t by omega) (show 0 ≤ k by omega)
    omega
  · intro ht
    have := Int.mul_nonpos_of_nonneg_of_nonpos (show 0 ≤ k by omega) ht
    exact ⟨i0 + k * t, by omega, p⟩
theorem bds_nd {n : Int} {r : Int → Int} {h : List Int} (C : Col n r) (H : HR (gt h) r) : (bds h).Nodup := by
  unfold bds
  refine ndl_map (rgs_ndl _ _) fun a b ha hb e => ?_
  have h1 := rgs_mem ha
  have h2 := rgs_mem hb
  rcases Int.le_total a b with w | w
  · have := H.dnl C (by omega) w
    omega
  · have := H.dnl C (by omega) w
    omega
theorem stands {n : Int} {P : Int → Int} {r : Rg.Tb} {h : List Int} (hT : IsTab P r) (g : Good k n r) (H : HR (gt h) (r 0)) (x : Int) : (∃ c, 0 ≤ c ∧ gt h c - c = x) ↔ ∃ i, i ≤ 0 ∧ P i = x := by
  rw [← H.val (Col.of g) x]
  exact nn_iff hT g
/-- charges of a core: what its map's values tell -/
theorem chs_top (hk : 2 ≤ k) {n : Int} {P : Int → Int} {r : Rg.Tb} {h : List Int} (hT : IsTab P r) (g : Good k n r) (H : HR (gt h) (r 0)) {z M : Int} (z0 : 0 ≤ z) (z1 : z < k) (T : Top k P z M) : gt (chs k h) z = (M - 1) / k + 1 := by
  have C := Col.of g
  have st := stands hT g H
  have dM := Int.emod_add_mul_ediv (M - 1) k
  rw [T.res] at dM
  generalize (M - 1) / k = q at *
  have cl : ∀ y : Int, (∃ c, 0 ≤ c ∧ gt h c - c = z + k * y + 1) ↔ y ≤ q := fun y => by
    rw [st, show z + k * y + 1 = M + k * (y - q) by rw [Int.mul_sub]; omega, T.up]
    omega
  have out : ∀ c, (h.length : Int) ≤ c → gt h c = 0 := fun c hc => gt_out hc
  have inn : ∀ x, -(h.length : Int) ≤ x → (x ∈ bds h ↔ ∃ c, 0 ≤ c ∧ gt h c - c = x + 1) := fun x hx => by
    rw [mem_bds]
    constructor
    · rintro ⟨c, c0, c1, e⟩; exact ⟨c, c0, by omega⟩
    · rintro ⟨c, c0, e⟩
      refine ⟨c, c0, ?_, by omega⟩
      apply Classical.byContradiction
      intro hn
      have := out c (by omega)
      omega
  have dv : ∀ x y : Int, x = z + k * y → x % k = z ∧ x / k = y := fun x y e => by
    subst e
    exact ⟨by rw [Int.add_mul_emod_self_left, Int.emod_eq_of_lt z0 z1], by rw [Int.add_mul_ediv_left _ _ (by omega), Int.ediv_eq_zero_of_lt z0 z1, Int.zero_add]⟩
  have vd : ∀ x : Int, x % k = z → x = z + k * (x / k) := fun x e => by have := Int.emod_add_mul_ediv x k; omega
  have inj : ∀ a b : Int, z + k * a = z + k * b → a = b := fun a b e => by rw [← (dv _ a rfl).2, e, (dv _ b rfl).2]
  have c1 : ((bds h).filter fun b => decide (0 ≤ b) && decide (b % k = z)).length = (q + 1).toNat := by
    rw [len_same (M := (List.range (q + 1).toNat).map fun y : Nat => z + k * (y : Int)) ((bds_nd C H).filter _) (ndl_map List.nodup_range fun a b _ _ e => by have := inj _ _ e; omega), List.length_map, List.length_range]
    intro x
    rw [List.mem_filter, Bool.and_eq_true, decide_eq_true_eq, decide_eq_true_eq, List.mem_map]
    constructor
    · rintro ⟨hb, x0, e⟩
      have e' := vd x e
      have y0 : 0 ≤ x / k := Int.ediv_nonneg x0 (by omega)
      have := (cl (x / k)).mp (by rw [← e']; exact (inn x (by omega)).mp hb)
      exact ⟨(x / k).toNat, List.mem_range.mpr (by omega), by rw [show (((x / k).toNat : Nat) : Int) = x / k by omega]; exact e'.symm⟩
    · rintro ⟨y, hy, rfl⟩
      have hy := List.mem_range.mp hy
      have y0 := Int.mul_nonneg (show 0 ≤ k by omega) (show 0 ≤ (y : Int) by omega)
      exact ⟨(inn _ (by omega)).mpr ((cl y).mpr (by omega)), by omega, (dv _ y rfl).1⟩
  have c2 : ((rgs (-(h.length : Int)) h.length).filter fun b => !decide (b ∈ bds h) && decide (b % k = z)).length = (-1 - q).toNat := by
    rw [len_same (M := (List.range (-1 - q).toNat).map fun y : Nat => z + k * (-1 - (y : Int))) ((rgs_ndl _ _).filter _) (ndl_map List.nodup_range fun a b _ _ e => by have := inj _ _ e; omega), List.length_map, List.length_range]
    intro x
    rw [List.mem_filter, Bool.and_eq_true, Bool.not_eq_true', decide_eq_false_iff_not, decide_eq_true_eq, List.mem_map, mem_rgs]
    constructor
    · rintro ⟨⟨x0, x1⟩, hb, e⟩
      have e' := vd x e
      have y0 : x / k < 0 := Int.ediv_neg_of_neg_of_pos (by omega) (by omega)
      have : ¬ x / k ≤ q := fun w => hb ((inn x x0).mpr (by have := (cl (x / k)).mpr w; rwa [← e'] at this))
      exact ⟨(-1 - x / k).toNat, List.mem_range.mpr (by omega), by rw [show -1 - (((-1 - x / k).toNat : Nat) : Int) = x / k by omega]; exact e'.symm⟩
    · rintro ⟨y, hy, rfl⟩
      have hy := List.mem_range.mp hy
      have neg := Int.mul_le_mul_of_nonneg_left (show -1 - (y : Int) ≤ -1 by omega) (show 0 ≤ k by omega)
      have no : ¬ ∃ c, 0 ≤ c ∧ gt h c - c = z + k * (-1 - (y : Int)) + 1 := fun w => by have := (cl _).mp w; omega
      have lo : -(h.length : Int) ≤ z + k * (-1 - (y : Int)) := by
        apply Classical.byContradiction
        intro hn
        exact no ⟨-(z + k * (-1 - (y : Int))) - 1, by omega, by rw [out _ (by omega)]; omega⟩
      exact ⟨⟨lo, by omega⟩, fun w => no ((inn _ lo).mp w), (dv _ _ rfl).1⟩
  rw [chs_at hk h z0 z1, c1, c2]
  omega
theorem cby_top (hk : 2 ≤ k) {n : Int} {P : Int → Int} {r : Rg.Tb} {v : List Int} (hT : IsTab P r) (g : Good k n r) (hv : Rp k P v) {z M : Int} (z0 : 0 ≤ z) (z1 : z < k) (T : Top k P z M) : gt (cby k v) z = (M - 1) / k + 1 := by
  have pr := tab_perN hk hT g
  have ev := hv.vir hk pr
  have e1 : (M - 1) / k + 1 = (M + k - 1) / k := by
    rw [show M + k - 1 = M - 1 + k * 1 by omega, Int.add_mul_ediv_left _ _ (by omega)]
  rw [e1]
  unfold cby
  obtain ⟨i0, a, b, c⟩ := T.ex
  refine cby_fold hk v z0 z1 _ _ (by rw [List.length_replicate]; omega) (fun i hi e => ?_) (.inr ⟨i0, mem_rgs.mpr ⟨by omega, by omega⟩, by rw [ev, c, T.res]⟩)
  have hb := rgs_mem hi
  rw [ev] at e ⊢
  have ee := emod_sub0 (e.trans T.res.symm)
  obtain ⟨y, hy⟩ := dvd_of ee
  have p := pr i0 y
  have ei : i = i0 + k * y := tab_inj hT g (by rw [p, c]; omega)
  have y0 : y = 0 := by
    rcases Int.lt_trichotomy y 0 with w | w | w
    · have := Int.mul_le_mul_of_nonneg_left (show y ≤ -1 by omega) (show 0 ≤ k by omega)
      omega
    · exact w
    · have := Int.mul_le_mul_of_nonneg_left (show 1 ≤ y by omega) (show 0 ≤ k by omega)
      omega
  subst y0
  rw [Int.mul_zero, Int.add_zero] at ei
  rw [ei, c]
theorem chs_cby (hk : 2 ≤ k) {n : Int} {P : Int → Int} {r : Rg.Tb} {h v : List Int} (hT : IsTab P r) (g : Good k n r) (H : HR (gt h) (r 0)) (hv : Rp k P v) : chs k h = cby k v := by
  refine ext_gt (by rw [chs_len, cby_len]) fun z z0 z1 => ?_
  rw [chs_len] at z1
  obtain ⟨M, T⟩ := top_ex hk hT g z0 (by omega)
  rw [chs_top hk hT g H z0 (by omega) T, cby_top hk hT g hv z0 (by omega) T]
/-- cores with the same charges are the same -/
theorem chs_inj (hk : 2 ≤ k) {n n' : Int} {P P' : Int → Int} {r r' : Rg.Tb} {h h' : List Int} (hT : IsTab P r) (g : Good k n r) (H : HR (gt h) (r 0)) (p : Pos h) (hT' : IsTab P' r') (g' : Good k n' r') (H' : HR (gt h') (r' 0)) (p' : Pos h') (e : chs k h = chs k h') : h = h' := by
  have same : ∀ x, (∃ i, i ≤ 0 ∧ P i = x) ↔ ∃ i, i ≤ 0 ∧ P' i = x := fun x => by
    have z0 := Int.emod_nonneg (x - 1) (show k ≠ 0 by omega)
    have z1 := Int.emod_lt_of_pos (x - 1) (show 0 < k by omega)
    obtain ⟨M, T⟩ := top_ex hk hT g z0 z1
    obtain ⟨M', T'⟩ := top_ex hk hT' g' z0 z1
    have a := chs_top hk hT g H z0 z1 T
    have b := chs_top hk hT' g' H' z0 z1 T'
    rw [e] at a
    have d1 := Int.emod_add_mul_ediv (M - 1) k
    have d2 := Int.emod_add_mul_ediv (M' - 1) k
    have d3 := Int.emod_add_mul_ediv (x - 1) k
    rw [T.res] at d1
    rw [T'.res] at d2
    have eq : (M - 1) / k = (M' - 1) / k := by omega
    rw [eq] at d1
    have ex : x = M + k * ((x - 1) / k - (M' - 1) / k) := by rw [Int.mul_sub]; omega
    have ex' : x = M' + k * ((x - 1) / k - (M' - 1) / k) := by rw [Int.mul_sub]; omega
    have t := T.up ((x - 1) / k - (M' - 1) / k)
    have t' := T'.up ((x - 1) / k - (M' - 1) / k)
    rw [← ex] at t
    rw [← ex'] at t'
    rw [t, t']
  have col : ∀ x, r 0 x - r 0 (x + 1) = r' 0 x - r' 0 (x + 1) := fun x => by
    have a := nn_iff hT g (a := 0) (c := x)
    have b := nn_iff hT' g' (a := 0) (c := x)
    have a1 := nn01 g 0 x
    have b1 := nn01 g' 0 x
    have ab : nn r 0 x = 1 ↔ nn r' 0 x = 1 := by rw [a, b]; exact same x
    unfold nn at *
    omega
  have colE : r 0 = r' 0 := by
    funext x
    have key : ∀ (d : Nat) (x : Int), max n n' + 1 ≤ x + d → r 0 x = r' 0 x := by
      intro d
      induction d with
      | zero =>
        intro x hx
        rw [(Col.of g).low x (by omega), (Col.of g').low x (by omega)]
      | succ d ih =>
        intro x hx
        have := ih (x + 1) (by omega)
        have := col x
        omega
    exact key (max n n' + 1 - x).toNat x (by omega)
  rw [← colE] at H'
  exact pos_ext p p' fun c c0 => H.one (Col.of g) H' c0
end
end Dd
set_option maxHeartbeats 200000
/-! Hooks: the letters of a core are the falls of its map. -/
namespace Dd
open Rg
theorem sm_swap {n m : Nat} (f : Nat → Nat → Int) : sm n (fun i => sm m fun j => f i j) = sm m fun j => sm n fun i => f i j := by
  induction n with
  | zero => exact (sm_zero (n := m) fun _ _ => rfl).symm
  | succ n ih =>
    show sm n (fun i => sm m fun j => f i j) + sm m (fun j => f n j) = _
    rw [ih, ← sm_add]
    rfl
theorem filt_sm (p : Int → Bool) (n : Nat) : (((rgs 0 n).filter p).length : Int) = sm n fun j => if p j = true then 1 else 0 := by
  induction n with
  | zero => rfl
  | succ n ih =>
    have e : rgs 0 (n + 1) = rgs 0 n ++ [(n : Int)] := by unfold rgs; rw [List.range_succ, List.map_append]; simp
    rw [e, List.filter_append, List.length_append]
    show _ = sm n _ + if p n = true then 1 else 0
    rw [← ih]
    by_cases q : p n = true
    · rw [if_pos q, List.filter_cons_of_pos q]; simp
    · rw [if_neg q, List.filter_cons_of_neg q]; simp
theorem sm_below {m n : Nat} (h : m ≤ n) : sm n (fun c => if (c : Int) < m then 1 else 0) = m := by
  have key : ∀ n : Nat, sm n (fun c => if (c : Int) < m then 1 else 0) = min m n := by
    intro n
    induction n with
    | zero => show (0 : Int) = _; omega
    | succ n ih =>
      show sm n _ + (if (n : Int) < m then 1 else 0) = _
      rw [ih]
      split <;> omega
  rw [key]
  omega
/-- a row's length -/
theorem row_len : ∀ (h : List Int) (y : Int), 0 ≤ y → (∀ c, 0 ≤ c → gt h (c + 1) ≤ gt h c) → ∀ c, 0 ≤ c → (y < gt h c ↔ c < fl1 h y)
  | [], y, hy, _, c, c0 => by
    have e : gt [] c = 0 := by unfold gt; simp
    rw [e]
    unfold fl1
    simp
    omega
  | x :: t, y, hy, hd, c, c0 => by
    have hd' : ∀ c, 0 ≤ c → gt t (c + 1) ≤ gt t c := fun c c0 => by
      have := hd (c + 1) (by omega)
      rwa [gt_consS x t (c := c + 1) (by omega), gt_consS x t c0] at this
    have ih := row_len t y hy hd'
    have f0 : 0 ≤ fl1 t y := by unfold fl1; omega
    by_cases q : y < x
    · have e : fl1 (x :: t) y = fl1 t y + 1 := by
        unfold fl1
        rw [List.filter_cons_of_pos (p := fun x => decide (y < x)) (decide_eq_true q), List.length_cons]
        omega
      rw [e]
      by_cases z : c = 0
      · subst z
        rw [gt_cons0]
        constructor
        · intro _; omega
        · intro _; exact q
      · have := ih (c - 1) (by omega)
        have e2 := gt_consS x t (c := c - 1) (by omega)
        rw [show c - 1 + 1 = c by omega] at e2
        rw [e2, this]
        omega
    · have e : fl1 (x :: t) y = fl1 t y := by
        unfold fl1
        rw [List.filter_cons_of_neg (p := fun x => decide (y < x)) (by simpa using q)]
      rw [e]
      have z0 : fl1 t y = 0 := by
        apply Classical.byContradiction
        intro hn
        have := (ih 0 (by omega)).mpr (by omega)
        have h0 := hd 0 (by omega)
        rw [gt_consS x t (c := 0) (by omega), gt_cons0] at h0
        omega
      have down : ∀ d : Nat, gt (x :: t) d ≤ x := by
        intro d
        induction d with
        | zero => exact Int.le_refl x
        | succ d ih => have := hd d (by omega); rw [show ((d + 1 : Nat) : Int) = (d : Int) + 1 by omega]; omega
      have := down c.toNat
      rw [show ((c.toNat : Nat) : Int) = c by omega] at this
      omega
section
variable {k n : Int} {P : Int → Int} {r : Rg.Tb} {h : List Int}
/-- how many stand from x on -/
theorem HR.count (C : Col n (r 0)) (H : HR (gt h) (r 0)) {x c : Int} (c0 : 0 ≤ c) : x ≤ gt h c - c ↔ c < r 0 x := by
  have a := H c c0
  constructor
  · intro e
    have := C.anti e
    omega
  · intro e
    apply Classical.byContradiction
    intro hn
    have := C.anti (show gt h c - c + 1 ≤ x by omega)
    omega
/-- the hooks of a column: what does not stand below -/
theorem gap_iff (C : Col n (r 0)) (H : HR (gt h) (r 0)) {c x : Int} (c0 : 0 ≤ c) : (¬ nn r 0 x = 1 ∧ x < gt h c - c) ↔ ∃ y, 0 ≤ y ∧ y < gt h c ∧ x = y + 1 - fl1 h y := by
  have dn : ∀ c, 0 ≤ c → gt h (c + 1) ≤ gt h c := fun c c0 => H.dn C c0
  have row := fun y hy => row_len h y hy dn
  constructor
  · rintro ⟨ns, lt⟩
    have j0 := C.nn x
    have cnt := fun c c0 => HR.count (x := x) (c := c) C H c0
    have ne : ∀ c, 0 ≤ c → gt h c - c ≠ x := fun c c0 e => ns ((H.val C x).mpr ⟨c, c0, e⟩)
    have hj := (cnt (r 0 x) j0)
    have nj := H.nnf C j0
    refine ⟨x + r 0 x - 1, by have := ne _ j0; omega, ?_, ?_⟩
    · have h1 := (cnt c c0).mp (by omega)
      have h2 := (cnt (r 0 x - 1) (by omega)).mpr (by omega)
      have h3 := ne (r 0 x - 1) (by omega)
      have := H.dnl C c0 (show c ≤ r 0 x - 1 by omega)
      omega
    · have yy : 0 ≤ x + r 0 x - 1 := by have := ne _ j0; omega
      have rw1 := row _ yy
      have up : fl1 h (x + r 0 x - 1) ≤ r 0 x := by
        apply Classical.byContradiction
        intro hn
        have := (rw1 (r 0 x) j0).mpr (by omega)
        omega
      have lo : r 0 x ≤ fl1 h (x + r 0 x - 1) := by
        apply Classical.byContradiction
        intro hn
        have f0 : 0 ≤ fl1 h (x + r 0 x - 1) := by unfold fl1; omega
        have h2 := (cnt (r 0 x - 1) (by omega)).mpr (by omega)
        have h3 := ne (r 0 x - 1) (by omega)
        have := (rw1 (r 0 x - 1) (by omega)).mp (by omega)
        omega
      omega
  · rintro ⟨y, y0, y1, rfl⟩
    have rw1 := row y y0
    have hc := (rw1 c c0).mp y1
    refine ⟨fun e => ?_, by omega⟩
    obtain ⟨c', c0', e'⟩ := (H.val C _).mp e
    by_cases q : c' < fl1 h y
    · have := (rw1 c' c0').mpr q
      omega
    · have : ¬ y < gt h c' := fun z => q ((rw1 c' c0').mp z)
      omega
theorem bp1_eq (C : Col n (r 0)) (H : HR (gt h) (r 0)) (p : Pos h) (hk1 : 1 ≤ k) {c : Int} (c0 : 0 ≤ c) (c1 : c < h.length) :
    bp1 k h c = (((rgs 1 (k - 1).toNat).filter fun t => decide (¬ nn r 0 (gt h c - c - t) = 1)).length : Int) := by
  have dn : ∀ c, 0 ≤ c → gt h (c + 1) ≤ gt h c := fun c c0 => H.dn C c0
  have mx : ∀ y, 0 ≤ y → y < gt h c → gt (flp h) y = fl1 h y := fun y y0 y1 => by
    have := mx0_ge (gt_mem (h := h) c0 c1)
    unfold flp
    rw [gt_mapR _ y0 (by omega), Int.zero_add]
  have e1 : hk h c = (rgs 0 (gt h c).toNat).map fun y => gt h c - c - (y + 1 - fl1 h y) := by
    unfold Dd.hk
    refine List.map_congr_left fun y hy => ?_
    have := rgs_mem hy
    rw [mx y (by omega) (by omega)]
    omega
  have anti : ∀ a b, 0 ≤ a → a < b → fl1 h b ≤ fl1 h a := fun a b a0 ab => by
    apply Classical.byContradiction
    intro hn
    have f0 : 0 ≤ fl1 h a := by unfold fl1; omega
    have h1 := (row_len h b (by omega) dn (fl1 h a) f0).mpr (by omega)
    have h2 : ¬ a < gt h (fl1 h a) := fun z => by have := (row_len h a a0 dn (fl1 h a) f0).mp z; omega
    omega
  unfold bp1
  rw [e1, List.filter_map, List.length_map]
  congr 1
  have l1 : ((rgs 0 (gt h c).toNat).filter ((fun x => decide (x < k)) ∘ fun y => gt h c - c - (y + 1 - fl1 h y))).length = (((rgs 0 (gt h c).toNat).filter ((fun x => decide (x < k)) ∘ fun y => gt h c - c - (y + 1 - fl1 h y))).map fun y => y + 1 - fl1 h y).length := by rw [List.length_map]
  have l2 : ((rgs 1 (k - 1).toNat).filter fun t => decide (¬ nn r 0 (gt h c - c - t) = 1)).length = (((rgs 1 (k - 1).toNat).filter fun t => decide (¬ nn r 0 (gt h c - c - t) = 1)).map fun t => gt h c - c - t).length := by rw [List.length_map]
  rw [l1, l2]
  refine len_same (ndl_map ((rgs_ndl _ _).filter _) fun a b ha hb e => ?_) (ndl_map ((rgs_ndl _ _).filter _) fun a b _ _ e => by omega) fun x => ?_
  · have h1 := rgs_mem (List.mem_filter.mp ha).1
    have h2 := rgs_mem (List.mem_filter.mp hb).1
    rcases Int.lt_trichotomy a b with z | z | z
    · have := anti a b (by omega) z; omega
    · exact z
    · have := anti b a (by omega) z; omega
  · have g := gap_iff (x := x) C H c0
    rw [List.mem_map, List.mem_map]
    constructor
    · rintro ⟨y, hy, rfl⟩
      have h1 := List.mem_filter.mp hy
      have h2 := rgs_mem h1.1
      have h3 : gt h c - c - (y + 1 - fl1 h y) < k := of_decide_eq_true h1.2
      obtain ⟨a, b⟩ := g.mpr ⟨y, by omega, by omega, rfl⟩
      exact ⟨gt h c - c - (y + 1 - fl1 h y), List.mem_filter.mpr ⟨mem_rgs.mpr ⟨by omega, by omega⟩, decide_eq_true (by rw [show gt h c - c - (gt h c - c - (y + 1 - fl1 h y)) = y + 1 - fl1 h y by omega]; exact a)⟩, by omega⟩
    · rintro ⟨t, ht, rfl⟩
      have h1 := List.mem_filter.mp ht
      have h2 := rgs_mem h1.1
      have h3 := of_decide_eq_true h1.2
      obtain ⟨y, y0, y1, e⟩ := g.mp ⟨h3, by omega⟩
      exact ⟨y, List.mem_filter.mpr ⟨mem_rgs.mpr ⟨by omega, by omega⟩, (show decide (gt h c - c - (y + 1 - fl1 h y) < k) = true from decide_eq_true (by omega))⟩, e.symm⟩
/-- the largest values that stand: at -k + 1 .. 0 -/
def wm (k : Int) (P : Int → Int) (j : Int) : Int := P j + k * ((0 - j) / k)
theorem wi_bd (hk : 2 ≤ k) {j : Int} (j0 : 0 ≤ j) (j1 : j < k) : (j = 0 ∧ (0 - j) / k = 0) ∨ (0 < j ∧ (0 - j) / k = -1) := by
  by_cases e : j = 0
  · subst e
    exact .inl ⟨rfl, by simp⟩
  · refine .inr ⟨by omega, ?_⟩
    rw [show 0 - j = (k - j) + k * -1 by omega, Int.add_mul_ediv_left _ _ (by omega), Int.ediv_eq_zero_of_lt (by omega) (by omega)]
    rfl
theorem wm_at (hk : 2 ≤ k) (hT : IsTab P r) (g : Good k n r) (j : Int) : wm k P j = P (j + k * ((0 - j) / k)) := (tab_perN hk hT g j _).symm
theorem wm_up (hk : 2 ≤ k) (hT : IsTab P r) (g : Good k n r) {j : Int} (j0 : 0 ≤ j) (j1 : j < k) (t : Int) : nn r 0 (wm k P j + k * t) = 1 ↔ t ≤ 0 := by
  have w : -k < j + k * ((0 - j) / k) ∧ j + k * ((0 - j) / k) ≤ 0 := by
    rcases wi_bd hk j0 j1 with ⟨a, b⟩ | ⟨a, b⟩ <;> rw [b] <;> omega
  rw [nn_iff hT g, wm_at hk hT g]
  generalize j + k * ((0 - j) / k) = i0 at *
  have p := tab_perN hk hT g i0 t
  constructor
  · rintro ⟨i, hi, ei⟩
    have e := tab_inj hT g (ei.trans p.symm)
    apply Classical.byContradiction
    intro hn
    have := Int.mul_le_mul_of_nonneg_left (show 1 ≤ t by omega) (show 0 ≤ k by omega)
    omega
  · intro ht
    have := Int.mul_nonpos_of_nonneg_of_nonpos (show 0 ≤ k by omega) ht
    exact ⟨i0 + k * t, by omega, p⟩
theorem cls_iff (hk : 2 ≤ k) (hT : IsTab P r) (g : Good k n r) {j x : Int} (j0 : 0 ≤ j) (j1 : j < k) (e : (x - wm k P j) % k = 0) : nn r 0 x = 1 ↔ x ≤ wm k P j := by
  obtain ⟨t, ht⟩ := dvd_of e
  rw [show x = wm k P j + k * t by omega, wm_up hk hT g j0 j1]
  constructor
  · intro h
    have := Int.mul_nonpos_of_nonneg_of_nonpos (show 0 ≤ k by omega) h
    omega
  · intro h
    apply Classical.byContradiction
    intro hn
    have := Int.mul_le_mul_of_nonneg_left (show 1 ≤ t by omega) (show 0 ≤ k by omega)
    omega
theorem wm_mod (k : Int) (P : Int → Int) (x j : Int) : (x - wm k P j) % k = (x - P j) % k := by
  unfold wm
  rw [show x - (P j + k * ((0 - j) / k)) = x - P j + k * -((0 - j) / k) by rw [Int.mul_neg]; omega, Int.add_mul_emod_self_left]
/-- short hooks by residues -/
theorem short_eq (hk : 2 ≤ k) (hT : IsTab P r) (g : Good k n r) {y : Int} (hy : nn r 0 y = 1) :
    ((rgs 1 (k - 1).toNat).filter fun t => decide (¬ nn r 0 (y - t) = 1)).length = ((rgs 0 k.toNat).filter fun j => decide (wm k P j + k ≤ y)).length := by
  rw [show ((rgs 0 k.toNat).filter fun j => decide (wm k P j + k ≤ y)).length = (((rgs 0 k.toNat).filter fun j => decide (wm k P j + k ≤ y)).map fun j => (y - wm k P j) % k).length by rw [List.length_map]]
  refine len_same ((rgs_ndl _ _).filter _) (ndl_map ((rgs_ndl _ _).filter _) fun a b ha hb e => ?_) fun t => ?_
  · have h1 := rgs_mem (List.mem_filter.mp ha).1
    have h2 := rgs_mem (List.mem_filter.mp hb).1
    rw [wm_mod, wm_mod] at e
    have := emod_sub0 e
    have := res_un hk hT g (i := b.toNat) (j := a.toNat) (by omega) (by omega) (by
      rw [Int.toNat_of_nonneg (by omega), Int.toNat_of_nonneg (by omega), show P b - P a = y - P a - (y - P b) by omega]
      exact this)
    omega
  · rw [List.mem_filter, List.mem_map, mem_rgs, decide_eq_true_eq]
    constructor
    · rintro ⟨⟨t0, t1⟩, ns⟩
      obtain ⟨j, hj, ej⟩ := res_ex hk hT g (y - t)
      have e2 : (y - t - wm k P j) % k = 0 := by
        rw [wm_mod]
        obtain ⟨z, hz⟩ := dvd_of ej
        rw [show y - t - P (j : Int) = k * -z by rw [Int.mul_neg]; omega, Int.mul_emod_right]
      have gt1 : ¬ y - t ≤ wm k P j := fun z => ns ((cls_iff hk hT g (by omega) (by omega) e2).mpr z)
      obtain ⟨s, hs⟩ := dvd_of e2
      have s1 : 1 ≤ s := by
        apply Classical.byContradiction
        intro hn
        have := Int.mul_nonpos_of_nonneg_of_nonpos (show 0 ≤ k by omega) (show s ≤ 0 by omega)
        omega
      have := Int.mul_le_mul_of_nonneg_left s1 (show 0 ≤ k by omega)
      refine ⟨j, List.mem_filter.mpr ⟨mem_rgs.mpr ⟨by omega, by omega⟩, decide_eq_true (by omega)⟩, ?_⟩
      rw [show y - wm k P j = t + k * s by omega, Int.add_mul_emod_self_left, Int.emod_eq_of_lt (by omega) (by omega)]
    · rintro ⟨j, hj, rfl⟩
      have h1 := List.mem_filter.mp hj
      have h2 := rgs_mem h1.1
      have h3 : wm k P j + k ≤ y := of_decide_eq_true h1.2
      have m0 := Int.emod_nonneg (y - wm k P j) (show k ≠ 0 by omega)
      have m1 := Int.emod_lt_of_pos (y - wm k P j) (show 0 < k by omega)
      have ne : (y - wm k P j) % k ≠ 0 := fun z => by
        have := (cls_iff hk hT g (by omega) (by omega) z).mp hy
        omega
      refine ⟨⟨by omega, by omega⟩, fun z => ?_⟩
      have d := Int.emod_add_mul_ediv (y - wm k P j) k
      have := (cls_iff hk hT g (j := j) (by omega) (by omega) (by rw [show y - (y - wm k P j) % k - wm k P j = k * ((y - wm k P j) / k) by omega, Int.mul_emod_right])).mp z
      omega
theorem lti_eq (hk : 2 ≤ k) (hT : IsTab P r) (g : Good k n r) (H : HR (gt h) (r 0)) (p : Pos h) : lti k h = sm k.toNat fun j => r 0 (wm k P j + k) := by
  have C := Col.of g
  unfold lti bpt
  rw [sum_rgs]
  have e1 : ∀ c : Nat, c < h.length → bp1 k h c = sm k.toNat fun j => if wm k P j + k ≤ gt h c - c then 1 else 0 := fun c hc => by
    have hy : nn r 0 (gt h c - c) = 1 := (H.val C _).mpr ⟨c, by omega, rfl⟩
    rw [bp1_eq C H p (by omega) (by omega) (by omega), short_eq hk hT g hy, filt_sm]
    refine sm_congr fun j _ => ?_
    by_cases q : wm k P j + k ≤ gt h c - c
    · rw [if_pos q, if_pos (decide_eq_true q)]
    · rw [if_neg q, if_neg (by simpa using q)]
  rw [sm_congr e1, sm_swap]
  refine sm_congr fun j hj => ?_
  have ns : ¬ nn r 0 (wm k P j + k) = 1 := fun z => by
    have := (wm_up hk hT g (j := j) (by omega) (by omega) 1).mp (by rw [Int.mul_one]; exact z)
    omega
  have x0 : -(h.length : Int) < wm k P j + k := by
    apply Classical.byContradiction
    intro hn
    exact ns ((H.val C _).mpr ⟨-(wm k P j + k), by omega, by rw [gt_out (by omega)]; omega⟩)
  have m0 := C.nn (wm k P j + k)
  have m1 : r 0 (wm k P j + k) ≤ h.length := by
    apply Classical.byContradiction
    intro hn
    have := (HR.count (x := wm k P j + k) (c := h.length) C H (by omega)).mpr (by omega)
    rw [gt_out (Int.le_refl _)] at this
    omega
  have e2 : ∀ c : Nat, c < h.length → (if wm k P j + k ≤ gt h c - c then (1 : Int) else 0) = if (c : Int) < ((r 0 (wm k P j + k)).toNat : Nat) then 1 else 0 := fun c hc => by
    have := HR.count (x := wm k P j + k) (c := c) C H (by omega)
    by_cases q : wm k P j + k ≤ gt h c - c
    · rw [if_pos q, if_pos (by have := this.mp q; omega)]
    · rw [if_neg q, if_neg (fun z => q (this.mpr (by omega)))]
  rw [sm_congr e2, sm_below (by omega)]
  omega
end
end Dd
set_option maxHeartbeats 200000
/-! Falls of Grassmann maps; what the law asks of one word. -/
namespace Dd
open Rg
section
variable {k n : Int} {P : Int → Int} {r : Rg.Tb} {h : List Int}
theorem gr_win (hk : 2 ≤ k) (hG : Gr k P) {a b : Int} (a0 : -k < a) (ab : a < b) (b0 : b ≤ 0) : P a < P b := by
  have key : ∀ d : Nat, a + d + 1 ≤ 0 → P a < P (a + d + 1) := by
    intro d
    induction d with
    | zero =>
      intro hd
      have := hG a (fun z => by
        have := (modz (by omega) (by omega)).mp z
        omega)
      rwa [show a + ((0 : Nat) : Int) + 1 = a + 1 by omega]
    | succ d ih =>
      intro hd
      have h1 := ih (by omega)
      have h2 := hG (a + d + 1) (fun z => by
        have := (modz (by omega) (by omega)).mp z
        omega)
      rw [show a + ((d + 1 : Nat) : Int) + 1 = a + d + 1 + 1 by omega]
      omega
  have := key (b - a - 1).toNat (by omega)
  rwa [show a + ((b - a - 1).toNat : Int) + 1 = b by omega] at this
theorem neg_div {k x : Int} (hk : 0 < k) (h : ¬ x % k = 0) : -((-x) / k) - 1 = x / k := by
  have d := Int.emod_add_mul_ediv x k
  have a0 := Int.emod_nonneg x (show k ≠ 0 by omega)
  have a1 := Int.emod_lt_of_pos x hk
  have e : (-x) / k = -(x / k) - 1 := by
    have z : (k - x % k) / k = 0 := Int.ediv_eq_zero_of_lt (by omega) (by omega)
    rw [show -x = (k - x % k) + k * (-(x / k) - 1) by rw [Int.mul_sub, Int.mul_neg]; omega, Int.add_mul_ediv_left _ _ (by omega), z]
    omega
  omega
theorem term_eq (hk : 2 ≤ k) (hT : IsTab P r) (g : Good k n r) (hG : Gr k P) {i j : Nat} (hi : i < k.toNat) (hj : j < k.toNat) :
    tm k (P i - P j) ((i : Int) - j) = max 0 ((0 - (i : Int)) / k - lf (wm k P j + k - P i) k + 1) := by
  have e1 : -lf (wm k P j + k - P i) k = (P i - wm k P j) / k - 1 := by
    unfold lf
    rw [show -(wm k P j + k - P (i : Int)) = P i - wm k P j + k * -1 by omega, Int.add_mul_ediv_left _ _ (by omega)]
    omega
  have wi : -k < (i : Int) + k * ((0 - (i : Int)) / k) ∧ (i : Int) + k * ((0 - (i : Int)) / k) ≤ 0 := by
    rcases wi_bd hk (j := i) (by omega) (by omega) with ⟨a, b⟩ | ⟨a, b⟩ <;> rw [b] <;> omega
  have wj : -k < (j : Int) + k * ((0 - (j : Int)) / k) ∧ (j : Int) + k * ((0 - (j : Int)) / k) ≤ 0 := by
    rcases wi_bd hk (j := j) (by omega) (by omega) with ⟨a, b⟩ | ⟨a, b⟩ <;> rw [b] <;> omega
  have mi := wm_at hk hT g i
  have mj := wm_at hk hT g j
  have di : wm k P i = P i + k * ((0 - (i : Int)) / k) := rfl
  have dj : wm k P j = P j + k * ((0 - (j : Int)) / k) := rfl
  have win := fun a b => gr_win hk hG (a := a) (b := b)
  have rs : i ≠ j → ¬ (P i - P j) % k = 0 := fun ne z => ne (res_un hk hT g hi hj z)
  generalize (0 - (i : Int)) / k = ei at *
  generalize (0 - (j : Int)) / k = ej at *
  have hX : (P i - P j) = (wm k P i - wm k P j) + k * (ej - ei) := by rw [Int.mul_sub]; omega
  have hD : (i : Int) - j = ((i : Int) + k * ei - (j + k * ej)) + k * (ej - ei) := by rw [Int.mul_sub]; omega
  have l1 : (-(P i - P j)) / k = (-(wm k P i - wm k P j)) / k + (ei - ej) := by
    rw [show -(P (i : Int) - P j) = -(wm k P i - wm k P j) + k * (ei - ej) by rw [hX, Int.mul_sub, Int.mul_sub]; omega, Int.add_mul_ediv_left _ _ (by omega)]
  have l2 : ((i : Int) - j) / k = ((i : Int) + k * ei - (j + k * ej)) / k + (ej - ei) := by rw [hD, Int.add_mul_ediv_left _ _ (by omega)]
  have l3 : (P i - wm k P j) / k = (wm k P i - wm k P j) / k - ei := by
    rw [show P (i : Int) - wm k P j = wm k P i - wm k P j + k * -ei by rw [di, Int.mul_neg]; omega, Int.add_mul_ediv_left _ _ (by omega)]
    omega
  have lhs : tm k (P i - P j) ((i : Int) - j) = max 0 (-((-(wm k P i - wm k P j)) / k) - 1 - ((i : Int) + k * ei - (j + k * ej)) / k) := by
    unfold tm
    rw [l1, l2]
    congr 1
    omega
  have rhs : max 0 (ei - lf (wm k P j + k - P i) k + 1) = max 0 ((wm k P i - wm k P j) / k) := by
    congr 1
    omega
  rw [lhs, rhs]
  have mX : ((wm k P i - wm k P j) % k = 0) ↔ (P i - P j) % k = 0 := by rw [hX, Int.add_mul_emod_self_left]
  rcases Int.lt_trichotomy ((i : Int) + k * ei) (j + k * ej) with w | w | w
  · have lt := win _ _ wi.1 w wj.2
    rw [← mi, ← mj] at lt
    have f1 : ((i : Int) + k * ei - (j + k * ej)) / k = -1 := by
      rw [show (i : Int) + k * ei - (j + k * ej) = ((i : Int) + k * ei - (j + k * ej) + k) + k * -1 by omega, Int.add_mul_ediv_left _ _ (by omega), Int.ediv_eq_zero_of_lt (by omega) (by omega)]
      rfl
    have f2 : 0 ≤ (-(wm k P i - wm k P j)) / k := Int.ediv_nonneg (by omega) (by omega)
    have f3 : (wm k P i - wm k P j) / k < 0 := Int.ediv_neg_of_neg_of_pos (by omega) (by omega)
    omega
  · have e : wm k P i = wm k P j := by rw [mi, mj, w]
    rw [e, w, Int.sub_self, Int.sub_self]
    simp
    decide
  · have lt := win _ _ wj.1 w wi.2
    rw [← mi, ← mj] at lt
    have f1 : ((i : Int) + k * ei - (j + k * ej)) / k = 0 := Int.ediv_eq_zero_of_lt (by omega) (by omega)
    have ne : i ≠ j := fun z => by
      subst z
      omega
    have nd := neg_div (k := k) (x := wm k P i - wm k P j) (by omega) (fun z => rs ne (mX.mp z))
    have f3 : 0 ≤ (wm k P i - wm k P j) / k := Int.ediv_nonneg (by omega) (by omega)
    omega
theorem fl_gr (hk : 2 ≤ k) (hT : IsTab P r) (g : Good k n r) (hG : Gr k P) : fl k P = sm k.toNat fun j => r 0 (wm k P j + k) := by
  have hv : Rp k P ((rgs 0 k.toNat).map P) := ⟨by rw [List.length_map, rgs_len]; omega, fun i i0 i1 => by rw [gt_mapR _ i0 (by omega), Int.zero_add]⟩
  have hl := hv.len
  unfold fl
  rw [sm_swap]
  refine sm_congr fun j hj => ?_
  have e := congrFun (congrFun ((hv.cntTab hk hT g).uniq hT) 0) (wm k P j + k)
  rw [← e]
  unfold cnt
  refine sm_congr fun i hi => ?_
  show tm k (P i - P j) ((i : Int) - j) = max 0 ((0 - (i : Int)) / _ - lf (- -(wm k P j + k) - gt _ i) _ + 1)
  rw [hl, hv.val i (by omega) (by omega), Int.neg_neg]
  exact term_eq hk hT g hG hi hj
/-- the letters of a core are the falls of its map -/
theorem lti_fl (hk : 2 ≤ k) (hT : IsTab P r) (g : Good k n r) (hG : Gr k P) (H : HR (gt h) (r 0)) (p : Pos h) : lti k h = fl k P := by
  rw [lti_eq hk hT g H p, fl_gr hk hT g hG]
end
section
variable {k : Int} (hk : 2 ≤ k) (h6 : k ≤ 6)
include hk h6
theorem lt_mir (w : List Int) : Lt k (mir k w) := by rw [mir_nw]; exact (nw_lt hk w).rev
theorem mir_len (w : List Int) : (mir k w).length = w.length := by rw [mir_nw, List.length_reverse, nw_len]
theorem Mw_mir (w : List Int) : Mw k (mir k w) = Pw k (nw k w) := by rw [Mw_Pw, mir_nw, List.reverse_reverse]
theorem rp_mir (w : List Int) : Rp k (Mw k (mir k w)) (gmd k (mir k w)) := rp_gmd hk (lt_mir hk h6 w)
/-- one word: its core's growing letters -/
structure Lw (k : Int) (w ls : List Int) : Prop where
  gw : Gw k (cfold k w) ls
  lt : Lt k ls
  gr : Grow k (nw k ls.reverse)
  col : Tw k (nw k ls.reverse) 0 = Tw k (nw k w) 0
  idl : (w.length : Int) - (idl (cws k w w.length)).length = ls.length
  le : ls.length ≤ w.length
theorem grow_same {u u' : List Int} (G : Grow k u) (G' : Grow k u') (e : Tw k u 0 = Tw k u' 0) : Tw k u = Tw k u' := by
  have a := gr_le hk (tab_Pw hk u) (good_Tw hk u) (G.gr hk) (tab_Pw hk u') (good_Tw hk u') (G'.gr hk) (fun c => by rw [e]; exact Int.le_refl _)
  have b := gr_le hk (tab_Pw hk u') (good_Tw hk u') (G'.gr hk) (tab_Pw hk u) (good_Tw hk u) (G.gr hk) (fun c => by rw [e]; exact Int.le_refl _)
  funext x c
  have := a x c
  have := b x c
  omega
theorem lw_ex {w : List Int} (hw : w.length ≤ 30) : ∃ ls, Lw k w ls := by
  have C := col_Tw hk (nw k w)
  have H := hr_word hk w
  have p := pos_word hk w
  have s := sml_word hk h6 hw
  have hn : (0 : Int) ≤ (nw k w).length := by omega
  have hl := H.len C p hn
  rw [nw_len] at hl
  obtain ⟨ls, G, lt, gr, e⟩ := gw_ex hk h6 (vol (cfold k w)).toNat (cfold k w) _ _ (by omega) hn C H p (cl_Tw hk _) s (by omega)
  obtain ⟨u, Gu, ltu, eu, cu⟩ := drop_ok hk h6 w.length w rfl
  have et := grow_same hk h6 gr Gu (e.trans eu.symm)
  have ep : Pw k (nw k ls.reverse) = Pw k u := by
    have a := tab_Pw hk (nw k ls.reverse)
    rw [et] at a
    exact a.val (tab_Pw hk u)
  have f1 := gr.fl hk h6
  have f2 := Gu.fl hk h6
  rw [ep] at f1
  rw [nw_len, List.length_reverse] at f1
  refine ⟨ls, G, lt, gr, e, by omega, by omega⟩
theorem hr_lw {w ls : List Int} (L : Lw k w ls) : HR (gt (cfold k w)) (Tw k (nw k ls.reverse) 0) := by rw [L.col]; exact hr_word hk w
theorem lti_lw {w ls : List Int} (L : Lw k w ls) : lti k (cfold k w) = ls.length := by
  rw [lti_fl hk (tab_Pw hk _) (good_Tw hk _) (L.gr.gr hk) (hr_lw hk h6 L) (pos_word hk w), L.gr.fl hk h6, nw_len, List.length_reverse]
theorem rp_lw (ls : List Int) : Rp k (Pw k (nw k ls.reverse)) (gmd k (mir k ls.reverse)) := by
  have := rp_mir hk h6 ls.reverse
  rwa [Mw_mir hk h6] at this
theorem flv_lw {w ls : List Int} (L : Lw k w ls) : flv (gmd k (mir k ls.reverse)) = ls.length := by
  rw [(rp_lw hk h6 ls).flv, L.gr.fl hk h6, nw_len, List.length_reverse]
theorem lc_ok {w ls : List Int} (hw : w.length ≤ 30) (hl : Lt k w) (L : Lw k w ls) : LC k (w, ls) := by
  have le := L.le
  have h1 := lti_lw hk h6 L
  have rp := rp_lw hk h6 ls
  refine ⟨wo_ok hw hl, cw_ok hk h6 hw, gm_ok hk h6 (lt_mir hk h6 w) (by rw [mir_len hk h6]; show w.length ≤ 900; omega), co_ok hk h6 hw, ?_, L.gw, ?_, gm_ok hk h6 (lt_mir hk h6 _) (by rw [mir_len hk h6, List.length_reverse]; show ls.length ≤ 900; omega), ?_, ?_, ?_⟩
  · show lti k (cfold k w) ≤ 30
    omega
  · show ls.length ≤ 900
    omega
  · have := rp.len
    show (gmd k (mir k ls.reverse)).length = k.toNat
    omega
  · show lti k (cfold k w) = flv (gmd k (mir k ls.reverse))
    rw [h1, flv_lw hk h6 L]
  · exact chs_cby hk (tab_Pw hk _) (good_Tw hk _) (hr_lw hk h6 L) rp
omit hk h6 in
theorem hld_iff {a b : List Int} (pa : Pos a) (pb : Pos b) : hld a b = true ↔ ∀ c, 0 ≤ c → gt b c ≤ gt a c := by
  unfold hld
  rw [Bool.and_eq_true, decide_eq_true_eq, List.all_eq_true]
  constructor
  · rintro ⟨l, al⟩ c c0
    by_cases q : c < b.length
    · have hm : (a[c.toNat]'(by omega), b[c.toNat]'(by omega)) ∈ a.zip b := by
        refine List.mem_iff_getElem.mpr ⟨c.toNat, by rw [List.length_zip]; omega, ?_⟩
        rw [List.getElem_zip]
      have := al _ (List.mem_map.mpr ⟨_, hm, rfl⟩)
      have h2 : b[c.toNat]'(by omega) ≤ a[c.toNat]'(by omega) := of_decide_eq_true this
      have ea := gt_in (h := a) (i := c.toNat) (by omega)
      have eb := gt_in (h := b) (i := c.toNat) (by omega)
      rw [show ((c.toNat : Nat) : Int) = c by omega] at ea eb
      rw [ea, eb]
      exact h2
    · rw [gt_out (h := b) (by omega)]
      exact pa.nn c
  · intro le
    refine ⟨?_, fun x hx => ?_⟩
    · apply Classical.byContradiction
      intro hn
      have h1 := le a.length (by omega)
      have h2 := pb.at_ (c := a.length) (by omega) (by omega)
      rw [gt_out (h := a) (Int.le_refl _)] at h1
      omega
    · obtain ⟨q, hq, rfl⟩ := List.mem_map.mp hx
      obtain ⟨i, hi, rfl⟩ := List.getElem_of_mem hq
      rw [List.length_zip] at hi
      rw [List.getElem_zip]
      have := le i (by omega)
      rw [gt_in (h := a) (i := i) (by omega), gt_in (h := b) (i := i) (by omega)] at this
      exact decide_eq_true this
theorem sh_gm {ls : List Int} (h : Lt k ls) : Dd.sh (gmd k ls) = 0 := (sm0_gmd hk h6 h).sh
theorem pb_ok {wa la wb lb : List Int} (ha : wa.length ≤ 30) (hb : wb.length ≤ 30) (A : Lw k wa la) (B : Lw k wb lb) : PB k (wa, la) (wb, lb) := by
  have l1 := A.le
  have l2 := B.le
  have s1 := sh_gm hk h6 (lt_mir hk h6 la.reverse)
  have s2 := sh_gm hk h6 (lt_mir hk h6 lb.reverse)
  refine ⟨tm_ok hk h6 (rp_mir hk h6 lb.reverse) (rp_mir hk h6 la.reverse) (by rw [mir_len hk h6, List.length_reverse]; omega) (by rw [mir_len hk h6, List.length_reverse]; omega), ?_, ?_⟩
  · show Dd.sh (gmd k (mir k lb.reverse)) ≤ Dd.sh (gmd k (mir k la.reverse))
    omega
  · show hld (cfold k wa) (cfold k wb) = (mI (gmd k (mir k lb.reverse)) (gmd k (mir k la.reverse))).isNone
    have m := mI_iff hk h6 (rp_lw hk h6 lb) (tab_Pw hk _) (good_Tw hk _) (by rw [nw_len, List.length_reverse]; omega) s2 (rp_lw hk h6 la) (tab_Pw hk _) (good_Tw hk _) (by rw [nw_len, List.length_reverse]; omega)
    have key : hld (cfold k wa) (cfold k wb) = true ↔ (mI (gmd k (mir k lb.reverse)) (gmd k (mir k la.reverse))).isNone = true := by
      rw [m, hld_iff (pos_word hk wa) (pos_word hk wb), ← HR.le (col_Tw hk _) (col_Tw hk _) (hr_lw hk h6 B) (hr_lw hk h6 A)]
      constructor
      · intro le
        exact gr_le hk (tab_Pw hk _) (good_Tw hk _) (B.gr.gr hk) (tab_Pw hk _) (good_Tw hk _) (A.gr.gr hk) le
      · intro le x
        exact le 0 x
    cases z : hld (cfold k wa) (cfold k wb) with
    | true => exact (key.mp z).symm
    | false =>
      cases y : (mI (gmd k (mir k lb.reverse)) (gmd k (mir k la.reverse))).isNone with
      | false => rfl
      | true => rw [key.mpr y] at z; cases z
end
end Dd
set_option maxHeartbeats 200000
/-! What the law asks of two words and a letter. -/
namespace Dd
open Rg
section
variable {k : Int} (hk : 2 ≤ k) (h6 : k ≤ 6)
include hk h6
/-- values near the places: few falls -/
theorem flv_few {v : List Int} (hl : (v.length : Int) = k) (b : ∀ i, 0 ≤ i → i < k → i - 10 ≤ gt v i ∧ gt v i ≤ i + 10) : flv v ≤ 1000 := by
  have hn : v.length = k.toNat := by omega
  have one : ∀ i : Nat, i < k.toNat → ∀ j : Nat, j < k.toNat → max 0 (lf (gt v i - gt v j) v.length - 1 - ((i : Int) - (j : Int)) / (v.length : Int)) ≤ 22 := fun i hi j hj => by
    have b1 := b i (by omega) (by omega)
    have b2 := b j (by omega) (by omega)
    rw [hl]
    unfold lf
    rcases k_cases hk h6 with rfl | rfl | rfl | rfl | rfl <;> omega
  unfold flv
  rw [hn] at one ⊢
  have rows := sm_le (f := fun i : Nat => sm k.toNat fun j => max 0 (lf (gt v i - gt v j) k.toNat - 1 - ((i : Int) - (j : Int)) / (k.toNat : Int))) (b := k.toNat * 22) (n := k.toNat) fun i hi => sm_le (one i hi)
  refine Int.le_trans rows ?_
  rcases k_cases hk h6 with rfl | rfl | rfl | rfl | rfl <;> simp
/-- the inverse map's list -/
theorem rok_tb {u v : List Int} (hv : Rp k (Mw k u) v) (hn : u.length ≤ 900) : Rok (tb v) := by
  have hT := tab_Mw hk u
  have g := good_Mw hk u
  have hn' : (u.length : Int) ≤ 900 := by omega
  have tbv := hv.tb hk h6 hT g hn'
  have bd := hv.tb_bd hk h6 hT g hn'
  have R := hv.tbR hk h6 hT g hn'
  have hl := R.len
  have pr := pr_Mw hk u
  refine ⟨⟨by omega, by omega⟩, fun x hx => ?_, fun i j i0 i1 j0 j1 e => ?_, fun x x0 x1 => ?_⟩
  · obtain ⟨i, hi, rfl⟩ := List.getElem_of_mem hx
    rw [← gt_in hi, R.val i (by omega) (by omega)]
    have := bd i
    unfold Sm
    omega
  · rw [hl] at e
    rw [R.val i i0 (by omega), R.val j j0 (by omega)] at e
    obtain ⟨y, hy⟩ := dvd_of (emod_sub0 e)
    have a := tbv i
    rw [show vir (tb v) i = vir (tb v) j + k * y by omega, pr, tbv j] at a
    have y0 : y = 0 := by
      rcases Int.lt_trichotomy y 0 with w | w | w
      · have := Int.mul_le_mul_of_nonneg_left (show y ≤ -1 by omega) (show 0 ≤ k by omega)
        omega
      · exact w
      · have := Int.mul_le_mul_of_nonneg_left (show 1 ≤ y by omega) (show 0 ≤ k by omega)
        omega
    subst y0
    omega
  · have m0 := Int.emod_nonneg (Mw k u x) (show k ≠ 0 by omega)
    have m1 := Int.emod_lt_of_pos (Mw k u x) (show 0 < k by omega)
    refine ⟨Mw k u x % k, m0, by omega, ?_⟩
    rw [R.val _ m0 m1, hl]
    have a := tbv (Mw k u x)
    have e := tab_inj hT g a
    have p := vir_pr (v := tb v) hl hk (Mw k u x % k) (Mw k u x / k)
    rw [Int.emod_add_mul_ediv, e] at p
    have : vir (tb v) (Mw k u x % k) = x + k * -(Mw k u x / k) := by rw [Int.mul_neg]; omega
    rw [this, Int.add_mul_emod_self_left, Int.emod_eq_of_lt x0 (by omega)]
theorem mir_app (u w : List Int) : mir k (u ++ w) = mir k w ++ mir k u := by rw [mir_nw, mir_nw, mir_nw, nw_app, List.reverse_append]
omit h6 in
theorem sw_up {m y : Int} (h : sw k m y = m + 1) : y = m := by
  unfold sw at h
  split at h
  · omega
  · split at h
    · rename_i a b
      exfalso
      have e : (1 : Int) % k = 0 := by rw [show (1 : Int) = y - m - 1 by omega]; exact b
      rw [Int.emod_eq_of_lt (by omega) (by omega)] at e
      omega
    · rename_i a b
      exfalso
      exact b (by rw [show y - m - 1 = 0 by omega, Int.zero_emod])
omit h6 in
theorem sw_dn {m y : Int} (h : sw k m y = m) : y = m + 1 := by
  unfold sw at h
  split at h
  · rename_i a
    exfalso
    have e : (-1 : Int) % k = 0 := by rw [show (-1 : Int) = y - m by omega]; exact a
    exact absurd e (by
      rw [show (-1 : Int) = (k - 1) + k * -1 by omega, Int.add_mul_emod_self_left, Int.emod_eq_of_lt (by omega) (by omega)]
      omega)
  · split at h
    · omega
    · rename_i a b
      exfalso
      exact a (by rw [show y - m = 0 by omega, Int.zero_emod])
theorem lr_ok {L1 L2 : List Int} {l : Int} (w1 : VW k L1) (w2 : VW k L2) (l0 : 0 ≤ l) (l1 : l < k) : ∃ g1 g2 g3 bh, LR k L1 L2 l g1 g2 g3 bh := by
  have n1 := w1.1
  have n2 := w2.1
  have t1 : Lt k L1 := w1.2
  have t2 : Lt k L2 := w2.2
  have n3 : (L1 ++ L2).length ≤ 30 := by rw [List.length_append]; omega
  obtain ⟨g1, W1⟩ := lw_ex hk h6 (w := L1) (by omega)
  obtain ⟨g2, W2⟩ := lw_ex hk h6 (w := L2) (by omega)
  obtain ⟨g3, W3⟩ := lw_ex hk h6 (w := L1 ++ L2) n3
  have all : ∀ a, a ∈ A3 L1 L2 g1 g2 g3 → a.1.length ≤ 30 ∧ Lt k a.1 ∧ Lw k a.1 a.2 := fun a ha => by
    rcases List.mem_cons.mp ha with rfl | ha
    · exact ⟨by show L1.length ≤ 30; omega, t1, W1⟩
    · rcases List.mem_cons.mp ha with rfl | ha
      · exact ⟨by show L2.length ≤ 30; omega, t2, W2⟩
      · rw [List.mem_singleton.mp ha]
        exact ⟨n3, t1.app t2, W3⟩
  have m0 := Int.emod_nonneg (0 - l) (show k ≠ 0 by omega)
  have m1 := Int.emod_lt_of_pos (0 - l) (show 0 < k by omega)
  have nm : nw k (L1 ++ [l]) = nw k L1 ++ [(0 - l) % k] := nw_app k L1 [l]
  generalize hm : (0 - l) % k = m at *
  have tm : Lt k [m] := fun p hp => by rw [List.mem_singleton.mp hp]; exact ⟨m0, m1⟩
  have tb1 := lt_mir hk h6 g1.reverse
  have le1 := W1.le
  have ng : (mir k g1.reverse).length ≤ 9 := by rw [mir_len hk h6, List.length_reverse]; omega
  have tbh : Lt k ([m] ++ mir k g1.reverse) := tm.app tb1
  have rb := rp_gmd hk tbh
  have nb : ([m] ++ mir k g1.reverse).length ≤ 10 := by rw [List.length_append]; simp; omega
  have eb : Mw k ([m] ++ mir k g1.reverse) = Pw k (nw k g1.reverse ++ [m]) := by
    rw [Mw_Pw, List.reverse_append, mir_nw, List.reverse_reverse]
    rfl
  generalize hbh : gmd k ([m] ++ mir k g1.reverse) = bh at *
  have lb := rb.len
  have rb' : Rp k (Pw k (nw k g1.reverse ++ [m])) bh := by rw [← eb]; exact rb
  -- the core with one letter more
  have col : Tw k (nw k g1.reverse ++ [m]) 0 = Tw k (nw k (L1 ++ [l])) 0 := by rw [nm, Tw_snoc, Tw_snoc, tL_col, tL_col, W1.col]
  have Hn : HR (gt (cfold k (L1 ++ [l]))) (Tw k (nw k g1.reverse ++ [m]) 0) := by rw [col]; exact hr_word hk _
  have ch : chs k (cfold k (L1 ++ [l])) = cby k bh := chs_cby hk (tab_Pw hk _) (good_Tw hk _) Hn rb'
  have hT := tab_Mw hk ([m] ++ mir k g1.reverse)
  have g := good_Mw hk ([m] ++ mir k g1.reverse)
  have hn' : ((([m] ++ mir k g1.reverse).length : Nat) : Int) ≤ 900 := by omega
  have tbv := rb.tb hk h6 hT g hn'
  have bd := rb.tb_bd hk h6 hT g hn'
  have R := rb.tbR hk h6 hT g hn'
  refine ⟨g1, g2, g3, bh, ⟨hk, h6⟩, by rw [List.length_append] at n3; exact n3, fun a ha => ?_, fun a b ha hb => ?_, ?_, ?_, ?_, ?_, ?_, ?_, ?_, ?_, ?_, ?_, ?_, ?_, ?_⟩
  · obtain ⟨x, y, z⟩ := all a ha
    exact lc_ok hk h6 x y z
  · obtain ⟨x, y, z⟩ := all a ha
    obtain ⟨x', y', z'⟩ := all b hb
    exact pb_ok hk h6 x x' z z'
  · refine gb_ok hk h6 (rp_mir hk h6 L2) (rp_mir hk h6 L1) (sm0_gmd hk h6 (lt_mir hk h6 L1)) (by rw [mir_len hk h6]; omega) (by rw [mir_len hk h6]; omega) ?_
    rw [← mir_app hk h6]
    exact rp_mir hk h6 _
  · have := (rp_mir hk h6 (L1 ++ L2)).len
    omega
  · rw [W1.idl]
    exact (flv_lw hk h6 W1).symm
  · rw [hm]
    exact gm_ok hk h6 tm (by simp)
  · rw [hm]
    refine gb_ok hk h6 (rp_gmd hk tm) (rp_mir hk h6 g1.reverse) (sm0_gmd hk h6 tb1) (by simp) ng ?_
    exact rb
  · exact wo_ok (by rw [List.length_append]; simp; omega) (t1.app fun p hp => by rw [List.mem_singleton.mp hp]; exact ⟨l0, l1⟩)
  · exact cw_ok hk h6 (by rw [List.length_append]; simp; omega)
  · rw [← ch]
    refine decide_eq_decide.mpr ⟨fun e => by rw [e], fun e => ?_⟩
    exact chs_inj hk (tab_Pw hk _) (good_Tw hk _) Hn (pos_word hk _) (tab_Pw hk _) (good_Tw hk _) (hr_word hk L1) (pos_word hk _) e
  · omega
  · exact rok_Mw hk h6 rb (by omega)
  · exact rok_tb hk h6 rb (by omega)
  · exact flv_few hk h6 R.len fun i i0 i1 => by
      rw [R.val i i0 i1]
      have := bd i
      omega
  · intro hne
    have ris : Ris0 k m (Tw k (nw k g1.reverse)) := by
      apply Classical.byContradiction
      intro z
      apply hne
      refine (heap_iff hk h6 (hr_word hk (L1 ++ [l])) (pos_word hk _) (hr_word hk L1) (pos_word hk _)).mpr ?_
      rw [← col, Tw_snoc, tL_col, col_same hk h6 z, W1.col]
    rw [hm, (rp_vir (v := tb bh) R.len).df hk (vir_pr R.len hk) m0 m1]
    have P0 := Pw_ris hk ris.ris
    have a := tbv (m + 1)
    have b := tbv m
    rw [eb, P0] at a b
    have a' := sw_up hk a
    have b' := sw_dn hk b
    have := ris_lt hk (tab_Pw hk _) (good_Tw hk _) ris.ris (i := vir (tb bh) (m + 1)) (j := vir (tb bh) m) (by rw [a', Int.sub_self, Int.zero_emod]) (by omega)
    exact decide_eq_true this
end
end Dd
set_option maxHeartbeats 200000
/-! Chains of rings of one order: the places that let letters. -/
namespace Dd
open Rg
/-- a ring of order k -/
def R1 (k : Int) (r : Int × Int) : Prop := ∃ m s : Int, 1 ≤ m ∧ m ≤ 2 ∧ 1 ≤ s ∧ s < k ∧ Nat.gcd k.toNat s.toNat = 1 ∧ r = (k * m, m * s)
def RINGS : List (Int × (Int × Int)) := [(2, (2, 1)), (2, (4, 2)), (3, (3, 1)), (3, (3, 2)), (3, (6, 2)), (3, (6, 4)), (4, (4, 1)), (4, (4, 3)), (4, (8, 2)), (4, (8, 6)), (5, (5, 1)), (5, (5, 2)), (5, (5, 3)), (5, (5, 4)), (5, (10, 2)), (5, (10, 4)), (5, (10, 6)), (5, (10, 8)), (6, (6, 1)), (6, (6, 5)), (6, (12, 2)), (6, (12, 10))]
theorem rings_all {k : Int} (hk : 2 ≤ k) (h6 : k ≤ 6) {r : Int × Int} (h : R1 k r) : (k, r) ∈ RINGS := by
  obtain ⟨m, s, m0, m1, s0, s1, gc, rfl⟩ := h
  have hm : m = 1 ∨ m = 2 := by omega
  have hs : s = 1 ∨ s = 2 ∨ s = 3 ∨ s = 4 ∨ s = 5 := by omega
  rcases k_cases hk h6 with rfl | rfl | rfl | rfl | rfl <;> rcases hm with rfl | rfl <;> rcases hs with rfl | rfl | rfl | rfl | rfl <;> first | (exfalso; omega) | (exfalso; revert gc; decide) | decide
theorem cond_all : ∀ q, q ∈ RINGS → ∀ d l : Int, (d * q.2.2 - l * q.2.2 % q.2.1) % q.2.1 = 0 ↔ (d * 1 - l) % q.1 = 0 := by
  intro q hq d l
  simp only [RINGS, List.mem_cons, List.not_mem_nil, or_false] at hq
  rcases hq with rfl | rfl | rfl | rfl | rfl | rfl | rfl | rfl | rfl | rfl | rfl | rfl | rfl | rfl | rfl | rfl | rfl | rfl | rfl | rfl | rfl | rfl <;> (simp only []; omega)
theorem rl_all : ∀ q, q ∈ RINGS → ∀ l, l ∈ rgs 0 6 → l < q.1 → rl q.2 (l * q.2.2 % q.2.1) = some (q.1, (0 - l) % q.1) := by decide +kernel
theorem bd_all : ∀ q, q ∈ RINGS → (2 ≤ q.2.1 ∧ q.2.1 ≤ 12) ∧ 1 ≤ q.2.2 ∧ q.2.2 ≤ q.2.1 - 1 := by decide
section
variable {k : Int} (hk : 2 ≤ k) (h6 : k ≤ 6)
include hk h6
theorem ring_bd {r : Int × Int} (h : R1 k r) : (2 ≤ r.1 ∧ r.1 ≤ 12) ∧ 1 ≤ r.2 ∧ r.2 ≤ r.1 - 1 := bd_all _ (rings_all hk h6 h)
theorem ring_grw {r : Int × Int} (h : R1 k r) (a : List Int) (l : Int) : grw a r.1 r.2 (l * r.2 % r.1) = grw a k 1 l := by
  unfold grw grC
  congr 1
  refine List.filter_congr fun c _ => ?_
  exact decide_eq_decide.mpr (cond_all _ (rings_all hk h6 h) _ l)
theorem ring_rl {r : Int × Int} (h : R1 k r) {l : Int} (l0 : 0 ≤ l) (l1 : l < k) : rl r (l * r.2 % r.1) = some (k, (0 - l) % k) := rl_all _ (rings_all hk h6 h) l (mem_rgs.mpr ⟨by omega, by omega⟩) l1
end
theorem zip_x : ∀ (L : List Int) (c : List (Int × Int)), c.zip (xof L c) = (L.zip c).map fun p => (p.2, p.1 * p.2.2 % p.2.1)
  | [], c => by simp [xof]
  | l :: L, [] => by simp [xof]
  | l :: L, r :: c => by
    have := zip_x L c
    unfold xof at this ⊢
    rw [List.zip_cons_cons, List.map_cons, List.zip_cons_cons, List.map_cons, this]
/-- a heap of the law's own growth -/
theorem lgr_grw {h : List Int} {n s x : Int} (p : Pos h) : lgr h n s x = grw h n s x := by
  have mem : ∀ c : Int, 0 ≤ c → c ≤ h.length → decide (c ∈ grC h n s x) = lgc h n s x c := fun c c0 c1 => by
    have : c ∈ grC h n s x ↔ lgc h n s x c = true := by
      unfold grC lgc
      rw [List.mem_filter, mem_ac, Bool.and_eq_true]
      constructor
      · rintro ⟨⟨_, a⟩, b⟩; exact ⟨a, b⟩
      · rintro ⟨a, b⟩; exact ⟨⟨⟨c0, c1⟩, a⟩, b⟩
    cases z : lgc h n s x c with
    | true => exact decide_eq_true (this.mpr z)
    | false => exact decide_eq_false fun w => by rw [this.mp w] at z; cases z
  have up : ∀ i : Nat, i ≤ h.length → ((((rgs 0 (h.length + 1)).take i).foldl (lgs h n s x) h).length = h.length ∧ ∀ c : Int, 0 ≤ c → c < h.length → gt (((rgs 0 (h.length + 1)).take i).foldl (lgs h n s x) h) c = gt h c + if c < i then bI (lgc h n s x c) else 0) := by
    intro i
    induction i with
    | zero =>
      intro _
      refine ⟨rfl, fun c c0 c1 => ?_⟩
      rw [if_neg (by omega)]
      show gt h c = _
      omega
    | succ i ih =>
      intro hi
      obtain ⟨l1, v1⟩ := ih (by omega)
      have z : (rgs 0 (h.length + 1))[i]? = some (0 + (i : Int)) := by
        unfold rgs
        rw [List.getElem?_map, List.getElem?_range (by omega)]
        rfl
      refine ⟨lgs_len h n s x (i + 1) hi, fun c c0 c1 => ?_⟩
      rw [fold_step _ _ z, Int.zero_add]
      generalize ((rgs 0 (h.length + 1)).take i).foldl (lgs h n s x) h = f at *
      unfold lgs
      by_cases q : lgc h n s x i = true
      · rw [if_pos q, if_pos (by omega), gt_set (by omega) (by omega) c0]
        by_cases e : (i : Int) = c
        · rw [if_pos e, ← e, if_pos (by omega), q, gt_hs0 (by omega)]
          rfl
        · rw [if_neg e, v1 c c0 c1]
          by_cases w : c < i
          · rw [if_pos w, if_pos (by omega)]
          · rw [if_neg w, if_neg (by omega)]
      · rw [if_neg q, v1 c c0 c1]
        by_cases w : c < i
        · rw [if_pos w, if_pos (by omega)]
        · rw [if_neg w]
          by_cases e : (i : Int) = c
          · rw [if_pos (by omega), ← e, Bool.not_eq_true _ |>.mp q]
            rfl
          · rw [if_neg (by omega)]
  obtain ⟨l1, v1⟩ := up h.length (Nat.le_refl _)
  have zl : (rgs 0 (h.length + 1))[h.length]? = some (0 + (h.length : Int)) := by
    unfold rgs
    rw [List.getElem?_map, List.getElem?_range (by omega)]
    rfl
  have last : lgr h n s x = lgs h n s x (((rgs 0 (h.length + 1)).take h.length).foldl (lgs h n s x) h) h.length := by
    unfold lgr
    have := fold_step (lgs h n s x) h zl
    rw [List.take_of_length_le (by rw [rgs_len]; omega), Int.zero_add] at this
    exact this
  generalize ((rgs 0 (h.length + 1)).take h.length).foldl (lgs h n s x) h = f at *
  have fv : ∀ c : Int, 0 ≤ c → c < h.length → gt f c = gt h c + bI (lgc h n s x c) := fun c c0 c1 => by rw [v1 c c0 c1, if_pos c1]
  have b01 : ∀ b : Bool, 0 ≤ bI b := fun b => by cases b <;> decide
  have rl : risL h (grC h n s x) = f ++ [bI (lgc h n s x h.length)] := by
    refine ext_gt (by rw [List.length_append, l1]; unfold risL; simp [rgs]) fun c c0 c1 => ?_
    have c1 : c < h.length + 1 := by unfold risL at c1; rw [List.length_map, rgs_len] at c1; omega
    rw [gt_risL c0 grC_le, mem c c0 (by omega)]
    by_cases q : c < h.length
    · have e : gt (f ++ [bI (lgc h n s x h.length)]) c = gt f c := by
        unfold gt
        rw [List.getD_eq_getElem?_getD, List.getD_eq_getElem?_getD, List.getElem?_append_left (by omega)]
      rw [e, fv c c0 q]
    · have ec : c = h.length := by omega
      subst ec
      rw [gt_out (h := h) (Int.le_refl _)]
      unfold gt
      rw [List.getD_eq_getElem?_getD, List.getElem?_append_right (by omega), l1]
      simp
  rw [last]
  unfold grw ris lgs
  rw [rl, List.filter_append]
  have ff : f.filter (fun x => decide (0 < x)) = f := List.filter_eq_self.mpr fun y hy => by
    obtain ⟨i, hi, rfl⟩ := List.getElem_of_mem hy
    rw [← gt_in hi, fv i (by omega) (by omega)]
    have := p.at_ (c := i) (by omega) (by omega)
    have := b01 (lgc h n s x i)
    exact decide_eq_true (by omega)
  rw [ff]
  by_cases q : lgc h n s x h.length = true
  · rw [if_pos q, if_neg (by omega), q]
    rfl
  · rw [if_neg q, Bool.not_eq_true _ |>.mp q]
    show f = f ++ []
    rw [List.append_nil]
section
variable {k : Int} (hk : 2 ≤ k) (h6 : k ≤ 6)
include hk h6
theorem folds_eq : ∀ (L : List Int) (c : List (Int × Int)) (h : List Int), (∀ r, r ∈ c → R1 k r) → Pos h → L.length = c.length →
    ((L.zip c).map fun p => (p.2, p.1 * p.2.2 % p.2.1)).foldl (fun h p => grw h p.1.1 p.1.2 p.2) h = L.foldl (fun h l => grw h k 1 l) h ∧ ((L.zip c).map fun p => (p.2, p.1 * p.2.2 % p.2.1)).foldl (fun h p => lgr h p.1.1 p.1.2 p.2) h = L.foldl (fun h l => grw h k 1 l) h
  | [], [], h, _, _, _ => ⟨rfl, rfl⟩
  | [], r :: c, h, _, _, e => by cases e
  | l :: L, [], h, _, _, e => by cases e
  | l :: L, r :: c, h, hc, p, e => by
    have a := ring_grw hk h6 (hc r List.mem_cons_self) h l
    have b : lgr h r.1 r.2 (l * r.2 % r.1) = grw h k 1 l := (lgr_grw p).trans a
    rw [List.zip_cons_cons, List.map_cons, List.foldl_cons, List.foldl_cons, List.foldl_cons]
    show _ = L.foldl _ (grw h k 1 l) ∧ _ = L.foldl _ (grw h k 1 l)
    have ih := folds_eq L c (grw h k 1 l) (fun x hx => hc x (List.mem_cons_of_mem _ hx)) (ris_pos _ _) (by simpa using e)
    simp only [a, b]
    exact ih
theorem folds_take {L : List Int} {c : List (Int × Int)} (hc : ∀ r, r ∈ c → R1 k r) (e : c.length = L.length) (j : Nat) : hfold ((c.zip (xof L c)).take j) = cfold k (L.take j) ∧ lgf ((c.zip (xof L c)).take j) = cfold k (L.take j) := by
  have z := folds_eq hk h6 (L.take j) (c.take j) [] (fun r hr => hc r (List.mem_of_mem_take hr)) (fun x h => nomatch h) (by rw [List.length_take, List.length_take, e])
  have ez : (c.zip (xof L c)).take j = ((L.take j).zip (c.take j)).map fun p => (p.2, p.1 * p.2.2 % p.2.1) := by
    rw [zip_x, ← List.map_take]
    congr 1
    unfold List.zip
    rw [List.take_zipWith]
  rw [ez]
  exact z
end
end Dd
set_option maxHeartbeats 200000
/-! The window: letters that act with a margin. -/
namespace Dd
open Rg
theorem xs1_at {f : List Int} {a i : Int} (a0 : 0 ≤ a) (a1 : a + 1 < f.length) (i0 : 0 ≤ i) : gt (xs1 f a) i = if i = a then max (gt f a) (gt f (a + 1)) else if i = a + 1 then min (gt f a) (gt f (a + 1)) else gt f i := by
  unfold xs1
  by_cases q : gt f a < gt f (a + 1)
  · rw [if_pos q, gt_set (by omega) (by rw [List.length_set]; omega) i0, gt_set a0 (by omega) i0]
    by_cases e1 : i = a
    · rw [if_neg (show ¬ a + 1 = i by omega), if_pos e1.symm, if_pos e1]
      omega
    · by_cases e2 : i = a + 1
      · rw [if_pos e2.symm, if_neg e1, if_pos e2]
        omega
      · rw [if_neg (show ¬ a + 1 = i by omega), if_neg (show ¬ a = i by omega), if_neg e1, if_neg e2]
  · rw [if_neg q]
    by_cases e1 : i = a
    · rw [if_pos e1, e1]; omega
    · by_cases e2 : i = a + 1
      · rw [if_neg e1, if_pos e2, e2]; omega
      · rw [if_neg e1, if_neg e2]
theorem xs1_len' (f : List Int) (a : Int) : (xs1 f a).length = f.length := by unfold xs1; split <;> simp
theorem same_at {o x e : Int} (hx : x % o = 0) (he : e % o = 0) (h0 : e ≤ x) (h1 : x < e + o) : x = e := by
  have := (modz (k := o) (x := x - e) (by omega) (by omega)).mp (by rw [Int.sub_emod, hx, he]; simp)
  omega
/-- the exchanges behind J turns -/
theorem exg_J {v : List Int} {o s0 : Int} (ho : 2 ≤ o) (s00 : 0 ≤ s0) : ∀ J : Nat, s0 + (J : Int) * o < v.length - 1 + o → ((((List.range J).map fun (j : Nat) => s0 + (j : Int) * o).foldl xs1 v).length = v.length ∧
    ∀ i : Int, 0 ≤ i → i < v.length → gt (((List.range J).map fun (j : Nat) => s0 + (j : Int) * o).foldl xs1 v) i =
      if (i - s0) % o = 0 ∧ i < s0 + (J : Int) * o ∧ s0 ≤ i then max (gt v i) (gt v (i + 1)) else if (i - 1 - s0) % o = 0 ∧ i - 1 < s0 + (J : Int) * o ∧ s0 ≤ i - 1 then min (gt v (i - 1)) (gt v i) else gt v i) := by
  intro J
  induction J with
  | zero =>
    intro _
    refine ⟨rfl, fun i i0 i1 => ?_⟩
    rw [if_neg (fun z => by have := z.2; omega), if_neg (fun z => by have := z.2; omega)]
    rfl
  | succ J ih =>
    intro hJ
    have ej : ((J + 1 : Nat) : Int) * o = (J : Int) * o + o := by rw [Int.natCast_add, Int.add_mul]; simp
    rw [ej] at hJ ⊢
    have m0 : ((J : Int) * o) % o = 0 := Int.mul_emod_left _ _
    have n0 : 0 ≤ (J : Int) * o := Int.mul_nonneg (by omega) (by omega)
    obtain ⟨l1, v1⟩ := ih (by omega)
    rw [List.range_succ, List.map_append, List.foldl_append]
    show (xs1 _ (s0 + (J : Int) * o)).length = _ ∧ ∀ i : Int, _ → _ → gt (xs1 _ (s0 + (J : Int) * o)) i = _
    generalize ((List.range J).map fun (j : Nat) => s0 + (j : Int) * o).foldl xs1 v = f at *
    generalize (J : Int) * o = e at *
    refine ⟨by rw [xs1_len', l1], fun i i0 i1 => ?_⟩
    have a1 : s0 + e + 1 < v.length := by omega
    have one : ¬ (1 : Int) % o = 0 := by rw [Int.emod_eq_of_lt (by omega) (by omega)]; omega
    have notup : ∀ x : Int, x % o = 0 → ¬ (x - 1) % o = 0 := fun x h => mod_next ho h
    have va := v1 (s0 + e) (by omega) (by omega)
    have vb := v1 (s0 + e + 1) (by omega) (by omega)
    rw [if_neg (fun z => by have := z.2.1; omega), if_neg (fun z => notup (s0 + e - s0) (by rw [show s0 + e - s0 = e by omega]; exact m0) (by rw [show s0 + e - s0 - 1 = s0 + e - 1 - s0 by omega]; exact z.1))] at va
    rw [if_neg (fun z => by have := z.2.1; omega), if_neg (fun z => by have := z.2.1; omega)] at vb
    rw [xs1_at (by omega) (by omega) i0, va, vb]
    by_cases e1 : i = s0 + e
    · subst e1
      rw [if_pos rfl, if_pos ⟨by rw [show s0 + e - s0 = e by omega]; exact m0, by omega, by omega⟩]
    · rw [if_neg e1]
      by_cases e2 : i = s0 + e + 1
      · subst e2
        rw [if_pos rfl, if_neg (fun z => by
          have := notup _ z.1
          exact this (by rw [show s0 + e + 1 - s0 - 1 = e by omega]; exact m0)), if_pos ⟨by rw [show s0 + e + 1 - 1 - s0 = e by omega]; exact m0, by omega, by omega⟩, show s0 + e + 1 - 1 = s0 + e by omega]
      · rw [if_neg e2, v1 i i0 i1]
        have c1 : ((i - s0) % o = 0 ∧ i < s0 + e ∧ s0 ≤ i) ↔ ((i - s0) % o = 0 ∧ i < s0 + (e + o) ∧ s0 ≤ i) := by
          constructor
          · rintro ⟨a, b, c⟩; exact ⟨a, by omega, c⟩
          · rintro ⟨a, b, c⟩
            refine ⟨a, ?_, c⟩
            apply Classical.byContradiction
            intro hn
            have := same_at a m0 (by omega) (by omega)
            omega
        have c2 : ((i - 1 - s0) % o = 0 ∧ i - 1 < s0 + e ∧ s0 ≤ i - 1) ↔ ((i - 1 - s0) % o = 0 ∧ i - 1 < s0 + (e + o) ∧ s0 ≤ i - 1) := by
          constructor
          · rintro ⟨a, b, c⟩; exact ⟨a, by omega, c⟩
          · rintro ⟨a, b, c⟩
            refine ⟨a, ?_, c⟩
            apply Classical.byContradiction
            intro hn
            have := same_at a m0 (by omega) (by omega)
            omega
        by_cases d1 : (i - s0) % o = 0 ∧ i < s0 + e ∧ s0 ≤ i
        · rw [if_pos d1, if_pos (c1.mp d1)]
        · rw [if_neg d1, if_neg (fun z => d1 (c1.mpr z))]
          by_cases d2 : (i - 1 - s0) % o = 0 ∧ i - 1 < s0 + e ∧ s0 ≤ i - 1
          · rw [if_pos d2, if_pos (c2.mp d2)]
          · rw [if_neg d2, if_neg (fun z => d2 (c2.mpr z))]
/-- v tells Q within a margin of t -/
structure In (first : Int) (N : Nat) (t : Int) (Q : Int → Int) (v : List Int) : Prop where
  len : v.length = N
  val : ∀ i : Int, t ≤ i → i ≤ N - 1 - t → gt v i = Q (first + i)
theorem In.exg {first o q : Int} {N : Nat} {t : Int} {Q : Int → Int} {v : List Int} (h : In first N t Q v) (ho : 2 ≤ o) (t0 : 0 ≤ t) (hN : 2 ≤ N) : In first N (t + 1) (act o q Q) (exg v first o q) := by
  have hl := h.len
  have s00 := Int.emod_nonneg (q - first) (show o ≠ 0 by omega)
  have s01 := Int.emod_lt_of_pos (q - first) (show 0 < o by omega)
  have ds := Int.emod_add_mul_ediv (q - first) o
  refine ⟨by rw [exg_len]; exact hl, fun i i0 i1 => ?_⟩
  unfold Dd.exg rgc
  generalize hs : (q - first) % o = s0 at *
  have mq : ∀ x, (x - s0) % o = 0 ↔ (first + x - q) % o = 0 := fun x => by
    rw [show x - s0 = first + x - q + o * ((q - first) / o) by omega, Int.add_mul_emod_self_left]
  have hn : s0 + (nst s0 ((v.length : Int) - 1) o : Int) * o < v.length - 1 + o ∧ ∀ x, (x - s0) % o = 0 → s0 ≤ x → x < (v.length : Int) - 1 → x < s0 + (nst s0 ((v.length : Int) - 1) o : Int) * o := by
    unfold nst
    by_cases w : s0 < (v.length : Int) - 1
    · rw [if_pos w]
      have y0 : 0 ≤ ((v.length : Int) - 1 - s0 - 1) / o := Int.ediv_nonneg (by omega) (by omega)
      have d := Int.emod_add_mul_ediv ((v.length : Int) - 1 - s0 - 1) o
      have a0 := Int.emod_nonneg ((v.length : Int) - 1 - s0 - 1) (show o ≠ 0 by omega)
      have a1 := Int.emod_lt_of_pos ((v.length : Int) - 1 - s0 - 1) (show 0 < o by omega)
      rw [show (((((v.length : Int) - 1 - s0 - 1) / o + 1).toNat : Nat) : Int) = ((v.length : Int) - 1 - s0 - 1) / o + 1 by omega, Int.add_mul, Int.mul_comm _ o]
      refine ⟨by omega, fun x hx x0 x1 => ?_⟩
      obtain ⟨y, hy⟩ := dvd_of hx
      have : y ≤ ((v.length : Int) - 1 - s0 - 1) / o := by
        apply Int.le_ediv_of_mul_le (by omega)
        rw [Int.mul_comm]
        omega
      have := Int.mul_le_mul_of_nonneg_left this (show 0 ≤ o by omega)
      omega
    · rw [if_neg w]
      exact ⟨by simp; omega, fun x _ x0 x1 => absurd x1 (by omega)⟩
  obtain ⟨_, vv⟩ := exg_J (v := v) ho s00 (nst s0 ((v.length : Int) - 1) o) hn.1
  rw [vv i (by omega) (by omega)]
  have low : ∀ x, 0 ≤ x → (x - s0) % o = 0 → s0 ≤ x := fun x x0 hx => by
    obtain ⟨y, hy⟩ := dvd_of hx
    apply Classical.byContradiction
    intro hlt
    have := (modz (k := o) (x := x - s0) (by omega) (by omega)).mp hx
    omega
  unfold act
  have q0 := h.val i (by omega) (by omega)
  have q1 := h.val (i + 1) (by omega) (by omega)
  have q2 := h.val (i - 1) (by omega) (by omega)
  by_cases c1 : (i - s0) % o = 0
  · rw [if_pos ⟨c1, hn.2 i c1 (low i (by omega) c1) (by omega), low i (by omega) c1⟩, if_pos ((mq i).mp c1), q0, q1, show first + (i + 1) = first + i + 1 by omega]
  · rw [if_neg (fun z => c1 z.1), if_neg (fun z => c1 ((mq i).mpr z))]
    by_cases c2 : (i - 1 - s0) % o = 0
    · rw [if_pos ⟨c2, hn.2 (i - 1) c2 (low (i - 1) (by omega) c2) (by omega), low (i - 1) (by omega) c2⟩, if_pos (by have := (mq (i - 1)).mp c2; rwa [show first + (i - 1) - q = first + i - q - 1 by omega] at this), q0, q2, show first + (i - 1) = first + i - 1 by omega]
    · rw [if_neg (fun z => c2 z.1), if_neg (fun z => c2 ((mq (i - 1)).mpr (by rwa [show first + (i - 1) - q = first + i - q - 1 by omega]))), q0]
theorem In.word {first o : Int} {N : Nat} (ho : 2 ≤ o) (hN : 2 ≤ N) : ∀ (u : List Int) (t : Int) (Q : Int → Int) (v : List Int), 0 ≤ t → In first N t Q v → In first N (t + u.length) (mw o u Q) (u.foldl (fun v q => Dd.exg v first o q) v)
  | [], t, Q, v, _, h => by rw [show t + (([] : List Int).length : Int) = t by simp]; exact h
  | q :: u, t, Q, v, t0, h => by
    have := In.word ho hN u (t + 1) (act o q Q) (Dd.exg v first o q) (by omega) (h.exg ho t0 hN)
    rw [List.foldl_cons, show t + ((q :: u).length : Int) = t + 1 + (u.length : Int) by rw [List.length_cons]; omega]
    exact this
theorem act_const {k m c : Int} {P : Int → Int} : act k m (fun x => P x + c) = fun x => act k m P x + c := by
  funext a
  unfold act
  split
  · show max (P a + c) (P (a + 1) + c) = max (P a) (P (a + 1)) + c; omega
  · split
    · show min (P (a - 1) + c) (P a + c) = min (P (a - 1)) (P a) + c; omega
    · rfl
theorem mw_const {k c : Int} : ∀ (u : List Int) (P : Int → Int), mw k u (fun x => P x + c) = fun x => mw k u P x + c
  | [], P => rfl
  | m :: u, P => by
    show mw k u (act k m fun x => P x + c) = fun x => mw k u (act k m P) x + c
    rw [act_const, mw_const u]
section
variable {k : Int} (hk : 2 ≤ k) (h6 : k ≤ 6)
include hk h6
theorem win_ok (L : List Int) (t : Int) : wiF t (L.map fun l => some (k, (0 - l) % k)) (0 - k) k = (rgs (0 - k) (2 * k + 1).toNat).map fun i => vir (gmd k (mir k L)) i + t - L.length := by
  have rp := rp_mir hk h6 L
  have pr := pr_Mw hk (mir k L)
  have ev := rp.vir hk pr
  have el : (L.map fun l => some (k, (0 - l) % k)).length = L.length := List.length_map ..
  have er : (L.map fun l => some (k, (0 - l) % k)).reverse = (mir k L).map fun q => some (k, q) := by
    unfold mir
    rw [List.map_map, List.map_reverse]
    rfl
  have ew : wiV t (L.map fun l => some (k, (0 - l) % k)) (0 - k) k = (mir k L).foldl (fun v q => exg v (0 - k - L.length) k q) (wi0 t L.length (0 - k) k) := by
    unfold wiV
    rw [er, el, List.foldl_map]
    rfl
  have w0 : In (0 - k - L.length) (k + L.length + 1 - (0 - k - L.length)).toNat 0 (fun x => x + (t - L.length)) (wi0 t L.length (0 - k) k) := by
    refine ⟨by unfold wi0; rw [List.length_map, rgs_len], fun i i0 i1 => ?_⟩
    unfold wi0
    rw [gt_mapR _ i0 (by omega)]
    show 0 - k - L.length + i + t - L.length = 0 - k - L.length + i + (t - L.length)
    omega
  have W := In.word hk (by omega) (mir k L) 0 _ _ (Int.le_refl 0) w0
  rw [← ew, mw_const (mir k L) fun x => x, mir_len hk h6, Int.zero_add] at W
  have wl := W.len
  unfold wiF
  rw [el]
  refine ext_gt (by rw [List.length_take, List.length_drop, wl, List.length_map, rgs_len]; omega) fun i i0 i1 => ?_
  have i1 : i < 2 * k + 1 := by rw [List.length_take, List.length_drop, wl] at i1; omega
  have e1 : gt (((wiV t (L.map fun l => some (k, (0 - l) % k)) (0 - k) k).drop L.length).take (k - (0 - k) + 1).toNat) i = gt (wiV t (L.map fun l => some (k, (0 - l) % k)) (0 - k) k) (L.length + i) := by
    unfold gt
    rw [List.getD_eq_getElem?_getD, List.getD_eq_getElem?_getD, List.getElem?_take_of_lt (by omega), List.getElem?_drop, show ((L.length : Int) + i).toNat = L.length + i.toNat by omega]
  rw [e1, W.val _ (by omega) (by omega), gt_mapR _ i0 (by omega), ev]
  show Mw k (mir k L) (0 - k - L.length + (L.length + i)) + (t - L.length) = Mw k (mir k L) (0 - k + i) + t - L.length
  rw [show 0 - k - (L.length : Int) + (L.length + i) = 0 - k + i by omega]
  omega
/-- what the law asks of a chain -/
theorem cr_ok {L : List Int} {c : List (Int × Int)} (w : VW k L) (hc : VC k c) (e : c.length = L.length) : CR k L c := by
  have n1 := w.1
  have tL : Lt k L := w.2
  have rr : ∀ r, r ∈ c → R1 k r := hc
  have rb := fun r hr => ring_bd hk h6 (rr r hr)
  have xl : (xof L c).length = c.length := by unfold xof; rw [List.length_map, List.length_zip]; omega
  have zx : ∀ p, p ∈ c.zip (xof L c) → (∃ r l, r ∈ c ∧ (0 ≤ l ∧ l < k) ∧ p = (r, l * r.2 % r.1)) := fun p hp => by
    rw [zip_x] at hp
    obtain ⟨q, hq, rfl⟩ := List.mem_map.mp hp
    have := List.of_mem_zip hq
    exact ⟨q.2, q.1, this.2, w.2 _ this.1, rfl⟩
  have zb : ∀ p, p ∈ c.zip (xof L c) → 0 ≤ p.2 ∧ p.2 ≤ p.1.1 - 1 := fun p hp => by
    obtain ⟨r, l, hr, _, rfl⟩ := zx p hp
    have := rb r hr
    have a := Int.emod_nonneg (l * r.2) (show r.1 ≠ 0 by omega)
    have b := Int.emod_lt_of_pos (l * r.2) (show 0 < r.1 by omega)
    exact ⟨a, by show l * r.2 % r.1 ≤ r.1 - 1; omega⟩
  have ft := fun j => folds_take hk h6 rr e j
  have sm := fun j => (sml_word hk h6 (w := L.take j) (by rw [List.length_take]; omega))
  have full : (c.zip (xof L c)).take L.length = c.zip (xof L c) := List.take_of_length_le (by rw [List.length_zip]; omega)
  have f0 := ft L.length
  rw [full, List.take_length] at f0
  have rp := rp_mir hk h6 L
  have rlen := rp.len
  refine ⟨⟨hk, by omega⟩, wo_ok (by omega) tL, cw_ok hk h6 (by omega), gm_ok hk h6 (lt_mir hk h6 L) (by rw [mir_len hk h6]; omega), by omega, e, ⟨⟨by omega, by omega⟩, fun r hr => ?_⟩, ⟨xl, by omega, zb⟩, ⟨xl, by omega, fun r hr => ?_, fun j => by rw [(ft j).1]; exact sm j⟩, ⟨by omega, fun p hp => ?_⟩, co_ok hk h6 (by omega), f0.1, fun j => by rw [(ft j).2]; exact sm j, f0.2, ?_, ?_, ?_, ?_⟩
  · have := rb r hr
    exact ⟨⟨by omega, by omega⟩, by omega, by omega⟩
  · have := rb r hr
    exact ⟨by omega, by omega, by omega, by omega⟩
  · have b := zb p hp
    obtain ⟨r, l, hr, _, rfl⟩ := zx p hp
    have := rb r hr
    exact ⟨⟨⟨by show 2 ≤ r.1; omega, by show r.1 ≤ 60; omega⟩, by show 1 ≤ r.2; omega, by show r.2 ≤ r.1 - 1; omega⟩, b.1, by have h2 : l * r.2 % r.1 ≤ r.1 - 1 := b.2; show l * r.2 % r.1 ≤ 60; omega⟩
  · have rp' : Rp k (Pw k (nw k L)) (gmd k (mir k L)) := by rw [← Mw_mir hk h6]; exact rp
    exact chs_cby hk (tab_Pw hk _) (good_Tw hk _) (hr_word hk L) rp'
  · unfold ltd
    rw [zip_x, List.map_map]
    have key : ∀ (L : List Int) (c : List (Int × Int)), (∀ r, r ∈ c → R1 k r) → Lt k L → c.length = L.length → (L.zip c).map ((fun p : (Int × Int) × Int => rl p.1 p.2) ∘ fun p : Int × (Int × Int) => (p.2, p.1 * p.2.2 % p.2.1)) = L.map fun l => some (k, (0 - l) % k) := by
      intro L
      induction L with
      | nil => intro c _ _ _; rfl
      | cons l L ih =>
        intro c hc hL e
        cases c with
        | nil => cases e
        | cons r c =>
          rw [List.zip_cons_cons, List.map_cons, List.map_cons, ih c (fun x hx => hc x (List.mem_cons_of_mem _ hx)) (fun x hx => hL x (List.mem_cons_of_mem _ hx)) (by simpa using e)]
          have b := hL l List.mem_cons_self
          congr 1
          exact ring_rl hk h6 (hc r List.mem_cons_self) b.1 b.2
    exact key L c rr tL e
  · intro t _ _
    have el : ltd c (xof L c) = L.map fun l => some (k, (0 - l) % k) := by
      unfold ltd
      rw [zip_x, List.map_map]
      have key : ∀ (L : List Int) (c : List (Int × Int)), (∀ r, r ∈ c → R1 k r) → Lt k L → c.length = L.length → (L.zip c).map ((fun p : (Int × Int) × Int => rl p.1 p.2) ∘ fun p : Int × (Int × Int) => (p.2, p.1 * p.2.2 % p.2.1)) = L.map fun l => some (k, (0 - l) % k) := by
        intro L
        induction L with
        | nil => intro c _ _ _; rfl
        | cons l L ih =>
          intro c hc hL e
          cases c with
          | nil => cases e
          | cons r c =>
            rw [List.zip_cons_cons, List.map_cons, List.map_cons, ih c (fun x hx => hc x (List.mem_cons_of_mem _ hx)) (fun x hx => hL x (List.mem_cons_of_mem _ hx)) (by simpa using e)]
            have b := hL l List.mem_cons_self
            congr 1
            exact ring_rl hk h6 (hc r List.mem_cons_self) b.1 b.2
      exact key L c rr tL e
    rw [el, win_ok hk h6, e]
  · intro i _ _
    rw [rp.vir hk (pr_Mw hk _)]
    have := tab_bd (tab_Mw hk (mir k L)) (good_Mw hk (mir k L)) i
    rw [mir_len hk h6] at this
    omega
end
end Dd
set_option maxHeartbeats 4000000
/-! Every def keeps its promise; the law. Printed by genjoin.py. -/
namespace Dd
open PySem PySem.Spec PyProof.Rows L2 He
section
variable {P : Program} {w : World} {K : PySem.W.Frag} {h base : Heap} {mg : Str → Option Value}
theorem ex_at (c : Hd.SaysY h K) (i : Nat) {b : Bool} (e : (Hd.exL K)[i]? = some b) : b = true := List.all_eq_true.mp c.ex b (List.mem_of_getElem? e)
theorem dfC_of {x : Str} {st : Stmt} {p : Str × Option Str} {fd : FuncData} (F : FunD K x x (defArgs st) (defBody st) (defScope st) [] [] (fAd K p) fd) (hm : mg x = some (.ref (fAd K p))) : DfC K mg x st (codeOf K p) := by
  obtain ⟨oc, od, dV, kV, doc, pm, an, cdv, ct, osl, rfl, lk, hcd, d1, d2⟩ := id F.ex
  obtain ⟨c, rfl⟩ := codeIn_ref hcd
  have e : codeOf K p = c := codeOf_eq lk rfl
  rw [e]
  exact ⟨_, dV, kV, doc, pm, ct, oc, an, od, osl, F, lk, hcd, hm⟩
/-- the class's address, the tables, the code objects -/
def csK (K : PySem.W.Frag) : Cs := ⟨ga K "Round", (cT K ("first_fall", none)).2, (cT K ("first_fall", none)).1, (cT K ("ring_letter", none)).2, (cT K ("ring_letter", none)).1⟩
theorem wd_of (X : K.In h) (G : h.Ns mainGlobals mg) (c : Hd.SaysY h K) : Wd mg where
  gcd := PySem.W.mg_of X G (eqO_ok (ex_at c 27 rfl))
  len := He.free_ok X G (c.d.fact 96 (f := .free "len") rfl)
  range := He.free_ok X G (c.d.fact 97 (f := .free "range") rfl)
  zip := He.free_ok X G (c.d.fact 98 (f := .free "zip") rfl)
  enumerate := He.free_ok X G (c.d.fact 99 (f := .free "enumerate") rfl)
  sum := He.free_ok X G (c.d.fact 100 (f := .free "sum") rfl)
  max := He.free_ok X G (c.d.fact 101 (f := .free "max") rfl)
  min := He.free_ok X G (c.d.fact 102 (f := .free "min") rfl)
  all := He.free_ok X G (c.d.fact 103 (f := .free "all") rfl)
  sorted := He.free_ok X G (c.d.fact 104 (f := .free "sorted") rfl)
  tuple := He.free_ok X G (c.d.fact 105 (f := .free "tuple") rfl)
  list := He.free_ok X G (c.d.fact 106 (f := .free "list") rfl)
  int := He.free_ok X G (c.d.fact 107 (f := .free "int") rfl)
  bool := He.free_ok X G (c.d.fact 108 (f := .free "bool") rfl)
  abs := He.free_ok X G (c.d.fact 109 (f := .free "abs") rfl)
  isinstance := He.free_ok X G (c.d.fact 110 (f := .free "isinstance") rfl)
  next := He.free_ok X G (c.d.fact 111 (f := .free "next") rfl)
  MOST_RINGS := He.int_ok X G (c.d.fact 112 (f := .int "MOST_RINGS" 12) rfl)
  MOST_PLACES := He.int_ok X G (c.d.fact 113 (f := .int "MOST_PLACES" 60) rfl)
  MAX_ROUND := He.int_ok X G (c.d.fact 114 (f := .int "MAX_ROUND" 60) rfl)
  MOST_VALUE_DIGITS := He.int_ok X G (c.d.fact 115 (f := .int "MOST_VALUE_DIGITS" 60) rfl)
  MAX_FALLS := He.int_ok X G (c.d.fact 116 (f := .int "MAX_FALLS" 1000) rfl)
  MAX_LETTERS := He.int_ok X G (c.d.fact 117 (f := .int "MAX_LETTERS" 2000) rfl)
  MOST_SIDE := He.int_ok X G (c.d.fact 118 (f := .int "MOST_SIDE" 60) rfl)
  LEAST_ORDER := He.int_ok X G (c.d.fact 119 (f := .int "LEAST_ORDER" 2) rfl)
  MAX_ORDER := He.int_ok X G (c.d.fact 120 (f := .int "MAX_ORDER" 60) rfl)
  MAX_CORE_WORD := He.int_ok X G (c.d.fact 121 (f := .int "MAX_CORE_WORD" 200) rfl)
  MOST_GROWN := He.int_ok X G (c.d.fact 122 (f := .int "MOST_GROWN" 30) rfl)
  MOST_WINDOW := He.int_ok X G (c.d.fact 123 (f := .int "MOST_WINDOW" 200) rfl)
  MOST_VALUE_SIGNS := He.int_ok X G (c.d.fact 124 (f := .int "MOST_VALUE_SIGNS" 60) rfl)
  SIXTY_DIGITS := He.int_ok X G (c.d.fact 125 (f := .int "SIXTY_DIGITS" 1000000000000000000000000000000000000000000000000000000000000) rfl)
theorem rd_of (X : K.In h) (G : h.Ns mainGlobals mg) (c : Hd.SaysY h K) : Rd0 K mg (csK K) where
  mg := He.glo_ok X G (c.d.fact 126 (f := .glo "Round") rfl)
  cl := ⟨ex_at c 0 rfl, ex_at c 1 rfl, ex_at c 2 rfl, eqO_ok (ex_at c 3 rfl)⟩
  isi := ⟨eqO_ok (ex_at c 4 rfl), eqO_ok (ex_at c 5 rfl), of_decide_eq_true (ex_at c 6 rfl), of_decide_eq_true (ex_at c 7 rfl)⟩
  slot := ⟨_, eqO_ok (ex_at c 8 rfl), eqO_ok (ex_at c 9 rfl), of_decide_eq_true (ex_at c 10 rfl), of_decide_eq_true (ex_at c 11 rfl), of_decide_eq_true (ex_at c 12 rfl), by decide⟩
  ne := eqO_ok (ex_at c 13 rfl)
  nf := ex_at c 14 rfl
theorem mk_of (c : Hd.SaysY h K) : Mk K (csK K).cls (ma K (ga K "Round") "__init__") := He.mkr_ok (c.d.fact 127 (f := .mkr "Round") rfl)
theorem co_of (c : Hd.SaysY h K) : StX.CallO K (csK K).cls (ma K (ga K "Round") "__call__") := ⟨eqO_ok (ex_at c 15 rfl), ex_at c 16 rfl, ex_at c 17 rfl⟩
theorem fall_of (c : Hd.SaysY h K) : ∃ rest, PySem.W.recIn K (ma K (ga K "Round") "falls") "property" = some (.ref (Hd.fg K) :: rest) := by
  have e := ex_at c 25 rfl
  unfold Hd.fg
  cases z : PySem.W.recIn K (ma K (ga K "Round") "falls") "property" with
  | none => rw [z] at e; cases e
  | some l =>
    rw [z] at e
    cases l with
    | nil => cases e
    | cons v l => cases v with
      | ref a => exact ⟨l, rfl⟩
      | _ => cases e
theorem df_is_whole (X : K.In h) (G : h.Ns mainGlobals mg) (c : Hd.SaysY h K) : Df K mg "is_whole" (top 15) := let ⟨fd, F⟩ := c.d.def_ 0 (d := Hd.d_is_whole) rfl; ⟨_, fd, F, He.glo_ok X G (c.d.fact 0 (f := .glo "is_whole") rfl)⟩
theorem df_is_integer (X : K.In h) (G : h.Ns mainGlobals mg) (c : Hd.SaysY h K) : Df K mg "is_integer" (top 16) := let ⟨fd, F⟩ := c.d.def_ 1 (d := Hd.d_is_integer) rfl; ⟨_, fd, F, He.glo_ok X G (c.d.fact 1 (f := .glo "is_integer") rfl)⟩
theorem df_is_within (X : K.In h) (G : h.Ns mainGlobals mg) (c : Hd.SaysY h K) : Df K mg "is_within" (top 17) := let ⟨fd, F⟩ := c.d.def_ 2 (d := Hd.d_is_within) rfl; ⟨_, fd, F, He.glo_ok X G (c.d.fact 2 (f := .glo "is_within") rfl)⟩
theorem df_is_ring_in (X : K.In h) (G : h.Ns mainGlobals mg) (c : Hd.SaysY h K) : Df K mg "is_ring_in" (top 18) := let ⟨fd, F⟩ := c.d.def_ 3 (d := Hd.d_is_ring_in) rfl; ⟨_, fd, F, He.glo_ok X G (c.d.fact 3 (f := .glo "is_ring_in") rfl)⟩
theorem df_is_chain_in (X : K.In h) (G : h.Ns mainGlobals mg) (c : Hd.SaysY h K) : Df K mg "is_chain_in" (top 19) := let ⟨fd, F⟩ := c.d.def_ 4 (d := Hd.d_is_chain_in) rfl; ⟨_, fd, F, He.glo_ok X G (c.d.fact 4 (f := .glo "is_chain_in") rfl)⟩
theorem df_order_in (X : K.In h) (G : h.Ns mainGlobals mg) (c : Hd.SaysY h K) : Df K mg "order_in" (top 20) := let ⟨fd, F⟩ := c.d.def_ 5 (d := Hd.d_order_in) rfl; ⟨_, fd, F, He.glo_ok X G (c.d.fact 5 (f := .glo "order_in") rfl)⟩
theorem df_require_chain (X : K.In h) (G : h.Ns mainGlobals mg) (c : Hd.SaysY h K) : Df K mg "require_chain" (top 21) := let ⟨fd, F⟩ := c.d.def_ 6 (d := Hd.d_require_chain) rfl; ⟨_, fd, F, He.glo_ok X G (c.d.fact 6 (f := .glo "require_chain") rfl)⟩
theorem df_require_integer (X : K.In h) (G : h.Ns mainGlobals mg) (c : Hd.SaysY h K) : Df K mg "require_integer" (top 22) := let ⟨fd, F⟩ := c.d.def_ 7 (d := Hd.d_require_integer) rfl; ⟨_, fd, F, He.glo_ok X G (c.d.fact 7 (f := .glo "require_integer") rfl)⟩
theorem df_value_in_round (X : K.In h) (G : h.Ns mainGlobals mg) (c : Hd.SaysY h K) : Df K mg "value_in_round" (top 26) := let ⟨fd, F⟩ := c.d.def_ 8 (d := Hd.d_value_in_round) rfl; ⟨_, fd, F, He.glo_ok X G (c.d.fact 8 (f := .glo "value_in_round") rfl)⟩
theorem df_lifted (X : K.In h) (G : h.Ns mainGlobals mg) (c : Hd.SaysY h K) : Df K mg "lifted" (top 27) := let ⟨fd, F⟩ := c.d.def_ 9 (d := Hd.d_lifted) rfl; ⟨_, fd, F, He.glo_ok X G (c.d.fact 9 (f := .glo "lifted") rfl)⟩
theorem df_falls_of (X : K.In h) (G : h.Ns mainGlobals mg) (c : Hd.SaysY h K) : Df K mg "falls_of" (top 28) := let ⟨fd, F⟩ := c.d.def_ 10 (d := Hd.d_falls_of) rfl; ⟨_, fd, F, He.glo_ok X G (c.d.fact 10 (f := .glo "falls_of") rfl)⟩
theorem df_shift_of (X : K.In h) (G : h.Ns mainGlobals mg) (c : Hd.SaysY h K) : Df K mg "shift_of" (top 29) := let ⟨fd, F⟩ := c.d.def_ 11 (d := Hd.d_shift_of) rfl; ⟨_, fd, F, He.glo_ok X G (c.d.fact 11 (f := .glo "shift_of") rfl)⟩
theorem df_counted_in (X : K.In h) (G : h.Ns mainGlobals mg) (c : Hd.SaysY h K) : Df K mg "counted_in" (top 30) := let ⟨fd, F⟩ := c.d.def_ 12 (d := Hd.d_counted_in) rfl; ⟨_, fd, F, He.glo_ok X G (c.d.fact 12 (f := .glo "counted_in") rfl)⟩
theorem df_turned_back (X : K.In h) (G : h.Ns mainGlobals mg) (c : Hd.SaysY h K) : Df K mg "turned_back" (top 32) := let ⟨fd, F⟩ := c.d.def_ 13 (d := Hd.d_turned_back) rfl; ⟨_, fd, F, He.glo_ok X G (c.d.fact 13 (f := .glo "turned_back") rfl)⟩
theorem df_common_round (X : K.In h) (G : h.Ns mainGlobals mg) (c : Hd.SaysY h K) : Df K mg "common_round" (top 33) := let ⟨fd, F⟩ := c.d.def_ 14 (d := Hd.d_common_round) rfl; ⟨_, fd, F, He.glo_ok X G (c.d.fact 14 (f := .glo "common_round") rfl)⟩
theorem df_are_same_maps (X : K.In h) (G : h.Ns mainGlobals mg) (c : Hd.SaysY h K) : Df K mg "are_same_maps" (top 34) := let ⟨fd, F⟩ := c.d.def_ 15 (d := Hd.d_are_same_maps) rfl; ⟨_, fd, F, He.glo_ok X G (c.d.fact 15 (f := .glo "are_same_maps") rfl)⟩
theorem df_is_round_in (X : K.In h) (G : h.Ns mainGlobals mg) (c : Hd.SaysY h K) : Df K mg "is_round_in" (top 35) := let ⟨fd, F⟩ := c.d.def_ 16 (d := Hd.d_is_round_in) rfl; ⟨_, fd, F, He.glo_ok X G (c.d.fact 16 (f := .glo "is_round_in") rfl)⟩
theorem df_told_round (X : K.In h) (G : h.Ns mainGlobals mg) (c : Hd.SaysY h K) : Df K mg "told_round" (top 37) := let ⟨fd, F⟩ := c.d.def_ 17 (d := Hd.d_told_round) rfl; ⟨_, fd, F, He.glo_ok X G (c.d.fact 17 (f := .glo "told_round") rfl)⟩
theorem df_require_round_size (X : K.In h) (G : h.Ns mainGlobals mg) (c : Hd.SaysY h K) : Df K mg "require_round_size" (top 39) := let ⟨fd, F⟩ := c.d.def_ 18 (d := Hd.d_require_round_size) rfl; ⟨_, fd, F, He.glo_ok X G (c.d.fact 18 (f := .glo "require_round_size") rfl)⟩
theorem df_letter_behind (X : K.In h) (G : h.Ns mainGlobals mg) (c : Hd.SaysY h K) : Df K mg "letter_behind" (top 43) := let ⟨fd, F⟩ := c.d.def_ 19 (d := Hd.d_letter_behind) rfl; ⟨_, fd, F, He.glo_ok X G (c.d.fact 19 (f := .glo "letter_behind") rfl)⟩
theorem df_does_fall (X : K.In h) (G : h.Ns mainGlobals mg) (c : Hd.SaysY h K) : Df K mg "does_fall" (top 44) := let ⟨fd, F⟩ := c.d.def_ 20 (d := Hd.d_does_fall) rfl; ⟨_, fd, F, He.glo_ok X G (c.d.fact 20 (f := .glo "does_fall") rfl)⟩
theorem df_with_shift (X : K.In h) (G : h.Ns mainGlobals mg) (c : Hd.SaysY h K) : Df K mg "with_shift" (top 45) := let ⟨fd, F⟩ := c.d.def_ 21 (d := Hd.d_with_shift) rfl; ⟨_, fd, F, He.glo_ok X G (c.d.fact 21 (f := .glo "with_shift") rfl)⟩
theorem df_first_fall (X : K.In h) (G : h.Ns mainGlobals mg) (c : Hd.SaysY h K) : DfC K mg "first_fall" (top 46) (cT K ("first_fall", none)).1 := let ⟨_, F⟩ := c.d.def_ 22 (d := Hd.d_first_fall) rfl; dfC_of F (He.glo_ok X G (c.d.fact 22 (f := .glo "first_fall") rfl))
theorem df_word_in (X : K.In h) (G : h.Ns mainGlobals mg) (c : Hd.SaysY h K) : Df K mg "word_in" (top 47) := let ⟨fd, F⟩ := c.d.def_ 23 (d := Hd.d_word_in) rfl; ⟨_, fd, F, He.glo_ok X G (c.d.fact 23 (f := .glo "word_in") rfl)⟩
theorem df_greedily_behind (X : K.In h) (G : h.Ns mainGlobals mg) (c : Hd.SaysY h K) : Df K mg "greedily_behind" (top 48) := let ⟨fd, F⟩ := c.d.def_ 24 (d := Hd.d_greedily_behind) rfl; ⟨_, fd, F, He.glo_ok X G (c.d.fact 24 (f := .glo "greedily_behind") rfl)⟩
theorem df_greedy_in (X : K.In h) (G : h.Ns mainGlobals mg) (c : Hd.SaysY h K) : Df K mg "greedy_in" (top 49) := let ⟨fd, F⟩ := c.d.def_ 25 (d := Hd.d_greedy_in) rfl; ⟨_, fd, F, He.glo_ok X G (c.d.fact 25 (f := .glo "greedy_in") rfl)⟩
theorem df_widest_step (X : K.In h) (G : h.Ns mainGlobals mg) (c : Hd.SaysY h K) : Df K mg "widest_step" (top 50) := let ⟨fd, F⟩ := c.d.def_ 26 (d := Hd.d_widest_step) rfl; ⟨_, fd, F, He.glo_ok X G (c.d.fact 26 (f := .glo "widest_step") rfl)⟩
theorem df_more_in_column (X : K.In h) (G : h.Ns mainGlobals mg) (c : Hd.SaysY h K) : Df K mg "more_in_column" (top 51) := let ⟨fd, F⟩ := c.d.def_ 27 (d := Hd.d_more_in_column) rfl; ⟨_, fd, F, He.glo_ok X G (c.d.fact 27 (f := .glo "more_in_column") rfl)⟩
theorem df_more_in (X : K.In h) (G : h.Ns mainGlobals mg) (c : Hd.SaysY h K) : Df K mg "more_in" (top 52) := let ⟨fd, F⟩ := c.d.def_ 28 (d := Hd.d_more_in) rfl; ⟨_, fd, F, He.glo_ok X G (c.d.fact 28 (f := .glo "more_in") rfl)⟩
theorem df_is_word_in (X : K.In h) (G : h.Ns mainGlobals mg) (c : Hd.SaysY h K) : Df K mg "is_word_in" (top 53) := let ⟨fd, F⟩ := c.d.def_ 29 (d := Hd.d_is_word_in) rfl; ⟨_, fd, F, He.glo_ok X G (c.d.fact 29 (f := .glo "is_word_in") rfl)⟩
theorem df_require_few_falls (X : K.In h) (G : h.Ns mainGlobals mg) (c : Hd.SaysY h K) : Df K mg "require_few_falls" (top 54) := let ⟨fd, F⟩ := c.d.def_ 30 (d := Hd.d_require_few_falls) rfl; ⟨_, fd, F, He.glo_ok X G (c.d.fact 30 (f := .glo "require_few_falls") rfl)⟩
theorem df_require_two_maps (X : K.In h) (G : h.Ns mainGlobals mg) (c : Hd.SaysY h K) : Df K mg "require_two_maps" (top 55) := let ⟨fd, F⟩ := c.d.def_ 31 (d := Hd.d_require_two_maps) rfl; ⟨_, fd, F, He.glo_ok X G (c.d.fact 31 (f := .glo "require_two_maps") rfl)⟩
theorem df_require_word_of_round (X : K.In h) (G : h.Ns mainGlobals mg) (c : Hd.SaysY h K) : Df K mg "require_word_of_round" (top 56) := let ⟨fd, F⟩ := c.d.def_ 32 (d := Hd.d_require_word_of_round) rfl; ⟨_, fd, F, He.glo_ok X G (c.d.fact 32 (f := .glo "require_word_of_round") rfl)⟩
theorem df_greedy (X : K.In h) (G : h.Ns mainGlobals mg) (c : Hd.SaysY h K) : Df K mg "greedy" (top 57) := let ⟨fd, F⟩ := c.d.def_ 33 (d := Hd.d_greedy) rfl; ⟨_, fd, F, He.glo_ok X G (c.d.fact 33 (f := .glo "greedy") rfl)⟩
theorem df_is_below (X : K.In h) (G : h.Ns mainGlobals mg) (c : Hd.SaysY h K) : Df K mg "is_below" (top 58) := let ⟨fd, F⟩ := c.d.def_ 34 (d := Hd.d_is_below) rfl; ⟨_, fd, F, He.glo_ok X G (c.d.fact 34 (f := .glo "is_below") rfl)⟩
theorem df_does_nothing (X : K.In h) (G : h.Ns mainGlobals mg) (c : Hd.SaysY h K) : Df K mg "does_nothing" (top 59) := let ⟨fd, F⟩ := c.d.def_ 35 (d := Hd.d_does_nothing) rfl; ⟨_, fd, F, He.glo_ok X G (c.d.fact 35 (f := .glo "does_nothing") rfl)⟩
theorem df_greedily_made (X : K.In h) (G : h.Ns mainGlobals mg) (c : Hd.SaysY h K) : Df K mg "greedily_made" (top 60) := let ⟨fd, F⟩ := c.d.def_ 36 (d := Hd.d_greedily_made) rfl; ⟨_, fd, F, He.glo_ok X G (c.d.fact 36 (f := .glo "greedily_made") rfl)⟩
theorem df_is_tuple_in (X : K.In h) (G : h.Ns mainGlobals mg) (c : Hd.SaysY h K) : Df K mg "is_tuple_in" (top 62) := let ⟨fd, F⟩ := c.d.def_ 37 (d := Hd.d_is_tuple_in) rfl; ⟨_, fd, F, He.glo_ok X G (c.d.fact 37 (f := .glo "is_tuple_in") rfl)⟩
theorem df_require_tuple (X : K.In h) (G : h.Ns mainGlobals mg) (c : Hd.SaysY h K) : Df K mg "require_tuple" (top 63) := let ⟨fd, F⟩ := c.d.def_ 38 (d := Hd.d_require_tuple) rfl; ⟨_, fd, F, He.glo_ok X G (c.d.fact 38 (f := .glo "require_tuple") rfl)⟩
theorem df_is_heap_in (X : K.In h) (G : h.Ns mainGlobals mg) (c : Hd.SaysY h K) : Df K mg "is_heap_in" (top 66) := let ⟨fd, F⟩ := c.d.def_ 39 (d := Hd.d_is_heap_in) rfl; ⟨_, fd, F, He.glo_ok X G (c.d.fact 39 (f := .glo "is_heap_in") rfl)⟩
theorem df_holds_in (X : K.In h) (G : h.Ns mainGlobals mg) (c : Hd.SaysY h K) : Df K mg "holds_in" (top 67) := let ⟨fd, F⟩ := c.d.def_ 40 (d := Hd.d_holds_in) rfl; ⟨_, fd, F, He.glo_ok X G (c.d.fact 40 (f := .glo "holds_in") rfl)⟩
theorem df_flipped_in (X : K.In h) (G : h.Ns mainGlobals mg) (c : Hd.SaysY h K) : Df K mg "flipped_in" (top 68) := let ⟨fd, F⟩ := c.d.def_ 41 (d := Hd.d_flipped_in) rfl; ⟨_, fd, F, He.glo_ok X G (c.d.fact 41 (f := .glo "flipped_in") rfl)⟩
theorem df_addable_columns (X : K.In h) (G : h.Ns mainGlobals mg) (c : Hd.SaysY h K) : Df K mg "addable_columns" (top 69) := let ⟨fd, F⟩ := c.d.def_ 42 (d := Hd.d_addable_columns) rfl; ⟨_, fd, F, He.glo_ok X G (c.d.fact 42 (f := .glo "addable_columns") rfl)⟩
theorem df_can_remove_in (X : K.In h) (G : h.Ns mainGlobals mg) (c : Hd.SaysY h K) : Df K mg "can_remove_in" (top 70) := let ⟨fd, F⟩ := c.d.def_ 43 (d := Hd.d_can_remove_in) rfl; ⟨_, fd, F, He.glo_ok X G (c.d.fact 43 (f := .glo "can_remove_in") rfl)⟩
theorem df_risen (X : K.In h) (G : h.Ns mainGlobals mg) (c : Hd.SaysY h K) : Df K mg "risen" (top 71) := let ⟨fd, F⟩ := c.d.def_ 44 (d := Hd.d_risen) rfl; ⟨_, fd, F, He.glo_ok X G (c.d.fact 44 (f := .glo "risen") rfl)⟩
theorem df_grown_in (X : K.In h) (G : h.Ns mainGlobals mg) (c : Hd.SaysY h K) : Df K mg "grown_in" (top 72) := let ⟨fd, F⟩ := c.d.def_ 45 (d := Hd.d_grown_in) rfl; ⟨_, fd, F, He.glo_ok X G (c.d.fact 45 (f := .glo "grown_in") rfl)⟩
theorem df_heaps_in (X : K.In h) (G : h.Ns mainGlobals mg) (c : Hd.SaysY h K) : Df K mg "heaps_in" (top 73) := let ⟨fd, F⟩ := c.d.def_ 46 (d := Hd.d_heaps_in) rfl; ⟨_, fd, F, He.glo_ok X G (c.d.fact 46 (f := .glo "heaps_in") rfl)⟩
theorem df_heap_in (X : K.In h) (G : h.Ns mainGlobals mg) (c : Hd.SaysY h K) : Df K mg "heap_in" (top 74) := let ⟨fd, F⟩ := c.d.def_ 47 (d := Hd.d_heap_in) rfl; ⟨_, fd, F, He.glo_ok X G (c.d.fact 47 (f := .glo "heap_in") rfl)⟩
theorem df_require_heap (X : K.In h) (G : h.Ns mainGlobals mg) (c : Hd.SaysY h K) : Df K mg "require_heap" (top 75) := let ⟨fd, F⟩ := c.d.def_ 48 (d := Hd.d_require_heap) rfl; ⟨_, fd, F, He.glo_ok X G (c.d.fact 48 (f := .glo "require_heap") rfl)⟩
theorem df_require_two_heaps (X : K.In h) (G : h.Ns mainGlobals mg) (c : Hd.SaysY h K) : Df K mg "require_two_heaps" (top 76) := let ⟨fd, F⟩ := c.d.def_ 49 (d := Hd.d_require_two_heaps) rfl; ⟨_, fd, F, He.glo_ok X G (c.d.fact 49 (f := .glo "require_two_heaps") rfl)⟩
theorem df_is_held (X : K.In h) (G : h.Ns mainGlobals mg) (c : Hd.SaysY h K) : Df K mg "is_held" (top 77) := let ⟨fd, F⟩ := c.d.def_ 50 (d := Hd.d_is_held) rfl; ⟨_, fd, F, He.glo_ok X G (c.d.fact 50 (f := .glo "is_held") rfl)⟩
theorem df_heap_of (X : K.In h) (G : h.Ns mainGlobals mg) (c : Hd.SaysY h K) : Df K mg "heap_of" (top 78) := let ⟨fd, F⟩ := c.d.def_ 51 (d := Hd.d_heap_of) rfl; ⟨_, fd, F, He.glo_ok X G (c.d.fact 51 (f := .glo "heap_of") rfl)⟩
theorem df_bead_list (X : K.In h) (G : h.Ns mainGlobals mg) (c : Hd.SaysY h K) : Df K mg "bead_list" (top 82) := let ⟨fd, F⟩ := c.d.def_ 52 (d := Hd.d_bead_list) rfl; ⟨_, fd, F, He.glo_ok X G (c.d.fact 52 (f := .glo "bead_list") rfl)⟩
theorem df_is_core_in (X : K.In h) (G : h.Ns mainGlobals mg) (c : Hd.SaysY h K) : Df K mg "is_core_in" (top 83) := let ⟨fd, F⟩ := c.d.def_ 53 (d := Hd.d_is_core_in) rfl; ⟨_, fd, F, He.glo_ok X G (c.d.fact 53 (f := .glo "is_core_in") rfl)⟩
theorem df_charges_in (X : K.In h) (G : h.Ns mainGlobals mg) (c : Hd.SaysY h K) : Df K mg "charges_in" (top 84) := let ⟨fd, F⟩ := c.d.def_ 54 (d := Hd.d_charges_in) rfl; ⟨_, fd, F, He.glo_ok X G (c.d.fact 54 (f := .glo "charges_in") rfl)⟩
theorem df_bounded_parts_in (X : K.In h) (G : h.Ns mainGlobals mg) (c : Hd.SaysY h K) : Df K mg "bounded_parts_in" (top 85) := let ⟨fd, F⟩ := c.d.def_ 55 (d := Hd.d_bounded_parts_in) rfl; ⟨_, fd, F, He.glo_ok X G (c.d.fact 55 (f := .glo "bounded_parts_in") rfl)⟩
theorem df_letters_in (X : K.In h) (G : h.Ns mainGlobals mg) (c : Hd.SaysY h K) : Df K mg "letters_in" (top 86) := let ⟨fd, F⟩ := c.d.def_ 56 (d := Hd.d_letters_in) rfl; ⟨_, fd, F, He.glo_ok X G (c.d.fact 56 (f := .glo "letters_in") rfl)⟩
theorem df_require_order (X : K.In h) (G : h.Ns mainGlobals mg) (c : Hd.SaysY h K) : Df K mg "require_order" (top 87) := let ⟨fd, F⟩ := c.d.def_ 57 (d := Hd.d_require_order) rfl; ⟨_, fd, F, He.glo_ok X G (c.d.fact 57 (f := .glo "require_order") rfl)⟩
theorem df_require_core (X : K.In h) (G : h.Ns mainGlobals mg) (c : Hd.SaysY h K) : Df K mg "require_core" (top 88) := let ⟨fd, F⟩ := c.d.def_ 58 (d := Hd.d_require_core) rfl; ⟨_, fd, F, He.glo_ok X G (c.d.fact 58 (f := .glo "require_core") rfl)⟩
theorem df_charges (X : K.In h) (G : h.Ns mainGlobals mg) (c : Hd.SaysY h K) : Df K mg "charges" (top 89) := let ⟨fd, F⟩ := c.d.def_ 59 (d := Hd.d_charges) rfl; ⟨_, fd, F, He.glo_ok X G (c.d.fact 59 (f := .glo "charges") rfl)⟩
theorem df_letters_of (X : K.In h) (G : h.Ns mainGlobals mg) (c : Hd.SaysY h K) : Df K mg "letters_of" (top 90) := let ⟨fd, F⟩ := c.d.def_ 60 (d := Hd.d_letters_of) rfl; ⟨_, fd, F, He.glo_ok X G (c.d.fact 60 (f := .glo "letters_of") rfl)⟩
theorem df_with_letter_in (X : K.In h) (G : h.Ns mainGlobals mg) (c : Hd.SaysY h K) : Df K mg "with_letter_in" (top 94) := let ⟨fd, F⟩ := c.d.def_ 61 (d := Hd.d_with_letter_in) rfl; ⟨_, fd, F, He.glo_ok X G (c.d.fact 61 (f := .glo "with_letter_in") rfl)⟩
theorem df_without_letter (X : K.In h) (G : h.Ns mainGlobals mg) (c : Hd.SaysY h K) : Df K mg "without_letter" (top 95) := let ⟨fd, F⟩ := c.d.def_ 62 (d := Hd.d_without_letter) rfl; ⟨_, fd, F, He.glo_ok X G (c.d.fact 62 (f := .glo "without_letter") rfl)⟩
theorem df_letters_last (X : K.In h) (G : h.Ns mainGlobals mg) (c : Hd.SaysY h K) : Df K mg "letters_last" (top 96) := let ⟨fd, F⟩ := c.d.def_ 63 (d := Hd.d_letters_last) rfl; ⟨_, fd, F, He.glo_ok X G (c.d.fact 63 (f := .glo "letters_last") rfl)⟩
theorem df_is_core_word_in (X : K.In h) (G : h.Ns mainGlobals mg) (c : Hd.SaysY h K) : Df K mg "is_core_word_in" (top 97) := let ⟨fd, F⟩ := c.d.def_ 64 (d := Hd.d_is_core_word_in) rfl; ⟨_, fd, F, He.glo_ok X G (c.d.fact 64 (f := .glo "is_core_word_in") rfl)⟩
theorem df_cores_on_the_way (X : K.In h) (G : h.Ns mainGlobals mg) (c : Hd.SaysY h K) : Df K mg "cores_on_the_way" (top 98) := let ⟨fd, F⟩ := c.d.def_ 65 (d := Hd.d_cores_on_the_way) rfl; ⟨_, fd, F, He.glo_ok X G (c.d.fact 65 (f := .glo "cores_on_the_way") rfl)⟩
theorem df_idle_in (X : K.In h) (G : h.Ns mainGlobals mg) (c : Hd.SaysY h K) : Df K mg "idle_in" (top 99) := let ⟨fd, F⟩ := c.d.def_ 66 (d := Hd.d_idle_in) rfl; ⟨_, fd, F, He.glo_ok X G (c.d.fact 66 (f := .glo "idle_in") rfl)⟩
theorem df_growing_word_in (X : K.In h) (G : h.Ns mainGlobals mg) (c : Hd.SaysY h K) : Df K mg "growing_word_in" (top 100) := let ⟨fd, F⟩ := c.d.def_ 67 (d := Hd.d_growing_word_in) rfl; ⟨_, fd, F, He.glo_ok X G (c.d.fact 67 (f := .glo "growing_word_in") rfl)⟩
theorem df_require_core_word (X : K.In h) (G : h.Ns mainGlobals mg) (c : Hd.SaysY h K) : Df K mg "require_core_word" (top 101) := let ⟨fd, F⟩ := c.d.def_ 68 (d := Hd.d_require_core_word) rfl; ⟨_, fd, F, He.glo_ok X G (c.d.fact 68 (f := .glo "require_core_word") rfl)⟩
theorem df_require_letters_to (X : K.In h) (G : h.Ns mainGlobals mg) (c : Hd.SaysY h K) : Df K mg "require_letters_to" (top 102) := let ⟨fd, F⟩ := c.d.def_ 69 (d := Hd.d_require_letters_to) rfl; ⟨_, fd, F, He.glo_ok X G (c.d.fact 69 (f := .glo "require_letters_to") rfl)⟩
theorem df_require_way (X : K.In h) (G : h.Ns mainGlobals mg) (c : Hd.SaysY h K) : Df K mg "require_way" (top 103) := let ⟨fd, F⟩ := c.d.def_ 70 (d := Hd.d_require_way) rfl; ⟨_, fd, F, He.glo_ok X G (c.d.fact 70 (f := .glo "require_way") rfl)⟩
theorem df_require_grown_core (X : K.In h) (G : h.Ns mainGlobals mg) (c : Hd.SaysY h K) : Df K mg "require_grown_core" (top 104) := let ⟨fd, F⟩ := c.d.def_ 71 (d := Hd.d_require_grown_core) rfl; ⟨_, fd, F, He.glo_ok X G (c.d.fact 71 (f := .glo "require_grown_core") rfl)⟩
theorem df_made_by (X : K.In h) (G : h.Ns mainGlobals mg) (c : Hd.SaysY h K) : Df K mg "made_by" (top 105) := let ⟨fd, F⟩ := c.d.def_ 72 (d := Hd.d_made_by) rfl; ⟨_, fd, F, He.glo_ok X G (c.d.fact 72 (f := .glo "made_by") rfl)⟩
theorem df_idle_letters (X : K.In h) (G : h.Ns mainGlobals mg) (c : Hd.SaysY h K) : Df K mg "idle_letters" (top 106) := let ⟨fd, F⟩ := c.d.def_ 73 (d := Hd.d_idle_letters) rfl; ⟨_, fd, F, He.glo_ok X G (c.d.fact 73 (f := .glo "idle_letters") rfl)⟩
theorem df_growing_word (X : K.In h) (G : h.Ns mainGlobals mg) (c : Hd.SaysY h K) : Df K mg "growing_word" (top 107) := let ⟨fd, F⟩ := c.d.def_ 74 (d := Hd.d_growing_word) rfl; ⟨_, fd, F, He.glo_ok X G (c.d.fact 74 (f := .glo "growing_word") rfl)⟩
theorem df_ring_letter (X : K.In h) (G : h.Ns mainGlobals mg) (c : Hd.SaysY h K) : DfC K mg "ring_letter" (top 111) (cT K ("ring_letter", none)).1 := let ⟨_, F⟩ := c.d.def_ 75 (d := Hd.d_ring_letter) rfl; dfC_of F (He.glo_ok X G (c.d.fact 75 (f := .glo "ring_letter") rfl))
theorem df_letters_told (X : K.In h) (G : h.Ns mainGlobals mg) (c : Hd.SaysY h K) : Df K mg "letters_told" (top 112) := let ⟨fd, F⟩ := c.d.def_ 76 (d := Hd.d_letters_told) rfl; ⟨_, fd, F, He.glo_ok X G (c.d.fact 76 (f := .glo "letters_told") rfl)⟩
theorem df_exchanged (X : K.In h) (G : h.Ns mainGlobals mg) (c : Hd.SaysY h K) : Df K mg "exchanged" (top 113) := let ⟨fd, F⟩ := c.d.def_ 77 (d := Hd.d_exchanged) rfl; ⟨_, fd, F, He.glo_ok X G (c.d.fact 77 (f := .glo "exchanged") rfl)⟩
theorem df_window_in (X : K.In h) (G : h.Ns mainGlobals mg) (c : Hd.SaysY h K) : Df K mg "window_in" (top 114) := let ⟨fd, F⟩ := c.d.def_ 78 (d := Hd.d_window_in) rfl; ⟨_, fd, F, He.glo_ok X G (c.d.fact 78 (f := .glo "window_in") rfl)⟩
theorem df_require_class_parts (X : K.In h) (G : h.Ns mainGlobals mg) (c : Hd.SaysY h K) : Df K mg "require_class_parts" (top 115) := let ⟨fd, F⟩ := c.d.def_ 79 (d := Hd.d_require_class_parts) rfl; ⟨_, fd, F, He.glo_ok X G (c.d.fact 79 (f := .glo "require_class_parts") rfl)⟩
theorem df_ring_letters (X : K.In h) (G : h.Ns mainGlobals mg) (c : Hd.SaysY h K) : Df K mg "ring_letters" (top 116) := let ⟨fd, F⟩ := c.d.def_ 80 (d := Hd.d_ring_letters) rfl; ⟨_, fd, F, He.glo_ok X G (c.d.fact 80 (f := .glo "ring_letters") rfl)⟩
theorem df_window (X : K.In h) (G : h.Ns mainGlobals mg) (c : Hd.SaysY h K) : Df K mg "window" (top 117) := let ⟨fd, F⟩ := c.d.def_ 81 (d := Hd.d_window) rfl; ⟨_, fd, F, He.glo_ok X G (c.d.fact 81 (f := .glo "window") rfl)⟩
theorem df__law_dice (X : K.In h) (G : h.Ns mainGlobals mg) (c : Hd.SaysY h K) : Df K mg "_law_dice" (top 119) := let ⟨fd, F⟩ := c.d.def_ 82 (d := Hd.d__law_dice) rfl; ⟨_, fd, F, He.glo_ok X G (c.d.fact 82 (f := .glo "_law_dice") rfl)⟩
theorem df__law_roll (X : K.In h) (G : h.Ns mainGlobals mg) (c : Hd.SaysY h K) : Df K mg "_law_roll" (top 120) := let ⟨fd, F⟩ := c.d.def_ 83 (d := Hd.d__law_roll) rfl; ⟨_, fd, F, He.glo_ok X G (c.d.fact 83 (f := .glo "_law_roll") rfl)⟩
theorem df__law_one_of (X : K.In h) (G : h.Ns mainGlobals mg) (c : Hd.SaysY h K) : Df K mg "_law_one_of" (top 121) := let ⟨fd, F⟩ := c.d.def_ 84 (d := Hd.d__law_one_of) rfl; ⟨_, fd, F, He.glo_ok X G (c.d.fact 84 (f := .glo "_law_one_of") rfl)⟩
theorem df__law_common (X : K.In h) (G : h.Ns mainGlobals mg) (c : Hd.SaysY h K) : Df K mg "_law_common" (top 122) := let ⟨fd, F⟩ := c.d.def_ 85 (d := Hd.d__law_common) rfl; ⟨_, fd, F, He.glo_ok X G (c.d.fact 85 (f := .glo "_law_common") rfl)⟩
theorem df__law_ring_of (X : K.In h) (G : h.Ns mainGlobals mg) (c : Hd.SaysY h K) : Df K mg "_law_ring_of" (top 123) := let ⟨fd, F⟩ := c.d.def_ 86 (d := Hd.d__law_ring_of) rfl; ⟨_, fd, F, He.glo_ok X G (c.d.fact 86 (f := .glo "_law_ring_of") rfl)⟩
theorem df__law_equal_chain (X : K.In h) (G : h.Ns mainGlobals mg) (c : Hd.SaysY h K) : Df K mg "_law_equal_chain" (top 124) := let ⟨fd, F⟩ := c.d.def_ 87 (d := Hd.d__law_equal_chain) rfl; ⟨_, fd, F, He.glo_ok X G (c.d.fact 87 (f := .glo "_law_equal_chain") rfl)⟩
theorem df__law_grown (X : K.In h) (G : h.Ns mainGlobals mg) (c : Hd.SaysY h K) : Df K mg "_law_grown" (top 125) := let ⟨fd, F⟩ := c.d.def_ 88 (d := Hd.d__law_grown) rfl; ⟨_, fd, F, He.glo_ok X G (c.d.fact 88 (f := .glo "_law_grown") rfl)⟩
theorem df__law_heap (X : K.In h) (G : h.Ns mainGlobals mg) (c : Hd.SaysY h K) : Df K mg "_law_heap" (top 126) := let ⟨fd, F⟩ := c.d.def_ 89 (d := Hd.d__law_heap) rfl; ⟨_, fd, F, He.glo_ok X G (c.d.fact 89 (f := .glo "_law_heap") rfl)⟩
theorem df__law_mirrored (X : K.In h) (G : h.Ns mainGlobals mg) (c : Hd.SaysY h K) : Df K mg "_law_mirrored" (top 127) := let ⟨fd, F⟩ := c.d.def_ 90 (d := Hd.d__law_mirrored) rfl; ⟨_, fd, F, He.glo_ok X G (c.d.fact 90 (f := .glo "_law_mirrored") rfl)⟩
theorem df__law_least_map (X : K.In h) (G : h.Ns mainGlobals mg) (c : Hd.SaysY h K) : Df K mg "_law_least_map" (top 128) := let ⟨fd, F⟩ := c.d.def_ 91 (d := Hd.d__law_least_map) rfl; ⟨_, fd, F, He.glo_ok X G (c.d.fact 91 (f := .glo "_law_least_map") rfl)⟩
theorem df__law_charges_by (X : K.In h) (G : h.Ns mainGlobals mg) (c : Hd.SaysY h K) : Df K mg "_law_charges_by" (top 129) := let ⟨fd, F⟩ := c.d.def_ 92 (d := Hd.d__law_charges_by) rfl; ⟨_, fd, F, He.glo_ok X G (c.d.fact 92 (f := .glo "_law_charges_by") rfl)⟩
theorem df__law_chain_right (X : K.In h) (G : h.Ns mainGlobals mg) (c : Hd.SaysY h K) : Df K mg "_law_chain_right" (top 130) := let ⟨fd, F⟩ := c.d.def_ 93 (d := Hd.d__law_chain_right) rfl; ⟨_, fd, F, He.glo_ok X G (c.d.fact 93 (f := .glo "_law_chain_right") rfl)⟩
theorem df__law_right (X : K.In h) (G : h.Ns mainGlobals mg) (c : Hd.SaysY h K) : Df K mg "_law_right" (top 131) := let ⟨fd, F⟩ := c.d.def_ 94 (d := Hd.d__law_right) rfl; ⟨_, fd, F, He.glo_ok X G (c.d.fact 94 (f := .glo "_law_right") rfl)⟩
theorem df_law (X : K.In h) (G : h.Ns mainGlobals mg) (c : Hd.SaysY h K) : Df K mg "law" (top 132) := let ⟨fd, F⟩ := c.d.def_ 95 (d := Hd.d_law) rfl; ⟨_, fd, F, He.glo_ok X G (c.d.fact 95 (f := .glo "law") rfl)⟩
theorem dm___init__ (c : Hd.SaysY h K) : Dm K "__init__" "Round.__init__" (inClass (top 36) 1) (ma K (ga K "Round") "__init__") := c.d.def_ 96 (d := Hd.dR__init__) rfl
theorem dm___call__ (c : Hd.SaysY h K) : Dm K "__call__" "Round.__call__" (inClass (top 36) 5) (ma K (ga K "Round") "__call__") := c.d.def_ 97 (d := Hd.dR__call__) rfl
theorem dm___eq__ (c : Hd.SaysY h K) : Dm K "__eq__" "Round.__eq__" (inClass (top 36) 8) (ma K (ga K "Round") "__eq__") := c.d.def_ 98 (d := Hd.dR__eq__) rfl
theorem dm___invert__ (c : Hd.SaysY h K) : Dm K "__invert__" "Round.__invert__" (inClass (top 36) 10) (ma K (ga K "Round") "__invert__") := c.d.def_ 99 (d := Hd.dR__invert__) rfl
theorem dm_falls (c : Hd.SaysY h K) : Dm K "falls" "Round.falls" (inClass (top 36) 4) (Hd.fg K) := Hd.funA c.fl (ex_at c 26 rfl)
theorem law_at {fa : Addr} {fd : FuncData} (F : FunD K "law" "law" (defArgs (top 132)) (defBody (top 132)) (defScope (top 132)) [] [] fa fd) (X0 : K.In h) (G0 : h.Ns mainGlobals mg) (c : Hd.SaysY h K)
    (T1 : GxR.TabB base mg (cT K ("first_fall", none)).1 (cT K ("first_fall", none)).2) (T2 : GxR.TabB base mg (cT K ("ring_letter", none)).1 (cT K ("ring_letter", none)).2) : FnOk P w K mg base CX0 33 fa fd ["_law_script"] (spD K (csK K) f_law) := by
  have W := wd_of X0 G0 c
  have R := rd_of X0 G0 c
  have M := mk_of c
  have cO := co_of c
  have F__law_roll : FdM P w K mg base (csK K) 3 "_law_roll" f__law_roll := fd__law_roll W (df__law_roll X0 G0 c)
  have F__law_common : Fd P w K mg base (csK K) 3 "_law_common" f__law_common := fd__law_common W (df__law_common X0 G0 c)
  have F__law_one_of : FdM P w K mg base (csK K) 6 "_law_one_of" f__law_one_of := fd__law_one_of W (df__law_one_of X0 G0 c) F__law_roll
  have F__law_ring_of : FdM P w K mg base (csK K) 9 "_law_ring_of" f__law_ring_of := fd__law_ring_of W (df__law_ring_of X0 G0 c) F__law_roll F__law_common F__law_one_of
  have F__law_equal_chain : FdM P w K mg base (csK K) 12 "_law_equal_chain" f__law_equal_chain := fd__law_equal_chain W (df__law_equal_chain X0 G0 c) F__law_ring_of
  have F_is_whole : Fd P w K mg base (csK K) 3 "is_whole" f_is_whole := fd_is_whole W (df_is_whole X0 G0 c)
  have F_is_within : Fd P w K mg base (csK K) 6 "is_within" f_is_within := fd_is_within W (df_is_within X0 G0 c) F_is_whole
  have F_require_order : Fd P w K mg base (csK K) 9 "require_order" f_require_order := fd_require_order W (df_require_order X0 G0 c) F_is_within
  have F_is_core_word_in : Fd P w K mg base (csK K) 9 "is_core_word_in" f_is_core_word_in := fd_is_core_word_in W (df_is_core_word_in X0 G0 c) F_is_within
  have F_require_core_word : Fd P w K mg base (csK K) 12 "require_core_word" f_require_core_word := fd_require_core_word W (df_require_core_word X0 G0 c) F_is_core_word_in
  have F_addable_columns : Fd P w K mg base (csK K) 3 "addable_columns" f_addable_columns := fd_addable_columns W (df_addable_columns X0 G0 c)
  have F_risen : Fd P w K mg base (csK K) 3 "risen" f_risen := fd_risen W (df_risen X0 G0 c)
  have F_grown_in : Fd P w K mg base (csK K) 6 "grown_in" f_grown_in := fd_grown_in W (df_grown_in X0 G0 c) F_addable_columns F_risen
  have F_with_letter_in : Fd P w K mg base (csK K) 9 "with_letter_in" f_with_letter_in := fd_with_letter_in W (df_with_letter_in X0 G0 c) F_grown_in
  have F_cores_on_the_way : Fd P w K mg base (csK K) 12 "cores_on_the_way" f_cores_on_the_way := fd_cores_on_the_way W (df_cores_on_the_way X0 G0 c) F_with_letter_in
  have F_require_way : Fd P w K mg base (csK K) 15 "require_way" f_require_way := fd_require_way W (df_require_way X0 G0 c) F_cores_on_the_way
  have F_made_by : Fd P w K mg base (csK K) 18 "made_by" f_made_by := fd_made_by W (df_made_by X0 G0 c) F_require_order F_require_core_word F_require_way
  have F_require_round_size : Fd P w K mg base (csK K) 9 "require_round_size" f_require_round_size := fd_require_round_size W (df_require_round_size X0 G0 c) F_is_within
  have F_is_integer : Fd P w K mg base (csK K) 6 "is_integer" f_is_integer := fd_is_integer W (df_is_integer X0 G0 c) F_is_whole
  have F_is_word_in : Fd P w K mg base (csK K) 9 "is_word_in" f_is_word_in := fd_is_word_in W (df_is_word_in X0 G0 c) F_is_integer F_is_within
  have F_require_word_of_round : Fd P w K mg base (csK K) 12 "require_word_of_round" f_require_word_of_round := fd_require_word_of_round W (df_require_word_of_round X0 G0 c) F_require_round_size F_is_word_in
  have F_is_round_in : Fd P w K mg base (csK K) 9 "is_round_in" f_is_round_in := fd_is_round_in W (df_is_round_in X0 G0 c) F_is_integer
  have G_R__init__ : FnR P w K mg base CX0 15 (ma K (ga K "Round") "__init__") (spI K (csK K) Rok) := fg_R__init__ W R (dm___init__ c) F_is_round_in
  have F_told_round : Fd P w K mg base (csK K) 21 "told_round" f_told_round := fd_told_round W (df_told_round X0 G0 c) F_is_integer R M G_R__init__
  have F_value_in_round : Fd P w K mg base (csK K) 3 "value_in_round" f_value_in_round := fd_value_in_round W (df_value_in_round X0 G0 c)
  have F_with_shift : Fd P w K mg base (csK K) 6 "with_shift" f_with_shift := fd_with_shift W (df_with_shift X0 G0 c) F_value_in_round
  have F_does_fall : Fd P w K mg base (csK K) 6 "does_fall" f_does_fall := fd_does_fall W (df_does_fall X0 G0 c) F_value_in_round
  have F_letter_behind : Fd P w K mg base (csK K) 3 "letter_behind" f_letter_behind := fd_letter_behind W (df_letter_behind X0 G0 c)
  have F_greedily_behind : Fd P w K mg base (csK K) 9 "greedily_behind" f_greedily_behind := fd_greedily_behind W (df_greedily_behind X0 G0 c) F_with_shift F_does_fall F_letter_behind
  have F_lifted : Fd P w K mg base (csK K) 3 "lifted" f_lifted := fd_lifted W (df_lifted X0 G0 c)
  have F_falls_of : Fd P w K mg base (csK K) 6 "falls_of" f_falls_of := fd_falls_of W (df_falls_of X0 G0 c) F_lifted
  have F_require_few_falls : Fd P w K mg base (csK K) 9 "require_few_falls" f_require_few_falls := fd_require_few_falls W (df_require_few_falls X0 G0 c) F_falls_of
  have F_greedily_made : Fd P w K mg base (csK K) 24 "greedily_made" f_greedily_made := fd_greedily_made W (df_greedily_made X0 G0 c) F_require_word_of_round F_told_round F_greedily_behind F_require_few_falls R
  have F__law_mirrored : Fd P w K mg base (csK K) 3 "_law_mirrored" f__law_mirrored := fd__law_mirrored W (df__law_mirrored X0 G0 c)
  have F_is_ring_in : Fd P w K mg base (csK K) 9 "is_ring_in" f_is_ring_in := fd_is_ring_in W (df_is_ring_in X0 G0 c) F_is_within
  have F_is_chain_in : Fd P w K mg base (csK K) 12 "is_chain_in" f_is_chain_in := fd_is_chain_in W (df_is_chain_in X0 G0 c) F_is_ring_in
  have F_require_chain : Fd P w K mg base (csK K) 15 "require_chain" f_require_chain := fd_require_chain W (df_require_chain X0 G0 c) F_is_chain_in
  have F_is_tuple_in : Fd P w K mg base (csK K) 9 "is_tuple_in" f_is_tuple_in := fd_is_tuple_in W (df_is_tuple_in X0 G0 c) F_is_within
  have F_require_tuple : Fd P w K mg base (csK K) 12 "require_tuple" f_require_tuple := fd_require_tuple W (df_require_tuple X0 G0 c) F_is_tuple_in
  have F_heaps_in : Fd P w K mg base (csK K) 9 "heaps_in" f_heaps_in := fd_heaps_in W (df_heaps_in X0 G0 c) F_grown_in
  have F_heap_in : Fd P w K mg base (csK K) 12 "heap_in" f_heap_in := fd_heap_in W (df_heap_in X0 G0 c) F_heaps_in
  have F_heap_of : Fd P w K mg base (csK K) 18 "heap_of" f_heap_of := fd_heap_of W (df_heap_of X0 G0 c) F_require_chain F_require_tuple F_heap_in
  have F__law_grown : Fd P w K mg base (csK K) 3 "_law_grown" f__law_grown := fd__law_grown W (df__law_grown X0 G0 c)
  have F__law_heap : Fd P w K mg base (csK K) 6 "_law_heap" f__law_heap := fd__law_heap W (df__law_heap X0 G0 c) F__law_grown
  have F_is_heap_in : Fd P w K mg base (csK K) 9 "is_heap_in" f_is_heap_in := fd_is_heap_in W (df_is_heap_in X0 G0 c) F_is_within
  have F_bead_list : Fd P w K mg base (csK K) 3 "bead_list" f_bead_list := fd_bead_list W (df_bead_list X0 G0 c)
  have F_is_core_in : Fd P w K mg base (csK K) 6 "is_core_in" f_is_core_in := fd_is_core_in W (df_is_core_in X0 G0 c) F_bead_list
  have F_require_core : Fd P w K mg base (csK K) 12 "require_core" f_require_core := fd_require_core W (df_require_core X0 G0 c) F_require_order F_is_heap_in F_is_core_in
  have F_charges_in : Fd P w K mg base (csK K) 6 "charges_in" f_charges_in := fd_charges_in W (df_charges_in X0 G0 c) F_bead_list
  have F_charges : Fd P w K mg base (csK K) 15 "charges" f_charges := fd_charges W (df_charges X0 G0 c) F_require_core F_charges_in
  have G_R__call__ : Fg P w K mg base (csK K) 9 (ma K (ga K "Round") "__call__") f_R__call__ := fg_R__call__ W R (dm___call__ c) F_is_integer F_value_in_round
  have F__law_charges_by : Fd P w K mg base (csK K) 12 "_law_charges_by" f__law_charges_by := fd__law_charges_by W (df__law_charges_by X0 G0 c) cO G_R__call__
  have F_order_in : Fd P w K mg base (csK K) 3 "order_in" f_order_in := fd_order_in W (df_order_in X0 G0 c)
  have F_ring_letter : Fd P w K mg base (csK K) 6 "ring_letter" f_ring_letter := fd_ring_letter W (df_ring_letter X0 G0 c) F_order_in T2
  have F_letters_told : Fd P w K mg base (csK K) 9 "letters_told" f_letters_told := fd_letters_told W (df_letters_told X0 G0 c) F_ring_letter
  have F_ring_letters : Fd P w K mg base (csK K) 18 "ring_letters" f_ring_letters := fd_ring_letters W (df_ring_letters X0 G0 c) F_require_chain F_require_tuple F_letters_told
  have F_require_integer : Fd P w K mg base (csK K) 9 "require_integer" f_require_integer := fd_require_integer W (df_require_integer X0 G0 c) F_is_integer
  have F_require_class_parts : Fd P w K mg base (csK K) 18 "require_class_parts" f_require_class_parts := fd_require_class_parts W (df_require_class_parts X0 G0 c) F_require_chain F_require_integer F_require_tuple F_letters_told
  have F_exchanged : Fd P w K mg base (csK K) 3 "exchanged" f_exchanged := fd_exchanged W (df_exchanged X0 G0 c)
  have F_window_in : Fd P w K mg base (csK K) 6 "window_in" f_window_in := fd_window_in W (df_window_in X0 G0 c) F_exchanged
  have F_window : Fd P w K mg base (csK K) 21 "window" f_window := fd_window W (df_window X0 G0 c) F_require_class_parts F_require_integer F_is_integer F_is_within F_window_in
  have F__law_chain_right : FdM P w K mg base (csK K) 27 "_law_chain_right" f__law_chain_right := fd__law_chain_right W (df__law_chain_right X0 G0 c) F__law_equal_chain F__law_roll F_made_by F_greedily_made F__law_mirrored F_heap_of F__law_heap F_charges F__law_charges_by F_ring_letters F_window cO G_R__call__
  have F_require_two_maps : Fd P w K mg base (csK K) 12 "require_two_maps" f_require_two_maps := fd_require_two_maps W (df_require_two_maps X0 G0 c) F_require_few_falls R
  have F_first_fall : Fd P w K mg base (csK K) 8 "first_fall" f_first_fall := fd_first_fall W (df_first_fall X0 G0 c) F_does_fall T1
  have F_shift_of : Fd P w K mg base (csK K) 3 "shift_of" f_shift_of := fd_shift_of W (df_shift_of X0 G0 c)
  have F_word_in : Fd P w K mg base (csK K) 9 "word_in" f_word_in := fd_word_in W (df_word_in X0 G0 c) F_first_fall F_letter_behind F_shift_of
  have F_greedy_in : Fd P w K mg base (csK K) 12 "greedy_in" f_greedy_in := fd_greedy_in W (df_greedy_in X0 G0 c) F_word_in F_greedily_behind
  have F_greedy : Fd P w K mg base (csK K) 24 "greedy" f_greedy := fd_greedy W (df_greedy X0 G0 c) F_require_two_maps F_told_round F_greedy_in F_require_few_falls R
  have F_flipped_in : Fd P w K mg base (csK K) 3 "flipped_in" f_flipped_in := fd_flipped_in W (df_flipped_in X0 G0 c)
  have F_bounded_parts_in : Fd P w K mg base (csK K) 6 "bounded_parts_in" f_bounded_parts_in := fd_bounded_parts_in W (df_bounded_parts_in X0 G0 c) F_flipped_in
  have F_letters_in : Fd P w K mg base (csK K) 9 "letters_in" f_letters_in := fd_letters_in W (df_letters_in X0 G0 c) F_bounded_parts_in
  have F_require_letters_to : Fd P w K mg base (csK K) 12 "require_letters_to" f_require_letters_to := fd_require_letters_to W (df_require_letters_to X0 G0 c) F_letters_in
  have F_require_grown_core : Fd P w K mg base (csK K) 15 "require_grown_core" f_require_grown_core := fd_require_grown_core W (df_require_grown_core X0 G0 c) F_require_order F_require_core F_require_letters_to
  have F_can_remove_in : Fd P w K mg base (csK K) 3 "can_remove_in" f_can_remove_in := fd_can_remove_in W (df_can_remove_in X0 G0 c)
  have F_letters_last : Fd P w K mg base (csK K) 6 "letters_last" f_letters_last := fd_letters_last W (df_letters_last X0 G0 c) F_can_remove_in
  have F_without_letter : Fd P w K mg base (csK K) 3 "without_letter" f_without_letter := fd_without_letter W (df_without_letter X0 G0 c)
  have F_growing_word_in : Fd P w K mg base (csK K) 9 "growing_word_in" f_growing_word_in := fd_growing_word_in W (df_growing_word_in X0 G0 c) F_letters_last F_without_letter
  have F_growing_word : Fd P w K mg base (csK K) 18 "growing_word" f_growing_word := fd_growing_word W (df_growing_word X0 G0 c) F_require_grown_core F_growing_word_in
  have F__law_least_map : Fd P w K mg base (csK K) 27 "_law_least_map" f__law_least_map := fd__law_least_map W (df__law_least_map X0 G0 c) F_greedily_made F__law_mirrored F_growing_word
  have F_letters_of : Fd P w K mg base (csK K) 15 "letters_of" f_letters_of := fd_letters_of W (df_letters_of X0 G0 c) F_require_core F_letters_in
  have F_idle_in : Fd P w K mg base (csK K) 6 "idle_in" f_idle_in := fd_idle_in W (df_idle_in X0 G0 c)
  have F_idle_letters : Fd P w K mg base (csK K) 18 "idle_letters" f_idle_letters := fd_idle_letters W (df_idle_letters X0 G0 c) F_require_order F_require_core_word F_require_way F_idle_in
  have F_require_heap : Fd P w K mg base (csK K) 12 "require_heap" f_require_heap := fd_require_heap W (df_require_heap X0 G0 c) F_is_heap_in
  have F_require_two_heaps : Fd P w K mg base (csK K) 15 "require_two_heaps" f_require_two_heaps := fd_require_two_heaps W (df_require_two_heaps X0 G0 c) F_require_heap
  have F_holds_in : Fd P w K mg base (csK K) 3 "holds_in" f_holds_in := fd_holds_in W (df_holds_in X0 G0 c)
  have F_is_held : Fd P w K mg base (csK K) 18 "is_held" f_is_held := fd_is_held W (df_is_held X0 G0 c) F_require_two_heaps F_holds_in
  have F_turned_back : Fd P w K mg base (csK K) 3 "turned_back" f_turned_back := fd_turned_back W (df_turned_back X0 G0 c)
  have F_widest_step : Fd P w K mg base (csK K) 6 "widest_step" f_widest_step := fd_widest_step W (df_widest_step X0 G0 c) F_shift_of
  have F_counted_in : Fd P w K mg base (csK K) 6 "counted_in" f_counted_in := fd_counted_in W (df_counted_in X0 G0 c) F_lifted
  have F_more_in_column : Fd P w K mg base (csK K) 9 "more_in_column" f_more_in_column := fd_more_in_column W (df_more_in_column X0 G0 c) F_shift_of F_widest_step F_counted_in F_value_in_round
  have F_more_in : Fd P w K mg base (csK K) 12 "more_in" f_more_in := fd_more_in W (df_more_in X0 G0 c) F_turned_back F_shift_of F_widest_step F_more_in_column
  have F_is_below : Fd P w K mg base (csK K) 15 "is_below" f_is_below := fd_is_below W (df_is_below X0 G0 c) F_require_two_maps F_more_in R
  have F_does_nothing : Fd P w K mg base (csK K) 12 "does_nothing" f_does_nothing := fd_does_nothing W (df_does_nothing X0 G0 c) F_is_within F_require_few_falls F_does_fall R
  have F_common_round : Fd P w K mg base (csK K) 3 "common_round" f_common_round := fd_common_round W (df_common_round X0 G0 c)
  have F_are_same_maps : Fd P w K mg base (csK K) 6 "are_same_maps" f_are_same_maps := fd_are_same_maps W (df_are_same_maps X0 G0 c) F_value_in_round F_common_round
  have G_R__eq__ : Fg P w K mg base (csK K) 9 (ma K (ga K "Round") "__eq__") f_R__eq__ := fg_R__eq__ W R (dm___eq__ c) F_are_same_maps
  have G_R__invert__ : Fg P w K mg base (csK K) 24 (ma K (ga K "Round") "__invert__") f_R__invert__ := fg_R__invert__ W R (dm___invert__ c) F_told_round F_turned_back
  have G_Rfalls : Fg P w K mg base (csK K) 9 (Hd.fg K) f_Rfalls := fg_Rfalls W R (dm_falls c) F_falls_of
  have F__law_right : FdM P w K mg base (csK K) 30 "_law_right" f__law_right := fd__law_right W (df__law_right X0 G0 c) F__law_roll F__law_chain_right F_greedily_made F__law_mirrored F_greedy F_made_by F__law_least_map F_letters_of F_charges F__law_charges_by F_idle_letters F_is_held F_is_below F_does_nothing R (eqO_ok (ex_at c 18 rfl)) (ex_at c 19 rfl) G_R__eq__ (eqO_ok (ex_at c 20 rfl)) (ex_at c 21 rfl) G_R__invert__ (eqO_ok (ex_at c 22 rfl)) (eqO_ok (ex_at c 23 rfl)) (of_decide_eq_true (ex_at c 24 rfl)) (fall_of c) G_Rfalls (fun k L c a b d e f => cr_ok a b d e f) (fun k L1 L2 l a b d e f g => lr_ok a b d e f g)
  have F__law_dice : FdN P w K mg base (csK K) 3 "_law_dice" f__law_dice := fd__law_dice W (df__law_dice X0 G0 c)
  exact ok_law W F F__law_right F__law_dice
end
end Dd
open PySem PySem.W PySem.Calls PyProof.Rows
theorem PySem.Challenge.cw_ringstairs_k96_whole_cores_round_maps_an_holds : PySem.Challenge.rw_ringstairs_k96_whole_cores_round_maps_an.Holds := by
  w_on; o_law
  refine HandSHeadRun.head_imp (r := OpenLaw.row PySem.Challenge.rw_ringstairs_k96_whole_cores_round_maps_an) (q := view (OpenLaw.row PySem.Challenge.rw_ringstairs_k96_whole_cores_round_maps_an).prog [0, 132]) (H := Hd.hkY) (ob := Hd.ob) (M := 8000) (loose := Hd.loose) (d := HandSHeadRun.topDef (OpenLaw.row PySem.Challenge.rw_ringstairs_k96_whole_cores_round_maps_an).prog 132) (kwd := []) Hd.ob_eq Hd.run
    (by kernel_rfl) (by kernel_rfl) (by kernel_rfl) (by rfl) (by first | assumption | decide +kernel) (by decide +kernel) ⟨rfl, rfl, rfl, rfl, rfl, by decide +kernel⟩ ?hw ?hc
  case hw => w_witness2
  case hc =>
    refine LamX.walk_ofTsE (l := PySem.Challenge.rw_ringstairs_k96_whole_cores_round_maps_an) (n := 63) (k := 33) (x := "_law_script") (CX := fun _ => L2.CX0) rfl (by decide) (by kernel_rfl) ⟨rfl, by decide, by decide⟩ ?F (fun _ _ _ _ _ z => z)
    intro w mg fa h Y G hmg0
    obtain ⟨K, KX, c⟩ := Y
    have hmg : mg ("law" : PySem.Str) = some (.ref fa) := by
      have e : (HandSHeadRun.topDef (OpenLaw.row PySem.Challenge.rw_ringstairs_k96_whole_cores_round_maps_an).prog 132).name = ("law" : PySem.Str) := by kernel_rfl
      rw [← e]
      exact hmg0
    obtain ⟨fd, F⟩ := c.d.def_ 95 (d := Hd.d_law) rfl
    have e := hmg.symm.trans (He.glo_ok KX G (c.d.fact 95 (f := .glo "law") rfl))
    have b := L2.FunD.bindsA (ps := ["_law_script"]) F fun _ _ _ _ _ _ us hl => match us, hl with | [_], _ => rfl
    cases e
    have mem1 : (("first_fall", none) : He.Defn) ∈ Hd.tf := List.mem_cons_self
    have mem2 : (("ring_letter", none) : He.Defn) ∈ Hd.tf := List.mem_cons_of_mem _ List.mem_cons_self
    have both : ∀ (Z : Addr × Addr → Prop), (∀ p ∈ Hd.tf, Z (He.cT K p)) → ∀ q ∈ [He.cT K ("first_fall", none), He.cT K ("ring_letter", none)], Z q := fun Z hz q hq => by
      rcases List.mem_cons.mp hq with rfl | hq
      · exact hz _ mem1
      · rw [List.mem_singleton.mp hq]
        exact hz _ mem2
    refine ⟨K, KX, fd, [He.cT K ("first_fall", none), He.cT K ("ring_letter", none)], Dd.spD K (Dd.csK K) Dd.f_law, both _ c.empty, both _ c.out, both _ fun p hp => codeHd_of_K KX (c.hd p hp), fun s u => b s [u] rfl, fun H a ns hl _ hT hS => ?_, fun base X2 G2 T => ?_⟩
    · have t1 := hT _ List.mem_cons_self
      have t2 := hT _ (List.mem_cons_of_mem _ List.mem_cons_self)
      refine ⟨⟨⟨_, t1, trivial⟩, ⟨_, t2, trivial⟩⟩, [Dd.il ns], .bl true, ⟨rfl, fun i d v h1 h2 => ?_⟩, ⟨ns, rfl, hl, rfl⟩, fun v H' _ r => by cases r; rfl⟩
      cases i with
      | succ i => cases h1
      | zero =>
        cases h1
        cases h2
        rcases hS with hR | ⟨x, its, n, lk, hc, _⟩
        · exact .lst (fun z => nomatch z) hR (by simp) fun i d v h1 h2 => by
            rw [List.getElem?_map] at h1 h2
            cases z : ns[i]? with
            | none => rw [z] at h1; cases h1
            | some y =>
              rw [z] at h1 h2
              cases h1
              cases h2
              exact .int
        · exfalso
          have q := List.all_eq_true.mp (Dd.ex_at c 28 rfl) _ (He.lookup_mem lk)
          have q' : (!decide (x.cls = Value.type "list")) = true := q
          rw [decide_eq_true hc] at q'
          cases q'
    · have T1 := T _ List.mem_cons_self
      have T2 := T _ (List.mem_cons_of_mem _ List.mem_cons_self)
      exact Dd.law_at F KX G c ⟨T1.code, T1.bm, T1.gP⟩ ⟨T2.code, T2.bm, T2.gP⟩

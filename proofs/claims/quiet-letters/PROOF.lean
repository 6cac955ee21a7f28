import PyProof.Rows.All
import Wide.All
import OpenK.AllK
import Wide.FinOn
import KE.KStateDown
import KE.KLam
import KE.SortKeyHeap
import KE.SortData
import KE.KDictKeyed
import KE.GoesNew
import HandS.ForMost
import HandS.Conv
import HandS.TupAny
import HandS.Strs
import HandS.SetKeys
import HandS.DictComp
import HandS.Replace
import HandS.IsInst
import HandS.Exc
import HandS.ExcOwn
import HandS.ExcIs
import HandS.TryOnly
import HandS.WordsExc
import HandS.Small
import HandS.Steps
import HandS.Evl
import HandS.Walk
import HandS.Defaults
import HandS.Lambda
import HandS.EndTab
import HandS.HeadEnd
import HandS.Head0
import HandS.Head1
import HandS.Head2
import HandS.HeadHook4
import HandS.TupLen
import HandS.SortKw
import HandS.DictTup
import HandS.SortInts
import HandS.More
import KE.KDictDisplayH
import HandS.WordsDict
import HandS.Dict
import HandS.Sort
import PyProof.WalkInts
import KE.KTupTabMore
import HandS.HeadWalk
import KE.KNestM
import KE.KTryMore
import KE.KIsAll
import PySem.Challenge.RW_saidacross_k87_whole_quiet_letters
set_option Elab.async false
set_option linter.all false
set_option maxRecDepth 100000
set_option maxHeartbeats 1000000
namespace QP
open PySem PySem.Spec PyProof.Rows L2
/-! ### the text by places -/
def top (i : Nat) : Stmt := PySem.Challenge.pw_saidacross_k87_whole_quiet_letters.main.body.getD i (.Pass ⟨0, 0, 0, 0⟩)
abbrev s_is_integer : Stmt := top 8
abbrev s_is_string_of : Stmt := top 9
abbrev s_is_ascending : Stmt := top 10
abbrev s_is_choice : Stmt := top 11
abbrev s_check_letters : Stmt := top 12
abbrev s_are_states : Stmt := top 14
abbrev s_is_table : Stmt := top 15
abbrev s_Machine_init : Stmt := inClass (top 16) 0
abbrev s_Machine_keep : Stmt := inClass (top 16) 1
abbrev s_RawMachine_init : Stmt := inClass (top 17) 0
abbrev s_led : Stmt := top 18
abbrev s_reached : Stmt := top 19
abbrev s_numbered : Stmt := top 20
abbrev s_alike_states : Stmt := top 21
abbrev s_least : Stmt := top 22
abbrev s_after : Stmt := top 25
abbrev s_deed_of : Stmt := top 26
abbrev s_Field_init : Stmt := inClass (top 27) 0
abbrev s_Field_met : Stmt := inClass (top 27) 1
abbrev s_Field_times : Stmt := inClass (top 27) 2
abbrev s_Field_is_steady : Stmt := inClass (top 27) 3
abbrev s_Field_index_of : Stmt := inClass (top 27) 4
abbrev s_Field_steady_of : Stmt := inClass (top 27) 5
abbrev s_field_of : Stmt := top 28
abbrev s_lots_of : Stmt := top 30
abbrev s_Lot_init : Stmt := inClass (top 31) 0
abbrev s_Lot_all_made : Stmt := inClass (top 31) 1
abbrev s_Lot_walk : Stmt := inClass (top 31) 2
abbrev s_Lot_least_ideal : Stmt := inClass (top 31) 3
abbrev s_lot_of : Stmt := top 32
abbrev s_both_marks : Stmt := top 34
abbrev s_falling_block : Stmt := top 35
abbrev s_steady_core : Stmt := top 36
abbrev s_ends_block : Stmt := top 37
abbrev s_group_of : Stmt := top 38
abbrev s_back_of : Stmt := top 39
abbrev s_sums_block : Stmt := top 40
abbrev s_search : Stmt := top 41
abbrev s_block_of : Stmt := top 42
abbrev s_pairs_of : Stmt := top 44
abbrev s_may_change : Stmt := top 45
abbrev s_fixed : Stmt := top 46
abbrev s_kind : Stmt := top 47
abbrev s_silenced : Stmt := top 49
abbrev s_without : Stmt := top 50
abbrev s_quiet : Stmt := top 53
abbrev s_l_hand : Stmt := top 55
abbrev s_l_draw : Stmt := top 56
abbrev s_l_shuffled : Stmt := top 57
abbrev s_l_rows : Stmt := top 58
abbrev s_l_woven : Stmt := top 59
abbrev s_l_parts : Stmt := top 60
abbrev s_l_classes : Stmt := top 61
abbrev s_l_least : Stmt := top 62
abbrev s_l_after : Stmt := top 63
abbrev s_l_deed : Stmt := top 64
abbrev s_l_deeds : Stmt := top 65
abbrev s_l_steady : Stmt := top 66
abbrev s_l_field : Stmt := top 67
abbrev s_l_is_straight : Stmt := top 68
abbrev s_l_groups_change : Stmt := top 69
abbrev s_l_kind : Stmt := top 70
abbrev s_l_lots : Stmt := top 71
abbrev s_l_place : Stmt := top 72
abbrev s_l_kind_without : Stmt := top 73
abbrev s_l_due : Stmt := top 74
abbrev s_l_is_refused : Stmt := top 75
abbrev s_law : Stmt := top 76
def d_is_integer : He.DefD := ⟨("is_integer", none), "is_integer", "is_integer", defArgs s_is_integer, defBody s_is_integer, defScope s_is_integer, [], []⟩
def d_is_string_of : He.DefD := ⟨("is_string_of", none), "is_string_of", "is_string_of", defArgs s_is_string_of, defBody s_is_string_of, defScope s_is_string_of, [], []⟩
def d_is_ascending : He.DefD := ⟨("is_ascending", none), "is_ascending", "is_ascending", defArgs s_is_ascending, defBody s_is_ascending, defScope s_is_ascending, [], []⟩
def d_is_choice : He.DefD := ⟨("is_choice", none), "is_choice", "is_choice", defArgs s_is_choice, defBody s_is_choice, defScope s_is_choice, [], []⟩
def d_check_letters : He.DefD := ⟨("check_letters", none), "check_letters", "check_letters", defArgs s_check_letters, defBody s_check_letters, defScope s_check_letters, [], []⟩
def d_are_states : He.DefD := ⟨("are_states", none), "are_states", "are_states", defArgs s_are_states, defBody s_are_states, defScope s_are_states, [], []⟩
def d_is_table : He.DefD := ⟨("is_table", none), "is_table", "is_table", defArgs s_is_table, defBody s_is_table, defScope s_is_table, [], []⟩
def d_Machine_init : He.DefD := ⟨("Machine", some "__init__"), "__init__", "Machine.__init__", defArgs s_Machine_init, defBody s_Machine_init, defScope s_Machine_init, [], []⟩
def d_Machine_keep : He.DefD := ⟨("Machine", some "keep"), "keep", "Machine.keep", defArgs s_Machine_keep, defBody s_Machine_keep, defScope s_Machine_keep, [], []⟩
def d_RawMachine_init : He.DefD := ⟨("RawMachine", some "__init__"), "__init__", "RawMachine.__init__", defArgs s_RawMachine_init, defBody s_RawMachine_init, defScope s_RawMachine_init, [], []⟩
def d_RawMachine_keep : He.DefD := ⟨("RawMachine", some "keep"), "keep", "Machine.keep", defArgs s_Machine_keep, defBody s_Machine_keep, defScope s_Machine_keep, [], []⟩
def d_led : He.DefD := ⟨("led", none), "led", "led", defArgs s_led, defBody s_led, defScope s_led, [], []⟩
def d_reached : He.DefD := ⟨("reached", none), "reached", "reached", defArgs s_reached, defBody s_reached, defScope s_reached, [], []⟩
def d_numbered : He.DefD := ⟨("numbered", none), "numbered", "numbered", defArgs s_numbered, defBody s_numbered, defScope s_numbered, [], []⟩
def d_alike_states : He.DefD := ⟨("alike_states", none), "alike_states", "alike_states", defArgs s_alike_states, defBody s_alike_states, defScope s_alike_states, [], []⟩
def d_least : He.DefD := ⟨("least", none), "least", "least", defArgs s_least, defBody s_least, defScope s_least, [], []⟩
def d_after : He.DefD := ⟨("after", none), "after", "after", defArgs s_after, defBody s_after, defScope s_after, [], []⟩
def d_deed_of : He.DefD := ⟨("deed_of", none), "deed_of", "deed_of", defArgs s_deed_of, defBody s_deed_of, defScope s_deed_of, [], []⟩
def d_Field_init : He.DefD := ⟨("Field", some "__init__"), "__init__", "Field.__init__", defArgs s_Field_init, defBody s_Field_init, defScope s_Field_init, [], []⟩
def d_Field_met : He.DefD := ⟨("Field", some "met"), "met", "Field.met", defArgs s_Field_met, defBody s_Field_met, defScope s_Field_met, [], []⟩
def d_Field_times : He.DefD := ⟨("Field", some "times"), "times", "Field.times", defArgs s_Field_times, defBody s_Field_times, defScope s_Field_times, [], []⟩
def d_Field_is_steady : He.DefD := ⟨("Field", some "is_steady"), "is_steady", "Field.is_steady", defArgs s_Field_is_steady, defBody s_Field_is_steady, defScope s_Field_is_steady, [], []⟩
def d_Field_index_of : He.DefD := ⟨("Field", some "index_of"), "index_of", "Field.index_of", defArgs s_Field_index_of, defBody s_Field_index_of, defScope s_Field_index_of, [], []⟩
def d_Field_steady_of : He.DefD := ⟨("Field", some "steady_of"), "steady_of", "Field.steady_of", defArgs s_Field_steady_of, defBody s_Field_steady_of, defScope s_Field_steady_of, [], []⟩
def d_field_of : He.DefD := ⟨("field_of", none), "field_of", "field_of", defArgs s_field_of, defBody s_field_of, defScope s_field_of, [], []⟩
def d_lots_of : He.DefD := ⟨("lots_of", none), "lots_of", "lots_of", defArgs s_lots_of, defBody s_lots_of, defScope s_lots_of, [], []⟩
def d_Lot_init : He.DefD := ⟨("Lot", some "__init__"), "__init__", "Lot.__init__", defArgs s_Lot_init, defBody s_Lot_init, defScope s_Lot_init, [], []⟩
def d_Lot_all_made : He.DefD := ⟨("Lot", some "all_made"), "all_made", "Lot.all_made", defArgs s_Lot_all_made, defBody s_Lot_all_made, defScope s_Lot_all_made, [], []⟩
def d_Lot_walk : He.DefD := ⟨("Lot", some "walk"), "walk", "Lot.walk", defArgs s_Lot_walk, defBody s_Lot_walk, defScope s_Lot_walk, [], []⟩
def d_Lot_least_ideal : He.DefD := ⟨("Lot", some "least_ideal"), "least_ideal", "Lot.least_ideal", defArgs s_Lot_least_ideal, defBody s_Lot_least_ideal, defScope s_Lot_least_ideal, [], []⟩
def d_lot_of : He.DefD := ⟨("lot_of", none), "lot_of", "lot_of", defArgs s_lot_of, defBody s_lot_of, defScope s_lot_of, [], []⟩
def d_both_marks : He.DefD := ⟨("both_marks", none), "both_marks", "both_marks", defArgs s_both_marks, defBody s_both_marks, defScope s_both_marks, [], []⟩
def d_falling_block : He.DefD := ⟨("falling_block", none), "falling_block", "falling_block", defArgs s_falling_block, defBody s_falling_block, defScope s_falling_block, [], []⟩
def d_steady_core : He.DefD := ⟨("steady_core", none), "steady_core", "steady_core", defArgs s_steady_core, defBody s_steady_core, defScope s_steady_core, [], []⟩
def d_ends_block : He.DefD := ⟨("ends_block", none), "ends_block", "ends_block", defArgs s_ends_block, defBody s_ends_block, defScope s_ends_block, [], []⟩
def d_group_of : He.DefD := ⟨("group_of", none), "group_of", "group_of", defArgs s_group_of, defBody s_group_of, defScope s_group_of, [], []⟩
def d_back_of : He.DefD := ⟨("back_of", none), "back_of", "back_of", defArgs s_back_of, defBody s_back_of, defScope s_back_of, [], []⟩
def d_sums_block : He.DefD := ⟨("sums_block", none), "sums_block", "sums_block", defArgs s_sums_block, defBody s_sums_block, defScope s_sums_block, [], []⟩
def d_search : He.DefD := ⟨("search", none), "search", "search", defArgs s_search, defBody s_search, defScope s_search, [], []⟩
def d_block_of : He.DefD := ⟨("block_of", none), "block_of", "block_of", defArgs s_block_of, defBody s_block_of, defScope s_block_of, [], []⟩
def d_pairs_of : He.DefD := ⟨("pairs_of", none), "pairs_of", "pairs_of", defArgs s_pairs_of, defBody s_pairs_of, defScope s_pairs_of, [], []⟩
def d_may_change : He.DefD := ⟨("may_change", none), "may_change", "may_change", defArgs s_may_change, defBody s_may_change, defScope s_may_change, [], []⟩
def d_fixed : He.DefD := ⟨("fixed", none), "fixed", "fixed", defArgs s_fixed, defBody s_fixed, defScope s_fixed, [], []⟩
def d_kind : He.DefD := ⟨("kind", none), "kind", "kind", defArgs s_kind, defBody s_kind, defScope s_kind, [], []⟩
def d_silenced : He.DefD := ⟨("silenced", none), "silenced", "silenced", defArgs s_silenced, defBody s_silenced, defScope s_silenced, [], []⟩
def d_without : He.DefD := ⟨("without", none), "without", "without", defArgs s_without, defBody s_without, defScope s_without, [], []⟩
def d_quiet : He.DefD := ⟨("quiet", none), "quiet", "quiet", defArgs s_quiet, defBody s_quiet, defScope s_quiet, [], []⟩
def d_l_hand : He.DefD := ⟨("_law_hand", none), "_law_hand", "_law_hand", defArgs s_l_hand, defBody s_l_hand, defScope s_l_hand, [], []⟩
def d_l_draw : He.DefD := ⟨("_law_draw", none), "_law_draw", "_law_draw", defArgs s_l_draw, defBody s_l_draw, defScope s_l_draw, [], []⟩
def d_l_shuffled : He.DefD := ⟨("_law_shuffled", none), "_law_shuffled", "_law_shuffled", defArgs s_l_shuffled, defBody s_l_shuffled, defScope s_l_shuffled, [], []⟩
def d_l_rows : He.DefD := ⟨("_law_rows", none), "_law_rows", "_law_rows", defArgs s_l_rows, defBody s_l_rows, defScope s_l_rows, [], []⟩
def d_l_woven : He.DefD := ⟨("_law_woven", none), "_law_woven", "_law_woven", defArgs s_l_woven, defBody s_l_woven, defScope s_l_woven, [], []⟩
def d_l_parts : He.DefD := ⟨("_law_parts", none), "_law_parts", "_law_parts", defArgs s_l_parts, defBody s_l_parts, defScope s_l_parts, [], []⟩
def d_l_classes : He.DefD := ⟨("_law_classes", none), "_law_classes", "_law_classes", defArgs s_l_classes, defBody s_l_classes, defScope s_l_classes, [], []⟩
def d_l_least : He.DefD := ⟨("_law_least", none), "_law_least", "_law_least", defArgs s_l_least, defBody s_l_least, defScope s_l_least, [], []⟩
def d_l_after : He.DefD := ⟨("_law_after", none), "_law_after", "_law_after", defArgs s_l_after, defBody s_l_after, defScope s_l_after, [], []⟩
def d_l_deed : He.DefD := ⟨("_law_deed", none), "_law_deed", "_law_deed", defArgs s_l_deed, defBody s_l_deed, defScope s_l_deed, [], []⟩
def d_l_deeds : He.DefD := ⟨("_law_deeds", none), "_law_deeds", "_law_deeds", defArgs s_l_deeds, defBody s_l_deeds, defScope s_l_deeds, [], []⟩
def d_l_steady : He.DefD := ⟨("_law_steady", none), "_law_steady", "_law_steady", defArgs s_l_steady, defBody s_l_steady, defScope s_l_steady, [], []⟩
def d_l_field : He.DefD := ⟨("_law_field", none), "_law_field", "_law_field", defArgs s_l_field, defBody s_l_field, defScope s_l_field, [], []⟩
def d_l_is_straight : He.DefD := ⟨("_law_is_straight", none), "_law_is_straight", "_law_is_straight", defArgs s_l_is_straight, defBody s_l_is_straight, defScope s_l_is_straight, [], []⟩
def d_l_groups_change : He.DefD := ⟨("_law_groups_change", none), "_law_groups_change", "_law_groups_change", defArgs s_l_groups_change, defBody s_l_groups_change, defScope s_l_groups_change, [], []⟩
def d_l_kind : He.DefD := ⟨("_law_kind", none), "_law_kind", "_law_kind", defArgs s_l_kind, defBody s_l_kind, defScope s_l_kind, [], []⟩
def d_l_lots : He.DefD := ⟨("_law_lots", none), "_law_lots", "_law_lots", defArgs s_l_lots, defBody s_l_lots, defScope s_l_lots, [], []⟩
def d_l_place : He.DefD := ⟨("_law_place", none), "_law_place", "_law_place", defArgs s_l_place, defBody s_l_place, defScope s_l_place, [], []⟩
def d_l_kind_without : He.DefD := ⟨("_law_kind_without", none), "_law_kind_without", "_law_kind_without", defArgs s_l_kind_without, defBody s_l_kind_without, defScope s_l_kind_without, [], []⟩
def d_l_due : He.DefD := ⟨("_law_due", none), "_law_due", "_law_due", defArgs s_l_due, defBody s_l_due, defScope s_l_due, [], []⟩
def d_l_is_refused : He.DefD := ⟨("_law_is_refused", none), "_law_is_refused", "_law_is_refused", defArgs s_l_is_refused, defBody s_l_is_refused, defScope s_l_is_refused, [], []⟩
def d_law : He.DefD := ⟨("law", none), "law", "law", defArgs s_law, defBody s_law, defScope s_law, [], []⟩
def fn : List He.DefD := [d_is_integer, d_is_string_of, d_is_ascending, d_is_choice, d_check_letters, d_are_states, d_is_table, d_Machine_init, d_Machine_keep, d_RawMachine_init, d_led, d_reached, d_numbered, d_alike_states, d_least, d_after, d_deed_of, d_Field_init, d_Field_met, d_Field_times, d_Field_is_steady, d_Field_index_of, d_Field_steady_of, d_field_of, d_lots_of, d_Lot_init, d_Lot_all_made, d_Lot_walk, d_Lot_least_ideal, d_lot_of, d_both_marks, d_falling_block, d_steady_core, d_ends_block, d_group_of, d_back_of, d_sums_block, d_search] ++
  [d_block_of, d_pairs_of, d_may_change, d_fixed, d_kind, d_silenced, d_without, d_quiet, d_l_hand, d_l_draw, d_l_shuffled, d_l_rows, d_l_woven, d_l_parts, d_l_classes, d_l_least, d_l_after, d_l_deed, d_l_deeds, d_l_steady, d_l_field, d_l_is_straight, d_l_groups_change, d_l_kind, d_l_lots, d_l_place, d_l_kind_without, d_l_due, d_l_is_refused, d_law, d_RawMachine_keep]
def fa0 : List He.Fa := [.glo "is_integer", .glo "is_string_of", .glo "is_ascending", .glo "is_choice", .glo "check_letters", .glo "are_states", .glo "is_table", .glo "led", .glo "reached", .glo "numbered", .glo "alike_states", .glo "least", .glo "after", .glo "deed_of", .glo "field_of", .glo "lots_of", .glo "lot_of", .glo "both_marks", .glo "falling_block", .glo "steady_core"]
def fa1 : List He.Fa := [.glo "ends_block", .glo "group_of", .glo "back_of", .glo "sums_block", .glo "search", .glo "block_of", .glo "pairs_of", .glo "may_change", .glo "fixed", .glo "kind", .glo "silenced", .glo "without", .glo "quiet", .glo "_law_hand", .glo "_law_draw", .glo "_law_shuffled", .glo "_law_rows", .glo "_law_woven", .glo "_law_parts", .glo "_law_classes"]
def fa2 : List He.Fa := [.glo "_law_least", .glo "_law_after", .glo "_law_deed", .glo "_law_deeds", .glo "_law_steady", .glo "_law_field", .glo "_law_is_straight", .glo "_law_groups_change", .glo "_law_kind", .glo "_law_lots", .glo "_law_place", .glo "_law_kind_without", .glo "_law_due", .glo "_law_is_refused", .glo "law", .glo "SaidError", .glo "NoKind", .glo "Machine", .glo "RawMachine", .glo "Field"]
def fa3 : List He.Fa := [.glo "Lot", .free "len", .free "range", .free "isinstance", .free "sorted", .free "zip", .free "tuple", .free "list", .free "int", .free "abs", .free "min", .free "max", .free "all", .free "any", .free "str", .free "bool", .int "MOST_DEEDS" 100, .str "SMALL" "abcdefghijklmnopqrstuvwxyz", .cls "Machine", .mkr "Machine"]
def fa4 : List He.Fa := [.noat "Machine" "kept_letters", .noat "Machine" "kept_table", .noat "Machine" "kept_accepts", .noat "Machine" "kept_least", .noat "Machine" "kept_field", .noat "Machine" "kept_lots", .noat "Machine" "kept_more", .meth "Machine" "keep", .cls "RawMachine", .mkr "RawMachine", .noat "RawMachine" "kept_letters", .noat "RawMachine" "kept_table", .noat "RawMachine" "kept_accepts", .noat "RawMachine" "kept_least", .noat "RawMachine" "kept_field", .noat "RawMachine" "kept_lots", .noat "RawMachine" "kept_more", .meth "RawMachine" "keep", .cls "Field", .mkr "Field"]
def fa5 : List He.Fa := [.noat "Field" "letters", .noat "Field" "words", .noat "Field" "deeds", .noat "Field" "number", .noat "Field" "by_letter", .meth "Field" "met", .meth "Field" "times", .meth "Field" "is_steady", .meth "Field" "index_of", .meth "Field" "steady_of", .cls "Lot", .mkr "Lot", .noat "Lot" "lot", .noat "Lot" "field", .noat "Lot" "places", .noat "Lot" "full_words", .noat "Lot" "made", .noat "Lot" "core", .meth "Lot" "all_made", .meth "Lot" "walk"]
def fa6 : List He.Fa := [.meth "Lot" "least_ideal", .keep "SaidError", .keep "NoKind", .exm "NoKind" "SaidError" true, .exc "NoKind", .glo "KINDS"]
def fa : List He.Fa := fa0 ++ fa1 ++ fa2 ++ fa3 ++ fa4 ++ fa5 ++ fa6
def names0 : List Str := ["__name__", "SaidError", "NoLetters", "NoKind", "NoMachine", "TooMany", "SMALL", "is_integer", "is_string_of", "is_ascending", "is_choice", "check_letters", "are_states", "is_table", "Machine", "RawMachine", "led", "reached", "numbered", "alike_states"]
def names1 : List Str := ["least", "MOST_DEEDS", "after", "deed_of", "Field", "field_of", "lots_of", "Lot", "lot_of", "both_marks", "falling_block", "steady_core", "ends_block", "group_of", "back_of", "sums_block", "search", "block_of", "pairs_of", "may_change"]
def names2 : List Str := ["fixed", "kind", "silenced", "without", "KINDS", "quiet", "_law_hand", "_law_draw", "_law_shuffled", "_law_rows", "_law_woven", "_law_parts", "_law_classes", "_law_least", "_law_after", "_law_deed", "_law_deeds", "_law_steady", "_law_field", "_law_is_straight"]
def names3 : List Str := ["_law_groups_change", "_law_kind", "_law_lots", "_law_place", "_law_kind_without", "_law_due", "_law_is_refused"]
def names : List Str := names0 ++ names1 ++ names2 ++ names3
def tf : List He.Defn := [("lots_of", none)]
def kdB (K : PySem.W.Frag) : Bool := match K.lookup (He.ga K "KINDS") with
  | some ⟨.type c, none, _, _⟩ => decide (c = "tuple")
  | _ => false
def nkB (K : PySem.W.Frag) : Bool := He.eqO (PySem.W.findIn K (.ref (He.ga K "NoKind")) "__getattribute__") (some (some (.builtin "BaseException.__getattribute__"))) &&
  (He.eqO (PySem.W.findIn K (.ref (He.ga K "NoKind")) "__getattr__") (some none) &&
  (PySem.W.hasDictIn K (He.ga K "NoKind") &&
  (He.eqO (PySem.W.findIn K (.ref (He.ga K "NoKind")) "__class__") (some (some (.builtin "object.__class__"))) &&
  (He.eqO (PySem.W.specialIn K (.builtin "object.__class__") "__get__") (some (some (.builtin "getset_descriptor.__get__"))) &&
  (decide (PySem.W.takesIn K (.builtin "object.__class__") = some true) &&
  (decide (PySem.W.mroIn K (He.ga K "NoKind") (.type "object") = some true) &&
  decide (PySem.W.kitOne K (.ref (He.ga K "NoKind")) (.ref (He.ga K "NoKind")) = some true)))))))
def ex (K : PySem.W.Frag) : Bool := He.tupB K "KINDS" [.str "fixed", .str "digits", .str "length"] && (kdB K && nkB K)
abbrev R : PySem.W.OpenRow := PySem.W.OpenLaw.row PySem.Challenge.rw_saidacross_k87_whole_quiet_letters
abbrev hk : PySem.W.Hook := He.hookX 4 fa fn [] tf ex
def ob (s : PySem.W.SharedT) : He.AlX := He.obsX 4 fa fn [] tf ex (HandSHeadRun.getT s)
theorem ob_eq (s : PySem.W.SharedT) : ob s = hk.obs s.abs := He.obsX_eq (HandSHeadRun.getT_eq s)
theorem run (w : World) : HandSHeadRun.RunEq R (PySem.W.view R.prog [76]) hk ob 7000 names w := by
  intro os
  kernel_rfl
end QP

set_option linter.all false
/-! QAlg: the algebra. Words are lists of letter places; a machine's deed of a word is φ w in a type with an associative product; program's block conditions against the law's DO and commuting groups. Core Lean only. -/
namespace QA
abbrev W := List Nat
/-- the letters of w are all among B -/
def On (B : List Nat) (w : W) : Prop := ∀ a ∈ w, a ∈ B
def Full (B : List Nat) (w : W) : Prop := On B w ∧ ∀ a ∈ B, a ∈ w
theorem On.nil {B} : On B [] := fun _ h => nomatch h
theorem On.app {B u v} (h : On B u) (k : On B v) : On B (u ++ v) := fun a m => (List.mem_append.mp m).elim (h a) (k a)
theorem On.left {B u v} (h : On B (u ++ v)) : On B u := fun a m => h a (List.mem_append_left _ m)
theorem On.right {B u v} (h : On B (u ++ v)) : On B v := fun a m => h a (List.mem_append_right _ m)
theorem Full.app {B u v w} (h : Full B v) (hu : On B u) (hw : On B w) : Full B (u ++ v ++ w) :=
  ⟨(hu.app h.1).app hw, fun a m => List.mem_append_left _ (List.mem_append_right _ (h.2 a m))⟩
/-- w, n times -/
def rep : W → Nat → W
  | _, 0 => []
  | w, n + 1 => w ++ rep w n
theorem On.rep {B w} (h : On B w) : ∀ n, On B (rep w n)
  | 0 => On.nil
  | n + 1 => h.app (On.rep h n)
theorem rep_add (w : W) : ∀ m n, rep w (m + n) = rep w m ++ rep w n
  | 0, n => by rw [Nat.zero_add]; rfl
  | m + 1, n => by
    rw [show m + 1 + n = (m + n) + 1 by omega]
    show w ++ rep w (m + n) = (w ++ rep w m) ++ rep w n
    rw [rep_add w m n, List.append_assoc]
theorem rep_mul (w : W) (m : Nat) : ∀ n, rep (rep w m) n = rep w (m * n)
  | 0 => rfl
  | n + 1 => by
    show rep w m ++ rep (rep w m) n = _
    rw [rep_mul w m n, ← rep_add, show m + m * n = m * (n + 1) by rw [Nat.mul_succ]; omega]

section
variable {α : Type} [Mul α] (φ : W → α)
/-- an associative product, φ a homomorphism (the empty word neutral), every word has a steady power -/
structure Fin (φ : W → α) : Prop where
  assoc : ∀ a b c : α, a * b * c = a * (b * c)
  app : ∀ u v, φ (u ++ v) = φ u * φ v
  pow : ∀ w, ∃ n, 1 ≤ n ∧ φ (rep w n) * φ (rep w n) = φ (rep w n)
def Idem (a : α) : Prop := a * a = a
/-- the least ideal of what B makes -/
def Core (B : List Nat) (d : α) : Prop := (∃ w, On B w ∧ φ w = d) ∧ ∀ s, On B s → ∃ u v, On B u ∧ On B v ∧ φ u * φ s * φ v = d
def NoFall (B : List Nat) : Prop := ∀ w, Full B w → Idem (φ w) → ¬ Core φ B (φ w) →
  ∃ w', Full B w' ∧ φ w' = φ w ∧ ∀ u v, w' = u ++ v → v ≠ [] →
    φ w * (φ w * φ u) * (φ w * φ u) * (φ v * φ w) * (φ v * φ w) * φ w = φ w
def NoEnds (B : List Nat) : Prop := ∀ e f, Core φ B e → Idem e → Core φ B f → Idem f → Idem (e * f)
def NoSums (B : List Nat) : Prop := ∃ e, Core φ B e ∧ Idem e ∧ ∀ x y, On B x → On B y →
  e * φ x * e * (e * φ y * e) = e * φ y * e * (e * φ x * e)
/-- the law's two looks: K the letters -/
def DO (K : List Nat) : Prop := ∀ x y m n, On K x → On K y → 1 ≤ m → 1 ≤ n → Idem (φ (rep (x ++ y) m)) → Idem (φ (rep (y ++ x) n)) →
  φ (rep (x ++ y) m) * φ (rep (y ++ x) n) * φ (rep (x ++ y) m) = φ (rep (x ++ y) m)
def AB (K : List Nat) : Prop := ∀ x y m n, On K x → On K y → 1 ≤ m → 1 ≤ n → Idem (φ (rep x m)) → φ (rep x m) = φ (rep y n) →
  φ x * φ (rep x m) = φ x → φ (rep x m) * φ x = φ x → φ y * φ (rep x m) = φ y → φ (rep x m) * φ y = φ y → φ x * φ y = φ y * φ x
variable {φ}

section
variable (F : Fin φ)
include F
theorem nil_l (w : W) : φ [] * φ w = φ w := by rw [← F.app]; rfl
theorem nil_r (w : W) : φ w * φ [] = φ w := by rw [← F.app, List.append_nil]
/-- powers of a steady one -/
theorem idem_rep {w : W} (h : Idem (φ w)) : ∀ n, 1 ≤ n → φ (rep w n) = φ w
  | 1, _ => by show φ (w ++ []) = _; rw [List.append_nil]
  | n + 2, _ => by
    show φ (w ++ rep w (n + 1)) = _
    rw [F.app, idem_rep h (n + 1) (by omega)]
    exact h
/-- one steady power is like any other -/
theorem idem_unique {w : W} {m n : Nat} (hm : 1 ≤ m) (hn : 1 ≤ n) (h : Idem (φ (rep w m))) (k : Idem (φ (rep w n))) : φ (rep w m) = φ (rep w n) := by
  have a := idem_rep F h n hn
  have b := idem_rep F k m hm
  rw [rep_mul] at a b
  rw [← a, ← b, Nat.mul_comm]
/-- in e M e a right inverse is a left inverse: x = e x e, y = e y e as words' deeds -/
theorem unit_swap {x y : W} {e : α} (he : φ x * φ y = e) (xe : φ x * e = φ x) (ex : e * φ x = φ x) (ye : φ y * e = φ y) (ey : e * φ y = φ y) (ee : Idem e) : φ y * φ x = e := by
  have pw : ∀ n, 1 ≤ n → φ (rep x n) * φ (rep y n) = e ∧ φ (rep x n) * e = φ (rep x n) ∧ e * φ (rep y n) = φ (rep y n) := by
    intro n
    induction n with
    | zero => intro h; omega
    | succ n ih =>
      intro _
      by_cases h0 : n = 0
      · subst h0
        have e1 : rep x 1 = x := List.append_nil x
        have e2 : rep y 1 = y := List.append_nil y
        rw [e1, e2]
        exact ⟨he, xe, ey⟩
      · obtain ⟨i1, i2, i3⟩ := ih (by omega)
        have c : rep x (n + 1) = rep x n ++ x := by rw [rep_add x n 1, show rep x 1 = x from List.append_nil x]
        have d : rep y (n + 1) = y ++ rep y n := rfl
        refine ⟨?_, ?_, ?_⟩
        · rw [c, d, F.app, F.app, F.assoc, ← F.assoc (φ x), he, i3, i1]
        · rw [c, F.app, F.assoc, xe]
        · rw [d, F.app, ← F.assoc, ey]
  obtain ⟨n, hn, hi⟩ := F.pow x
  obtain ⟨p1, p2, p3⟩ := pw n hn
  -- the power is e
  have pe : φ (rep x n) = e := by
    have q : φ (rep x n) * φ (rep x n) * φ (rep y n) = φ (rep x n) * φ (rep y n) := by rw [hi]
    rw [F.assoc, p1, p2] at q
    exact q
  by_cases h1 : n = 1
  · subst h1
    have e1 : rep x 1 = x := List.append_nil x
    rw [e1] at pe
    rw [pe, ye]
    have : φ y = e := by rw [← ey, ← pe, he, pe]
    exact this
  · obtain ⟨k, rfl⟩ : ∃ k, n = k + 1 := ⟨n - 1, by omega⟩
    have c : rep x (k + 1) = rep x k ++ x := by rw [rep_add x k 1, show rep x 1 = x from List.append_nil x]
    -- y is x's (k)-th power
    have yk : φ y = φ (rep x k) * e := by
      have q : φ (rep x k ++ x) * φ y = e * φ y := by rw [← c, pe]
      rw [F.app, F.assoc, he, ey] at q
      exact q.symm
    rw [yk, F.assoc, ex, ← F.app, ← c, pe]
end

/-! ### the law's looks give the program's -/
section
variable (F : Fin φ) {K : List Nat}
include F
theorem Core.in_ {B : List Nat} {d : α} (h : Core φ B d) {x y : W} (hx : On B x) (hy : On B y) : Core φ B (φ x * d * φ y) := by
  obtain ⟨⟨w, hw, ew⟩, hs⟩ := h
  refine ⟨⟨x ++ w ++ y, (hx.app hw).app hy, by rw [F.app, F.app, ew]⟩, fun s os => ?_⟩
  obtain ⟨u, v, hu, hv, e⟩ := hs s os
  refine ⟨x ++ u, v ++ y, hx.app hu, hv.app hy, ?_⟩
  rw [F.app, F.app, ← e]
  simp only [F.assoc]
/-- a steady one that is e m e, e in the core and steady, is e -/
theorem core_one {B : List Nat} {e : α} (h : Core φ B e) (ee : Idem e) {g : W} (hg : On B g) (gg : Idem (φ g)) (eg : e * φ g = φ g) (ge : φ g * e = φ g) : φ g = e := by
  obtain ⟨⟨w, hw, ew⟩, hs⟩ := h
  obtain ⟨u, v, hu, hv, q⟩ := hs g hg
  -- e = (e u e) g (e v e)
  have q2 : φ (w ++ u ++ w) * (φ g * φ (w ++ v ++ w)) = e := by
    have t : e * (φ u * φ g * φ v) * e = e := by rw [q, ee, ee]
    have s1 : φ (w ++ u ++ w) * (φ g * φ (w ++ v ++ w)) = e * (φ u * (e * φ g * e) * φ v) * e := by
      simp only [F.app, ew, F.assoc]
    rw [s1, eg, ge, t]
  have we : e * φ (w ++ u ++ w) = φ (w ++ u ++ w) := by simp only [F.app, ew, F.assoc]; rw [← F.assoc e e, ee]
  have we2 : φ (w ++ u ++ w) * e = φ (w ++ u ++ w) := by simp only [F.app, ew, F.assoc]; rw [ee]
  have ve2 : φ (g ++ (w ++ v ++ w)) * e = φ (g ++ (w ++ v ++ w)) := by simp only [F.app, ew, F.assoc]; rw [ee]
  have ve : e * φ (g ++ (w ++ v ++ w)) = φ (g ++ (w ++ v ++ w)) := by rw [F.app, ← F.assoc, eg]
  have z := unit_swap F (x := w ++ u ++ w) (y := g ++ (w ++ v ++ w)) (e := e) (by rw [F.app g]; exact q2) we2 we ve2 ve ee
  -- g * (..) = e, so g = g e = g g .. = e
  have z2 : φ g * (φ (w ++ v ++ w) * φ (w ++ u ++ w)) = e := by rw [← z, F.app g, F.assoc]
  calc φ g = φ g * e := ge.symm
    _ = φ g * (φ g * (φ (w ++ v ++ w) * φ (w ++ u ++ w))) := by rw [z2]
    _ = e := by rw [← F.assoc, gg, z2]
/-- in the core e M e is a group: some power of e x e is e -/
theorem core_pow {B : List Nat} {w : W} (h : Core φ B (φ w)) (ow : On B w) (ee : Idem (φ w)) {x : W} (hx : On B x) : ∃ n, 1 ≤ n ∧ φ (rep (w ++ x ++ w) n) = φ w := by
  obtain ⟨n, hn, hi⟩ := F.pow (w ++ x ++ w)
  refine ⟨n, hn, core_one F h ee (((ow.app hx).app ow).rep n) hi ?_ ?_⟩
  · obtain ⟨k, rfl⟩ : ∃ k, n = k + 1 := ⟨n - 1, by omega⟩
    show φ w * φ ((w ++ x ++ w) ++ rep _ k) = φ ((w ++ x ++ w) ++ rep _ k)
    simp only [F.app, F.assoc]
    rw [← F.assoc (φ w) (φ w), ee]
  · obtain ⟨k, rfl⟩ : ∃ k, n = k + 1 := ⟨n - 1, by omega⟩
    rw [rep_add _ k 1, show rep (w ++ x ++ w) 1 = w ++ x ++ w from List.append_nil _]
    simp only [F.app, F.assoc]
    rw [ee]
/-- the heart: in the core, e f e is e -/
theorem core_efe {B : List Nat} (hB : ∀ a ∈ B, a ∈ K) (D : DO φ K) {w z : W} (hw : Core φ B (φ w)) (ow : On B w) (ew : Idem (φ w)) (oz : On B z) (ez : Idem (φ z)) : φ w * φ z * φ w = φ w := by
  obtain ⟨n, hn, hp⟩ := core_pow F hw ow ew oz
  obtain ⟨k, rfl⟩ : ∃ k, n = k + 1 := ⟨n - 1, by omega⟩
  -- x = w z, y = z w (w z w)^k; x y = (w z w)^(k+1) = w
  let p := rep (w ++ z ++ w) k
  have op : On B p := ((ow.app oz).app ow).rep k
  have xy : φ ((w ++ z) ++ (z ++ w ++ p)) = φ w := by
    rw [← hp]
    show _ = φ ((w ++ z ++ w) ++ p)
    simp only [F.app, F.assoc]
    rw [← F.assoc (φ z) (φ z), ez]
  obtain ⟨n, hn, hi⟩ := F.pow ((z ++ w ++ p) ++ (w ++ z))
  have onK : ∀ {u : W}, On B u → On K u := fun h a m => hB a (h a m)
  have e1 : φ (rep ((w ++ z) ++ (z ++ w ++ p)) 1) = φ w := by
    rw [show rep ((w ++ z) ++ (z ++ w ++ p)) 1 = (w ++ z) ++ (z ++ w ++ p) from List.append_nil _, xy]
  have d := D (w ++ z) (z ++ w ++ p) 1 n (onK (ow.app oz)) (onK ((oz.app ow).app op)) (by omega) hn (by rw [e1]; exact ew) hi
  rw [e1] at d
  -- the steady power of y x: f' = y x as it is steady already
  have yx : φ ((z ++ w ++ p) ++ (w ++ z)) * φ ((z ++ w ++ p) ++ (w ++ z)) = φ ((z ++ w ++ p) ++ (w ++ z)) := by
    have a : φ ((z ++ w ++ p) ++ (w ++ z)) * φ ((z ++ w ++ p) ++ (w ++ z)) = φ (z ++ w ++ p) * φ ((w ++ z) ++ (z ++ w ++ p)) * φ (w ++ z) := by
      simp only [F.app, F.assoc]
    rw [a, xy]
    simp only [F.app, F.assoc]
    rw [← F.assoc (φ w) (φ w), ew]
  rw [idem_rep F yx n hn] at d
  -- w z w p w z w = w: (wzw) p (wzw) ; with (wzw)^(k+1) = w
  have c : φ w * φ ((z ++ w ++ p) ++ (w ++ z)) * φ w = φ (rep (w ++ z ++ w) (k + 1)) * (φ w * φ z * φ w) := by
    show _ = φ ((w ++ z ++ w) ++ p) * _
    simp only [F.app, F.assoc]
  rw [c, hp] at d
  have q : φ w * (φ w * φ z * φ w) = φ w * φ z * φ w := by
    rw [← F.assoc, ← F.assoc, ew]
  rw [q] at d
  exact d

theorem fall_all {B : List Nat} (hB : ∀ a ∈ B, a ∈ K) (D : DO φ K) {w : W} (hw : Full B w) (ew : Idem (φ w)) {u v : W} (huv : w = u ++ v) : φ w * (φ w * φ u) * (φ w * φ u) * (φ v * φ w) * (φ v * φ w) * φ w = φ w := by
  have onK : ∀ {u : W}, On B u → On K u := fun h a m => hB a (h a m)
  have ou : On B u := (huv ▸ hw.1 : On B (u ++ v)).left
  have ov : On B v := (huv ▸ hw.1 : On B (u ++ v)).right
  have euv : φ u * φ v = φ w := by rw [← F.app, huv]
  have ew' : φ w * φ w = φ w := ew
  obtain ⟨n, hn, hi⟩ := F.pow (v ++ u)
  have e1 : φ (rep (u ++ v) 1) = φ w := by rw [show rep (u ++ v) 1 = u ++ v from List.append_nil _, huv]
  have d := D u v 1 n (onK ou) (onK ov) (by omega) hn (by rw [e1]; exact ew) hi
  rw [e1] at d
  -- (v u)^n, for n from 2 on, is v w u; and v w u is steady
  have vwu : ∀ m, 2 ≤ m → φ (rep (v ++ u) m) = φ v * φ w * φ u := by
    intro m
    induction m with
    | zero => intro h; omega
    | succ m ih =>
      intro h
      show φ ((v ++ u) ++ rep (v ++ u) m) = _
      by_cases h1 : m = 1
      · subst h1
        rw [show rep (v ++ u) 1 = v ++ u from List.append_nil _]
        simp only [F.app, F.assoc]
        rw [← F.assoc (φ u), euv]
      · rw [F.app, ih (by omega), F.app]
        have : φ v * φ u * (φ v * φ w * φ u) = φ v * ((φ u * φ v) * φ w) * φ u := by simp only [F.assoc]
        rw [this, euv, ew']
  have f1 : φ (rep (v ++ u) n) = φ v * φ w * φ u := by
    have a := idem_rep F hi 2 (by omega)
    rw [rep_mul] at a
    rw [← a, vwu (n * 2) (by omega)]
  rw [f1] at d
  -- d : w (v w u) w = w; so (w v w)(w u w) = w; swapped: (w u w)(w v w) = w
  have s1 : φ (w ++ v ++ w) * φ (w ++ u ++ w) = φ w := by
    rw [← d]
    simp only [F.app, F.assoc]
    rw [← F.assoc (φ w) (φ w), ew']
  have l1 : ∀ t, φ w * φ (w ++ t ++ w) = φ (w ++ t ++ w) := fun t => by
    simp only [F.app, F.assoc]; rw [← F.assoc (φ w) (φ w), ew']
  have l2 : ∀ t, φ (w ++ t ++ w) * φ w = φ (w ++ t ++ w) := fun t => by
    simp only [F.app, F.assoc]; rw [ew']
  have s2 := unit_swap F (x := w ++ v ++ w) (y := w ++ u ++ w) (e := φ w) s1 (l2 v) (l1 v) (l2 u) (l1 u) ew
  have g : φ w * (φ w * φ u) * (φ w * φ u) * (φ v * φ w) * (φ v * φ w) * φ w = φ w * (φ w * φ u) * (φ w * (φ u * φ v) * φ w) * φ v * (φ w * φ w) := by
    simp only [F.assoc]
  have g2 : φ w * (φ w * φ u) * φ w * φ v * φ w = φ w := by
    have a : φ w * (φ w * φ u) * φ w * φ v * φ w = φ w * φ w * φ u * (φ w * φ w) * φ v * φ w := by
      rw [ew']; simp only [F.assoc]; rw [← F.assoc (φ w) (φ w), ew']
    have b : φ (w ++ u ++ w) * φ (w ++ v ++ w) = φ w * φ u * (φ w * φ w) * φ v * φ w := by simp only [F.app, F.assoc]
    rw [b] at s2
    have c : φ w * φ w * φ u * (φ w * φ w) * φ v * φ w = φ w * φ u * (φ w * φ w) * φ v * φ w := by rw [ew']
    rw [a]
    exact c.trans s2
  rw [g, euv, ew', ew']
  exact g2
theorem noFall_of {B : List Nat} (hB : ∀ a ∈ B, a ∈ K) (D : DO φ K) : NoFall φ B := fun w hw ew _ => ⟨w, hw, rfl, fun _ _ huv _ => fall_all F hB D hw ew huv⟩
theorem noEnds_of {B : List Nat} (hB : ∀ a ∈ B, a ∈ K) (D : DO φ K) : NoEnds φ B := by
  intro e f ce ee cf ef
  obtain ⟨w, ow, rfl⟩ := ce.1
  obtain ⟨z, oz, rfl⟩ := cf.1
  have h := core_efe F hB D ce ow ee oz ef
  show φ w * φ z * (φ w * φ z) = φ w * φ z
  rw [← F.assoc, h]
theorem sums_at {B : List Nat} (hB : ∀ a ∈ B, a ∈ K) (A : AB φ K) {e : α} (ce : Core φ B e) (ee : Idem e) {x y : W} (ox : On B x) (oy : On B y) : e * φ x * e * (e * φ y * e) = e * φ y * e * (e * φ x * e) := by
  obtain ⟨w, ow, rfl⟩ := ce.1
  have ew' : φ w * φ w = φ w := ee
  have onK : ∀ {u : W}, On B u → On K u := fun h a m => hB a (h a m)
  obtain ⟨m, hm, em⟩ := core_pow F ce ow ee ox
  obtain ⟨n, hn, en⟩ := core_pow F ce ow ee oy
  have l1 : ∀ t, φ w * φ (w ++ t ++ w) = φ (w ++ t ++ w) := fun t => by
    simp only [F.app, F.assoc]; rw [← F.assoc (φ w) (φ w), ew']
  have l2 : ∀ t, φ (w ++ t ++ w) * φ w = φ (w ++ t ++ w) := fun t => by
    simp only [F.app, F.assoc]; rw [ew']
  have z := A (w ++ x ++ w) (w ++ y ++ w) m n (onK ((ow.app ox).app ow)) (onK ((ow.app oy).app ow)) hm hn (by rw [em]; exact ee) (by rw [em, en]) (by rw [em]; exact l2 x) (by rw [em]; exact l1 x) (by rw [em]; exact l2 y) (by rw [em]; exact l1 y)
  have c : ∀ t, φ (w ++ t ++ w) = φ w * φ t * φ w := fun t => by rw [F.app, F.app]
  rw [c, c] at z
  exact z
theorem noSums_of {B : List Nat} (hB : ∀ a ∈ B, a ∈ K) (A : AB φ K) {e : α} (ce : Core φ B e) (ee : Idem e) : NoSums φ B := ⟨e, ce, ee, fun _ _ ox oy => sums_at F hB A ce ee ox oy⟩
end

/-! ### the program's looks give the law's -/
section
variable (F : Fin φ)
include F
/-- without a falling block every steady full deed lies in the core -/
theorem full_core {B : List Nat} (N : NoFall φ B) {w : W} (hw : Full B w) (ew : Idem (φ w)) : Core φ B (φ w) := by
  refine Classical.byContradiction fun nc => ?_
  have ew' : φ w * φ w = φ w := ew
  -- whatever comes behind, one gets back
  have back : ∀ m : W, On B m → ∃ n, On B n ∧ φ w * φ m * φ n = φ w := by
    intro m
    -- by the letters, from the end
    have gen : ∀ (k : Nat) (m : W), m.length = k → On B m → ∃ n, On B n ∧ φ w * φ m * φ n = φ w := by
      intro k
      induction k with
      | zero =>
        intro m hm _
        have e : m = [] := List.length_eq_zero_iff.mp hm
        subst e
        exact ⟨[], On.nil, by rw [nil_r F, nil_r F]⟩
      | succ k ih =>
        intro m hm om
        obtain ⟨m1, b, rfl⟩ : ∃ m1 b, m = m1 ++ [b] := by
          refine ⟨m.dropLast, m.getLast (by intro q; rw [q] at hm; cases hm), ?_⟩
          rw [List.dropLast_concat_getLast]
        obtain ⟨n, on, q⟩ := ih m1 (by simpa using hm) om.left
        have ob : b ∈ B := om.right b (by simp)
        -- f = n w m1, steady, full, not in the core
        have fw : Full B (n ++ w ++ m1) := hw.app on om.left
        have ff : Idem (φ (n ++ w ++ m1)) := by
          show φ (n ++ w ++ m1) * φ (n ++ w ++ m1) = _
          have a : φ (n ++ w ++ m1) * φ (n ++ w ++ m1) = φ n * (φ w * φ m1 * φ n) * φ w * φ m1 := by simp only [F.app, F.assoc]
          rw [a, q]
          simp only [F.app, F.assoc]
          rw [← F.assoc (φ w) (φ w), ew']
        have nf : ¬ Core φ B (φ (n ++ w ++ m1)) := fun c => by
          have c2 := c.in_ F (x := w ++ m1) (y := n) (hw.1.app om.left) on
          have a : φ (w ++ m1) * φ (n ++ w ++ m1) * φ n = φ w * φ m1 * φ n * (φ w * φ m1 * φ n) := by simp only [F.app, F.assoc]
          rw [a, q, ew'] at c2
          exact nc c2
        obtain ⟨f, hf, ef, cut⟩ := N _ fw ff nf
        obtain ⟨u, v, huv⟩ := List.append_of_mem (hf.2 b ob)
        have c := cut u (b :: v) huv (by simp)
        have ou : On B u := (huv ▸ hf.1 : On B (u ++ b :: v)).left
        have ov : On B v := fun a m => (huv ▸ hf.1 : On B (u ++ b :: v)).right a (List.mem_cons_of_mem _ m)
        -- f u f (b v) f = f, with f = the deed; so (f b v f)(f u f) = f
        generalize hfd : n ++ w ++ m1 = z at *
        have zz : φ z * φ z = φ z := ff
        have uv : φ u * φ (b :: v) = φ z := by rw [← F.app, ← huv, ef]
        have c2 : φ (z ++ u ++ z) * φ (z ++ (b :: v) ++ z) = φ z := by
          have g : φ z * (φ z * φ u) * (φ z * φ u) * (φ (b :: v) * φ z) * (φ (b :: v) * φ z) * φ z = φ z * (φ z * φ u) * (φ z * (φ u * φ (b :: v)) * φ z) * φ (b :: v) * (φ z * φ z) := by
            simp only [F.assoc]
          rw [g, uv, zz, zz] at c
          have d1 : φ (z ++ u ++ z) * φ (z ++ (b :: v) ++ z) = φ z * φ u * (φ z * φ z) * φ (b :: v) * φ z := by simp only [F.app, F.assoc]
          have d2 : φ z * (φ z * φ u) * φ z * φ (b :: v) * φ z = φ z * φ u * φ z * φ (b :: v) * φ z := by rw [← F.assoc (φ z) (φ z), zz]
          rw [d1, zz, ← d2]
          exact c
        have l1 : ∀ t, φ z * φ (z ++ t ++ z) = φ (z ++ t ++ z) := fun t => by
          simp only [F.app, F.assoc]; rw [← F.assoc (φ z) (φ z), zz]
        have l2 : ∀ t, φ (z ++ t ++ z) * φ z = φ (z ++ t ++ z) := fun t => by
          simp only [F.app, F.assoc]; rw [zz]
        have s := unit_swap F (x := z ++ u ++ z) (y := z ++ (b :: v) ++ z) (e := φ z) c2 (l2 _) (l1 _) (l2 _) (l1 _) ff
        -- so z b p = z with p = v z z u z
        have oz : On B z := fw.1
        refine ⟨v ++ z ++ z ++ u ++ z ++ n, (((((ov.app oz).app oz).app ou).app oz).app on), ?_⟩
        have zb : φ z * (φ [b] * φ (v ++ z ++ z ++ u ++ z)) = φ z := by
          have e4 : φ z * (φ [b] * φ (v ++ z ++ z ++ u ++ z)) = φ (z ++ (b :: v) ++ z) * φ (z ++ u ++ z) := by
            rw [← F.app, ← F.app, ← F.app]
            congr 1
            simp [List.append_assoc]
          rw [e4, s]
        -- w m1 b p n = w m1 z b p n, as w m1 z = w m1 n w m1 = w m1
        have wz : φ w * φ m1 * φ z = φ w * φ m1 := by
          rw [← hfd]
          have a : φ w * φ m1 * φ (n ++ w ++ m1) = φ w * φ m1 * φ n * φ w * φ m1 := by simp only [F.app, F.assoc]
          rw [a, q, ew']
        have e3 : φ w * φ (m1 ++ [b]) * φ (v ++ z ++ z ++ u ++ z ++ n) = φ w * φ m1 * (φ [b] * φ (v ++ z ++ z ++ u ++ z)) * φ n := by
          rw [F.app m1 [b], F.app (v ++ z ++ z ++ u ++ z) n]
          simp only [F.assoc]
        rw [e3, ← wz, F.assoc (φ w * φ m1) (φ z), zb, wz, q]
    exact gen m.length m rfl
  refine nc ⟨⟨w, hw.1, rfl⟩, fun s os => ?_⟩
  obtain ⟨n, on, q⟩ := back s os
  exact ⟨w, n, hw.1, on, q⟩
/-- the letters of a word -/
theorem full_self (w : W) : Full w w := ⟨fun _ m => m, fun _ m => m⟩
theorem do_ab_of {K : List Nat} (lots : List (List Nat)) (hl : ∀ w : W, w ≠ [] → On K w → ∃ B ∈ lots, (∀ a, a ∈ B ↔ a ∈ w))
    (N : ∀ B ∈ lots, NoFall φ B ∧ NoEnds φ B ∧ NoSums φ B) : DO φ K ∧ AB φ K := by
  have efe : ∀ {B : List Nat} {e f : α}, B ∈ lots → Core φ B e → Idem e → Core φ B f → Idem f → e * f * e = e := by
    intro B e f hB ce ee cf ff
    obtain ⟨w, ow, rfl⟩ := ce.1
    obtain ⟨z, oz, rfl⟩ := cf.1
    have i := (N B hB).2.1 _ _ ce ee cf ff
    have i' : φ w * φ z * (φ w * φ z) = φ w * φ z := i
    have ew' : φ w * φ w = φ w := ee
    have g := core_one F ce ee (g := w ++ z ++ w) ((ow.app oz).app ow) (by
      show φ (w ++ z ++ w) * φ (w ++ z ++ w) = _
      have a : φ (w ++ z ++ w) * φ (w ++ z ++ w) = φ w * φ z * (φ w * φ w) * φ z * φ w := by simp only [F.app, F.assoc]
      rw [a, ew']
      have b : φ w * φ z * φ w * φ z * φ w = φ w * φ z * (φ w * φ z) * φ w := by simp only [F.assoc]
      rw [b, i', F.app, F.app]) (by
      simp only [F.app, F.assoc]; rw [← F.assoc (φ w) (φ w), ew']) (by
      simp only [F.app, F.assoc]; rw [ew'])
    rw [F.app, F.app] at g
    exact g
  constructor
  · intro x y m n ox oy hm hn im inn
    by_cases h0 : x ++ y = []
    · obtain ⟨hx, hy⟩ := List.append_eq_nil_iff.mp h0
      subst hx hy
      have r : ∀ k, rep ([] : W) k = [] := fun k => by
        induction k with
        | zero => rfl
        | succ k ih => show [] ++ rep [] k = _; rw [ih]; rfl
      show φ (rep [] m) * φ (rep [] n) * φ (rep [] m) = φ (rep [] m)
      rw [r, r, nil_l F, nil_l F]
    · obtain ⟨B, hB, hm'⟩ := hl (x ++ y) h0 (ox.app oy)
      have oxB : On B x := fun a q => (hm' a).mpr (List.mem_append_left _ q)
      have oyB : On B y := fun a q => (hm' a).mpr (List.mem_append_right _ q)
      have f1 : Full B (x ++ y) := ⟨oxB.app oyB, fun a q => (hm' a).mp q⟩
      have f2 : Full B (y ++ x) := ⟨oyB.app oxB, fun a q => by
        rcases List.mem_append.mp ((hm' a).mp q) with z | z
        · exact List.mem_append_right _ z
        · exact List.mem_append_left _ z⟩
      have fr : ∀ {w : W} {k : Nat}, Full B w → 1 ≤ k → Full B (rep w k) := fun {w k} f h => by
        refine ⟨f.1.rep k, fun a q => ?_⟩
        obtain ⟨j, rfl⟩ : ∃ j, k = j + 1 := ⟨k - 1, by omega⟩
        exact List.mem_append_left _ (f.2 a q)
      exact efe hB (full_core F (N B hB).1 (fr f1 hm) im) im (full_core F (N B hB).1 (fr f2 hn) inn) inn
  · intro x y m n ox oy hm hn im e1 hx1 hx2 hy1 hy2
    by_cases h0 : x ++ y = []
    · obtain ⟨hx, hy⟩ := List.append_eq_nil_iff.mp h0
      subst hx hy
      rfl
    · obtain ⟨B, hB, hm'⟩ := hl (x ++ y) h0 (ox.app oy)
      have oxB : On B x := fun a q => (hm' a).mpr (List.mem_append_left _ q)
      have oyB : On B y := fun a q => (hm' a).mpr (List.mem_append_right _ q)
      generalize he : φ (rep x m) = e at *
      have ee : e * e = e := im
      -- e is full: e = x^m y^n
      have fe : Full B (rep x m ++ rep y n) := by
        refine ⟨(oxB.rep m).app (oyB.rep n), fun a q => ?_⟩
        obtain ⟨i, rfl⟩ : ∃ i, m = i + 1 := ⟨m - 1, by omega⟩
        obtain ⟨j, rfl⟩ : ∃ j, n = j + 1 := ⟨n - 1, by omega⟩
        rcases List.mem_append.mp ((hm' a).mp q) with z | z
        · exact List.mem_append_left _ (List.mem_append_left _ z)
        · exact List.mem_append_right _ (List.mem_append_left _ z)
      have ef : φ (rep x m ++ rep y n) = e := by rw [F.app, he, ← e1, ee]
      have ce : Core φ B e := by
        have c := full_core F (N B hB).1 fe (by show φ _ * φ _ = φ _; rw [ef, ee])
        rw [ef] at c
        exact c
      obtain ⟨s, cs, ss, com⟩ := (N B hB).2.2
      have k1 := efe hB ce im cs ss
      have k2 := com x y oxB oyB
      -- multiply by e on both sides
      have g : ∀ u v : W, φ u * e = φ u → e * φ u = φ u → φ v * e = φ v → e * φ v = φ v → e * (s * φ u * s * (s * φ v * s)) * e = φ u * φ v := by
        intro u v u1 u2 v1 v2
        have ss' : s * s = s := ss
        have a : e * (s * φ u * s * (s * φ v * s)) * e = e * s * (e * φ u * e) * (s * s) * (e * φ v * e) * s * e := by
          rw [u2, u1, v2, v1]
          simp only [F.assoc]
        rw [a, ss']
        have b : e * s * (e * φ u * e) * s * (e * φ v * e) * s * e = (e * s * e) * φ u * (e * s * e) * φ v * (e * s * e) := by simp only [F.assoc]
        rw [b, k1, u2, u1, F.assoc, v1]
      have r1 := g x y hx1 hx2 hy1 hy2
      have r2 := g y x hy1 hy2 hx1 hx2
      rw [← r1, ← r2, k2]
end
end
end QA

set_option linter.all false
/-! QMath: tables, runs, deeds, least tables; plain Lean. -/
namespace QM
open QA
def cell (T : List (List Nat)) (q a : Nat) : Nat := (T.getD q []).getD a 0
def run (T : List (List Nat)) (q : Nat) (w : List Nat) : Nat := w.foldl (cell T) q
theorem run_nil (T q) : run T q [] = q := rfl
theorem run_cons (T q a w) : run T q (a :: w) = run T (cell T q a) w := rfl
theorem run_app (T q u v) : run T q (u ++ v) = run T (run T q u) v := by unfold run; rw [List.foldl_append]
/-- a table of k letters -/
structure TOk (T : List (List Nat)) (k : Nat) : Prop where
  pos : 1 ≤ T.length
  row : ∀ r ∈ T, r.length = k ∧ ∀ x ∈ r, x < T.length
theorem TOk.cell {T k q a} (t : TOk T k) (hq : q < T.length) (ha : a < k) : cell T q a < T.length := by
  have hm : T.getD q [] ∈ T := by rw [List.getD_eq_getElem?_getD, List.getElem?_eq_getElem hq]; exact List.getElem_mem hq
  obtain ⟨h1, h2⟩ := t.row _ hm
  unfold QM.cell
  have hlt : a < (T.getD q []).length := by rw [h1]; exact ha
  rw [List.getD_eq_getElem?_getD (l := T.getD q []), List.getElem?_eq_getElem hlt]
  exact h2 _ (List.getElem_mem hlt)
/-- the letters below k -/
abbrev Ok (k : Nat) (w : List Nat) : Prop := ∀ a ∈ w, a < k
theorem Ok.app {k u v} (h : Ok k u) (h' : Ok k v) : Ok k (u ++ v) := fun a m => (List.mem_append.mp m).elim (h a) (h' a)
theorem TOk.run {T k} (t : TOk T k) : ∀ {w q}, q < T.length → Ok k w → run T q w < T.length
  | [], _, h, _ => h
  | a :: w, _, h, ok => TOk.run t (w := w) (t.cell h (ok a (List.mem_cons_self ..))) fun b m => ok b (List.mem_cons_of_mem _ m)
def deed (R : List (List Nat)) (w : List Nat) : List Nat := (List.range R.length).map fun q => run R q w
theorem deed_len (R w) : (deed R w).length = R.length := by simp [deed]
def after (a b : List Nat) : List Nat := a.map fun q => b.getD q 0
theorem deed_get {R w q} (h : q < R.length) : (deed R w).getD q 0 = run R q w := by
  simp [deed, List.getD_eq_getElem?_getD, h]
theorem deed_app {R k} (t : TOk R k) {u : List Nat} (hu : Ok k u) (v : List Nat) : after (deed R u) (deed R v) = deed R (u ++ v) := by
  unfold after
  have : ∀ q ∈ deed R u, (deed R v).getD q 0 = run R q v := fun q hq => by
    obtain ⟨p, hp, rfl⟩ := List.mem_map.mp hq
    exact deed_get (t.run (List.mem_range.mp hp) hu)
  rw [List.map_congr_left this]
  unfold deed
  rw [List.map_map]
  exact List.map_congr_left fun q _ => (run_app R q u v).symm
theorem deed_lt {R k} (t : TOk R k) {u : List Nat} (hu : Ok k u) : ∀ q ∈ deed R u, q < R.length := fun q hq => by
  obtain ⟨p, hp, rfl⟩ := List.mem_map.mp hq
  exact t.run (List.mem_range.mp hp) hu
theorem deed_nil (R) : deed R [] = List.range R.length := by
  unfold deed
  simp only [run_nil, List.map_id']
theorem deed_eq_iff {R u v} : deed R u = deed R v ↔ ∀ q, q < R.length → run R q u = run R q v := by
  constructor
  · intro h q hq
    rw [← deed_get hq, h, deed_get hq]
  · intro h
    exact List.map_congr_left fun q hq => h q (List.mem_range.mp hq)
/-- reached from 0 -/
def Reach (T : List (List Nat)) (k q : Nat) : Prop := ∃ w, Ok k w ∧ run T 0 w = q
theorem Reach.zero {T k} : Reach T k 0 := ⟨[], (fun _ h => by cases h), rfl⟩
theorem Reach.step {T k q a} (h : Reach T k q) (ha : a < k) : Reach T k (cell T q a) := by
  obtain ⟨w, hw, rfl⟩ := h
  exact ⟨w ++ [a], hw.app (by intro b m; rw [List.mem_singleton.mp m]; exact ha), by rw [run_app]; rfl⟩
theorem Reach.run {T k} : ∀ {w q}, Reach T k q → Ok k w → Reach T k (run T q w)
  | [], _, h, _ => h
  | a :: w, _, h, ok => Reach.run (w := w) (h.step (ok a (List.mem_cons_self ..))) fun b m => ok b (List.mem_cons_of_mem _ m)
theorem Reach.lt {T k q} (t : TOk T k) (h : Reach T k q) : q < T.length := by
  obtain ⟨w, hw, rfl⟩ := h
  exact t.run t.pos hw
/-- no word tells the two apart -/
def Alike (T : List (List Nat)) (A : List Nat) (k q q' : Nat) : Prop := ∀ w, Ok k w → (run T q w ∈ A ↔ run T q' w ∈ A)
/-- R is a least table of T, A: cls tells the class of a reached state -/
structure LeastBy (T : List (List Nat)) (A : List Nat) (k : Nat) (R : List (List Nat)) (cls : Nat → Nat) : Prop where
  ok : TOk R k
  zero : cls 0 = 0
  lt : ∀ q, Reach T k q → cls q < R.length
  onto : ∀ c, c < R.length → ∃ q, Reach T k q ∧ cls q = c
  cell : ∀ q a, Reach T k q → a < k → QM.cell R (cls q) a = cls (QM.cell T q a)
  same : ∀ q q', Reach T k q → Reach T k q' → (cls q = cls q' ↔ Alike T A k q q')
def Least (T : List (List Nat)) (A : List Nat) (k : Nat) (R : List (List Nat)) : Prop := ∃ cls, LeastBy T A k R cls
/-- the words that are alike whatever stands ahead and behind -/
def Syn (T : List (List Nat)) (A : List Nat) (k : Nat) (u v : List Nat) : Prop := ∀ p, Ok k p → Alike T A k (run T 0 (p ++ u)) (run T 0 (p ++ v))
theorem LeastBy.run {T A k R cls} (l : LeastBy T A k R cls) : ∀ {w q}, Reach T k q → Ok k w → QM.run R (cls q) w = cls (QM.run T q w)
  | [], _, _, _ => rfl
  | a :: w, q, h, ok => by
    rw [run_cons, run_cons, l.cell q a h (ok a (List.mem_cons_self ..))]
    exact LeastBy.run l (w := w) (h.step (ok a (List.mem_cons_self ..))) fun b m => ok b (List.mem_cons_of_mem _ m)
theorem Least.deed {T A k R} (l : Least T A k R) {u v : List Nat} (hu : Ok k u) (hv : Ok k v) : QM.deed R u = QM.deed R v ↔ Syn T A k u v := by
  obtain ⟨cls, l⟩ := l
  rw [deed_eq_iff]
  constructor
  · intro h p hp
    have hr : Reach T k (QM.run T 0 p) := Reach.run Reach.zero hp
    rw [run_app, run_app]
    refine (l.same _ _ (hr.run hu) (hr.run hv)).mp ?_
    rw [← l.run hr hu, ← l.run hr hv]
    exact h _ (l.lt _ hr)
  · intro h c hc
    obtain ⟨q, hr, rfl⟩ := l.onto c hc
    rw [l.run hr hu, l.run hr hv]
    refine (l.same _ _ (hr.run hu) (hr.run hv)).mpr ?_
    obtain ⟨p, hp, rfl⟩ := hr
    have := h p hp
    rw [run_app, run_app] at this
    exact this
/-- every state of a least table is reached -/
theorem Least.reach {T A k R} (l : Least T A k R) {c : Nat} (hc : c < R.length) : ∃ w, Ok k w ∧ QM.run R 0 w = c := by
  obtain ⟨cls, l⟩ := l
  obtain ⟨q, ⟨w, hw, rfl⟩, rfl⟩ := l.onto c hc
  refine ⟨w, hw, ?_⟩
  rw [← l.run Reach.zero hw, l.zero]
end QM

set_option linter.all false
namespace QM
/-! ### lists without repeats -/
theorem nodup_le {α : Type} [DecidableEq α] : ∀ {l m : List α}, l.Nodup → (∀ x ∈ l, x ∈ m) → l.length ≤ m.length
  | [], _, _, _ => Nat.zero_le _
  | x :: l, m, nd, h => by
    have nd' := List.nodup_cons.mp nd
    have hm : x ∈ m := h x (List.mem_cons_self ..)
    have := nodup_le (l := l) (m := m.erase x) nd'.2 (fun y hy => by
      have : y ≠ x := fun e => nd'.1 (e ▸ hy)
      exact (List.mem_erase_of_ne this).mpr (h y (List.mem_cons_of_mem _ hy)))
    rw [List.length_erase_of_mem hm] at this
    have := List.length_pos_of_mem hm
    rw [List.length_cons]
    omega
/-- a nodup list of numbers below n, n of them at least: all -/
theorem nodup_all {l : List Nat} {n : Nat} (nd : l.Nodup) (lt : ∀ x ∈ l, x < n) (h : n ≤ l.length) : ∀ x, x < n → x ∈ l := by
  intro x hx
  refine Classical.byContradiction fun hn => ?_
  have := nodup_le (l := x :: l) (m := List.range n) (List.nodup_cons.mpr ⟨hn, nd⟩) (fun y hy => by
    rcases List.mem_cons.mp hy with rfl | hy
    · exact List.mem_range.mpr hx
    · exact List.mem_range.mpr (lt y hy))
  simp at this
  omega
/-- the different ones, in order -/
def firsts {α : Type} [DecidableEq α] (l : List α) : List α := l.foldl (fun acc x => if x ∈ acc then acc else acc ++ [x]) []
section
variable {α : Type} [DecidableEq α]
theorem firsts_snoc (l : List α) (x : α) : firsts (l ++ [x]) = if x ∈ firsts l then firsts l else firsts l ++ [x] := by
  unfold firsts
  rw [List.foldl_append]
  rfl
theorem firsts_in {l : List α} {x : α} (h : x ∈ firsts l) : firsts (l ++ [x]) = firsts l := by rw [firsts_snoc, if_pos h]
theorem firsts_out {l : List α} {x : α} (h : x ∉ firsts l) : firsts (l ++ [x]) = firsts l ++ [x] := by rw [firsts_snoc, if_neg h]
theorem snocRec {p : List α → Prop} (h0 : p []) (h1 : ∀ l x, p l → p (l ++ [x])) (l : List α) : p l := by
  have : ∀ l : List α, p l.reverse := by
    intro l
    induction l with
    | nil => exact h0
    | cons a l ih => rw [List.reverse_cons]; exact h1 _ _ ih
  have h := this l.reverse
  rwa [List.reverse_reverse] at h
theorem mem_firsts {l : List α} {x : α} : x ∈ firsts l ↔ x ∈ l := by
  refine snocRec (p := fun l => x ∈ firsts l ↔ x ∈ l) Iff.rfl (fun l y ih => ?_) l
  rw [firsts_snoc]
  split
  · rename_i h
    rw [List.mem_append, ih, List.mem_singleton]
    refine ⟨Or.inl, fun h' => h'.elim id fun e => ?_⟩
    subst e
    exact ih.mp h
  · rw [List.mem_append, ih, List.mem_append]
theorem nodup_firsts (l : List α) : (firsts l).Nodup := by
  refine snocRec (p := fun l => (firsts l).Nodup) List.nodup_nil (fun l y ih => ?_) l
  rw [firsts_snoc]
  split
  · exact ih
  · rename_i h
    rw [List.nodup_append]
    exact ⟨ih, by simp, fun a ha b hb => by rw [List.mem_singleton.mp hb]; exact fun e => h (e ▸ ha)⟩
theorem firsts_pre (l m : List α) : ∃ r, firsts (l ++ m) = firsts l ++ r := by
  refine snocRec (p := fun m => ∃ r, firsts (l ++ m) = firsts l ++ r) ⟨[], by simp⟩ (fun m y ih => ?_) m
  obtain ⟨r, hr⟩ := ih
  rw [← List.append_assoc, firsts_snoc]
  split
  · exact ⟨r, hr⟩
  · exact ⟨r ++ [y], by rw [hr, List.append_assoc]⟩
theorem idx_get {l : List α} {i : Nat} {x : α} (nd : l.Nodup) (h : l[i]? = some x) : l.idxOf x = i := by
  obtain ⟨hi, e⟩ := List.getElem?_eq_some_iff.mp h
  have hm : x ∈ l := e ▸ List.getElem_mem hi
  have h1 := List.idxOf_lt_length_of_mem hm
  exact (List.getElem_inj (h₀ := h1) (h₁ := hi) nd).mp ((List.getElem_idxOf h1).trans e.symm)
theorem get_idx {l : List α} {x : α} (h : x ∈ l) : l[l.idxOf x]? = some x := by
  have h1 := List.idxOf_lt_length_of_mem h
  rw [List.getElem?_eq_getElem h1, List.getElem_idxOf h1]
theorem idx_inj {l : List α} {x y : α} (hx : x ∈ l) (h : l.idxOf x = l.idxOf y) (hy : y ∈ l) : x = y := by
  have h1 := get_idx hx
  rw [h, get_idx hy] at h1
  exact (Option.some.inj h1).symm
theorem idx_app {l m : List α} {x : α} (h : x ∈ l) : (l ++ m).idxOf x = l.idxOf x := by
  rw [List.idxOf_append, if_pos h]
end
def ixOf {α : Type} [DecidableEq α] (l : List α) (x : α) : Nat := l.idxOf x
theorem ix_lt {α : Type} [DecidableEq α] {l : List α} {x : α} (h : x ∈ l) : ixOf l x < l.length := List.idxOf_lt_length_of_mem h
theorem ix_self {α : Type} [DecidableEq α] {l : List α} {x : α} : ixOf (x :: l) x = 0 := List.idxOf_cons_self
theorem ix_ne {α : Type} [DecidableEq α] {l : List α} {x y : α} (h : ¬ y = x) : ixOf (y :: l) x = ixOf l x + 1 := by
  unfold ixOf
  rw [List.idxOf_cons, show (y == x) = false by simpa using h]
  rfl
/-- the number of a state by its key -/
def num {α β : Type} [DecidableEq β] (ss : List α) (f : α → β) (q : α) : Nat := (firsts (ss.map f)).idxOf (f q)
section
variable {α β : Type} [DecidableEq β] {ss : List α} {f : α → β}
theorem num_lt {q : α} (h : q ∈ ss) : num ss f q < (firsts (ss.map f)).length := List.idxOf_lt_length_of_mem (mem_firsts.mpr (List.mem_map.mpr ⟨q, h, rfl⟩))
theorem num_iff {q q' : α} (h : q ∈ ss) (h' : q' ∈ ss) : num ss f q = num ss f q' ↔ f q = f q' :=
  ⟨fun e => idx_inj (mem_firsts.mpr (List.mem_map.mpr ⟨q, h, rfl⟩)) e (mem_firsts.mpr (List.mem_map.mpr ⟨q', h', rfl⟩)), fun e => by unfold num; rw [e]⟩
theorem num_onto {i : Nat} (h : i < (firsts (ss.map f)).length) : ∃ q ∈ ss, num ss f q = i := by
  have hm : (firsts (ss.map f))[i] ∈ firsts (ss.map f) := List.getElem_mem h
  obtain ⟨q, hq, e⟩ := List.mem_map.mp (mem_firsts.mp hm)
  exact ⟨q, hq, idx_get (nodup_firsts _) (by rw [e, List.getElem?_eq_getElem h])⟩
theorem num_head {q : α} (h : ss[0]? = some q) : num ss f q = 0 := by
  cases ss with
  | nil => cases h
  | cons a t =>
    cases h
    obtain ⟨r, hr⟩ := firsts_pre [f q] (t.map f)
    unfold num
    rw [List.map_cons]
    show (firsts ([f q] ++ t.map f)).idxOf (f q) = 0
    rw [hr]
    show ([f q] ++ r).idxOf (f q) = 0
    simp
end
/-! ### classes refined -/
structure Part (T : List (List Nat)) (A : List Nat) (k : Nat) (ss : List Nat) (c : Nat → Nat) (n : Nat) : Prop where
  lt : ∀ q ∈ ss, c q < n
  onto : ∀ i, i < n → ∃ q ∈ ss, c q = i
  zero : c 0 = 0
  coarse : ∀ q ∈ ss, ∀ q' ∈ ss, Alike T A k q q' → c q = c q'
  acc : ∀ q ∈ ss, ∀ q' ∈ ss, c q = c q' → (q ∈ A ↔ q' ∈ A)
/-- the states: reached, 0 first -/
structure Sts (T : List (List Nat)) (k : Nat) (ss : List Nat) : Prop where
  nd : ss.Nodup
  zero : ss[0]? = some 0
  mem : ∀ q, q ∈ ss ↔ Reach T k q
def Stable (T : List (List Nat)) (k : Nat) (ss : List Nat) (c : Nat → Nat) : Prop := ∀ q ∈ ss, ∀ q' ∈ ss, c q = c q' → ∀ a, a < k → c (cell T q a) = c (cell T q' a)
def keyOf (T : List (List Nat)) (c : Nat → Nat) (q : Nat) : List Nat := c q :: (T.getD q []).map c
section
variable {T : List (List Nat)} {A : List Nat} {k : Nat} {ss : List Nat} {c : Nat → Nat} {n : Nat}
theorem Alike.cell {q q' a : Nat} (h : Alike T A k q q') (ha : a < k) : Alike T A k (cell T q a) (cell T q' a) := fun w hw => h (a :: w) fun b m => (List.mem_cons.mp m).elim (fun e => e ▸ ha) (hw b)
theorem key_iff (t : TOk T k) {q q' : Nat} (hq : q < T.length) (hq' : q' < T.length) : keyOf T c q = keyOf T c q' ↔ c q = c q' ∧ ∀ a, a < k → c (cell T q a) = c (cell T q' a) := by
  have hm : ∀ {q}, q < T.length → (T.getD q []).length = k := fun {q} h => by
    have : T.getD q [] ∈ T := by rw [List.getD_eq_getElem?_getD, List.getElem?_eq_getElem h]; exact List.getElem_mem h
    exact (t.row _ this).1
  unfold keyOf
  rw [List.cons.injEq]
  refine and_congr Iff.rfl ⟨fun e a ha => ?_, fun e => ?_⟩
  · have := congrArg (fun l => l[a]?) e
    simp only [List.getElem?_map] at this
    have h1 : a < (T.getD q []).length := by rw [hm hq]; exact ha
    have h2 : a < (T.getD q' []).length := by rw [hm hq']; exact ha
    rw [List.getElem?_eq_getElem h1, List.getElem?_eq_getElem h2] at this
    unfold QM.cell
    rw [List.getD_eq_getElem?_getD (l := T.getD q []), List.getD_eq_getElem?_getD (l := T.getD q' []), List.getElem?_eq_getElem h1, List.getElem?_eq_getElem h2]
    exact Option.some.inj this
  · apply List.ext_getElem
    · rw [List.length_map, List.length_map, hm hq, hm hq']
    · intro i h1 h2
      rw [List.length_map] at h1 h2
      have := e i (by rw [hm hq] at h1; exact h1)
      unfold QM.cell at this
      rw [List.getD_eq_getElem?_getD (l := T.getD q []), List.getD_eq_getElem?_getD (l := T.getD q' []), List.getElem?_eq_getElem h1, List.getElem?_eq_getElem h2] at this
      rw [List.getElem_map, List.getElem_map]
      exact this
theorem part_first (S : Sts T k ss) {β : Type} [DecidableEq β] {f : Nat → β} (h1 : ∀ q ∈ ss, ∀ q' ∈ ss, Alike T A k q q' → f q = f q') (h2 : ∀ q ∈ ss, ∀ q' ∈ ss, f q = f q' → (q ∈ A ↔ q' ∈ A)) :
    Part T A k ss (num ss f) (firsts (ss.map f)).length :=
  ⟨fun q h => num_lt h, fun i h => num_onto h, num_head S.zero, fun q h q' h' e => (num_iff h h').mpr (h1 q h q' h' e), fun q h q' h' e => h2 q h q' h' ((num_iff h h').mp e)⟩
/-- one turn -/
theorem part_next (t : TOk T k) (S : Sts T k ss) (h1 : ∀ q ∈ ss, ∀ q' ∈ ss, Alike T A k q q' → c q = c q') (h2 : ∀ q ∈ ss, ∀ q' ∈ ss, c q = c q' → (q ∈ A ↔ q' ∈ A)) :
    Part T A k ss (num ss (keyOf T c)) (firsts (ss.map (keyOf T c))).length := by
  have lt : ∀ q ∈ ss, q < T.length := fun q h => ((S.mem q).mp h).lt t
  refine part_first S (fun q h q' h' e => (key_iff t (lt q h) (lt q' h')).mpr ⟨h1 q h q' h' e, fun a ha => h1 _ ((S.mem _).mpr (((S.mem q).mp h).step ha)) _ ((S.mem _).mpr (((S.mem q').mp h').step ha)) (e.cell ha)⟩) fun q h q' h' e => h2 q h q' h' ((key_iff t (lt q h) (lt q' h')).mp e).1
/-- finer never means fewer; as many: the same -/
theorem part_grow (t : TOk T k) (S : Sts T k ss) (p : Part T A k ss c n) : n ≤ (firsts (ss.map (keyOf T c))).length ∧ ((firsts (ss.map (keyOf T c))).length ≤ n → Stable T k ss (num ss (keyOf T c))) := by
  have lt : ∀ q ∈ ss, q < T.length := fun q h => ((S.mem q).mp h).lt t
  let f := firsts (ss.map (keyOf T c))
  have hd : ∀ l ∈ f, ∃ q ∈ ss, l = keyOf T c q := fun l hl => by
    obtain ⟨q, hq, e⟩ := List.mem_map.mp (mem_firsts.mp hl)
    exact ⟨q, hq, e.symm⟩
  have sub : ∀ i ∈ List.range n, i ∈ f.map fun l => l.headD 0 := fun i hi => by
    obtain ⟨q, hq, e⟩ := p.onto i (List.mem_range.mp hi)
    exact List.mem_map.mpr ⟨keyOf T c q, mem_firsts.mpr (List.mem_map.mpr ⟨q, hq, rfl⟩), e⟩
  have h1 := nodup_le (List.nodup_range (n := n)) sub
  rw [List.length_range, List.length_map] at h1
  refine ⟨h1, fun hle q hq q' hq' e a ha => ?_⟩
  -- the heads are all different
  have key : c q = c q' → keyOf T c q = keyOf T c q' := fun ec => by
    refine Classical.byContradiction fun ne => ?_
    have m1 : keyOf T c q ∈ f := mem_firsts.mpr (List.mem_map.mpr ⟨q, hq, rfl⟩)
    have m2 : keyOf T c q' ∈ f := mem_firsts.mpr (List.mem_map.mpr ⟨q', hq', rfl⟩)
    have sub2 : ∀ i ∈ List.range n, i ∈ (f.erase (keyOf T c q)).map fun l => l.headD 0 := fun i hi => by
      obtain ⟨p', hp, e'⟩ := p.onto i (List.mem_range.mp hi)
      by_cases h : keyOf T c p' = keyOf T c q
      · refine List.mem_map.mpr ⟨keyOf T c q', (List.mem_erase_of_ne (Ne.symm ne)).mpr m2, ?_⟩
        have : c p' = c q := by
          have := congrArg (fun l => l.headD 0) h
          exact this
        show c q' = i
        rw [← ec, ← this, e']
      · exact List.mem_map.mpr ⟨keyOf T c p', (List.mem_erase_of_ne h).mpr (mem_firsts.mpr (List.mem_map.mpr ⟨p', hp, rfl⟩)), e'⟩
    have h2 := nodup_le (List.nodup_range (n := n)) sub2
    rw [List.length_range, List.length_map, List.length_erase_of_mem m1] at h2
    have := List.length_pos_of_mem m1
    have hle' : f.length ≤ n := hle
    omega
  have e1 := (num_iff hq hq').mp e
  have e2 := ((key_iff t (lt q hq) (lt q' hq')).mp e1).2 a ha
  have r1 : cell T q a ∈ ss := (S.mem _).mpr (((S.mem q).mp hq).step ha)
  have r2 : cell T q' a ∈ ss := (S.mem _).mpr (((S.mem q').mp hq').step ha)
  refine (num_iff r1 r2).mpr ?_
  -- as key, for any two
  refine Classical.byContradiction fun ne => ?_
  have m1 : keyOf T c (cell T q a) ∈ f := mem_firsts.mpr (List.mem_map.mpr ⟨_, r1, rfl⟩)
  have m2 : keyOf T c (cell T q' a) ∈ f := mem_firsts.mpr (List.mem_map.mpr ⟨_, r2, rfl⟩)
  have sub2 : ∀ i ∈ List.range n, i ∈ (f.erase (keyOf T c (cell T q a))).map fun l => l.headD 0 := fun i hi => by
    obtain ⟨p', hp, e'⟩ := p.onto i (List.mem_range.mp hi)
    by_cases h : keyOf T c p' = keyOf T c (cell T q a)
    · refine List.mem_map.mpr ⟨keyOf T c (cell T q' a), (List.mem_erase_of_ne (Ne.symm ne)).mpr m2, ?_⟩
      have : c p' = c (cell T q a) := congrArg (fun l => l.headD 0) h
      show c (cell T q' a) = i
      rw [← e2, ← this, e']
    · exact List.mem_map.mpr ⟨keyOf T c p', (List.mem_erase_of_ne h).mpr (mem_firsts.mpr (List.mem_map.mpr ⟨p', hp, rfl⟩)), e'⟩
  have h2 := nodup_le (List.nodup_range (n := n)) sub2
  rw [List.length_range, List.length_map, List.length_erase_of_mem m1] at h2
  have := List.length_pos_of_mem m1
  have hle' : f.length ≤ n := hle
  omega
/-- as many classes as states -/
theorem part_full (S : Sts T k ss) (p : Part T A k ss c n) (h : ss.length ≤ n) : Stable T k ss c := by
  intro q hq q' hq' e a ha
  have : q = q' := by
    refine Classical.byContradiction fun ne => ?_
    have sub : ∀ i ∈ List.range n, i ∈ (ss.erase q).map c := fun i hi => by
      obtain ⟨p', hp, e'⟩ := p.onto i (List.mem_range.mp hi)
      by_cases h : p' = q
      · exact List.mem_map.mpr ⟨q', (List.mem_erase_of_ne (Ne.symm ne)).mpr hq', by rw [← e, ← h, e']⟩
      · exact List.mem_map.mpr ⟨p', (List.mem_erase_of_ne h).mpr hp, e'⟩
    have h2 := nodup_le (List.nodup_range (n := n)) sub
    rw [List.length_range, List.length_map, List.length_erase_of_mem hq] at h2
    have := List.length_pos_of_mem hq
    omega
  rw [this]
theorem part_alike (S : Sts T k ss) (p : Part T A k ss c n) (st : Stable T k ss c) {q q' : Nat} (hq : q ∈ ss) (hq' : q' ∈ ss) : c q = c q' ↔ Alike T A k q q' := by
  refine ⟨fun e w => ?_, p.coarse q hq q' hq'⟩
  induction w generalizing q q' with
  | nil => exact fun _ => p.acc q hq q' hq' e
  | cons a w ih =>
    intro hw
    have ha := hw a (List.mem_cons_self ..)
    exact ih ((S.mem _).mpr (((S.mem q).mp hq).step ha)) ((S.mem _).mpr (((S.mem q').mp hq').step ha)) (st q hq q' hq' e a ha) fun b m => hw b (List.mem_cons_of_mem _ m)
/-- what the refinement ends with -/
structure Cls (T : List (List Nat)) (A : List Nat) (k : Nat) (ss : List Nat) (c : Nat → Nat) (n : Nat) : Prop where
  lt : ∀ q ∈ ss, c q < n
  onto : ∀ i, i < n → ∃ q ∈ ss, c q = i
  zero : c 0 = 0
  same : ∀ q ∈ ss, ∀ q' ∈ ss, (c q = c q' ↔ Alike T A k q q')
theorem cls_of (S : Sts T k ss) (p : Part T A k ss c n) (st : Stable T k ss c) : Cls T A k ss c n := ⟨p.lt, p.onto, p.zero, fun q hq q' hq' => part_alike S p st hq hq'⟩
/-- the least table: a first state for each class -/
theorem least_of (t : TOk T k) (S : Sts T k ss) (C : Cls T A k ss c n) (o : Nat → Nat) (ho : ∀ i, i < n → o i ∈ ss ∧ c (o i) = i) : Least T A k ((List.range n).map fun i => (T.getD (o i) []).map c) := by
  have hn : 1 ≤ n := by
    have := C.lt 0 ((S.mem 0).mpr Reach.zero)
    omega
  have lt : ∀ q ∈ ss, q < T.length := fun q h => ((S.mem q).mp h).lt t
  have row : ∀ q ∈ ss, (T.getD q []).length = k ∧ ∀ a, a < k → ((T.getD q []).map c).getD a 0 = c (cell T q a) := fun q hq => by
    have hm : T.getD q [] ∈ T := by rw [List.getD_eq_getElem?_getD, List.getElem?_eq_getElem (lt q hq)]; exact List.getElem_mem _
    refine ⟨(t.row _ hm).1, fun a ha => ?_⟩
    have h1 : a < (T.getD q []).length := by rw [(t.row _ hm).1]; exact ha
    unfold QM.cell
    rw [List.getD_eq_getElem?_getD, List.getElem?_map, List.getElem?_eq_getElem h1, List.getD_eq_getElem?_getD (l := T.getD q []), List.getElem?_eq_getElem h1]
    rfl
  refine ⟨c, ⟨by simpa using hn, fun r hr => ?_⟩, C.zero, fun q hq => by simpa using C.lt q ((S.mem q).mpr hq), fun i hi => ?_, fun q a hq ha => ?_, fun q q' hq hq' => C.same q ((S.mem q).mpr hq) q' ((S.mem q').mpr hq')⟩
  · obtain ⟨i, hi, rfl⟩ := List.mem_map.mp hr
    have hi := List.mem_range.mp hi
    obtain ⟨h1, h2⟩ := ho i hi
    refine ⟨by rw [List.length_map]; exact (row _ h1).1, fun x hx => ?_⟩
    obtain ⟨j, hj, e⟩ := List.mem_iff_getElem.mp hx
    rw [List.length_map, (row _ h1).1] at hj
    have := (row _ h1).2 j hj
    rw [List.getD_eq_getElem?_getD, List.getElem?_eq_getElem (by rw [List.length_map, (row _ h1).1]; exact hj)] at this
    simp only [List.length_map, List.length_range]
    rw [← e]
    show _ < n
    have e2 : ((T.getD (o i) []).map c)[j]'(by rw [List.length_map, (row _ h1).1]; exact hj) = c (cell T (o i) j) := this
    rw [e2]
    exact C.lt _ ((S.mem _).mpr (((S.mem _).mp h1).step hj))
  · have hi : i < n := by simpa using hi
    obtain ⟨h1, h2⟩ := ho i hi
    exact ⟨o i, (S.mem _).mp h1, h2⟩
  · have hq' := (S.mem q).mpr hq
    have hlt := C.lt q hq'
    obtain ⟨h1, h2⟩ := ho _ hlt
    have e : ((List.range n).map fun i => (T.getD (o i) []).map c).getD (c q) [] = (T.getD (o (c q)) []).map c := by
      rw [List.getD_eq_getElem?_getD, List.getElem?_map, List.getElem?_range hlt]
      rfl
    show (((List.range n).map fun i => (T.getD (o i) []).map c).getD (c q) []).getD a 0 = _
    rw [e, (row _ h1).2 a ha]
    refine (C.same _ ((S.mem _).mpr (((S.mem _).mp h1).step ha)) _ ((S.mem _).mpr (hq.step ha))).mpr ?_
    exact ((C.same _ h1 _ hq').mp h2).cell ha
end
/-! ### the deeds by number -/
def idx (R : List (List Nat)) (ws : List (List Nat)) (w : List Nat) : Nat := ixOf (ws.map (deed R)) (deed R w)
structure FOk (R : List (List Nat)) (k : Nat) (ws : List (List Nat)) : Prop where
  zero : ws[0]? = some []
  ok : ∀ w ∈ ws, Ok k w
  nd : (ws.map (deed R)).Nodup
  clo : ∀ w ∈ ws, ∀ a, a < k → deed R (w ++ [a]) ∈ ws.map (deed R)
/-- no more than n deeds -/
def Few (R : List (List Nat)) (k n : Nat) : Prop := ∀ ws : List (List Nat), (∀ w ∈ ws, Ok k w) → (ws.map (deed R)).Nodup → ws.length ≤ n
section
variable {R : List (List Nat)} {k : Nat} {ws : List (List Nat)}
theorem deed_cong (t : TOk R k) {u u' v v' : List Nat} (hu : Ok k u) (hu' : Ok k u') (e : deed R u = deed R u') (e' : deed R v = deed R v') : deed R (u ++ v) = deed R (u' ++ v') := by
  rw [← deed_app t hu, ← deed_app t hu', e, e']
theorem FOk.all (F : FOk R k ws) (t : TOk R k) : ∀ w : List Nat, Ok k w → deed R w ∈ ws.map (deed R) := by
  refine snocRec (p := fun w => Ok k w → deed R w ∈ ws.map (deed R)) (fun _ => ?_) fun w a ih hw => ?_
  · exact List.mem_map.mpr ⟨[], List.mem_of_getElem? F.zero, rfl⟩
  · have h1 : Ok k w := fun b m => hw b (List.mem_append_left _ m)
    have h2 : a < k := hw a (by simp)
    obtain ⟨v, hv, e⟩ := List.mem_map.mp (ih h1)
    rw [deed_cong t h1 (F.ok v hv) e.symm rfl]
    exact F.clo v hv a h2
theorem FOk.lt (F : FOk R k ws) (t : TOk R k) {w : List Nat} (h : Ok k w) : idx R ws w < ws.length := by
  have := ix_lt (F.all t w h)
  rw [List.length_map] at this
  exact this
theorem FOk.iff (F : FOk R k ws) (t : TOk R k) {u v : List Nat} (hu : Ok k u) (hv : Ok k v) : idx R ws u = idx R ws v ↔ deed R u = deed R v :=
  ⟨fun e => idx_inj (F.all t u hu) e (F.all t v hv), fun e => by unfold idx; rw [e]⟩
theorem FOk.at (F : FOk R k ws) {i : Nat} {w : List Nat} (h : ws[i]? = some w) : idx R ws w = i := idx_get F.nd (by rw [List.getElem?_map, h]; rfl)
theorem FOk.get (F : FOk R k ws) (t : TOk R k) {w : List Nat} (h : Ok k w) : ∃ v, ws[idx R ws w]? = some v ∧ Ok k v ∧ deed R v = deed R w := by
  have h1 := get_idx (F.all t w h)
  change (ws.map (deed R))[idx R ws w]? = _ at h1
  rw [List.getElem?_map] at h1
  cases e : ws[idx R ws w]? with
  | none => rw [e] at h1; cases h1
  | some v =>
    rw [e] at h1
    exact ⟨v, rfl, F.ok v (List.mem_of_getElem? e), Option.some.inj h1⟩
theorem FOk.app (F : FOk R k ws) (t : TOk R k) {u v u' v' : List Nat} (hu : Ok k u) (hu' : Ok k u') (hv : Ok k v) (hv' : Ok k v') (e : idx R ws u = idx R ws u') (e' : idx R ws v = idx R ws v') : idx R ws (u ++ v) = idx R ws (u' ++ v') :=
  (F.iff t (hu.app hv) (hu'.app hv')).mpr (deed_cong t hu hu' ((F.iff t hu hu').mp e) ((F.iff t hv hv').mp e'))
end
open QA in
/-- a steady power -/
theorem FOk.pow {R : List (List Nat)} {k : Nat} {ws : List (List Nat)} (F : FOk R k ws) (t : TOk R k) {u : List Nat} (h : Ok k u) : ∃ n, 1 ≤ n ∧ deed R (rep u n ++ rep u n) = deed R (rep u n) := by
  have ok : ∀ n, Ok k (rep u n) := fun n => by
    induction n with
    | zero => exact fun _ m => nomatch m
    | succ n ih => exact h.app ih
  let g : Nat → Nat := fun n => idx R ws (rep u (n + 1))
  have hnot : ¬ ((List.range (ws.length + 1)).map g).Nodup := fun nd => by
    have := nodup_le nd (m := List.range ws.length) fun x hx => by
      obtain ⟨n, _, rfl⟩ := List.mem_map.mp hx
      exact List.mem_range.mpr (F.lt t (ok _))
    simp at this
    omega
  have hex : ∃ i j, i < j ∧ g i = g j := by
    refine Classical.byContradiction fun hn => hnot ?_
    rw [List.Nodup, List.pairwise_iff_getElem]
    intro i j hi hj hij e
    simp only [List.getElem_map, List.getElem_range] at e
    exact hn ⟨i, j, hij, e⟩
  obtain ⟨i, j, hij, e⟩ := hex
  have e0 : deed R (rep u (i + 1)) = deed R (rep u (j + 1)) := (F.iff t (ok _) (ok _)).mp e
  let p := j - i
  have step : ∀ m, i + 1 ≤ m → deed R (rep u m) = deed R (rep u (m + p)) := fun m hm => by
    obtain ⟨r, rfl⟩ : ∃ r, m = (i + 1) + r := ⟨m - (i + 1), by omega⟩
    rw [rep_add u (i + 1) r, show i + 1 + r + p = (j + 1) + r by omega, rep_add u (j + 1) r]
    exact deed_cong t (ok _) (ok _) e0 rfl
  have many : ∀ c m, i + 1 ≤ m → deed R (rep u m) = deed R (rep u (m + c * p)) := fun c m hm => by
    induction c with
    | zero => rw [Nat.zero_mul]; rfl
    | succ c ih =>
      rw [ih, step (m + c * p) (by omega), Nat.succ_mul]
      congr 2
      omega
  have hp : 1 ≤ p := by omega
  have hle : i + 1 ≤ (i + 1) * p := Nat.le_mul_of_pos_right _ hp
  refine ⟨(i + 1) * p, by omega, ?_⟩
  rw [← rep_add]
  exact (many (i + 1) _ hle).symm
/-! ### deeds as maps -/
structure Tr where
  f : Nat → Nat
instance : Mul Tr := ⟨fun a b => ⟨fun q => b.f (a.f q)⟩⟩
/-- what a word does (letters not told do nothing) -/
def act (R : List (List Nat)) (k : Nat) (w : List Nat) : Tr := ⟨fun q => if q < R.length then run R q (w.filter fun a => decide (a < k)) else q⟩
section
variable {R : List (List Nat)} {k : Nat}
theorem filt_ok {w : List Nat} : Ok k (w.filter fun a => decide (a < k)) := fun a ha => of_decide_eq_true (List.mem_filter.mp ha).2
theorem filt_id {w : List Nat} (h : Ok k w) : w.filter (fun a => decide (a < k)) = w := List.filter_eq_self.mpr fun a ha => decide_eq_true (h a ha)
theorem act_iff {u v : List Nat} (hu : Ok k u) (hv : Ok k v) : act R k u = act R k v ↔ deed R u = deed R v := by
  unfold act
  rw [filt_id hu, filt_id hv, deed_eq_iff]
  constructor
  · intro e q hq
    injection e with e
    have := congrFun e q
    simpa [hq] using this
  · intro h
    congr 1
    funext q
    split
    · exact h q (by assumption)
    · rfl
theorem act_app (t : TOk R k) (u v : List Nat) : act R k (u ++ v) = act R k u * act R k v := by
  show Tr.mk _ = Tr.mk _
  congr 1
  funext q
  show (if q < R.length then run R q ((u ++ v).filter fun a => decide (a < k)) else q) = if (if q < R.length then run R q (u.filter fun a => decide (a < k)) else q) < R.length then run R (if q < R.length then run R q (u.filter fun a => decide (a < k)) else q) (v.filter fun a => decide (a < k)) else (if q < R.length then run R q (u.filter fun a => decide (a < k)) else q)
  by_cases h : q < R.length
  · simp only [if_pos h]
    rw [if_pos (t.run h filt_ok), List.filter_append, run_app]
  · simp only [if_neg h]
theorem rep_filter (w : List Nat) (p : Nat → Bool) : ∀ n, (QA.rep w n).filter p = QA.rep (w.filter p) n
  | 0 => rfl
  | n + 1 => by
    show (w ++ QA.rep w n).filter p = w.filter p ++ QA.rep (w.filter p) n
    rw [List.filter_append, rep_filter w p n]
theorem rep_ok {u : List Nat} (h : Ok k u) : ∀ n, Ok k (QA.rep u n)
  | 0 => fun _ m => nomatch m
  | n + 1 => h.app (rep_ok h n)
theorem act_fin {ws : List (List Nat)} (F : FOk R k ws) (t : TOk R k) : QA.Fin (act R k) where
  assoc := fun a b c => rfl
  app := act_app t
  pow := fun w => by
    obtain ⟨n, hn, e⟩ := F.pow t (u := w.filter fun a => decide (a < k)) filt_ok
    refine ⟨n, hn, ?_⟩
    have h1 : ∀ w, act R k w = act R k (w.filter fun a => decide (a < k)) := fun w => by
      unfold act
      rw [filt_id filt_ok]
    rw [← act_app t, h1, h1 (QA.rep w n), List.filter_append, rep_filter]
    exact (act_iff ((rep_ok filt_ok n).app (rep_ok filt_ok n)) (rep_ok filt_ok n)).mpr e
theorem FOk.act {ws : List (List Nat)} (F : FOk R k ws) (t : TOk R k) {u v : List Nat} (hu : Ok k u) (hv : Ok k v) : idx R ws u = idx R ws v ↔ QM.act R k u = QM.act R k v := (F.iff t hu hv).trans (act_iff hu hv).symm
end
/-! ### lots -/
open QA in
/-- a lot's lists: what its letters make, words for the full ones, the least ideal -/
structure LotOk (R : List (List Nat)) (k : Nat) (ws : List (List Nat)) (B : List Nat) (ms : List Nat) (fl : List (Nat × List Nat)) (cl : List Nat) : Prop where
  sub : ∀ b ∈ B, b < k
  made : ∀ i, i ∈ ms ↔ ∃ w, On B w ∧ idx R ws w = i
  mlen : ms.length ≤ 10
  fnd : (fl.map (·.1)).Nodup
  full : ∀ p ∈ fl, Full B p.2 ∧ idx R ws p.2 = p.1 ∧ p.2.length ≤ 1000
  all : ∀ w, Full B w → idx R ws w ∈ fl.map (·.1)
  core : ∀ i, i ∈ cl ↔ ∃ w, On B w ∧ idx R ws w = i ∧ Core (act R k) B (act R k w)
  clen : cl.length ≤ 10
section
variable {R : List (List Nat)} {k : Nat} {B : List Nat}
theorem LotOk.core_ex {ws : List (List Nat)} {ms : List Nat} {fl : List (Nat × List Nat)} {cl : List Nat} (F : FOk R k ws) (t : TOk R k) (O : LotOk R k ws B ms fl cl) : ∃ w, QA.On B w ∧ QA.Core (act R k) B (act R k w) ∧ QA.Idem (act R k w) := by
  have ok : ∀ {w : List Nat}, QA.On B w → Ok k w := fun o a m => O.sub a (o a m)
  have all : ∀ l : List Nat, (∀ i ∈ l, i ∈ ms) → ∃ z, QA.On B z ∧ ∀ i ∈ l, ∃ x s y, QA.On B x ∧ QA.On B s ∧ QA.On B y ∧ idx R ws s = i ∧ z = x ++ s ++ y := by
    intro l
    induction l with
    | nil => exact fun _ => ⟨[], QA.On.nil, fun i h => nomatch h⟩
    | cons a l ih =>
      intro h
      obtain ⟨z, hz, hz2⟩ := ih fun i hi => h i (List.mem_cons_of_mem _ hi)
      obtain ⟨w, hw, e⟩ := (O.made a).mp (h a (List.mem_cons_self ..))
      refine ⟨w ++ z, hw.app hz, fun i hi => ?_⟩
      rcases List.mem_cons.mp hi with rfl | hi
      · exact ⟨[], w, z, QA.On.nil, hw, hz, e, by simp⟩
      · obtain ⟨x, s, y, h1, h2, h3, h4, h5⟩ := hz2 i hi
        exact ⟨w ++ x, s, y, hw.app h1, h2, h3, h4, by rw [h5]; simp⟩
  obtain ⟨z, hz, hz2⟩ := all ms fun _ h => h
  have Fi := act_fin F t
  obtain ⟨n, hn, hi⟩ := Fi.pow z
  obtain ⟨j, rfl⟩ : ∃ j, n = j + 1 := ⟨n - 1, by omega⟩
  refine ⟨QA.rep z (j + 1), hz.rep _, ⟨⟨_, hz.rep _, rfl⟩, fun s hs => ?_⟩, hi⟩
  obtain ⟨x, s', y, h1, h2, h3, h4, h5⟩ := hz2 _ ((O.made _).mpr ⟨s, hs, rfl⟩)
  refine ⟨x, y ++ QA.rep z j, h1, h3.app (hz.rep _), ?_⟩
  have e : act R k s' = act R k s := (F.act t (ok h2) (ok hs)).mp h4
  show _ = act R k (z ++ QA.rep z j)
  rw [← e, act_app t z, h5]
  simp only [act_app t, Fi.assoc]
theorem on_ok (h : ∀ b ∈ B, b < k) {w : List Nat} (o : QA.On B w) : Ok k w := fun a m => h a (o a m)
end
end QM

set_option linter.all false
namespace QM
open QA
/-! ### the kinds, by words -/
def Comm (R : List (List Nat)) (k : Nat) : Prop := ∀ a b, a < k → b < k → deed R [a, b] = deed R [b, a]
def DA (R : List (List Nat)) (k : Nat) : Prop := DO (act R k) (List.range k) ∧ AB (act R k) (List.range k)
theorem on_range {k : Nat} {w : List Nat} : On (List.range k) w ↔ Ok k w := ⟨fun h a m => List.mem_range.mp (h a m), fun h a m => List.mem_range.mpr (h a m)⟩
/-- two least tables of the same have the same deeds' equalities -/
theorem DO_iff {α β : Type} [Mul α] [Mul β] {φ : W → α} {ψ : W → β} {K : List Nat} (a1 : ∀ u v, φ (u ++ v) = φ u * φ v) (a2 : ∀ u v, ψ (u ++ v) = ψ u * ψ v) (e : ∀ u v, On K u → On K v → (φ u = φ v → ψ u = ψ v)) (e' : ∀ u v, On K u → On K v → (ψ u = ψ v → φ u = φ v)) (D : DO φ K) : DO ψ K := by
  intro x y m n ox oy hm hn im inn
  have o1 := (ox.app oy).rep m
  have o2 := (oy.app ox).rep n
  have im' : Idem (φ (rep (x ++ y) m)) := by
    show φ _ * φ _ = _
    rw [← a1]
    refine e' _ _ (o1.app o1) o1 ?_
    rw [a2]; exact im
  have in' : Idem (φ (rep (y ++ x) n)) := by
    show φ _ * φ _ = _
    rw [← a1]
    refine e' _ _ (o2.app o2) o2 ?_
    rw [a2]; exact inn
  have := D x y m n ox oy hm hn im' in'
  rw [← a1, ← a1] at this
  rw [← a2, ← a2]
  exact e _ _ ((o1.app o2).app o1) o1 this
theorem AB_iff {α β : Type} [Mul α] [Mul β] {φ : W → α} {ψ : W → β} {K : List Nat} (a1 : ∀ u v, φ (u ++ v) = φ u * φ v) (a2 : ∀ u v, ψ (u ++ v) = ψ u * ψ v) (e : ∀ u v, On K u → On K v → (φ u = φ v → ψ u = ψ v)) (e' : ∀ u v, On K u → On K v → (ψ u = ψ v → φ u = φ v)) (D : AB φ K) : AB ψ K := by
  intro x y m n ox oy hm hn im h1 h2 h3 h4 h5
  have o1 := ox.rep m
  have o2 := oy.rep n
  have im' : Idem (φ (rep x m)) := by
    show φ _ * φ _ = _
    rw [← a1]
    refine e' _ _ (o1.app o1) o1 ?_
    rw [a2]; exact im
  rw [← a2] at h2 h3 h4 h5
  rw [← a2, ← a2]
  refine e _ _ (ox.app oy) (oy.app ox) ?_
  rw [a1, a1]
  refine D x y m n ox oy hm hn im' (e' _ _ o1 o2 h1) ?_ ?_ ?_ ?_
  · rw [← a1]; exact e' _ _ (ox.app o1) ox h2
  · rw [← a1]; exact e' _ _ (o1.app ox) ox h3
  · rw [← a1]; exact e' _ _ (oy.app o1) oy h4
  · rw [← a1]; exact e' _ _ (o1.app oy) oy h5
section
variable {T R R' : List (List Nat)} {A : List Nat} {k : Nat}
theorem Least.tok (l : Least T A k R) : TOk R k := let ⟨_, h⟩ := l; h.ok
theorem act_same (l : Least T A k R) (l' : Least T A k R') (u v : List Nat) (hu : On (List.range k) u) (hv : On (List.range k) v) (e : act R k u = act R k v) : act R' k u = act R' k v := by
  have ou := on_range.mp hu
  have ov := on_range.mp hv
  exact (act_iff ou ov).mpr ((l'.deed ou ov).mpr ((l.deed ou ov).mp ((act_iff ou ov).mp e)))
theorem DA_mono (l : Least T A k R) (l' : Least T A k R') (h : DA R k) : DA R' k :=
  ⟨DO_iff (act_app l.tok) (act_app l'.tok) (act_same l l') (act_same l' l) h.1, AB_iff (act_app l.tok) (act_app l'.tok) (act_same l l') (act_same l' l) h.2⟩
theorem ok2 {a b : Nat} (ha : a < k) (hb : b < k) : Ok k [a, b] := fun c hc => by
  rcases List.mem_cons.mp hc with rfl | hc
  · exact ha
  · rw [List.mem_singleton.mp hc]; exact hb
theorem Comm_mono (l : Least T A k R) (l' : Least T A k R') (h : Comm R k) : Comm R' k := fun a b ha hb =>
  (l'.deed (ok2 ha hb) (ok2 hb ha)).mpr ((l.deed (ok2 ha hb) (ok2 hb ha)).mp (h a b ha hb))
end
open Classical in
/-- the kind of a table that is least -/
noncomputable def kdR (R : List (List Nat)) (k : Nat) : Nat := if Comm R k then 0 else if DA R k then 1 else 2
open Classical in
/-- the kind of a machine -/
noncomputable def kd (T : List (List Nat)) (A : List Nat) (k : Nat) : Nat := if h : ∃ R, Least T A k R then kdR h.choose k else 2
theorem kdR_same {T R R' : List (List Nat)} {A : List Nat} {k : Nat} (l : Least T A k R) (l' : Least T A k R') : kdR R k = kdR R' k := by
  unfold kdR
  by_cases h : Comm R k
  · rw [if_pos h, if_pos (Comm_mono l l' h)]
  · rw [if_neg h, if_neg fun z => h (Comm_mono l' l z)]
    by_cases h2 : DA R k
    · rw [if_pos h2, if_pos (DA_mono l l' h2)]
    · rw [if_neg h2, if_neg fun z => h2 (DA_mono l' l z)]
theorem kd_of {T R : List (List Nat)} {A : List Nat} {k : Nat} (l : Least T A k R) : kd T A k = kdR R k := by
  have h : ∃ R, Least T A k R := ⟨R, l⟩
  unfold kd
  rw [dif_pos h]
  exact kdR_same h.choose_spec l
theorem kdR_le (R : List (List Nat)) (k : Nat) : kdR R k ≤ 2 := by
  unfold kdR
  split
  · omega
  · split <;> omega
theorem kdR_0 {R : List (List Nat)} {k : Nat} (h : Comm R k) : kdR R k = 0 := by unfold kdR; rw [if_pos h]
theorem kdR_1 {R : List (List Nat)} {k : Nat} (h : ¬ Comm R k) (h2 : DA R k) : kdR R k = 1 := by unfold kdR; rw [if_neg h, if_pos h2]
theorem kdR_2 {R : List (List Nat)} {k : Nat} (h : ¬ Comm R k) (h2 : ¬ DA R k) : kdR R k = 2 := by unfold kdR; rw [if_neg h, if_neg h2]
/-! ### fewer letters -/
/-- the table of the letters at some places alone -/
def rst (T : List (List Nat)) (ps : List Nat) : List (List Nat) := T.map fun r => ps.map fun p => r.getD p 0
theorem rst_cell {T : List (List Nat)} {ps : List Nat} {q a : Nat} (hq : q < T.length) (ha : a < ps.length) : cell (rst T ps) q a = cell T q (ps.getD a 0) := by
  unfold rst cell
  simp [List.getD_eq_getElem?_getD, hq, ha]
theorem rst_len {T : List (List Nat)} {ps : List Nat} : (rst T ps).length = T.length := by unfold rst; rw [List.length_map]
theorem row_at {T : List (List Nat)} {k : Nat} (t : TOk T k) {r : List Nat} (hr : r ∈ T) {a : Nat} (ha : a < k) : r.getD a 0 < T.length := by
  obtain ⟨h1, h2⟩ := t.row r hr
  have hlt : a < r.length := by rw [h1]; exact ha
  rw [List.getD_eq_getElem?_getD, List.getElem?_eq_getElem hlt]
  exact h2 _ (List.getElem_mem hlt)
theorem rst_ok {T : List (List Nat)} {k : Nat} {ps : List Nat} (t : TOk T k) (h : ∀ p ∈ ps, p < k) : TOk (rst T ps) ps.length := by
  refine ⟨by rw [rst_len]; exact t.pos, fun r hr => ?_⟩
  obtain ⟨r0, hr0, rfl⟩ := List.mem_map.mp hr
  refine ⟨by rw [List.length_map], fun x hx => ?_⟩
  obtain ⟨p, hp, rfl⟩ := List.mem_map.mp hx
  rw [rst_len]
  exact row_at t hr0 (h p hp)
/-- words of fewer letters as words of all -/
def up (ps w : List Nat) : List Nat := w.map fun a => ps.getD a 0
theorem up_app (ps u v : List Nat) : up ps (u ++ v) = up ps u ++ up ps v := by unfold up; rw [List.map_append]
theorem getD_mem {ps : List Nat} {a : Nat} (h : a < ps.length) : ps.getD a 0 ∈ ps := by
  rw [List.getD_eq_getElem?_getD, List.getElem?_eq_getElem h]
  exact List.getElem_mem h
theorem up_ok {k : Nat} {ps w : List Nat} (h : ∀ p ∈ ps, p < k) (hw : Ok ps.length w) : Ok k (up ps w) := fun a ha => by
  obtain ⟨b, hb, rfl⟩ := List.mem_map.mp ha
  exact h _ (getD_mem (hw b hb))
theorem rst_run {T : List (List Nat)} {k : Nat} {ps : List Nat} (t : TOk T k) (h : ∀ p ∈ ps, p < k) : ∀ {w : List Nat} {q : Nat}, q < T.length → Ok ps.length w → run (rst T ps) q w = run T q (up ps w)
  | [], _, _, _ => rfl
  | a :: w, q, hq, hw => by
    have ha := hw a (List.mem_cons_self ..)
    rw [run_cons, rst_cell hq ha]
    show _ = run T (cell T q (ps.getD a 0)) (up ps w)
    exact rst_run t h (t.cell hq (h _ (getD_mem ha))) fun b hb => hw b (List.mem_cons_of_mem _ hb)
theorem rst_alike {T : List (List Nat)} {A : List Nat} {k : Nat} {ps : List Nat} (t : TOk T k) (h : ∀ p ∈ ps, p < k) {q q' : Nat} (hq : q < T.length) (hq' : q' < T.length) (a : Alike T A k q q') : Alike (rst T ps) A ps.length q q' := fun w hw => by
  rw [rst_run t h hq hw, rst_run t h hq' hw]
  exact a _ (up_ok h hw)
theorem rst_syn {T : List (List Nat)} {A : List Nat} {k : Nat} {ps : List Nat} (t : TOk T k) (h : ∀ p ∈ ps, p < k) {u v : List Nat} (hu : Ok ps.length u) (hv : Ok ps.length v) (s : Syn T A k (up ps u) (up ps v)) : Syn (rst T ps) A ps.length u v := fun p hp => by
  rw [rst_run t h t.pos (hp.app hu), rst_run t h t.pos (hp.app hv), up_app, up_app]
  exact rst_alike t h (t.run t.pos ((up_ok h hp).app (up_ok h hu))) (t.run t.pos ((up_ok h hp).app (up_ok h hv))) (s _ (up_ok h hp))
/-- fewer letters, no more deeds -/
theorem few_rst {T R R' : List (List Nat)} {A : List Nat} {k n : Nat} {ps : List Nat} (t : TOk T k) (h : ∀ p ∈ ps, p < k) (l : Least T A k R) (l' : Least (rst T ps) A ps.length R') (f : Few R k n) : Few R' ps.length n := fun ws hw nd => by
  have := f (ws.map (up ps)) (fun w hw' => by
    obtain ⟨u, hu, rfl⟩ := List.mem_map.mp hw'
    exact up_ok h (hw u hu)) (by
    rw [List.map_map]
    refine List.pairwise_map.mpr (List.pairwise_iff_forall_sublist.mpr fun {u v} s e => ?_)
    have hu : u ∈ ws := s.subset (List.mem_cons_self ..)
    have hv : v ∈ ws := s.subset (List.mem_cons_of_mem _ (List.mem_cons_self ..))
    have ne := List.pairwise_iff_forall_sublist.mp (List.pairwise_map.mp nd) s
    exact ne ((l'.deed (hw u hu) (hw v hv)).mpr (rst_syn t h (hw u hu) (hw v hv) ((l.deed (up_ok h (hw u hu)) (up_ok h (hw v hv))).mp e))))
  rwa [List.length_map] at this
/-- all letters -/
theorem rst_all {T : List (List Nat)} {k : Nat} (t : TOk T k) : rst T (List.range k) = T := by
  unfold rst
  have : T.map (fun r => (List.range k).map fun p => r.getD p 0) = T.map id := List.map_congr_left fun r hr => by
    have h1 := (t.row r hr).1
    apply List.ext_getElem
    · simp [h1]
    · intro i a b
      simp at a
      have hi : i < r.length := by rw [h1]; exact a
      simp [List.getD_eq_getElem?_getD, hi]
  rw [this, List.map_id]
theorem few_mono {R : List (List Nat)} {k n m : Nat} (f : Few R k n) (h : n ≤ m) : Few R k m := fun ws hw nd => Nat.le_trans (f ws hw nd) h
/-- one letter: as many deeds as states at most -/
theorem one_letter {T R : List (List Nat)} {A : List Nat} (l : Least T A 1 R) : Few R 1 R.length := fun ws hw nd => by
  have t := l.tok
  have hrep : ∀ w : List Nat, Ok 1 w → w = List.replicate w.length 0 := fun w h => List.eq_replicate_iff.mpr ⟨rfl, fun a ha => by have := h a ha; omega⟩
  have key : ∀ u v : List Nat, Ok 1 u → Ok 1 v → run R 0 u = run R 0 v → deed R u = deed R v := fun u v hu hv e => deed_eq_iff.mpr fun q hq => by
    obtain ⟨p, hp, rfl⟩ := l.reach hq
    rw [← run_app, ← run_app]
    have sw : ∀ x : List Nat, Ok 1 x → p ++ x = x ++ p := fun x hx => by
      rw [hrep p hp, hrep x hx, List.replicate_append_replicate, List.replicate_append_replicate, Nat.add_comm]
    rw [sw u hu, sw v hv, run_app, run_app, e]
  have nd2 : (ws.map fun w => run R 0 w).Nodup := by
    refine List.pairwise_map.mpr (List.pairwise_iff_forall_sublist.mpr fun {u v} s e => ?_)
    have hu : u ∈ ws := s.subset (List.mem_cons_self ..)
    have hv : v ∈ ws := s.subset (List.mem_cons_of_mem _ (List.mem_cons_self ..))
    exact List.pairwise_iff_forall_sublist.mp (List.pairwise_map.mp nd) s (key u v (hw u hu) (hw v hv) e)
  have := nodup_le nd2 (m := List.range R.length) fun x hx => by
    obtain ⟨u, hu, rfl⟩ := List.mem_map.mp hx
    exact List.mem_range.mpr (t.run t.pos (hw u hu))
  rwa [List.length_map, List.length_range] at this
/-! ### steady powers -/
open Classical in
noncomputable def spw (R : List (List Nat)) (u : List Nat) : List Nat := if h : ∃ n, 1 ≤ n ∧ deed R (rep u n ++ rep u n) = deed R (rep u n) then rep u h.choose else []
section
variable {R ws : List (List Nat)} {k : Nat} {u v : List Nat}
theorem spw_rep (F : FOk R k ws) (t : TOk R k) (hu : Ok k u) : ∃ n, 1 ≤ n ∧ spw R u = rep u n ∧ deed R (rep u n ++ rep u n) = deed R (rep u n) := by
  have h := F.pow t hu
  refine ⟨h.choose, h.choose_spec.1, ?_, h.choose_spec.2⟩
  unfold spw
  rw [dif_pos h]
theorem spw_ok (F : FOk R k ws) (t : TOk R k) (hu : Ok k u) : Ok k (spw R u) := by
  obtain ⟨n, _, e, _⟩ := spw_rep F t hu
  rw [e]; exact rep_ok hu n
theorem spw_at (F : FOk R k ws) (t : TOk R k) (hu : Ok k u) {n : Nat} (hn : 1 ≤ n) (e : deed R (rep u n ++ rep u n) = deed R (rep u n)) : deed R (rep u n) = deed R (spw R u) := by
  obtain ⟨m, hm, e1, e2⟩ := spw_rep F t hu
  rw [e1]
  have on := rep_ok hu n
  have om := rep_ok hu m
  refine (act_iff on om).mp (idem_unique (act_fin F t) hn hm ?_ ?_)
  · show _ * _ = _
    rw [← act_app t]; exact (act_iff (on.app on) on).mpr e
  · show _ * _ = _
    rw [← act_app t]; exact (act_iff (om.app om) om).mpr e2
theorem deed_rep (t : TOk R k) (hu : Ok k u) (hv : Ok k v) (e : deed R u = deed R v) : ∀ n, deed R (rep u n) = deed R (rep v n)
  | 0 => rfl
  | n + 1 => deed_cong t hu hv e (deed_rep t hu hv e n)
theorem spw_cong (F : FOk R k ws) (t : TOk R k) (hu : Ok k u) (hv : Ok k v) (e : deed R u = deed R v) : deed R (spw R u) = deed R (spw R v) := by
  obtain ⟨n, hn, e1, e2⟩ := spw_rep F t hu
  rw [e1, deed_rep t hu hv e n]
  refine spw_at F t hv hn ?_
  have := deed_rep t hu hv e n
  rw [← deed_cong t (rep_ok hu n) (rep_ok hv n) this this, e2, this]
theorem spw_idem (F : FOk R k ws) (t : TOk R k) (hu : Ok k u) : Idem (act R k (spw R u)) := by
  obtain ⟨n, hn, e1, e2⟩ := spw_rep F t hu
  have o := rep_ok hu n
  rw [e1]
  show _ * _ = _
  rw [← act_app t]; exact (act_iff (o.app o) o).mpr e2
/-- the law's first look -/
def Straight (R ws : List (List Nat)) : Prop := ∀ x ∈ ws, ∀ y ∈ ws, deed R (spw R (x ++ y) ++ spw R (y ++ x) ++ spw R (x ++ y)) = deed R (spw R (x ++ y))
theorem rep_spw (F : FOk R k ws) (t : TOk R k) (hu : Ok k u) {n : Nat} (hn : 1 ≤ n) (i : Idem (act R k (rep u n))) : act R k (rep u n) = act R k (spw R u) := by
  have on := rep_ok hu n
  refine (act_iff on (spw_ok F t hu)).mpr (spw_at F t hu hn ?_)
  have i' : act R k (rep u n) * act R k (rep u n) = act R k (rep u n) := i
  rw [← act_app t] at i'
  exact (act_iff (on.app on) on).mp i'
theorem word_of (F : FOk R k ws) (t : TOk R k) (hu : Ok k u) : ∃ x ∈ ws, Ok k x ∧ deed R x = deed R u := by
  obtain ⟨x, hx, e⟩ := List.mem_map.mp (F.all t u hu)
  exact ⟨x, hx, F.ok x hx, e⟩
theorem straight_iff (F : FOk R k ws) (t : TOk R k) : Straight R ws ↔ DO (act R k) (List.range k) := by
  constructor
  · intro S x y m n ox oy hm hn im inn
    have ox := on_range.mp ox
    have oy := on_range.mp oy
    obtain ⟨x', hx', ox', ex⟩ := word_of F t ox
    obtain ⟨y', hy', oy', ey⟩ := word_of F t oy
    rw [rep_spw F t (ox.app oy) hm im, rep_spw F t (oy.app ox) hn inn]
    have h1 : act R k (spw R (x ++ y)) = act R k (spw R (x' ++ y')) := (act_iff (spw_ok F t (ox.app oy)) (spw_ok F t (ox'.app oy'))).mpr (spw_cong F t (ox.app oy) (ox'.app oy') (deed_cong t ox ox' ex.symm ey.symm))
    have h2 : act R k (spw R (y ++ x)) = act R k (spw R (y' ++ x')) := (act_iff (spw_ok F t (oy.app ox)) (spw_ok F t (oy'.app ox'))).mpr (spw_cong F t (oy.app ox) (oy'.app ox') (deed_cong t oy oy' ey.symm ex.symm))
    have o1 := spw_ok F t (ox'.app oy')
    have o2 := spw_ok F t (oy'.app ox')
    rw [h1, h2, ← act_app t, ← act_app t]
    exact (act_iff ((o1.app o2).app o1) o1).mpr (S x' hx' y' hy')
  · intro D x hx y hy
    have ox := F.ok x hx
    have oy := F.ok y hy
    obtain ⟨m, hm, e1, _⟩ := spw_rep F t (ox.app oy)
    obtain ⟨n, hn, e2, _⟩ := spw_rep F t (oy.app ox)
    have i1 := spw_idem F t (ox.app oy)
    have i2 := spw_idem F t (oy.app ox)
    have o1 := spw_ok F t (ox.app oy)
    have o2 := spw_ok F t (oy.app ox)
    rw [e1] at i1 o1 ⊢
    rw [e2] at i2 o2 ⊢
    have := D x y m n (on_range.mpr ox) (on_range.mpr oy) hm hn i1 i2
    rw [← act_app t, ← act_app t] at this
    exact (act_iff ((o1.app o2).app o1) o1).mp this
/-- a deed of the group of its steady power -/
def InG (R : List (List Nat)) (x : List Nat) : Prop := deed R (x ++ spw R x) = deed R x ∧ deed R (spw R x ++ x) = deed R x
/-- the law's second look -/
def GroupsChange (R ws : List (List Nat)) : Prop := ∀ x ∈ ws, ∀ y ∈ ws, InG R x → InG R y → deed R (spw R x) = deed R (spw R y) → deed R (x ++ y) = deed R (y ++ x)
theorem groups_iff (F : FOk R k ws) (t : TOk R k) : GroupsChange R ws ↔ AB (act R k) (List.range k) := by
  constructor
  · intro S x y m n ox oy hm hn im e1 h1 h2 h3 h4
    have ox := on_range.mp ox
    have oy := on_range.mp oy
    obtain ⟨x', hx', ox', ex⟩ := word_of F t ox
    obtain ⟨y', hy', oy', ey⟩ := word_of F t oy
    have im2 : Idem (act R k (rep y n)) := e1 ▸ im
    have a1 := rep_spw F t ox hm im
    have a2 := rep_spw F t oy hn im2
    have sx := spw_ok F t ox
    have sy := spw_ok F t oy
    have sx' := spw_ok F t ox'
    have sy' := spw_ok F t oy'
    have cx := spw_cong F t ox' ox ex
    have cy := spw_cong F t oy' oy ey
    have hs : deed R (spw R x) = deed R (spw R y) := (act_iff sx sy).mp (by rw [← a1, ← a2, e1])
    rw [a1, ← act_app t] at h1 h2
    rw [e1, a2, ← act_app t] at h3 h4
    have g1 := (act_iff (ox.app sx) ox).mp h1
    have g2 := (act_iff (sx.app ox) ox).mp h2
    have g3 := (act_iff (oy.app sy) oy).mp h3
    have g4 := (act_iff (sy.app oy) oy).mp h4
    have := S x' hx' y' hy' ⟨by rw [deed_cong t ox' ox ex cx, g1, ex], by rw [deed_cong t sx' sx cx ex, g2, ex]⟩ ⟨by rw [deed_cong t oy' oy ey cy, g3, ey], by rw [deed_cong t sy' sy cy ey, g4, ey]⟩ (by rw [cx, hs, cy])
    rw [deed_cong t ox' ox ex ey, deed_cong t oy' oy ey ex] at this
    rw [← act_app t, ← act_app t]
    exact (act_iff (ox.app oy) (oy.app ox)).mpr this
  · intro D x hx y hy gx gy e
    have ox := F.ok x hx
    have oy := F.ok y hy
    obtain ⟨m, hm, e1, _⟩ := spw_rep F t ox
    obtain ⟨n, hn, e2, _⟩ := spw_rep F t oy
    have i1 := spw_idem F t ox
    have sx := spw_ok F t ox
    have sy := spw_ok F t oy
    have ea : act R k (spw R x) = act R k (spw R y) := (act_iff sx sy).mpr e
    have := D x y m n (on_range.mpr ox) (on_range.mpr oy) hm hn (e1 ▸ i1) (by rw [← e1, ← e2, ea]) (by rw [← e1, ← act_app t]; exact (act_iff (ox.app sx) ox).mpr gx.1) (by rw [← e1, ← act_app t]; exact (act_iff (sx.app ox) ox).mpr gx.2)
      (by rw [← e1, ea, ← act_app t]; exact (act_iff (oy.app sy) oy).mpr gy.1) (by rw [← e1, ea, ← act_app t]; exact (act_iff (sy.app oy) oy).mpr gy.2)
    rw [← act_app t, ← act_app t] at this
    exact (act_iff (ox.app oy) (oy.app ox)).mp this
end
end QM

set_option linter.all false
namespace QM
/-! ### the law's refinement -/
section
variable {T : List (List Nat)} {A : List Nat} {k : Nat} {ss : List Nat} {c : Nat → Nat} {n : Nat}
/-- ahead of turn i -/
def LInv (T : List (List Nat)) (A : List Nat) (k : Nat) (ss : List Nat) (i : Nat) (c : Nat → Nat) (n : Nat) : Prop :=
  (i = 0 ∧ n = 0 ∧ c = fun q => if q ∈ A then 1 else 0) ∨ (1 ≤ i ∧ i ≤ n ∧ Part T A k ss c n)
def kn (T : List (List Nat)) (ss : List Nat) (c : Nat → Nat) : Nat := (firsts (ss.map (keyOf T c))).length
theorem LInv.turn (t : TOk T k) (S : Sts T k ss) {i : Nat} (h : LInv T A k ss i c n) :
    (kn T ss c = n → Cls T A k ss (num ss (keyOf T c)) (kn T ss c)) ∧ (kn T ss c ≠ n → LInv T A k ss (i + 1) (num ss (keyOf T c)) (kn T ss c)) := by
  have h0 : 0 ∈ ss := (S.mem 0).mpr Reach.zero
  have hpos : 1 ≤ kn T ss c := by
    have := num_lt (f := keyOf T c) h0
    unfold kn
    omega
  rcases h with ⟨rfl, rfl, rfl⟩ | ⟨h1, h2, p⟩
  · have p := part_next (A := A) (c := fun q => if q ∈ A then 1 else 0) t S (fun q hq q' hq' a => by
      have := a [] fun _ h => nomatch h
      simp only [run_nil] at this
      by_cases hA : q ∈ A
      · rw [if_pos hA, if_pos (this.mp hA)]
      · rw [if_neg hA, if_neg fun z => hA (this.mpr z)]) (fun q hq q' hq' e => by
      by_cases hA : q ∈ A
      · by_cases hB : q' ∈ A
        · exact ⟨fun _ => hB, fun _ => hA⟩
        · simp [hA, hB] at e
      · by_cases hB : q' ∈ A
        · simp [hA, hB] at e
        · exact ⟨fun z => absurd z hA, fun z => absurd z hB⟩)
    exact ⟨fun e => by omega, fun _ => .inr ⟨by omega, hpos, p⟩⟩
  · have p' := part_next (A := A) (c := c) t S p.coarse p.acc
    obtain ⟨g1, g2⟩ := part_grow t S p
    exact ⟨fun e => cls_of S p' (g2 (by unfold kn at e; omega)), fun e => .inr ⟨by omega, by unfold kn at e ⊢; omega, p'⟩⟩
theorem LInv.fin (S : Sts T k ss) (h : LInv T A k ss ss.length c n) : Cls T A k ss c n := by
  have h0 : 0 ∈ ss := (S.mem 0).mpr Reach.zero
  have hl := List.length_pos_of_mem h0
  rcases h with ⟨h1, _, _⟩ | ⟨_, h2, p⟩
  · omega
  · exact cls_of S p (part_full S p h2)
theorem Cls.num (S : Sts T k ss) (C : Cls T A k ss c n) : Cls T A k ss (QM.num ss c) (firsts (ss.map c)).length :=
  ⟨fun q hq => num_lt hq, fun i hi => num_onto hi, num_head S.zero, fun q hq q' hq' => (num_iff hq hq').trans (C.same q hq q' hq')⟩
theorem least_firsts (t : TOk T k) (S : Sts T k ss) (C : Cls T A k ss c n) {os : List Nat} (h : os.map c = firsts (ss.map c)) (hs : ∀ q ∈ os, q ∈ ss) :
    Least T A k (os.map fun q => (T.getD q []).map (QM.num ss c)) := by
  have hl : os.length = (firsts (ss.map c)).length := by rw [← h, List.length_map]
  have := least_of t S (C.num S) (fun i => os.getD i 0) fun i hi => by
    have hi' : i < os.length := by omega
    have e : os.getD i 0 = os[i] := by rw [List.getD_eq_getElem?_getD, List.getElem?_eq_getElem hi']; rfl
    refine ⟨by show os.getD i 0 ∈ ss; rw [e]; exact hs _ (List.getElem_mem hi'), ?_⟩
    show QM.num ss c (os.getD i 0) = i
    rw [e]
    unfold QM.num
    refine idx_get (nodup_firsts _) ?_
    rw [← h, List.getElem?_map, List.getElem?_eq_getElem hi']
    rfl
  have e2 : (os.map fun q => (T.getD q []).map (QM.num ss c)) = (List.range (firsts (ss.map c)).length).map fun i => (T.getD (os.getD i 0) []).map (QM.num ss c) := by
    rw [← hl]
    apply List.ext_getElem
    · simp
    · intro i h1 h2
      have hi : i < os.length := by simpa using h1
      simp [hi]
  rw [e2]
  exact this
end
/-! ### lots in order -/
def lotsK : Nat → List (List Nat)
  | 1 => [[0]]
  | 2 => [[0], [1], [0, 1]]
  | 3 => [[0], [1], [2], [0, 1], [0, 2], [1, 2], [0, 1, 2]]
  | 4 => [[0], [1], [2], [3], [0, 1], [0, 2], [0, 3], [1, 2], [1, 3], [2, 3], [0, 1, 2], [0, 1, 3], [0, 2, 3], [1, 2, 3], [0, 1, 2, 3]]
  | _ => []
/-- all but the full one -/
def lotsN (k : Nat) : List (List Nat) := ([] :: lotsK k).dropLast
theorem four {p : Nat → Prop} (h1 : p 1) (h2 : p 2) (h3 : p 3) (h4 : p 4) : ∀ {k : Nat}, 1 ≤ k → k ≤ 4 → p k
  | 0, h, _ => by omega
  | 1, _, _ => h1
  | 2, _, _ => h2
  | 3, _, _ => h3
  | 4, _, _ => h4
  | k + 5, _, h => by omega
theorem lotsN_ok {k : Nat} (h1 : 1 ≤ k) (h4 : k ≤ 4) : ∀ B ∈ lotsN k, B.Pairwise (· < ·) ∧ (∀ b ∈ B, b < k) ∧ B.length < k :=
  four (p := fun k => ∀ B ∈ lotsN k, B.Pairwise (· < ·) ∧ (∀ b ∈ B, b < k) ∧ B.length < k) (by decide) (by decide) (by decide) (by decide) h1 h4
theorem lotsN_filter {k : Nat} (h1 : 1 ≤ k) (h4 : k ≤ 4) : ([] :: lotsK k).filter (fun B => decide (B.length < k)) = lotsN k :=
  four (p := fun k => ([] :: lotsK k).filter (fun B => decide (B.length < k)) = lotsN k) (by decide) (by decide) (by decide) (by decide) h1 h4
theorem lotsN_nd {k : Nat} (h1 : 1 ≤ k) (h4 : k ≤ 4) : (lotsN k).Nodup :=
  four (p := fun k => (lotsN k).Nodup) (by decide) (by decide) (by decide) (by decide) h1 h4
theorem lotsN_len {k : Nat} (h1 : 1 ≤ k) (h4 : k ≤ 4) : (lotsN k).length ≤ 15 :=
  four (p := fun k => (lotsN k).length ≤ 15) (by decide) (by decide) (by decide) (by decide) h1 h4
theorem lotsK_len {k : Nat} (h1 : 1 ≤ k) (h4 : k ≤ 4) : 1 ≤ (lotsK k).length ∧ (lotsK k).length ≤ 15 :=
  four (p := fun k => 1 ≤ (lotsK k).length ∧ (lotsK k).length ≤ 15) (by decide) (by decide) (by decide) (by decide) h1 h4
theorem lotsK_ok {k : Nat} (h1 : 1 ≤ k) (h4 : k ≤ 4) : ∀ B ∈ lotsK k, B.Pairwise (· < ·) ∧ (∀ b ∈ B, b < k) ∧ B.length ≤ k :=
  four (p := fun k => ∀ B ∈ lotsK k, B.Pairwise (· < ·) ∧ (∀ b ∈ B, b < k) ∧ B.length ≤ k) (by decide) (by decide) (by decide) (by decide) h1 h4
/-- the order of lots -/
def LtW (B C : List Nat) : Prop := B.length < C.length ∨ (B.length = C.length ∧ B < C)
instance (B C : List Nat) : Decidable (LtW B C) := by unfold LtW; exact inferInstance
theorem lotsK_sorted {k : Nat} (h1 : 1 ≤ k) (h4 : k ≤ 4) : (lotsK k).Pairwise LtW :=
  four (p := fun k => (lotsK k).Pairwise LtW) (by decide) (by decide) (by decide) (by decide) h1 h4
/-! ### the least lots -/
def spare (found : List (List Nat)) (B : List Nat) : Bool := found.any fun C => C.all fun a => decide (a ∈ B)
def dueL (kf : List Nat → Nat) (g : Nat) (Bs : List (List Nat)) : List (List Nat) := Bs.foldl (fun found B => if spare found B = false ∧ kf B ≤ g then found ++ [B] else found) []
theorem dueL_snoc (kf : List Nat → Nat) (g : Nat) (Bs : List (List Nat)) (B : List Nat) : dueL kf g (Bs ++ [B]) = if spare (dueL kf g Bs) B = false ∧ kf B ≤ g then dueL kf g Bs ++ [B] else dueL kf g Bs := by
  unfold dueL
  rw [List.foldl_append]
  rfl
theorem dueL_sub (kf : List Nat → Nat) (g : Nat) (Bs : List (List Nat)) : ∀ B ∈ dueL kf g Bs, B ∈ Bs ∧ kf B ≤ g := by
  refine snocRec (p := fun Bs => ∀ B ∈ dueL kf g Bs, B ∈ Bs ∧ kf B ≤ g) (fun B h => by cases h) (fun Bs C ih B h => ?_) Bs
  rw [dueL_snoc] at h
  split at h
  · rename_i hc
    rcases List.mem_append.mp h with h | h
    · exact ⟨List.mem_append_left _ (ih B h).1, (ih B h).2⟩
    · rw [List.mem_singleton.mp h]
      exact ⟨List.mem_append_right _ (List.mem_singleton.mpr rfl), hc.2⟩
  · exact ⟨List.mem_append_left _ (ih B h).1, (ih B h).2⟩
theorem dueL_len (kf : List Nat → Nat) (g : Nat) (Bs : List (List Nat)) : (dueL kf g Bs).length ≤ Bs.length := by
  refine snocRec (p := fun Bs => (dueL kf g Bs).length ≤ Bs.length) (Nat.le_refl _) (fun Bs C ih => ?_) Bs
  rw [dueL_snoc]
  split
  · rw [List.length_append, List.length_append]
    exact Nat.add_le_add_right ih 1
  · rw [List.length_append]; omega
/-- the letters left -/
def leftL (k : Nat) (B : List Nat) : List Nat := (List.range k).filter fun a => !decide (a ∈ B)
noncomputable def kfOf (T : List (List Nat)) (A : List Nat) (k : Nat) (B : List Nat) : Nat := kd (rst T (leftL k B)) A (leftL k B).length
theorem leftL_lt {k : Nat} {B : List Nat} : ∀ p ∈ leftL k B, p < k := fun p hp => List.mem_range.mp (List.mem_filter.mp hp).1
theorem leftL_asc {k : Nat} {B : List Nat} : (leftL k B).Pairwise (· < ·) := (List.pairwise_lt_range).filter _
theorem leftL_nil {k : Nat} : leftL k [] = List.range k := by
  unfold leftL
  rw [List.filter_eq_self]
  intro a _
  simp
theorem leftL_pos {k : Nat} {B : List Nat} (nd : B.Nodup) (h : B.length < k) : 1 ≤ (leftL k B).length := by
  refine Classical.byContradiction fun hn => ?_
  have e : leftL k B = [] := List.length_eq_zero_iff.mp (by omega)
  have : (List.range k).length ≤ B.length := nodup_le List.nodup_range fun x hx => Classical.byContradiction fun hb => by
    have : x ∈ leftL k B := List.mem_filter.mpr ⟨hx, by simp [hb]⟩
    rw [e] at this
    cases this
  rw [List.length_range] at this
  omega
theorem leftL_len {k : Nat} {B : List Nat} : (leftL k B).length ≤ k := by
  unfold leftL
  have := List.length_filter_le (fun a => !decide (a ∈ B)) (List.range k)
  rwa [List.length_range] at this
end QM

set_option Elab.async false
set_option linter.all false
set_option maxRecDepth 100000
set_option maxHeartbeats 1000000
namespace QP
open PySem PySem.Spec PyProof.Rows L2


/-! ### the top's facts -/
structure MCls (K : PySem.W.Frag) (C : Addr) : Prop where
  cls : Cls K C
  kept_letters : NoAttr K C "kept_letters"
  kept_table : NoAttr K C "kept_table"
  kept_accepts : NoAttr K C "kept_accepts"
  kept_least : NoAttr K C "kept_least"
  kept_field : NoAttr K C "kept_field"
  kept_lots : NoAttr K C "kept_lots"
  kept_more : NoAttr K C "kept_more"
structure FCls (K : PySem.W.Frag) (C : Addr) : Prop where
  cls : Cls K C
  letters : NoAttr K C "letters"
  words : NoAttr K C "words"
  deeds : NoAttr K C "deeds"
  number : NoAttr K C "number"
  by_letter : NoAttr K C "by_letter"
structure LCls (K : PySem.W.Frag) (C : Addr) : Prop where
  cls : Cls K C
  lot : NoAttr K C "lot"
  field : NoAttr K C "field"
  places : NoAttr K C "places"
  full_words : NoAttr K C "full_words"
  made : NoAttr K C "made"
  core : NoAttr K C "core"
structure Txt (K : PySem.W.Frag) (mg : Str → Option Value) : Prop where
  len : mg "len" = none
  range : mg "range" = none
  isinstance : mg "isinstance" = none
  sorted : mg "sorted" = none
  zip : mg "zip" = none
  tuple : mg "tuple" = none
  list : mg "list" = none
  int : mg "int" = none
  abs : mg "abs" = none
  min : mg "min" = none
  max : mg "max" = none
  all : mg "all" = none
  any : mg "any" = none
  str : mg "str" = none
  bool : mg "bool" = none
  MOST : ∃ t, mg "MOST_DEEDS" = some (.int 100 t)
  SMALL : ∃ t, mg "SMALL" = some (.str "abcdefghijklmnopqrstuvwxyz" t)
  KINDS : mg "KINDS" = some (.ref (He.ga K "KINDS"))
  kinds : ∀ H : Hp, SqT K H (He.ga K "KINDS") [.str "fixed", .str "digits", .str "length"]
  cM : MCls K (He.ga K "Machine")
  cR : MCls K (He.ga K "RawMachine")
  cF : FCls K (He.ga K "Field")
  cL : LCls K (He.ga K "Lot")
abbrev aM (K : PySem.W.Frag) : Addr := He.ga K "Machine"
abbrev aR (K : PySem.W.Frag) : Addr := He.ga K "RawMachine"
abbrev aF (K : PySem.W.Frag) : Addr := He.ga K "Field"
abbrev aL (K : PySem.W.Frag) : Addr := He.ga K "Lot"
section
variable {X : Cx} {pos : Pos}
theorem Txt.peMOST (T : Txt X.K X.mg) (hg : Gl X "MOST_DEEDS") : PE X (.Name "MOST_DEEDS" pos) (tC (.int 100)) := by
  obtain ⟨t, h⟩ := T.MOST
  exact pe_glob hg h ⟨t, rfl⟩
theorem Txt.peSMALL (T : Txt X.K X.mg) (hg : Gl X "SMALL") : PE X (.Name "SMALL" pos) (tC (.str "abcdefghijklmnopqrstuvwxyz")) := by
  obtain ⟨t, h⟩ := T.SMALL
  exact pe_glob hg h ⟨t, rfl⟩
theorem Txt.peKINDS (T : Txt X.K X.mg) (hg : Gl X "KINDS") : PE X (.Name "KINDS" pos) (tC (.ref (He.ga X.K "KINDS"))) := pe_glob hg T.KINDS rfl
theorem Txt.ty_int (T : Txt X.K X.mg) (hg : Gl X "int") : PE X (.Name "int" pos) (tC (.ty "int")) := pe_bltn hg T.int (by decide +kernel) rfl
theorem Txt.ty_bool (T : Txt X.K X.mg) (hg : Gl X "bool") : PE X (.Name "bool" pos) (tC (.ty "bool")) := pe_bltn hg T.bool (by decide +kernel) rfl
theorem Txt.ty_str (T : Txt X.K X.mg) (hg : Gl X "str") : PE X (.Name "str" pos) (tC (.ty "str")) := pe_bltn hg T.str (by decide +kernel) rfl
theorem Txt.ty_tuple (T : Txt X.K X.mg) (hg : Gl X "tuple") : PE X (.Name "tuple" pos) (tC (.ty "tuple")) := pe_bltn hg T.tuple (by decide +kernel) rfl
theorem Txt.ty_list (T : Txt X.K X.mg) (hg : Gl X "list") : PE X (.Name "list" pos) (tC (.ty "list")) := pe_bltn hg T.list (by decide +kernel) rfl
end
/-! ### one step -/
class Stp (B : Prop) (A : outParam Prop) : Prop where
  go : A → B
/-! ### heaps -/
abbrev Ex (H H' : Hp) : Prop := ∀ a o, H a = some o → H' a = some o
theorem Ex.rfl' {H : Hp} : Ex H H := fun _ _ h => h
theorem Ex.tr {H H1 H2 : Hp} (a : Ex H H1) (b : Ex H1 H2) : Ex H H2 := fun x o h => b x o (a x o h)
theorem Ex.new {H : Hp} {p : Addr} {o : HO} (h : H p = none) : Ex H (upd H p o) := fun a u e => by rw [upd_ne (ne_of_none e h)]; exact e
theorem Ex.back {H H' : Hp} {p : Addr} (e : Ex H H') (h : H' p = none) : H p = none := by
  cases h1 : H p with
  | none => rfl
  | some o => rw [e p o h1] at h; cases h
/-- all but what stands at l is kept -/
abbrev Mo (l : Addr) (H H' : Hp) : Prop := ∀ a o, a ≠ l → H a = some o → H' a = some o
theorem Mo.ex {l : Addr} {H0 H H' : Hp} (m : Mo l H H') (e : Ex H0 H) (n : H0 l = none) : Ex H0 H' := fun a o h => m a o (ne_of_none h n) (e a o h)
theorem Mo.of {l : Addr} {H : Hp} {o : HO} : Mo l H (upd H l o) := fun a u n e => by rw [upd_ne n]; exact e
theorem Ex.mo {l : Addr} {H H' : Hp} (e : Ex H H') : Mo l H H' := fun a o _ h => e a o h
theorem Mo.tr {l : Addr} {H H1 H2 : Hp} (a : Mo l H H1) (b : Mo l H1 H2) : Mo l H H2 := fun x o n h => b x o n (a x o n h)
theorem exSqL {K : PySem.W.Frag} {H H' : Hp} {a : Addr} {xs : List V} (e : Ex H H') (h : SqL K H a xs) : SqL K H' a xs := Evl.ex_l e h
theorem exSqT {K : PySem.W.Frag} {H H' : Hp} {a : Addr} {xs : List V} (e : Ex H H') (h : SqT K H a xs) : SqT K H' a xs := Evl.ex_t e h
/-- objects of different kinds stand apart -/
theorem nLT {H : Hp} {a b : Addr} {x y} (h : H a = some (.lst x)) (h' : H b = some (.tup y)) : a ≠ b := ne_of h h' (by intro q; cases q)
theorem nTL {H : Hp} {a b : Addr} {x y} (h : H a = some (.tup x)) (h' : H b = some (.lst y)) : a ≠ b := ne_of h h' (by intro q; cases q)
theorem nLK {H : Hp} {a b : Addr} {x y} (h : H a = some (.lst x)) (h' : H b = some (.dK y)) : a ≠ b := ne_of h h' (by intro q; cases q)
theorem nKL {H : Hp} {a b : Addr} {x y} (h : H a = some (.dK x)) (h' : H b = some (.lst y)) : a ≠ b := ne_of h h' (by intro q; cases q)
theorem nLD {H : Hp} {a b : Addr} {x y} (h : H a = some (.lst x)) (h' : H b = some (.dT y)) : a ≠ b := ne_of h h' (by intro q; cases q)
theorem nDL {H : Hp} {a b : Addr} {x y} (h : H a = some (.dT x)) (h' : H b = some (.lst y)) : a ≠ b := ne_of h h' (by intro q; cases q)
theorem nTK {H : Hp} {a b : Addr} {x y} (h : H a = some (.tup x)) (h' : H b = some (.dK y)) : a ≠ b := ne_of h h' (by intro q; cases q)
theorem nTD {H : Hp} {a b : Addr} {x y} (h : H a = some (.tup x)) (h' : H b = some (.dT y)) : a ≠ b := ne_of h h' (by intro q; cases q)
theorem nIL {H : Hp} {a b : Addr} {C d f y} (h : H a = some (.ins C d f)) (h' : H b = some (.lst y)) : a ≠ b := ne_of h h' (by intro q; cases q)
theorem nIK {H : Hp} {a b : Addr} {C d f y} (h : H a = some (.ins C d f)) (h' : H b = some (.dK y)) : a ≠ b := ne_of h h' (by intro q; cases q)
theorem nID {H : Hp} {a b : Addr} {C d f y} (h : H a = some (.ins C d f)) (h' : H b = some (.dT y)) : a ≠ b := ne_of h h' (by intro q; cases q)
theorem nKD {H : Hp} {a b : Addr} {x y} (h : H a = some (.dK x)) (h' : H b = some (.dT y)) : a ≠ b := ne_of h h' (by intro q; cases q)
theorem nDK {H : Hp} {a b : Addr} {x y} (h : H a = some (.dT x)) (h' : H b = some (.dK y)) : a ≠ b := ne_of h h' (by intro q; cases q)
theorem nTI {H : Hp} {a b : Addr} {x C d f} (h : H a = some (.tup x)) (h' : H b = some (.ins C d f)) : a ≠ b := ne_of h h' (by intro q; cases q)
theorem nLI {H : Hp} {a b : Addr} {x C d f} (h : H a = some (.lst x)) (h' : H b = some (.ins C d f)) : a ≠ b := ne_of h h' (by intro q; cases q)
theorem nKI {H : Hp} {a b : Addr} {x C d f} (h : H a = some (.dK x)) (h' : H b = some (.ins C d f)) : a ≠ b := ne_of h h' (by intro q; cases q)
theorem nDI {H : Hp} {a b : Addr} {x C d f} (h : H a = some (.dT x)) (h' : H b = some (.ins C d f)) : a ≠ b := ne_of h h' (by intro q; cases q)
/-- a new object -/
theorem a_new {H : Hp} {o : HO} {Q : VK} (k : ∀ p H', H p = none → Ex H H' → H' p = some o → Q (.ref p) H') : ∀ p, H p = none → Q (.ref p) (upd H p o) := fun p hp => k p _ hp (Ex.new hp) upd_same
/-- an object written -/
theorem a_upd {H : Hp} {l : Addr} {o : HO} {R : Hp → Prop} (k : ∀ H', Mo l H H' → H' l = some o → R H') : R (upd H l o) := k _ Mo.of upd_same

/-! ### data -/
abbrev iv (n : Nat) : V := .int (n : Int)
def TupN (H : Hp) (v : V) (ns : List Nat) : Prop := ∃ a, v = .ref a ∧ H a = some (.tup (ns.map iv))
theorem TupN.ex {H H' : Hp} {v : V} {ns : List Nat} (t : TupN H v ns) (e : Ex H H') : TupN H' v ns := let ⟨a, h1, h2⟩ := t; ⟨a, h1, e _ _ h2⟩
/-- tuples stay, whatever is written -/
abbrev Tp (H H' : Hp) : Prop := ∀ a xs, H a = some (.tup xs) → H' a = some (.tup xs)
theorem Ex.tp {H H' : Hp} (e : Ex H H') : Tp H H' := fun a xs h => e a _ h
theorem Mo.tp {l : Addr} {H H' : Hp} (m : Mo l H H') (n : ∀ xs, H l ≠ some (.tup xs)) : Tp H H' := fun a xs h => m a _ (fun q => n xs (q ▸ h)) h
theorem TupN.tp {H H' : Hp} {v : V} {ns : List Nat} (t : TupN H v ns) (e : Tp H H') : TupN H' v ns := let ⟨a, h1, h2⟩ := t; ⟨a, h1, e _ _ h2⟩

/-! ### what is known of a def, of a method, of a class -/
section
variable (P : Program) (w : World) (K : PySem.W.Frag) (mg : Str → Option Value) (base : Heap)
/-- the global def x keeps the promise -/
def Kn (CX : CXT) (k : Nat) (x : Str) (ps : List Str) (sp : Sp) : Prop :=
  ∃ (f : Addr) (fd : FuncData), FnOk P w K mg base CX k f fd ps sp ∧ mg x = some (.ref f) ∧ PySem.W.keepIn K (.ref f) = true ∧ Binds K fd ps []
/-- the method m of the class at C -/
def Km (CX : CXT) (k : Nat) (C : Addr) (m : Str) (ps : List Str) (sp : Sp) : Prop :=
  ∃ (f : Addr) (fd : FuncData), FnOk P w K mg base CX k f fd ps sp ∧ Cls K C ∧ Meth K C m f ∧ Binds K fd ps []
/-- the class x, made by its __init__ -/
def Kc (CX : CXT) (k : Nat) (C : Addr) (x : Str) (ps : List Str) (sp : Sp) : Prop :=
  ∃ (f : Addr) (fd : FuncData), FnOk P w K mg base CX k f fd ps sp ∧ Mk K C f ∧ mg x = some (.ref C) ∧ Binds K fd ps []
end
section
variable {X : Cx} {k : Nat} {x m : Str} {ps : List Str} {sp : Sp} {C : Addr} {e o : Expr} {es : List Expr} {t : TA} {to : TE} {p pos apos cpos : Pos}
theorem pe_kn (G : Kn X.prog X.w X.K X.mg X.base CX0 k x ps sp) (hr : Room k X.A) (hg : Gl X x) (ha : PA X (e :: es) t) (hdb : (x == ("__debug__" : Str)) = false := by decide)
    (he : starEach (e :: es) X.env = (false, eval e X.env) :: starEach es X.env := by rfl) (hpl : (backTo pos (starEach es X.env)).any (·.1) = false := by rfl) : PE X (.Call (.Name x p) (e :: es) [] pos) (tCall sp [] E0 t) := by
  obtain ⟨f, fd, F, hm, hk, hb⟩ := G
  exact pe_call F hr hg hm hk hb .nil pass0 ha hdb he hpl
theorem pe_km {pl : Sem Bool} (G : Km X.prog X.w X.K X.mg X.base CX0 k C m ps sp) (hr : Room k X.A) (ho : PE X o to) (ha : PA X (e :: es) t)
    (hst : starEach (e :: es) X.env = (false, eval e X.env) :: starEach es X.env := by rfl) (hpl : (backTo pos (starEach es X.env)).any (·.1) = false := by rfl)
    (ht : eval (.Call (.Attribute o m apos) (e :: es) [] pos) X.env = (do
      let ov ← eval o X.env
      standAt apos.atName
      let (f, first) ← holding [ov] (getMethod ov m pl)
      callWith pos f first (backTo pos (starEach (e :: es) X.env)) (backToKw pos (keywordEach [] X.env))) := by rfl) :
    PE X (.Call (.Attribute o m apos) (e :: es) [] pos) (tMeth C m sp [] E0 to t) := by
  obtain ⟨f, fd, F, c, hm, hb⟩ := G
  exact pe_meth ho c hm F hr hb .nil pass0 ha hst hpl ht
theorem pe_km0 {pl : Sem Bool} (G : Km X.prog X.w X.K X.mg X.base CX0 k C m ps sp) (hr : Room k X.A) (ho : PE X o to)
    (ht : eval (.Call (.Attribute o m apos) [] [] pos) X.env = (do
      let ov ← eval o X.env
      standAt apos.atName
      let (f, first) ← holding [ov] (getMethod ov m pl)
      callWith pos f first (backTo pos (starEach [] X.env)) (backToKw pos (keywordEach [] X.env))) := by rfl) :
    PE X (.Call (.Attribute o m apos) [] [] pos) (tMeth C m sp [] E0 to tNil) := by
  obtain ⟨f, fd, F, c, hm, hb⟩ := G
  exact pe_meth0 ho c hm F hr hb .nil pass0 ht
theorem pe_mk (G : Kc X.prog X.w X.K X.mg X.base CX0 k C x ps sp) (hr : Room (k + 1) X.A) (hg : Gl X x) (ha : PA X (e :: es) t) (hdb : (x == ("__debug__" : Str)) = false := by decide)
    (he : starEach (e :: es) X.env = (false, eval e X.env) :: starEach es X.env := by rfl) (hpl : (backTo pos (starEach es X.env)).any (·.1) = false := by rfl) : PE X (.Call (.Name x p) (e :: es) [] pos) (tMake C sp [] E0 t) := by
  obtain ⟨f, fd, F, hM, hm, hb⟩ := G
  exact pe_make hM F hr hg hm hb .nil pass0 ha hdb he hpl
theorem pe_dispK {keys : List (Option Expr)} {values : List Expr} {trs : List (TE × TE)} (h : PPs X pos keys values trs) (hall : keys.all (·.isSome) = true := by rfl) (hl : keys.length = values.length := by rfl) (h0 : keys ≠ [] := by intro z; cases z)
    (h15 : keys.length ≤ 15 := by decide) : PE X (.Dict keys values pos) (tDisp trs) := pe_disp h hall hl h0 h15
end

/-! ### the readings, step by step -/
section
variable {K : PySem.W.Frag} {σ : L2.St} {H : Hp} {ta tb tc te td ty tv tx : TE} {tr : TA} {t u tt : TT} {x y z v : V} {r : R2} {Q : VK} {i j : Int} {D : Ends} {ts tu : TS} {f : Str} {vs xs : List V} {g : TG}
theorem w_var {n : Nat} (h : σ[n]? = some (some v)) (k : Q v H) : tVar n σ H Q := ⟨v, h, k⟩
theorem w_c (k : Q v H) : tC v σ H Q := k
instance : Stp (tC v σ H Q) (Q v H) := ⟨w_c⟩
def kOp (r : R2) (tb : TE) (σ : L2.St) (Q : VK) : VK := fun x H1 => tb σ H1 fun y H2 => r x y H2 Q
def kOp2 (r : R2) (x : V) (Q : VK) : VK := fun y H2 => r x y H2 Q
theorem w_op (h : ta σ H (kOp r tb σ Q)) : tOp r ta tb σ H Q := h
instance : Stp (tOp r ta tb σ H Q) (ta σ H (kOp r tb σ Q)) := ⟨w_op⟩
theorem k_op (h : tb σ H (kOp2 r x Q)) : kOp r tb σ Q x H := h
instance : Stp (kOp r tb σ Q x H) (tb σ H (kOp2 r x Q)) := ⟨k_op⟩
theorem k_op2 (h : r x y H Q) : kOp2 r x Q y H := h
instance : Stp (kOp2 r x Q y H) (r x y H Q) := ⟨k_op2⟩
theorem r_add (k : Q (.int (i + j)) H) : rI0 (fun i j => V.int (i + j)) (.int i) (.int j) H Q := ⟨i, j, rfl, rfl, k⟩
instance : Stp (rI0 (fun i j => V.int (i + j)) (.int i) (.int j) H Q) (Q (.int (i + j)) H) := ⟨r_add⟩
theorem r_sub (k : Q (.int (i - j)) H) : rI0 (fun i j => V.int (i - j)) (.int i) (.int j) H Q := ⟨i, j, rfl, rfl, k⟩
instance : Stp (rI0 (fun i j => V.int (i - j)) (.int i) (.int j) H Q) (Q (.int (i - j)) H) := ⟨r_sub⟩
theorem r_lt (k : Q (.bl (decide (i < j))) H) : rI0 (fun i j => V.bl (decide (i < j))) (.int i) (.int j) H Q := ⟨i, j, rfl, rfl, k⟩
instance : Stp (rI0 (fun i j => V.bl (decide (i < j))) (.int i) (.int j) H Q) (Q (.bl (decide (i < j))) H) := ⟨r_lt⟩
theorem r_le (k : Q (.bl (decide (i ≤ j))) H) : rI0 (fun i j => V.bl (decide (i ≤ j))) (.int i) (.int j) H Q := ⟨i, j, rfl, rfl, k⟩
instance : Stp (rI0 (fun i j => V.bl (decide (i ≤ j))) (.int i) (.int j) H Q) (Q (.bl (decide (i ≤ j))) H) := ⟨r_le⟩
theorem r_gt (k : Q (.bl (decide (j < i))) H) : rI0 (fun i j => V.bl (decide (j < i))) (.int i) (.int j) H Q := ⟨i, j, rfl, rfl, k⟩
instance : Stp (rI0 (fun i j => V.bl (decide (j < i))) (.int i) (.int j) H Q) (Q (.bl (decide (j < i))) H) := ⟨r_gt⟩
theorem r_ge (k : Q (.bl (decide (j ≤ i))) H) : rI0 (fun i j => V.bl (decide (j ≤ i))) (.int i) (.int j) H Q := ⟨i, j, rfl, rfl, k⟩
instance : Stp (rI0 (fun i j => V.bl (decide (j ≤ i))) (.int i) (.int j) H Q) (Q (.bl (decide (j ≤ i))) H) := ⟨r_ge⟩
theorem r_mul (c : CMul i j) (k : Q (.int (i * j)) H) : rI CMul (fun i j => V.int (i * j)) (.int i) (.int j) H Q := ⟨i, j, rfl, rfl, c, k⟩
theorem r_fdiv (c : CDiv i j) (k : Q (.int (i / j)) H) : rI CDiv (fun i j => V.int (i / j)) (.int i) (.int j) H Q := ⟨i, j, rfl, rfl, c, k⟩
theorem r_mod (c : 0 < j) (k : Q (.int (i % j)) H) : rI (fun _ j => 0 < j) (fun i j => V.int (i % j)) (.int i) (.int j) H Q := ⟨i, j, rfl, rfl, c, k⟩
theorem r_eq (c : scal x y = true) (k : Q (.bl (decide (x = y))) H) : rEq x y H Q := ⟨c, k⟩
theorem r_ne (c : scal x y = true) (k : Q (.bl (!decide (x = y))) H) : rNe x y H Q := ⟨c, k⟩
theorem r_eqI (k : Q (.bl (decide (i = j))) H) : rEq (.int i) (.int j) H Q := ⟨rfl, by
  have e : decide (V.int i = V.int j) = decide (i = j) := by
    by_cases h : i = j
    · subst h; simp
    · rw [decide_eq_false h, decide_eq_false]; intro q; cases q; exact h rfl
  rw [e]; exact k⟩
instance : Stp (rEq (.int i) (.int j) H Q) (Q (.bl (decide (i = j))) H) := ⟨r_eqI⟩
theorem r_neI (k : Q (.bl (!decide (i = j))) H) : rNe (.int i) (.int j) H Q := ⟨rfl, by
  have e : decide (V.int i = V.int j) = decide (i = j) := by
    by_cases h : i = j
    · subst h; simp
    · rw [decide_eq_false h, decide_eq_false]; intro q; cases q; exact h rfl
  rw [e]; exact k⟩
instance : Stp (rNe (.int i) (.int j) H Q) (Q (.bl (!decide (i = j))) H) := ⟨r_neI⟩
theorem r_eqS {a b : Str} (k : Q (.bl (decide (a = b))) H) : rEq (.str a) (.str b) H Q := ⟨rfl, by
  have e : decide (V.str a = V.str b) = decide (a = b) := by
    by_cases h : a = b
    · subst h; simp
    · rw [decide_eq_false h, decide_eq_false]; intro q; cases q; exact h rfl
  rw [e]; exact k⟩
instance {a b : Str} : Stp (rEq (.str a) (.str b) H Q) (Q (.bl (decide (a = b))) H) := ⟨r_eqS⟩
/-- texts -/
def rAddT : R2 := fun x y H Q => ∃ i j, x = .str i ∧ y = .str j ∧ i.length + j.length ≤ sizeLine ∧ Q (.str (i ++ j)) H
theorem op_addT {X : Cx} : OpR X (binaryOp .Add) rAddT := op_add_str
theorem r_addT {a b : Str} (c : a.length + b.length ≤ sizeLine) (k : Q (.str (a ++ b)) H) : rAddT (.str a) (.str b) H Q := ⟨a, b, rfl, rfl, c, k⟩
def rLtS : R2 := fun x y H Q => ∃ i j, x = .str i ∧ y = .str j ∧ Q (.bl (decide (i.cps.toList < j.cps.toList))) H
theorem op_ltS {X : Cx} : OpR X (compareOp .Lt) rLtS := op_lt_str
theorem r_ltS {a b : Str} (k : Q (.bl (decide (a.cps.toList < b.cps.toList))) H) : rLtS (.str a) (.str b) H Q := ⟨a, b, rfl, rfl, k⟩
instance {a b : Str} : Stp (rLtS (.str a) (.str b) H Q) (Q (.bl (decide (a.cps.toList < b.cps.toList))) H) := ⟨r_ltS⟩
theorem r_inS {c : Nat} {a : Str} (k : Q (.bl (decide (c ∈ a.cps.toList))) H) : rInS (.str ⟨#[c]⟩) (.str a) H Q := ⟨c, a, rfl, rfl, k⟩
instance {c : Nat} {a : Str} : Stp (rInS (.str ⟨#[c]⟩) (.str a) H Q) (Q (.bl (decide (c ∈ a.cps.toList))) H) := ⟨r_inS⟩
theorem r_notInS {c : Nat} {a : Str} (k : Q (.bl (!decide (c ∈ a.cps.toList))) H) : rNotInS (.str ⟨#[c]⟩) (.str a) H Q := ⟨c, a, rfl, rfl, k⟩
instance {c : Nat} {a : Str} : Stp (rNotInS (.str ⟨#[c]⟩) (.str a) H Q) (Q (.bl (!decide (c ∈ a.cps.toList))) H) := ⟨r_notInS⟩
theorem r_ixL {a : Addr} {n : Nat} (h : SqL K H a xs) (e : xs[n]? = some v) (k : Q v H) : rIxL K (.ref a) (.int (n : Int)) H Q := ⟨a, xs, _, v, rfl, rfl, h, atI_nat e, k⟩
theorem r_ixT {a : Addr} {n : Nat} (h : SqT K H a xs) (e : xs[n]? = some v) (k : Q v H) : rIxT K (.ref a) (.int (n : Int)) H Q := ⟨a, xs, _, v, rfl, rfl, h, atI_nat e, k⟩
/-- a list or a tuple that is read -/
def Sq (K : PySem.W.Frag) (H : Hp) (a : Addr) (xs : List V) : Prop := SqL K H a xs ∨ SqT K H a xs
theorem Sq.ex {H H' : Hp} {a : Addr} (h : Sq K H a xs) (e : Ex H H') : Sq K H' a xs := h.elim (fun z => .inl (exSqL e z)) fun z => .inr (exSqT e z)
theorem r_ixS {a : Addr} {n : Nat} (h : Sq K H a xs) (e : xs[n]? = some v) (k : Q v H) : rIx K (.ref a) (.int (n : Int)) H Q :=
  h.elim (fun z => .inl (r_ixL z e k)) fun z => .inr (.inl (r_ixT z e k))
def kFld (K : PySem.W.Frag) (f : Str) (Q : VK) : VK := fun x H1 => ∃ a C dx fs v, x = .ref a ∧ H1 a = some (.ins C dx fs) ∧ Cls K C ∧ NoAttr K C f ∧ fs.lookup f = some v ∧ Q v H1
theorem w_fld (h : ta σ H (kFld K f Q)) : tFld K ta f σ H Q := h
instance : Stp (tFld K ta f σ H Q) (ta σ H (kFld K f Q)) := ⟨w_fld⟩
theorem k_fld {a C dx : Addr} {fs : List (Str × V)} (h : H a = some (.ins C dx fs)) (c : Cls K C) (n : NoAttr K C f) (l : fs.lookup f = some v) (k : Q v H) : kFld K f Q (.ref a) H := ⟨a, C, dx, fs, v, rfl, h, c, n, l, k⟩
/-- arguments -/
def kC1 (tr : TA) (σ : L2.St) (Q : List V → Hp → Prop) : VK := fun x H1 => tr σ H1 fun xs H2 => Q (x :: xs) H2
def kC2 (x : V) (Q : List V → Hp → Prop) : List V → Hp → Prop := fun xs H2 => Q (x :: xs) H2
theorem w_nil {Q : List V → Hp → Prop} (k : Q [] H) : tNil σ H Q := k
instance {Q : List V → Hp → Prop} : Stp (tNil σ H Q) (Q [] H) := ⟨w_nil⟩
theorem w_cons {Q : List V → Hp → Prop} (h : ta σ H (kC1 tr σ Q)) : tCons ta tr σ H Q := h
instance {Q : List V → Hp → Prop} : Stp (tCons ta tr σ H Q) (ta σ H (kC1 tr σ Q)) := ⟨w_cons⟩
theorem k_c1 {Q : List V → Hp → Prop} (h : tr σ H (kC2 x Q)) : kC1 tr σ Q x H := h
instance {Q : List V → Hp → Prop} : Stp (kC1 tr σ Q x H) (tr σ H (kC2 x Q)) := ⟨k_c1⟩
theorem k_c2 {Q : List V → Hp → Prop} (h : Q (x :: xs) H) : kC2 x Q xs H := h
instance {Q : List V → Hp → Prop} : Stp (kC2 x Q xs H) (Q (x :: xs) H) := ⟨k_c2⟩
def kTp (Q : VK) : List V → Hp → Prop := fun xs H1 => xs.length ≤ sizeLine ∧ ∀ p, H1 p = none → Q (.ref p) (upd H1 p (.tup xs))
theorem w_tup (h : tr σ H (kTp Q)) : tTup tr σ H Q := h
instance : Stp (tTup tr σ H Q) (tr σ H (kTp Q)) := ⟨w_tup⟩
theorem k_tup (c : xs.length ≤ sizeLine) (k : ∀ p H', H p = none → Ex H H' → H' p = some (.tup xs) → Q (.ref p) H') : kTp Q xs H := ⟨c, a_new k⟩
def kLs (Q : VK) : List V → Hp → Prop := fun xs H1 => xs.length ≤ sizeLine ∧ ∀ p, H1 p = none → Q (.ref p) (upd H1 p (.lst xs))
theorem w_lst (h : tr σ H (kLs Q)) : tLst tr σ H Q := h
instance : Stp (tLst tr σ H Q) (tr σ H (kLs Q)) := ⟨w_lst⟩
theorem k_lst (c : xs.length ≤ sizeLine) (k : ∀ p H', H p = none → Ex H H' → H' p = some (.lst xs) → Q (.ref p) H') : kLs Q xs H := ⟨c, a_new k⟩
/-- calls -/
def kCall (sp : Sp) (dvs : List V) (E : XK) (Q : VK) : List V → Hp → Prop := fun vs H1 => sp (vs ++ dvs) H1 Q E
theorem w_call {sp : Sp} {dvs : List V} {E : XK} (h : tr σ H (kCall sp dvs E Q)) : tCall sp dvs E tr σ H Q := h
instance {sp : Sp} {dvs : List V} {E : XK} : Stp (tCall sp dvs E tr σ H Q) (tr σ H (kCall sp dvs E Q)) := ⟨w_call⟩
theorem k_call {sp : Sp} {E : XK} (h : sp vs H Q E) : kCall sp [] E Q vs H := by
  show sp (vs ++ []) H Q E
  rw [List.append_nil]; exact h
instance {sp : Sp} {E : XK} : Stp (kCall sp [] E Q vs H) (sp vs H Q E) := ⟨k_call⟩
def kMeth (C : Addr) (m : Str) (sp : Sp) (dvs : List V) (E : XK) (tr : TA) (σ : L2.St) (Q : VK) : VK := fun x H1 => ∃ a dx fs, x = .ref a ∧ H1 a = some (.ins C dx fs) ∧ fs.lookup m = none ∧ tr σ H1 fun vs H2 => sp (x :: (vs ++ dvs)) H2 Q E
def kMeth2 (sp : Sp) (x : V) (E : XK) (Q : VK) : List V → Hp → Prop := fun vs H2 => sp (x :: (vs ++ [])) H2 Q E
theorem w_meth {C : Addr} {m : Str} {sp : Sp} {dvs : List V} {E : XK} (h : ta σ H (kMeth C m sp dvs E tr σ Q)) : tMeth C m sp dvs E ta tr σ H Q := h
instance {C : Addr} {m : Str} {sp : Sp} {dvs : List V} {E : XK} : Stp (tMeth C m sp dvs E ta tr σ H Q) (ta σ H (kMeth C m sp dvs E tr σ Q)) := ⟨w_meth⟩
theorem k_meth {C a dx : Addr} {m : Str} {sp : Sp} {E : XK} {fs : List (Str × V)} (h : H a = some (.ins C dx fs)) (l : fs.lookup m = none) (k : tr σ H (kMeth2 sp (.ref a) E Q)) : kMeth C m sp [] E tr σ Q (.ref a) H := ⟨a, dx, fs, rfl, h, l, k⟩
theorem k_meth2 {sp : Sp} {E : XK} (h : sp (x :: vs) H Q E) : kMeth2 sp x E Q vs H := by
  show sp (x :: (vs ++ [])) H Q E
  rw [List.append_nil]; exact h
instance {sp : Sp} {E : XK} : Stp (kMeth2 sp x E Q vs H) (sp (x :: vs) H Q E) := ⟨k_meth2⟩
def kMake (C : Addr) (sp : Sp) (dvs : List V) (E : XK) (Q : VK) : List V → Hp → Prop := fun vs H1 => ∀ x dx, H1 x = none → H1 dx = none → dx ≠ x → sp (.ref x :: (vs ++ dvs)) (upd (upd H1 dx (.own x)) x (.ins C dx [])) (fun v H2 => v = .non ∧ Q (.ref x) H2) E
theorem w_make {C : Addr} {sp : Sp} {dvs : List V} {E : XK} (h : tr σ H (kMake C sp dvs E Q)) : tMake C sp dvs E tr σ H Q := h
instance {C : Addr} {sp : Sp} {dvs : List V} {E : XK} : Stp (tMake C sp dvs E tr σ H Q) (tr σ H (kMake C sp dvs E Q)) := ⟨w_make⟩
theorem k_make {C : Addr} {sp : Sp} {E : XK} (k : ∀ x dx H', H x = none → H dx = none → dx ≠ x → Ex H H' → H' x = some (.ins C dx []) → H' dx = some (.own x) → sp (.ref x :: vs) H' (fun v H2 => v = .non ∧ Q (.ref x) H2) E) : kMake C sp [] E Q vs H := by
  intro x dx hx hdx ne
  show sp (.ref x :: (vs ++ [])) _ _ _
  rw [List.append_nil]
  exact k x dx _ hx hdx ne (fun a o e => by rw [upd_ne (ne_of_none e hx), upd_ne (ne_of_none e hdx)]; exact e) upd_same (by rw [upd_ne ne]; exact upd_same)
def kCB (r : List V → Hp → VK → Prop) (Q : VK) : List V → Hp → Prop := fun vs H1 => r vs H1 Q
theorem w_cb {r : List V → Hp → VK → Prop} (h : tr σ H (kCB r Q)) : tCB r tr σ H Q := h
instance {r : List V → Hp → VK → Prop} : Stp (tCB r tr σ H Q) (tr σ H (kCB r Q)) := ⟨w_cb⟩
theorem k_cb {r : List V → Hp → VK → Prop} (h : r vs H Q) : kCB r Q vs H := h
instance {r : List V → Hp → VK → Prop} : Stp (kCB r Q vs H) (r vs H Q) := ⟨k_cb⟩
/-- len, list(..) -/
def rLenS (K : PySem.W.Frag) : List V → Hp → VK → Prop := fun xs H Q => ∃ p ys, xs = [.ref p] ∧ (SqL K H p ys ∨ SqT K H p ys) ∧ Q (.int ys.length) H
theorem call_lenS {X : Cx} : CallR X (.builtin "len") (rLenS X.K) := call_len_seq
theorem r_len {a : Addr} (h : Sq K H a xs) (k : Q (iv xs.length) H) : rLenS K [.ref a] H Q := ⟨a, xs, rfl, h, k⟩
def rLenT : List V → Hp → VK → Prop := fun xs H Q => ∃ z, xs = [.str z] ∧ z.length ≤ sizeLine ∧ Q (.int z.length) H
theorem call_lenT {X : Cx} : CallR X (.builtin "len") rLenT := call_len_str
theorem r_lenT {a : Str} (c : a.length ≤ sizeLine) (k : Q (iv a.length) H) : rLenT [.str a] H Q := ⟨a, rfl, c, k⟩
def rListS (K : PySem.W.Frag) : List V → Hp → VK → Prop := fun xs H Q => ∃ p ys, xs = [.ref p] ∧ (SqL K H p ys ∨ SqT K H p ys) ∧ ∀ l, H l = none → Q (.ref l) (upd H l (.lst ys))
theorem call_listS {X : Cx} : CallR X (.type "list") (rListS X.K) := call_list_of
theorem r_list {a : Addr} (h : Sq K H a xs) (k : ∀ p H', H p = none → Ex H H' → H' p = some (.lst xs) → Q (.ref p) H') : rListS K [.ref a] H Q := ⟨a, xs, rfl, h, a_new k⟩
def rIntS : List V → Hp → VK → Prop := fun xs H Q => (∃ i, xs = [.int i] ∧ Q (.int i) H) ∨ ∃ k, xs = [.bl k] ∧ Q (.int (if k then 1 else 0)) H
theorem call_intS {X : Cx} : CallR X (.type "int") rIntS := call_int1
theorem r_int (k : Q (.int i) H) : rIntS [.int i] H Q := .inl ⟨i, rfl, k⟩
instance : Stp (rIntS [.int i] H Q) (Q (.int i) H) := ⟨r_int⟩
theorem r_intB {b : Bool} (k : Q (.int (if b then 1 else 0)) H) : rIntS [.bl b] H Q := .inr ⟨b, rfl, k⟩
instance {b : Bool} : Stp (rIntS [.bl b] H Q) (Q (.int (if b then 1 else 0)) H) := ⟨r_intB⟩
def rAbs : List V → Hp → VK → Prop := fun xs H Q => ∃ i, xs = [.int i] ∧ Q (.int (if i < 0 then -i else i)) H
theorem call_absS {X : Cx} : CallR X (.builtin "abs") rAbs := call_abs
theorem r_abs (k : Q (.int (if i < 0 then -i else i)) H) : rAbs [.int i] H Q := ⟨i, rfl, k⟩
instance : Stp (rAbs [.int i] H Q) (Q (.int (if i < 0 then -i else i)) H) := ⟨r_abs⟩
def rMax2 : List V → Hp → VK → Prop := fun xs H Q => ∃ i j, xs = [.int i, .int j] ∧ Q (.int (if j > i then j else i)) H
theorem call_maxS {X : Cx} (hc : X.calm = true) : CallR X (.builtin "max") rMax2 := call_max2 hc
theorem r_max (k : Q (.int (if j > i then j else i)) H) : rMax2 [.int i, .int j] H Q := ⟨i, j, rfl, k⟩
instance : Stp (rMax2 [.int i, .int j] H Q) (Q (.int (if j > i then j else i)) H) := ⟨r_max⟩
def rMin2 : List V → Hp → VK → Prop := fun xs H Q => ∃ i j, xs = [.int i, .int j] ∧ Q (.int (if j < i then j else i)) H
theorem call_minS {X : Cx} (hc : X.calm = true) : CallR X (.builtin "min") rMin2 := call_min2 hc
theorem r_min (k : Q (.int (if j < i then j else i)) H) : rMin2 [.int i, .int j] H Q := ⟨i, j, rfl, k⟩
instance : Stp (rMin2 [.int i, .int j] H Q) (Q (.int (if j < i then j else i)) H) := ⟨r_min⟩
theorem r_any {a : Addr} {bs : List Bool} (h : SqL K H a (bs.map V.bl)) (k : Q (.bl (bs.any id)) H) : rAny K [.ref a] H Q := ⟨a, bs, rfl, h, k⟩
theorem r_all {a : Addr} {bs : List Bool} (h : SqL K H a (bs.map V.bl)) (k : Q (.bl (bs.all id)) H) : rAll K [.ref a] H Q := ⟨a, bs, rfl, h, k⟩
/-- tuple(..) -/
def kThen (k : V → Hp → VK → Prop) (Q : VK) : VK := fun x H1 => k x H1 Q
theorem w_then {k : V → Hp → VK → Prop} (h : ta σ H (kThen k Q)) : tThen ta k σ H Q := h
instance {k : V → Hp → VK → Prop} : Stp (tThen ta k σ H Q) (ta σ H (kThen k Q)) := ⟨w_then⟩
theorem k_tupleL {a : Addr} (h : SqL K H a xs) (k : ∀ p H', H p = none → Ex H H' → H' p = some (.tup xs) → Q (.ref p) H') : kThen (kTup K) Q (.ref a) H := .inl ⟨a, xs, rfl, h, a_new k⟩
/-- methods of built-in types -/
def kBM (K : PySem.W.Frag) (T : String) (r : V → List V → Hp → VK → Prop) (tr : TA) (σ : L2.St) (Q : VK) : VK := fun x H1 => tyV K T x H1 ∧ tr σ H1 fun xs H2 => r x xs H2 Q
def kBM2 (r : V → List V → Hp → VK → Prop) (x : V) (Q : VK) : List V → Hp → Prop := fun xs H2 => r x xs H2 Q
theorem w_bm {T : String} {r : V → List V → Hp → VK → Prop} (h : ta σ H (kBM K T r tr σ Q)) : tBM K T r ta tr σ H Q := h
instance {T : String} {r : V → List V → Hp → VK → Prop} : Stp (tBM K T r ta tr σ H Q) (ta σ H (kBM K T r tr σ Q)) := ⟨w_bm⟩
theorem k_bmL {a : Addr} {r : V → List V → Hp → VK → Prop} (h : SqL K H a xs) (k : tr σ H (kBM2 r (.ref a) Q)) : kBM K "list" r tr σ Q (.ref a) H := ⟨.inl ⟨rfl, _, h⟩, k⟩
theorem k_bmS {a : Str} {r : V → List V → Hp → VK → Prop} (k : tr σ H (kBM2 r (.str a) Q)) : kBM K "str" r tr σ Q (.str a) H := ⟨rfl, k⟩
instance {a : Str} {r : V → List V → Hp → VK → Prop} : Stp (kBM K "str" r tr σ Q (.str a) H) (tr σ H (kBM2 r (.str a) Q)) := ⟨k_bmS⟩
theorem k_bm2 {r : V → List V → Hp → VK → Prop} (h : r x xs H Q) : kBM2 r x Q xs H := h
instance {r : V → List V → Hp → VK → Prop} : Stp (kBM2 r x Q xs H) (r x xs H Q) := ⟨k_bm2⟩
def kBM0 (K : PySem.W.Frag) (T : String) (r : V → List V → Hp → VK → Prop) (Q : VK) : VK := fun x H1 => tyV K T x H1 ∧ r x [] H1 Q
theorem w_bm0 {T : String} {r : V → List V → Hp → VK → Prop} (h : ta σ H (kBM0 K T r Q)) : tBM0 K T r ta σ H Q := h
instance {T : String} {r : V → List V → Hp → VK → Prop} : Stp (tBM0 K T r ta σ H Q) (ta σ H (kBM0 K T r Q)) := ⟨w_bm0⟩
theorem k_bm0L {a : Addr} {r : V → List V → Hp → VK → Prop} (h : SqL K H a xs) (k : r (.ref a) [] H Q) : kBM0 K "list" r Q (.ref a) H := ⟨.inl ⟨rfl, _, h⟩, k⟩
theorem r_append {l : Addr} (h : H l = some (.lst xs)) (c : xs.length < sizeLine) (k : ∀ H', Mo l H H' → H' l = some (.lst (xs ++ [y])) → Q .non H') : rAppend (.ref l) [y] H Q := ⟨l, xs, y, rfl, rfl, h, c, a_upd (R := fun H' => Q .non H') k⟩
theorem r_pop {l : Addr} (h : H l = some (.lst (xs ++ [y]))) (k : ∀ H', Mo l H H' → H' l = some (.lst xs) → Q y H') : rPop (.ref l) [] H Q :=
  ⟨l, xs ++ [y], y, rfl, rfl, h, by simp, by
    have e : (xs ++ [y]).dropLast = xs := by simp
    rw [e]
    exact a_upd (R := fun H' => Q y H') k⟩
/-- dicts -/
def kDG (ty : TE) (σ : L2.St) (Q : VK) : VK := fun x H1 => ty σ H1 fun y H2 => ∃ a v, x = .ref a ∧ DGet H2 a y (some v) ∧ Q v H2
def kDG2 (x : V) (Q : VK) : VK := fun y H2 => ∃ a v, x = .ref a ∧ DGet H2 a y (some v) ∧ Q v H2
theorem w_dget (h : td σ H (kDG ty σ Q)) : tDGet td ty σ H Q := h
instance : Stp (tDGet td ty σ H Q) (td σ H (kDG ty σ Q)) := ⟨w_dget⟩
theorem k_dg (h : ty σ H (kDG2 x Q)) : kDG ty σ Q x H := h
instance : Stp (kDG ty σ Q x H) (ty σ H (kDG2 x Q)) := ⟨k_dg⟩
theorem k_dg2K {a : Addr} {kvs : List (Key × V)} (h : H a = some (.dK kvs)) (e : valV kvs (.inl i) = some v) (k : Q v H) : kDG2 (.ref a) Q (.int i) H := ⟨a, v, rfl, by rw [← e]; exact DGet.k (k := .inl i) h, k⟩
theorem k_dg2S {a : Addr} {s : Str} {kvs : List (Key × V)} (h : H a = some (.dK kvs)) (e : valV kvs (.inr s) = some v) (k : Q v H) : kDG2 (.ref a) Q (.str s) H := ⟨a, v, rfl, by rw [← e]; exact DGet.k (k := .inr s) h, k⟩
theorem k_dg2T {a b : Addr} {ks : List Key} {kvs : List (List Key × V)} (h : H a = some (.dT kvs)) (hb : H b = some (.tup (ks.map kV))) (e : valV kvs ks = some v) (k : Q v H) : kDG2 (.ref a) Q (.ref b) H := ⟨a, v, rfl, by rw [← e]; exact DGet.t h hb, k⟩
def kDI (td : TE) (n : Bool) (σ : L2.St) (Q : VK) : VK := fun y H1 => td σ H1 fun x H2 => ∃ a o, x = .ref a ∧ DGet H2 a y o ∧ Q (.bl (if n then !o.isSome else o.isSome)) H2
def kDI2 (n : Bool) (y : V) (Q : VK) : VK := fun x H2 => ∃ a o, x = .ref a ∧ DGet H2 a y o ∧ Q (.bl (if n then !o.isSome else o.isSome)) H2
theorem w_din (h : ty σ H (kDI td false σ Q)) : tDIn ty td σ H Q := h
instance : Stp (tDIn ty td σ H Q) (ty σ H (kDI td false σ Q)) := ⟨w_din⟩
theorem w_dnotin (h : ty σ H (kDI td true σ Q)) : tDNotIn ty td σ H Q := h
instance : Stp (tDNotIn ty td σ H Q) (ty σ H (kDI td true σ Q)) := ⟨w_dnotin⟩
theorem k_di {n : Bool} (h : td σ H (kDI2 n y Q)) : kDI td n σ Q y H := h
instance {n : Bool} : Stp (kDI td n σ Q y H) (td σ H (kDI2 n y Q)) := ⟨k_di⟩
theorem k_di2K {n : Bool} {a : Addr} {kvs : List (Key × V)} (h : H a = some (.dK kvs)) (k : Q (.bl (if n then !(valV kvs (.inl i)).isSome else (valV kvs (.inl i)).isSome)) H) : kDI2 n (.int i) Q (.ref a) H := ⟨a, _, rfl, DGet.k (k := .inl i) h, k⟩
theorem k_di2S {n : Bool} {a : Addr} {s : Str} {kvs : List (Key × V)} (h : H a = some (.dK kvs)) (k : Q (.bl (if n then !(valV kvs (.inr s)).isSome else (valV kvs (.inr s)).isSome)) H) : kDI2 n (.str s) Q (.ref a) H := ⟨a, _, rfl, DGet.k (k := .inr s) h, k⟩
theorem k_di2T {n : Bool} {a b : Addr} {ks : List Key} {kvs : List (List Key × V)} (h : H a = some (.dT kvs)) (hb : H b = some (.tup (ks.map kV))) (k : Q (.bl (if n then !(valV kvs ks).isSome else (valV kvs ks).isSome)) H) : kDI2 n (.ref b) Q (.ref a) H := ⟨a, _, rfl, DGet.t h hb, k⟩
theorem w_dnewK (k : ∀ p H', H p = none → Ex H H' → H' p = some (.dK []) → Q (.ref p) H') : tDNewK σ H Q := a_new k
theorem w_dnewT (k : ∀ p H', H p = none → Ex H H' → H' p = some (.dT []) → Q (.ref p) H') : tDNewT σ H Q := a_new k
/-- tests -/
def kB (Q : Bool → Hp → Prop) : VK := fun x H1 => ∃ c, x = .bl c ∧ Q c H1
theorem w_b {Q : Bool → Hp → Prop} (h : te σ H (kB Q)) : tB te σ H Q := h
instance {Q : Bool → Hp → Prop} : Stp (tB te σ H Q) (te σ H (kB Q)) := ⟨w_b⟩
theorem w_test {Q : Bool → Hp → Prop} (h : te σ H (kB Q)) : tTest te σ H Q := h
instance {Q : Bool → Hp → Prop} : Stp (tTest te σ H Q) (te σ H (kB Q)) := ⟨w_test⟩
theorem k_b {b : Bool} {Q : Bool → Hp → Prop} (k : Q b H) : kB Q (.bl b) H := ⟨b, rfl, k⟩
instance {b : Bool} {Q : Bool → Hp → Prop} : Stp (kB Q (.bl b) H) (Q b H) := ⟨k_b⟩
def kAnd (u : TT) (σ : L2.St) (Q : Bool → Hp → Prop) : Bool → Hp → Prop := fun c H1 => if c = true then u σ H1 Q else Q false H1
def kOr (u : TT) (σ : L2.St) (Q : Bool → Hp → Prop) : Bool → Hp → Prop := fun c H1 => if c = true then Q true H1 else u σ H1 Q
def kNot (Q : Bool → Hp → Prop) : Bool → Hp → Prop := fun c H1 => Q (!c) H1
theorem w_and {Q : Bool → Hp → Prop} (h : t σ H (kAnd u σ Q)) : tAnd t u σ H Q := h
instance {Q : Bool → Hp → Prop} : Stp (tAnd t u σ H Q) (t σ H (kAnd u σ Q)) := ⟨w_and⟩
theorem w_or {Q : Bool → Hp → Prop} (h : t σ H (kOr u σ Q)) : tOr t u σ H Q := h
instance {Q : Bool → Hp → Prop} : Stp (tOr t u σ H Q) (t σ H (kOr u σ Q)) := ⟨w_or⟩
theorem w_not {Q : Bool → Hp → Prop} (h : t σ H (kNot Q)) : tNot t σ H Q := h
instance {Q : Bool → Hp → Prop} : Stp (tNot t σ H Q) (t σ H (kNot Q)) := ⟨w_not⟩
theorem k_not {b : Bool} {Q : Bool → Hp → Prop} (h : Q (!b) H) : kNot Q b H := h
instance {b : Bool} {Q : Bool → Hp → Prop} : Stp (kNot Q b H) (Q (!b) H) := ⟨k_not⟩
theorem k_and {b : Bool} {Q : Bool → Hp → Prop} (h1 : b = true → u σ H Q) (h2 : b = false → Q false H) : kAnd u σ Q b H := by
  unfold kAnd
  cases b with
  | true => exact h1 rfl
  | false => exact h2 rfl
theorem k_or {b : Bool} {Q : Bool → Hp → Prop} (h1 : b = true → Q true H) (h2 : b = false → u σ H Q) : kOr u σ Q b H := by
  unfold kOr
  cases b with
  | true => exact h1 rfl
  | false => exact h2 rfl
/-- truth values joined -/
def kAndV (tb : TE) (σ : L2.St) (Q : VK) : VK := fun x H1 => ∃ c, x = .bl c ∧ if c = true then tb σ H1 Q else Q (.bl false) H1
theorem w_andV (h : ta σ H (kAndV tb σ Q)) : tAndV ta tb σ H Q := h
instance : Stp (tAndV ta tb σ H Q) (ta σ H (kAndV tb σ Q)) := ⟨w_andV⟩
theorem k_andV {b : Bool} (h1 : b = true → tb σ H Q) (h2 : b = false → Q (.bl false) H) : kAndV tb σ Q (.bl b) H := ⟨b, rfl, by
  cases b with
  | true => exact h1 rfl
  | false => exact h2 rfl⟩
def kNotV (Q : VK) : VK := fun x H1 => ∃ c, x = .bl c ∧ Q (.bl (!c)) H1
theorem w_notV (h : ta σ H (kNotV Q)) : tNotV ta σ H Q := h
instance : Stp (tNotV ta σ H Q) (ta σ H (kNotV Q)) := ⟨w_notV⟩
theorem k_notV {b : Bool} (h : Q (.bl (!b)) H) : kNotV Q (.bl b) H := ⟨b, rfl, h⟩
instance {b : Bool} : Stp (kNotV Q (.bl b) H) (Q (.bl (!b)) H) := ⟨k_notV⟩
def kIsN (n : Bool) (Q : VK) : VK := fun x H1 => Q (.bl (if n then !decide (x = .non) else decide (x = .non))) H1
theorem w_isN (h : ta σ H (kIsN false Q)) : tIsN ta σ H Q := h
instance : Stp (tIsN ta σ H Q) (ta σ H (kIsN false Q)) := ⟨w_isN⟩
theorem w_notN (h : ta σ H (kIsN true Q)) : tNotN ta σ H Q := h
instance : Stp (tNotN ta σ H Q) (ta σ H (kIsN true Q)) := ⟨w_notN⟩
theorem k_isN {n : Bool} (h : Q (.bl (if n then !decide (x = .non) else decide (x = .non))) H) : kIsN n Q x H := h
instance {n : Bool} : Stp (kIsN n Q x H) (Q (.bl (if n then !decide (x = .non) else decide (x = .non))) H) := ⟨k_isN⟩
/-- statements -/
theorem w_seq (h : ts { D with nx := tu D } σ H) : tSeq ts tu D σ H := h
instance : Stp (tSeq ts tu D σ H) (ts { D with nx := tu D } σ H) := ⟨w_seq⟩
theorem w_next (h : D.nx σ H) : tNext D σ H := h
instance : Stp (tNext D σ H) (D.nx σ H) := ⟨w_next⟩
theorem w_break (h : D.bk σ H) : tBreak D σ H := h
instance : Stp (tBreak D σ H) (D.bk σ H) := ⟨w_break⟩
def kDrop (D : Ends) (σ : L2.St) : VK := fun _ H1 => D.nx σ H1
theorem w_drop (h : te σ H (kDrop D σ)) : tDrop te D σ H := h
instance : Stp (tDrop te D σ H) (te σ H (kDrop D σ)) := ⟨w_drop⟩
theorem k_drop (h : D.nx σ H) : kDrop D σ v H := h
instance : Stp (kDrop D σ v H) (D.nx σ H) := ⟨k_drop⟩
theorem w_ret (h : te σ H D.rt) : tRet te D σ H := h
instance : Stp (tRet te D σ H) (te σ H D.rt) := ⟨w_ret⟩
theorem w_retN (h : D.rt .non H) : tRetN D σ H := h
instance : Stp (tRetN D σ H) (D.rt .non H) := ⟨w_retN⟩
def kAsg (g : TG) (D : Ends) (σ : L2.St) : VK := fun x H1 => g x σ H1 D.nx
theorem w_asg (h : te σ H (kAsg g D σ)) : tAsg te g D σ H := h
instance : Stp (tAsg te g D σ H) (te σ H (kAsg g D σ)) := ⟨w_asg⟩
theorem k_asgN {n : Nat} (h : D.nx (σ.set n (some v)) H) : kAsg (gName n) D σ v H := h
instance {n : Nat} : Stp (kAsg (gName n) D σ v H) (D.nx (σ.set n (some v)) H) := ⟨k_asgN⟩
def kIf (ts tu : TS) (D : Ends) (σ : L2.St) : Bool → Hp → Prop := fun b H1 => if b = true then ts D σ H1 else tu D σ H1
theorem w_if {tc : TT} (h : tc σ H (kIf ts tu D σ)) : tIfS tc ts tu D σ H := h
instance {tc : TT} : Stp (tIfS tc ts tu D σ H) (tc σ H (kIf ts tu D σ)) := ⟨w_if⟩
theorem k_if {b : Bool} (h1 : b = true → ts D σ H) (h2 : b = false → tu D σ H) : kIf ts tu D σ b H := by
  unfold kIf
  cases b with
  | true => exact h1 rfl
  | false => exact h2 rfl
def kAug (n : Nat) (ti : TIp) (x : V) (D : Ends) (σ : L2.St) : VK := fun y H1 => ti x y H1 fun z H2 => D.nx (σ.set n (some z)) H2
theorem w_aug {n : Nat} {ti : TIp} (h : σ[n]? = some (some x)) (k : te σ H (kAug n ti x D σ)) : tAug n te ti D σ H := ⟨x, h, k⟩
theorem k_augI {n : Nat} (h : D.nx (σ.set n (some (.int (i + j)))) H) : kAug n (ipI fun i j => i + j) (.int i) D σ (.int j) H := ⟨i, j, rfl, rfl, h⟩
instance {n : Nat} : Stp (kAug n (ipI fun i j => i + j) (.int i) D σ (.int j) H) (D.nx (σ.set n (some (.int (i + j)))) H) := ⟨k_augI⟩
def kSF (K : PySem.W.Frag) (ta : TE) (f : Str) (D : Ends) (σ : L2.St) : VK := fun y H1 => ta σ H1 fun x H2 => ∃ a C dx fs, x = .ref a ∧ H2 a = some (.ins C dx fs) ∧ Cls K C ∧ NoAttr K C f ∧ fs.length < 1000 ∧ D.nx σ (upd H2 a (.ins C dx (putF f y fs)))
def kSF2 (K : PySem.W.Frag) (f : Str) (y : V) (D : Ends) (σ : L2.St) : VK := fun x H2 => ∃ a C dx fs, x = .ref a ∧ H2 a = some (.ins C dx fs) ∧ Cls K C ∧ NoAttr K C f ∧ fs.length < 1000 ∧ D.nx σ (upd H2 a (.ins C dx (putF f y fs)))
theorem w_sfld (h : tv σ H (kSF K ta f D σ)) : sFld K ta tv f D σ H := h
instance : Stp (sFld K ta tv f D σ H) (tv σ H (kSF K ta f D σ)) := ⟨w_sfld⟩
theorem k_sf (h : ta σ H (kSF2 K f y D σ)) : kSF K ta f D σ y H := h
instance : Stp (kSF K ta f D σ y H) (ta σ H (kSF2 K f y D σ)) := ⟨k_sf⟩
theorem k_sf2 {a C dx : Addr} {fs fs' : List (Str × V)} (h : H a = some (.ins C dx fs)) (c : Cls K C) (n : NoAttr K C f) (l : fs.length < 1000) (e : putF f y fs = fs') (k : ∀ H', Mo a H H' → H' a = some (.ins C dx fs') → D.nx σ H') : kSF2 K f y D σ (.ref a) H :=
  ⟨a, C, dx, fs, rfl, h, c, n, l, by rw [e]; exact a_upd (R := fun H' => D.nx σ H') k⟩
def kDP (td ty : TE) (D : Ends) (σ : L2.St) : VK := fun v H1 => td σ H1 fun x H2 => ty σ H2 fun y H3 => ∃ a H4, x = .ref a ∧ DPut H3 a y v H4 ∧ D.nx σ H4
def kDP2 (ty : TE) (v : V) (D : Ends) (σ : L2.St) : VK := fun x H2 => ty σ H2 fun y H3 => ∃ a H4, x = .ref a ∧ DPut H3 a y v H4 ∧ D.nx σ H4
def kDP3 (v x : V) (D : Ends) (σ : L2.St) : VK := fun y H3 => ∃ a H4, x = .ref a ∧ DPut H3 a y v H4 ∧ D.nx σ H4
theorem w_dput (h : tv σ H (kDP td ty D σ)) : sDPut td ty tv D σ H := h
instance : Stp (sDPut td ty tv D σ H) (tv σ H (kDP td ty D σ)) := ⟨w_dput⟩
theorem k_dp (h : td σ H (kDP2 ty v D σ)) : kDP td ty D σ v H := h
instance : Stp (kDP td ty D σ v H) (td σ H (kDP2 ty v D σ)) := ⟨k_dp⟩
theorem k_dp2 (h : ty σ H (kDP3 v x D σ)) : kDP2 ty v D σ x H := h
instance : Stp (kDP2 ty v D σ x H) (ty σ H (kDP3 v x D σ)) := ⟨k_dp2⟩
theorem k_dp3K {a : Addr} {kvs : List (Key × V)} (h : H a = some (.dK kvs)) (c : kvs.length < sizeLine) (k : ∀ H', Mo a H H' → H' a = some (.dK (putK kvs (.inl i) v)) → D.nx σ H') : kDP3 v (.ref a) D σ (.int i) H := ⟨a, _, rfl, DPut.k (k := .inl i) h c, a_upd (R := fun H' => D.nx σ H') k⟩
theorem k_dp3S {a : Addr} {s : Str} {kvs : List (Key × V)} (h : H a = some (.dK kvs)) (c : kvs.length < sizeLine) (k : ∀ H', Mo a H H' → H' a = some (.dK (putK kvs (.inr s) v)) → D.nx σ H') : kDP3 v (.ref a) D σ (.str s) H := ⟨a, _, rfl, DPut.k (k := .inr s) h c, a_upd (R := fun H' => D.nx σ H') k⟩
theorem k_dp3T {a b : Addr} {ks : List Key} {kvs : List (List Key × V)} (h : H a = some (.dT kvs)) (hb : H b = some (.tup (ks.map kV))) (c : kvs.length < sizeLine) (k : ∀ H', Mo a H H' → H' a = some (.dT (putK kvs ks v)) → D.nx σ H') : kDP3 v (.ref a) D σ (.ref b) H := ⟨a, _, rfl, DPut.t h hb c, a_upd (R := fun H' => D.nx σ H') k⟩
/-- {k: v}, one written pair, the key an int -/
theorem w_dispC (k : ∀ p H', H p = none → Ex H H' → H' p = some (.dK [(.inl i, v)]) → Q (.ref p) H') : tDisp [(tC (.int i), tC v)] σ H Q := by
  intro p hp
  refine ⟨upd_same, [(.inl i, v)], rfl, by show 1 ≤ 15; decide, ?_⟩
  rw [upd_upd]
  exact k p _ hp (Ex.new hp) upd_same
end
/-! ### the rules with the written part K told by name (within a comprehension's block) -/
section
variable {X : Cx} {K : PySem.W.Frag} {e o a b i : Expr} {es : List Expr} {f : Str} {te ta to ti tl tb : TE} {t : TA} {tg : Expr} {pos p apos cpos p2 : Pos} {T id : String} {name : Str} {r : V → List V → Hp → VK → Prop}
theorem ixL (h : X.K = K := by rfl) : IxR X (rIxL K) := h ▸ ix_list
theorem ixT (h : X.K = K := by rfl) : IxR X (rIxT K) := h ▸ ix_tup
theorem ixS (h : X.K = K := by rfl) : IxR X (rIx K) := h ▸ ix_seq
theorem slL (h : X.K = K := by rfl) : SlR X (rSlL K) := h ▸ sl_list
theorem slT (h : X.K = K := by rfl) : SlR X (rSlT K) := h ▸ sl_tup
theorem opIn (h : X.K = K := by rfl) : OpR X (compareOp .In) (rIn K false) := h ▸ op_in_seq
theorem opNotIn (h : X.K = K := by rfl) : OpR X (compareOp .NotIn) (rIn K true) := h ▸ op_notIn_seq
theorem opEqD (hu : X.A.units + 64 < cLine) (h : X.K = K := by rfl) : OpR X (compareOp .Eq) (rEqD K) := h ▸ op_eqD hu
theorem opNeD (hu : X.A.units + 64 < cLine) (h : X.K = K := by rfl) : OpR X (compareOp .NotEq) (rNeD K) := h ▸ op_neD hu
theorem callLen (h : X.K = K := by rfl) : CallR X (.builtin "len") (rLenS K) := h ▸ call_lenS
theorem callList (h : X.K = K := by rfl) : CallR X (.type "list") (rListS K) := h ▸ call_listS
theorem callAny (hc : X.calm = true) (h : X.K = K := by rfl) : CallR X (.builtin "any") (rAny K) := h ▸ cr_any hc
theorem callAll (hc : X.calm = true) (h : X.K = K := by rfl) : CallR X (.builtin "all") (rAll K) := h ▸ cr_all hc
theorem callIsi (h : X.K = K := by rfl) : CallR X (.builtin "isinstance") (rIsi K) := h ▸ call_isi
theorem mtIndex (h : X.K = K := by rfl) : MtR X "list.index" (rIndex K) := h ▸ mt_index
def rTupIndex (K : PySem.W.Frag) : V → List V → Hp → VK → Prop := fun x xs H Q => ∃ p, ∃ ys : List Str, ∃ z j, x = .ref p ∧ xs = [.str z] ∧ SqT K H p (ys.map V.str) ∧ ys[j]? = some z ∧ (∀ m, m < j → ys[m]? ≠ some z) ∧ Q (.int (j : Nat)) H
theorem mtTupIndex (h : X.K = K := by rfl) : MtR X "tuple.index" (rTupIndex K) := h ▸ mt_tup_index
def rJoin (K : PySem.W.Frag) : V → List V → Hp → VK → Prop := fun x xs H Q => ∃ a p, ∃ ys : List Str, x = .str a ∧ xs = [.ref p] ∧ (SqL K H p (ys.map V.str) ∨ SqT K H p (ys.map V.str)) ∧ (ys.map (·.length)).sum + ys.length * a.length ≤ 16777216 ∧ Q (.str (Txt.join a ys)) H
theorem pe_joinK (ho : PE X o to) (he : PE X e te) (hK : X.K = K := by rfl) (hs : starEach [e] X.env = [(false, eval e X.env)] := by rfl) (hbase : attributeBase o "join" X.env (eval o X.env) = eval o X.env := by rfl) (hline : (apos.endLine == pos.line) = true := by rfl) :
    PE X (.Call (.Attribute o "join" apos) [e] [] pos) (tM1 (rJoin K) to te) := by subst hK; exact pe_join ho he hs hbase hline
theorem pe_fldK (he : PE X e ta) (hK : X.K = K := by rfl) (hb : attributeBase e f X.env (eval e X.env) = eval e X.env := by rfl) : PE X (.Attribute e f pos) (tFld K ta f) := by subst hK; exact pe_fld he hb
theorem ps_fldK {value : Expr} {tv : TE} {pos' : Pos} (ha : PE X o ta) (hv : PE X value tv) (hK : X.K = K := by rfl) (hs : swapsWith value (some (.Attribute o f pos')) pos.line X.env = pure false := by rfl) : PS X (.Assign [.Attribute o f pos'] value pos) (sFld K ta tv f) := by subst hK; exact ps_fld ha hv hs
theorem pe_tupleOfK (hg : Gl X "tuple") (hm : X.mg "tuple" = none) (ha : PE X a ta) (hK : X.K = K := by rfl) (na : starEach [a] X.env = (false, eval a X.env) :: starEach [] X.env := by rfl) : PE X (.Call (.Name "tuple" p) [a] [] pos) (tThen ta (kTup K)) := by subst hK; exact pe_tupleOf hg hm ha na
theorem pe_bm0K' (pa : PlainAttrs T) (slot : Slot T name id) (hty : typeOf (.builtin id) = pure (.type "method_descriptor")) (hm : MtR X id r) (ho : PE X o to) (hK : X.K = K := by rfl)
    (hbase : attributeBase o name X.env (eval o X.env) = eval o X.env := by rfl) (hline : (apos.endLine == cpos.line) = true := by rfl) : PE X (.Call (.Attribute o name apos) [] [] cpos) (tBM0 K T r to) := by subst hK; exact pe_bm0 pa slot hty hm ho hbase hline
theorem pe_bmK (pa : PlainAttrs T) (slot : Slot T name id) (hty : typeOf (.builtin id) = pure (.type "method_descriptor")) (hm : MtR X id r) (ho : PE X o to) (ha : PA X (e :: es) t) (hK : X.K = K := by rfl)
    (hbase : attributeBase o name X.env (eval o X.env) = eval o X.env := by rfl)
    (hfew : ((backTo cpos (starEach (e :: es) X.env)).all (fun x => !x.1) && (backToKw cpos (keywordEach [] X.env)).all (fun x => x.1.isSome)
      && decide ((e :: es).length + ([] : List Keyword).length + (if ([] : List Keyword).isEmpty then 0 else 1) < 30)) = true := by rfl)
    (hline : (apos.endLine == cpos.line) = true := by rfl) (hs : starEach (e :: es) X.env = (false, eval e X.env) :: starEach es X.env := by rfl) (hplain : (backTo cpos (starEach es X.env)).any (·.1) = false := by rfl) :
    PE X (.Call (.Attribute o name apos) (e :: es) [] cpos) (tBM K T r to t) := by subst hK; exact pe_bm pa slot hty hm ho ha hbase hfew hline hs hplain
theorem pi_listK (hl : PE X e tl) (hK : X.K = K := by rfl) : PI X tg e (iList K tl) := by subst hK; exact pi_list hl
theorem pi_tupK (hl : PE X e tl) (hK : X.K = K := by rfl) : PI X tg e (iTup K tl) := by subst hK; exact pi_tup hl
theorem pg_tupK {k : Nat} {n : Nat} {tq : TGs} (hc : X.calm = true) (h : PGs X es tq) (hK : X.K = K := by rfl)
    (hn : (assignEach es X.env).length = n := by rfl) (hst : (assignEach es X.env).findIdx? (·.1) = none := by rfl) : PG X (.Tuple es k pos) (gTup K n tq) := by subst hK; exact pg_tup hc h hn hst
/-- a list (b) or a tuple that is read -/
def SqK (K : PySem.W.Frag) (b : Bool) (H : Hp) (a : Addr) (xs : List V) : Prop := match b with
  | true => SqL K H a xs
  | false => SqT K H a xs
theorem SqK.ex {b : Bool} {H H' : Hp} {a : Addr} {xs : List V} (h : SqK K b H a xs) (e : Ex H H') : SqK K b H' a xs := by
  cases b with
  | true => exact exSqL e h
  | false => exact exSqT e h
theorem SqK.sq {b : Bool} {H : Hp} {a : Addr} {xs : List V} (h : SqK K b H a xs) : Sq K H a xs := by
  cases b with
  | true => exact .inl h
  | false => exact .inr h
def ItS (K : PySem.W.Frag) (b : Bool) (a : Addr) : It := match b with
  | true => Itl K a
  | false => Itt K a
theorem walk_seq {b : Bool} {a : Addr} {xs : List V} : Walk (ItS K b a) xs.length (fun H => SqK K b H a xs) (YAt xs) := by
  cases b with
  | true => exact walk_list
  | false => exact walk_tup
/-- a list or a tuple walked -/
def iSeq (K : PySem.W.Frag) (tl : TE) : TI := fun σ H R => tl σ H fun x H1 => ∃ a b, x = .ref a ∧ (∃ xs, SqK K b H1 a xs) ∧ R (ItS K b a) H1
theorem pi_seqK (hl : PE X e tl) (hK : X.K = K := by rfl) : PI X tg e (iSeq K tl) := by
  subst hK
  refine ⟨fun pins s σ H R I h => ?_⟩
  refine thn (hl.run pins s σ H _ I h) fun v s1 ⟨x, H1, I1, r1, q1⟩ => ?_
  obtain ⟨a, b, e, ⟨xs, hq⟩, q⟩ := q1
  subst e
  cases r1
  cases b with
  | true =>
    obtain ⟨its, rv, p, hz⟩ := I1.list hq
    refine wpAny_pyIter_list p.isList ?_
    refine ⟨s1.heap.objs.size, [s1.heap.objs.size], _, _, H1, rfl, I1.kept (t' := s1.toks) fun b o e => Heap.get?_push_of_some _ e, turn_list a _, ⟨_, Heap.get?_push_size _ rfl, rfl, rfl⟩, fun b hb => ?_, q⟩
    have e : b = s1.heap.objs.size := by simpa using hb
    subst e
    exact I1.fpOk (Nat.le_refl _) (I1.hok.fresh (Nat.le_refl _))
  | false =>
    obtain ⟨its, rv, p, hz⟩ := I1.tuple hq
    refine wpAny_pyIter_tuple (show s1.heap.IsTuple a its.toArray from p) ?_
    refine ⟨s1.heap.objs.size, [s1.heap.objs.size], _, _, H1, rfl, I1.kept (t' := s1.toks) fun b o e => Heap.get?_push_of_some _ e, turn_tuple a _, ⟨_, Heap.get?_push_size _ rfl, rfl, rfl⟩, fun b hb => ?_, q⟩
    have e : b = s1.heap.objs.size := by simpa using hb
    subst e
    exact I1.fpOk (Nat.le_refl _) (I1.hok.fresh (Nat.le_refl _))
end
/-! ### loops -/
section
variable {K : PySem.W.Frag} {σ : L2.St} {H : Hp} {tl te : TE} {ta : TA} {wi : TI} {g : TG} {tt : TT} {tb : TS} {D : Ends} {xs : List V} {Q : VK} {J : It} {n : Nat} {G : Hp → Prop} {Y : Nat → Hp → V → Hp → Prop} {R : It → Hp → Prop} {a : Addr} {b : Bool} {vs : List Nat}
theorem w_gn {j : Nat} {v : V} {Q : L2.St → Hp → Prop} (h : Q (σ.set j (some v)) H) : gName j v σ H Q := h
instance {j : Nat} {v : V} {Q : L2.St → Hp → Prop} : Stp (gName j v σ H Q) (Q (σ.set j (some v)) H) := ⟨w_gn⟩
/-- what is walked -/
def kIS (K : PySem.W.Frag) (R : It → Hp → Prop) : VK := fun x H1 => ∃ a b, x = .ref a ∧ (∃ xs, SqK K b H1 a xs) ∧ R (ItS K b a) H1
theorem w_iS (h : tl σ H (kIS K R)) : iSeq K tl σ H R := h
instance : Stp (iSeq K tl σ H R) (tl σ H (kIS K R)) := ⟨w_iS⟩
theorem k_iS (h : SqK K b H a xs) (k : R (ItS K b a) H) : kIS K R (.ref a) H := ⟨a, b, rfl, ⟨xs, h⟩, k⟩
def kIT (R : It → Hp → Prop) : VK := fun v H1 => ∃ x, v = .str x ∧ R (Its x) H1
theorem w_iT (h : tl σ H (kIT R)) : iStr tl σ H R := h
instance : Stp (iStr tl σ H R) (tl σ H (kIT R)) := ⟨w_iT⟩
theorem k_iT {z : Str} (k : R (Its z) H) : kIT R (.str z) H := ⟨z, rfl, k⟩
instance {z : Str} : Stp (kIT R (.str z) H) (R (Its z) H) := ⟨k_iT⟩
def kIR (R : It → Hp → Prop) : List V → Hp → Prop := fun vs H1 => ∃ j : Int, vs = [.int j] ∧ -(2 ^ 62) ≤ j ∧ j < 2 ^ 62 ∧ R (Itr 0 j.toNat) H1
theorem w_iR (h : ta σ H (kIR R)) : iRng1 ta σ H R := h
instance : Stp (iRng1 ta σ H R) (ta σ H (kIR R)) := ⟨w_iR⟩
theorem k_iR {m : Nat} (c : m < 100000) (k : R (Itr 0 m) H) : kIR R [iv m] H := ⟨m, rfl, by omega, by omega, by rw [Int.toNat_natCast]; exact k⟩
theorem walk_rng {m : Nat} : Walk (Itr 0 m) m (fun _ => True) (fun i H x H' => H' = H ∧ x = iv i) := walk_range.mono (fun _ _ => trivial) fun i H x H' _ _ y => ⟨y.1, by rw [y.2]; show V.int (0 + (i : Int)) = _; rw [Int.zero_add]⟩
/-- for -/
def kForI (g : TG) (tb : TS) (D : Ends) (σ : L2.St) : It → Hp → Prop := fun J H1 => ∃ W : Nat → Nat → L2.St → Hp → Prop, (∃ m, W 0 m σ H1) ∧ ∀ i m σ H, W i m σ H →
  (J.stop i H ∧ D.nx σ H) ∨ (J.go i H ∧ ∃ N : L2.St → Hp → Prop, (∀ σ' H', N σ' H' → ∃ m', m' < m ∧ W (i + 1) m' σ' H') ∧ ∀ x H', J.yld i H x H' → g x σ H' fun σ2 H2 => tb { D with nx := N, ct := N, bk := D.nx } σ2 H2)
def kTurn (g : TG) (tb : TS) (D : Ends) (N : L2.St → Hp → Prop) (x : V) : L2.St → Hp → Prop := fun σ H' => g x σ H' fun σ2 H2 => tb { D with nx := N, ct := N, bk := D.nx } σ2 H2
theorem k_turnN {j : Nat} {N : L2.St → Hp → Prop} {x : V} (h : tb { D with nx := N, ct := N, bk := D.nx } (σ.set j (some x)) H) : kTurn (gName j) tb D N x σ H := h
instance {j : Nat} {N : L2.St → Hp → Prop} {x : V} : Stp (kTurn (gName j) tb D N x σ H) (tb { D with nx := N, ct := N, bk := D.nx } (σ.set j (some x)) H) := ⟨k_turnN⟩
theorem w_for (h : wi σ H (kForI g tb D σ)) : tFor wi g tb D σ H := h
instance : Stp (tFor wi g tb D σ H) (wi σ H (kForI g tb D σ)) := ⟨w_for⟩
theorem k_for (w : Walk J n G Y) (Pv : Nat → L2.St → Hp → Prop) (h0 : Pv 0 σ H) (hG : ∀ i σ H, Pv i σ H → G H)
    (hs : ∀ i x σ H H', i < n → Pv i σ H → Y i H x H' → kTurn g tb D (Pv (i + 1)) x σ H') (hd : ∀ σ H, Pv n σ H → D.nx σ H) : kForI g tb D σ J H :=
  for_it w Pv h0 (fun i σ H _ p => hG i σ H p) hs hd
/-- over what stands: a list, a tuple -/
theorem k_forS (Pv : Nat → L2.St → Hp → Prop) (h0 : Pv 0 σ H) (hG : ∀ i σ H, Pv i σ H → SqK K b H a xs)
    (hs : ∀ i x σ H, xs[i]? = some x → Pv i σ H → kTurn g tb D (Pv (i + 1)) x σ H) (hd : ∀ σ H, Pv xs.length σ H → D.nx σ H) : kForI g tb D σ (ItS K b a) H :=
  k_for walk_seq Pv h0 hG (fun i x σ H H' _ p y => by obtain ⟨e, y⟩ := y; subst e; exact hs i x σ _ y p) hd
theorem k_forR {m : Nat} (Pv : Nat → L2.St → Hp → Prop) (h0 : Pv 0 σ H)
    (hs : ∀ i σ H, i < m → Pv i σ H → kTurn g tb D (Pv (i + 1)) (iv i) σ H) (hd : ∀ σ H, Pv m σ H → D.nx σ H) : kForI g tb D σ (Itr 0 m) H :=
  k_for walk_rng Pv h0 (fun _ _ _ _ => trivial) (fun i x σ H H' hi p y => by obtain ⟨e, y⟩ := y; subst e; subst y; exact hs i σ _ hi p) hd
theorem k_forT {z : Str} (Pv : Nat → L2.St → Hp → Prop) (h0 : Pv 0 σ H)
    (hs : ∀ i c σ H, z.cps.toList[i]? = some c → Pv i σ H → kTurn g tb D (Pv (i + 1)) (.str ⟨#[c]⟩) σ H) (hd : ∀ σ H, Pv z.cps.size σ H → D.nx σ H) : kForI g tb D σ (Its z) H :=
  k_for walk_str Pv h0 (fun _ _ _ _ => trivial) (fun i x σ H H' hi p y => by
    obtain ⟨e, c, h1, h2⟩ := y
    subst e; subst h2
    exact hs i c σ _ (by rw [← h1]; simp) p) hd
/-- while: W by a measure -/
def kWh (W : Nat → L2.St → Hp → Prop) (m : Nat) (tb : TS) (D : Ends) (σ : L2.St) : Bool → Hp → Prop := fun b H1 => if b = true then ∃ N : L2.St → Hp → Prop, (∀ σ' H', N σ' H' → ∃ m', m' < m ∧ W m' σ' H') ∧ tb { D with nx := N, ct := N, bk := D.nx } σ H1 else D.nx σ H1
theorem w_while {tc : TT} (W : Nat → L2.St → Hp → Prop) (m0 : Nat) (h0 : W m0 σ H) (hs : ∀ m σ H, W m σ H → tc σ H (kWh W m tb D σ)) : tWhile tc tb D σ H := ⟨W, ⟨m0, h0⟩, hs⟩
theorem k_wh {W : Nat → L2.St → Hp → Prop} {m : Nat} {b : Bool} (h1 : b = true → tb { D with nx := fun σ' H' => ∃ m', m' < m ∧ W m' σ' H', ct := fun σ' H' => ∃ m', m' < m ∧ W m' σ' H', bk := D.nx } σ H) (h2 : b = false → D.nx σ H) : kWh W m tb D σ b H := by
  unfold kWh
  cases b with
  | true => exact ⟨_, fun _ _ z => z, h1 rfl⟩
  | false => exact h2 rfl
/-- comprehensions -/
def kLcI (g : TG) (tt : TT) (te : TE) (vs : List Nat) (σ : L2.St) (Q : VK) : It → Hp → Prop := fun J H1 => ∀ D, H1 D = none → ∃ W : Nat → Nat → Hp → Prop, (∃ m, W 0 m (upd H1 D (.lst []))) ∧ ∀ i m H, W i m H →
  (J.stop i H ∧ Q (.ref D) H) ∨ (J.go i H ∧ ∃ Nx : Hp → Prop, (∀ H', Nx H' → ∃ m', m' < m ∧ W (i + 1) m' H') ∧ ∀ x H', J.yld i H x H' → g x (wipe σ vs) H' fun σ2 H2 => wipe σ2 vs = wipe σ vs ∧ tt σ2 H2 fun b H3 =>
    if b = true then te σ2 H3 fun y H4 => ∃ acc, H4 D = some (.lst acc) ∧ acc.length < sizeLine ∧ Nx (upd H4 D (.lst (acc ++ [y]))) else Nx H3)
theorem w_lc (h : wi σ H (kLcI g tt te vs σ Q)) : tLc wi g tt te vs σ H Q := h
instance : Stp (tLc wi g tt te vs σ H Q) (wi σ H (kLcI g tt te vs σ Q)) := ⟨w_lc⟩
/-- a turn of a comprehension without a test; Qc: what is wanted of the item that is made -/
def kEl (g : TG) (te : TE) (vs : List Nat) (σ : L2.St) (Qc : VK) (x : V) : Hp → Prop := fun H1 => g x (wipe σ vs) H1 fun σ2 H2 => wipe σ2 vs = wipe σ vs ∧ te σ2 H2 Qc
theorem k_elN {j : Nat} {Qc : VK} {x : V} (e : wipe ((wipe σ vs).set j (some x)) vs = wipe σ vs) (h : te ((wipe σ vs).set j (some x)) H Qc) : kEl (gName j) te vs σ Qc x H := ⟨e, h⟩
theorem k_lc (w : Walk J n G Y) (hz : n ≤ 100000) (R : Addr → Nat → V → Hp → Prop) (hG : ∀ H', Ex H H' → G H')
    (st : ∀ Dl j y H1 H2, (∃ l, H1 Dl = some (.lst l)) → Mo Dl H1 H2 → R Dl j y H1 → R Dl j y H2)
    (hs : ∀ Dl j x H1 H2 (Qc : VK), j < n → Y j H1 x H2 → Ex H H1 → H Dl = none → (∃ l, H1 Dl = some (.lst l)) → (∀ y H3, Ex H1 H3 → R Dl j y H3 → Qc y H3) → kEl g te vs σ Qc x H2)
    (hd : ∀ Dl H1 ys, H Dl = none → Ex H H1 → H1 Dl = some (.lst ys) → ys.length = n → (∀ j y, ys[j]? = some y → R Dl j y H1) → Q (.ref Dl) H1) : kLcI g tYes te vs σ Q J H := by
  intro Dl hDl
  refine lc_it w (Qd := fun H1 => Q (.ref Dl) H1) (fun i H1 => Ex H H1 ∧ ∃ ys, H1 Dl = some (.lst ys) ∧ ys.length = i ∧ ∀ j y, ys[j]? = some y → R Dl j y H1) ⟨Ex.new hDl, [], upd_same, rfl, fun j y e => by simp at e⟩ (fun i H1 _ p => hG H1 p.1) ?_ ?_
  · rintro i x H1 H1' hi ⟨e1, ys, h1, h2, h3⟩ y1
    refine hs Dl i x H1 H1' _ hi y1 e1 hDl ⟨ys, h1⟩ fun y H3 e3 r => ?_
    have hl := e3 _ _ h1
    refine ⟨ys, hl, by rw [sizeLine_eq, h2]; omega, (Mo.of).ex (e1.tr e3) hDl, ys ++ [y], upd_same, by simp [h2], fun j z hz => ?_⟩
    have key : R Dl j z H3 := by
      rw [List.getElem?_append] at hz
      split at hz
      · exact st Dl j z _ _ ⟨ys, h1⟩ e3.mo (h3 j z hz)
      · rename_i hj
        have : j - ys.length = 0 := by
          cases hk : j - ys.length with
          | zero => rfl
          | succ k => rw [hk] at hz; simp at hz
        rw [this] at hz
        have ez : y = z := by simpa using hz
        have ej : j = i := by omega
        subst ez; subst ej
        exact r
    exact st Dl j z _ _ ⟨ys, hl⟩ Mo.of key
  · rintro H1 ⟨e1, ys, h1, h2, h3⟩
    exact hd Dl H1 ys hDl e1 h1 h2 h3
theorem k_lcS (hz : xs.length ≤ 100000) (R : Addr → Nat → V → Hp → Prop) (h : SqK K b H a xs)
    (st : ∀ Dl j y H1 H2, (∃ l, H1 Dl = some (.lst l)) → Mo Dl H1 H2 → R Dl j y H1 → R Dl j y H2)
    (hs : ∀ (Dl : Addr) (j : Nat) (x : V) (H1 : Hp) (Qc : VK), xs[j]? = some x → Ex H H1 → H Dl = none → (∃ l, H1 Dl = some (.lst l)) → (∀ y H3, Ex H1 H3 → R Dl j y H3 → Qc y H3) → kEl g te vs σ Qc x H1)
    (hd : ∀ Dl H1 ys, H Dl = none → Ex H H1 → H1 Dl = some (.lst ys) → ys.length = xs.length → (∀ j y, ys[j]? = some y → R Dl j y H1) → Q (.ref Dl) H1) : kLcI g tYes te vs σ Q (ItS K b a) H :=
  k_lc walk_seq hz R (fun H' e => h.ex e) st (fun Dl j x H1 H2 Qc _ y e n l k => by
    obtain ⟨e2, hx⟩ := y
    subst e2
    exact hs Dl j x _ Qc hx e n l k) hd
/-- the items are told ahead: zs -/
theorem k_lcP (w : Walk J n G Y) (hz : n ≤ 100000) (zs : List V) (hl : zs.length = n) (hG : ∀ H', Ex H H' → G H')
    (hs : ∀ (j : Nat) (x : V) (H1 H2 : Hp) (Qc : VK), j < n → Y j H1 x H2 → Ex H H1 → (∀ y H3, zs[j]? = some y → Ex H1 H3 → Qc y H3) → kEl g te vs σ Qc x H2)
    (hd : ∀ Dl H1, H Dl = none → Ex H H1 → H1 Dl = some (.lst zs) → Q (.ref Dl) H1) : kLcI g tYes te vs σ Q J H :=
  k_lc w hz (fun _ j y _ => zs[j]? = some y) hG (fun _ _ _ _ _ _ _ r => r) (fun Dl j x H1 H2 Qc hj y e _ _ k => hs j x H1 H2 Qc hj y e fun y' H3 h1 h2 => k y' H3 h2 h1)
    fun Dl H1 ys h1 h2 h3 h4 h5 => by
      have e : ys = zs := by
        apply List.ext_getElem?
        intro i
        cases hy : ys[i]? with
        | some y => exact (h5 i y hy).symm
        | none =>
          have : zs.length ≤ i := by rw [hl, ← h4]; exact List.getElem?_eq_none_iff.mp hy
          exact (List.getElem?_eq_none_iff.mpr this).symm
      subst e
      exact hd Dl H1 h1 h2 h3
theorem k_lcSP (hz : xs.length ≤ 100000) (zs : List V) (hl : zs.length = xs.length) (h : SqK K b H a xs)
    (hs : ∀ (j : Nat) (x : V) (H1 : Hp) (Qc : VK), xs[j]? = some x → Ex H H1 → (∀ y H3, zs[j]? = some y → Ex H1 H3 → Qc y H3) → kEl g te vs σ Qc x H1)
    (hd : ∀ Dl H1, H Dl = none → Ex H H1 → H1 Dl = some (.lst zs) → Q (.ref Dl) H1) : kLcI g tYes te vs σ Q (ItS K b a) H :=
  k_lcP walk_seq hz zs hl (fun H' e => h.ex e) (fun j x H1 H2 Qc _ y e k => by
    obtain ⟨e2, hx⟩ := y
    subst e2
    exact hs j x _ Qc hx e k) hd
/-- with a test: p tells which turns are kept -/
def kElT (g : TG) (tt : TT) (te : TE) (vs : List Nat) (σ : L2.St) (Qb : Bool → Hp → Prop) (Qc : VK) (x : V) : Hp → Prop := fun H1 => g x (wipe σ vs) H1 fun σ2 H2 => wipe σ2 vs = wipe σ vs ∧ tt σ2 H2 fun b H3 => if b = true then te σ2 H3 Qc else Qb false H3
theorem k_elTN {j : Nat} {Qb : Bool → Hp → Prop} {Qc : VK} {x : V} (e : wipe ((wipe σ vs).set j (some x)) vs = wipe σ vs) (h : tt ((wipe σ vs).set j (some x)) H fun b H3 => if b = true then te ((wipe σ vs).set j (some x)) H3 Qc else Qb false H3) : kElT (gName j) tt te vs σ Qb Qc x H := ⟨e, h⟩
def kept (p : Nat → Bool) (v : Nat → V) (n : Nat) : List V := ((List.range n).filter p).map v
theorem kept_succ (p : Nat → Bool) (v : Nat → V) (n : Nat) : kept p v (n + 1) = kept p v n ++ (if p n = true then [v n] else []) := by
  unfold kept
  rw [List.range_succ, List.filter_append, List.map_append]
  congr 1
  cases h : p n <;> simp [h]
theorem kept_len (p : Nat → Bool) (v : Nat → V) (n : Nat) : (kept p v n).length ≤ n := by
  unfold kept
  have := List.length_filter_le p (List.range n)
  simpa using this
theorem k_lcF (w : Walk J n G Y) (hz : n ≤ 100000) (p : Nat → Bool) (v : Nat → V) (hG : ∀ H', Ex H H' → G H')
    (hs : ∀ j x H1 H2 (Qb : Bool → Hp → Prop) (Qc : VK), j < n → Y j H1 x H2 → Ex H H1 → (∀ H3, p j = true → Ex H1 H3 → Qc (v j) H3) → (∀ H3, p j = false → Ex H1 H3 → Qb false H3) → kElT g tt te vs σ Qb Qc x H2)
    (hd : ∀ Dl H1, H Dl = none → Ex H H1 → H1 Dl = some (.lst (kept p v n)) → Q (.ref Dl) H1) : kLcI g tt te vs σ Q J H := by
  intro Dl hDl
  refine lc_it w (Qd := fun H1 => Q (.ref Dl) H1) (fun i H1 => Ex H H1 ∧ H1 Dl = some (.lst (kept p v i))) ⟨Ex.new hDl, upd_same⟩ (fun i H1 _ p => hG H1 p.1) ?_ ?_
  · rintro i x H1 H1' hi ⟨e1, h1⟩ y1
    refine hs i x H1 H1' (fun _ H3 => Ex H H3 ∧ H3 Dl = some (.lst (kept p v (i + 1)))) _ hi y1 e1 (fun H3 hp e3 => ?_) fun H3 hp e3 => ?_
    · refine ⟨kept p v i, e3 _ _ h1, by rw [sizeLine_eq]; have := kept_len p v i; omega, (Mo.of).ex (e1.tr e3) hDl, ?_⟩
      rw [kept_succ, if_pos hp]
      exact upd_same
    · refine ⟨e1.tr e3, ?_⟩
      rw [kept_succ, hp]
      simpa using e3 _ _ h1
  · rintro H1 ⟨e1, h1⟩
    exact hd Dl H1 hDl e1 h1
end

end QP

set_option Elab.async false
set_option linter.all false
set_option maxRecDepth 100000
set_option maxHeartbeats 1000000
namespace QP
open PySem PySem.Spec PyProof.Rows L2
/-! ### the attributes of the three classes -/
def MF (l : Str) (tb ac : Addr) (kl kf : V) (lo mo : Addr) : List (Str × V) :=
  [("kept_letters", .str l), ("kept_table", .ref tb), ("kept_accepts", .ref ac), ("kept_least", kl), ("kept_field", kf), ("kept_lots", .ref lo), ("kept_more", .ref mo)]
def FF (l : Str) (wo de nu bl : Addr) : List (Str × V) := [("letters", .str l), ("words", .ref wo), ("deeds", .ref de), ("number", .ref nu), ("by_letter", .ref bl)]
def LF (l : Str) (fi pl fw ma co : Addr) : List (Str × V) := [("lot", .str l), ("field", .ref fi), ("places", .ref pl), ("full_words", .ref fw), ("made", .ref ma), ("core", .ref co)]
section
variable {l : Str} {tb ac lo mo wo de nu bl fi pl fw ma co : Addr} {kl kf v : V}
theorem mf1 : (MF l tb ac kl kf lo mo).lookup ("kept_letters" : Str) = some (V.str l) := rfl
theorem mf2 : (MF l tb ac kl kf lo mo).lookup ("kept_table" : Str) = some (V.ref tb) := rfl
theorem mf3 : (MF l tb ac kl kf lo mo).lookup ("kept_accepts" : Str) = some (V.ref ac) := rfl
theorem mf4 : (MF l tb ac kl kf lo mo).lookup ("kept_least" : Str) = some kl := rfl
theorem mf5 : (MF l tb ac kl kf lo mo).lookup ("kept_field" : Str) = some kf := rfl
theorem mf6 : (MF l tb ac kl kf lo mo).lookup ("kept_lots" : Str) = some (V.ref lo) := rfl
theorem mf7 : (MF l tb ac kl kf lo mo).lookup ("kept_more" : Str) = some (V.ref mo) := rfl
theorem mf_least : putF "kept_least" v (MF l tb ac kl kf lo mo) = MF l tb ac v kf lo mo := rfl
theorem mf_field : putF "kept_field" v (MF l tb ac kl kf lo mo) = MF l tb ac kl v lo mo := rfl
theorem ff1 : (FF l wo de nu bl).lookup ("letters" : Str) = some (V.str l) := rfl
theorem ff2 : (FF l wo de nu bl).lookup ("words" : Str) = some (V.ref wo) := rfl
theorem ff3 : (FF l wo de nu bl).lookup ("deeds" : Str) = some (V.ref de) := rfl
theorem ff4 : (FF l wo de nu bl).lookup ("number" : Str) = some (V.ref nu) := rfl
theorem ff5 : (FF l wo de nu bl).lookup ("by_letter" : Str) = some (V.ref bl) := rfl
theorem ff_met : (FF l wo de nu bl).lookup ("met" : Str) = none := rfl
theorem ff_times : (FF l wo de nu bl).lookup ("times" : Str) = none := rfl
theorem ff_is_steady : (FF l wo de nu bl).lookup ("is_steady" : Str) = none := rfl
theorem ff_index_of : (FF l wo de nu bl).lookup ("index_of" : Str) = none := rfl
theorem ff_steady_of : (FF l wo de nu bl).lookup ("steady_of" : Str) = none := rfl
theorem lf1 : (LF l fi pl fw ma co).lookup ("lot" : Str) = some (V.str l) := rfl
theorem lf2 : (LF l fi pl fw ma co).lookup ("field" : Str) = some (V.ref fi) := rfl
theorem lf3 : (LF l fi pl fw ma co).lookup ("places" : Str) = some (V.ref pl) := rfl
theorem lf4 : (LF l fi pl fw ma co).lookup ("full_words" : Str) = some (V.ref fw) := rfl
theorem lf5 : (LF l fi pl fw ma co).lookup ("made" : Str) = some (V.ref ma) := rfl
theorem lf6 : (LF l fi pl fw ma co).lookup ("core" : Str) = some (V.ref co) := rfl
end
theorem at_map {α β : Type} {f : α → β} {l : List α} {j : Nat} {y : β} (h : (l.map f)[j]? = some y) : ∃ x, l[j]? = some x ∧ y = f x := by
  rw [List.getElem?_map] at h
  cases e : l[j]? with
  | none => rw [e] at h; cases h
  | some x => rw [e] at h; exact ⟨x, rfl, (Option.some.inj h).symm⟩
theorem at_iv {b : List Nat} {q : Nat} (h : q < b.length) : (b.map iv)[q]? = some (iv (b.getD q 0)) := by simp [h]

end QP

set_option Elab.async false
set_option linter.all false
set_option maxRecDepth 100000
set_option maxHeartbeats 1000000
namespace QP
open PySem PySem.Spec PyProof.Rows L2
/-! ### signs in a text -/
section
open Builtin Builtin.Str PySem.StrLaws
theorem occ_skip (s sub : Str) (hi limit : Nat) (l2 : List Nat) : ∀ (l : List Nat) (st : Array Nat × Nat), (∀ i ∈ l, ¬ (i + sub.length ≤ hi ∧ subAt s sub i = true)) → (forIn (l ++ l2) st (occBody s sub hi limit)).run = (forIn l2 st (occBody s sub hi limit)).run
  | [], st, _ => rfl
  | a :: l, st, h => by
    rw [List.cons_append, List.forIn_cons]
    have c : ¬ ((((st.fst.size < limit ∧ st.snd ≤ a) ∧ a + sub.length ≤ hi) ∧ subAt s sub a = true)) := fun q => h a (List.mem_cons_self ..) ⟨q.1.2, q.2⟩
    have e : occBody s sub hi limit a st = pure (ForInStep.yield (st.fst, st.snd)) := by unfold occBody; rw [if_neg c]
    rw [e]
    exact occ_skip s sub hi limit l2 l st fun i m => h i (List.mem_cons_of_mem _ m)
theorem occ_done (s sub : Str) (hi : Nat) : ∀ (l : List Nat) (st : Array Nat × Nat), st.fst.size = 1 → (forIn l st (occBody s sub hi 1)).run = st
  | [], st, _ => rfl
  | a :: l, st, h => by
    rw [List.forIn_cons]
    unfold occBody
    have c : ¬ ((((st.fst.size < 1 ∧ st.snd ≤ a) ∧ a + sub.length ≤ hi) ∧ subAt s sub a = true)) := fun q => by have := q.1.1.1; omega
    rw [if_neg c]
    exact occ_done s sub hi l st h
/-- the first place of a sign -/
theorem occ_first {x : Str} {c i : Nat} (h : x.cps.toList[i]? = some c) (hn : ∀ j, j < i → x.cps.toList[j]? ≠ some c) : occurrences x ⟨#[c]⟩ 0 x.length 1 = [i] := by
  have hi := (subAt_one x c i).mpr h
  have hlt : i < x.length := by
    obtain ⟨q, _⟩ := List.getElem?_eq_some_iff.mp h
    simpa [Str.length] using q
  rw [occ_eq]
  have e : List.range' 0 (x.length + 1 - 0) = List.range' 0 i ++ (i :: List.range' (i + 1) (x.length - i)) := by
    rw [show x.length + 1 - 0 = i + (x.length - i + 1) by omega, ← List.range'_append_1, List.range'_succ]
    simp
  rw [e, occ_skip _ _ _ _ _ _ _ (fun j hj q => by
    have hj' : j < i := by simpa [List.mem_range'] using hj
    exact hn j hj' ((subAt_one x c j).mp q))]
  rw [List.forIn_cons]
  have c1 : ((((#[] : Array Nat), 0).fst.size < 1 ∧ ((#[] : Array Nat), 0).snd ≤ i) ∧ i + (⟨#[c]⟩ : Str).length ≤ x.length) ∧ subAt x ⟨#[c]⟩ i = true := ⟨⟨⟨by simp, Nat.zero_le _⟩, hi.1⟩, hi.2⟩
  have s2 : occBody x ⟨#[c]⟩ x.length 1 i ((#[] : Array Nat), 0) = pure (ForInStep.yield ((#[] : Array Nat).push i, i + (⟨#[c]⟩ : Str).length)) := by
    unfold occBody
    rw [if_pos c1]
  rw [s2]
  show (forIn (List.range' (i + 1) (x.length - i)) ((#[] : Array Nat).push i, i + (⟨#[c]⟩ : Str).length) (occBody x ⟨#[c]⟩ x.length 1)).run.fst.toList = [i]
  rw [occ_done _ _ _ _ _ (by simp)]
  rfl
end
section
variable {K : PySem.W.Frag} {H : Hp} {Q : VK}
def rSIndex : V → List V → Hp → VK → Prop := fun x xs H Q => ∃ a b i rest, x = .str a ∧ xs = [.str b] ∧ Builtin.Str.occurrences a b 0 a.length 1 = i :: rest ∧ Q (.int (i : Nat)) H
theorem mtSIndex {X : Cx} : MtR X "str.index" rSIndex := mt_sindex
theorem r_sindex {cs : List Nat} {c i : Nat} (h : cs[i]? = some c) (hn : cs.Nodup) (k : Q (iv i) H) : rSIndex (.str ⟨cs.toArray⟩) [.str ⟨#[c]⟩] H Q :=
  ⟨_, _, i, [], rfl, rfl, occ_first (by simpa using h) (fun j hj q => by
    have q' : cs[j]? = some c := by simpa using q
    obtain ⟨hi, e1⟩ := List.getElem?_eq_some_iff.mp h
    obtain ⟨hj', e2⟩ := List.getElem?_eq_some_iff.mp q'
    have := (List.getElem_inj (h₀ := hj') (h₁ := hi) hn).mp (e2.trans e1.symm)
    omega), k⟩
def rSFind : V → List V → Hp → VK → Prop := fun x xs H Q => ∃ a b, x = .str a ∧ xs = [.str b] ∧ Q (.int (Txt.find a b)) H
theorem mtSFind {X : Cx} : MtR X "str.find" rSFind := mt_find
theorem r_sfind {cs : List Nat} {c i : Nat} (h : cs[i]? = some c) (hn : cs.Nodup) (k : Q (iv i) H) : rSFind (.str ⟨cs.toArray⟩) [.str ⟨#[c]⟩] H Q :=
  ⟨_, _, rfl, rfl, by
    have e : Builtin.Str.occurrences ⟨cs.toArray⟩ ⟨#[c]⟩ 0 (⟨cs.toArray⟩ : Str).length 1 = [i] := occ_first (by simpa using h) (fun j hj q => by
      have q' : cs[j]? = some c := by simpa using q
      obtain ⟨hi, e1⟩ := List.getElem?_eq_some_iff.mp h
      obtain ⟨hj', e2⟩ := List.getElem?_eq_some_iff.mp q'
      have := (List.getElem_inj (h₀ := hj') (h₁ := hi) hn).mp (e2.trans e1.symm)
      omega)
    unfold Txt.find
    rw [e]
    exact k⟩
end

end QP

set_option Elab.async false
set_option linter.all false
set_option maxRecDepth 100000
set_option maxHeartbeats 1000000
namespace QP
open PySem PySem.Spec PyProof.Rows L2
/-! ### zip of two of texts, lists, tuples -/
inductive Src where
  | txt (x : Str)
  | lst (a : Addr)
  | tup (a : Addr)
def Src.v : Src → V
  | .txt x => .str x
  | .lst a => .ref a
  | .tup a => .ref a
/-- the signs of a text -/
def sgn (x : Str) : List V := x.cps.toList.map fun c => V.str ⟨#[c]⟩
def Src.its (K : PySem.W.Frag) (H : Hp) (xs : List V) : Src → Prop
  | .txt x => xs = sgn x
  | .lst a => SqL K H a xs
  | .tup a => SqT K H a xs
def Src.at_ (it : Addr) (i : Nat) (h : Heap) : Src → Prop
  | .txt x => ∃ t, h.IsStrIter it (strIterType x) x t i
  | .lst a => h.IsListIter it a i
  | .tup a => h.IsTupleIter it a i
def Src.fp : Src → List Addr
  | .txt _ => []
  | .lst a => [a]
  | .tup a => [a]
theorem Src.at_keep {it : Addr} {i : Nat} {h h' : Heap} {S : Src} (x : S.at_ it i h) (k : ∀ o, h.get? it = some o → h'.get? it = some o) : S.at_ it i h' := by
  cases S with
  | txt y => obtain ⟨t, o, e, r⟩ := x; exact ⟨t, o, k o e, r⟩
  | lst a => exact Heap.IsListIter.at x k
  | tup a => exact Heap.IsTupleIter.at x k
theorem Src.at_obj {it : Addr} {i : Nat} {h : Heap} {S : Src} (x : S.at_ it i h) : ∃ o, h.get? it = some o ∧ ∀ v, o.data ≠ .cell v := by
  cases S with
  | txt y => obtain ⟨t, o, e, _, d⟩ := x; exact ⟨o, e, fun v q => by rw [d] at q; cases q⟩
  | lst a => obtain ⟨o, e, _, d⟩ := x; exact ⟨o, e, fun v q => by rw [d] at q; cases q⟩
  | tup a => obtain ⟨o, e, _, d⟩ := x; exact ⟨o, e, fun v q => by rw [d] at q; cases q⟩
section
variable {X : Cx} {pins : List (Addr × Obj)} {σ : L2.St} {H : Hp} {s : Shared}
theorem src_draws {S : Src} {xs : List V} {it : Addr} {i : Nat} {A : Around} (I : Inv X pins σ H s) (h : S.its X.K H xs) (x : S.at_ it i s.heap) (hh : A.handled = none) (ne : ∀ b ∈ S.fp, b ≠ it) :
    ∃ (n : Nat) (P : Nat → Value → Prop) (St : Nat → Heap → Prop), Draws X.prog X.w A it (it :: S.fp) n P St ∧ n = xs.length ∧ (∀ j v, P j v → ∃ y, xs[j]? = some y ∧ RelV y v) ∧ St i s.heap ∧ ∀ j h, St j h → S.at_ it j h := by
  cases S with
  | txt y =>
    obtain ⟨t, st⟩ := x
    have h : xs = sgn y := h
    subst h
    refine ⟨_, _, _, Draws.text hh it y t, by simp [sgn], fun j v hv => ?_, st, fun j h q => ⟨t, q⟩⟩
    obtain ⟨c, u, e1, rfl⟩ := hv
    exact ⟨.str ⟨#[c]⟩, by simp [sgn, e1], ⟨u, rfl⟩⟩
  | lst a =>
    obtain ⟨its, rv, p, _⟩ := I.list (show SqL X.K H a xs from h)
    refine ⟨_, _, _, Draws.list hh it a (ne a (by simp [Src.fp])) its.toArray, by rw [rv.length]; simp, fun j v hv => ?_, ⟨x, p.isList⟩, fun j h q => q.1⟩
    have hv : its[j]? = some v := by simpa using hv
    have hl : j < xs.length := by rw [rv.length]; exact (List.getElem?_eq_some_iff.mp hv).1
    obtain ⟨u, e1, r⟩ := rv.get (List.getElem?_eq_getElem hl)
    rw [hv] at e1; cases e1
    exact ⟨_, List.getElem?_eq_getElem hl, r⟩
  | tup a =>
    obtain ⟨its, rv, p, _⟩ := I.tuple (show SqT X.K H a xs from h)
    refine ⟨_, _, _, Draws.tuple hh it a (ne a (by simp [Src.fp])) its.toArray, by rw [rv.length]; simp, fun j v hv => ?_, ⟨x, p⟩, fun j h q => q.1⟩
    have hv : its[j]? = some v := by simpa using hv
    have hl : j < xs.length := by rw [rv.length]; exact (List.getElem?_eq_some_iff.mp hv).1
    obtain ⟨u, e1, r⟩ := rv.get (List.getElem?_eq_getElem hl)
    rw [hv] at e1; cases e1
    exact ⟨_, List.getElem?_eq_getElem hl, r⟩
theorem Src.its_inj (I : Inv X pins σ H s) {S : Src} {xs ys : List V} (h : S.its X.K H xs) (h' : S.its X.K H ys) : xs = ys := by
  cases S with
  | txt y => exact (show xs = sgn y from h).trans (show ys = sgn y from h').symm
  | lst a => exact I.list_inj h h'
  | tup a => exact I.tuple_inj h h'
theorem Src.fp_lt (I : Inv X pins σ H s) {S : Src} {xs : List V} (h : S.its X.K H xs) : ∀ b ∈ S.fp, b < s.heap.objs.size := fun b hb => by
  cases S with
  | txt y => simp [Src.fp] at hb
  | lst a =>
    have e : b = a := by simpa [Src.fp] using hb
    subst e
    obtain ⟨its, rv, p, _⟩ := I.list (show SqL X.K H b xs from h)
    exact p.lt
  | tup a =>
    have e : b = a := by simpa [Src.fp] using hb
    subst e
    obtain ⟨its, rv, ⟨o, ho, _⟩, _⟩ := I.tuple (show SqT X.K H b xs from h)
    exact Heap.lt_size ho
end
def ItzX (K : PySem.W.Frag) (S1 S2 : Src) : It :=
  ⟨fun i H => ∃ xs ys, S1.its K H xs ∧ S2.its K H ys ∧ i < min xs.length ys.length,
   fun i H v H' => ∃ T x y, v = .ref T ∧ H T = none ∧ H' = upd H T (.tup [x, y]) ∧ (∀ xs, S1.its K H xs → xs[i]? = some x) ∧ ∀ ys, S2.its K H ys → ys[i]? = some y,
   fun i H => ∃ xs ys, S1.its K H xs ∧ S2.its K H ys ∧ i = min xs.length ys.length⟩
def tnX (N : Addr) (S1 S2 : Src) (i : Nat) (h : Heap) : Prop :=
  IsZip h (N + 4) (N + 2) (N + 3) .none ∧ IsTupOf2 h (N + 2) (.ref N) (.ref (N + 1)) ∧ (∃ a1 a2, IsTupOf2 h (N + 3) a1 a2) ∧ S1.at_ N i h ∧ S2.at_ (N + 1) i h
theorem turn_zipX {P : Program} {w : World} {K : PySem.W.Frag} {elts : List Expr} {kk : Nat} {tpos : Pos} {N : Addr} {S1 S2 : Src} (l1 : ∀ b ∈ S1.fp, b < N) (l2 : ∀ b ∈ S2.fp, b < N) :
    Turn P w K (.Tuple elts kk tpos) (ItzX K S1 S2) [N + 4, N + 2, N + 3, N, N + 1] (N + 4) (tnX N S1 S2) where
  mem := by simp
  obj := fun i h st c hc => by
    obtain ⟨hz, hTI, ⟨x, y, hTO⟩, h1, h2⟩ := st
    have e' : c = N + 4 ∨ c = N + 2 ∨ c = N + 3 ∨ c = N ∨ c = N + 1 := by simpa using hc
    rcases e' with q | q | q | q | q
    · rw [q]; exact ⟨_, hz, fun v q => nomatch q⟩
    · rw [q]; exact ⟨_, hTI, fun v q => nomatch q⟩
    · rw [q]; exact ⟨_, hTO, fun v q => nomatch q⟩
    · rw [q]; exact Src.at_obj h1
    · rw [q]; exact Src.at_obj h2
  keep := fun i h h' st k => by
    obtain ⟨hz, hTI, ⟨x, y, hTO⟩, h1, h2⟩ := st
    exact ⟨k (N + 4) (by simp) _ hz, k (N + 2) (by simp) _ hTI, ⟨x, y, k (N + 3) (by simp) _ hTO⟩, Src.at_keep h1 fun o q => k N (by simp) o q, Src.at_keep h2 fun o q => k (N + 1) (by simp) o q⟩
  item := by
    intro X hP hw hK hc i pins s σ H E I hf st hg
    subst hP hw hK
    obtain ⟨hz, hTI, hTO, h1, h2⟩ := st
    obtain ⟨xs, ys, q1, q2, hi⟩ := hg
    have hd : X.A.in1.handled = none := I.ok.hd hc
    obtain ⟨n1, P1, St1, D1, e1, r1, st1, b1⟩ := src_draws (A := X.A.in1) I q1 h1 hd (fun b hb => Nat.ne_of_lt (l1 b hb))
    obtain ⟨n2, P2, St2, D2, e2, r2, st2, b2⟩ := src_draws (A := X.A.in1) I q2 h2 hd (fun b hb => Nat.ne_of_lt (Nat.lt_succ_of_lt (l2 b hb)))
    have W := GoesN.zip2 (elts := elts) (x1 := kk) (pos := tpos) (zip_sep2 l1 l2) D1 D2
    refine W.goes i s (fun u s2 => ∃ x H', Inv X pins σ H' s2 ∧ RelV x u ∧ (ItzX X.K S1 S2).yld i H x H' ∧ tnX N S1 S2 (i + 1) s2.heap ∧ ∀ b ∈ [N + 4, N + 2, N + 3, N, N + 1], H' b = none) E (by rw [e1, e2]; exact hi) ⟨hz, hTI, hTO, st1, st2⟩ fun u h' tk hY st' hk htk => ?_
    obtain ⟨T, x, y, rfl, hT, p1, p2, hIT⟩ := hY
    obtain ⟨x', hx, rx⟩ := r1 i x p1
    obtain ⟨y', hy, ry⟩ := r2 i y p2
    obtain ⟨z', TI', TO', s1', s2'⟩ := st'
    have new : ObjOk X.prog X.w (upd H T (.tup [x', y'])) h' T (.tup [x', y']) := ⟨by show 2 ≤ sizeLine; decide, [x, y], .cons rx (.cons ry .nil), hIT⟩
    have hsz : ∀ c ∈ [N + 4, N + 2, N + 3, N, N + 1], c < s.heap.objs.size := fun c hcm => by
      have e' : c = N + 4 ∨ c = N + 2 ∨ c = N + 3 ∨ c = N ∨ c = N + 1 := by simpa using hcm
      have hzl : N + 4 < s.heap.objs.size := Heap.lt_size hz
      rcases e' with q | q | q | q | q <;> (rw [q]; first | exact hzl | exact Nat.lt_trans (Nat.add_lt_add_left (by decide) N) hzl | exact Nat.lt_of_le_of_lt (Nat.le_add_right N 4) hzl)
    have I1 : Inv X pins σ (upd H T (.tup [x', y'])) { s with heap := h', toks := tk } :=
      I.turnedNew (ch := [N + 4, N + 2, N + 3, N, N + 1]) (fun c o hb q => hk c o (fun q' => hb (by
        have e' : c = N + 4 ∨ c = N + 3 ∨ c = N ∨ c = N + 1 := by simpa using q'
        rcases e' with q | q | q | q <;> simp [q])) q) hf hT new
    refine ⟨.ref T, _, I1, rfl, ⟨T, x', y', rfl, I.hok.fresh hT, rfl, fun l hl => by rw [Src.its_inj I hl q1]; exact hx, fun l hl => by rw [Src.its_inj I hl q2]; exact hy⟩, ⟨z', TI', TO', b1 _ _ s1', b2 _ _ s2'⟩, fun c hcm => ?_⟩
    rw [upd_ne (Nat.ne_of_lt (Nat.lt_of_lt_of_le (hsz c hcm) hT))]
    exact (hf c hcm).1
  done := by
    intro X hP hw hK hc i pins s σ H E I hf st hg
    subst hP hw hK
    obtain ⟨hz, hTI, hTO, h1, h2⟩ := st
    obtain ⟨xs, ys, q1, q2, hi⟩ := hg
    have hd : X.A.in1.handled = none := I.ok.hd hc
    obtain ⟨n1, P1, St1, D1, e1, r1, st1, b1⟩ := src_draws (A := X.A.in1) I q1 h1 hd (fun b hb => Nat.ne_of_lt (l1 b hb))
    obtain ⟨n2, P2, St2, D2, e2, r2, st2, b2⟩ := src_draws (A := X.A.in1) I q2 h2 hd (fun b hb => Nat.ne_of_lt (Nat.lt_succ_of_lt (l2 b hb)))
    have W := GoesN.zip2 (elts := elts) (x1 := kk) (pos := tpos) (zip_sep2 l1 l2) D1 D2
    subst e1 e2 hi
    refine W.stops s (fun s1 => Inv X pins σ H s1) E ⟨hz, hTI, hTO, st1, st2⟩ fun h' tk hk htk => ?_
    exact I.turnedL (ch := [N + 4, N + 2, N + 3, N, N + 1]) (fun c o hb q => hk c o (fun q' => hb (by
        have e' : c = N + 4 ∨ c = N + 3 ∨ c = N ∨ c = N + 1 := by simpa using q'
        rcases e' with q | q | q | q <;> simp [q])) q) hf
  self := fun A i s Q E st h => wpAny_pyIter_zip st.1 h
def iZipX (K : PySem.W.Frag) (ta : TA) : TI := fun σ H R => ta σ H fun vs H1 => ∃ S1 S2 xs ys, vs = [Src.v S1, Src.v S2] ∧ S1.its K H1 xs ∧ S2.its K H1 ys ∧ R (ItzX K S1 S2) H1
theorem src_begins {X : Cx} {pins : List (Addr × Obj)} {σ : L2.St} {H : Hp} {s : Shared} (I : Inv X pins σ H s) {S : Src} {xs : List V} (h : S.its X.K H xs) {u : Value} (r : RelV S.v u) :
    ∃ (o : Obj) (Hb : Heap → Prop), Begins u o Hb ∧ Hb s.heap ∧ ∀ (it : Addr) (h' : Heap), h'.get? it = some o → S.at_ it 0 h' := by
  cases S with
  | txt x =>
    obtain ⟨t, rfl⟩ := r
    exact ⟨_, _, begins_text x t, trivial, fun it h' e => ⟨t, ⟨_, e, rfl, rfl⟩⟩⟩
  | lst a =>
    cases r
    obtain ⟨its, rv, p, _⟩ := I.list (show SqL X.K H a xs from h)
    exact ⟨_, _, begins_list a its.toArray, p.isList, fun it h' e => ⟨_, e, rfl, rfl⟩⟩
  | tup a =>
    cases r
    obtain ⟨its, rv, p, _⟩ := I.tuple (show SqT X.K H a xs from h)
    exact ⟨_, _, begins_tuple a its.toArray, p, fun it h' e => ⟨_, e, rfl, rfl⟩⟩
theorem pi_zipX {X : Cx} {K : PySem.W.Frag} {e e2 : Expr} {ta : TA} {p pos tpos : Pos} {elts : List Expr} {kk : Nat} (hg : Gl X "zip") (hm : X.mg "zip" = none) (ha : PA X [e, e2] ta) (hK : X.K = K := by rfl)
    (hs : starEach [e, e2] X.env = (false, eval e X.env) :: starEach [e2] X.env := by rfl) (hpl : (backTo pos (starEach [e2] X.env)).any (·.1) = false := by rfl) :
    PI X (.Tuple elts kk tpos) (.Call (.Name "zip" p) [e, e2] [] pos) (iZipX K ta) := by
  subst hK
  refine ⟨fun pins s σ H R I h => ?_⟩
  refine Call_ (ld_blt I hg hm PyProof.Rows.boot_zip (PyProof.Rows.callWith_type1 (thn (ha.run pos pins s σ H _ I h) fun us s1 ⟨vs, H1, I1, r1, q1⟩ => ?_) hs hpl))
  obtain ⟨S1, S2, xs, ys, ex, h1, h2, q⟩ := q1
  subst ex
  cases r1 with
  | cons r rr =>
    cases rr with
    | cons r' rr =>
      cases rr
      obtain ⟨o1, B1, b1, g1, a1⟩ := src_begins I1 h1 r
      obtain ⟨o2, B2, b2, g2, a2⟩ := src_begins I1 h2 r'
      have fresh5 : ∀ c, c ∈ [s1.heap.objs.size + 4, s1.heap.objs.size + 2, s1.heap.objs.size + 3, s1.heap.objs.size, s1.heap.objs.size + 1] → FpOk X pins H1 c := fun c hcm => by
        have e' : c = s1.heap.objs.size + 4 ∨ c = s1.heap.objs.size + 2 ∨ c = s1.heap.objs.size + 3 ∨ c = s1.heap.objs.size ∨ c = s1.heap.objs.size + 1 := by simpa using hcm
        have hle : s1.heap.objs.size ≤ c := by
          rcases e' with z | z | z | z | z
          · rw [z]; exact Nat.le_add_right _ _
          · rw [z]; exact Nat.le_add_right _ _
          · rw [z]; exact Nat.le_add_right _ _
          · rw [z]; exact Nat.le_refl _
          · rw [z]; exact Nat.le_add_right _ _
        exact I1.fpOk hle (I1.hok.fresh hle)
      refine zip_begins2 b1 b2 g1 g2 fun h' hz hTI hTO ho1 ho2 hsz hk => wpAny_pyIter_zip hz ?_
      have I2 : Inv X pins σ H1 { s1 with heap := h' } := I1.kept (t' := s1.toks) hk
      exact ⟨s1.heap.objs.size + 4, [s1.heap.objs.size + 4, s1.heap.objs.size + 2, s1.heap.objs.size + 3, s1.heap.objs.size, s1.heap.objs.size + 1], _, _, H1, rfl, I2, turn_zipX (N := s1.heap.objs.size) (Src.fp_lt I1 h1) (Src.fp_lt I1 h2), ⟨hz, hTI, ⟨_, _, hTO⟩, a1 _ _ ho1, a2 _ _ ho2⟩, fresh5, q⟩
section
variable {K : PySem.W.Frag} {σ : L2.St} {H : Hp} {ta : TA} {R : It → Hp → Prop} {g : TG} {tb : TS} {D : Ends} {xs ys : List V}
def kZX (K : PySem.W.Frag) (R : It → Hp → Prop) : List V → Hp → Prop := fun vs H1 => ∃ S1 S2 xs ys, vs = [Src.v S1, Src.v S2] ∧ S1.its K H1 xs ∧ S2.its K H1 ys ∧ R (ItzX K S1 S2) H1
theorem w_iZX (h : ta σ H (kZX K R)) : iZipX K ta σ H R := h
instance : Stp (iZipX K ta σ H R) (ta σ H (kZX K R)) := ⟨w_iZX⟩
theorem k_iZX (S1 S2 : Src) (h1 : S1.its K H xs) (h2 : S2.its K H ys) (k : R (ItzX K S1 S2) H) : kZX K R [S1.v, S2.v] H := ⟨S1, S2, xs, ys, rfl, h1, h2, k⟩
theorem Src.its_ex {H H' : Hp} {S : Src} (h : S.its K H xs) (e : Ex H H') : S.its K H' xs := by
  cases S with
  | txt y => exact h
  | lst a => exact exSqL e h
  | tup a => exact exSqT e h
theorem walk_zipX {S1 S2 : Src} {n : Nat} (hn : n = min xs.length ys.length) : Walk (ItzX K S1 S2) n (fun H => S1.its K H xs ∧ S2.its K H ys) (YPair (fun i => xs[i]?) (fun i => ys[i]?)) := by
  subst hn
  exact ⟨fun i _ hi q => ⟨xs, ys, q.1, q.2, hi⟩, fun _ q => ⟨xs, ys, q.1, q.2, rfl⟩, fun i H v H' _ q y => by
    obtain ⟨T, x, z, h1, h2, h3, h4, h5⟩ := y
    exact ⟨T, x, z, h1, h2, h3, h4 xs q.1, h5 ys q.2⟩⟩
end

end QP

set_option Elab.async false
set_option linter.all false
set_option maxRecDepth 100000
set_option maxHeartbeats 1000000
namespace QP
open PySem PySem.Spec PyProof.Rows L2
/-! ### slices, isinstance, join, setdefault, str tests -/
section
variable {K : PySem.W.Frag} {σ : L2.St} {H : Hp} {te ta td ty tx to : TE} {tl th : TO} {Q : VK} {r : V → Option Int → Option Int → Hp → VK → Prop} {x v : V} {cs : List Nat} {xs : List V} {a : Addr}
def kSl (r : V → Option Int → Option Int → Hp → VK → Prop) (tl th : TO) (σ : L2.St) (Q : VK) : VK := fun x H1 => tl σ H1 fun l H2 => th σ H2 fun u H3 => r x l u H3 Q
def kSl2 (r : V → Option Int → Option Int → Hp → VK → Prop) (x : V) (th : TO) (σ : L2.St) (Q : VK) : Option Int → Hp → Prop := fun l H2 => th σ H2 fun u H3 => r x l u H3 Q
def kSl3 (r : V → Option Int → Option Int → Hp → VK → Prop) (x : V) (l : Option Int) (Q : VK) : Option Int → Hp → Prop := fun u H3 => r x l u H3 Q
theorem w_sl (h : te σ H (kSl r tl th σ Q)) : tSl r te tl th σ H Q := h
instance : Stp (tSl r te tl th σ H Q) (te σ H (kSl r tl th σ Q)) := ⟨w_sl⟩
theorem k_sl (h : tl σ H (kSl2 r x th σ Q)) : kSl r tl th σ Q x H := h
instance : Stp (kSl r tl th σ Q x H) (tl σ H (kSl2 r x th σ Q)) := ⟨k_sl⟩
theorem k_sl2 {l : Option Int} (h : th σ H (kSl3 r x l Q)) : kSl2 r x th σ Q l H := h
instance {l : Option Int} : Stp (kSl2 r x th σ Q l H) (th σ H (kSl3 r x l Q)) := ⟨k_sl2⟩
theorem k_sl3 {l u : Option Int} (h : r x l u H Q) : kSl3 r x l Q u H := h
instance {l u : Option Int} : Stp (kSl3 r x l Q u H) (r x l u H Q) := ⟨k_sl3⟩
theorem w_nopart {Q : Option Int → Hp → Prop} (k : Q none H) : tNoPart σ H Q := k
instance {Q : Option Int → Hp → Prop} : Stp (tNoPart σ H Q) (Q none H) := ⟨w_nopart⟩
def kPart (Q : Option Int → Hp → Prop) : VK := fun x H1 => ∃ i, x = .int i ∧ Q (some i) H1
theorem w_part {Q : Option Int → Hp → Prop} (h : te σ H (kPart Q)) : tPart te σ H Q := h
instance {Q : Option Int → Hp → Prop} : Stp (tPart te σ H Q) (te σ H (kPart Q)) := ⟨w_part⟩
theorem k_part {i : Int} {Q : Option Int → Hp → Prop} (h : Q (some i) H) : kPart Q (.int i) H := ⟨i, rfl, h⟩
instance {i : Int} {Q : Option Int → Hp → Prop} : Stp (kPart Q (.int i) H) (Q (some i) H) := ⟨k_part⟩
theorem slen {cs : List Nat} : (⟨cs.toArray⟩ : Str).length = cs.length := by simp [Str.length]
theorem cutS_from {p : Nat} (h : p ≤ cs.length) : cutS ⟨cs.toArray⟩ (some (p : Int)) none = ⟨(cs.drop p).toArray⟩ := by
  unfold cutS
  rw [HT.sIx_nat, HT.sIx_none, slen, Nat.min_eq_left h]
  congr 1
  rw [List.take_of_length_le (by simp)]
theorem cutS_to {p : Nat} (h : p ≤ cs.length) : cutS ⟨cs.toArray⟩ none (some (p : Int)) = ⟨(cs.take p).toArray⟩ := by
  unfold cutS
  rw [HT.sIx_nat, HT.sIx_none, slen, Nat.min_eq_left h]
  congr 1
theorem sIx_m1 (n d : Nat) : HT.sIx n d (some (-1)) = n - 1 := by
  show (if (-1 : Int) < 0 then (-1 + (n : Int)).toNat else min (-1 : Int).toNat n) = n - 1
  rw [if_pos (by decide)]
  omega
theorem cutS_m1 : cutS ⟨cs.toArray⟩ none (some (-1)) = ⟨cs.dropLast.toArray⟩ := by
  unfold cutS
  rw [sIx_m1, HT.sIx_none, slen]
  congr 1
  simp [List.dropLast_eq_take]
theorem r_slSfrom {p : Nat} (c : cs.length ≤ 100000) (h : p ≤ cs.length) (k : Q (.str ⟨(cs.drop p).toArray⟩) H) : rSlS (.str ⟨cs.toArray⟩) (some (p : Int)) none H Q := ⟨_, rfl, by rw [slen, sizeLine_eq]; omega, by rw [cutS_from h]; exact k⟩
theorem r_slSto {p : Nat} (c : cs.length ≤ 100000) (h : p ≤ cs.length) (k : Q (.str ⟨(cs.take p).toArray⟩) H) : rSlS (.str ⟨cs.toArray⟩) none (some (p : Int)) H Q := ⟨_, rfl, by rw [slen, sizeLine_eq]; omega, by rw [cutS_to h]; exact k⟩
theorem r_slSm1 (c : cs.length ≤ 100000) (k : Q (.str ⟨cs.dropLast.toArray⟩) H) : rSlS (.str ⟨cs.toArray⟩) none (some (-1)) H Q := ⟨_, rfl, by rw [slen, sizeLine_eq]; omega, by rw [cutS_m1]; exact k⟩
theorem cutV_from {p : Nat} (h : p ≤ xs.length) : cutV xs (some (p : Int)) none = xs.drop p := by
  unfold cutV
  rw [HT.sIx_nat, HT.sIx_none, Nat.min_eq_left h, List.take_of_length_le (by simp)]
theorem cutV_to {p : Nat} : cutV xs none (some (p : Int)) = xs.take p := by
  unfold cutV
  rw [HT.sIx_nat, HT.sIx_none]
  simp only [List.drop_zero, Nat.sub_zero]
  rcases Nat.le_total p xs.length with h | h
  · rw [Nat.min_eq_left h]
  · rw [Nat.min_eq_right h, List.take_of_length_le (Nat.le_refl _), List.take_of_length_le h]
theorem cutV_m1 : cutV xs none (some (-1)) = xs.dropLast := by
  unfold cutV
  rw [sIx_m1, HT.sIx_none]
  simp [List.dropLast_eq_take]
theorem r_slLfrom {p : Nat} (h : SqL K H a xs) (c : p ≤ xs.length) (k : ∀ q H', H q = none → Ex H H' → H' q = some (.lst (xs.drop p)) → Q (.ref q) H') : rSlL K (.ref a) (some (p : Int)) none H Q := ⟨a, xs, rfl, h, by rw [cutV_from c]; exact a_new k⟩
theorem r_slLto {p : Nat} (h : SqL K H a xs) (k : ∀ q H', H q = none → Ex H H' → H' q = some (.lst (xs.take p)) → Q (.ref q) H') : rSlL K (.ref a) none (some (p : Int)) H Q := ⟨a, xs, rfl, h, by rw [cutV_to]; exact a_new k⟩
theorem r_slLm1 (h : SqL K H a xs) (k : ∀ q H', H q = none → Ex H H' → H' q = some (.lst xs.dropLast) → Q (.ref q) H') : rSlL K (.ref a) none (some (-1)) H Q := ⟨a, xs, rfl, h, by rw [cutV_m1]; exact a_new k⟩
theorem slA {X : Cx} (h : X.K = K := by rfl) : SlR X (rSlA K) := h ▸ sl_tupA
/-- a tuple's slice: some tuple of these -/
theorem r_slA {lo hi : Option Int} {ys : List V} (h : H a = some (.tup xs)) (e : cutV xs lo hi = ys) (k : ∀ q H', Ex H H' → H' q = some (.tup ys) → Q (.ref q) H') : rSlA K (.ref a) lo hi H Q := by
  refine ⟨a, xs, rfl, SqT.of h, fun hw => ?_, fun _ => ?_⟩
  · have e2 : ys = xs := by
      rw [← e]
      unfold cutV
      rw [hw.1, hw.2]
      simp
    exact k a H Ex.rfl' (by rw [e2]; exact h)
  · rw [e]
    exact a_new fun p H' _ e1 h1 => k p H' e1 h1
theorem r_isi {T1 T2 : String} {b : Bool} (t : TyX K H x (.type T1)) (h : kitB T1 T2 = some b) (k : Q (.bl b) H) : rIsi K [x, .ty T2] H Q := ⟨x, _, _, _, b, rfl, .ty T2, t, kit_ty h, k⟩
def rGeS : R2 := fun x y H Q => ∃ i j, x = .str i ∧ y = .str j ∧ Q (.bl (!decide (i.cps.toList < j.cps.toList))) H
theorem op_geS {X : Cx} : OpR X (compareOp .GtE) rGeS := op_ge_str
theorem r_geS {a b : Str} (k : Q (.bl (!decide (a.cps.toList < b.cps.toList))) H) : rGeS (.str a) (.str b) H Q := ⟨a, b, rfl, rfl, k⟩
instance {a b : Str} : Stp (rGeS (.str a) (.str b) H Q) (Q (.bl (!decide (a.cps.toList < b.cps.toList))) H) := ⟨r_geS⟩
/-- a op b op c -/
def kCh3 (r' : R2) (y : V) (tc : TE) (σ : L2.St) (Q : VK) : VK := fun z H3 => ∃ k, z = .bl k ∧ if k = true then tc σ H3 (kOp2 r' y Q) else Q (.bl false) H3
def kCh2 (r r' : R2) (x : V) (tc : TE) (σ : L2.St) (Q : VK) : VK := fun y H2 => r x y H2 (kCh3 r' y tc σ Q)
def kCh (r r' : R2) (tb tc : TE) (σ : L2.St) (Q : VK) : VK := fun x H1 => tb σ H1 (kCh2 r r' x tc σ Q)
theorem w_chain {r r' : R2} {tb tc : TE} (h : ta σ H (kCh r r' tb tc σ Q)) : tChain r r' ta tb tc σ H Q := h
instance {r r' : R2} {tb tc : TE} : Stp (tChain r r' ta tb tc σ H Q) (ta σ H (kCh r r' tb tc σ Q)) := ⟨w_chain⟩
theorem k_ch {r r' : R2} {tb tc : TE} (h : tb σ H (kCh2 r r' x tc σ Q)) : kCh r r' tb tc σ Q x H := h
instance {r r' : R2} {tb tc : TE} : Stp (kCh r r' tb tc σ Q x H) (tb σ H (kCh2 r r' x tc σ Q)) := ⟨k_ch⟩
theorem k_ch2 {y : V} {r r' : R2} {tc : TE} (h : r x y H (kCh3 r' y tc σ Q)) : kCh2 r r' x tc σ Q y H := h
instance {y : V} {r r' : R2} {tc : TE} : Stp (kCh2 r r' x tc σ Q y H) (r x y H (kCh3 r' y tc σ Q)) := ⟨k_ch2⟩
theorem k_ch3 {b : Bool} {y : V} {r' : R2} {tc : TE} (h1 : b = true → tc σ H (kOp2 r' y Q)) (h2 : b = false → Q (.bl false) H) : kCh3 r' y tc σ Q (.bl b) H := ⟨b, rfl, by
  cases b with
  | true => exact h1 rfl
  | false => exact h2 rfl⟩
/-- join -/
def kM1 (r : V → List V → Hp → VK → Prop) (te : TE) (σ : L2.St) (Q : VK) : VK := fun x H1 => (∃ a, x = .str a) ∧ te σ H1 fun y H2 => r x [y] H2 Q
def kM1b (r : V → List V → Hp → VK → Prop) (x : V) (Q : VK) : VK := fun y H2 => r x [y] H2 Q
theorem w_m1 {r : V → List V → Hp → VK → Prop} (h : to σ H (kM1 r te σ Q)) : tM1 r to te σ H Q := h
instance {r : V → List V → Hp → VK → Prop} : Stp (tM1 r to te σ H Q) (to σ H (kM1 r te σ Q)) := ⟨w_m1⟩
theorem k_m1 {r : V → List V → Hp → VK → Prop} {s : Str} (h : te σ H (kM1b r (.str s) Q)) : kM1 r te σ Q (.str s) H := ⟨⟨s, rfl⟩, h⟩
instance {r : V → List V → Hp → VK → Prop} {s : Str} : Stp (kM1 r te σ Q (.str s) H) (te σ H (kM1b r (.str s) Q)) := ⟨k_m1⟩
theorem k_m1b {y : V} {r : V → List V → Hp → VK → Prop} (h : r x [y] H Q) : kM1b r x Q y H := h
instance {y : V} {r : V → List V → Hp → VK → Prop} : Stp (kM1b r x Q y H) (r x [y] H Q) := ⟨k_m1b⟩
theorem joinL_nil : ∀ l : List (List Nat), TL.joinL [] l = l.flatten
  | [] => rfl
  | [p] => by simp [TL.joinL]
  | p :: q :: r => by
    show p ++ ([] ++ TL.joinL [] (q :: r)) = _
    rw [joinL_nil (q :: r)]
    simp
theorem join_signs (ds : List Nat) : Txt.join "" (ds.map fun c => (⟨#[c]⟩ : Str)) = ⟨ds.toArray⟩ := by
  have h : TL.tl (Str.join "" (ds.map fun c => (⟨#[c]⟩ : Str))) = ds := by
    rw [TL.tl_join]
    have e : TL.tl ("" : Str) = [] := by decide +kernel
    rw [e, joinL_nil, List.map_map]
    induction ds with
    | nil => rfl
    | cons a t ih =>
      simp only [List.map_cons, List.flatten_cons]
      rw [ih]
      rfl
  rw [TL.join_eq]
  have h2 : (Str.join "" (ds.map fun c => (⟨#[c]⟩ : Str))).cps.toList = ds := h
  cases hs : Str.join "" (ds.map fun c => (⟨#[c]⟩ : Str)) with
  | mk cps =>
    rw [hs] at h2
    congr 1
    rw [← h2]
end

end QP

set_option Elab.async false
set_option linter.all false
set_option maxRecDepth 100000
set_option maxHeartbeats 1000000
namespace QP
open PySem PySem.Spec PyProof.Rows L2
/-! ### dicts with keys that are bools, or (n, (n, ..)) -/
section
def lfk (l : List Nat) : Leaf := .num ((l.headD 0 : Nat) : Int)
/-- a bool as a key: [0], [1] -/
def isBk (l : List Nat) (v : Value) : Bool := match l, v with
  | [0], .bool false => true
  | [1], .bool true => true
  | _, _ => false
theorem isBk_shape {l : List Nat} {v : Value} (h : isBk l v = true) : ∃ b : Bool, v = .bool b ∧ l = [b.toNat] := by
  unfold isBk at h
  split at h
  · exact ⟨false, rfl, rfl⟩
  · exact ⟨true, rfl, rfl⟩
  · cases h
theorem isBk_leaf {P : Program} {w : World} {l : List Nat} {v : Value} (h : isBk l v = true) : (leafKind P w).is (lfk l) v = true := by
  obtain ⟨b, rfl, rfl⟩ := isBk_shape h
  cases b <;> rfl
def bkd (P : Program) (w : World) : KeyKind P w (List Nat) where
  is := isBk
  hash := fun l => (leafKind P w).hash (lfk l)
  inj := fun v a b ha hb => by
    obtain ⟨c, rfl, rfl⟩ := isBk_shape ha
    obtain ⟨d, e, rfl⟩ := isBk_shape hb
    cases e
    rfl
  byValue := fun k v h => (leafKind P w).byValue _ _ (isBk_leaf h)
  pyHash := fun hv h => (leafKind P w).pyHash (isBk_leaf hv) h
  eqBool := fun {A E s a b u v Q} hu hv h => (leafKind P w).eqBool (isBk_leaf hu) (isBk_leaf hv) (by
    obtain ⟨c, _, rfl⟩ := isBk_shape hu
    obtain ⟨d, _, rfl⟩ := isBk_shape hv
    cases c <;> cases d <;> exact h)
  «strs» := fun k x t v h => by
    obtain ⟨b, e, _⟩ := isBk_shape h
    cases e
def nkk (l : List Nat) : NestedKey := match l with
  | [] => .none
  | c :: cs => .tup [.num (Int.ofNat c), .tup (cs.map fun n => NestedKey.num (Int.ofNat n))]
theorem nums_inj : ∀ {a b : List Nat}, (a.map fun n => NestedKey.num (Int.ofNat n)) = (b.map fun n => NestedKey.num (Int.ofNat n)) → a = b
  | [], [], _ => rfl
  | [], _ :: _, h => by cases h
  | _ :: _, [], h => by cases h
  | x :: a, y :: b, h => by
    rw [List.map_cons, List.map_cons] at h
    injection h with h1 h2
    injection h1 with h1
    rw [nums_inj h2, Int.ofNat.inj h1]
theorem nkk_inj : ∀ {a b : List Nat}, nkk a = nkk b → a = b
  | [], [], _ => rfl
  | [], _ :: _, h => by cases h
  | _ :: _, [], h => by cases h
  | x :: a, y :: b, h => by
    have h : NestedKey.tup [.num (Int.ofNat x), .tup (a.map fun n => .num (Int.ofNat n))] = .tup [.num (Int.ofNat y), .tup (b.map fun n => .num (Int.ofNat n))] := h
    injection h with h
    injection h with h1 h
    injection h1 with h1
    injection h with h2
    injection h2 with h2
    rw [nums_inj h2, Int.ofNat.inj h1]
def nkd (P : Program) (w : World) : HeapKind P w (List Nat) where
  is := fun h l a => (nestedKind P w).is h (nkk l) a
  hash := fun l => (nestedKind P w).hash (nkk l)
  draws := fun l => (nestedKind P w).draws (nkk l)
  room := (nestedKind P w).room
  inj := fun hx hy => nkk_inj ((nestedKind P w).inj hx hy)
  keeps := fun x ho hd hs => (nestedKind P w).keeps x ho hd hs
  pyHash := fun hu hk h => (nestedKind P w).pyHash hu hk h
  eqBool := fun {A E s x y a b Q} hu hx hy h => (nestedKind P w).eqBool hu hx hy (by
    by_cases e : x = y
    · rw [decide_eq_true e] at h
      rw [decide_eq_true (congrArg nkk e)]
      exact h
    · rw [decide_eq_false e] at h
      rw [decide_eq_false fun z => e (nkk_inj z)]
      exact h)
  quiet := fun hk h => (nestedKind P w).quiet hk h
end
/-- y is the key l -/
def Ky (kd : Bool) (H : Hp) (l : List Nat) (y : V) : Prop := match kd with
  | true => ∃ b : Bool, y = .bl b ∧ l = [b.toNat]
  | false => ∃ c cs a b, y = .ref a ∧ l = c :: cs ∧ H a = some (.tup [iv c, .ref b]) ∧ H b = some (.tup (cs.map iv))
theorem Ky.tp {kd : Bool} {H H' : Hp} {l : List Nat} {y : V} (h : Ky kd H l y) (e : Tp H H') : Ky kd H' l y := by
  cases kd with
  | true => exact h
  | false =>
    obtain ⟨c, cs, a, b, h1, h2, h3, h4⟩ := h
    exact ⟨c, cs, a, b, h1, h2, e _ _ h3, e _ _ h4⟩
/-- number values -/
def NV {κ : Type} (kvs : List (κ × Nat)) : List (κ × V) := kvs.map fun p => (p.1, iv p.2)
def φB (P : Program) (w : World) (d : Addr) (vs : List (List Nat × Value)) (h : Heap) : Prop := (d == sysModules) = false ∧ h.DictOf (bkd P w) d vs
def φN (P : Program) (w : World) (d : Addr) (xs : List (List Nat × Addr × Value)) (h : Heap) : Prop := (d == sysModules) = false ∧ ∃ o es ep, h.get? d = some o ∧ o.ExactDict ∧ o.data = .dict es ep ∧ es.toList = xs.map (entryOfKey (nkd P w)) ∧ (xs.map (·.1)).Nodup
def KN (H : Hp) : List (List Nat × V) → List (List Nat × Addr × Value) → Prop := Paired fun p q => p.1 = q.1 ∧ Ky false H q.1 (.ref q.2.1) ∧ RelV p.2 q.2.2
def ND (P : Program) (w : World) (kd : Bool) (H : Hp) (d : Addr) (kvs : List (List Nat × V)) : Prop := kvs.length ≤ 1000 ∧ match kd with
  | true => ∃ vs, KV kvs vs ∧ H d = some (.ext (φB P w d vs))
  | false => ∃ xs, KN H kvs xs ∧ H d = some (.ext (φN P w d xs))
section
variable {P : Program} {w : World} {H H' : Hp} {d : Addr} {kvs : List (List Nat × V)}
theorem KN.tp {xs : List (List Nat × Addr × Value)} (r : KN H kvs xs) (e : Tp H H') : KN H' kvs xs := Paired.mapP r fun _ _ z => ⟨z.1, z.2.1.tp e, z.2.2⟩
theorem KN.val {xs : List (List Nat × Addr × Value)} (r : KN H kvs xs) (k : List Nat) : RelO (valV kvs k) ((atKey xs k).map (·.2)) := by
  unfold KN at r
  induction r with
  | nil => exact True.intro
  | @cons p q ps qs h t ih =>
    obtain ⟨h1, _, h2⟩ := h
    by_cases e : p.1 = k
    · have e' : q.1 = k := h1.symm.trans e
      have b : atKey (q :: qs) k = some q.2 := by simp [atKey, List.find?_cons, e']
      rw [valV_pos e, b]; exact h2
    · have e' : ¬ q.1 = k := fun z => e (h1.trans z)
      have b : atKey (q :: qs) k = atKey qs k := by simp [atKey, List.find?_cons, e']
      rw [valV_neg e, b]; exact ih
theorem KN.repl {xs : List (List Nat × Addr × Value)} (r : KN H kvs xs) (k : List Nat) {y : V} {u : Value} (ry : RelV y u) : KN H (kvs.map fun kv => if kv.1 = k then (kv.1, y) else kv) (xs.map (putAt k u)) := by
  unfold KN at r ⊢
  induction r with
  | nil => exact .nil
  | @cons p q ps qs h t ih =>
    rw [List.map_cons, List.map_cons]
    refine .cons ?_ ih
    obtain ⟨h1, h2, h3⟩ := h
    unfold putAt
    by_cases e : p.1 = k
    · rw [if_pos e, if_pos (h1.symm.trans e)]; exact ⟨h1, h2, ry⟩
    · rw [if_neg e, if_neg (fun z => e (h1.trans z))]; exact ⟨h1, h2, h3⟩
theorem KN.put {xs : List (List Nat × Addr × Value)} (r : KN H kvs xs) (k : List Nat) {b : Addr} {y : V} {u : Value} (hb : Ky false H k (.ref b)) (ry : RelV y u) : KN H (putK kvs k y) (storedH xs k b u) := by
  have e : (kvs.any fun kv => decide (kv.1 = k)) = (atKey xs k).isSome := by
    rw [valV_any, (r.val k).isSome_eq, Option.isSome_map]
  unfold putK storedH
  rw [e]
  by_cases q : (atKey xs k).isSome = true
  · rw [if_pos q, if_pos q]; exact r.repl k ry
  · rw [if_neg q, if_neg q]; exact Paired.snoc r ⟨rfl, hb, ry⟩
theorem ND.tp {kd : Bool} (n : ND P w kd H d kvs) (e : Tp H H') (k : ∀ o, H d = some o → H' d = some o) : ND P w kd H' d kvs := by
  refine ⟨n.1, ?_⟩
  cases kd with
  | true =>
    obtain ⟨vs, h1, h2⟩ := n.2
    exact ⟨vs, h1, k _ h2⟩
  | false =>
    obtain ⟨xs, h1, h2⟩ := n.2
    exact ⟨xs, h1.tp e, k _ h2⟩
theorem ND.ex {kd : Bool} (n : ND P w kd H d kvs) (e : Ex H H') : ND P w kd H' d kvs := n.tp e.tp fun o h => e _ _ h
theorem nd_have {kd : Bool} (n : ND P w kd H d kvs) : ∃ φ, H d = some (.ext φ) := by
  cases kd with
  | true => obtain ⟨vs, _, h⟩ := n.2; exact ⟨_, h⟩
  | false => obtain ⟨vs, _, h⟩ := n.2; exact ⟨_, h⟩
theorem ky_is {h : Heap} {l : List Nat} {a : Addr} (ok : HOk P w H h) (k : Ky false H l (.ref a)) : (nkd P w).is h l a := by
  obtain ⟨c, cs, a', b, e, rfl, h1, h2⟩ := k
  cases e
  obtain ⟨_, its, r, o, ho, hc, n, hd⟩ := (show ObjOk P w H h a (.tup [iv c, .ref b]) from ok _ _ h1)
  obtain ⟨_, its2, r2, o2, ho2, hc2, n2, hd2⟩ := (show ObjOk P w H h b (.tup (cs.map iv)) from ok _ _ h2)
  obtain ⟨u1, u2, rfl, ri, rj⟩ := vals2 r
  obtain ⟨t1, rfl⟩ := ri
  obtain rfl : u2 = Value.ref b := rj
  have all : ∀ {cs : List Nat} {its2 : List Value}, Vals (cs.map iv) its2 → NestedAll h (cs.map fun n => NestedKey.num (Int.ofNat n)) its2 := by
    intro cs
    induction cs with
    | nil => intro its2 r; cases r; exact .nil
    | cons c cs ih =>
      intro its2 r
      cases r with
      | cons r1 r2 =>
        obtain ⟨t, rfl⟩ := r1
        exact .cons (.int _ t) (ih r2)
  have dep : ∀ cs : List Nat, NestedKey.depthAll (cs.map fun n => NestedKey.num (Int.ofNat n)) ≤ 1 := by
    intro cs
    induction cs with
    | nil => simp [NestedKey.depthAll]
    | cons c cs ih =>
      rw [List.map_cons, NestedKey.depthAll]
      have : (NestedKey.num (Int.ofNat c)).depth ≤ 1 := by simp [NestedKey.depth]
      omega
  refine ⟨.tup ho hc hd (.cons (.int _ t1) (.cons (.tup ho2 hc2 hd2 (all r2)) .nil)), ?_⟩
  have := dep cs
  show (nkk (c :: cs)).depth ≤ 8
  unfold nkk
  simp only [NestedKey.depth, NestedKey.depthAll]
  omega
theorem nd_n {xs : List (List Nat × Addr × Value)} {h : Heap} (ok : HOk P w H h) (r : KN H kvs xs) (e : H d = some (.ext (φN P w d xs))) : (d == sysModules) = false ∧ h.DictOfH (nkd P w) d xs := by
  obtain ⟨⟨hs, o, es, ep, h1, h2, h3, h4, h5⟩, _, _⟩ := (show ObjOk P w H h d (.ext (φN P w d xs)) from ok _ _ e)
  refine ⟨hs, o, es, ep, h1, h2, h3, h4, fun x hx => ?_, h5⟩
  have all : ∀ {l : List (List Nat × V)} {m : List (List Nat × Addr × Value)}, KN H l m → ∀ x ∈ m, (nkd P w).is h x.1 x.2.1 := by
    intro l m q
    unfold KN at q
    induction q with
    | nil => intro x hx; exact nomatch hx
    | @cons p q ps qs hq t ih =>
      intro x hx
      rcases List.mem_cons.mp hx with e | hx
      · subst e; exact ky_is ok hq.2.1
      · exact ih x hx
  exact all r x hx
theorem nd_b {vs : List (List Nat × Value)} {h : Heap} (ok : HOk P w H h) (e : H d = some (.ext (φB P w d vs))) : (d == sysModules) = false ∧ h.DictOf (bkd P w) d vs := by
  obtain ⟨q, _, _⟩ := (show ObjOk P w H h d (.ext (φB P w d vs)) from ok _ _ e)
  exact q
theorem nd_newB {h : Heap} {vs : List (List Nat × Value)} (q : φB P w d vs h) : ObjOk P w H' h d (.ext (φB P w d vs)) := by
  obtain ⟨hs, o, es, ep, h1, r⟩ := q
  refine ⟨⟨hs, o, es, ep, h1, r⟩, ⟨o, h1⟩, fun g1 g2 z k => ?_⟩
  obtain ⟨hs, o, es, ep, h1, r⟩ := z
  exact ⟨hs, o, es, ep, k _ h1, r⟩
theorem nd_newN {h : Heap} {xs : List (List Nat × Addr × Value)} (q : φN P w d xs h) : ObjOk P w H' h d (.ext (φN P w d xs)) := by
  obtain ⟨hs, o, es, ep, h1, r⟩ := q
  refine ⟨⟨hs, o, es, ep, h1, r⟩, ⟨o, h1⟩, fun g1 g2 z k => ?_⟩
  obtain ⟨hs, o, es, ep, h1, r⟩ := z
  exact ⟨hs, o, es, ep, k _ h1, r⟩
end
section
variable {X : Cx} {pins : List (Addr × Obj)} {σ : L2.St} {H : Hp} {s : Shared} {d : Addr} {kvs : List (List Nat × V)} {l : List Nat} {y v : V} {u r : Value} {kd : Bool} {A : Around} {E : Value → Shared → Prop}
theorem ky_bk (k : Ky true H l y) (ry : RelV y u) : isBk l u = true := by
  obtain ⟨b, rfl, rfl⟩ := k
  obtain rfl : u = Value.bool b := ry
  cases b <;> rfl
theorem ky_ref (k : Ky false H l y) (ry : RelV y u) : ∃ a, y = .ref a ∧ u = .ref a := by
  obtain ⟨c, cs, a, b, rfl, _⟩ := k
  exact ⟨a, rfl, ry⟩
theorem n_get {Q : Value → Shared → Prop} (hu : A.units + 64 < cLine) (I : Inv X pins σ H s) (n : ND X.prog X.w kd H d kvs) (k : Ky kd H l y) (hv : valV kvs l = some v) (ry : RelV y u) (h : ∀ w' s', Inv X pins σ H s' → RelV v w' → Q w' s') :
    wpAny (model X.prog X.w) A (getItem (.ref d) u) Q E s := by
  cases kd with
  | true =>
    obtain ⟨_, vs, rel, e⟩ := n
    obtain ⟨hs, dd⟩ := nd_b I.hok e
    obtain ⟨w', hw, rw'⟩ := RelO.some_of (v := v) (o := valueAt vs l) (by rw [← hv]; exact KV.val rel l)
    exact wpAny_getItem_of (knd := bkd X.prog X.w) (ky_bk k ry) dd.mapOf hw (h w' _ (I.tok _) rw')
  | false =>
    obtain ⟨_, xs, rel, e⟩ := n
    obtain ⟨hs, dd⟩ := nd_n I.hok rel e
    obtain ⟨a, rfl, rfl⟩ := ky_ref k ry
    obtain ⟨w', hw, rw'⟩ := RelO.some_of (v := v) (o := (atKey xs l).map (·.2)) (by rw [← hv]; exact rel.val l)
    obtain ⟨p, hp, hp2⟩ := Option.map_eq_some_iff.mp hw
    refine wpAny_getItem_heap (knd := nkd X.prog X.w) (by show A.units + 1 + 8 < cLine; omega) (ky_is I.hok k) dd hp ?_
    rw [hp2]
    exact h w' _ (I.tok _) rw'
theorem n_notIn {Q : Value → Shared → Prop} (hu : A.units + 64 < cLine) (I : Inv X pins σ H s) (n : ND X.prog X.w kd H d kvs) (k : Ky kd H l y) (ry : RelV y u) (h : ∀ s', Inv X pins σ H s' → Q (.bool (!(valV kvs l).isSome)) s') :
    wpAny (model X.prog X.w) A (compareOp .NotIn u (.ref d)) Q E s := by
  cases kd with
  | true =>
    obtain ⟨_, vs, rel, e⟩ := n
    obtain ⟨hs, dd⟩ := nd_b I.hok e
    refine wpAny_notIn_of (knd := bkd X.prog X.w) (ky_bk k ry) hs dd.mapOf ?_
    rw [← (KV.val rel l).isSome_eq]
    exact h _ (I.tok _)
  | false =>
    obtain ⟨_, xs, rel, e⟩ := n
    obtain ⟨hs, dd⟩ := nd_n I.hok rel e
    obtain ⟨a, rfl, rfl⟩ := ky_ref k ry
    refine wpAny_notIn_heap (knd := nkd X.prog X.w) (by show A.units + 1 + 8 < cLine; omega) (ky_is I.hok k) hs dd ?_
    have q := (rel.val l).isSome_eq
    rw [Option.isSome_map] at q
    rw [← q]
    exact h _ (I.tok _)
theorem n_put {Q : Unit → Shared → Prop} (hu : A.units + 64 < cLine) (I : Inv X pins σ H s) (n : ND X.prog X.w kd H d kvs) (k : Ky kd H l y) (hl : kvs.length < 1000) (ry : RelV y u) (rv : RelV v r)
    (h : ∀ H' s', Mo d H H' → ND X.prog X.w kd H' d (putK kvs l v) → Inv X pins σ H' s' → Q () s') :
    wpAny (model X.prog X.w) A (setItem (.ref d) u r) Q E s := by
  have hl2 : (putK kvs l v).length ≤ 1000 := by have := length_putK kvs l v; omega
  cases kd with
  | true =>
    obtain ⟨_, vs, rel, e⟩ := n
    obtain ⟨hs, dd⟩ := nd_b I.hok e
    have hz : vs.length ≤ sizeLine := by rw [← KV.length rel, sizeLine_eq]; omega
    refine wpAny_setItem_pairs (knd := bkd X.prog X.w) (hsz := hz) (ky_bk k ry) dd fun h' dd' hsb => ?_
    have he : ∃ q, h'.get? d = some q := let ⟨q, _, _, hq, _⟩ := dd'; ⟨q, hq⟩
    refine h (upd H d (.ext (φB X.prog X.w d (stored vs l r)))) _ Mo.of ⟨hl2, _, KV.put rel l rv, upd_same⟩ (d_write I (by rw [e]; exact True.intro) hsb he (nd_newB ⟨hs, dd'⟩))
  | false =>
    obtain ⟨_, xs, rel, e⟩ := n
    obtain ⟨hs, dd⟩ := nd_n I.hok rel e
    obtain ⟨a, rfl, rfl⟩ := ky_ref k ry
    have hz : xs.length ≤ sizeLine := by rw [← Paired.length rel, sizeLine_eq]; omega
    refine wpAny_setItem_heap (knd := nkd X.prog X.w) (hsz := hz) (by show A.units + 1 + 8 < cLine; omega) (ky_is I.hok k) dd fun h' dd' hsb => ?_
    obtain ⟨q, es, ep, hq, h2, h3, h4, _, h5⟩ := dd'
    refine h (upd H d (.ext (φN X.prog X.w d (storedH xs l a r)))) _ Mo.of ⟨hl2, _, (rel.put l k rv).tp fun b ys eb => ?_, upd_same⟩ (d_write I (by rw [e]; exact True.intro) hsb ⟨q, hq⟩ (nd_newN ⟨hs, q, es, ep, hq, h2, h3, h4, h5⟩))
    rw [upd_ne (ne_of eb e (fun z => nomatch z))]
    exact eb
end
section
variable {X : Cx} {o i e value : Expr} {pos pos' tpos : Pos} {td ty tv : TE} {P : Program} {w : World} {K : PySem.W.Frag} {kd : Bool}
def kNDG (P : Program) (w : World) (kd : Bool) (td ty : TE) : TE := fun σ H Q => td σ H fun x H1 => ty σ H1 fun y H2 => ∃ a kvs l v, x = .ref a ∧ ND P w kd H2 a kvs ∧ Ky kd H2 l y ∧ valV kvs l = some v ∧ Q v H2
def kNDN (P : Program) (w : World) (kd : Bool) (ty td : TE) : TE := fun σ H Q => ty σ H fun y H1 => td σ H1 fun x H2 => ∃ a kvs l, x = .ref a ∧ ND P w kd H2 a kvs ∧ Ky kd H2 l y ∧ Q (.bl (!(valV kvs l).isSome)) H2
def kNDP (P : Program) (w : World) (kd : Bool) (td ty tv : TE) : TS := fun D σ H => tv σ H fun v H1 => td σ H1 fun x H2 => ty σ H2 fun y H3 => ∃ a kvs l, x = .ref a ∧ ND P w kd H3 a kvs ∧ Ky kd H3 l y ∧ kvs.length < 1000 ∧ ∀ H4, Mo a H3 H4 → ND P w kd H4 a (putK kvs l v) → D.nx σ H4
theorem nd_typeIs {pins : List (Addr × Obj)} {σ : L2.St} {H : Hp} {s : Shared} {d : Addr} {kvs : List (List Nat × V)} (I : Inv X pins σ H s) (n : ND X.prog X.w kd H d kvs) : s.TypeIs (.ref d) "dict" := by
  cases kd with
  | true =>
    obtain ⟨_, vs, rel, e⟩ := n
    exact (nd_b I.hok e).2.typeIs
  | false =>
    obtain ⟨_, xs, rel, e⟩ := n
    exact (nd_n I.hok rel e).2.typeIs
theorem pe_ndget (hu : X.A.units + 64 < cLine) (ho : PE X o td) (hi : PE X i ty) (hs : NoSl i) (hP : X.prog = P := by rfl) (hw : X.w = w := by rfl) : PE X (.Subscript o i pos) (kNDG P w kd td ty) := by
  subst hP hw
  refine ⟨fun pins s σ H Q I h => ?_⟩
  refine subD_of PySem.F.slot_dict_getitem.lookup hs (thn (ho.run pins s σ H _ I h) fun u s1 ⟨x, H1, I1, rx, q1⟩ => thn (hi.run pins s1 σ H1 _ I1 q1) fun iv s2 ⟨y, H2, I2, ry, a, kvs, l, v, ex, g, k, hv, q2⟩ => ?_)
  subst ex
  obtain rfl : u = Value.ref a := rx
  exact ⟨nd_typeIs I2 g, n_get hu I2 g k hv ry fun w' s3 I3 rw' => ⟨v, H2, I3, rw', q2⟩⟩
theorem pc_ndnotin (hu : X.A.units + 64 < cLine) (hi : PE X i ty) (ho : PE X o td) (hP : X.prog = P := by rfl) (hw : X.w = w := by rfl) : PC X .NotIn i o (kNDN P w kd ty td) := by
  subst hP hw
  refine ⟨fun pins s σ H Q I h => ?_⟩
  refine thn (hi.run pins s σ H _ I h) fun iv s1 ⟨y, H1, I1, ry, q1⟩ => thn (ho.run pins s1 σ H1 _ I1 q1) fun u s2 ⟨x, H2, I2, rx, a, kvs, l, ex, g, k, q2⟩ => ?_
  subst ex
  obtain rfl : u = Value.ref a := rx
  exact n_notIn hu I2 g k ry fun s3 I3 => ⟨.bl _, H2, I3, rfl, q2⟩
theorem ps_ndput (hu : X.A.units + 64 < cLine) (ho : PE X o td) (hi : PE X i ty) (hv : PE X value tv) (hs : swapsWith value (some (.Subscript o i pos')) pos.line X.env = pure false) (hP : X.prog = P := by rfl) (hw : X.w = w := by rfl) :
    PS X (.Assign [.Subscript o i pos'] value pos) (kNDP P w kd td ty tv) := by
  subst hP hw
  refine ⟨fun pins s σ H D I h => ?_⟩
  refine wpAny_Assign_Subscript (thn (hv.run pins s σ H _ I h) fun r s1 ⟨v, H1, I1, rv, q1⟩ => thn (ho.run pins s1 σ H1 _ I1 q1) fun u s2 ⟨x, H2, I2, rx, q2⟩ => thn (hi.run pins s2 σ H2 _ I2 q2) fun iv s3 ⟨y, H3, I3, ry, a, kvs, l, ex, g, k, hl, q3⟩ => ?_) hs
  subst ex
  obtain rfl : u = Value.ref a := rx
  exact n_put hu I3 g k hl ry rv fun H4 s4 m n I4 => ⟨σ, H4, I4, q3 H4 m n⟩
def tNDNew (P : Program) (w : World) (kd : Bool) : TE := fun _ H Q => ∀ p H', H p = none → Ex H H' → ND P w kd H' p [] → Q (.ref p) H'
theorem pe_ndnew (hP : X.prog = P := by rfl) (hw : X.w = w := by rfl) : PE X (.Dict [] [] pos) (tNDNew P w kd) := by
  subst hP hw
  refine ⟨fun pins s σ H Q I h => ?_⟩
  have hb : (s.heap.objs.size == sysModules) = false := beq_eq_false_iff_ne.mpr (Ne.symm (Nat.ne_of_lt I.big))
  have hn : H s.heap.objs.size = none := I.hok.fresh (Nat.le_refl _)
  cases kd with
  | true =>
    exact wpAny_Dict_empty ⟨.ref s.heap.objs.size, _, I.laid (a := s.heap.objs.size) (o := .ext (φB X.prog X.w s.heap.objs.size [])) (t' := s.toks) (fun _ _ q => Heap.get?_push_of_some _ q) (Nat.le_refl _) (nd_newB ⟨hb, Heap.DictOf.new s.heap⟩), rfl, h _ _ hn (Ex.new hn) ⟨Nat.zero_le _, [], .nil, upd_same⟩⟩
  | false =>
    exact wpAny_Dict_empty ⟨.ref s.heap.objs.size, _, I.laid (a := s.heap.objs.size) (o := .ext (φN X.prog X.w s.heap.objs.size [])) (t' := s.toks) (fun _ _ q => Heap.get?_push_of_some _ q) (Nat.le_refl _) (nd_newN ⟨hb, _, #[], 0, Heap.get?_push_size _ rfl, ⟨rfl, rfl, rfl⟩, rfl, rfl, List.nodup_nil⟩), rfl, h _ _ hn (Ex.new hn) ⟨Nat.zero_le _, [], .nil, upd_same⟩⟩
def rLenN (P : Program) (w : World) (kd : Bool) : List V → Hp → VK → Prop := fun xs H Q => ∃ p kvs, xs = [.ref p] ∧ ND P w kd H p kvs ∧ Q (iv kvs.length) H
theorem call_lenN (hP : X.prog = P := by rfl) (hw : X.w = w := by rfl) : CallR X (.builtin "len") (rLenN P w kd) := by
  subst hP hw
  intro pins s σ H xs us Q I r h
  obtain ⟨p, kvs, rfl, n, q⟩ := h
  obtain ⟨u, rfl, ru⟩ := vals1 r
  obtain rfl : u = Value.ref p := ru
  cases kd with
  | true =>
    obtain ⟨hl, vs, rel, e⟩ := n
    obtain ⟨hs, dd⟩ := nd_b I.hok e
    refine call_len_dict hs dd (by rw [← KV.length rel]; omega) ?_
    rw [← KV.length rel]
    exact ⟨.int ((kvs.length : Nat) : Int), H, I.tok _, ⟨_, rfl⟩, q⟩
  | false =>
    obtain ⟨hl, xs, rel, e⟩ := n
    obtain ⟨hs, dd⟩ := nd_n I.hok rel e
    refine call_len_dictH hs dd (by rw [← Paired.length rel]; omega) ?_
    rw [← Paired.length rel]
    exact ⟨.int ((kvs.length : Nat) : Int), H, I.tok _, ⟨_, rfl⟩, q⟩
end
/-! ### max(d.values()) -/
section
variable {X : Cx} {o : Expr} {p pos apos mpos : Pos} {td : TE}
def tMaxVals (td : TE) : TE := fun σ H Q => td σ H fun x H1 => ∃ a kvs is, x = V.ref a ∧ H1 a = some (.dK kvs) ∧ kvs.map (·.2) = is.map V.int ∧ is ≠ [] ∧ ∀ m, m ∈ is → (∀ j ∈ is, j ≤ m) → Q (.int m) H1
theorem pe_maxVals (hc : X.calm = true) (hg : Gl X "max") (hm : X.mg "max" = none) (hd : PE X o td) (hbase : attributeBase o "values" X.env (eval o X.env) = eval o X.env := by rfl) (hline : (apos.endLine == mpos.line) = true := by rfl)
    (hse : starEach [Expr.Call (.Attribute o "values" apos) [] [] mpos] X.env = [(false, eval (Expr.Call (.Attribute o "values" apos) [] [] mpos) X.env)] := by rfl) :
    PE X (.Call (.Name "max" p) [.Call (.Attribute o "values" apos) [] [] mpos] [] pos) (tMaxVals td) := by
  refine ⟨fun pins s σ H Q I h => ?_⟩
  refine wpAny_Call_Name_kw (ld_blt I hg hm (u := .builtin "max") (by first | rfl | decide +kernel) ?_ (by first | decide +kernel | decide) (by first | decide +kernel | decide))
  rw [hse]
  refine PySem.callWith_builtin1 (wpAny_Call_method0_late hbase hline (thn (hd.run pins s σ H _ I h) fun v s1 ⟨x, H1, I1, r1, a, kvs, is, ex, ha, hv, hne, q⟩ => ?_))
  subst ex
  obtain rfl : v = Value.ref a := r1
  obtain ⟨_, hsys, vs, rel, dof⟩ := dk_of I1.hok ha
  obtain ⟨ep, dat⟩ := dof.dictAt
  have dat' := dat
  obtain ⟨ob, es, ho, ex, hdat, hko, hpr, hnd⟩ := dat'
  refine ⟨"dict", "dict.values", F.plainAttrs_dict, F.slot_dict_values, F.type_dict_values, ⟨ob, ho, ex.1⟩, fun b e => ?_, Calls.callWith_builtin rfl (PySem.evalArgs_none ?_)⟩
  · cases e
    exact ⟨ob, ho, ex.2.1⟩
  refine call_meetsIn F.slot_dict_values ⟨ob, ho, ex.1⟩ F.entry_dict_values (F.args_dict_values_1 _) (meets_dict_values (mixKind X.prog X.w) a hsys) ⟨⟨vs, dof⟩, ?_⟩
  have k1 : ∀ b u, s1.heap.get? b = some u → (s1.heap.push { cls := .type "dict_values", data := .fields #[.ref a] }).get? b = some u := fun b u e => Heap.get?_push_of_some _ e
  have dat1 : (s1.heap.push { cls := .type "dict_values", data := .fields #[.ref a] }).DictAt (mixKind X.prog X.w) a vs ep := dat.keep k1
  have hlv : vs.length = is.length := by
    have e1 := congrArg List.length hv
    rw [List.length_map, List.length_map] at e1
    rw [← e1]
    exact (KV.length rel).symm
  have hlen : 0 < vs.length := by
    rw [hlv]
    exact List.length_pos_iff.mpr hne
  have hval : ∀ (i : Nat) (v : Value), (∃ k, vs[i]? = some (k, v)) → ∃ t, v = Value.int (is.getD i 0) t := fun i v ⟨k, hk⟩ => by
    obtain ⟨x, h1, h2⟩ := KV.at' rel hk
    have e1 : (kvs.map (·.2))[i]? = some x := by rw [List.getElem?_map, h1] <;> rfl
    rw [hv, List.getElem?_map] at e1
    obtain ⟨j, hj, e2⟩ := Option.map_eq_some_iff.mp e1
    subst e2
    obtain ⟨t, e3⟩ := h2
    refine ⟨t, ?_⟩
    rw [e3, List.getD_eq_getElem?_getD, hj] <;> rfl
  refine call_max_walk (wpAny_pyIter_values (v := s1.heap.objs.size) (d := a) ⟨_, Heap.get?_push_size _ rfl, rfl, rfl⟩ dat1 ?_)
  have hlt : a < s1.heap.objs.size := Heap.lt_size ho
  have hsz : (s1.heap.push { cls := .type "dict_values", data := .fields #[.ref a] }).objs.size = s1.heap.objs.size + 1 := Heap.size_push _ _
  refine ⟨_, _, _, _, _, _, _, rfl, Walks.dictValues (knd := mixKind X.prog X.w) (A := X.A.in1) (I.ok.hd hc) (s1.heap.push { cls := .type "dict_values", data := .fields #[.ref a] }).objs.size a (by rw [hsz]; exact Nat.ne_of_lt (Nat.lt_succ_of_lt hlt)) vs ep,
    ⟨⟨_, Heap.get?_push_size _ rfl, rfl, rfl⟩, dat1.keep fun b u e => Heap.get?_push_of_some _ e⟩, fun b hb => ?_, hlen, CmpOf.ints_gt (fun i => is.getD i 0) hval, fun v h' tk hP hk => ?_⟩
  · show b < ((s1.heap.push _).push _).objs.size
    rw [Heap.size_push, Heap.size_push]
    rw [hsz] at hb
    rcases List.mem_cons.mp hb with e | hb
    · rw [e]
      exact Nat.lt_succ_self _
    · have e : b = a := List.mem_singleton.mp hb
      rw [e]
      exact Nat.lt_succ_of_lt (Nat.lt_succ_of_lt hlt)
  · obtain ⟨t, rfl⟩ := hval _ v hP
    obtain ⟨b1, b2⟩ := argBest_gt (fun i => is.getD i 0) (vs.length - 1)
    refine ⟨.int _, H1, I1.kept (t' := tk) fun b u e => hk b u (fun hmem => ?_) (Heap.get?_push_of_some _ (k1 b u e)), ⟨t, rfl⟩, q _ ?_ fun j hj => ?_⟩
    · have e1 : b = (s1.heap.push { cls := .type "dict_values", data := .fields #[.ref a] }).objs.size := List.mem_singleton.mp hmem
      have e2 := Heap.lt_size e
      rw [hsz] at e1
      rw [e1] at e2
      exact absurd e2 (Nat.not_lt.mpr (Nat.le_succ _))
    · have hb : argBest (fun i j => decide (is.getD i 0 > is.getD j 0)) (vs.length - 1) < is.length := by omega
      rw [List.getD_eq_getElem?_getD, List.getElem?_eq_getElem hb]
      exact List.getElem_mem hb
    · obtain ⟨i, hi, e⟩ := List.mem_iff_getElem.mp hj
      have e2 : is.getD i 0 = j := by rw [List.getD_eq_getElem?_getD, List.getElem?_eq_getElem hi, ← e] <;> rfl
      rw [← e2]
      exact b2 i (by omega)
/-- {k: v}, k a tuple of numbers and texts -/
def tDispT (tk tv : TE) : TE := fun σ H Q => ∀ p, H p = none → tk σ (upd H p (.dT [])) fun x H1 => tv σ H1 fun y H2 => H2 p = some (.dT []) ∧ ∃ b, ∃ ks : List Key, x = .ref b ∧ H2 b = some (.tup (ks.map kV)) ∧ Q (.ref p) (upd H2 p (.dT [(ks, y)]))
theorem pe_dispT {k v : Expr} {tk tv : TE} (hu : X.A.units + 64 < cLine) (hk : PE X k tk) (hv : PE X v tv) : PE X (.Dict [some k] [v] pos) (tDispT tk tv) := by
  refine ⟨fun pins s σ H Q I q => ?_⟩
  have hn := I.hok.fresh (Nat.le_refl s.heap.objs.size)
  have I1 := I.laid (a := s.heap.objs.size) (o := .dT []) (h' := s.heap.push { cls := .type "dict", data := .dict #[] }) (t' := s.toks) (fun _ _ q => Heap.get?_push_of_some _ q) (Nat.le_refl _) (dt_empty s.heap I.big)
  refine wpAny_Dict_any rfl rfl (by simp) (by simp) (thn ((pps_cons hk hv pps_nil).run pins _ σ _ (fun (ps : List (V × V)) (H2 : Hp) => match ps with
    | [(x, y)] => H2 s.heap.objs.size = some (.dT []) ∧ ∃ b, ∃ ks : List Key, x = V.ref b ∧ H2 b = some (.tup (ks.map kV)) ∧ Q (.ref s.heap.objs.size) (upd H2 s.heap.objs.size (.dT [(ks, y)]))
    | _ => False) I1 (q _ hn)) fun ws s2 ⟨ps, H2, I2, rel, z⟩ => ?_)
  split at z
  · rename_i x y
    obtain ⟨e, b, ks, ex, hb, q2⟩ := z
    subst ex
    cases rel with
    | @cons a c as bs h0 h1 =>
      cases h1
      obtain ⟨c1, c2⟩ := c
      obtain rfl : c1 = Value.ref b := h0.1
      obtain ⟨z, hd, xs, r0, dd⟩ := dt_of I2.hok e
      cases r0
      refine wpAny_storeAllH (knd := tupleKind (mixKind X.prog X.w)) (by show X.A.units < cLine; omega) [(.ref b, c2)] [(ks, b, c2)] [] s2 _ ⟨rfl, rfl, key_of I2.hok hb, True.intro⟩ dd (by simp [sizeLine_eq]) fun h' tk' dd' hs => ?_
      obtain ⟨q', es, ep, hq, h2, h3, h4, _, h5⟩ := dd'
      refine ⟨.ref s.heap.objs.size, _, d_write (ob := .dT [(ks, y)]) I2 (by rw [e]; exact True.intro) hs ⟨q', hq⟩ ⟨by simp [sizeLine_eq], hd, [(ks, b, c2)], .cons ⟨rfl, ?_, h0.2⟩ .nil, q', es, ep, hq, h2, h3, h4, h5⟩, rfl, q2⟩
      rw [upd_ne (ne_of hb e (fun z => nomatch z))]
      exact hb
  · exact z.elim
end
/-! ### the steps -/
section
variable {P : Program} {w : World} {K : PySem.W.Frag} {σ : L2.St} {H : Hp} {td ty tv tk te : TE} {tt : TT} {g : TG} {tb : TS} {wi : TI} {D : Ends} {xs : List V} {Q : VK} {x y v : V} {a d p : Addr} {kd : Bool} {kvs : List (List Nat × V)} {l vs : List Nat} {b : Bool} {R : It → Hp → Prop}
def kNG1 (P : Program) (w : World) (kd : Bool) (ty : TE) (σ : L2.St) (Q : VK) : VK := fun x H1 => ty σ H1 fun y H2 => ∃ a kvs l v, x = .ref a ∧ ND P w kd H2 a kvs ∧ Ky kd H2 l y ∧ valV kvs l = some v ∧ Q v H2
def kNG2 (P : Program) (w : World) (kd : Bool) (x : V) (Q : VK) : VK := fun y H2 => ∃ a kvs l v, x = .ref a ∧ ND P w kd H2 a kvs ∧ Ky kd H2 l y ∧ valV kvs l = some v ∧ Q v H2
instance : Stp (kNDG P w kd td ty σ H Q) (td σ H (kNG1 P w kd ty σ Q)) := ⟨id⟩
instance : Stp (kNG1 P w kd ty σ Q x H) (ty σ H (kNG2 P w kd x Q)) := ⟨id⟩
theorem k_ng (n : ND P w kd H a kvs) (k : Ky kd H l y) (e : valV kvs l = some v) (q : Q v H) : kNG2 P w kd (.ref a) Q y H := ⟨a, kvs, l, v, rfl, n, k, e, q⟩
def kNN1 (P : Program) (w : World) (kd : Bool) (td : TE) (σ : L2.St) (Q : VK) : VK := fun y H1 => td σ H1 fun x H2 => ∃ a kvs l, x = .ref a ∧ ND P w kd H2 a kvs ∧ Ky kd H2 l y ∧ Q (.bl (!(valV kvs l).isSome)) H2
def kNN2 (P : Program) (w : World) (kd : Bool) (y : V) (Q : VK) : VK := fun x H2 => ∃ a kvs l, x = .ref a ∧ ND P w kd H2 a kvs ∧ Ky kd H2 l y ∧ Q (.bl (!(valV kvs l).isSome)) H2
instance : Stp (kNDN P w kd ty td σ H Q) (ty σ H (kNN1 P w kd td σ Q)) := ⟨id⟩
instance : Stp (kNN1 P w kd td σ Q y H) (td σ H (kNN2 P w kd y Q)) := ⟨id⟩
theorem k_nn (n : ND P w kd H a kvs) (k : Ky kd H l y) (q : Q (.bl (!(valV kvs l).isSome)) H) : kNN2 P w kd y Q (.ref a) H := ⟨a, kvs, l, rfl, n, k, q⟩
def kNP1 (P : Program) (w : World) (kd : Bool) (td ty : TE) (D : Ends) (σ : L2.St) : VK := fun v H1 => td σ H1 fun x H2 => ty σ H2 fun y H3 => ∃ a kvs l, x = .ref a ∧ ND P w kd H3 a kvs ∧ Ky kd H3 l y ∧ kvs.length < 1000 ∧ ∀ H4, Mo a H3 H4 → ND P w kd H4 a (putK kvs l v) → D.nx σ H4
def kNP2 (P : Program) (w : World) (kd : Bool) (ty : TE) (v : V) (D : Ends) (σ : L2.St) : VK := fun x H2 => ty σ H2 fun y H3 => ∃ a kvs l, x = .ref a ∧ ND P w kd H3 a kvs ∧ Ky kd H3 l y ∧ kvs.length < 1000 ∧ ∀ H4, Mo a H3 H4 → ND P w kd H4 a (putK kvs l v) → D.nx σ H4
def kNP3 (P : Program) (w : World) (kd : Bool) (v x : V) (D : Ends) (σ : L2.St) : VK := fun y H3 => ∃ a kvs l, x = .ref a ∧ ND P w kd H3 a kvs ∧ Ky kd H3 l y ∧ kvs.length < 1000 ∧ ∀ H4, Mo a H3 H4 → ND P w kd H4 a (putK kvs l v) → D.nx σ H4
instance : Stp (kNDP P w kd td ty tv D σ H) (tv σ H (kNP1 P w kd td ty D σ)) := ⟨id⟩
instance : Stp (kNP1 P w kd td ty D σ v H) (td σ H (kNP2 P w kd ty v D σ)) := ⟨id⟩
instance : Stp (kNP2 P w kd ty v D σ x H) (ty σ H (kNP3 P w kd v x D σ)) := ⟨id⟩
theorem k_np (n : ND P w kd H a kvs) (k : Ky kd H l y) (c : kvs.length < 1000) (q : ∀ H4, Mo a H H4 → ND P w kd H4 a (putK kvs l v) → D.nx σ H4) : kNP3 P w kd v (.ref a) D σ y H := ⟨a, kvs, l, rfl, n, k, c, q⟩
theorem r_lenN {Q : VK} (n : ND P w kd H a kvs) (q : Q (iv kvs.length) H) : rLenN P w kd [.ref a] H Q := ⟨a, kvs, rfl, n, q⟩
/-- max(d.values()) -/
def kMaxV (Q : VK) : VK := fun x H1 => ∃ a kvs is, x = V.ref a ∧ H1 a = some (.dK kvs) ∧ kvs.map (·.2) = is.map V.int ∧ is ≠ [] ∧ ∀ m, m ∈ is → (∀ j ∈ is, j ≤ m) → Q (.int m) H1
instance : Stp (tMaxVals td σ H Q) (td σ H (kMaxV Q)) := ⟨id⟩
theorem k_maxV {kvs : List (Key × V)} {ns : List Nat} (h : H a = some (.dK kvs)) (e : kvs.map (·.2) = ns.map iv) (n : ns ≠ []) (q : ∀ m : Nat, m ∈ ns → (∀ j ∈ ns, j ≤ m) → Q (iv m) H) : kMaxV Q (.ref a) H := by
  refine ⟨a, kvs, ns.map Int.ofNat, rfl, h, by rw [e, List.map_map]; rfl, by simpa using n, fun m hm hj => ?_⟩
  obtain ⟨k, hk, rfl⟩ := List.mem_map.mp hm
  exact q k hk fun j hj2 => Int.ofNat_le.mp (hj _ (List.mem_map.mpr ⟨j, hj2, rfl⟩))
/-- {k: v} -/
def kDT1 (tv : TE) (σ : L2.St) (p : Addr) (Q : VK) : VK := fun x H1 => tv σ H1 fun y H2 => H2 p = some (.dT []) ∧ ∃ b, ∃ ks : List Key, x = .ref b ∧ H2 b = some (.tup (ks.map kV)) ∧ Q (.ref p) (upd H2 p (.dT [(ks, y)]))
def kDT2 (p : Addr) (x : V) (Q : VK) : VK := fun y H2 => H2 p = some (.dT []) ∧ ∃ b, ∃ ks : List Key, x = .ref b ∧ H2 b = some (.tup (ks.map kV)) ∧ Q (.ref p) (upd H2 p (.dT [(ks, y)]))
theorem w_dispT (k : ∀ p H', H p = none → Ex H H' → H' p = some (.dT []) → tk σ H' (kDT1 tv σ p Q)) : tDispT tk tv σ H Q := fun p hp => k p _ hp (Ex.new hp) upd_same
instance : Stp (kDT1 tv σ p Q x H) (tv σ H (kDT2 p x Q)) := ⟨id⟩
theorem k_dt2 {b : Addr} {ks : List Key} (h : H p = some (.dT [])) (hb : H b = some (.tup (ks.map kV))) (k : ∀ H', Mo p H H' → H' p = some (.dT [(ks, y)]) → Q (.ref p) H') : kDT2 p (.ref b) Q y H := ⟨h, b, ks, rfl, hb, k _ Mo.of upd_same⟩
/-- dict comprehensions -/
def kDcI (g : TG) (tt : TT) (tk tv : TE) (vs : List Nat) (σ : L2.St) (Q : VK) : It → Hp → Prop := fun J H1 => ∀ D, H1 D = none → ∃ W : Nat → Nat → Hp → Prop, (∃ m, W 0 m (upd H1 D (.dK []))) ∧ ∀ i m H, W i m H →
  (J.stop i H ∧ Q (.ref D) H) ∨ (J.go i H ∧ ∃ Nx : Hp → Prop, (∀ H', Nx H' → ∃ m', m' < m ∧ W (i + 1) m' H') ∧ ∀ x H', J.yld i H x H' → g x (wipe σ vs) H' fun σ2 H2 => wipe σ2 vs = wipe σ vs ∧ tt σ2 H2 fun b H3 =>
    if b = true then tk σ2 H3 fun y H4 => tv σ2 H4 fun z H5 => ∃ kvs k, y = kV k ∧ H5 D = some (.dK kvs) ∧ kvs.length < sizeLine ∧ Nx (upd H5 D (.dK (putK kvs k z))) else Nx H3)
instance : Stp (tDc wi g tt tk tv vs σ H Q) (wi σ H (kDcI g tt tk tv vs σ Q)) := ⟨id⟩
def kDEl (g : TG) (tk tv : TE) (vs : List Nat) (σ : L2.St) (Qc : V → V → Hp → Prop) (x : V) : Hp → Prop := fun H1 => g x (wipe σ vs) H1 fun σ2 H2 => wipe σ2 vs = wipe σ vs ∧ tk σ2 H2 fun y H4 => tv σ2 H4 fun z H5 => Qc y z H5
def kDE1 (tv : TE) (σ : L2.St) (Qc : V → V → Hp → Prop) : VK := fun y H4 => tv σ H4 fun z H5 => Qc y z H5
def kDE2 (Qc : V → V → Hp → Prop) (y : V) : VK := fun z H5 => Qc y z H5
theorem k_delN {j : Nat} {Qc : V → V → Hp → Prop} (e : wipe ((wipe σ vs).set j (some x)) vs = wipe σ vs) (h : tk ((wipe σ vs).set j (some x)) H (kDE1 tv ((wipe σ vs).set j (some x)) Qc)) : kDEl (gName j) tk tv vs σ Qc x H := ⟨e, h⟩
instance {Qc : V → V → Hp → Prop} : Stp (kDE1 tv σ Qc y H) (tv σ H (kDE2 Qc y)) := ⟨id⟩
instance {Qc : V → V → Hp → Prop} {z : V} : Stp (kDE2 Qc y z H) (Qc y z H) := ⟨id⟩
theorem putK_new {κ : Type} [DecidableEq κ] {kvs : List (κ × V)} {k : κ} {v : V} (h : k ∉ kvs.map (·.1)) : putK kvs k v = kvs ++ [(k, v)] := by
  unfold putK
  have : (kvs.any fun kv => decide (kv.1 = k)) = false := by
    rw [List.any_eq_false]
    intro p hp e
    exact h (List.mem_map.mpr ⟨p, hp, of_decide_eq_true e⟩)
  rw [this]
  rfl
theorem k_dcSP (hz : xs.length ≤ 1000) (zs : List (Key × V)) (hl : zs.length = xs.length) (nd : (zs.map (·.1)).Nodup) (h : SqK K b H a xs)
    (hs : ∀ (j : Nat) (x : V) (H1 : Hp) (Qc : V → V → Hp → Prop), xs[j]? = some x → Ex H H1 → (∀ k v H3, zs[j]? = some (k, v) → Ex H1 H3 → Qc (kV k) v H3) → kDEl g tk tv vs σ Qc x H1)
    (hd : ∀ Dl H1, H Dl = none → Ex H H1 → H1 Dl = some (.dK zs) → Q (.ref Dl) H1) : kDcI g tYes tk tv vs σ Q (ItS K b a) H := by
  intro Dl hDl
  have w := walk_seq (K := K) (b := b) (a := a) (xs := xs)
  refine ⟨fun i m H' => m = xs.length - i ∧ i ≤ xs.length ∧ Ex H H' ∧ H' Dl = some (.dK (zs.take i)), ⟨xs.length, by simp, Nat.zero_le _, Ex.new hDl, upd_same⟩, ?_⟩
  rintro i m H1 ⟨rfl, hi, e1, h1⟩
  have q := h.ex e1
  by_cases hlt : i < xs.length
  · refine .inr ⟨w.goes i _ hlt q, fun H' => Ex H H' ∧ H' Dl = some (.dK (zs.take (i + 1))), fun H' p' => ⟨xs.length - (i + 1), by omega, rfl, hlt, p'⟩, fun x H' y => ?_⟩
    obtain ⟨e2, hx⟩ := w.yields i _ x H' hlt q y
    subst e2
    have hil : i < zs.length := by omega
    have := hs i x _ (fun y z H5 => ∃ kvs k, y = kV k ∧ H5 Dl = some (.dK kvs) ∧ kvs.length < sizeLine ∧ (Ex H (upd H5 Dl (.dK (putK kvs k z))) ∧ upd H5 Dl (.dK (putK kvs k z)) Dl = some (.dK (zs.take (i + 1))))) hx e1 (fun k v H3 hk e3 => ?_)
    · exact this
    · refine ⟨zs.take i, k, rfl, e3 _ _ h1, by rw [List.length_take, sizeLine_eq]; omega, (Mo.of).ex (e1.tr e3) hDl, ?_⟩
      rw [upd_same, List.take_add_one, hk, putK_new]
      · rfl
      · intro hm
        rw [List.map_take] at hm
        obtain ⟨j, hj, e⟩ := List.mem_take_iff_getElem.mp hm
        rw [List.length_map] at hj
        have hk2 : (zs.map (·.1))[i]? = some k := by rw [List.getElem?_map, hk]; rfl
        have hil' : i < (zs.map (·.1)).length := by rw [List.length_map]; exact hil
        have hk3 : (zs.map (·.1))[i] = k := by rw [List.getElem?_eq_getElem hil'] at hk2; exact Option.some.inj hk2
        have := (List.getElem_inj (h₀ := by rw [List.length_map]; omega) (h₁ := hil') nd).mp (e.trans hk3.symm)
        omega
  · have e : i = xs.length := by omega
    subst e
    refine .inl ⟨w.stops _ q, hd Dl _ hDl e1 ?_⟩
    rw [h1, List.take_of_length_le (by omega)]
/-- a dict is walked -/
def lockEnds (d : Addr) (od : Obj) (u : HO) (D : Ends) : Ends := ⟨fun σ' H' => H' d = some (.frz od u) ∧ D.nx σ' (upd H' d u), fun v H' => H' d = some (.frz od u) ∧ D.rt v (upd H' d u), fun σ' H' => H' d = some (.frz od u) ∧ D.bk σ' (upd H' d u), fun σ' H' => H' d = some (.frz od u) ∧ D.ct σ' (upd H' d u)⟩
theorem w_lock {t : TS} {u : HO} (h : H d = some u) (mu : Mut (some u)) (k : ∀ od H', Mo d H H' → H' d = some (.frz od u) → t (lockEnds d od u D) σ H') : tLock t D σ H := ⟨d, u, h, mu, fun od => k od _ Mo.of upd_same⟩
theorem lk_nx {od : Obj} {u : HO} (h : H d = some (.frz od u)) (k : D.nx σ (upd H d u)) : (lockEnds d od u D).nx σ H := ⟨h, k⟩
theorem lk_rt {od : Obj} {u : HO} (h : H d = some (.frz od u)) (k : D.rt v (upd H d u)) : (lockEnds d od u D).rt v H := ⟨h, k⟩
theorem lk_back {H' : Hp} {u : HO} (h : H d = some u) (m : Mo d H H') : Ex H (upd H' d u) := fun c o e => by
  by_cases hc : c = d
  · subst hc
    rw [upd_same, ← h, e]
  · rw [upd_ne hc]
    exact m _ _ hc e
def kIK (R : It → Hp → Prop) : VK := fun x H1 => ∃ d o, x = .ref d ∧ ((∃ kvs, H1 d = some (.frz o (.dK kvs)) ∧ R (Itk d o kvs) H1) ∨ ∃ kvs, H1 d = some (.frz o (.dT kvs)) ∧ R (Itkt d o kvs) H1)
instance : Stp (iKeys td σ H R) (td σ H (kIK R)) := ⟨id⟩
theorem k_iK {o : Obj} {kvs : List (Key × V)} (h : H d = some (.frz o (.dK kvs))) (k : R (Itk d o kvs) H) : kIK R (.ref d) H := ⟨d, o, rfl, .inl ⟨kvs, h, k⟩⟩
theorem k_iKT {o : Obj} {kvs : List (List Key × V)} (h : H d = some (.frz o (.dT kvs))) (k : R (Itkt d o kvs) H) : kIK R (.ref d) H := ⟨d, o, rfl, .inr ⟨kvs, h, k⟩⟩
def kII (R : It → Hp → Prop) : VK := fun x H1 => ∃ d o kvs, x = .ref d ∧ H1 d = some (.frz o (.dK kvs)) ∧ R (Iti d o kvs) H1
instance : Stp (iItems td σ H R) (td σ H (kII R)) := ⟨id⟩
theorem k_iI {o : Obj} {kvs : List (Key × V)} (h : H d = some (.frz o (.dK kvs))) (k : R (Iti d o kvs) H) : kII R (.ref d) H := ⟨d, o, kvs, rfl, h, k⟩
end

/-! ### setdefault, get, sorted -/
section
variable {P : Program} {w : World} {K : PySem.W.Frag} {σ : L2.St} {H : Hp} {td ty tv tk te tx : TE} {D : Ends} {xs : List V} {Q : VK} {x y v z : V} {a d p : Addr} {i : Int}
def kDS1 (ty tx : TE) (σ : L2.St) (Q : VK) : VK := fun x H1 => ∃ a, x = .ref a ∧ IsD H1 a ∧ ty σ H1 fun y H2 => tx σ H2 fun z H3 => ∃ (kvs : List (Key × V)) (k : Key), H3 a = some (.dK kvs) ∧ y = kV k ∧ kvs.length < sizeLine ∧
  (∀ v, valV kvs k = some v → Q v H3) ∧ (valV kvs k = none → Q z (upd H3 a (.dK (putK kvs k z))))
def kDS2 (a : Addr) (tx : TE) (σ : L2.St) (Q : VK) : VK := fun y H2 => tx σ H2 fun z H3 => ∃ (kvs : List (Key × V)) (k : Key), H3 a = some (.dK kvs) ∧ y = kV k ∧ kvs.length < sizeLine ∧
  (∀ v, valV kvs k = some v → Q v H3) ∧ (valV kvs k = none → Q z (upd H3 a (.dK (putK kvs k z))))
def kDS3 (a : Addr) (y : V) (Q : VK) : VK := fun z H3 => ∃ (kvs : List (Key × V)) (k : Key), H3 a = some (.dK kvs) ∧ y = kV k ∧ kvs.length < sizeLine ∧
  (∀ v, valV kvs k = some v → Q v H3) ∧ (valV kvs k = none → Q z (upd H3 a (.dK (putK kvs k z))))
instance : Stp (tDSetd td ty tx σ H Q) (td σ H (kDS1 ty tx σ Q)) := ⟨id⟩
theorem k_ds1 {kvs : List (Key × V)} (h : H a = some (.dK kvs)) (k : ty σ H (kDS2 a tx σ Q)) : kDS1 ty tx σ Q (.ref a) H := ⟨a, rfl, .inl ⟨kvs, .inl h⟩, k⟩
instance : Stp (kDS2 a tx σ Q y H) (tx σ H (kDS3 a y Q)) := ⟨id⟩
theorem valV_none {κ : Type} [DecidableEq κ] {kvs : List (κ × V)} {k : κ} (h : valV kvs k = none) : k ∉ kvs.map (·.1) := by
  intro hm
  obtain ⟨p, hp, e⟩ := List.mem_map.mp hm
  induction kvs with
  | nil => cases hp
  | cons q t ih =>
    by_cases e2 : q.1 = k
    · rw [valV_pos e2] at h; cases h
    · rw [valV_neg e2] at h
      rcases List.mem_cons.mp hp with r | hp
      · exact e2 (r ▸ e)
      · exact ih h (List.mem_map.mpr ⟨p, hp, e⟩) hp
theorem k_ds3 {kvs : List (Key × V)} (h : H a = some (.dK kvs)) (c : kvs.length < sizeLine) (h1 : ∀ v, valV kvs (.inl i) = some v → Q v H) (h2 : valV kvs (.inl i) = none → ∀ H', Mo a H H' → H' a = some (.dK (kvs ++ [(.inl i, z)])) → Q z H') : kDS3 a (.int i) Q z H :=
  ⟨kvs, .inl i, h, rfl, c, h1, fun e => h2 e _ Mo.of (by rw [upd_same, putK_new (valV_none e)])⟩
/-- d.get(k, x), keys tuples -/
def kGt1 (ty tx : TE) (σ : L2.St) (Q : VK) : VK := fun x H1 => ∃ a, x = .ref a ∧ IsD H1 a ∧ ty σ H1 fun y H2 => tx σ H2 fun z H3 => ∃ o, DGet H3 a y o ∧ Q (o.getD z) H3
def kGt2 (a : Addr) (tx : TE) (σ : L2.St) (Q : VK) : VK := fun y H2 => tx σ H2 fun z H3 => ∃ o, DGet H3 a y o ∧ Q (o.getD z) H3
def kGt3 (a : Addr) (y : V) (Q : VK) : VK := fun z H3 => ∃ o, DGet H3 a y o ∧ Q (o.getD z) H3
instance : Stp (tDGet2 td ty tx σ H Q) (td σ H (kGt1 ty tx σ Q)) := ⟨id⟩
theorem k_gt1 {kvs : List (List Key × V)} (h : H a = some (.dT kvs)) (k : ty σ H (kGt2 a tx σ Q)) : kGt1 ty tx σ Q (.ref a) H := ⟨a, rfl, .inr ⟨kvs, .inl h⟩, k⟩
instance : Stp (kGt2 a tx σ Q y H) (tx σ H (kGt3 a y Q)) := ⟨id⟩
theorem k_gt3 {b : Addr} {ks : List Key} {kvs : List (List Key × V)} (h : H a = some (.dT kvs)) (hb : H b = some (.tup (ks.map kV))) (k : Q ((valV kvs ks).getD z) H) : kGt3 a (.ref b) Q z H := ⟨_, DGet.t h hb, k⟩
theorem cr_sortedIK {X : Cx} (h : X.K = K := by rfl) : CallR X (.builtin "sorted") (rSortedI K) := h ▸ cr_sortedI
theorem cr_sortedSK {X : Cx} (h : X.K = K := by rfl) : CallR X (.builtin "sorted") (rSortedS K) := h ▸ cr_sortedS
theorem nats_back {is : List Int} {ns : List Nat} (h : is.Perm (ns.map Int.ofNat)) : ∃ ms : List Nat, is = ms.map Int.ofNat := by
  have all : ∀ i ∈ is, 0 ≤ i := fun i hi => by
    obtain ⟨n, _, e⟩ := List.mem_map.mp (h.mem_iff.mp hi)
    rw [← e]
    exact Int.natCast_nonneg n
  refine ⟨is.map Int.toNat, ?_⟩
  rw [List.map_map]
  have : is.map (Int.ofNat ∘ Int.toNat) = is.map id := List.map_congr_left fun i hi => by
    show ((i.toNat : Nat) : Int) = i
    have := all i hi
    omega
  rw [this, List.map_id]
theorem nats_perm {ms ns : List Nat} (h : (ms.map Int.ofNat).Perm (ns.map Int.ofNat)) : ms.Perm ns := by
  have := h.map Int.toNat
  rw [List.map_map, List.map_map] at this
  simpa [Function.comp_def] using this
theorem r_sortDN {kvs : List (Key × V)} {ns : List Nat} (h : H a = some (.dK kvs)) (e : kvs.map (·.1) = ns.map fun n : Nat => (Sum.inl (Int.ofNat n) : Key)) (c : ns.length < 64) (k : ∀ (ms : List Nat) (p : Addr) (H' : Hp), ms.Perm ns → ms.Pairwise (· ≤ ·) → H p = none → Ex H H' → H' p = some (.lst (ms.map iv)) → Q (.ref p) H') :
    ∃ (a' : Addr) (kvs : List (Key × V)) (ks : List Int), [V.ref a] = [.ref a'] ∧ Rd H a' (.dK kvs) ∧ kvs.map (·.1) = ks.map Sum.inl ∧ ks.length < 64 ∧
    ∀ (ys : List Int) (p : Addr), ys.Perm ks → ys.Pairwise (· ≤ ·) → H p = none → Q (.ref p) (upd H p (.lst (ys.map V.int))) := by
  refine ⟨a, kvs, ns.map Int.ofNat, rfl, .inl h, by rw [e, List.map_map]; rfl, by simpa using c, fun ys p hp hs hn => ?_⟩
  obtain ⟨ms, rfl⟩ := nats_back hp
  exact k ms p _ (nats_perm hp) ((List.pairwise_map.mp hs).imp fun h => Int.ofNat_le.mp h) hn (Ex.new hn) (by rw [upd_same, List.map_map]; rfl)
theorem r_sortN {ns : List Nat} {b : Bool} (h : SqL K H a (ns.map iv)) (k : ∀ (ms : List Nat) (p : Addr) (H' : Hp), ms.Perm ns → ms.Pairwise (· ≤ ·) → H p = none → Ex H H' → H' p = some (.lst (ms.map iv)) → Q (.ref p) H') : rSortedI K [.ref a] H Q := by
  refine ⟨a, ns.map Int.ofNat, rfl, by rw [List.map_map]; exact h, fun ys p hp hs hn => ?_⟩
  obtain ⟨ms, rfl⟩ := nats_back hp
  exact k ms p _ (nats_perm hp) ((List.pairwise_map.mp hs).imp fun h => Int.ofNat_le.mp h) hn (Ex.new hn) (by rw [upd_same, List.map_map]; rfl)
theorem r_sortS {ss : List Str} (h : SqL K H a (ss.map V.str)) (c : ss.length < 64) (k : ∀ (ms : List Str) (p : Addr) (H' : Hp), ms.Perm ss → sortedS ms = true → H p = none → Ex H H' → H' p = some (.lst (ms.map V.str)) → Q (.ref p) H') : rSortedS K [.ref a] H Q :=
  ⟨a, ss, rfl, h, c, fun ys p hp hs hn => k ys p _ hp hs hn (Ex.new hn) upd_same⟩
end

end QP

set_option Elab.async false
set_option linter.all false
set_option maxRecDepth 100000
set_option maxHeartbeats 1000000
namespace QP
open PySem PySem.Spec PyProof.Rows L2
/-! ### sorted(d.items()), keys numbers, values texts -/
section
open L2.DX PySem.W
variable {X : Cx}
def rItK : V → List V → Hp → VK → Prop := fun x xs H Q => ∃ (a : Addr) (kvs : List (Key × V)), x = .ref a ∧ xs = [] ∧ H a = some (.dK kvs) ∧ ∀ p, H p = none → Q (.ref p) (upd H p (itemsO p a))
theorem mt_itK : MtR X "dict.items" rItK := by
  intro pins s σ H x xs v us Q I rx rxs h
  obtain ⟨a, kvs, rfl, rfl, ha, q⟩ := h
  cases rx
  cases rxs
  obtain ⟨z, hd, vs, rel, o, es, ep, ho, hx, hdat, _⟩ := dk_of I.hok ha
  refine DT.callItems (es := es) (ep := ep) hd ⟨o, ho, hx, hdat⟩ ?_
  have hf : H s.heap.objs.size = none := I.hok.fresh (Nat.le_refl _)
  exact ⟨.ref s.heap.objs.size, upd H s.heap.objs.size (itemsO s.heap.objs.size a), I.laid (t' := s.toks) (fun b u e => Heap.get?_push_of_some _ e) (Nat.le_refl _) (itemsO_ok (Heap.get?_push_size _ rfl)), rfl, q _ hf⟩
abbrev entK (e : Nat × Str) : Key × V := (Sum.inl (e.1 : Int), .str e.2)
def encK (e : Addr × Nat × Str) : PyData := .tuple [.int (e.2.1 : Int), .str e.2.2]
def rSortItK : List V → Hp → VK → Prop := fun vs H Q => ∃ (p a : Addr) (ks : List (Nat × Str)), vs = [.ref p] ∧ H p = some (itemsO p a) ∧ H a = some (.dK (ks.map entK)) ∧ ks.length ≤ 1000 ∧
  ∀ (H' : Hp) (l : Addr) (ps : List (Addr × Nat × Str)), Ex H H' → (ps.map (·.2)).Perm ks → H' l = some (.lst (ps.map fun z => V.ref z.1)) → (∀ z ∈ ps, H' z.1 = some (.tup [iv z.2.1, .str z.2.2])) → Q (.ref l) H'
theorem pairs_at {P : Program} {w : World} {es : List DictEntry} {kvs : List (Key × Value)} (hp : Pairs (mixKind P w) es kvs) : es.length = kvs.length ∧ ∀ {j : Nat} {e : DictEntry}, es[j]? = some e → ∃ kv, kvs[j]? = some kv ∧ (mixKind P w).is kv.1 e.key = true ∧ e.val = kv.2 := by
  induction hp with
  | nil => exact ⟨rfl, fun {j e} h => by simp at h⟩
  | cons h1 h2 _ ih =>
    refine ⟨by rw [List.length_cons, List.length_cons, ih.1], fun {j e} h => ?_⟩
    cases j with
    | zero =>
      cases h
      exact ⟨_, rfl, h1, h2⟩
    | succ j =>
      obtain ⟨kv, q1, q2⟩ := ih.2 (j := j) (by simpa using h)
      exact ⟨kv, by simpa using q1, q2⟩
theorem eachIs_zip {as : List Addr} : ∀ {ks : List (Nat × Str)}, as.length = ks.length → EachIs (fun (v : Value) (z : Addr × Nat × Str) => v = .ref z.1) (as.map Value.ref) (as.zip ks) := by
  induction as with
  | nil => intro ks _; exact .nil
  | cons a as ih =>
    intro ks h
    cases ks with
    | nil => simp at h
    | cons k ks => exact .cons rfl (ih (by simpa using h))
theorem eachIs_at {α β : Type} {R : α → β → Prop} : ∀ {xs : List α} {ys : List β}, xs.length = ys.length → (∀ (j : Nat) x y, xs[j]? = some x → ys[j]? = some y → R x y) → EachIs R xs ys
  | [], [], _, _ => .nil
  | x :: xs, y :: ys, h, k => .cons (k 0 x y rfl rfl) (eachIs_at (by simpa using h) fun j a b ha hb => k (j + 1) a b (by simpa using ha) (by simpa using hb))
  | [], _ :: _, h, _ => by simp at h
  | _ :: _, [], h, _ => by simp at h
theorem eachIs_map {out : List Value} {zs : List (Addr × Nat × Str)} (h : EachIs (fun (v : Value) (z : Addr × Nat × Str) => v = .ref z.1) out zs) : out = zs.map fun z => Value.ref z.1 := by
  induction h with
  | nil => rfl
  | cons h _ ih => rw [List.map_cons, h, ih]
theorem cr_sortedItK (hc : X.calm = true) (hu : X.A.units + 64 < cLine) : CallR X (.builtin "sorted") rSortItK := by
  intro pins s σ H xs us Q I r h
  obtain ⟨p, a, ks, rfl, hp, ha, hk1, q⟩ := h
  obtain rfl := Vals.ref1 r
  have view : s.heap.IsItemsView p a := (show ObjOk X.prog X.w H s.heap p (itemsO p a) from I.hok p _ hp).1
  obtain ⟨z, hd, vs, rel, o, es, ep, ho, hx, hdat, hko, hpr, hnd⟩ := dk_of I.hok ha
  have l1 : ks.length = vs.length := by rw [← KV.length rel, List.length_map]
  have l2 : es.size = vs.length := by
    have := (pairs_at hpr).1
    rwa [Array.length_toList] at this
  have hh : X.A.handled = none := I.ok.hd hc
  refine DT.sortedI (es := es) (ep := ep) hh view ⟨o, ho, hx, hdat⟩ (by rw [sizeLine_eq]; omega) fun h' tk as hk hlt hl hG => ?_
  have lak : as.length = ks.length := by omega
  have nd : as.Nodup := List.Pairwise.imp (fun h => Nat.ne_of_lt h) hG.rise
  have pr : ∀ (j : Nat) (b : Addr), as[j]? = some b → ∃ (e : Nat × Str) (t1 t2 : Tok), ks[j]? = some e ∧ h'.get? b = some { cls := .type "tuple", data := .seq #[Value.int (e.1 : Int) t1, Value.str e.2 t2] } := by
    intro j b hj
    obtain ⟨en, he, hg⟩ := hG.pairs j b hj
    obtain ⟨kv, hkv, h1, h2⟩ := (pairs_at hpr).2 (by rw [Array.getElem?_toList]; exact he)
    obtain ⟨x, hx1, hx2⟩ := KV.at' (κ := Key) rel (i := j) (k := kv.1) (v := kv.2) hkv
    rw [List.getElem?_map] at hx1
    cases hkj : ks[j]? with
    | none => rw [hkj] at hx1; cases hx1
    | some e =>
      rw [hkj] at hx1
      have e1 : entK e = (kv.1, x) := Option.some.inj hx1
      injection e1 with e1 e2
      rw [← e2] at hx2
      obtain ⟨t2, hx2⟩ := hx2
      rw [← e1] at h1
      rcases keyIs_shape (show keyIs (Sum.inl (e.1 : Int)) en.key = true from h1) with ⟨i, t, q1, q2⟩ | ⟨y, t, q1, q2⟩
      · injection q1 with q1
        refine ⟨e, t, t2, rfl, ?_⟩
        rw [hg, q2, h2, hx2, q1]
      · cases q1
  have hob : (h'.push { cls := .type "list", data := .seq (as.map Value.ref).toArray }).get? h'.objs.size = some (seqObj "list" (as.map Value.ref).toArray 0) := Heap.get?_push_size _ rfl
  have kb : ∀ b o, s.heap.get? b = some o → (h'.push { cls := .type "list", data := .seq (as.map Value.ref).toArray }).get? b = some o := fun b o e => Heap.get?_push_of_some _ (hk b o e)
  have ne0 : ∀ b o, h'.get? b = some o → b ≠ h'.objs.size := fun b o e => Nat.ne_of_lt (Heap.lt_size e)
  generalize hh2 : h'.push { cls := .type "list", data := .seq (as.map Value.ref).toArray } = h2 at hob kb ⊢
  have ka : ∀ b o, h'.get? b = some o → h2.get? b = some o := fun b o e => by rw [← hh2]; exact Heap.get?_push_of_some _ e
  refine list_sort_data (s := { s with heap := h2, toks := tk }) (bs := as.zip ks) (enc := encK) (R := fun v z => v = .ref z.1) hob (eachIs_zip lak) ?_ ?_ ?_ ?_ ?_ ?_
  · refine eachIs_at (by rw [List.length_map, List.length_zip]; omega) fun j v zz hv hz => ?_
    obtain ⟨b, hb, rfl⟩ := at_map hv
    obtain ⟨z1, z2⟩ := List.getElem?_zip_eq_some.mp hz
    obtain ⟨e, t1, t2, he, hg⟩ := pr j b hb
    rw [hb] at z1
    rw [he] at z2
    cases zz with
    | mk zz1 zz2 =>
      cases z1
      cases z2
      exact ⟨_, .tuple (ka _ _ hg) rfl rfl (.cons (.int _ t1) (.cons (.str _ t2) .nil)), by simp⟩
  · intro d hd' d' hd2
    obtain ⟨x, _, rfl⟩ := List.mem_map.mp hd'
    obtain ⟨y, _, rfl⟩ := List.mem_map.mp hd2
    rfl
  · exact .inl fun d hd' => by
      obtain ⟨x, _, rfl⟩ := List.mem_map.mp hd'
      exact ⟨_, _, rfl⟩
  · rw [List.length_zip, sizeLine_eq]; omega
  · intro b _
    show X.A.in1.units + 1 + 1 < cLine
    show X.A.units + 1 + 1 + 1 < cLine
    omega
  · intro out hol heo
    have hout := eachIs_map heo
    generalize hzs : (as.zip ks).mergeSort (dataLe false encK) = zs at hout heo
    have pz : zs.Perm (as.zip ks) := hzs ▸ List.mergeSort_perm _ _
    have idx : ∀ z ∈ zs, ∃ j : Nat, as[j]? = some z.1 ∧ ks[j]? = some z.2 := by
      intro z' hz'
      obtain ⟨j, hj⟩ := List.mem_iff_getElem?.mp (pz.mem_iff.mp hz')
      exact ⟨j, List.getElem?_zip_eq_some.mp hj⟩
    have hperm : (zs.map (·.2)).Perm ks := by
      have e := pz.map (·.2)
      have m2 : (as.zip ks).map (·.2) = ks := List.map_snd_zip (by rw [lak]; exact Nat.le_refl _)
      rw [m2] at e
      exact e
    have kF : ∀ b o, b ≠ h'.objs.size → h2.get? b = some o → (sortedHeap h2 h'.objs.size (as.map Value.ref) out.toArray).get? b = some o := fun b o hb e => (PyProof.Rows.sortedHeap_old hb (Heap.lt_size e)).trans e
    have kS : ∀ b o, s.heap.get? b = some o → (sortedHeap h2 h'.objs.size (as.map Value.ref) out.toArray).get? b = some o := fun b o e => kF b o (ne0 _ _ (hk b o e)) (kb b o e)
    obtain ⟨eF, heF⟩ := PyProof.Rows.sortedHeap_at (vs := as.map Value.ref) (out := out.toArray) hob
    have I1 : Inv X pins σ H { s with heap := sortedHeap h2 h'.objs.size (as.map Value.ref) out.toArray, toks := tk } := I.kept (t' := tk) kS
    have hn0 : H h'.objs.size = none := I.hok.fresh (Nat.le_of_lt hlt)
    have hlen : (zs.map fun z => V.ref z.1).length ≤ sizeLine := by
      have e := hperm.length_eq
      rw [List.length_map] at e
      rw [List.length_map, sizeLine_eq]
      omega
    have rv : Vals (zs.map fun z => V.ref z.1) out := by
      rw [hout]
      exact vals_maps (fun z : Addr × Nat × Str => V.ref z.1) (fun z => Value.ref z.1) zs fun _ _ => rfl
    have I2 : Inv X pins σ (upd H h'.objs.size (.lst (zs.map fun z => V.ref z.1))) { s with heap := sortedHeap h2 h'.objs.size (as.map Value.ref) out.toArray, toks := tk } :=
      I1.take (h' := sortedHeap h2 h'.objs.size (as.map Value.ref) out.toArray) (t' := tk) (fun b ob _ e => e) (I.fpOk (Nat.le_of_lt hlt) hn0) ⟨hlen, out, eF, rv, heF⟩
    obtain ⟨H2, I3, g, qt⟩ := takeT (P := fun b vs => ∃ (j : Nat) (e : Nat × Str), as[j]? = some b ∧ ks[j]? = some e ∧ vs = [iv e.1, .str e.2]) I as _ I2 nd fun b hb => by
      obtain ⟨j, hj⟩ := List.mem_iff_getElem?.mp hb
      obtain ⟨e, t1, t2, he, hg⟩ := pr j b hj
      have hbl : s.heap.objs.size ≤ b := Nat.le_of_lt (hG.above b hb)
      refine ⟨hbl, ?_, [iv e.1, .str e.2], ⟨j, e, hj, he, rfl⟩, fun H3 => ⟨(by rw [sizeLine_eq]; show 2 ≤ 16777216; omega), [Value.int (e.1 : Int) t1, Value.str e.2 t2], .cons ⟨t1, rfl⟩ (.cons ⟨t2, rfl⟩ .nil), ⟨_, kF _ _ (ne0 _ _ hg) (ka _ _ hg), rfl, 0, rfl⟩⟩⟩
      rw [upd_ne (ne0 _ _ hg)]
      exact I.hok.fresh hbl
    have gr : ∀ b o, H b = some o → H2 b = some o := fun b o e => g b o (by rw [upd_ne (ne_of_none e hn0)]; exact e)
    refine ⟨.ref h'.objs.size, H2, I3, rfl, q H2 h'.objs.size zs gr hperm (g _ _ upd_same) fun z' hz' => ?_⟩
    obtain ⟨i, i1, i2⟩ := idx z' hz'
    obtain ⟨vs, ⟨j, e, j1, j2, ev⟩, hH⟩ := qt z'.1 (List.mem_of_getElem? i1)
    have eij : i = j := (List.getElem?_inj (List.getElem?_eq_some_iff.mp i1).1 nd).mp (i1.trans j1.symm)
    subst eij
    have ee : e = z'.2 := Option.some.inj (j2.symm.trans i2)
    rw [ev, ee] at hH
    exact hH
end
section
variable {K : PySem.W.Frag} {H : Hp} {Q : VK} {a : Addr}
theorem k_bm0D {r : V → List V → Hp → VK → Prop} {kvs : List (Key × V)} (h : H a = some (.dK kvs)) (k : r (.ref a) [] H Q) : kBM0 K "dict" r Q (.ref a) H := ⟨.inr (.inr (.inl ⟨rfl, .inl ⟨kvs, h⟩⟩)), k⟩
theorem r_itK {kvs : List (Key × V)} (h : H a = some (.dK kvs)) (k : ∀ p H', H p = none → Ex H H' → H' p = some (L2.DX.itemsO p a) → Q (.ref p) H') : rItK (.ref a) [] H Q := ⟨a, kvs, rfl, rfl, h, fun p hp => k p _ hp (Ex.new hp) upd_same⟩
theorem r_sortIt {p : Addr} {ks : List (Nat × Str)} (hp : H p = some (L2.DX.itemsO p a)) (h : H a = some (.dK (ks.map entK))) (c : ks.length ≤ 1000) (k : ∀ (H' : Hp) (l : Addr) (ps : List (Addr × Nat × Str)), Ex H H' → (ps.map (·.2)).Perm ks → H' l = some (.lst (ps.map fun z => V.ref z.1)) → (∀ z ∈ ps, H' z.1 = some (.tup [iv z.2.1, .str z.2.2])) → Q (.ref l) H') : rSortItK [.ref p] H Q :=
  ⟨p, a, ks, rfl, hp, h, c, k⟩
end

end QP

set_option Elab.async false
set_option linter.all false
set_option maxRecDepth 100000
set_option maxHeartbeats 1000000
namespace QP
open PySem PySem.Spec PyProof.Rows L2
/-! ### sorted(xs, key=lambda x: (len(x), x)), xs texts -/
section
open LamX PySem.W
/-- a lambda that stands, its code object known -/
def LamO (f c' : Addr) (q : Str) (params : Arguments) (body : Expr) (scope : Scope) (pm ctv : Value) : HO := .ext fun h => h.get? f = some (PySem.W.kla_obj "<lambda>" q params body scope [] pm c' ctv)
theorem lamO_ok {P : Program} {w : World} {H : Hp} {h : Heap} {f c' : Addr} {q : Str} {params : Arguments} {body : Expr} {scope : Scope} {pm ctv : Value} (e : h.get? f = some (PySem.W.kla_obj "<lambda>" q params body scope [] pm c' ctv)) : ObjOk P w H h f (LamO f c' q params body scope pm ctv) :=
  ⟨e, ⟨_, e⟩, fun h1 h2 x k => k _ x⟩
def tLamV (T : List (Addr × Str)) (q : Str) (params : Arguments) (body : Expr) (scope : Scope) : TE := fun σ H Q => Tabs T H ∧ ∀ f c' pm ctv H1, ExtN H H1 → Tabs T H1 → H f = none → H1 f = some (LamO f c' q params body scope pm ctv) → H1 c' = some (CodeO c' q) → Q (.ref f) H1
variable {X : Cx} {T : List (Addr × Str)} {c P : Addr} {params : Arguments} {body : Expr} {scope : Scope} {pos : Pos}
theorem pe_lamV (TB : TabB X.base X.mg c P) (hcode : X.env.code = .ref c) (hm : (P, X.env.qual ++ "<lambda>") ∈ T) (hu : ∀ p ∈ T, p.1 = P → p.2 = X.env.qual ++ "<lambda>") (hdef : defaultsOf params X.env = ([], [])) (hfree : ∀ y ∈ scope.names, y.2 ≠ .free) (hclo : ∀ cells, cloFrom cells scope.names [] = []) :
    PE X (.Lambda params body scope pos) (tLamV T (X.env.qual ++ "<lambda>") params body scope) := by
  refine ⟨fun pins s σ H Q I h => ?_⟩
  obtain ⟨hT, h⟩ := h
  obtain ⟨ps, hP, ht, ha⟩ := hT _ hm
  refine PySem.W.kla_eval hdef ?_
  have bP : s.heap.BuiltinsAt X.mg P := TB.bm.keeps I.bk
  have hP' : s.heap.get? P = some { cls := .none, data := .fields ps } := I.hok P _ hP
  have hcl : closureFor scope X.env = pure (cloFrom X.env.cells scope.names []) := closure_ok fun y hy e => absurd e (hfree y hy)
  -- the function's object, just laid, is tracked
  have fin : ∀ {H1 : Hp} {h' : Heap} {tk : Nat} {c' : Addr} {ctv : Value}, Inv X pins σ H1 { s with heap := h'.push (PySem.W.kla_obj "<lambda>" (X.env.qual ++ "<lambda>") params body scope (cloFrom X.env.cells scope.names []) ((X.mg "__name__").getD .none) c' ctv), toks := tk } →
      s.heap.objs.size ≤ h'.objs.size → ExtN H H1 → Tabs T H1 → H1 h'.objs.size = none → H1 c' = some (CodeO c' (X.env.qual ++ "<lambda>")) →
      EP X pins σ Q (.ref h'.objs.size) { s with heap := h'.push (PySem.W.kla_obj "<lambda>" (X.env.qual ++ "<lambda>") params body scope (cloFrom X.env.cells scope.names []) ((X.mg "__name__").getD .none) c' ctv), toks := tk } := by
    intro H1 h' tk c' ctv I1 hsz eN T1 hn hco
    rw [hclo] at I1 ⊢
    have hf : H h'.objs.size = none := I.hok.fresh hsz
    have I2 := I1.take (h' := h'.push (PySem.W.kla_obj "<lambda>" (X.env.qual ++ "<lambda>") params body scope [] ((X.mg "__name__").getD .none) c' ctv)) (t' := tk) (fun b ob _ e => e) (I.fpOk hsz hn) (lamO_ok (H := upd H1 h'.objs.size (LamO h'.objs.size c' (X.env.qual ++ "<lambda>") params body scope ((X.mg "__name__").getD .none) ctv)) (Heap.get?_push_size _ rfl))
    have e1 : Ex H1 (upd H1 h'.objs.size (LamO h'.objs.size c' (X.env.qual ++ "<lambda>") params body scope ((X.mg "__name__").getD .none) ctv)) := Ex.new hn
    exact ⟨.ref h'.objs.size, _, I2, rfl, h _ c' _ ctv _ (eN.trans (ExtN.of e1)) (T1.ext e1) hf upd_same (e1 _ _ hco)⟩
  cases hc : codeAmong pos ps.toList with
  | none =>
    refine PySem.W.kla_makeFunction (mg := X.mg) (c := c) (P := P) (ps := ps) hcl I.ok.glob (I.mod.glob.keeps I.bk) hcode (TB.code.keeps I.bk) hP' ht hc TB.gP bP fun c' ctv h' tk hx hge hlt hrec htb => ?_
    obtain ⟨c2, oc, vs, t, e2, hoc, hd, hv⟩ := hrec
    cases e2
    have hsz : s.heap.objs.size ≤ h'.objs.size := Nat.le_trans hge (Nat.le_of_lt hlt)
    have nC : H c' = none := I.hok.fresh hge
    have I1 := inv_table (t' := tk) (more := #[rawInt pos.line, rawInt pos.col, .ref c']) (h' := h'.push (PySem.W.kla_obj "<lambda>" (X.env.qual ++ "<lambda>") params body scope (cloFrom X.env.cells scope.names []) ((X.mg "__name__").getD .none) c' ctv)) I hP
      (fun b o hb e => Heap.get?_push_of_some _ (hx b o hb e)) (Heap.get?_push_of_some _ htb) hge ⟨oc, vs, t, Heap.get?_push_of_some _ hoc, hd, hv⟩
    have hE : ExtN H (upd (upd H P (.tbl (ps ++ #[rawInt pos.line, rawInt pos.col, .ref c']))) c' (CodeO c' (X.env.qual ++ "<lambda>"))) := fun b o e n => by
      rw [upd_ne (ne_of_none e nC), upd_ne (fun z => n ps (Option.some.inj (e.symm.trans (by rw [z]; exact hP))))]
      exact e
    have eL : (ps ++ #[rawInt pos.line, rawInt pos.col, .ref c']).toList = ps.toList ++ [rawInt pos.line, rawInt pos.col, .ref c'] := by simp
    have n1 : h'.objs.size ≠ c' := Nat.ne_of_gt hlt
    have n2 : h'.objs.size ≠ P := Nat.ne_of_gt (Nat.lt_of_lt_of_le (Heap.lt_size hP') hsz)
    refine fin I1 hsz hE (fun p hp => ?_) (by rw [upd_ne n1, upd_ne n2]; exact I.hok.fresh hsz) upd_same
    by_cases hb : p.1 = P
    · rw [hu p hp hb, hb]
      refine ⟨_, by rw [upd_ne (ne_of_none hP nC), upd_same], by rw [eL]; exact PySem.TriplesOk_snoc _ _ _ _ ht, fun p' cv hcv => ?_⟩
      rw [eL] at hcv
      rcases among_app _ ht hcv with z | z
      · obtain ⟨c0, e1, e2⟩ := ha p' cv z
        exact ⟨c0, e1, hE _ _ e2 codeO_ne⟩
      · exact ⟨c', z, upd_same⟩
    · obtain ⟨ps', a1, a2, a3⟩ := hT p hp
      refine ⟨ps', by rw [upd_ne (ne_of_none a1 nC), upd_ne hb]; exact a1, a2, fun p' cv hcv => ?_⟩
      obtain ⟨c0, e1, e2⟩ := a3 p' cv hcv
      exact ⟨c0, e1, hE _ _ e2 codeO_ne⟩
  | some cv =>
    obtain ⟨c', e, hco⟩ := ha pos cv hc
    subst e
    refine PySem.W.kla_makeFunctionHit (mg := X.mg) (c := c) (P := P) (ps := ps) hcl I.ok.glob (I.mod.glob.keeps I.bk) hcode (TB.code.keeps I.bk) hP' ht hc bP fun ctv h' tk hx hsz => ?_
    exact fin (I.kept fun b o e => Heap.get?_push_of_some _ (hx b o e)) hsz (ExtN.refl H) hT (I.hok.fresh hsz) hco
end
section
open LamX PySem.W
def kkS (x : Str) : PyData := .tuple [.int (x.length : Int), .str x]
/-- the lambda's names -/
def scLam (scope : Scope) : Prop := scope.kind = .function ∧ scope.isCoroutine = false ∧ scope.isGenerator = false ∧ (∀ y ∈ scope.names, y.2 ≠ .cell ∧ y.2 ≠ .free) ∧ scope.names.lookup ("lot" : Str) = some NameKind.local ∧ scope.names.lookup ("len" : Str) = some NameKind.globalImplicit
theorem key_call {P : Program} {w : World} {A : Around} {s : Shared} {f c' : Addr} {q : Str} {params : Arguments} {scope : Scope} {pm ctv : Value} {p1 p2 p3 p4 p5 : Pos} {k : Nat} {mg mb : Str → Option Value} {x : Str} {t : Tok} {E : Value → Shared → Prop}
    (hr : Room 1 A) (sc : scLam scope) (hf : s.heap.get? f = some (PySem.W.kla_obj "<lambda>" q params (.Tuple [.Call (.Name "len" p1) [.Name "lot" p2] [] p3, .Name "lot" p4] k p5) scope [] pm c' ctv))
    (hco : ∃ (oc : Obj) (vs : Array Value) (t : Tok), s.heap.get? c' = some oc ∧ oc.data = .fields vs ∧ vs[1]? = some (.str q t))
    (hbind : ∀ v, bindArgs (PySem.W.kla_fn "<lambda>" q params (.Tuple [.Call (.Name "len" p1) [.Name "lot" p2] [] p3, .Name "lot" p4] k p5) scope [] pm (.ref c') ctv) ⟨[v], []⟩ = pure [(("lot" : Str), v)])
    (hlim : s.heap.NoLimit) (hns : s.heap.Ns mainGlobals mg) (hmg : mg "len" = none) (hb : s.heap.Ns builtinsNs mb) (hmb : mb "len" = bootBuiltins "len") (hx : x.length ≤ sizeLine) :
    wpAny (model P w) A (call (.ref f) [.str x t]) (KeyPure (kkS x) s) E s := by
  obtain ⟨s1, s2, s3, s4, s5, s6⟩ := sc
  obtain ⟨oc, vs, tq, hoc, hdc, hvc⟩ := hco
  refine wpAny_call ?_
  refine PySem.W.kla_callFunE hr.depth hf rfl s2 s3 rfl ⟨c', oc, vs, tq, rfl, hoc, hdc, hvc⟩ ?_
  rw [hbind]
  refine wpAny_pure (wpAny_newFunctionEnv (fun y hy => (s4 y hy).1) (fun y hy => by rw [List.mem_singleton.mp hy]; exact s5) (fun h₁ hns1 hsb => ⟨hlim.fresh _ hsb, ?_⟩) s1)
  have kp : ∀ b o, s.heap.get? b = some o → h₁.get? b = some o := fun b o e => hsb.extBut b o (Nat.ne_of_lt (Heap.lt_size e)) (Heap.get?_push_of_some _ e)
  show codeAny _ _ (.expr _ (PySem.W.envX q scope s.heap.objs.size f (.ref c') [])) _ _
  refine PySem.W.kla_codeExpr ?_
  have kp' : ∀ {h' : Heap}, (∀ b o, h₁.get? b = some o → h'.get? b = some o) → ∀ b o, s.heap.get? b = some o → h'.get? b = some o := fun k b o e => k b o (kp b o e)
  refine wpAny_Tuple_spliced ?_
  show wpAny _ _ (spliced ((false, eval (.Call (.Name "len" p1) [.Name "lot" p2] [] p3) _) :: backTo p5 (starEach [.Name "lot" p4] _))) _ _ _
  have lot : ∀ {pp : Pos} {tk : Nat} {E' : Value → Shared → Prop} {Q : Value → Shared → Prop}, Q (.str x t) { s with heap := h₁, toks := tk } →
      wpAny (model P w) (A.deeper (PySem.W.envX q scope s.heap.objs.size f (.ref c') [])) (eval (.Name "lot" pp) (PySem.W.envX q scope s.heap.objs.size f (.ref c') [])) Q E' { s with heap := h₁, toks := tk } := fun {pp tk E' Q} hQ =>
    wpAny_Name (wpAny_loadName_local s1 s5 hns1 (by rfl) hQ) (by decide)
  refine Calls.spliced_cons ?_
  refine wpAny_Call_Name_kw (Calls.Name_function_global s1 s6 (Calls.loadGlobal_builtin (mg := mg) (mb := mb) (hns.keeps kp) hmg (hb.keeps kp) (hmb.trans PySem.boot_len) ?_))
  refine PyProof.Rows.callWith_builtin1 (rest := []) (e := .Name "lot" p2) ?_
  show wpAny _ _ (spliced ((false, eval (.Name "lot" p2) _) :: [])) _ _ _
  refine Calls.spliced_cons (lot (Calls.spliced_nil ?_))
  have hn := line63
  refine len_str (by omega) ?_
  show wpAny _ _ (spliced ((false, eval (.Name "lot" p4) _) :: [])) _ _ _
  refine Calls.spliced_cons (lot (Calls.spliced_nil ?_))
  have h0 : (h₁.push { cls := .type "tuple", data := .seq [Value.int (x.length : Int) (s.toks + [(("lot" : Str), Value.str x t)].length + 1), Value.str x t].toArray }).get? h₁.objs.size = some { cls := .type "tuple", data := .seq [Value.int (x.length : Int) (s.toks + [(("lot" : Str), Value.str x t)].length + 1), Value.str x t].toArray } := Heap.get?_push_size _ rfl
  refine ⟨Nat.le_of_ble_eq_true rfl, ?_⟩
  show KeyPure (kkS x) s _ _
  have kq := kp' (h' := h₁.push { cls := .type "tuple", data := .seq [Value.int (x.length : Int) (s.toks + [(("lot" : Str), Value.str x t)].length + 1), Value.str x t].toArray }) fun b o e => Heap.get?_push_of_some _ e
  refine ⟨_, _, rfl, kq, ?_⟩
  have r1 : ReadsAll (h₁.push { cls := .type "tuple", data := .seq [Value.int (x.length : Int) (s.toks + [(("lot" : Str), Value.str x t)].length + 1), Value.str x t].toArray }) [Value.int (x.length : Int) (s.toks + [(("lot" : Str), Value.str x t)].length + 1), Value.str x t] [.int (x.length : Int), .str x] ([] ++ ([] ++ [])) := .cons (.int _ _) (.cons (.str _ _) .nil)
  exact .tuple h0 rfl rfl r1
end
section
open LamX PySem.W
def LtS (x y : Str) : Prop := x.length < y.length ∨ (x.length = y.length ∧ x.cps.toList < y.cps.toList)
theorem dataLt_kk (x y : Str) : dataLt (kkS x) (kkS y) = true ↔ LtS x y := by
  unfold kkS LtS
  rw [dataLt_pair (by simp [alike]) (by simp [alike]), dataLt_int, dataLt_str]
  simp only [PyData.eqv, beq_iff_eq]
  by_cases h1 : x.length = y.length
  · rw [if_pos (by rw [h1])]
    by_cases h2 : x = y
    · subst h2
      simp [List.lt_irrefl]
    · rw [if_neg h2]
      simp [h1]
  · rw [if_neg (fun e => h1 (Int.ofNat_inj.mp e))]
    simp [h1]
variable {X : Cx}
def rSortLam (K : PySem.W.Frag) (q : Str) (params : Arguments) (body : Expr) (scope : Scope) : List V → List V → Hp → VK → Prop := fun vs zs H Q => ∃ (a f c' : Addr) (pm ctv : Value) (ss : List Str), vs = [.ref a] ∧ zs = [.ref f] ∧ SqL K H a (ss.map V.str) ∧ ss.length ≤ 1000 ∧ (∀ x ∈ ss, x.length ≤ 1000) ∧
  H f = some (LamO f c' q params body scope pm ctv) ∧ H c' = some (CodeO c' q) ∧ ∀ (ys : List Str) (p : Addr), ys.Perm ss → ys.Pairwise (fun x y => ¬ LtS y x) → H p = none → Q (.ref p) (upd H p (.lst (ys.map V.str)))
theorem eachStr : ∀ {ss : List Str} {its : List Value}, Vals (ss.map V.str) its → EachIs (fun (v : Value) (x : Str) => ∃ t, v = .str x t) its ss
  | [], its, r => by cases r; exact .nil
  | x :: ss, its, r => by
    cases r with
    | cons r1 r2 => exact .cons r1 (eachStr r2)
theorem valsStr {its : List Value} {ss : List Str} (h : EachIs (fun (v : Value) (x : Str) => ∃ t, v = .str x t) its ss) : Vals (ss.map V.str) its := by
  induction h with
  | nil => exact .nil
  | cons h _ ih => exact .cons h ih
theorem cr_sortLam {q : Str} {params : Arguments} {scope : Scope} {p1 p2 p3 p4 p5 : Pos} {k : Nat} (hr : Room 3 X.A) (sc : scLam scope) (hmg : X.mg "len" = none)
    (hbind : ∀ pm c' ctv v, bindArgs (PySem.W.kla_fn "<lambda>" q params (.Tuple [.Call (.Name "len" p1) [.Name "lot" p2] [] p3, .Name "lot" p4] k p5) scope [] pm c' ctv) ⟨[v], []⟩ = pure [(("lot" : Str), v)]) :
    CallRK X (.builtin "sorted") [Str.ofString "key"] (rSortLam X.K q params (.Tuple [.Call (.Name "len" p1) [.Name "lot" p2] [] p3, .Name "lot" p4] k p5) scope) := by
  intro pins s σ H vs zs us ws Q I r rz h
  obtain ⟨a, f, c', pm, ctv, ss, rfl, rfl, hs, hz, hx, hf, hc, h⟩ := h
  obtain rfl := Vals.ref1 r
  obtain ⟨w1, rfl, e1⟩ := vals1 rz
  obtain rfl : w1 = Value.ref f := e1
  obtain ⟨its, rv, hl, hzl⟩ := I.list hs
  obtain ⟨mb, hb1, hb2⟩ := I.mod.blt
  have e := eachStr rv
  refine sorted_key_data (k := kkS) (b := false) (kw := [(Str.ofString "key", .ref f)]) hl.isList e ?_ ?_ (by rw [sizeLine_eq]; omega) (fun x _ => ?_) (PyProof.Rows.ksk_s1 _ _) (fun _ => PyProof.Rows.ksk_l1 _ _) (fun x => PyProof.Rows.ksk_t1 f x) (fun v x hv hxm h tk kp => ?_) fun out c h' tk hk hfr hat hlen heach => ?_
  · intro d hd d' hd'
    obtain ⟨x, _, rfl⟩ := List.mem_map.mp hd
    obtain ⟨y, _, rfl⟩ := List.mem_map.mp hd'
    rfl
  · exact .inl fun d hd => by
      obtain ⟨x, _, rfl⟩ := List.mem_map.mp hd
      exact ⟨_, _, rfl⟩
  · have := hr.units
    show X.A.units + 2 + 1 < cLine
    omega
  · obtain ⟨t, rfl⟩ := hv
    obtain ⟨oc, vs, tq, hoc, hdc, hvc⟩ := (show ObjOk X.prog X.w H s.heap c' (CodeO c' q) from I.hok c' _ hc).1
    refine key_call (s := { s with heap := h, toks := tk }) (hr.in1.in1) sc (kp _ _ (show ObjOk X.prog X.w H s.heap f (LamO f c' q params _ scope pm ctv) from I.hok f _ hf).1) ⟨oc, vs, tq, kp _ _ hoc, hdc, hvc⟩ (fun v => hbind pm _ ctv v) (I.nolimit.keeps kp) ((I.mod.glob.keeps I.bk).keeps kp) hmg ((hb1.keeps I.bk).keeps kp) (hb2 "len" (by decide)) (by have := hx x hxm; rw [sizeLine_eq]; omega)
  · have hperm : (ss.mergeSort (dataLe false kkS)).Perm ss := List.mergeSort_perm _ _
    have tl := sortLe_total (listOrd itemOrd) false fun b => keyToks (kkS b)
    have hsrt : (ss.mergeSort (dataLe false kkS)).Pairwise (fun x y => ¬ LtS y x) := by
      have := List.pairwise_mergeSort (le := dataLe false kkS) (fun a b c => tl.trans a b c) (fun a b => Bool.or_eq_true_iff.mpr (tl.total a b)) ss
      refine this.imp fun {x y} h hlt => ?_
      have h : (!dataLt (kkS y) (kkS x)) = true := h
      rw [(dataLt_kk y x).mpr hlt] at h
      cases h
    have hlen2 : ((ss.mergeSort (dataLe false kkS)).map V.str).length ≤ sizeLine := by rw [List.length_map, hperm.length_eq, sizeLine_eq]; omega
    exact ⟨.ref _, upd H (s.heap.objs.size + 1) (.lst ((ss.mergeSort (dataLe false kkS)).map V.str)), I.laid (t' := tk) hk (Nat.le_succ _) ⟨hlen2, out, c, valsStr heach, hat⟩, rfl, h _ _ hperm hsrt (I.hok.fresh (Nat.le_succ _))⟩
end
section
open LamX
variable {K : PySem.W.Frag} {σ : L2.St} {H : Hp} {Q : VK} {t tk : TA} {vs zs : List V}
def kCK1 (r : List V → List V → Hp → VK → Prop) (tk : TA) (σ : L2.St) (Q : VK) : List V → Hp → Prop := fun vs H1 => tk σ H1 fun zs H2 => r vs zs H2 Q
def kCK2 (r : List V → List V → Hp → VK → Prop) (vs : List V) (Q : VK) : List V → Hp → Prop := fun zs H2 => r vs zs H2 Q
instance {r : List V → List V → Hp → VK → Prop} : Stp (tCKw r t tk σ H Q) (t σ H (kCK1 r tk σ Q)) := ⟨id⟩
instance {r : List V → List V → Hp → VK → Prop} : Stp (kCK1 r tk σ Q vs H) (tk σ H (kCK2 r vs Q)) := ⟨id⟩
instance {r : List V → List V → Hp → VK → Prop} : Stp (kCK2 r vs Q zs H) (r vs zs H Q) := ⟨id⟩
theorem w_lam {T : List (Addr × Str)} {q : Str} {params : Arguments} {body : Expr} {scope : Scope} (hT : Tabs T H) (k : ∀ f c' pm ctv H1, ExtN H H1 → Tabs T H1 → H f = none → H1 f = some (LamO f c' q params body scope pm ctv) → H1 c' = some (CodeO c' q) → Q (.ref f) H1) : tLamV T q params body scope σ H Q := ⟨hT, k⟩
theorem r_sortLam {q : Str} {params : Arguments} {body : Expr} {scope : Scope} {a f c' : Addr} {pm ctv : Value} {ss : List Str} (h : SqL K H a (ss.map V.str)) (hz : ss.length ≤ 1000) (hx : ∀ x ∈ ss, x.length ≤ 1000) (hf : H f = some (LamO f c' q params body scope pm ctv)) (hc : H c' = some (CodeO c' q))
    (k : ∀ (ys : List Str) (p : Addr) (H' : Hp), ys.Perm ss → ys.Pairwise (fun x y => ¬ LtS y x) → H p = none → Ex H H' → H' p = some (.lst (ys.map V.str)) → Q (.ref p) H') : rSortLam K q params body scope [.ref a] [.ref f] H Q :=
  ⟨a, f, c', pm, ctv, ss, rfl, rfl, h, hz, hx, hf, hc, fun ys p h1 h2 h3 => k ys p _ h1 h2 h3 (Ex.new h3) upd_same⟩
end

open LamX in
theorem cr_sortLamK {X : Cx} {K : PySem.W.Frag} {q : Str} {params : Arguments} {scope : Scope} {p1 p2 p3 p4 p5 : Pos} {k : Nat} (hr : Room 3 X.A) (sc : scLam scope) (hmg : X.mg "len" = none)
    (hbind : ∀ pm c' ctv v, bindArgs (PySem.W.kla_fn "<lambda>" q params (.Tuple [.Call (.Name "len" p1) [.Name "lot" p2] [] p3, .Name "lot" p4] k p5) scope [] pm c' ctv) ⟨[v], []⟩ = pure [(("lot" : Str), v)]) (hK : X.K = K := by rfl) :
    CallRK X (.builtin "sorted") [Str.ofString "key"] (rSortLam K q params (.Tuple [.Call (.Name "len" p1) [.Name "lot" p2] [] p3, .Name "lot" p4] k p5) scope) := hK ▸ cr_sortLam hr sc hmg hbind

open LamX in
theorem pe_sortLam {X : Cx} {K : PySem.W.Frag} {T : List (Addr × Str)} {c P : Addr} {params : Arguments} {scope : Scope} {p p1 p2 p3 p4 p5 lpos kpos pos : Pos} {k : Nat} {e : Expr} {te : TE} (hr : Room 3 X.A) (hg : Gl X "sorted") (hs : X.mg "sorted" = none) (hmg : X.mg "len" = none)
    (TB : TabB X.base X.mg c P) (hcode : X.env.code = .ref c) (hm : (P, X.env.qual ++ "<lambda>") ∈ T) (hu : ∀ p ∈ T, p.1 = P → p.2 = X.env.qual ++ "<lambda>") (he : PE X e te) (sc : scLam scope)
    (hbind : ∀ q pm c' ctv v, bindArgs (PySem.W.kla_fn "<lambda>" q params (.Tuple [.Call (.Name "len" p1) [.Name "lot" p2] [] p3, .Name "lot" p4] k p5) scope [] pm c' ctv) ⟨[v], []⟩ = pure [(("lot" : Str), v)])
    (hdef : defaultsOf params X.env = ([], [])) (hclo : ∀ cells, cloFrom cells scope.names [] = []) (hs1 : starEach [e] X.env = (false, eval e X.env) :: starEach [] X.env)
    (he2 : backTo pos (starEach [e] X.env) = (false, eval e X.env) :: backTo pos (starEach [] X.env)) (hpl : (backTo pos (starEach [e] X.env)).any (·.1) = false) (hK : X.K = K := by rfl) :
    PE X (.Call (.Name "sorted" p) [e] [⟨some "key", .Lambda params (.Tuple [.Call (.Name "len" p1) [.Name "lot" p2] [] p3, .Name "lot" p4] k p5) scope lpos, kpos⟩] pos)
      (tCKw (rSortLam K (X.env.qual ++ "<lambda>") params (.Tuple [.Call (.Name "len" p1) [.Name "lot" p2] [] p3, .Name "lot" p4] k p5) scope) (tCons te tNil) (tCons (tLamV T (X.env.qual ++ "<lambda>") params (.Tuple [.Call (.Name "len" p1) [.Name "lot" p2] [] p3, .Name "lot" p4] k p5) scope) tNil)) :=
  pe_callBK (cr_sortLamK hr sc hmg (hbind _) hK) hg hs (by decide +kernel) (pa_cons he pa_nil hs1) (pk_cons (pe_lamV TB hcode hm hu hdef (fun y hy => (sc.2.2.2.1 y hy).2) hclo) pk_nil) (he := he2) (hpl := hpl)

end QP

set_option Elab.async false
set_option linter.all false
set_option maxRecDepth 100000
namespace QP
open PySem PySem.Spec PyProof.Rows L2
open QM
abbrev FnP (K : PySem.W.Frag) (x : Str) (st : Stmt) (f : Addr) (fd : FuncData) : Prop := FunD K x x (defArgs st) (defBody st) (defScope st) [] [] f fd
abbrev FnM (K : PySem.W.Frag) (x q : Str) (st : Stmt) (f : Addr) (fd : FuncData) : Prop := FunD K x q (defArgs st) (defBody st) (defScope st) [] [] f fd
def spOr (a b : Sp) : Sp := fun vs H Q E => a vs H Q E ∨ b vs H Q E
theorem FnOk.or {P : Program} {w : World} {K : PySem.W.Frag} {mg : Str → Option Value} {base : Heap} {CX : CXT} {k : Nat} {f : Addr} {fd : FuncData} {ps : List Str} {a b : Sp} (F : FnOk P w K mg base CX k f fd ps a) (G : FnOk P w K mg base CX k f fd ps b) : FnOk P w K mg base CX k f fd ps (spOr a b) :=
  ⟨fun vs H Q E q => q.elim (F.len vs H Q E) (G.len vs H Q E), fun A outer s H args us vs Q E hr he hb hv hs => hs.elim (F.run A outer s H args us vs Q E hr he hb hv) (G.run A outer s H args us vs Q E hr he hb hv)⟩
abbrev sO (cs : List Nat) : Str := ⟨cs.toArray⟩
abbrev wO (cs w : List Nat) : Str := ⟨(w.map fun a => cs.getD a 0).toArray⟩
/-- a tuple of tuples of numbers -/
def TabT (H : Hp) (v : V) (T : List (List Nat)) : Prop := ∃ (a : Addr) (vs : List V), v = .ref a ∧ H a = some (.tup vs) ∧ vs.length = T.length ∧ ∀ (i : Nat) (r : List Nat), T[i]? = some r → ∃ u, vs[i]? = some u ∧ TupN H u r
theorem TabT.tp {H H' : Hp} {v : V} {T : List (List Nat)} (t : TabT H v T) (e : Tp H H') : TabT H' v T := by
  obtain ⟨a, vs, h1, h2, h3, h4⟩ := t
  exact ⟨a, vs, h1, e _ _ h2, h3, fun i r hr => let ⟨u, g1, g2⟩ := h4 i r hr; ⟨u, g1, g2.tp e⟩⟩
theorem TabT.ex {H H' : Hp} {v : V} {T : List (List Nat)} (t : TabT H v T) (e : Ex H H') : TabT H' v T := t.tp e.tp
/-- a machine that stands -/
def MAt (K : PySem.W.Frag) (H : Hp) (m : Addr) (cs : List Nat) (T : List (List Nat)) (A : List Nat) (kl kf : V) (lo mo : Addr) : Prop :=
  ∃ (C dx tb ac : Addr), H m = some (.ins C dx (MF (sO cs) tb ac kl kf lo mo)) ∧ MCls K C ∧ TabT H (.ref tb) T ∧ TupN H (.ref ac) A
theorem MAt.ex {K : PySem.W.Frag} {H H' : Hp} {m : Addr} {cs : List Nat} {T : List (List Nat)} {A : List Nat} {kl kf : V} {lo mo : Addr} (h : MAt K H m cs T A kl kf lo mo) (e : Ex H H') : MAt K H' m cs T A kl kf lo mo := by
  obtain ⟨C, dx, tb, ac, h1, h2, h3, h4⟩ := h
  exact ⟨C, dx, tb, ac, e _ _ h1, h2, h3.ex e, h4.ex e⟩
/-- the sizes that hold here; the letters as the table's columns -/
structure MD (cs : List Nat) (T : List (List Nat)) (A : List Nat) : Prop where
  asc : cs.Pairwise (· < ·)
  one : 1 ≤ cs.length
  four : cs.length ≤ 4
  t : TOk T cs.length
  six : T.length ≤ 6
  acc : A.length ≤ 6
theorem MD.nodup {cs T A} (h : MD cs T A) : cs.Nodup := h.asc.imp fun q => Nat.ne_of_lt q

def sp_is_integer : Sp := fun vs H Q _ => ∃ i : Int, vs = [.int i] ∧ ∀ H', Ex H H' → Q (.bl true) H'
def sp_is_string_of : Sp := fun vs H Q _ => ∃ (xs ss : List Nat), vs = [.str (sO xs), .str (sO ss)] ∧ (∀ c ∈ xs, c ∈ ss) ∧ ∀ H', Ex H H' → Q (.bl true) H'
def sp_is_ascendingS : Sp := fun vs H Q _ => ∃ xs : List Nat, vs = [.str (sO xs)] ∧ xs.Pairwise (· < ·) ∧ xs.length ≤ 1000 ∧ ∀ H', Ex H H' → Q (.bl true) H'
def sp_is_ascendingT : Sp := fun vs H Q _ => ∃ (x : V) (ns : List Nat), vs = [x] ∧ TupN H x ns ∧ ns.Pairwise (· < ·) ∧ ns.length ≤ 1000 ∧ ∀ H', Ex H H' → Q (.bl true) H'
abbrev sp_is_ascending : Sp := spOr sp_is_ascendingS sp_is_ascendingT
def sp_is_choice : Sp := fun vs H Q _ => ∃ (xs ss : List Nat), vs = [.str (sO xs), .str (sO ss)] ∧ (∀ c ∈ xs, c ∈ ss) ∧ xs.Pairwise (· < ·) ∧ xs.length ≤ 1000 ∧ ∀ H', Ex H H' → Q (.bl true) H'
def sp_are_states : Sp := fun vs H Q _ => ∃ (x : V) (ns : List Nat) (n : Nat), vs = [x, iv n] ∧ TupN H x ns ∧ (∀ q ∈ ns, q < n) ∧ ns.length ≤ 1000 ∧ ∀ H', Ex H H' → Q (.bl true) H'
def sp_is_table : Sp := fun vs H Q _ => ∃ (x : V) (T : List (List Nat)) (cs : List Nat), vs = [x, .str (sO cs)] ∧ TabT H x T ∧ TOk T cs.length ∧ T.length ≤ 6 ∧ cs.length ≤ 1000 ∧ ∀ H', Ex H H' → Q (.bl true) H'
/-- the parts kept in a new instance p of the class at C -/
def sp_keep (C : Addr) : Sp := fun vs H Q _ => ∃ (p dx tb ac : Addr) (l : Str), vs = [.ref p, .str l, .ref tb, .ref ac] ∧ H p = some (.ins C dx []) ∧
  ∀ lo mo H', H lo = none → H mo = none → lo ≠ mo → Mo p H H' → H' p = some (.ins C dx (MF l tb ac .non .non lo mo)) → H' lo = some (.dK []) → H' mo = some (.dK []) → Q .non H'
def sp_Machine_init (C : Addr) : Sp := fun vs H Q _ => ∃ (p dx tb ac : Addr) (cs : List Nat) (T : List (List Nat)) (A : List Nat), vs = [.ref p, .str (sO cs), .ref tb, .ref ac] ∧ H p = some (.ins C dx []) ∧ TabT H (.ref tb) T ∧ TupN H (.ref ac) A ∧
  MD cs T A ∧ (∀ c ∈ cs, 97 ≤ c ∧ c ≤ 122) ∧ A.Pairwise (· < ·) ∧ (∀ q ∈ A, q < T.length) ∧
  ∀ lo mo H', H lo = none → H mo = none → lo ≠ mo → Mo p H H' → H' p = some (.ins C dx (MF (sO cs) tb ac .non .non lo mo)) → H' lo = some (.dK []) → H' mo = some (.dK []) → Q .non H'
def sp_led (K : PySem.W.Frag) : Sp := fun vs H Q _ => ∃ (m : Addr) (cs : List Nat) (T : List (List Nat)) (A : List Nat) (kl kf : V) (lo mo : Addr) (q : Nat) (u : List Nat), vs = [.ref m, iv q, .str (wO cs u)] ∧ MD cs T A ∧ MAt K H m cs T A kl kf lo mo ∧ q < T.length ∧ Ok cs.length u ∧
  ∀ H', Ex H H' → Q (iv (QM.run T q u)) H'
def sp_after : Sp := fun vs H Q _ => ∃ (x y : V) (a b : List Nat), vs = [x, y] ∧ TupN H x a ∧ TupN H y b ∧ (∀ q ∈ a, q < b.length) ∧ a.length ≤ 1000 ∧
  ∀ v H', Ex H H' → TupN H' v (after a b) → Q v H'
end QP

set_option Elab.async false
set_option linter.all false
set_option maxRecDepth 100000
set_option maxHeartbeats 1000000
namespace QP
open PySem PySem.Spec PyProof.Rows L2
open QM
abbrev ik (n : Nat) : Key := Sum.inl (n : Int)
/-- a dict from numbers to numbers, told over the states -/
def dkN (ss : List Nat) (c : Nat → Nat) : List (Key × V) := ss.map fun q => (ik q, iv (c q))
def LAt (K : PySem.W.Frag) (H : Hp) (L : Addr) (cs : List Nat) (R : List (List Nat)) (A : List Nat) : Prop := MD cs R A ∧ ∃ kf lo mo, MAt K H L cs R A (.ref L) kf lo mo
theorem LAt.ex {K : PySem.W.Frag} {H H' : Hp} {L : Addr} {cs : List Nat} {R : List (List Nat)} {A : List Nat} (h : LAt K H L cs R A) (e : Ex H H') : LAt K H' L cs R A := by
  obtain ⟨a, kf, lo, mo, b⟩ := h
  exact ⟨a, kf, lo, mo, b.ex e⟩
def LPre (K : PySem.W.Frag) (H : Hp) (cs : List Nat) (T : List (List Nat)) (A : List Nat) (kl : V) (G : List (List Nat) → Prop) : Prop :=
  (kl = .non ∧ ∀ R, Least T A cs.length R → G R) ∨ ∃ L R A', kl = .ref L ∧ LAt K H L cs R A' ∧ G R
theorem LPre.ex {K : PySem.W.Frag} {H H' : Hp} {cs : List Nat} {T : List (List Nat)} {A : List Nat} {kl : V} {G : List (List Nat) → Prop} (h : LPre K H cs T A kl G) (e : Ex H H') : LPre K H' cs T A kl G := by
  rcases h with h | ⟨L, R, A', h1, h2, h3⟩
  · exact .inl h
  · exact .inr ⟨L, R, A', h1, h2.ex e, h3⟩
def sp_reached (K : PySem.W.Frag) : Sp := fun vs H Q _ => ∃ m cs T A kl kf lo mo, vs = [.ref m] ∧ MD cs T A ∧ MAt K H m cs T A kl kf lo mo ∧
  ∀ p ss H', Ex H H' → H' p = some (.lst (ss.map iv)) → Sts T cs.length ss → Q (.ref p) H'
def sp_numbered (kd : Bool) : Sp := fun vs H Q _ => ∃ (d : Addr) (ss : List Nat) (f : Nat → List Nat) (kvs : List (Key × V)), vs = [.ref d] ∧ ss.Nodup ∧ ss.length ≤ 500 ∧ H d = some (.dK kvs) ∧ kvs.length = ss.length ∧
  (∀ (i q : Nat), ss[i]? = some q → ∃ y, kvs[i]? = some (ik q, y) ∧ Ky kd H (f q) y) ∧
  ∀ p H', Ex H H' → H' p = some (.dK (dkN ss (num ss f))) → Q (.ref p) H'
def sp_alike_states (K : PySem.W.Frag) : Sp := fun vs H Q _ => ∃ m p cs T A kl kf lo mo ss, vs = [.ref m, .ref p] ∧ MD cs T A ∧ MAt K H m cs T A kl kf lo mo ∧ H p = some (.lst (ss.map iv)) ∧ Sts T cs.length ss ∧
  ∀ d c n H', Ex H H' → H' d = some (.dK (dkN ss c)) → Cls T A cs.length ss c n → Q (.ref d) H'
/-- a new least machine -/
def Fresh (K : PySem.W.Frag) (H H' : Hp) (L : Addr) (cs : List Nat) (R : List (List Nat)) (A : List Nat) : Prop := H L = none ∧ ∃ lo mo, H lo = none ∧ H mo = none ∧ lo ≠ mo ∧ MAt K H' L cs R A (.ref L) .non lo mo ∧ H' lo = some (.dK []) ∧ H' mo = some (.dK [])
def sp_least (K : PySem.W.Frag) : Sp := fun vs H Q _ => ∃ m cs T A kl kf lo mo G, vs = [.ref m] ∧ MD cs T A ∧ MAt K H m cs T A kl kf lo mo ∧ LPre K H cs T A kl G ∧
  ∀ L R A' H', G R → Mo m H H' → MAt K H' m cs T A (.ref L) kf lo mo → LAt K H' L cs R A' → (kl = .non → Fresh K H H' L cs R A') → (kl ≠ .non → Ex H H') → Q (.ref L) H'
def sp_deed_of (K : PySem.W.Frag) : Sp := fun vs H Q _ => ∃ m cs T A kf lo mo L R A' u, vs = [.ref m, .str (wO cs u)] ∧ MD cs T A ∧ MAt K H m cs T A (.ref L) kf lo mo ∧ LAt K H L cs R A' ∧ Ok cs.length u ∧
  ∀ v H', Ex H H' → TupN H' v (deed R u) → Q v H'
/-- a field's words, deeds, numbers -/
def FW (K : PySem.W.Frag) (H : Hp) (F : Addr) (cs : List Nat) (R : List (List Nat)) (ws : List (List Nat)) (wo de nu bl : Addr) : Prop :=
  ∃ (dx : Addr) (ds : List V), H F = some (.ins (aF K) dx (FF (sO cs) wo de nu bl)) ∧ wo ≠ de ∧
    H wo = some (.lst (ws.map fun w => V.str (wO cs w))) ∧ H de = some (.lst ds) ∧ ds.length = ws.length ∧ (∀ (i : Nat) (w : List Nat), ws[i]? = some w → ∃ v, ds[i]? = some v ∧ TupN H v (deed R w)) ∧
    H nu = some (.dT ((ws.map (deed R)).zipIdx.map fun p => (p.1.map ik, iv p.2)))
theorem FW.ex {K : PySem.W.Frag} {H H' : Hp} {F wo de nu bl : Addr} {cs : List Nat} {R ws : List (List Nat)} (h : FW K H F cs R ws wo de nu bl) (e : Ex H H') : FW K H' F cs R ws wo de nu bl := by
  obtain ⟨dx, ds, h6, hne, h8, h9, h10, h11, h12⟩ := h
  refine ⟨dx, ds, e _ _ h6, hne, e _ _ h8, e _ _ h9, h10, fun i w hi => ?_, e _ _ h12⟩
  obtain ⟨v, a, b⟩ := h11 i w hi
  exact ⟨v, a, b.ex e⟩
/-- the bounds that hold here -/
structure FB (cs : List Nat) (R : List (List Nat)) (ws : List (List Nat)) : Prop where
  f : FOk R cs.length ws
  ten : ws.length ≤ 10
  t : TOk R cs.length
  four : cs.length ≤ 4
  nd : cs.Nodup
  six : R.length ≤ 6
/-- a field that stands -/
def FAt (K : PySem.W.Frag) (H : Hp) (F : Addr) (cs : List Nat) (R : List (List Nat)) (ws : List (List Nat)) : Prop :=
  FB cs R ws ∧ ∃ (wo de nu bl : Addr) (rs : List V), FW K H F cs R ws wo de nu bl ∧
    H bl = some (.lst rs) ∧ rs.length = ws.length ∧ ∀ (i : Nat) (w : List Nat), ws[i]? = some w → ∃ b, rs[i]? = some (V.ref b) ∧ H b = some (.lst ((List.range cs.length).map fun a => iv (idx R ws (w ++ [a]))))
theorem FAt.ex {K : PySem.W.Frag} {H H' : Hp} {F : Addr} {cs : List Nat} {R ws : List (List Nat)} (h : FAt K H F cs R ws) (e : Ex H H') : FAt K H' F cs R ws := by
  obtain ⟨h1, wo, de, nu, bl, rs, h2, h13, h14, h15⟩ := h
  refine ⟨h1, wo, de, nu, bl, rs, h2.ex e, e _ _ h13, h14, fun i w hi => ?_⟩
  obtain ⟨b, a, c⟩ := h15 i w hi
  exact ⟨b, a, e _ _ c⟩
def sp_met (K : PySem.W.Frag) : Sp := fun vs H Q _ => ∃ F cs R ws wo de nu bl v u, vs = [.ref F, v, .str (wO cs u)] ∧ FW K H F cs R ws wo de nu bl ∧ (ws.map (deed R)).Nodup ∧ ws.length ≤ 500 ∧ TupN H v (deed R u) ∧
  (deed R u ∈ ws.map (deed R) → ∀ H', Ex H H' → Q (iv (idx R ws u)) H') ∧
  (deed R u ∉ ws.map (deed R) → ∀ H', (∀ a o, a ≠ wo → a ≠ de → a ≠ nu → H a = some o → H' a = some o) → FW K H' F cs R (ws ++ [u]) wo de nu bl → Q (iv ws.length) H')
def sp_times (K : PySem.W.Frag) : Sp := fun vs H Q _ => ∃ F cs R ws u v, vs = [.ref F, iv (idx R ws u), iv (idx R ws v)] ∧ FAt K H F cs R ws ∧ Ok cs.length u ∧ Ok cs.length v ∧ ∀ H', Ex H H' → Q (iv (idx R ws (u ++ v))) H'
def sp_is_steady (K : PySem.W.Frag) : Sp := fun vs H Q _ => ∃ F cs R ws u, vs = [.ref F, iv (idx R ws u)] ∧ FAt K H F cs R ws ∧ Ok cs.length u ∧ ∀ H', Ex H H' → Q (.bl (decide (idx R ws (u ++ u) = idx R ws u))) H'
def sp_index_of (K : PySem.W.Frag) : Sp := fun vs H Q _ => ∃ F cs R ws u, vs = [.ref F, .str (wO cs u)] ∧ FAt K H F cs R ws ∧ Ok cs.length u ∧ ∀ H', Ex H H' → Q (iv (idx R ws u)) H'
def sp_steady_of (K : PySem.W.Frag) : Sp := fun vs H Q _ => ∃ F cs R ws u, vs = [.ref F, iv (idx R ws u)] ∧ FAt K H F cs R ws ∧ Ok cs.length u ∧ ∀ n H', 1 ≤ n → Ex H H' → Q (iv (idx R ws (QA.rep u n))) H'
/-- Field(m) -/
def sp_Field_init (K : PySem.W.Frag) : Sp := fun vs H Q _ => ∃ p dx m cs T A kl kf lo mo G, vs = [.ref p, .ref m] ∧ H p = some (.ins (aF K) dx []) ∧ MD cs T A ∧ MAt K H m cs T A kl kf lo mo ∧ LPre K H cs T A kl G ∧ (∀ R, G R → Few R cs.length 10) ∧
  ∀ L R A' ws H', G R → (∀ a o, a ≠ m → a ≠ p → H a = some o → H' a = some o) → (kl ≠ .non → ∀ a o, a ≠ p → H a = some o → H' a = some o) → MAt K H' m cs T A (.ref L) kf lo mo → LAt K H' L cs R A' → FAt K H' p cs R ws → Q .non H'
def FPre (K : PySem.W.Frag) (H : Hp) (cs : List Nat) (kl kf : V) (G : List (List Nat) → Prop) : Prop := kf = .non ∨ ∃ F L R A' ws, kf = .ref F ∧ kl = .ref L ∧ LAt K H L cs R A' ∧ FAt K H F cs R ws ∧ G R
def sp_field_of (K : PySem.W.Frag) : Sp := fun vs H Q _ => ∃ m cs T A kl kf lo mo G, vs = [.ref m] ∧ MD cs T A ∧ MAt K H m cs T A kl kf lo mo ∧ LPre K H cs T A kl G ∧ FPre K H cs kl kf G ∧ (∀ R, G R → Few R cs.length 10) ∧
  ∀ F L R A' ws H', G R → Mo m H H' → MAt K H' m cs T A (.ref L) (.ref F) lo mo → LAt K H' L cs R A' → FAt K H' F cs R ws → (kl = .ref L ∨ kl = .non) → (kf ≠ .non → Ex H H') → Q (.ref F) H'
/-! ### in, ==, over numbers and texts -/
section
variable {K : PySem.W.Frag} {H : Hp} {Q : VK} {a b : Addr} {t : Bool}
theorem inV_iv {ns : List Nat} {q : Nat} : inV (iv q) (ns.map iv) = decide (q ∈ ns) := by
  unfold inV
  rw [List.any_map, Bool.eq_iff_iff, List.any_eq_true, decide_eq_true_iff]
  constructor
  · rintro ⟨x, hx, e⟩
    have e : (iv x == iv q) = true ∨ eqV (iv x) (iv q) = true := .inr e
    have : (x : Int) = q := by
      rcases e with e | e
      · simpa using e
      · simpa [eqV] using e
    have : x = q := by exact_mod_cast this
    exact this ▸ hx
  · intro h
    exact ⟨q, h, by simp [eqV]⟩
theorem flat_ivs (ns : List Nat) : (ns.map iv).all flatV = true := by
  rw [List.all_map, List.all_eq_true]
  intro x _
  rfl
theorem r_inN {ns : List Nat} {q : Nat} {neg : Bool} (h : SqK K t H a (ns.map iv)) (k : Q (.bl (if neg then !decide (q ∈ ns) else decide (q ∈ ns))) H) : rIn K neg (iv q) (.ref a) H Q :=
  ⟨a, _, rfl, h.sq, rfl, flat_ivs ns, by rw [inV_iv]; exact k⟩
theorem inV_str {ss : List Str} {q : Str} : inV (.str q) (ss.map V.str) = decide (q ∈ ss) := by
  unfold inV
  rw [List.any_map, Bool.eq_iff_iff, List.any_eq_true, decide_eq_true_iff]
  constructor
  · rintro ⟨x, hx, e⟩
    have : x = q := by simpa [eqV] using e
    exact this ▸ hx
  · intro h
    exact ⟨q, h, by simp [eqV]⟩
theorem r_inSt {ss : List Str} {q : Str} {neg : Bool} (h : SqK K t H a (ss.map V.str)) (k : Q (.bl (if neg then !decide (q ∈ ss) else decide (q ∈ ss))) H) : rIn K neg (.str q) (.ref a) H Q :=
  ⟨a, _, rfl, h.sq, rfl, by rw [List.all_map, List.all_eq_true]; intro x _; rfl, by rw [inV_str]; exact k⟩
def pI (n : Nat) : PyData := PyData.int (n : Int)
theorem dp_ivs : ∀ ns : List Nat, DpAll K H (ns.map iv) (ns.map pI)
  | [] => .nil
  | n :: ns => .cons (.int _) (dp_ivs ns)
theorem eqv_ivs : ∀ xs ys : List Nat, PyData.eqvAll (xs.map pI) (ys.map pI) = decide (xs = ys)
  | [], [] => rfl
  | [], _ :: _ => by simp [PyData.eqvAll]
  | _ :: _, [] => by simp [PyData.eqvAll]
  | x :: xs, y :: ys => by
    rw [List.map_cons, List.map_cons, PyData.eqvAll, eqv_ivs xs ys, Bool.eq_iff_iff]
    show (((x : Int) == (y : Int)) && decide (xs = ys)) = true ↔ _
    simp
    intro _
    exact Int.ofNat_inj
theorem shaped_ivs (xs : List Nat) : SeqAt.shaped (PyData.tuple (xs.map pI)) = true := by
  have h1 : ∀ xs : List Nat, PyData.canLayAll0 (xs.map pI) = true ∧ PyData.depthAll (xs.map pI) = 0 := by
    intro xs
    induction xs with
    | nil => exact ⟨rfl, rfl⟩
    | cons a t ih =>
      refine ⟨?_, ?_⟩
      · show (true && PyData.canLayAll0 (t.map pI)) = true
        rw [ih.1]
        rfl
      · show max 0 (PyData.depthAll (t.map pI)) = 0
        rw [ih.2]
        rfl
  unfold SeqAt.shaped
  have c : PyData.canLay0 (.tuple (xs.map pI)) = PyData.canLayAll0 (xs.map pI) := by rw [PyData.canLay0]
  have d : PyData.depth (.tuple (xs.map pI)) = PyData.depthAll (xs.map pI) + 1 := by rw [PyData.depth]
  rw [c, d, (h1 xs).1, (h1 xs).2]
  rfl
theorem r_eqT {x y : V} {xs ys : List Nat} (hx : TupN H x xs) (hy : TupN H y ys) (k : Q (.bl (decide (xs = ys))) H) : rEqD K x y H Q := by
  obtain ⟨a, rfl, ha⟩ := hx
  obtain ⟨b, rfl, hb⟩ := hy
  refine ⟨_, _, .tup (SqT.of ha) (dp_ivs xs), .tup (SqT.of hb) (dp_ivs ys), shaped_ivs xs, shaped_ivs ys, ?_⟩
  rw [show PyData.eqv (.tuple (xs.map pI)) (.tuple (ys.map pI)) = decide (xs = ys) from (by rw [PyData.eqv]; exact eqv_ivs xs ys)]
  exact k
theorem r_neT {x y : V} {xs ys : List Nat} (hx : TupN H x xs) (hy : TupN H y ys) (k : Q (.bl (!decide (xs = ys))) H) : rNeD K x y H Q := by
  obtain ⟨a, rfl, ha⟩ := hx
  obtain ⟨b, rfl, hb⟩ := hy
  refine ⟨_, _, .tup (SqT.of ha) (dp_ivs xs), .tup (SqT.of hb) (dp_ivs ys), shaped_ivs xs, shaped_ivs ys, ?_⟩
  rw [show PyData.eqv (.tuple (xs.map pI)) (.tuple (ys.map pI)) = decide (xs = ys) from (by rw [PyData.eqv]; exact eqv_ivs xs ys)]
  exact k
/-- d[q] over the states -/
theorem dkN_get {ss : List Nat} {c : Nat → Nat} {q : Nat} (h : q ∈ ss) : valV (dkN ss c) (Sum.inl (q : Int)) = some (iv (c q)) := by
  unfold dkN
  induction ss with
  | nil => cases h
  | cons a t ih =>
    rw [List.map_cons]
    by_cases e : a = q
    · subst e
      rw [valV_pos rfl]
    · rw [valV_neg (fun z => e (by injection z with z; exact Int.ofNat.inj z)), ih ((List.mem_cons.mp h).elim (fun z => absurd z.symm e) id)]
end
/-! ### tuple(range(n)), list(range(n)) -/
section
variable {K : PySem.W.Frag} {σ : L2.St} {H : Hp} {Q : VK} {ta : TE}
def kTR (Q : VK) : VK := fun x H1 => ∃ n, x = .int n ∧ RgOk 0 n ∧ ∀ q, H1 q = none → Q (.ref q) (upd H1 q (.tup (rgV 0 n)))
def kLR (Q : VK) : VK := fun x H1 => ∃ n, x = .int n ∧ RgOk 0 n ∧ ∀ q, H1 q = none → Q (.ref q) (upd H1 q (.lst (rgV 0 n)))
instance : Stp (tTupRg (tRg1 ta) σ H Q) (ta σ H (kTR Q)) := ⟨id⟩
instance : Stp (tLstRg (tRg1 ta) σ H Q) (ta σ H (kLR Q)) := ⟨id⟩
theorem rgV0 (n : Nat) : rgV 0 (n : Int) = (List.range n).map iv := by
  unfold rgV
  rw [Int.sub_zero, Int.toNat_natCast]
  refine List.map_congr_left fun i _ => ?_
  rw [Int.zero_add]
theorem k_tr {n : Nat} (c : n ≤ 1000) (k : ∀ p H', H p = none → Ex H H' → H' p = some (.tup ((List.range n).map iv)) → Q (.ref p) H') : kTR Q (iv n) H :=
  ⟨n, rfl, RgOk.of_le (by omega) (by omega) (by omega) (by omega), fun q hq => k q _ hq (Ex.new hq) (by rw [upd_same, rgV0])⟩
theorem k_lr {n : Nat} (c : n ≤ 1000) (k : ∀ p H', H p = none → Ex H H' → H' p = some (.lst ((List.range n).map iv)) → Q (.ref p) H') : kLR Q (iv n) H :=
  ⟨n, rfl, RgOk.of_le (by omega) (by omega) (by omega) (by omega), fun q hq => k q _ hq (Ex.new hq) (by rw [upd_same, rgV0])⟩
end
theorem MAt.mo {K : PySem.W.Frag} {H H' : Hp} {m : Addr} {cs : List Nat} {T : List (List Nat)} {A : List Nat} {kl kf : V} {lo mo : Addr} (h : MAt K H m cs T A kl kf lo mo) (e : ∀ o, H m = some o → H' m = some o) (t : Tp H H') : MAt K H' m cs T A kl kf lo mo := by
  obtain ⟨C, dx, tb, ac, h1, h2, h3, h4⟩ := h
  exact ⟨C, dx, tb, ac, e _ h1, h2, h3.tp t, h4.tp t⟩
theorem LAt.mo {K : PySem.W.Frag} {H H' : Hp} {L : Addr} {cs : List Nat} {R : List (List Nat)} {A : List Nat} (h : LAt K H L cs R A) (e : ∀ o, H L = some o → H' L = some o) (t : Tp H H') : LAt K H' L cs R A := by
  obtain ⟨a, kf, lo, mo, b⟩ := h
  exact ⟨a, kf, lo, mo, b.mo e t⟩
theorem MAt.ins {K : PySem.W.Frag} {H : Hp} {m : Addr} {cs : List Nat} {T : List (List Nat)} {A : List Nat} {kl kf : V} {lo mo : Addr} (h : MAt K H m cs T A kl kf lo mo) : ∃ C dx tb ac, H m = some (.ins C dx (MF (sO cs) tb ac kl kf lo mo)) := by
  obtain ⟨C, dx, tb, ac, h1, _⟩ := h
  exact ⟨C, dx, tb, ac, h1⟩
/-- a text and one sign more -/
theorem wO_snoc {cs : List Nat} {w : List Nat} {a : Nat} : (wO cs w).cps ++ (⟨#[cs.getD a 0]⟩ : Str).cps = (wO cs (w ++ [a])).cps := by simp
theorem sO_app (a b : List Nat) : (sO a ++ sO b : Str) = sO (a ++ b) := by
  show Str.mk ((sO a).cps ++ (sO b).cps) = _
  simp
theorem wO_app (cs u v : List Nat) : (wO cs u ++ wO cs v : Str) = wO cs (u ++ v) := by
  exact (sO_app _ _).trans (by rw [← List.map_append])
theorem FAt.moI {K : PySem.W.Frag} {H H' : Hp} {F x C dx : Addr} {fs : List (Str × V)} {cs : List Nat} {R ws : List (List Nat)} (h : FAt K H F cs R ws) (hx : H x = some (.ins C dx fs)) (ne : F ≠ x) (m : Mo x H H') : FAt K H' F cs R ws := by
  have t : Tp H H' := m.tp fun xs q => by rw [hx] at q; cases q
  have ml : ∀ a l, H a = some (.lst l) → H' a = some (.lst l) := fun a l h => m _ _ (fun e => by rw [e, hx] at h; cases h) h
  obtain ⟨h1, wo, de, nu, bl, rs, ⟨dx', ds, h6, hne, h8, h9, h10, h11, h12⟩, h13, h14, h15⟩ := h
  refine ⟨h1, wo, de, nu, bl, rs, ⟨dx', ds, m _ _ ne h6, hne, ml _ _ h8, ml _ _ h9, h10, fun i w hi => ?_, m _ _ (fun e => by rw [e, hx] at h12; cases h12) h12⟩, ml _ _ h13, h14, fun i w hi => ?_⟩
  · obtain ⟨v, a, b⟩ := h11 i w hi
    exact ⟨v, a, b.tp t⟩
  · obtain ⟨b, a, c⟩ := h15 i w hi
    exact ⟨b, a, ml _ _ c⟩
theorem FAt.moK {K : PySem.W.Frag} {H H' : Hp} {F x : Addr} {kvs : List (Key × V)} {cs : List Nat} {R ws : List (List Nat)} (h : FAt K H F cs R ws) (hx : H x = some (.dK kvs)) (m : Mo x H H') : FAt K H' F cs R ws := by
  have t : Tp H H' := m.tp fun xs q => by rw [hx] at q; cases q
  have ml : ∀ a l, H a = some (.lst l) → H' a = some (.lst l) := fun a l h => m _ _ (fun e => by rw [e, hx] at h; cases h) h
  obtain ⟨h1, wo, de, nu, bl, rs, ⟨dx', ds, h6, hne, h8, h9, h10, h11, h12⟩, h13, h14, h15⟩ := h
  refine ⟨h1, wo, de, nu, bl, rs, ⟨dx', ds, m _ _ (fun e => by rw [e, hx] at h6; cases h6) h6, hne, ml _ _ h8, ml _ _ h9, h10, fun i w hi => ?_, m _ _ (fun e => by rw [e, hx] at h12; cases h12) h12⟩, ml _ _ h13, h14, fun i w hi => ?_⟩
  · obtain ⟨v, a, b⟩ := h11 i w hi
    exact ⟨v, a, b.tp t⟩
  · obtain ⟨b, a, c⟩ := h15 i w hi
    exact ⟨b, a, ml _ _ c⟩
theorem MF_inj {l : Str} {tb ac lo mo tb' ac' lo' mo' : Addr} {kl kf kl' kf' : V} (e : MF l tb ac kl kf lo mo = MF l tb' ac' kl' kf' lo' mo') : tb = tb' ∧ ac = ac' ∧ kl = kl' ∧ kf = kf' ∧ lo = lo' ∧ mo = mo' := by
  unfold MF at e
  simp at e
  exact e
theorem valV_bl {ss : List Nat} {q : Nat} {z : V} : valV (ss.map fun q => (ik q, z)) (ik q) = if q ∈ ss then some z else none := by
  induction ss with
  | nil => rfl
  | cons a t ih =>
    rw [List.map_cons]
    by_cases h : a = q
    · subst h
      rw [valV_pos rfl, if_pos (List.mem_cons_self ..)]
    · rw [valV_neg (fun e => h (by injection e with e; exact Int.ofNat.inj e)), ih]
      by_cases hm : q ∈ t
      · rw [if_pos hm, if_pos (List.mem_cons_of_mem _ hm)]
      · rw [if_neg hm, if_neg fun m => (List.mem_cons.mp m).elim (fun e => h e.symm) hm]
end QP

set_option Elab.async false
set_option linter.all false
set_option maxRecDepth 100000
set_option maxHeartbeats 1000000
namespace QP
open PySem PySem.Spec PyProof.Rows L2
open QM
/-- what is read of a lot (or of one half made) -/
structure LF0 (K : PySem.W.Frag) (H : Hp) (l dx : Addr) (fs : List (Str × V)) (F pl : Addr) (cs B : List Nat) : Prop where
  at_ : H l = some (.ins (aL K) dx fs)
  field : fs.lookup ("field" : Str) = some (V.ref F)
  places : fs.lookup ("places" : Str) = some (V.ref pl)
  hpl : H pl = some (.lst (B.map iv))
theorem LF0.ex {K : PySem.W.Frag} {H H' : Hp} {l dx : Addr} {fs : List (Str × V)} {F pl : Addr} {cs B : List Nat} (h : LF0 K H l dx fs F pl cs B) (e : Ex H H') : LF0 K H' l dx fs F pl cs B := ⟨e _ _ h.at_, h.field, h.places, e _ _ h.hpl⟩
def sp_all_made (K : PySem.W.Frag) : Sp := fun vs H Q _ => ∃ l dx fs F pl cs R ws B, vs = [.ref l] ∧ LF0 K H l dx fs F pl cs B ∧ FAt K H F cs R ws ∧ (∀ b ∈ B, b < cs.length) ∧
  ∀ p (ms : List Nat) H', Ex H H' → H' p = some (.lst (ms.map iv)) → ms.Nodup → ms.length ≤ 10 → (∀ i, i ∈ ms ↔ ∃ w, QA.On B w ∧ idx R ws w = i) → Q (.ref p) H'
def flK (cs : List Nat) (fl : List (Nat × List Nat)) : List (Key × V) := fl.map fun p => (ik p.1, .str (wO cs p.2))
def sp_walk (K : PySem.W.Frag) : Sp := fun vs H Q _ => ∃ l dx fs F pl fw cs R ws B, vs = [.ref l] ∧ LF0 K H l dx fs F pl cs B ∧ fs.lookup ("lot" : Str) = some (V.str (wO cs B)) ∧ fs.lookup ("full_words" : Str) = some (V.ref fw) ∧ H fw = some (.dK []) ∧ FAt K H F cs R ws ∧ (∀ b ∈ B, b < cs.length) ∧ B.Pairwise (· < ·) ∧
  ∀ (fl : List (Nat × List Nat)) H', Mo fw H H' → H' fw = some (.dK (flK cs fl)) → (fl.map (·.1)).Nodup → (∀ p ∈ fl, QA.Full B p.2 ∧ idx R ws p.2 = p.1 ∧ p.2.length ≤ 1000) → (∀ w, QA.Full B w → idx R ws w ∈ fl.map (·.1)) → Q .non H'
def sp_least_ideal (K : PySem.W.Frag) : Sp := fun vs H Q _ => ∃ l dx fs F pl ma cs R ws B, ∃ ms : List Nat, vs = [.ref l] ∧ LF0 K H l dx fs F pl cs B ∧ fs.lookup ("made" : Str) = some (V.ref ma) ∧ H ma = some (.lst (ms.map iv)) ∧ ms.length ≤ 10 ∧ (∀ i, i ∈ ms ↔ ∃ w, QA.On B w ∧ idx R ws w = i) ∧ FAt K H F cs R ws ∧ (∀ b ∈ B, b < cs.length) ∧
  ∀ p (cl : List Nat) H', Ex H H' → H' p = some (.lst (cl.map iv)) → cl.length ≤ 10 → (∀ i, i ∈ cl ↔ ∃ w, QA.On B w ∧ idx R ws w = i ∧ QA.Core (act R cs.length) B (act R cs.length w)) → Q (.ref p) H'
/-- a lot that stands -/
def LoAt (K : PySem.W.Frag) (H : Hp) (l F : Addr) (cs : List Nat) (R ws : List (List Nat)) (B : List Nat) : Prop :=
  ∃ (dx pl fw ma co : Addr) (ms : List Nat) (fl : List (Nat × List Nat)) (cl : List Nat), H l = some (.ins (aL K) dx (LF (wO cs B) F pl fw ma co)) ∧ FAt K H F cs R ws ∧ LotOk R cs.length ws B ms fl cl ∧
    H fw = some (.dK (flK cs fl)) ∧ H ma = some (.lst (ms.map iv)) ∧ H co = some (.lst (cl.map iv))
theorem LoAt.ex {K : PySem.W.Frag} {H H' : Hp} {l F : Addr} {cs : List Nat} {R ws : List (List Nat)} {B : List Nat} (h : LoAt K H l F cs R ws B) (e : Ex H H') : LoAt K H' l F cs R ws B := by
  obtain ⟨dx, pl, fw, ma, co, ms, fl, cl, h1, h2, h3, h4, h5, h6⟩ := h
  exact ⟨dx, pl, fw, ma, co, ms, fl, cl, e _ _ h1, h2.ex e, h3, e _ _ h4, e _ _ h5, e _ _ h6⟩
def sp_Lot_init (K : PySem.W.Frag) : Sp := fun vs H Q _ => ∃ p dx F cs R ws B, vs = [.ref p, .ref F, .str (wO cs B)] ∧ H p = some (.ins (aL K) dx []) ∧ FAt K H F cs R ws ∧ (∀ b ∈ B, b < cs.length) ∧ B.Pairwise (· < ·) ∧
  ∀ H', Mo p H H' → LoAt K H' p F cs R ws B → (∀ dx pl fw ma co, H' p = some (.ins (aL K) dx (LF (wO cs B) F pl fw ma co)) → H fw = none) → Q .non H'
theorem LF_inj {l : Str} {fi pl fw ma co fi' pl' fw' ma' co' : Addr} (e : LF l fi pl fw ma co = LF l fi' pl' fw' ma' co') : fw = fw' := by
  unfold LF at e
  simp at e
  exact e.2.2.1
theorem putK_bl {gs : List Nat} {q : Nat} : putK (gs.map fun q => (ik q, V.bl true)) (ik q) (.bl true) = (if q ∈ gs then gs else gs ++ [q]).map fun q => (ik q, V.bl true) := by
  by_cases h : q ∈ gs
  · rw [if_pos h]
    unfold putK
    have h1 : ((gs.map fun q => (ik q, V.bl true)).any fun kv => decide (kv.1 = ik q)) = true := by
      rw [List.any_eq_true]
      exact ⟨(ik q, V.bl true), List.mem_map.mpr ⟨q, h, rfl⟩, decide_eq_true rfl⟩
    rw [if_pos h1, List.map_map]
    refine List.map_congr_left fun x _ => ?_
    show (if ik x = ik q then (ik x, V.bl true) else (ik x, V.bl true)) = (ik x, V.bl true)
    split <;> rfl
  · rw [if_neg h, putK_new, List.map_append]
    · rfl
    · intro hmem
      obtain ⟨p', hp', e'⟩ := List.mem_map.mp hmem
      obtain ⟨q', hq', rfl⟩ := List.mem_map.mp hp'
      have : q' = q := by injection e' with e'; exact Int.ofNat.inj e'
      exact h (this ▸ hq')
/-! ### letters seen -/
def seen (B u : List Nat) : List Nat := B.filter fun a => decide (a ∈ u)
theorem getD_inj {cs : List Nat} (nd : cs.Nodup) {a b : Nat} (ha : a < cs.length) (hb : b < cs.length) (e : cs.getD a 0 = cs.getD b 0) : a = b := by
  rw [List.getD_eq_getElem?_getD, List.getD_eq_getElem?_getD, List.getElem?_eq_getElem ha, List.getElem?_eq_getElem hb] at e
  exact (List.getElem_inj (h₀ := ha) (h₁ := hb) nd).mp e
theorem wO_inj {cs : List Nat} (nd : cs.Nodup) : ∀ {u v : List Nat}, QM.Ok cs.length u → QM.Ok cs.length v → wO cs u = wO cs v → u = v := by
  have h : ∀ {u v : List Nat}, QM.Ok cs.length u → QM.Ok cs.length v → (u.map fun a => cs.getD a 0) = (v.map fun a => cs.getD a 0) → u = v := by
    intro u
    induction u with
    | nil => intro v _ _ e; cases v with
      | nil => rfl
      | cons b v => cases e
    | cons a u ih =>
      intro v hu hv e
      cases v with
      | nil => cases e
      | cons b v =>
        rw [List.map_cons, List.map_cons] at e
        injection e with e1 e2
        rw [getD_inj nd (hu a (List.mem_cons_self ..)) (hv b (List.mem_cons_self ..)) e1, ih (fun c hc => hu c (List.mem_cons_of_mem _ hc)) (fun c hc => hv c (List.mem_cons_of_mem _ hc)) e2]
  intro u v hu hv e
  refine h hu hv ?_
  have : (wO cs u).cps.toList = (wO cs v).cps.toList := by rw [e]
  simpa using this
theorem wO_mem {cs : List Nat} (nd : cs.Nodup) {u : List Nat} {a : Nat} (hu : QM.Ok cs.length u) (ha : a < cs.length) : cs.getD a 0 ∈ (wO cs u).cps.toList ↔ a ∈ u := by
  have : (wO cs u).cps.toList = u.map fun a => cs.getD a 0 := by simp
  rw [this, List.mem_map]
  exact ⟨fun ⟨b, hb, e⟩ => getD_inj nd (hu b hb) ha e ▸ hb, fun h => ⟨a, h, rfl⟩⟩
theorem seen_snoc {B u : List Nat} {b : Nat} : seen B (u ++ [b]) = B.filter fun a => decide (a ∈ seen B u) || decide (a = b) := by
  unfold seen
  refine List.filter_congr fun a ha => ?_
  rw [Bool.eq_iff_iff]
  simp [ha]
theorem seen_full {B u : List Nat} : seen B u = B ↔ ∀ a ∈ B, a ∈ u := by
  unfold seen
  rw [List.filter_eq_self]
  simp
/-- a filter by places -/
theorem filt_places {α : Type} (B : List Nat) (q : Nat → Bool) (g : Nat → α) : ((List.range B.length).filter fun j => q (B.getD j 0)).map (fun j => g (B.getD j 0)) = (B.filter q).map g := by
  have h : B = (List.range B.length).map fun j => B.getD j 0 := by
    apply List.ext_getElem
    · simp
    · intro i h1 h2
      simp [h1]
  conv => rhs; rw [h]
  rw [List.filter_map, List.map_map]
  rfl
def subs : List Nat → List (List Nat)
  | [] => [[]]
  | a :: t => subs t ++ (subs t).map fun l => a :: l
theorem filter_subs (p : Nat → Bool) : ∀ B : List Nat, B.filter p ∈ subs B
  | [] => by simp [subs]
  | a :: t => by
    unfold subs
    rw [List.filter_cons]
    split
    · exact List.mem_append_right _ (List.mem_map.mpr ⟨_, filter_subs p t, rfl⟩)
    · exact List.mem_append_left _ (filter_subs p t)
theorem subs_len : ∀ B : List Nat, (subs B).length = 2 ^ B.length
  | [] => rfl
  | a :: t => by
    unfold subs
    rw [List.length_append, List.length_map, subs_len t, List.length_cons, Nat.pow_succ]
    omega
/-- pairs of a number below 10 and letters seen: 160 at most -/
theorem pairs_few {B : List Nat} (hB : B.length ≤ 4) {l : List (Nat × List Nat)} (nd : l.Nodup) (h : ∀ p ∈ l, p.1 < 10 ∧ p.2 ∈ subs B) : l.length ≤ 160 := by
  have := QM.nodup_le nd (m := (List.range 10).flatMap fun i => (subs B).map fun s => (i, s)) fun p hp => by
    rw [List.mem_flatMap]
    exact ⟨p.1, List.mem_range.mpr (h p hp).1, List.mem_map.mpr ⟨p.2, (h p hp).2, rfl⟩⟩
  rw [List.length_flatMap] at this
  have h2 : (List.map (fun i => (List.map (fun s => (i, s)) (subs B)).length) (List.range 10)) = (List.range 10).map fun _ => 2 ^ B.length := List.map_congr_left fun i _ => by rw [List.length_map, subs_len]
  rw [h2] at this
  have h3 : (2 : Nat) ^ B.length ≤ 16 := Nat.pow_le_pow_right (by decide) hB
  have h4 : ((List.range 10).map fun _ => 2 ^ B.length).sum = 10 * 2 ^ B.length := by
    simp [List.range, List.range.loop]
    omega
  rw [h4] at this
  omega
theorem len_of_lt {B : List Nat} {k : Nat} (h : B.Pairwise (· < ·)) (hB : ∀ b ∈ B, b < k) : B.length ≤ k := by
  have := QM.nodup_le (h.imp fun h => Nat.ne_of_lt h : B.Nodup) (m := List.range k) fun x hx => List.mem_range.mpr (hB x hx)
  simpa using this
theorem r_joinC {K : PySem.W.Frag} {H : Hp} {Q : VK} {a : Addr} {ds : List Nat} (h : SqL K H a (ds.map fun c => V.str ⟨#[c]⟩)) (c : ds.length ≤ 1000) (k : Q (.str (sO ds)) H) : rJoin K (.str "") [.ref a] H Q := by
  refine ⟨"", a, ds.map fun c => (⟨#[c]⟩ : Str), rfl, rfl, .inl (by rw [List.map_map]; exact h), ?_, by rw [join_signs]; exact k⟩
  have : ((ds.map fun c => (⟨#[c]⟩ : Str)).map (·.length)).sum = ds.length := by
    rw [List.map_map]
    clear h c k
    induction ds with
    | nil => rfl
    | cons a t ih =>
      rw [List.map_cons, List.sum_cons, ih, List.length_cons]
      show 1 + t.length = t.length + 1
      omega
  rw [this, List.length_map]
  show ds.length + ds.length * 0 ≤ 16777216
  omega
/-! ### promises: looks for a block -/
/-- a machine whose least is L, with its field -/
structure KM (K : PySem.W.Frag) (H : Hp) (m L F : Addr) (cs : List Nat) (T R ws : List (List Nat)) (A A' : List Nat) (lo mo : Addr) : Prop where
  md : MD cs T A
  m_ : MAt K H m cs T A (.ref L) (.ref F) lo mo
  l_ : LAt K H L cs R A'
  f_ : FAt K H F cs R ws
theorem KM.ex {K : PySem.W.Frag} {H H' : Hp} {m L F : Addr} {cs : List Nat} {T R ws : List (List Nat)} {A A' : List Nat} {lo mo : Addr} (h : KM K H m L F cs T R ws A A' lo mo) (e : Ex H H') : KM K H' m L F cs T R ws A A' lo mo := ⟨h.md, h.m_.ex e, h.l_.ex e, h.f_.ex e⟩
/-- a dict of the machine is changed -/
theorem KM.moK {K : PySem.W.Frag} {H H' : Hp} {m L F x : Addr} {kvs : List (Key × V)} {cs : List Nat} {T R ws : List (List Nat)} {A A' : List Nat} {lo mo : Addr} (h : KM K H m L F cs T R ws A A' lo mo) (hx : H x = some (.dK kvs)) (m' : Mo x H H') : KM K H' m L F cs T R ws A A' lo mo := by
  have t : Tp H H' := m'.tp fun xs q => by rw [hx] at q; cases q
  have ki : ∀ a C dx fs, H a = some (.ins C dx fs) → H' a = some (.ins C dx fs) := fun a C dx fs h => m' _ _ (fun e => by rw [e, hx] at h; cases h) h
  refine ⟨h.md, ?_, ?_, h.f_.moK hx m'⟩
  · obtain ⟨C, dx, tb, ac, h1, h2, h3, h4⟩ := h.m_
    exact ⟨C, dx, tb, ac, ki _ _ _ _ h1, h2, h3.tp t, h4.tp t⟩
  · obtain ⟨a, kf, lo, mo, C, dx, tb, ac, h1, h2, h3, h4⟩ := h.l_
    exact ⟨a, kf, lo, mo, C, dx, tb, ac, ki _ _ _ _ h1, h2, h3.tp t, h4.tp t⟩
def sp_lot_of (K : PySem.W.Frag) : Sp := fun vs H Q _ => ∃ m L F cs T R ws A A' lo mo B, ∃ lots : List (Key × V), vs = [.ref m, .str (wO cs B)] ∧ KM K H m L F cs T R ws A A' lo mo ∧ H lo = some (.dK lots) ∧ lots.length ≤ 100 ∧ valV lots (Sum.inr (wO cs B)) = none ∧ (∀ b ∈ B, b < cs.length) ∧ B.Pairwise (· < ·) ∧
  ∀ l H', Mo lo H H' → H' lo = some (.dK (lots ++ [(Sum.inr (wO cs B), .ref l)])) → LoAt K H' l F cs R ws B → Q (.ref l) H'
def sp_both_marks (K : PySem.W.Frag) : Sp := fun vs H Q _ => ∃ F cs R ws w u v, vs = [.ref F, iv (idx R ws w), iv (idx R ws u), iv (idx R ws v)] ∧ FAt K H F cs R ws ∧ Ok cs.length w ∧ Ok cs.length u ∧ Ok cs.length v ∧ ∀ H', Ex H H' → Q (iv (idx R ws (w ++ u ++ u ++ v ++ v ++ w))) H'
def sp_steady_core (K : PySem.W.Frag) : Sp := fun vs H Q _ => ∃ l F cs R ws B, vs = [.ref l] ∧ LoAt K H l F cs R ws B ∧
  ∀ p (sl : List Nat) H', Ex H H' → H' p = some (.lst (sl.map iv)) → sl.length ≤ 10 → (∀ i, i ∈ sl ↔ ∃ w, QA.On B w ∧ idx R ws w = i ∧ QA.Core (act R cs.length) B (act R cs.length w) ∧ QA.Idem (act R cs.length w)) → Q (.ref p) H'
/-- none, or a block -/
def NoB (v : V) : Prop := v = .non
def sp_falling_block (K : PySem.W.Frag) : Sp := fun vs H Q _ => ∃ l F cs R ws B, vs = [.ref l] ∧ LoAt K H l F cs R ws B ∧
  ((∀ H', Ex H H' → QA.NoFall (act R cs.length) B → Q .non H') ∧ ∀ p H', Ex H H' → ¬ QA.DO (act R cs.length) (List.range cs.length) → Q (.ref p) H')
def sp_ends_block (K : PySem.W.Frag) : Sp := fun vs H Q _ => ∃ l F cs R ws B, vs = [.ref l] ∧ LoAt K H l F cs R ws B ∧
  ((∀ H', Ex H H' → QA.NoEnds (act R cs.length) B → Q .non H') ∧ ∀ p H', Ex H H' → ¬ QA.DO (act R cs.length) (List.range cs.length) → Q (.ref p) H')
def sp_sums_block (K : PySem.W.Frag) : Sp := fun vs H Q _ => ∃ l F cs R ws B, vs = [.ref l] ∧ LoAt K H l F cs R ws B ∧
  ((∀ H', Ex H H' → QA.NoSums (act R cs.length) B → Q .non H') ∧ ∀ p H', Ex H H' → ¬ QA.AB (act R cs.length) (List.range cs.length) → Q (.ref p) H')
def sp_group_of (K : PySem.W.Frag) : Sp := fun vs H Q _ => ∃ l F cs R ws B w, vs = [.ref l, iv (idx R ws w)] ∧ LoAt K H l F cs R ws B ∧ QA.On B w ∧
  ∀ p (gl : List Nat) H', Ex H H' → H' p = some (.lst (gl.map iv)) → gl.length ≤ 10 → (∀ i, i ∈ gl ↔ ∃ x, QA.On B x ∧ idx R ws (w ++ x ++ w) = i) → Q (.ref p) H'
def sp_back_of (K : PySem.W.Frag) : Sp := fun vs H Q _ => ∃ F cs R ws w x N, vs = [.ref F, iv (idx R ws x), iv (idx R ws w)] ∧ FAt K H F cs R ws ∧ Ok cs.length w ∧ Ok cs.length x ∧ 2 ≤ N ∧ idx R ws (QA.rep x N) = idx R ws w ∧
  ∀ n H', 1 ≤ n → Ex H H' → Q (iv (idx R ws (QA.rep x n))) H'
theorem FB.few {cs : List Nat} {R ws : List (List Nat)} (B : FB cs R ws) : Few R cs.length 10 := fun us hu nd => by
  have := nodup_le nd (m := ws.map (deed R)) fun x hx => by
    obtain ⟨u, h, rfl⟩ := List.mem_map.mp hx
    exact B.f.all B.t u (hu u h)
  rw [List.length_map, List.length_map] at this
  exact Nat.le_trans this B.ten
theorem valV_last {κ : Type} [DecidableEq κ] : ∀ {kvs : List (κ × V)} {k : κ} {v : V}, valV kvs k = none → valV (kvs ++ [(k, v)]) k = some v
  | [], _, _, _ => valV_pos rfl
  | a :: t, k, v, h => by
    by_cases e : a.1 = k
    · rw [valV_pos e] at h; cases h
    · rw [valV_neg e] at h
      rw [List.cons_append, valV_neg e]
      exact valV_last h
theorem LoAt.moK {K : PySem.W.Frag} {H H' : Hp} {l F x : Addr} {kvs : List (Key × V)} {cs : List Nat} {R ws : List (List Nat)} {B : List Nat} (h : LoAt K H l F cs R ws B) (hx : H x = some (.dK kvs)) (m : Mo x H H') (hf : ∀ dx pl fw ma co, H l = some (.ins (aL K) dx (LF (wO cs B) F pl fw ma co)) → fw ≠ x) : LoAt K H' l F cs R ws B := by
  obtain ⟨dx, pl, fw, ma, co, ms, fl, cl, h1, h2, h3, h4, h5, h6⟩ := h
  exact ⟨dx, pl, fw, ma, co, ms, fl, cl, m _ _ (fun e => by rw [e, hx] at h1; cases h1) h1, h2.moK hx m, h3, m _ _ (hf _ _ _ _ _ h1) h4, m _ _ (fun e => by rw [e, hx] at h5; cases h5) h5, m _ _ (fun e => by rw [e, hx] at h6; cases h6) h6⟩
theorem ne_iv (a b : Nat) : (!decide ((a : Int) = (b : Int))) = !decide (a = b) := congrArg (! ·) (decide_eq_decide.mpr Int.ofNat_inj)
theorem eq_iv (a b : Nat) : decide ((a : Int) = (b : Int)) = decide (a = b) := decide_eq_decide.mpr Int.ofNat_inj
/-! ### lots -/
/-- all lots of the first k places, the empty one ahead -/
def powl : Nat → List (List Nat)
  | 0 => [[]]
  | k + 1 => powl k ++ (powl k).map fun B => B ++ [k]
abbrev qLam : Str := "lots_of.<locals>.<lambda>"
def sp_lots_of (P0 : Addr) : Sp := fun vs H Q _ => ∃ cs : List Nat, vs = [.str (sO cs)] ∧ cs.length ≤ 4 ∧ LamX.Tabs [(P0, qLam)] H ∧
  ∀ p (ys : List Str) H', LamX.ExtN H H' → LamX.Tabs [(P0, qLam)] H' → H' p = some (.lst (ys.map V.str)) → ys.Perm (((powl cs.length).drop 1).map (wO cs)) → ys.Pairwise (fun x y => ¬ LtS y x) → Q (.ref p) H'
theorem powl_len : ∀ k, (powl k).length = 2 ^ k
  | 0 => rfl
  | k + 1 => by
    unfold powl
    rw [List.length_append, List.length_map, powl_len k, Nat.pow_succ]
    omega
theorem powl_short : ∀ k, ∀ B ∈ powl k, B.length ≤ k
  | 0, B, h => by rw [List.mem_singleton.mp h]; exact Nat.le_refl _
  | k + 1, B, h => by
    unfold powl at h
    rcases List.mem_append.mp h with h | h
    · exact Nat.le_succ_of_le (powl_short k B h)
    · obtain ⟨C, hC, rfl⟩ := List.mem_map.mp h
      have := powl_short k C hC
      simp
      omega
theorem r_cat {H : Hp} {Q : VK} {a b : Addr} {xs ys : List V} (h : H a = some (.lst xs)) (hb : H b = some (.lst ys)) (c : xs.length + ys.length ≤ sizeLine) (k : ∀ p H', H p = none → Ex H H' → H' p = some (.lst (xs ++ ys)) → Q (.ref p) H') : rCat (.ref a) (.ref b) H Q := ⟨a, b, xs, ys, rfl, rfl, h, hb, c, a_new k⟩
/-! ### search -/
/-- the kinds' looks at the lots: no block means these -/
def NoBlk (R : List (List Nat)) (k : Nat) : Prop := ∀ B, B ≠ [] → B.Pairwise (· < ·) → (∀ b ∈ B, b < k) → QA.NoFall (act R k) B ∧ QA.NoEnds (act R k) B ∧ QA.NoSums (act R k) B
/-- a machine whose lots and more are yet empty -/
structure KM0 (K : PySem.W.Frag) (H : Hp) (m L F : Addr) (cs : List Nat) (T R ws : List (List Nat)) (A A' : List Nat) (lo mo : Addr) : Prop where
  km : KM K H m L F cs T R ws A A' lo mo
  hlo : H lo = some (.dK [])
  hmo : H mo = some (.dK [])
  ne : lo ≠ mo
/-- all but the two dicts and the tables stay -/
def ExB (lo mo : Addr) (H H' : Hp) : Prop := ∀ a o, a ≠ lo → a ≠ mo → H a = some o → (∀ ps, o ≠ .tbl ps) → H' a = some o
def sp_search (K : PySem.W.Frag) (P0 : Addr) : Sp := fun vs H Q _ => ∃ m L F cs T R ws A A' lo mo, vs = [.ref m] ∧ KM0 K H m L F cs T R ws A A' lo mo ∧ LamX.Tabs [(P0, qLam)] H ∧
  ((∀ H', ExB lo mo H H' → LamX.Tabs [(P0, qLam)] H' → H' mo = some (.dK []) → (QA.DO (act R cs.length) (List.range cs.length) ∧ QA.AB (act R cs.length) (List.range cs.length)) → Q .non H') ∧
   (∀ p H', ExB lo mo H H' → LamX.Tabs [(P0, qLam)] H' → H' mo = some (.dK []) → ¬ (QA.DO (act R cs.length) (List.range cs.length) ∧ QA.AB (act R cs.length) (List.range cs.length)) → Q (.ref p) H'))
def sp_block_of (K : PySem.W.Frag) (P0 : Addr) : Sp := fun vs H Q _ => ∃ m L F cs T R ws A A' lo mo, vs = [.ref m] ∧ KM0 K H m L F cs T R ws A A' lo mo ∧ LamX.Tabs [(P0, qLam)] H ∧
  ((∀ H', ExB lo mo H H' → LamX.Tabs [(P0, qLam)] H' → (QA.DO (act R cs.length) (List.range cs.length) ∧ QA.AB (act R cs.length) (List.range cs.length)) → Q .non H') ∧
   (∀ p H', ExB lo mo H H' → LamX.Tabs [(P0, qLam)] H' → ¬ (QA.DO (act R cs.length) (List.range cs.length) ∧ QA.AB (act R cs.length) (List.range cs.length)) → Q (.ref p) H'))
/-! ### pairs, changes -/
def pairsL (k : Nat) : List (Nat × Nat) := (List.range k).flatMap fun a => ((List.range k).filter fun b => decide (a < b)).map fun b => (a, b)
def sp_may_change (K : PySem.W.Frag) : Sp := fun vs H Q _ => ∃ m cs T A kf lo mo L R A' a b, vs = [.ref m, .str (wO cs [a]), .str (wO cs [b])] ∧ MD cs T A ∧ MAt K H m cs T A (.ref L) kf lo mo ∧ LAt K H L cs R A' ∧ a < cs.length ∧ b < cs.length ∧
  ∀ H', Ex H H' → Q (.bl (decide (deed R [a, b] = deed R [b, a]))) H'
def sp_fixed (K : PySem.W.Frag) : Sp := fun vs H Q _ => ∃ m cs T A kf lo mo L R A', vs = [.ref m] ∧ MD cs T A ∧ MAt K H m cs T A (.ref L) kf lo mo ∧ LAt K H L cs R A' ∧
  (∀ H', Ex H H' → (∀ a b, a < cs.length → b < cs.length → deed R [a, b] = deed R [b, a]) → Q (.bl true) H') ∧ ∀ H', Ex H H' → ¬ (∀ a b, a < cs.length → b < cs.length → deed R [a, b] = deed R [b, a]) → Q (.bl false) H'
theorem two_cases {A B : Prop} {Qv : V → Hp → Prop} {H : Hp} (G : ∀ v H', Ex H H' → ((v = .non ∧ A) ∨ ∃ p, v = .ref p ∧ B) → Qv v H') : (∀ H', Ex H H' → A → Qv .non H') ∧ ∀ p H', Ex H H' → B → Qv (.ref p) H' :=
  ⟨fun H' e h => G .non H' e (.inl ⟨rfl, h⟩), fun p H' e h => G (.ref p) H' e (.inr ⟨p, rfl, h⟩)⟩
theorem powl_ok : ∀ k, ∀ B ∈ powl k, B.Pairwise (· < ·) ∧ ∀ b ∈ B, b < k
  | 0, B, h => by rw [List.mem_singleton.mp h]; exact ⟨.nil, fun b hb => nomatch hb⟩
  | k + 1, B, h => by
    rcases List.mem_append.mp (show B ∈ powl k ++ (powl k).map fun B => B ++ [k] from h) with h | h
    · obtain ⟨h1, h2⟩ := powl_ok k B h
      exact ⟨h1, fun b hb => Nat.lt_succ_of_lt (h2 b hb)⟩
    · obtain ⟨C, hC, rfl⟩ := List.mem_map.mp h
      obtain ⟨h1, h2⟩ := powl_ok k C hC
      refine ⟨List.pairwise_append.mpr ⟨h1, by simp, fun a ha b hb => by rw [List.mem_singleton.mp hb]; exact h2 a ha⟩, fun b hb => ?_⟩
      rcases List.mem_append.mp hb with hb | hb
      · exact Nat.lt_succ_of_lt (h2 b hb)
      · rw [List.mem_singleton.mp hb]; exact Nat.lt_succ_self k
theorem powl_has : ∀ k, ∀ B : List Nat, B.Pairwise (· < ·) → (∀ b ∈ B, b < k) → B ∈ powl k
  | 0, B, _, h2 => by
    cases B with
    | nil => exact List.mem_singleton.mpr rfl
    | cons b t => exact absurd (h2 b (List.mem_cons_self ..)) (Nat.not_lt_zero _)
  | k + 1, B, h1, h2 => by
    show B ∈ powl k ++ (powl k).map fun B => B ++ [k]
    by_cases hk : k ∈ B
    · have hne : B ≠ [] := fun e => by rw [e] at hk; cases hk
      have hd : B = B.dropLast ++ [B.getLast hne] := (List.dropLast_concat_getLast hne).symm
      have hp : (B.dropLast ++ [B.getLast hne]).Pairwise (· < ·) := hd ▸ h1
      obtain ⟨p1, _, p2⟩ := List.pairwise_append.mp hp
      have hl : B.getLast hne = k := by
        have hm : k ∈ B.dropLast ++ [B.getLast hne] := hd ▸ hk
        rcases List.mem_append.mp hm with hm | hm
        · have h3 := p2 k hm (B.getLast hne) (List.mem_singleton.mpr rfl)
          have h4 := h2 _ (List.getLast_mem hne)
          omega
        · exact (List.mem_singleton.mp hm).symm
      refine List.mem_append_right _ (List.mem_map.mpr ⟨B.dropLast, powl_has k _ p1 fun b hb => ?_, by rw [← hl]; exact hd.symm⟩)
      have := p2 b hb (B.getLast hne) (List.mem_singleton.mpr rfl)
      omega
    · exact List.mem_append_left _ (powl_has k B h1 fun b hb => by
        have h3 := h2 b hb
        have h4 : b ≠ k := fun e => hk (e ▸ hb)
        omega)
theorem powl_nd : ∀ k, (powl k).Nodup
  | 0 => by simp [powl]
  | k + 1 => by
    show (powl k ++ (powl k).map fun B => B ++ [k]).Nodup
    rw [List.nodup_append]
    refine ⟨powl_nd k, (List.pairwise_map.mpr ((powl_nd k).imp fun h e => h (List.append_cancel_right e))), fun a ha b hb e => ?_⟩
    obtain ⟨C, hC, rfl⟩ := List.mem_map.mp hb
    have := (powl_ok k a ha).2 k (by rw [e]; simp)
    omega
theorem powl_head : ∀ k, powl k = [] :: (powl k).drop 1
  | 0 => rfl
  | k + 1 => by
    show powl k ++ (powl k).map (fun B => B ++ [k]) = [] :: (powl k ++ (powl k).map fun B => B ++ [k]).drop 1
    rw [powl_head k]
    rfl
theorem lots_mem {k : Nat} {B : List Nat} : B ∈ (powl k).drop 1 ↔ B ≠ [] ∧ B.Pairwise (· < ·) ∧ ∀ b ∈ B, b < k := by
  have nd := powl_nd k
  rw [powl_head k] at nd
  have nd' := List.nodup_cons.mp nd
  constructor
  · intro h
    refine ⟨fun e => nd'.1 (e ▸ h), powl_ok k B (List.mem_of_mem_drop h)⟩
  · rintro ⟨h1, h2, h3⟩
    have := powl_has k B h2 h3
    rw [powl_head k] at this
    exact (List.mem_cons.mp this).elim (fun e => absurd e h1) id
/-! ### kept though tables are written -/
section
open LamX
variable {K : PySem.W.Frag} {H H' : Hp}
theorem exN {a : Addr} {o : HO} (e : ExtN H H') (h : H a = some o) (n : ∀ ps, o ≠ .tbl ps) : H' a = some o := e a o h n
theorem tpN (e : ExtN H H') : Tp H H' := fun a xs h => e a _ h fun _ z => nomatch z
theorem MAt.exN {m : Addr} {cs : List Nat} {T : List (List Nat)} {A : List Nat} {kl kf : V} {lo mo : Addr} (h : MAt K H m cs T A kl kf lo mo) (e : ExtN H H') : MAt K H' m cs T A kl kf lo mo := by
  obtain ⟨C, dx, tb, ac, h1, h2, h3, h4⟩ := h
  exact ⟨C, dx, tb, ac, e _ _ h1 (fun _ z => nomatch z), h2, h3.tp (tpN e), h4.tp (tpN e)⟩
theorem LAt.exN {L : Addr} {cs : List Nat} {R : List (List Nat)} {A : List Nat} (h : LAt K H L cs R A) (e : ExtN H H') : LAt K H' L cs R A := by
  obtain ⟨a, kf, lo, mo, b⟩ := h
  exact ⟨a, kf, lo, mo, b.exN e⟩
theorem FAt.exN {F : Addr} {cs : List Nat} {R ws : List (List Nat)} (h : FAt K H F cs R ws) (e : ExtN H H') : FAt K H' F cs R ws := by
  obtain ⟨h1, wo, de, nu, bl, rs, ⟨dx', ds, h6, hne, h8, h9, h10, h11, h12⟩, h13, h14, h15⟩ := h
  have ml : ∀ a l, H a = some (.lst l) → H' a = some (.lst l) := fun a l h => e _ _ h fun _ z => nomatch z
  refine ⟨h1, wo, de, nu, bl, rs, ⟨dx', ds, e _ _ h6 (fun _ z => nomatch z), hne, ml _ _ h8, ml _ _ h9, h10, fun i w hi => ?_, e _ _ h12 (fun _ z => nomatch z)⟩, ml _ _ h13, h14, fun i w hi => ?_⟩
  · obtain ⟨v, a, b⟩ := h11 i w hi
    exact ⟨v, a, b.tp (tpN e)⟩
  · obtain ⟨b, a, c⟩ := h15 i w hi
    exact ⟨b, a, ml _ _ c⟩
theorem KM.exN {m L F : Addr} {cs : List Nat} {T R ws : List (List Nat)} {A A' : List Nat} {lo mo : Addr} (h : KM K H m L F cs T R ws A A' lo mo) (e : ExtN H H') : KM K H' m L F cs T R ws A A' lo mo := ⟨h.md, h.m_.exN e, h.l_.exN e, h.f_.exN e⟩
theorem dK_N {a : Addr} {kvs : List (Key × V)} (h : H a = some (.dK kvs)) (e : ExtN H H') : H' a = some (.dK kvs) := e _ _ h fun _ z => nomatch z
end
theorem valV_nin {κ : Type} [DecidableEq κ] : ∀ {kvs : List (κ × V)} {k : κ}, k ∉ kvs.map (·.1) → valV kvs k = none
  | [], _, _ => rfl
  | a :: t, k, h => by
    rw [valV_neg (fun e => h (by rw [List.map_cons, e]; exact List.mem_cons_self ..))]
    exact valV_nin fun m => h (List.mem_cons_of_mem _ m)
theorem tabs_moK {T : List (Addr × Str)} {H H' : Hp} {x : Addr} {kvs : List (Key × V)} (t : LamX.Tabs T H) (hx : H x = some (.dK kvs)) (m : Mo x H H') : LamX.Tabs T H' := fun p hp => by
  obtain ⟨ps, h1, h2, h3⟩ := t p hp
  refine ⟨ps, m _ _ (fun e => by rw [e, hx] at h1; cases h1) h1, h2, fun pos cv hc => ?_⟩
  obtain ⟨c, e1, e2⟩ := h3 pos cv hc
  exact ⟨c, e1, m _ _ (fun e => by rw [e, hx] at e2; unfold LamX.CodeO at e2; cases e2) e2⟩
/-! ### two for's in one comprehension -/
section
variable {K : PySem.W.Frag} {σ : L2.St} {H : Hp} {wi wi1 : TI} {g g1 : TG} {tt tt1 : TT} {te : TE} {vs vs1 : List Nat} {Q : VK}
def kLc2I (g : TG) (tt : TT) (wi1 : TI) (g1 : TG) (tt1 : TT) (te : TE) (vs vs1 : List Nat) (σ : L2.St) (Q : VK) : It → Hp → Prop := fun J H1 => ∀ D, H1 D = none → ∃ W : Nat → Nat → Hp → Prop, (∃ m, W 0 m (upd H1 D (.lst []))) ∧ ∀ i m H, W i m H →
  (J.stop i H ∧ Q (.ref D) H) ∨ (J.go i H ∧ ∃ Nx : Hp → Prop, (∀ H', Nx H' → ∃ m', m' < m ∧ W (i + 1) m' H') ∧ ∀ x H', J.yld i H x H' → g x (wipe σ vs) H' fun σ2 H2 => wipe σ2 vs = wipe σ vs ∧ tt σ2 H2 fun b H3 =>
    if b = true then wi1 σ2 H3 fun J1 H4 => ∃ W1 : Nat → Nat → Hp → Prop, (∃ m, W1 0 m H4) ∧ ∀ j k H, W1 j k H →
      (J1.stop j H ∧ Nx H) ∨ (J1.go j H ∧ ∃ Nx1 : Hp → Prop, (∀ H', Nx1 H' → ∃ k', k' < k ∧ W1 (j + 1) k' H') ∧ ∀ x H', J1.yld j H x H' → g1 x (wipe σ2 vs1) H' fun σ3 H5 => wipe σ3 vs1 = wipe σ2 vs1 ∧ tt1 σ3 H5 fun b H6 =>
        if b = true then te σ3 H6 fun y H7 => ∃ acc, H7 D = some (.lst acc) ∧ acc.length < sizeLine ∧ Nx1 (upd H7 D (.lst (acc ++ [y]))) else Nx1 H6)
    else Nx H3)
instance : Stp (tLc2 wi g tt wi1 g1 tt1 te vs vs1 σ H Q) (wi σ H (kLc2I g tt wi1 g1 tt1 te vs vs1 σ Q)) := ⟨id⟩
end
def pairsUp (k i : Nat) : List (Nat × Nat) := (List.range i).flatMap fun a => ((List.range k).filter fun b => decide (a < b)).map fun b => (a, b)
def prT (cs : List Nat) (H : Hp) (vs : List V) (ps : List (Nat × Nat)) : Prop := vs.length = ps.length ∧ ∀ (j : Nat) (p : Nat × Nat), ps[j]? = some p → ∃ r, vs[j]? = some (V.ref r) ∧ H r = some (.tup [.str (wO cs [p.1]), .str (wO cs [p.2])])
def sp_pairs_of : Sp := fun vs H Q _ => ∃ cs : List Nat, vs = [.str (sO cs)] ∧ cs.Pairwise (· < ·) ∧ cs.length ≤ 4 ∧ ∀ p (us : List V) H', Ex H H' → H' p = some (.lst us) → prT cs H' us (pairsUp cs.length cs.length) → Q (.ref p) H'
end QP

set_option Elab.async false
set_option linter.all false
set_option maxRecDepth 100000
set_option maxHeartbeats 1000000
namespace QP
open PySem PySem.Spec PyProof.Rows L2
open QM
/-! ### kinds -/
def kS : Nat → Str
  | 0 => "fixed"
  | 1 => "digits"
  | _ => "length"
/-- all but these, and the tables, stay -/
def Kp (S : List Addr) (H H' : Hp) : Prop := ∀ a o, a ∉ S → H a = some o → (∀ ps, o ≠ .tbl ps) → H' a = some o
theorem Kp.rfl' {S : List Addr} {H : Hp} : Kp S H H := fun _ _ _ h _ => h
theorem Kp.tr {S : List Addr} {H H1 H2 : Hp} (a : Kp S H H1) (b : Kp S H1 H2) : Kp S H H2 := fun x o n h t => b x o n (a x o n h t) t
theorem Kp.ex {S : List Addr} {H H' : Hp} (e : Ex H H') : Kp S H H' := fun a o _ h _ => e a o h
theorem Kp.exN {S : List Addr} {H H' : Hp} (e : LamX.ExtN H H') : Kp S H H' := fun a o _ h t => e a o h t
theorem Kp.mo {S : List Addr} {H H' : Hp} {x : Addr} (e : Mo x H H') (h : x ∈ S) : Kp S H H' := fun a o n q _ => e a o (fun z => n (z ▸ h)) q
theorem Kp.sub {S S' : List Addr} {H H' : Hp} (e : Kp S H H') (h : ∀ x ∈ S, x ∈ S') : Kp S' H H' := fun a o n q t => e a o (fun z => n (h a z)) q t
/-- what is new is forgotten -/
theorem Kp.drop {S S' : List Addr} {H H0 H' : Hp} (e : Kp S' H0 H) (e' : Kp S H H') (h : ∀ x ∈ S, x ∈ S' ∨ H0 x = none) : Kp S' H0 H' := fun a o n q t => e' a o (fun z => (h a z).elim (fun z => n z) fun z => by rw [z] at q; cases q) (e a o n q t) t
theorem Kp.extN {H H' : Hp} (e : Kp [] H H') : LamX.ExtN H H' := fun a o h t => e a o (fun z => nomatch z) h t
def sp_kind (K : PySem.W.Frag) (P0 : Addr) : Sp := fun vs H Q _ => ∃ m cs T A kl kf lo mo G, vs = [.ref m] ∧ MD cs T A ∧ MAt K H m cs T A kl kf lo mo ∧ LPre K H cs T A kl G ∧ FPre K H cs kl kf G ∧ (∀ R, G R → Few R cs.length 10) ∧
  H lo = some (.dK []) ∧ H mo = some (.dK []) ∧ lo ≠ mo ∧ LamX.Tabs [(P0, qLam)] H ∧
  ∀ R H', G R → Kp [m, lo, mo] H H' → LamX.Tabs [(P0, qLam)] H' → Q (.str (kS (kdR R cs.length))) H'
/-- a least machine, new, with nothing found out -/
def sp_silenced (K : PySem.W.Frag) : Sp := fun vs H Q _ => ∃ m cs T A kl kf lo mo B, vs = [.ref m, .str (wO cs B)] ∧ MD cs T A ∧ MAt K H m cs T A kl kf lo mo ∧ B.Pairwise (· < ·) ∧ (∀ b ∈ B, b < cs.length) ∧ B.length < cs.length ∧
  ∀ L R A' H', Least (rst T (leftL cs.length B)) A (leftL cs.length B).length R → Ex H H' → Fresh K H H' L ((leftL cs.length B).map fun a => cs.getD a 0) R A' → MD ((leftL cs.length B).map fun a => cs.getD a 0) R A' → Q (.ref L) H'
def sp_check_letters (K : PySem.W.Frag) : Sp := fun vs H Q _ => ∃ m cs T A kl kf lo mo B, vs = [.ref m, .str (wO cs B)] ∧ MD cs T A ∧ MAt K H m cs T A kl kf lo mo ∧ B.Pairwise (· < ·) ∧ (∀ b ∈ B, b < cs.length) ∧ B.length < cs.length ∧
  ∀ H', Ex H H' → Q .non H'
abbrev sp_without (K : PySem.W.Frag) : Sp := sp_silenced K
theorem tabs_mo {T : List (Addr × Str)} {H H' : Hp} {x : Addr} {o : HO} (t : LamX.Tabs T H) (hx : H x = some o) (n1 : ∀ ps, o ≠ .tbl ps) (n2 : ∀ φ, o ≠ .ext φ) (m : Mo x H H') : LamX.Tabs T H' := fun p hp => by
  obtain ⟨ps, h1, h2, h3⟩ := t p hp
  refine ⟨ps, m _ _ (fun e => by rw [e, hx] at h1; exact n1 _ (Option.some.inj h1)) h1, h2, fun pos cv hc => ?_⟩
  obtain ⟨c, e1, e2⟩ := h3 pos cv hc
  exact ⟨c, e1, m _ _ (fun e => by rw [e, hx] at e2; unfold LamX.CodeO at e2; exact n2 _ (Option.some.inj e2)) e2⟩
theorem tabs_moL {T : List (Addr × Str)} {H H' : Hp} {x : Addr} {l : List V} (t : LamX.Tabs T H) (hx : H x = some (.lst l)) (m : Mo x H H') : LamX.Tabs T H' := tabs_mo t hx (fun _ z => nomatch z) (fun _ z => nomatch z) m
theorem tabs_moI {T : List (Addr × Str)} {H H' : Hp} {x C dx : Addr} {fs : List (Str × V)} (t : LamX.Tabs T H) (hx : H x = some (.ins C dx fs)) (m : Mo x H H') : LamX.Tabs T H' := tabs_mo t hx (fun _ z => nomatch z) (fun _ z => nomatch z) m
/-- a part of a standing tuple -/
theorem r_slS {K : PySem.W.Frag} {H : Hp} {Q : VK} {a : Addr} {xs : List V} {lo hi : Option Int} {ys : List V} (h : SqT K H a xs) (nw : ¬ (HT.sIx xs.length 0 lo = 0 ∧ HT.sIx xs.length xs.length hi = xs.length)) (e : cutV xs lo hi = ys) (k : ∀ q H', H q = none → Ex H H' → H' q = some (.tup ys) → Q (.ref q) H') : rSlA K (.ref a) lo hi H Q := by
  refine ⟨a, xs, rfl, h, fun hw => absurd hw nw, fun _ => ?_⟩
  rw [e]
  exact a_new k
theorem r_tindex {K : PySem.W.Frag} {H : Hp} {Q : VK} {a : Addr} {ys : List Str} {z : Str} {j : Nat} (h : SqT K H a (ys.map V.str)) (hj : ys[j]? = some z) (nd : ys.Nodup) (k : Q (iv j) H) : rTupIndex K (.ref a) [.str z] H Q := by
  refine ⟨a, ys, z, j, rfl, rfl, h, hj, fun m hm q => ?_, k⟩
  obtain ⟨h1, e1⟩ := List.getElem?_eq_some_iff.mp hj
  obtain ⟨h2, e2⟩ := List.getElem?_eq_some_iff.mp q
  have := (List.getElem_inj (h₀ := h2) (h₁ := h1) nd).mp (e2.trans e1.symm)
  omega
theorem k_bmT {K : PySem.W.Frag} {σ : L2.St} {H : Hp} {Q : VK} {tr : TA} {a : Addr} {r : V → List V → Hp → VK → Prop} (h : ∃ o, K.lookup a = some o ∧ o.cls = .type "tuple" ∧ o.dict = none) (k : tr σ H (kBM2 r (.ref a) Q)) : kBM K "tuple" r tr σ Q (.ref a) H := ⟨.inr (.inl ⟨rfl, h⟩), k⟩
theorem kS_at {n : Nat} (h : n ≤ 2) : (["fixed", "digits", "length"] : List Str)[n]? = some (kS n) := by
  match n, h with
  | 0, _ => rfl
  | 1, _ => rfl
  | 2, _ => rfl
theorem kS_nd : (["fixed", "digits", "length"] : List Str).Nodup := by decide +kernel
/-! ### the lots' order -/
theorem LtS_asymm {x y : Str} (h : LtS x y) : ¬ LtS y x := by
  rintro (h' | ⟨h1, h2⟩)
  · rcases h with h | ⟨h, _⟩ <;> omega
  · rcases h with h | ⟨_, h⟩
    · omega
    · exact List.lt_asymm h h2
theorem LtS_anti {x y : Str} (h : ¬ LtS x y) (h' : ¬ LtS y x) : x = y := by
  have hl : x.length = y.length := by
    rcases Nat.lt_trichotomy x.length y.length with z | z | z
    · exact absurd (.inl z) h
    · exact z
    · exact absurd (.inl z) h'
  have h1 : ¬ x.cps.toList < y.cps.toList := fun z => h (.inr ⟨hl, z⟩)
  have h2 : ¬ y.cps.toList < x.cps.toList := fun z => h' (.inr ⟨hl.symm, z⟩)
  have e : x.cps.toList = y.cps.toList := List.le_antisymm (List.not_lt.mp h2) (List.not_lt.mp h1)
  cases x; cases y
  congr 1
  exact Array.toList_inj.mp e
theorem map_lt {cs : List Nat} (asc : cs.Pairwise (· < ·)) : ∀ {B C : List Nat}, (∀ b ∈ B, b < cs.length) → (∀ c ∈ C, c < cs.length) → B < C → (B.map fun a => cs.getD a 0) < (C.map fun a => cs.getD a 0)
  | [], [], _, _, h => absurd h (List.lt_irrefl _)
  | [], c :: C, _, _, _ => by simp
  | b :: B, [], _, _, h => by simp at h
  | b :: B, c :: C, hB, hC, h => by
    rw [List.map_cons, List.map_cons, List.cons_lt_cons_iff]
    rcases List.cons_lt_cons_iff.mp h with h2 | ⟨e2, h2⟩
    · have hb := hB b (List.mem_cons_self ..)
      have hc := hC c (List.mem_cons_self ..)
      left
      rw [List.getD_eq_getElem?_getD, List.getD_eq_getElem?_getD, List.getElem?_eq_getElem hb, List.getElem?_eq_getElem hc]
      exact List.pairwise_iff_getElem.mp asc b c hb hc h2
    · exact .inr ⟨by rw [e2], map_lt asc (fun x hx => hB x (List.mem_cons_of_mem _ hx)) (fun x hx => hC x (List.mem_cons_of_mem _ hx)) h2⟩
theorem LtS_wO {cs : List Nat} (asc : cs.Pairwise (· < ·)) {B C : List Nat} (hB : ∀ b ∈ B, b < cs.length) (hC : ∀ c ∈ C, c < cs.length) (h : LtW B C) : LtS (wO cs B) (wO cs C) := by
  unfold LtS
  rw [slen, slen, List.length_map, List.length_map]
  rcases h with h | ⟨h1, h2⟩
  · exact .inl h
  · exact .inr ⟨h1, map_lt asc hB hC h2⟩
theorem lots_eq {cs : List Nat} (asc : cs.Pairwise (· < ·)) (h1 : 1 ≤ cs.length) (h4 : cs.length ≤ 4) {ys : List Str} (hp : ys.Perm (((powl cs.length).drop 1).map (wO cs))) (hs : ys.Pairwise fun x y => ¬ LtS y x) : ys = (lotsK cs.length).map (wO cs) := by
  have pm : (lotsK cs.length).Perm ((powl cs.length).drop 1) := QM.four (p := fun k => (lotsK k).Perm ((powl k).drop 1)) (by decide) (by decide) (by decide) (by decide) h1 h4
  refine List.Perm.eq_of_pairwise (fun a b _ _ x y => LtS_anti y x) hs ?_ (hp.trans (pm.map _).symm)
  refine List.pairwise_map.mpr ((lotsK_sorted h1 h4).imp_of_mem fun {B C} hB hC h => LtS_asymm (LtS_wO asc (lotsK_ok h1 h4 B hB).2.1 (lotsK_ok h1 h4 C hC).2.1 h))
/-! ### quiet -/
abbrev dueS (cs : List Nat) (Bs : List (List Nat)) : List V := Bs.map fun B => V.str (wO cs B)
def sp_quiet (K : PySem.W.Frag) (P0 : Addr) : Sp := fun vs H Q _ => ∃ m cs T A kl kf lo mo G g, vs = [.ref m, .str (kS g)] ∧ g ≤ 1 ∧ MD cs T A ∧ MAt K H m cs T A kl kf lo mo ∧ LPre K H cs T A kl G ∧ FPre K H cs kl kf G ∧ (∀ R, G R → Few R cs.length 10) ∧ (∀ R, G R → Least T A cs.length R) ∧ LamX.Tabs [(P0, qLam)] H ∧
  ∀ L F R A' ws p H3 H', G R → Kp [m] H H' → MAt K H3 m cs T A (.ref L) (.ref F) lo mo → LAt K H3 L cs R A' → FAt K H3 F cs R ws → LamX.ExtN H3 H' → H3 p = none → (kf ≠ .non → LamX.ExtN H H') → LamX.Tabs [(P0, qLam)] H' → H' p = some (.lst (dueS cs (dueL (kfOf T A cs.length) g (lotsN cs.length)))) → H p = none → Q (.ref p) H'
end QP

set_option Elab.async false
set_option linter.all false
set_option maxRecDepth 100000
set_option maxHeartbeats 1000000
namespace QP
open PySem PySem.Spec PyProof.Rows L2
open QM
/-! ### the error that quiet raises -/
structure NkC (K : PySem.W.Frag) (mg : Str → Option Value) : Prop where
  gN : mg "NoKind" = some (.ref (He.ga K "NoKind"))
  gS : mg "SaidError" = some (.ref (He.ga K "SaidError"))
  xN : PySem.W.excIn K (He.ga K "NoKind") He.veBase "ValueError.__new__" = true
  kN : PySem.W.keepIn K (.ref (He.ga K "NoKind")) = true
  bN : PySem.W.subIn K (.ref (He.ga K "NoKind")) (.type "BaseException") = some true
  tN : PySem.W.typeIn K (.ref (He.ga K "NoKind")) = some (.type "type")
  exm : PySem.W.exmOne K (.ref (He.ga K "NoKind")) (.ref (He.ga K "SaidError")) = some true
  ec : ExcC K (He.ga K "NoKind")
  kit : PySem.W.kitOne K (.ref (He.ga K "NoKind")) (.ref (He.ga K "NoKind")) = some true
/-- X() -/
theorem pmk_own0 {X : Cx} {C : Addr} {bmB : List Value} {B newId initId : String} {x : Str} {p pos : Pos} (F : ExcBaseFacts B newId initId bmB) (q : PySem.W.excIn X.K C bmB newId = true) (gC : X.mg x = some (.ref C))
    (kC : PySem.W.keepIn X.K (.ref C) = true) (r : Raises X (.ref C)) (hg : Gl X x) (hdb : (x == ("__debug__" : Str)) = false := by decide) :
    PMk X (.Call (.Name x p) [] [] pos) (fun _ H Q => Q (.ref C) none H) := by
  intro pins s σ H Q I h
  refine wpAny_Call_Name_kw (ld_glob I hg gC ?_ hdb)
  refine PySem.W.callWith_K0 I.kIn kC ?_
  obtain ⟨bm, N, nm, qn, bs, hdct, sn, sub, ab, col, dd, k0, k1, k2, k3, k5, mN, hC, hN, hni, T⟩ := exc_obj I.kIn q
  exact wpAny_call_exc_subT F T hC hN hni (fun h' e hm => mk_of I hm r h (I.hok.gone hm.new)) (Nat.zero_le _)
/-- no kind that can be asked for -/
def BadG (K : PySem.W.Frag) (H : Hp) (x : V) : Prop := (∃ s : Str, x = .str s ∧ s ≠ "fixed" ∧ s ≠ "digits") ∨ ∃ T1 : String, TyX K H x (.type T1) ∧ kitB T1 "str" = some false
def sp_quietR (K : PySem.W.Frag) : Sp := fun vs H _ E => ∃ (m x : V), vs = [m, x] ∧ BadG K H x ∧ ∀ H', Ex H H' → E (.ref (He.ga K "NoKind")) none H'
def sp_is_refused (K : PySem.W.Frag) : Sp := fun vs H Q _ => ∃ (m x : V), vs = [m, x] ∧ BadG K H x ∧ ∀ H', Ex H H' → Q (.bl true) H'
theorem call_isEG {X : Cx} {K : PySem.W.Frag} {a D : Addr} {cls : Value} {d : Option Addr} {oe : Obj} {pn : List (Addr × Obj)} (C : ExcC K D) (hz : Zc cls d oe) (hf : ∃ vs, oe.data = .fields vs) (hK : X.K = K := by rfl) :
    CallR (X.suite a ((a, oe) :: pn)) (.builtin "isinstance") (fun xs H Q => cls = .ref D ∧ d = none ∧ rIsE K D a xs H Q) := by
  subst hK
  intro pins s σ H xs us Q I r h
  obtain ⟨rfl, rfl, h⟩ := h
  exact call_isE C hz hf pins s σ H xs us Q I r h
section
variable {X : Cx} {k : Nat} {x : Str} {ps : List Str} {sp : Sp} {E : L2.St → XK} {e : Expr} {es : List Expr} {t : TA} {p pos : Pos}
theorem pe_knS (G : Kn X.prog X.w X.K X.mg X.base (L2.CX X.prog X.w) k x ps sp) (hr : Room k X.A) (hg : Gl X x) (hx : ∀ σ, PassesAt (L2.CX X.prog X.w) X σ (E σ)) (ha : PA X (e :: es) t) (hdb : (x == ("__debug__" : Str)) = false := by decide)
    (he : starEach (e :: es) X.env = (false, eval e X.env) :: starEach es X.env := by rfl) (hpl : (backTo pos (starEach es X.env)).any (·.1) = false := by rfl) : PE X (.Call (.Name x p) (e :: es) [] pos) (tCallS sp E t) := by
  obtain ⟨f, fd, F, hm, hk, hb⟩ := G
  exact pe_callS F hr hg hm hk hb hx ha hdb he hpl
end
section
variable {sp : Sp} {E : L2.St → XK} {t : TA} {σ : L2.St} {H : Hp} {Q : VK} {vs : List V}
def kCallS (sp : Sp) (E : XK) (Q : VK) : List V → Hp → Prop := fun vs H1 => sp vs H1 Q E
instance : Stp (tCallS sp E t σ H Q) (t σ H (kCallS sp (E σ) Q)) := ⟨id⟩
theorem k_callS {E : XK} (h : sp vs H Q E) : kCallS sp E Q vs H := h
instance {E : XK} : Stp (kCallS sp E Q vs H) (sp vs H Q E) := ⟨id⟩
end
end QP

set_option Elab.async false
set_option linter.all false
set_option maxRecDepth 100000
set_option maxHeartbeats 1000000
namespace QP
open PySem PySem.Spec PyProof.Rows L2
open QM
/-! ### stores by place -/
section
variable {K : PySem.W.Frag} {σ : L2.St} {H : Hp} {to ti : TE} {t : TSet} {v o : V} {D : Ends} {N : L2.St → Hp → Prop}
def kSub1 (ti : TE) (t : TSet) (v : V) (σ : L2.St) (N : L2.St → Hp → Prop) : VK := fun o H1 => ti σ H1 fun i H2 => t o i v H2 fun H3 => N σ H3
def kSub2 (t : TSet) (o v : V) (σ : L2.St) (N : L2.St → Hp → Prop) : VK := fun i H2 => t o i v H2 fun H3 => N σ H3
instance : Stp (kAsg (gSub to ti t) D σ v H) (to σ H (kSub1 ti t v σ D.nx)) := ⟨id⟩
instance : Stp (kSub1 ti t v σ N o H) (ti σ H (kSub2 t o v σ N)) := ⟨id⟩
theorem k_setL {p : Addr} {xs : List V} {j : Nat} (h : H p = some (.lst xs)) (hj : j < xs.length) (k : ∀ H', Mo p H H' → H' p = some (.lst (xs.set j v)) → N σ H') : kSub2 rSetL (.ref p) v σ N (iv j) H :=
  ⟨p, xs, j, j, rfl, rfl, h, Evl.ixN_nat hj, a_upd (R := fun H' => N σ H') k⟩
theorem k_setL0 {p : Addr} {xs : List V} {i : Int} {j : Nat} (h : H p = some (.lst xs)) (hj : j < xs.length) (e : i = (j : Int)) (k : ∀ H', Mo p H H' → H' p = some (.lst (xs.set j v)) → N σ H') : kSub2 rSetL (.ref p) v σ N (.int i) H := by
  subst e
  exact k_setL h hj k
theorem r_ixL0 {a : Addr} {xs : List V} {i : Int} {n : Nat} {Q : VK} (h : SqL K H a xs) (en : i = (n : Int)) (e : xs[n]? = some v) (k : Q v H) : rIxL K (.ref a) (.int i) H Q := by
  subst en
  exact r_ixL h e k
theorem r_ixT0 {a : Addr} {xs : List V} {i : Int} {n : Nat} {Q : VK} (h : SqT K H a xs) (en : i = (n : Int)) (e : xs[n]? = some v) (k : Q v H) : rIxT K (.ref a) (.int i) H Q := by
  subst en
  exact r_ixT h e k
theorem r_pow {i j : Int} {Q : VK} (c : CPow i j) (k : Q (.int (i ^ j.toNat)) H) : rI CPow (fun i j => V.int (i ^ j.toNat)) (.int i) (.int j) H Q := ⟨i, j, rfl, rfl, c, k⟩
theorem cut {S : TS} {D : Ends} {σ : L2.St} {H : Hp} (P : L2.St → Hp → Prop) (h : ∀ σ' H', P σ' H' → D.nx σ' H') (k : (∀ σ' H', P σ' H' → D.nx σ' H') → S D σ H) : S D σ H := k h
/-- a statement's ends told once -/
theorem cutN {S : TS} {N : L2.St → Hp → Prop} {rt : VK} {bk ct : L2.St → Hp → Prop} {σ : L2.St} {H : Hp} (P : L2.St → Hp → Prop) (h : ∀ σ' H', P σ' H' → N σ' H') (k : ∀ N' : L2.St → Hp → Prop, (∀ σ' H', P σ' H' → N' σ' H') → S { nx := N', rt := rt, bk := bk, ct := ct } σ H) : S { nx := N, rt := rt, bk := bk, ct := ct } σ H := k N h
end
theorem moSqL {K : PySem.W.Frag} {H H' : Hp} {l a : Addr} {xs : List V} (m : Mo l H H') (n : a ≠ l) (h : SqL K H a xs) : SqL K H' a xs := by
  rcases h with (h | ⟨o, h⟩) | h
  · exact .inl (.inl (m _ _ n h))
  · exact .inl (.inr ⟨o, m _ _ n h⟩)
  · exact .inr h
theorem kpSqL {K : PySem.W.Frag} {H H' : Hp} {S : List Addr} {a : Addr} {xs : List V} (m : Kp S H H') (n : a ∉ S) (h : SqL K H a xs) : SqL K H' a xs := by
  rcases h with (h | ⟨o, h⟩) | h
  · exact .inl (.inl (m _ _ n h (fun _ z => nomatch z)))
  · exact .inl (.inr ⟨o, m _ _ n h (fun _ z => nomatch z)⟩)
  · exact .inr h
/-! ### the hand of numbers -/
/-- the hand at h, its cells at c -/
def HandAt (K : PySem.W.Frag) (H : Hp) (h c : Addr) : Prop := ∃ (ns : List Nat) (a r s n : Nat), H h = some (.lst [.ref c, iv a, iv r, iv s, iv n]) ∧ SqL K H c (ns.map iv) ∧ s < 2147483648 ∧ c ≠ h
theorem HandAt.ex {K : PySem.W.Frag} {H H' : Hp} {h c : Addr} (t : HandAt K H h c) (e : Ex H H') : HandAt K H' h c := by
  obtain ⟨ns, a, r, s, n, h1, h2, h3, h4⟩ := t
  exact ⟨ns, a, r, s, n, e _ _ h1, exSqL e h2, h3, h4⟩
theorem HandAt.kp {K : PySem.W.Frag} {H H' : Hp} {S : List Addr} {h c : Addr} (t : HandAt K H h c) (e : Kp S H H') (n1 : h ∉ S) (n2 : c ∉ S) : HandAt K H' h c := by
  obtain ⟨ns, a, r, s, n, h1, h2, h3, h4⟩ := t
  exact ⟨ns, a, r, s, n, e _ _ n1 h1 (fun _ z => nomatch z), kpSqL e n2 h2, h3, h4⟩
def sp_draw (K : PySem.W.Frag) : Sp := fun vs H Q _ => ∃ h c, ∃ many : Nat, vs = [.ref h, iv many] ∧ HandAt K H h c ∧ 1 ≤ many ∧ many ≤ 1000 ∧ ∀ (d : Nat) H', d < many → Mo h H H' → HandAt K H' h c → Q (iv d) H'
def sp_hand (K : PySem.W.Frag) : Sp := fun vs H Q _ => ∃ (a : Addr) (ns : List Int), vs = [.ref a] ∧ SqL K H a (ns.map V.int) ∧ ∀ h c H', Ex H H' → H h = none → H c = none → HandAt K H' h c → Q (.ref h) H'
def sp_shuffled (K : PySem.W.Frag) : Sp := fun vs H Q _ => ∃ (h c t : Addr) (xs : List V), vs = [.ref h, .ref t] ∧ HandAt K H h c ∧ SqL K H t xs ∧ xs.length ≤ 1000 ∧ t ≠ h ∧ ∀ p ys H', ys.Perm xs → Mo h H H' → HandAt K H' h c → H' p = some (.lst ys) → H p = none → Q (.ref p) H'
theorem r_popAt {H : Hp} {Q : VK} {l : Addr} {xs : List V} {d : Nat} {y : V} (h : H l = some (.lst xs)) (hy : xs[d]? = some y) (c : xs.length ≤ 100000) (k : ∀ H', Mo l H H' → H' l = some (.lst (xs.eraseIdx d)) → Q y H') : rPopAt (.ref l) [iv d] H Q := by
  have hd : d < xs.length := (List.getElem?_eq_some_iff.mp hy).1
  exact ⟨l, xs, d, d, y, rfl, rfl, h, by omega, by omega, (ixN_seq (Evl.ixN_nat hd)).1, hy, a_upd (R := fun H' => Q y H') k⟩
theorem erase_perm {α : Type} : ∀ {l : List α} {i : Nat} {y : α}, l[i]? = some y → (y :: l.eraseIdx i).Perm l
  | [], i, y, h => by simp at h
  | a :: l, 0, y, h => by
    have : a = y := by simpa using h
    subst this
    exact List.Perm.refl _
  | a :: l, i + 1, y, h => by
    show (y :: a :: l.eraseIdx i).Perm (a :: l)
    exact (List.Perm.swap a y _).trans (List.Perm.cons a (erase_perm (by simpa using h)))
/-- a new object written -/
theorem HandAt.moN {K : PySem.W.Frag} {H0 H H' : Hp} {h c x : Addr} (t0 : HandAt K H0 h c) (t : HandAt K H h c) (m : Mo x H H') (n : H0 x = none) : HandAt K H' h c := by
  obtain ⟨ns0, a0, r0, s0, n0, g1, g2, g3, g4⟩ := t0
  obtain ⟨ns, a, r, s, n', k1, k2, k3, k4⟩ := t
  have hx : h ≠ x := ne_of_none g1 n
  rcases g2 with (g2 | ⟨o, g2⟩) | g2
  · exact ⟨ns, a, r, s, n', m _ _ hx k1, moSqL m (ne_of_none g2 n) k2, k3, k4⟩
  · exact ⟨ns, a, r, s, n', m _ _ hx k1, moSqL m (ne_of_none g2 n) k2, k3, k4⟩
  · exact ⟨ns0, a, r, s, n', m _ _ hx k1, .inr g2, k3, k4⟩
theorem Mo.skip {h x : Addr} {H H1 H' : Hp} (m : Mo h H H1) (m' : Mo x H1 H') (n : H x = none) : Mo h H H' := fun a o na ha => m' a o (ne_of_none ha n) (m a o na ha)
theorem cutR {S : TS} {N : L2.St → Hp → Prop} {rt : VK} {bk ct : L2.St → Hp → Prop} {σ : L2.St} {H : Hp} (P : L2.St → Hp → Prop) (k : ∀ N' : L2.St → Hp → Prop, (∀ σ' H', P σ' H' → N' σ' H') → S { nx := N', rt := rt, bk := bk, ct := ct } σ H) (h : ∀ σ' H', P σ' H' → N σ' H') : S { nx := N, rt := rt, bk := bk, ct := ct } σ H := k N h
/-- a comprehension whose items may write -/
theorem k_lcG {σ : L2.St} {H : Hp} {Q : VK} {J : It} {n : Nat} {G : Hp → Prop} {Y : Nat → Hp → V → Hp → Prop} {g : TG} {te : TE} {vs : List Nat} (w : Walk J n G Y) (hz : n ≤ 100000) (Pv : Addr → Nat → List V → Hp → Prop)
    (h0 : ∀ Dl H1, H Dl = none → Ex H H1 → Pv Dl 0 [] H1) (hG : ∀ Dl i ys H', Pv Dl i ys H' → G H')
    (st : ∀ Dl i ys Ha Hb, H Dl = none → Mo Dl Ha Hb → Pv Dl i ys Ha → Pv Dl i ys Hb)
    (hs : ∀ Dl i x H1 H2 ys (Qc : VK), i < n → Pv Dl i ys H1 → Y i H1 x H2 → H Dl = none → H1 Dl = some (.lst ys) → ys.length = i → (∀ y H3, H3 Dl = some (.lst ys) → Pv Dl (i + 1) (ys ++ [y]) H3 → Qc y H3) → kEl g te vs σ Qc x H2)
    (hd : ∀ Dl H1 ys, H Dl = none → Pv Dl n ys H1 → H1 Dl = some (.lst ys) → ys.length = n → Q (.ref Dl) H1) : kLcI g tYes te vs σ Q J H := by
  intro Dl hDl
  refine lc_it w (Qd := fun H1 => Q (.ref Dl) H1) (fun i H1 => ∃ ys, Pv Dl i ys H1 ∧ H1 Dl = some (.lst ys) ∧ ys.length = i) ⟨[], h0 Dl _ hDl (Ex.new hDl), upd_same, rfl⟩ (fun i H1 _ ⟨ys, p, _⟩ => hG Dl i ys H1 p) ?_ ?_
  · rintro i x H1 H1' hi ⟨ys, p, h1, h2⟩ y1
    refine hs Dl i x H1 H1' ys _ hi p y1 hDl h1 h2 fun y H3 h3 p3 => ?_
    exact ⟨ys, h3, by rw [sizeLine_eq, h2]; omega, ys ++ [y], st Dl _ _ _ _ hDl Mo.of p3, upd_same, by simp [h2]⟩
  · rintro H1 ⟨ys, p, h1, h2⟩
    exact hd Dl H1 ys hDl p h1 h2
def sp_rows (K : PySem.W.Frag) : Sp := fun vs H Q _ => ∃ (h c : Addr) (rule : Int) (size many : Nat), vs = [.ref h, .int rule, iv size, iv many] ∧ HandAt K H h c ∧ 1 ≤ size ∧ size ≤ 6 ∧ 1 ≤ many ∧ many ≤ 4 ∧
  ∀ v T H', TOk T many → T.length = size → Mo h H H' → HandAt K H' h c → TabT H' v T → Q v H'
theorem cutIf {ts tu : TS} {N : L2.St → Hp → Prop} {rt : VK} {bk ct : L2.St → Hp → Prop} {σ : L2.St} {b : Bool} {H : Hp} (P : L2.St → Hp → Prop) (k : ∀ N' : L2.St → Hp → Prop, (∀ σ' H', P σ' H' → N' σ' H') → kIf ts tu { nx := N', rt := rt, bk := bk, ct := ct } σ b H) (h : ∀ σ' H', P σ' H' → N σ' H') : kIf ts tu { nx := N, rt := rt, bk := bk, ct := ct } σ b H := k N h
def sp_woven (K : PySem.W.Frag) : Sp := fun vs H Q _ => ∃ (h c : Addr) (many : Nat), vs = [.ref h, iv many] ∧ HandAt K H h c ∧ 1 ≤ many ∧ many ≤ 4 ∧
  ∀ v T H', TOk T many → T.length ≤ 6 → Mo h H H' → HandAt K H' h c → TabT H' v T → Q v H'
theorem tp_moH {K : PySem.W.Frag} {H H' : Hp} {h c : Addr} (t : HandAt K H h c) (m : Mo h H H') : Tp H H' := by
  obtain ⟨_, _, _, _, _, z, _⟩ := t
  exact m.tp fun xs q => by rw [z] at q; cases q
/-! ### list(text), sorted texts -/
def rListT : List V → Hp → VK → Prop := fun xs H Q => ∃ z, xs = [.str z] ∧ z.length ≤ sizeLine ∧ ∀ l, H l = none → Q (.ref l) (upd H l (.lst (sgn z)))
theorem call_listT {X : Cx} (hc : X.calm = true) : CallR X (.type "list") rListT := by
  intro pins s σ H xs us Q I r h
  obtain ⟨z, rfl, hz, q⟩ := h
  obtain ⟨u, rfl, rx⟩ := vals1 r
  obtain ⟨t, rfl⟩ := (show ∃ t, u = Value.str z t from rx)
  refine call_list_str (I.ok.hd hc) z t (hn := hz) fun h' tk acc' c' hk hS' hacc => ?_
  have hv : Vals (sgn z) acc'.toList := vals_of_at (by simp [sgn, hacc.1]) fun j x v hx hv => by
    obtain ⟨c, w, hc2, rfl⟩ := hacc.2 j v (by simpa using hv)
    have : x = V.str ⟨#[c]⟩ := by
      simp [sgn, hc2] at hx
      exact hx.symm
    subst this
    exact ⟨w, rfl⟩
  exact ⟨.ref s.heap.objs.size, _, I.laid (t' := tk) hk (Nat.le_refl _) (show ObjOk X.prog X.w _ h' _ (.lst (sgn z)) from ⟨by simp [sgn]; exact hz, acc'.toList, c', hv, by simpa using hS'⟩), rfl, q _ (I.hok.fresh (Nat.le_refl _))⟩
theorem r_listT {H : Hp} {Q : VK} {z : Str} (c : z.length ≤ sizeLine) (k : ∀ p H', H p = none → Ex H H' → H' p = some (.lst (sgn z)) → Q (.ref p) H') : rListT [.str z] H Q := ⟨z, rfl, c, a_new k⟩
theorem ltCps_iff : ∀ a b : List Nat, ltCps a b = decide (a < b)
  | [], [] => by simp [ltCps]
  | [], _ :: _ => by simp [ltCps]
  | _ :: _, [] => by simp [ltCps]
  | a :: r, b :: t => by
    rw [ltCps, ltCps_iff r t, Bool.eq_iff_iff]
    simp [List.cons_lt_cons_iff]
theorem sortedS_pw : ∀ {ms : List Str}, sortedS ms = true → ms.Pairwise (fun x y => ¬ y.cps.toList < x.cps.toList)
  | [], _ => .nil
  | x :: r, h => by
    have key : ∀ (r : List Str) (p : Str), risingS p r = true → (p :: r).Pairwise (fun x y => ¬ y.cps.toList < x.cps.toList) := by
      intro r
      induction r with
      | nil => exact fun p _ => by simp
      | cons a r ih =>
        intro p h
        have h : (!ltCps a.cps.toList p.cps.toList && risingS a r) = true := h
        rw [Bool.and_eq_true, ltCps_iff] at h
        have h1 : ¬ a.cps.toList < p.cps.toList := by simpa using h.1
        have h2 := ih a h.2
        refine List.pairwise_cons.mpr ⟨fun y hy => ?_, h2⟩
        rcases List.mem_cons.mp hy with rfl | hy
        · exact h1
        · have h3 := (List.pairwise_cons.mp h2).1 y hy
          exact List.not_lt.mpr (List.le_trans (List.not_lt.mp h1) (List.not_lt.mp h3))
    exact key r x h
/-- a rearranged image is an image of what is rearranged -/
theorem perm_pull {α β : Type} {f : α → β} (g : β → α) (hg : ∀ a, g (f a) = a) {zs : List β} {l : List α} (h : zs.Perm (l.map f)) : ∃ l' : List α, zs = l'.map f ∧ l'.Perm l := by
  refine ⟨zs.map g, ?_, ?_⟩
  · rw [List.map_map]
    have : zs = zs.map id := by simp
    conv => lhs; rw [this]
    refine List.map_congr_left fun z hz => ?_
    obtain ⟨a, _, rfl⟩ := List.mem_map.mp (h.mem_iff.mp hz)
    show f a = f (g (f a))
    rw [hg]
  · have := h.map g
    rw [List.map_map] at this
    have e : l.map (g ∘ f) = l := by
      have : l.map (g ∘ f) = l.map id := List.map_congr_left fun a _ => hg a
      rw [this, List.map_id]
    rwa [e] at this
abbrev sg1 (c : Nat) : Str := ⟨#[c]⟩
theorem k_lcGT {σ : L2.St} {H : Hp} {Q : VK} {J : It} {n : Nat} {G : Hp → Prop} {Y : Nat → Hp → V → Hp → Prop} {g : TG} {tt : TT} {te : TE} {vs : List Nat} (w : Walk J n G Y) (hz : n ≤ 100000) (Pv : Addr → Nat → List V → Hp → Prop)
    (h0 : ∀ Dl H1, H Dl = none → Ex H H1 → Pv Dl 0 [] H1) (hG : ∀ Dl i ys H', Pv Dl i ys H' → G H')
    (st : ∀ Dl i ys Ha Hb, H Dl = none → (∃ l, Ha Dl = some (.lst l)) → Mo Dl Ha Hb → Pv Dl i ys Ha → Pv Dl i ys Hb)
    (hs : ∀ Dl i x H1 H2 ys (Qb : Bool → Hp → Prop) (Qc : VK), i < n → Pv Dl i ys H1 → Y i H1 x H2 → H Dl = none → H1 Dl = some (.lst ys) → (∀ y H3, H3 Dl = some (.lst ys) → Pv Dl (i + 1) (ys ++ [y]) H3 → Qc y H3) → (∀ H3, H3 Dl = some (.lst ys) → Pv Dl (i + 1) ys H3 → Qb false H3) → kElT g tt te vs σ Qb Qc x H2)
    (hd : ∀ Dl H1 ys, H Dl = none → Pv Dl n ys H1 → H1 Dl = some (.lst ys) → ys.length ≤ n → Q (.ref Dl) H1) : kLcI g tt te vs σ Q J H := by
  intro Dl hDl
  refine lc_it w (Qd := fun H1 => Q (.ref Dl) H1) (fun i H1 => ∃ ys, Pv Dl i ys H1 ∧ H1 Dl = some (.lst ys) ∧ ys.length ≤ i) ⟨[], h0 Dl _ hDl (Ex.new hDl), upd_same, Nat.le_refl _⟩ (fun i H1 _ ⟨ys, p, _⟩ => hG Dl i ys H1 p) ?_ ?_
  · rintro i x H1 H1' hi ⟨ys, p, h1, h2⟩ y1
    refine hs Dl i x H1 H1' ys (fun _ H3 => ∃ ys, Pv Dl (i + 1) ys H3 ∧ H3 Dl = some (.lst ys) ∧ ys.length ≤ i + 1) _ hi p y1 hDl h1 (fun y H3 h3 p3 => ?_) fun H3 h3 p3 => ⟨ys, p3, h3, by omega⟩
    exact ⟨ys, h3, by rw [sizeLine_eq]; omega, ys ++ [y], st Dl _ _ _ _ hDl ⟨_, h3⟩ Mo.of p3, upd_same, by simp; omega⟩
  · rintro H1 ⟨ys, p, h1, h2⟩
    exact hd Dl H1 ys hDl p h1 h2
def sp_parts (K : PySem.W.Frag) : Sp := fun vs H Q _ => ∃ (h c : Addr), vs = [.ref h, iv 4, iv 6] ∧ HandAt K H h c ∧
  ∀ p (cs : List Nat) (tv av : V) (T : List (List Nat)) (A : List Nat) H', MD cs T A → (∀ x ∈ cs, 97 ≤ x ∧ x ≤ 122) → A.Pairwise (· < ·) → (∀ q ∈ A, q < T.length) → Mo h H H' → HandAt K H' h c → TabT H' tv T → TupN H' av A → H' p = some (.tup [.str (sO cs), tv, av]) → Q (.ref p) H'
/-! ### the law's least machine -/
/-- a list or tuple of numbers; one of such -/
def SeqN (K : PySem.W.Frag) (H : Hp) (u : V) (r : List Nat) : Prop := ∃ b a, u = .ref a ∧ SqK K b H a (r.map iv)
def TabS (K : PySem.W.Frag) (H : Hp) (v : V) (T : List (List Nat)) : Prop := ∃ b a vs, v = .ref a ∧ SqK K b H a vs ∧ vs.length = T.length ∧ ∀ (i : Nat) (r : List Nat), T[i]? = some r → ∃ u, vs[i]? = some u ∧ SeqN K H u r
theorem SeqN.ex {K : PySem.W.Frag} {H H' : Hp} {u : V} {r : List Nat} (t : SeqN K H u r) (e : Ex H H') : SeqN K H' u r := let ⟨b, a, h1, h2⟩ := t; ⟨b, a, h1, h2.ex e⟩
theorem TabS.ex {K : PySem.W.Frag} {H H' : Hp} {v : V} {T : List (List Nat)} (t : TabS K H v T) (e : Ex H H') : TabS K H' v T := by
  obtain ⟨b, a, vs, h1, h2, h3, h4⟩ := t
  exact ⟨b, a, vs, h1, h2.ex e, h3, fun i r hr => let ⟨u, g1, g2⟩ := h4 i r hr; ⟨u, g1, g2.ex e⟩⟩
theorem TabT.s {K : PySem.W.Frag} {H : Hp} {v : V} {T : List (List Nat)} (t : TabT H v T) : TabS K H v T := by
  obtain ⟨a, vs, h1, h2, h3, h4⟩ := t
  exact ⟨false, a, vs, h1, SqT.of h2, h3, fun i r hr => let ⟨u, g1, b, g2, g3⟩ := h4 i r hr; ⟨u, g1, false, b, g2, SqT.of g3⟩⟩
theorem tab_row {T : List (List Nat)} {k : Nat} {ss : List Nat} (t : TOk T k) (S : Sts T k ss) {q : Nat} (hq : q ∈ ss) : q < T.length ∧ T[q]? = some (T.getD q []) ∧ (T.getD q []).length = k ∧ ∀ x ∈ T.getD q [], x ∈ ss := by
  have hlt := ((S.mem q).mp hq).lt t
  have hmem : T.getD q [] ∈ T := by rw [List.getD_eq_getElem?_getD, List.getElem?_eq_getElem hlt]; exact List.getElem_mem hlt
  refine ⟨hlt, by rw [List.getD_eq_getElem?_getD, List.getElem?_eq_getElem hlt]; rfl, (t.row _ hmem).1, fun x hx => ?_⟩
  obtain ⟨a, ha, e⟩ := List.mem_iff_getElem.mp hx
  have hak : a < k := by rw [← (t.row _ hmem).1]; exact ha
  have : QM.cell T q a = x := by
    unfold QM.cell
    rw [List.getD_eq_getElem?_getD (l := T.getD q []), List.getElem?_eq_getElem ha]
    exact e
  rw [← this]
  exact (S.mem _).mpr (((S.mem q).mp hq).step hak)
theorem sts_len {T : List (List Nat)} {k : Nat} {ss : List Nat} (t : TOk T k) (S : Sts T k ss) : ss.length ≤ T.length := by
  have := QM.nodup_le S.nd (m := List.range T.length) fun x hx => List.mem_range.mpr (((S.mem x).mp hx).lt t)
  rwa [List.length_range] at this
def sp_l_classes (K : PySem.W.Frag) : Sp := fun vs H Q _ => ∃ (tv av : V) (p : Addr) (T : List (List Nat)) (A : List Nat) (k : Nat) (ss : List Nat), vs = [tv, av, .ref p] ∧ TabS K H tv T ∧ TupN H av A ∧ H p = some (.lst (ss.map iv)) ∧ TOk T k ∧ k ≤ 4 ∧ T.length ≤ 6 ∧ Sts T k ss ∧
  ∀ d c n H', Ex H H' → H' d = some (.dK (dkN ss c)) → Cls T A k ss c n → Q (.ref d) H'
def sp_l_least (K : PySem.W.Frag) : Sp := fun vs H Q _ => ∃ (tv av : V) (T : List (List Nat)) (A : List Nat) (k : Nat), vs = [tv, av] ∧ TabS K H tv T ∧ TupN H av A ∧ TOk T k ∧ k ≤ 4 ∧ T.length ≤ 6 ∧
  ∀ p rv yv R A' H', Ex H H' → TabT H' rv R → Least T A k R → R.length ≤ 6 → TupN H' yv A' → H' p = some (.tup [rv, yv]) → Q (.ref p) H'
/-! ### the law's deeds -/
abbrev sp_l_after : Sp := sp_after
def sp_l_place : Sp := fun vs H Q _ => ∃ n : Nat, vs = [.str (kS n)] ∧ n ≤ 2 ∧ ∀ H', Ex H H' → Q (iv n) H'
def sp_l_deed : Sp := fun vs H Q _ => ∃ (cs : List Nat) (x : V) (R : List (List Nat)) (u : List Nat), vs = [.str (sO cs), x, .str (wO cs u)] ∧ cs.Nodup ∧ TabT H x R ∧ TOk R cs.length ∧ R.length ≤ 6 ∧ Ok cs.length u ∧ u.length ≤ 1000 ∧
  ∀ v H', Ex H H' → TupN H' v (QM.deed R u) → Q v H'
/-- words and deeds -/
def WsAt (H : Hp) (wo de : Addr) (cs : List Nat) (R ws : List (List Nat)) : Prop := ∃ ds : List V, H wo = some (.lst (ws.map fun w => V.str (wO cs w))) ∧ H de = some (.lst ds) ∧ ds.length = ws.length ∧ ∀ (i : Nat) (w : List Nat), ws[i]? = some w → ∃ v, ds[i]? = some v ∧ TupN H v (QM.deed R w)
theorem WsAt.ex {H H' : Hp} {wo de : Addr} {cs : List Nat} {R ws : List (List Nat)} (h : WsAt H wo de cs R ws) (e : Ex H H') : WsAt H' wo de cs R ws := by
  obtain ⟨ds, h1, h2, h3, h4⟩ := h
  exact ⟨ds, e _ _ h1, e _ _ h2, h3, fun i w hw => let ⟨v, a, b⟩ := h4 i w hw; ⟨v, a, b.ex e⟩⟩
def sp_l_deeds (K : PySem.W.Frag) : Sp := fun vs H Q _ => ∃ (cs : List Nat) (x : V) (R : List (List Nat)) (most : Nat), vs = [.str (sO cs), x, iv most] ∧ cs.length ≤ 4 ∧ TabT H x R ∧ TOk R cs.length ∧ R.length ≤ 6 ∧ 1 ≤ most ∧ most ≤ 100 ∧
  (∀ H', Ex H H' → ¬ Few R cs.length most → Q .non H') ∧ ∀ ws wo de p H', Ex H H' → FOk R cs.length ws → ws.length ≤ most → WsAt H' wo de cs R ws → H' p = some (.tup [.ref wo, .ref de]) → Q (.ref p) H'
def sp_l_steady : Sp := fun vs H Q _ => ∃ (x : V) (R ws : List (List Nat)) (k : Nat) (u : List Nat), vs = [x] ∧ TupN H x (QM.deed R u) ∧ FOk R k ws ∧ TOk R k ∧ Ok k u ∧ R.length ≤ 6 ∧ ∀ v H', Ex H H' → TupN H' v (QM.deed R (spw R u)) → Q v H'
def sp_l_lots : Sp := fun vs H Q _ => ∃ cs : List Nat, vs = [.str (sO cs)] ∧ cs.Pairwise (· < ·) ∧ 1 ≤ cs.length ∧ cs.length ≤ 4 ∧ ∀ p H', Ex H H' → H' p = some (.lst (dueS cs (lotsK cs.length))) → Q (.ref p) H'
/-- letters[k] -/
theorem r_ixC {H : Hp} {Q : VK} {cs : List Nat} {i : Nat} (hi : i < cs.length) (c : cs.length ≤ 1000) (k : Q (.str ⟨#[cs.getD i 0]⟩) H) : rIxS (.str (sO cs)) (iv i) H Q :=
  ⟨_, _, _, rfl, rfl, by show (sO cs).length ≤ _; rw [slen, sizeLine_eq]; omega, atI_nat (by simp [hi]), k⟩
theorem ikl_inj {a b : List Nat} (e : a.map ik = b.map ik) : a = b := by
  induction a generalizing b with
  | nil => cases b with
    | nil => rfl
    | cons b t => cases e
  | cons a s ih =>
    cases b with
    | nil => cases e
    | cons b t =>
      rw [List.map_cons, List.map_cons] at e
      injection e with e1 e2
      rw [show a = b by injection e1 with e1; exact Int.ofNat.inj e1, ih e2]
theorem valV_blT {ds : List (List Nat)} {l : List Nat} {z : V} : valV (ds.map fun d => (d.map ik, z)) (l.map ik) = if l ∈ ds then some z else none := by
  induction ds with
  | nil => rfl
  | cons a t ih =>
    rw [List.map_cons]
    by_cases h : a = l
    · subst h
      rw [valV_pos rfl, if_pos (List.mem_cons_self ..)]
    · rw [valV_neg (fun e => h (ikl_inj e)), ih]
      by_cases hm : l ∈ t
      · rw [if_pos hm, if_pos (List.mem_cons_of_mem _ hm)]
      · rw [if_neg hm, if_neg fun m => (List.mem_cons.mp m).elim (fun e => h e.symm) hm]
theorem kV_ik (l : List Nat) : (l.map ik).map kV = l.map iv := by rw [List.map_map]; rfl
theorem filt_pl {α β : Type} (d : α) (B : List α) (q : α → Bool) (g : α → β) : ((List.range B.length).filter fun j => q (B.getD j d)).map (fun j => g (B.getD j d)) = (B.filter q).map g := by
  have h : B = (List.range B.length).map fun j => B.getD j d := by
    apply List.ext_getElem
    · simp
    · intro i h1 h2
      simp [h1]
  conv => rhs; rw [h]
  rw [List.filter_map, List.map_map]
  rfl
theorem perm_filter_or {α : Type} {p q : α → Bool} : ∀ {l : List α}, (∀ a ∈ l, ¬ (p a = true ∧ q a = true)) → (l.filter p ++ l.filter q).Perm (l.filter fun a => p a || q a)
  | [], _ => List.Perm.refl _
  | a :: l, h => by
    have ih := perm_filter_or (p := p) (q := q) (l := l) fun b hb => h b (List.mem_cons_of_mem _ hb)
    have h0 := h a (List.mem_cons_self ..)
    cases hp : p a with
    | true =>
      have hq : q a = false := by
        cases hq : q a with
        | false => rfl
        | true => exact absurd ⟨hp, hq⟩ h0
      rw [List.filter_cons_of_pos hp, List.filter_cons_of_neg (by simp [hq]), List.filter_cons_of_pos (by simp [hp])]
      exact List.Perm.cons a ih
    | false =>
      cases hq : q a with
      | true =>
        rw [List.filter_cons_of_neg (by simp [hp]), List.filter_cons_of_pos hq, List.filter_cons_of_pos (by simp [hq])]
        exact List.perm_middle.trans (List.Perm.cons a ih)
      | false =>
        rw [List.filter_cons_of_neg (by simp [hp]), List.filter_cons_of_neg (by simp [hq]), List.filter_cons_of_neg (by simp [hp, hq])]
        exact ih
/-! ### looks at the deeds -/
theorem valV_nd {κ : Type} [DecidableEq κ] : ∀ {kvs : List (κ × V)} {j : Nat} {k : κ} {v : V}, (kvs.map (·.1)).Nodup → kvs[j]? = some (k, v) → valV kvs k = some v
  | [], j, k, v, _, h => by simp at h
  | a :: t, 0, k, v, nd, h => by
    have : a = (k, v) := by simpa using h
    subst this
    exact valV_pos rfl
  | a :: t, j + 1, k, v, nd, h => by
    rw [List.map_cons, List.nodup_cons] at nd
    have h : t[j]? = some (k, v) := by simpa using h
    rw [valV_neg (fun e => nd.1 (by rw [e]; exact List.mem_map.mpr ⟨(k, v), List.mem_of_getElem? h, rfl⟩))]
    exact valV_nd nd.2 h
def DsAt (H : Hp) (de : Addr) (R ws : List (List Nat)) : Prop := ∃ ds : List V, H de = some (.lst ds) ∧ ds.length = ws.length ∧ ∀ (i : Nat) (w : List Nat), ws[i]? = some w → ∃ v, ds[i]? = some v ∧ TupN H v (QM.deed R w)
theorem DsAt.ex {H H' : Hp} {de : Addr} {R ws : List (List Nat)} (h : DsAt H de R ws) (e : Ex H H') : DsAt H' de R ws := by
  obtain ⟨ds, h2, h3, h4⟩ := h
  exact ⟨ds, e _ _ h2, h3, fun i w hw => let ⟨v, a, b⟩ := h4 i w hw; ⟨v, a, b.ex e⟩⟩
theorem WsAt.ds {H : Hp} {wo de : Addr} {cs : List Nat} {R ws : List (List Nat)} (h : WsAt H wo de cs R ws) : DsAt H de R ws := by
  obtain ⟨ds, _, h2, h3, h4⟩ := h
  exact ⟨ds, h2, h3, h4⟩
def sp_l_straight : Sp := fun vs H Q _ => ∃ (ac : Addr) (R ws : List (List Nat)) (k : Nat), vs = [.ref ac] ∧ DsAt H ac R ws ∧ FOk R k ws ∧ TOk R k ∧ R.length ≤ 6 ∧ ws.length ≤ 10 ∧
  (∀ H', Ex H H' → QA.DO (act R k) (List.range k) → Q (.bl true) H') ∧ ∀ H', Ex H H' → ¬ QA.DO (act R k) (List.range k) → Q (.bl false) H'
def sp_l_groups : Sp := fun vs H Q _ => ∃ (ac : Addr) (R ws : List (List Nat)) (k : Nat), vs = [.ref ac] ∧ DsAt H ac R ws ∧ FOk R k ws ∧ TOk R k ∧ R.length ≤ 6 ∧ ws.length ≤ 10 ∧
  (∀ H', Ex H H' → QA.AB (act R k) (List.range k) → Q (.bl true) H') ∧ ∀ H', Ex H H' → ¬ QA.AB (act R k) (List.range k) → Q (.bl false) H'
section
variable {σ : L2.St} {H : Hp} {td ty tx : TE} {Q : VK} {x y z : V}
theorem k_dg2TF {a b : Addr} {od : Obj} {ks : List Key} {kvs : List (List Key × V)} {v : V} (h : H a = some (.frz od (.dT kvs))) (hb : H b = some (.tup (ks.map kV))) (e : valV kvs ks = some v) (k : Q v H) : kDG2 (.ref a) Q (.ref b) H :=
  ⟨a, v, rfl, .inr ⟨kvs, ks, b, .inr ⟨od, h⟩, rfl, hb, e.symm⟩, k⟩
end
/-- a group: a key's word, its members -/
structure GI (H' : Hp) (R : List (List Nat)) (kvs : List (List Key × V)) (gs : List (List Nat × List (List Nat))) : Prop where
  len : kvs.length = gs.length
  at_ : ∀ (j : Nat) (g : List Nat × List (List Nat)), gs[j]? = some g → ∃ lp ds, kvs[j]? = some ((QM.deed R g.1).map ik, .ref lp) ∧ H' lp = some (.lst ds) ∧ ds.length = g.2.length ∧ ∀ (t : Nat) (w : List Nat), g.2[t]? = some w → ∃ v, ds[t]? = some v ∧ TupN H' v (QM.deed R w)
theorem GI.mo {H H' : Hp} {R : List (List Nat)} {kvs : List (List Key × V)} {gs : List (List Nat × List (List Nat))} {d : Addr} {k0 : List (List Key × V)} (h : GI H R kvs gs) (hd : H d = some (.dT k0)) (m : Mo d H H') : GI H' R kvs gs := by
  have t : Tp H H' := m.tp fun xs q => by rw [hd] at q; cases q
  refine ⟨h.len, fun j g hg => ?_⟩
  obtain ⟨lp, ds, h1, h2, h3, h4⟩ := h.at_ j g hg
  exact ⟨lp, ds, h1, m _ _ (fun e => by rw [e, hd] at h2; cases h2) h2, h3, fun t' w hw => let ⟨v, a, b⟩ := h4 t' w hw; ⟨v, a, b.tp t⟩⟩
theorem GI.ex {H H' : Hp} {R : List (List Nat)} {kvs : List (List Key × V)} {gs : List (List Nat × List (List Nat))} (h : GI H R kvs gs) (e : Ex H H') : GI H' R kvs gs := by
  refine ⟨h.len, fun j g hg => ?_⟩
  obtain ⟨lp, ds, h1, h2, h3, h4⟩ := h.at_ j g hg
  exact ⟨lp, ds, h1, e _ _ h2, h3, fun t' w hw => let ⟨v, a, b⟩ := h4 t' w hw; ⟨v, a, b.ex e⟩⟩
theorem GI.keys {H' : Hp} {R : List (List Nat)} {kvs : List (List Key × V)} {gs : List (List Nat × List (List Nat))} (h : GI H' R kvs gs) : kvs.map (·.1) = gs.map fun g => (QM.deed R g.1).map ik := by
  apply List.ext_getElem?
  intro j
  rw [List.getElem?_map, List.getElem?_map]
  by_cases hj : j < gs.length
  · obtain ⟨lp, ds, h1, _⟩ := h.at_ j _ (List.getElem?_eq_getElem hj)
    rw [h1, List.getElem?_eq_getElem hj]
    rfl
  · rw [List.getElem?_eq_none (by have := h.len; omega), List.getElem?_eq_none (by omega)]
    rfl
/-- what the groups hold behind i deeds -/
structure GJ (R ws : List (List Nat)) (i : Nat) (gs : List (List Nat × List (List Nat))) : Prop where
  nd : (gs.map fun g => QM.deed R g.1).Nodup
  mem : ∀ g ∈ gs, ∀ w ∈ g.2, w ∈ ws ∧ InG R w ∧ QM.deed R (spw R w) = QM.deed R g.1
  cov : ∀ (j : Nat) (w : List Nat), j < i → ws[j]? = some w → InG R w → ∃ g ∈ gs, w ∈ g.2
  few : ∀ g ∈ gs, g.2.length ≤ i
  short : gs.length ≤ i
theorem GJ.skip {R ws : List (List Nat)} {i : Nat} {gs : List (List Nat × List (List Nat))} {w0 : List Nat} (h : GJ R ws i gs) (hw : ws[i]? = some w0) (n : ¬ InG R w0) : GJ R ws (i + 1) gs :=
  ⟨h.nd, h.mem, fun j w hj hwj hg => by
    rcases Nat.lt_succ_iff_lt_or_eq.mp hj with hj | rfl
    · exact h.cov j w hj hwj hg
    · rw [hw] at hwj; cases hwj; exact absurd hg n, fun g hg => Nat.le_succ_of_le (h.few g hg), Nat.le_succ_of_le h.short⟩
theorem GJ.new {R ws : List (List Nat)} {i : Nat} {gs : List (List Nat × List (List Nat))} {w0 : List Nat} (h : GJ R ws i gs) (hw : ws[i]? = some w0) (g0 : InG R w0) (n : ∀ g ∈ gs, QM.deed R g.1 ≠ QM.deed R (spw R w0)) : GJ R ws (i + 1) (gs ++ [(spw R w0, [w0])]) := by
  refine ⟨?_, fun g hg w hw' => ?_, fun j w hj hwj hg => ?_, fun g hg => ?_, by have := h.short; simp; omega⟩
  · rw [List.map_append, List.nodup_append]
    refine ⟨h.nd, by simp, fun a ha b hb e => ?_⟩
    obtain ⟨g, hg, rfl⟩ := List.mem_map.mp ha
    rw [List.mem_singleton.mp hb] at e
    exact n g hg e
  · rcases List.mem_append.mp hg with hg | hg
    · exact h.mem g hg w hw'
    · rw [List.mem_singleton.mp hg] at hw' ⊢
      rw [List.mem_singleton.mp hw']
      exact ⟨List.mem_of_getElem? hw, g0, rfl⟩
  · rcases Nat.lt_succ_iff_lt_or_eq.mp hj with hj | rfl
    · obtain ⟨g, a, b⟩ := h.cov j w hj hwj hg
      exact ⟨g, List.mem_append_left _ a, b⟩
    · rw [hw] at hwj; cases hwj
      exact ⟨_, List.mem_append_right _ (List.mem_singleton.mpr rfl), List.mem_singleton.mpr rfl⟩
  · rcases List.mem_append.mp hg with hg | hg
    · exact Nat.le_succ_of_le (h.few g hg)
    · rw [List.mem_singleton.mp hg]; simp
/-- a member more -/
noncomputable def gAdd (R : List (List Nat)) (w0 : List Nat) (gs : List (List Nat × List (List Nat))) : List (List Nat × List (List Nat)) := gs.map fun g => if QM.deed R g.1 = QM.deed R (spw R w0) then (g.1, g.2 ++ [w0]) else g
theorem GJ.add {R ws : List (List Nat)} {i : Nat} {gs : List (List Nat × List (List Nat))} {w0 : List Nat} (h : GJ R ws i gs) (hw : ws[i]? = some w0) (g0 : InG R w0) (n : ∃ g ∈ gs, QM.deed R g.1 = QM.deed R (spw R w0)) : GJ R ws (i + 1) (gAdd R w0 gs) := by
  have hk : (gAdd R w0 gs).map (fun g => QM.deed R g.1) = gs.map fun g => QM.deed R g.1 := by
    unfold gAdd
    rw [List.map_map]
    refine List.map_congr_left fun g _ => ?_
    show QM.deed R (if _ then (g.1, g.2 ++ [w0]) else g).1 = _
    split <;> rfl
  refine ⟨by rw [hk]; exact h.nd, fun g hg w hw' => ?_, fun j w hj hwj hg => ?_, fun g hg => ?_, by unfold gAdd; rw [List.length_map]; exact Nat.le_succ_of_le h.short⟩
  · obtain ⟨g1, hg1, rfl⟩ := List.mem_map.mp hg
    split at hw'
    · rename_i he
      rw [if_pos he]
      rcases List.mem_append.mp hw' with hw' | hw'
      · exact h.mem g1 hg1 w hw'
      · rw [List.mem_singleton.mp hw']
        exact ⟨List.mem_of_getElem? hw, g0, he.symm⟩
    · rename_i he
      rw [if_neg he]
      exact h.mem g1 hg1 w hw'
  · rcases Nat.lt_succ_iff_lt_or_eq.mp hj with hj | rfl
    · obtain ⟨g1, hg1, b⟩ := h.cov j w hj hwj hg
      refine ⟨_, List.mem_map.mpr ⟨g1, hg1, rfl⟩, ?_⟩
      split
      · exact List.mem_append_left _ b
      · exact b
    · rw [hw] at hwj; cases hwj
      obtain ⟨g1, hg1, he⟩ := n
      refine ⟨_, List.mem_map.mpr ⟨g1, hg1, rfl⟩, ?_⟩
      rw [if_pos he]
      exact List.mem_append_right _ (List.mem_singleton.mpr rfl)
  · obtain ⟨g1, hg1, rfl⟩ := List.mem_map.mp hg
    have := h.few g1 hg1
    split
    · simp; omega
    · omega
theorem putK_old {κ : Type} [DecidableEq κ] {kvs : List (κ × V)} {k : κ} {v : V} (h : k ∈ kvs.map (·.1)) : putK kvs k v = kvs.map fun kv => if kv.1 = k then (kv.1, v) else kv := by
  unfold putK
  rw [if_pos]
  rw [List.any_eq_true]
  obtain ⟨kv, h1, h2⟩ := List.mem_map.mp h
  exact ⟨kv, h1, decide_eq_true h2⟩
theorem nd_ixf {α β : Type} [DecidableEq β] {l : List α} {f : α → β} (nd : (l.map f).Nodup) {i j : Nat} {a b : α} (hi : l[i]? = some a) (hj : l[j]? = some b) (e : f a = f b) : i = j := by
  have h1 : (l.map f)[i]? = some (f a) := by rw [List.getElem?_map, hi]; rfl
  have h2 : (l.map f)[j]? = some (f b) := by rw [List.getElem?_map, hj]; rfl
  obtain ⟨x1, y1⟩ := List.getElem?_eq_some_iff.mp h1
  obtain ⟨x2, y2⟩ := List.getElem?_eq_some_iff.mp h2
  exact (List.getElem_inj (h₀ := x1) (h₁ := x2) nd).mp (by rw [y1, y2, e])
theorem GI.add {H' : Hp} {R : List (List Nat)} {kvs : List (List Key × V)} {gs : List (List Nat × List (List Nat))} {w0 : List Nat} {jx : Nat} {gx : List Nat × List (List Nat)} {lq : Addr} {ds : List V} {act : V} (h : GI H' R kvs gs) (nd : (gs.map fun g => QM.deed R g.1).Nodup)
    (hj : gs[jx]? = some gx) (he : QM.deed R gx.1 = QM.deed R (spw R w0)) (hds : ∀ (t : Nat) (w : List Nat), gx.2[t]? = some w → ∃ v, ds[t]? = some v ∧ TupN H' v (QM.deed R w)) (hdl : ds.length = gx.2.length) (hq : H' lq = some (.lst (ds ++ [act]))) (ha : TupN H' act (QM.deed R w0)) :
    GI H' R (putK kvs ((QM.deed R (spw R w0)).map ik) (.ref lq)) (gAdd R w0 gs) := by
  have hmem : (QM.deed R (spw R w0)).map ik ∈ kvs.map (·.1) := by
    rw [h.keys]
    exact List.mem_map.mpr ⟨gx, List.mem_of_getElem? hj, by rw [he]⟩
  rw [putK_old hmem]
  refine ⟨by unfold gAdd; rw [List.length_map, List.length_map, h.len], fun j g' hg' => ?_⟩
  unfold gAdd at hg'
  rw [List.getElem?_map] at hg'
  cases hg : gs[j]? with
  | none => rw [hg] at hg'; cases hg'
  | some g =>
    rw [hg] at hg'
    have hg' : (if QM.deed R g.1 = QM.deed R (spw R w0) then (g.1, g.2 ++ [w0]) else g) = g' := Option.some.inj hg'
    obtain ⟨lp, ds1, h1, h2, h3, h4⟩ := h.at_ j g hg
    by_cases hd : QM.deed R g.1 = QM.deed R (spw R w0)
    · rw [if_pos hd] at hg'
      subst hg'
      have : j = jx := nd_ixf (f := fun g : List Nat × List (List Nat) => QM.deed R g.1) nd hg hj (hd.trans he.symm)
      subst this
      rw [hj] at hg
      cases hg
      refine ⟨lq, ds ++ [act], ?_, hq, by simp [hdl], fun t w hw => ?_⟩
      · rw [List.getElem?_map, h1]
        show some (if _ then _ else _) = _
        rw [if_pos (by rw [hd])]
      · rw [List.getElem?_append] at hw
        split at hw
        · rename_i hlt
          obtain ⟨v, a, b⟩ := hds t w hw
          exact ⟨v, by rw [List.getElem?_append_left (by omega)]; exact a, b⟩
        · rename_i hlt
          have h0 : t - gx.2.length = 0 := by
            cases hk : t - gx.2.length with
            | zero => rfl
            | succ k => rw [hk] at hw; simp at hw
          rw [h0] at hw
          have hw := Option.some.inj (show some w0 = some w from hw)
          subst hw
          exact ⟨act, by rw [List.getElem?_append_right (by omega), show t - ds.length = 0 by omega]; rfl, ha⟩
    · rw [if_neg hd] at hg'
      subst hg'
      refine ⟨lp, ds1, ?_, h2, h3, h4⟩
      rw [List.getElem?_map, h1]
      show some (if _ then _ else _) = _
      rw [if_neg (fun e => hd (ikl_inj e))]
theorem GI.new {H' : Hp} {R : List (List Nat)} {kvs : List (List Key × V)} {gs : List (List Nat × List (List Nat))} {w0 : List Nat} {lq : Addr} {act : V} (h : GI H' R kvs gs) (n : ∀ g ∈ gs, QM.deed R g.1 ≠ QM.deed R (spw R w0)) (hq : H' lq = some (.lst [act])) (ha : TupN H' act (QM.deed R w0)) :
    GI H' R (putK kvs ((QM.deed R (spw R w0)).map ik) (.ref lq)) (gs ++ [(spw R w0, [w0])]) := by
  have hmem : (QM.deed R (spw R w0)).map ik ∉ kvs.map (·.1) := by
    rw [h.keys]
    intro hm
    obtain ⟨g, hg, e⟩ := List.mem_map.mp hm
    exact n g hg (ikl_inj e)
  rw [putK_new hmem]
  refine ⟨by simp [h.len], fun j g' hg' => ?_⟩
  rw [List.getElem?_append] at hg'
  split at hg'
  · rename_i hlt
    obtain ⟨lp, ds1, h1, h2, h3, h4⟩ := h.at_ j g' hg'
    exact ⟨lp, ds1, by rw [List.getElem?_append_left (by have := h.len; omega)]; exact h1, h2, h3, h4⟩
  · rename_i hlt
    have h0 : j - gs.length = 0 := by
      cases hk : j - gs.length with
      | zero => rfl
      | succ k => rw [hk] at hg'; simp at hg'
    rw [h0] at hg'
    have hg' := Option.some.inj (show some _ = some g' from hg')
    subst hg'
    refine ⟨lq, [act], by rw [List.getElem?_append_right (by have := h.len; omega), show j - kvs.length = 0 by have := h.len; omega]; rfl, hq, rfl, fun t w hw => ?_⟩
    match t, hw with
    | 0, hw => cases hw; exact ⟨act, rfl, ha⟩
    | t + 1, hw => simp at hw
/-! ### the law's kinds -/
def sp_l_kind : Sp := fun vs H Q _ => ∃ (cs : List Nat) (x : V) (ac : Addr) (R ws : List (List Nat)), vs = [.str (sO cs), x, .ref ac] ∧ cs.Nodup ∧ cs.length ≤ 4 ∧ TabT H x R ∧ DsAt H ac R ws ∧ FOk R cs.length ws ∧ TOk R cs.length ∧ R.length ≤ 6 ∧ ws.length ≤ 10 ∧
  ∀ H', Ex H H' → Q (.str (kS (kdR R cs.length))) H'
def sp_l_kind_without : Sp := fun vs H Q _ => ∃ (cs : List Nat) (tv av : V) (T : List (List Nat)) (A : List Nat) (B : List Nat), vs = [.str (sO cs), tv, av, .str (wO cs B)] ∧ MD cs T A ∧ TabT H tv T ∧ TupN H av A ∧ B.Pairwise (· < ·) ∧ (∀ b ∈ B, b < cs.length) ∧ B.length < cs.length ∧ (∃ R, Least T A cs.length R ∧ Few R cs.length 10) ∧
  ∀ H', Ex H H' → Q (.str (kS (kfOf T A cs.length B))) H'
noncomputable abbrev kinK (cs : List Nat) (kf : List Nat → Nat) (Bs : List (List Nat)) : List (Key × V) := Bs.map fun B => (Sum.inr (wO cs B), V.str (kS (kf B)))
def sp_l_due : Sp := fun vs H Q _ => ∃ (cs : List Nat) (kd lh : Addr) (kf : List Nat → Nat) (g : Nat), vs = [.ref kd, .ref lh, .str (kS g)] ∧ g ≤ 1 ∧ cs.Nodup ∧ 1 ≤ cs.length ∧ cs.length ≤ 4 ∧ H kd = some (.dK (kinK cs kf (lotsN cs.length))) ∧ H lh = some (.lst (dueS cs (lotsN cs.length))) ∧ (∀ B, kf B ≤ 2) ∧
  ∀ p H', Ex H H' → H p = none → H' p = some (.lst (dueS cs (dueL kf g (lotsN cs.length)))) → Q (.ref p) H'
/-- the law's machine: letters, table, accepted states, few deeds -/
structure LM (cs : List Nat) (T : List (List Nat)) (A : List Nat) : Prop where
  md : MD cs T A
  abc : ∀ x ∈ cs, 97 ≤ x ∧ x ≤ 122
  asc : A.Pairwise (· < ·)
  lt : ∀ q ∈ A, q < T.length
  few : ∃ R, Least T A cs.length R ∧ Few R cs.length 10
def sp_l_field (K : PySem.W.Frag) : Sp := fun vs H Q _ => ∃ (h c : Addr), vs = [.ref h, iv 4, iv 6, iv 10] ∧ HandAt K H h c ∧
  ∀ p (cs : List Nat) (tv av rv yv wv dv : V) (T : List (List Nat)) (A : List Nat) H', LM cs T A → Mo h H H' → HandAt K H' h c → TabT H' tv T → TupN H' av A → H' p = some (.tup [.str (sO cs), tv, av, rv, yv, wv, dv]) → Q (.ref p) H'
theorem few_of {R ws : List (List Nat)} {k n : Nat} (F : FOk R k ws) (t : TOk R k) (h : ws.length ≤ n) : Few R k n := fun us hu nd => by
  have := nodup_le nd (m := ws.map (QM.deed R)) fun x hx => by
    obtain ⟨u, h, rfl⟩ := List.mem_map.mp hx
    exact F.all t u (hu u h)
  rw [List.length_map, List.length_map] at this
  exact Nat.le_trans this h
/-- what is found: words and deeds, or too many -/
def Fd (H' : Hp) (i : Nat) (fv : V) (cs : List Nat) (T : List (List Nat)) (A : List Nat) : Prop :=
  (fv = .non ∧ cs.length + i ≤ 4 ∧ 2 ≤ cs.length) ∨ ∃ p wo de, fv = .ref p ∧ H' p = some (.tup [.ref wo, .ref de]) ∧ ∃ R, Least T A cs.length R ∧ Few R cs.length 10
theorem one_few {T R : List (List Nat)} {A : List Nat} {k : Nat} (l : Least T A k R) (h6 : R.length ≤ 6) (h1 : 1 ≤ k) (n : ¬ Few R k 10) : 2 ≤ k := by
  rcases Nat.lt_or_ge k 2 with h | h
  · have : k = 1 := by omega
    subst this
    exact absurd (few_mono (one_letter l) (by omega)) n
  · exact h
section
variable {σ : L2.St} {H : Hp} {ta : TE} {Q : VK} {x : V} {i : Int} {r : V → Hp → VK → Prop}
def kUn (r : V → Hp → VK → Prop) (Q : VK) : VK := fun x H1 => r x H1 Q
instance : Stp (tUn r ta σ H Q) (ta σ H (kUn r Q)) := ⟨id⟩
instance : Stp (kUn (rU fun i => V.int (-i)) Q (.int i) H) (Q (.int (-i)) H) := ⟨fun h => ⟨i, rfl, h⟩⟩
end
/-! ### the law -/
def pS (s : Str) : PyData := PyData.str s
theorem dp_strs {K : PySem.W.Frag} {H : Hp} : ∀ ss : List Str, DpAll K H (ss.map V.str) (ss.map pS)
  | [] => .nil
  | s :: ss => .cons (.str _) (dp_strs ss)
theorem eqv_strs : ∀ xs : List Str, PyData.eqvAll (xs.map pS) (xs.map pS) = true
  | [] => rfl
  | x :: xs => by
    rw [List.map_cons, PyData.eqvAll, eqv_strs xs]
    show ((x == x) && true) = true
    simp
theorem shaped_strs (xs : List Str) (hs : ∀ s ∈ xs, PyData.canLay0 (.str s) = true) : SeqAt.shaped (PyData.list (xs.map pS)) = true := by
  have h1 : ∀ xs : List Str, (∀ s ∈ xs, PyData.canLay0 (.str s) = true) → PyData.canLayAll0 (xs.map pS) = true ∧ PyData.depthAll (xs.map pS) = 0 := by
    intro xs
    induction xs with
    | nil => exact fun _ => ⟨rfl, rfl⟩
    | cons a t ih =>
      intro hs
      have ih := ih fun s hs' => hs s (List.mem_cons_of_mem _ hs')
      refine ⟨?_, ?_⟩
      · show (PyData.canLay0 (.str a) && PyData.canLayAll0 (t.map pS)) = true
        rw [ih.1, hs a (List.mem_cons_self ..)]
        rfl
      · show max 0 (PyData.depthAll (t.map pS)) = 0
        rw [ih.2]
        rfl
  unfold SeqAt.shaped
  have c : PyData.canLay0 (.list (xs.map pS)) = PyData.canLayAll0 (xs.map pS) := by rw [PyData.canLay0]
  have d : PyData.depth (.list (xs.map pS)) = PyData.depthAll (xs.map pS) + 1 := by rw [PyData.depth]
  rw [c, d, (h1 xs hs).1, (h1 xs hs).2]
  rfl
theorem lay_wO {cs : List Nat} (h : ∀ x ∈ cs, x ≤ 122) (B : List Nat) : PyData.canLay0 (.str (wO cs B)) = true := by
  rw [PyData.canLay0]
  show Array.all (B.map fun a => cs.getD a 0).toArray _ = true
  rw [List.all_toArray, List.all_eq_true]
  intro x hx
  obtain ⟨a, _, rfl⟩ := List.mem_map.mp hx
  have : cs.getD a 0 ≤ 122 := by
    rw [List.getD_eq_getElem?_getD]
    cases hq : cs[a]? with
    | none => exact Nat.zero_le _
    | some y => exact h y (List.mem_of_getElem? hq)
  exact decide_eq_true (by omega)
theorem r_neL {K : PySem.W.Frag} {H : Hp} {Q : VK} {a b : Addr} {ss : List Str} (hs : ∀ s ∈ ss, PyData.canLay0 (.str s) = true) (ha : SqL K H a (ss.map V.str)) (hb : SqL K H b (ss.map V.str)) (k : Q (.bl false) H) : rNeD K (.ref a) (.ref b) H Q := by
  refine ⟨_, _, .lst ha (dp_strs ss), .lst hb (dp_strs ss), shaped_strs ss hs, shaped_strs ss hs, ?_⟩
  rw [show PyData.eqv (.list (ss.map pS)) (.list (ss.map pS)) = true from (by rw [PyData.eqv]; exact eqv_strs ss)]
  exact k
theorem few_same {T R R' : List (List Nat)} {A : List Nat} {k n : Nat} (l : Least T A k R) (l' : Least T A k R') (f : Few R k n) : Few R' k n := fun ws hw nd => f ws hw (by
  refine List.pairwise_map.mpr (List.pairwise_iff_forall_sublist.mpr fun {u v} s e => ?_)
  have hu := hw u (s.subset (List.mem_cons_self ..))
  have hv := hw v (s.subset (List.mem_cons_of_mem _ (List.mem_cons_self ..)))
  exact List.pairwise_iff_forall_sublist.mp (List.pairwise_map.mp nd) s ((l'.deed hu hv).mpr ((l.deed hu hv).mp e)))
theorem HandAt.kpN {K : PySem.W.Frag} {H0 H H' : Hp} {S : List Addr} {h c : Addr} (t0 : HandAt K H0 h c) (t : HandAt K H h c) (e : Kp S H H') (n : ∀ x ∈ S, H0 x = none) : HandAt K H' h c := by
  obtain ⟨ns0, a0, r0, s0, n0, g1, g2, g3, g4⟩ := t0
  obtain ⟨ns, a, r, s, n', k1, k2, k3, k4⟩ := t
  have nh : ∀ {o : HO} {x : Addr}, H0 x = some o → x ∉ S := fun {o x} hx hm => by rw [n x hm] at hx; cases hx
  rcases g2 with (g2 | ⟨o, g2⟩) | g2
  · exact ⟨ns, a, r, s, n', e _ _ (nh g1) k1 (fun _ z => nomatch z), kpSqL e (nh g2) k2, k3, k4⟩
  · exact ⟨ns, a, r, s, n', e _ _ (nh g1) k1 (fun _ z => nomatch z), kpSqL e (nh g2) k2, k3, k4⟩
  · exact ⟨ns0, a, r, s, n', e _ _ (nh g1) k1 (fun _ z => nomatch z), .inr g2, k3, k4⟩
/-- a field stays while the hand is changed -/
theorem FAt.moH {K : PySem.W.Frag} {H H' : Hp} {F h c : Addr} {cs : List Nat} {R ws : List (List Nat)} (hF : FAt K H F cs R ws) (hH : HandAt K H h c) (m : Mo h H H') : FAt K H' F cs R ws := by
  have t := tp_moH hH m
  obtain ⟨ns, a, r, s, n, hh, _⟩ := hH
  obtain ⟨h1, wo, de, nu, bl, rs, ⟨dx', ds, h6, hne, h8, h9, h10, h11, h12⟩, h13, h14, h15⟩ := hF
  have one : 0 < ws.length := (List.getElem?_eq_some_iff.mp h1.f.zero).1
  have nwo : wo ≠ h := fun e => by
    rw [e, hh] at h8
    have := congrArg (fun o => match o with | some (HO.lst l) => l[0]? | _ => none) h8
    simp [h1.f.zero] at this
  have two : ∀ {l : List V}, (∀ i v, l[i]? = some v → ∃ b, v = V.ref b) → ∀ x, H x = some (.lst l) → x ≠ h := fun {l} hl x hx e => by
    rw [e, hh] at hx
    injection hx with hx
    injection hx with hx
    obtain ⟨b, hb⟩ := hl 1 (iv a) (by rw [← hx]; rfl)
    cases hb
  have nde : de ≠ h := two (fun i v hv => by
    have hi : i < ws.length := by rw [← h10]; exact (List.getElem?_eq_some_iff.mp hv).1
    obtain ⟨u, hu, b, rfl, _⟩ := h11 i _ (List.getElem?_eq_getElem hi)
    rw [hv] at hu
    exact ⟨b, Option.some.inj hu⟩) de h9
  have nbl : bl ≠ h := two (fun i v hv => by
    have hi : i < ws.length := by rw [← h14]; exact (List.getElem?_eq_some_iff.mp hv).1
    obtain ⟨b, hb, _⟩ := h15 i _ (List.getElem?_eq_getElem hi)
    rw [hv] at hb
    exact ⟨b, Option.some.inj hb⟩) bl h13
  refine ⟨h1, wo, de, nu, bl, rs, ⟨dx', ds, m _ _ (fun e => by rw [e, hh] at h6; cases h6) h6, hne, m _ _ nwo h8, m _ _ nde h9, h10, fun i w hi => ?_, m _ _ (fun e => by rw [e, hh] at h12; cases h12) h12⟩, m _ _ nbl h13, h14, fun i w hi => ?_⟩
  · obtain ⟨v, a, b⟩ := h11 i w hi
    exact ⟨v, a, b.tp t⟩
  · obtain ⟨b, a', c'⟩ := h15 i w hi
    refine ⟨b, a', m _ _ (fun e => ?_) c'⟩
    rw [e, hh] at c'
    injection c' with c'
    injection c' with c'
    have := congrArg List.length c'
    simp at this
    have := h1.four
    omega
/-- what is known of the machine between the law's calls -/
def MS (K : PySem.W.Frag) (H : Hp) (m lo mo : Addr) (cs : List Nat) (T : List (List Nat)) (A : List Nat) (G : List (List Nat) → Prop) : Prop :=
  MAt K H m cs T A .non .non lo mo ∨ ∃ L F R A' ws, MAt K H m cs T A (.ref L) (.ref F) lo mo ∧ LAt K H L cs R A' ∧ FAt K H F cs R ws ∧ G R
theorem MS.exN {K : PySem.W.Frag} {H H' : Hp} {m lo mo : Addr} {cs : List Nat} {T : List (List Nat)} {A : List Nat} {G : List (List Nat) → Prop} (h : MS K H m lo mo cs T A G) (e : LamX.ExtN H H') : MS K H' m lo mo cs T A G := by
  rcases h with h | ⟨L, F, R, A', ws, h1, h2, h3, h4⟩
  · exact .inl (h.exN e)
  · exact .inr ⟨L, F, R, A', ws, h1.exN e, h2.exN e, h3.exN e, h4⟩
theorem MS.moH {K : PySem.W.Frag} {H H' : Hp} {h c m lo mo : Addr} {cs : List Nat} {T : List (List Nat)} {A : List Nat} {G : List (List Nat) → Prop} (t : MS K H m lo mo cs T A G) (hH : HandAt K H h c) (e : Mo h H H') : MS K H' m lo mo cs T A G := by
  have tt := tp_moH hH e
  obtain ⟨ns, a, r, s, n, hh, _⟩ := id hH
  have ni : ∀ {x C dx : Addr} {fs : List (Str × V)}, H x = some (.ins C dx fs) → ∀ o, H x = some o → H' x = some o := fun {x C dx fs} hx o ho => e _ _ (fun z => by rw [z, hh] at hx; cases hx) ho
  have mm : ∀ {kl kf}, MAt K H m cs T A kl kf lo mo → MAt K H' m cs T A kl kf lo mo := fun {kl kf} q => by
    obtain ⟨C, dx, tb, ac, z⟩ := q.ins
    exact q.mo (ni z) tt
  rcases t with q | ⟨L, F, R, A', ws, h1, h2, h3, h4⟩
  · exact .inl (mm q)
  · refine .inr ⟨L, F, R, A', ws, mm h1, ?_, h3.moH hH e, h4⟩
    obtain ⟨_, kf, lo', mo', q⟩ := id h2
    obtain ⟨C, dx, tb, ac, z⟩ := q.ins
    exact h2.mo (ni z) tt
theorem MS.use {K : PySem.W.Frag} {H : Hp} {m lo mo : Addr} {cs : List Nat} {T : List (List Nat)} {A : List Nat} {G : List (List Nat) → Prop} (t : MS K H m lo mo cs T A G) (hG : ∀ R, Least T A cs.length R → G R) : ∃ kl kf, MAt K H m cs T A kl kf lo mo ∧ LPre K H cs T A kl G ∧ FPre K H cs kl kf G := by
  rcases t with q | ⟨L, F, R, A', ws, h1, h2, h3, h4⟩
  · exact ⟨_, _, q, .inl ⟨rfl, hG⟩, .inl rfl⟩
  · exact ⟨_, _, h1, .inr ⟨L, R, A', rfl, h2, h4⟩, .inr ⟨F, L, R, A', ws, rfl, rfl, h2, h3, h4⟩⟩
def sp_law (K : PySem.W.Frag) (P0 : Addr) : Sp := fun vs H Q _ => ∃ (a : Addr) (ns : List Int), vs = [.ref a] ∧ SqL K H a (ns.map V.int) ∧ LamX.Tabs [(P0, qLam)] H ∧ ∀ H', Q (.bl true) H'
/-- what stays between the law's calls -/
structure FX (H : Hp) (kd lh gl lo mo : Addr) (KD : List (Key × V)) (LH GL : List V) : Prop where
  kd_ : H kd = some (.dK KD)
  lh_ : H lh = some (.lst LH)
  gl_ : H gl = some (.lst GL)
  lo_ : H lo = some (.dK [])
  mo_ : H mo = some (.dK [])
theorem FX.kp {H H' : Hp} {kd lh gl lo mo : Addr} {KD : List (Key × V)} {LH GL : List V} {S : List Addr} (f : FX H kd lh gl lo mo KD LH GL) (e : Kp S H H') (n : ∀ x ∈ S, x ≠ kd ∧ x ≠ lh ∧ x ≠ gl ∧ x ≠ lo ∧ x ≠ mo) : FX H' kd lh gl lo mo KD LH GL :=
  ⟨e _ _ (fun z => (n _ z).1 rfl) f.kd_ (fun _ z => nomatch z), e _ _ (fun z => (n _ z).2.1 rfl) f.lh_ (fun _ z => nomatch z), e _ _ (fun z => (n _ z).2.2.1 rfl) f.gl_ (fun _ z => nomatch z), e _ _ (fun z => (n _ z).2.2.2.1 rfl) f.lo_ (fun _ z => nomatch z), e _ _ (fun z => (n _ z).2.2.2.2 rfl) f.mo_ (fun _ z => nomatch z)⟩
theorem FX.exN {H H' : Hp} {kd lh gl lo mo : Addr} {KD : List (Key × V)} {LH GL : List V} (f : FX H kd lh gl lo mo KD LH GL) (e : LamX.ExtN H H') : FX H' kd lh gl lo mo KD LH GL := f.kp (S := []) (Kp.exN e) fun x hx => nomatch hx
theorem FX.ne {H : Hp} {kd lh gl lo mo x : Addr} {KD : List (Key × V)} {LH GL : List V} (f : FX H kd lh gl lo mo KD LH GL) (n : H x = none) : x ≠ kd ∧ x ≠ lh ∧ x ≠ gl ∧ x ≠ lo ∧ x ≠ mo :=
  ⟨Ne.symm (ne_of_none f.kd_ n), Ne.symm (ne_of_none f.lh_ n), Ne.symm (ne_of_none f.gl_ n), Ne.symm (ne_of_none f.lo_ n), Ne.symm (ne_of_none f.mo_ n)⟩
theorem FX.mo {H H' : Hp} {kd lh gl lo mo x : Addr} {KD : List (Key × V)} {LH GL : List V} (f : FX H kd lh gl lo mo KD LH GL) (e : Mo x H H') (n : x ≠ kd ∧ x ≠ lh ∧ x ≠ gl ∧ x ≠ lo ∧ x ≠ mo) : FX H' kd lh gl lo mo KD LH GL := f.kp (S := [x]) (Kp.mo e (List.mem_singleton.mpr rfl)) fun y hy => by rw [List.mem_singleton.mp hy]; exact n
theorem extN_mo {H0 H H' : Hp} {x : Addr} (e : LamX.ExtN H0 H) (m : Mo x H H') (n : H0 x = none) : LamX.ExtN H0 H' := fun a o h t => m a o (ne_of_none h n) (e a o h t)
theorem dueS_eq (cs : List Nat) (Bs : List (List Nat)) : dueS cs Bs = (Bs.map (wO cs)).map V.str := by rw [List.map_map]; rfl
theorem kS_of {x : V} {zs : List V} {i : Nat} (hp : zs.Perm [.str "fixed", .str "digits"]) (h : zs[i]? = some x) : ∃ g, g ≤ 1 ∧ x = .str (kS g) := by
  have := hp.mem_iff.mp (List.mem_of_getElem? h)
  rcases List.mem_cons.mp this with rfl | this
  · exact ⟨0, by omega, rfl⟩
  · rw [List.mem_singleton.mp this]
    exact ⟨1, by omega, rfl⟩
theorem takeL_not {α : Type} {l : List α} {i : Nat} {x : α} (nd : l.Nodup) (h : l[i]? = some x) : x ∉ l.take i := by
  intro hm
  obtain ⟨j, hj, e⟩ := List.mem_take_iff_getElem.mp hm
  obtain ⟨hi, e2⟩ := List.getElem?_eq_some_iff.mp h
  have := (List.getElem_inj (h₀ := by omega) (h₁ := hi) nd).mp (e.trans e2.symm)
  omega
end QP

set_option Elab.async false
set_option linter.all false
set_option maxRecDepth 100000
set_option maxHeartbeats 1000000
namespace QP
open PySem PySem.Spec PyProof.Rows L2
local macro_rules | `(tactic| walk_at "ne") => `(tactic| first
  | assumption | exact Ne.symm (by assumption)
  | exact nTL (by assumption) (by assumption) | exact nTK (by assumption) (by assumption) | exact nTD (by assumption) (by assumption) | exact nTI (by assumption) (by assumption)
  | exact nLT (by assumption) (by assumption) | exact nLK (by assumption) (by assumption) | exact nLD (by assumption) (by assumption) | exact nLI (by assumption) (by assumption)
  | exact nKL (by assumption) (by assumption) | exact nKD (by assumption) (by assumption) | exact nKI (by assumption) (by assumption)
  | exact nDL (by assumption) (by assumption) | exact nDK (by assumption) (by assumption) | exact nDI (by assumption) (by assumption)
  | exact nIL (by assumption) (by assumption) | exact nIK (by assumption) (by assumption) | exact nID (by assumption) (by assumption)
  | exact ne_of_none (by assumption) (by assumption) | exact Ne.symm (ne_of_none (by assumption) (by assumption)))
local macro_rules | `(tactic| walk_at "hp") => `(tactic| first
  | assumption
  | solve_by_elim (maxDepth := 3)
  | solve_by_elim (maxDepth := 6))
local macro_rules | `(tactic| walk_at "sz") => `(tactic| first | (rw [sizeLine_eq]; simp only [List.length_cons, List.length_nil, List.length_map, List.length_append]; omega) | (rw [sizeLine_eq]; omega))
local macro_rules | `(tactic| walk_at "cls") => `(tactic| first | with_reducible exact FCls.cls (Txt.cF (by assumption)) | with_reducible exact LCls.cls (Txt.cL (by assumption)) | with_reducible exact MCls.cls (Txt.cR (by assumption)) | with_reducible exact MCls.cls (Txt.cM (by assumption)) | with_reducible exact MCls.cls (by assumption))
local macro_rules | `(tactic| walk_at "na") => `(tactic| first
  | with_reducible exact FCls.letters (Txt.cF (by assumption)) | with_reducible exact FCls.words (Txt.cF (by assumption)) | with_reducible exact FCls.deeds (Txt.cF (by assumption)) | with_reducible exact FCls.number (Txt.cF (by assumption)) | with_reducible exact FCls.by_letter (Txt.cF (by assumption))
  | with_reducible exact LCls.lot (Txt.cL (by assumption)) | with_reducible exact LCls.field (Txt.cL (by assumption)) | with_reducible exact LCls.places (Txt.cL (by assumption)) | with_reducible exact LCls.full_words (Txt.cL (by assumption)) | with_reducible exact LCls.made (Txt.cL (by assumption)) | with_reducible exact LCls.core (Txt.cL (by assumption))
  | with_reducible exact MCls.kept_letters (by assumption) | with_reducible exact MCls.kept_table (by assumption) | with_reducible exact MCls.kept_accepts (by assumption) | with_reducible exact MCls.kept_least (by assumption) | with_reducible exact MCls.kept_field (by assumption) | with_reducible exact MCls.kept_lots (by assumption) | with_reducible exact MCls.kept_more (by assumption)
  | with_reducible exact MCls.kept_letters (Txt.cR (by assumption)) | with_reducible exact MCls.kept_table (Txt.cR (by assumption)) | with_reducible exact MCls.kept_accepts (Txt.cR (by assumption)) | with_reducible exact MCls.kept_least (Txt.cR (by assumption)) | with_reducible exact MCls.kept_field (Txt.cR (by assumption)) | with_reducible exact MCls.kept_lots (Txt.cR (by assumption)) | with_reducible exact MCls.kept_more (Txt.cR (by assumption))
  | with_reducible exact MCls.kept_letters (Txt.cM (by assumption)) | with_reducible exact MCls.kept_table (Txt.cM (by assumption)) | with_reducible exact MCls.kept_accepts (Txt.cM (by assumption)) | with_reducible exact MCls.kept_least (Txt.cM (by assumption)) | with_reducible exact MCls.kept_field (Txt.cM (by assumption)) | with_reducible exact MCls.kept_lots (Txt.cM (by assumption)) | with_reducible exact MCls.kept_more (Txt.cM (by assumption)))
local macro_rules | `(tactic| walk_at "lk") => `(tactic| first
  | with_reducible assumption | with_reducible exact mf1 | with_reducible exact mf2 | with_reducible exact mf3 | with_reducible exact mf4 | with_reducible exact mf5 | with_reducible exact mf6 | with_reducible exact mf7 | with_reducible exact ff1 | with_reducible exact ff2 | with_reducible exact ff3 | with_reducible exact ff4 | with_reducible exact ff5
  | with_reducible exact lf1 | with_reducible exact lf2 | with_reducible exact lf3 | with_reducible exact lf4 | with_reducible exact lf5 | with_reducible exact lf6 | exact rfl)
local macro_rules | `(tactic| walk_at "w1") => `(tactic| first
  | refine Stp.go ?_ | with_reducible refine w_var rfl ?_
  | ((with_reducible apply k_fld); walk_at "hp"; walk_at "cls"; walk_at "na"; walk_at "lk")
  | with_reducible refine w_aug rfl ?_ | with_reducible refine k_elN rfl ?_ | with_reducible refine k_elTN rfl ?_)
local macro_rules | `(tactic| walk_at "sf") => `(tactic| ((with_reducible apply k_sf2); walk_at "hp"; walk_at "cls"; walk_at "na"; exact Nat.le_of_ble_eq_true rfl; exact rfl))
local macro_rules | `(tactic| walk_at "ws") => `(tactic| repeat walk_at "w1")

/-! ## Field_times -/
section
variable {P : Program} {w : World} {K : PySem.W.Frag} {mg : Str → Option Value} {base : Heap}
abbrev N_Field_times : List Str := ["self", "one", "other"]
theorem sc_Field_times : FnScope N_Field_times ["self", "one", "other"] (defScope s_Field_times) := ⟨rfl, rfl, rfl, by decide +kernel, rfl, by decide +kernel, by decide +kernel⟩
theorem valV_zipT {fs : List (List Nat)} {l : List Nat} (nd : fs.Nodup) (h : l ∈ fs) : valV (fs.zipIdx.map fun p => (p.1.map ik, iv p.2)) (l.map ik) = some (iv (QM.ixOf fs l)) := by
  have inj : ∀ a b : List Nat, a.map ik = b.map ik → a = b := fun a b e => by
    have := congrArg (List.map fun k : Key => match k with | .inl i => i.toNat | .inr _ => 0) e
    simpa [List.map_map, Function.comp_def] using this
  have gen : ∀ (fs : List (List Nat)) (n : Nat), fs.Nodup → l ∈ fs → valV ((fs.zipIdx n).map fun p => (p.1.map ik, iv p.2)) (l.map ik) = some (iv (n + QM.ixOf fs l)) := by
    intro fs
    induction fs with
    | nil => intro n _ h; cases h
    | cons a t ih =>
      intro n nd h
      have nd' := List.nodup_cons.mp nd
      rw [List.zipIdx_cons, List.map_cons]
      by_cases e : a = l
      · subst e
        rw [valV_pos rfl]
        rw [QM.ix_self]
        rfl
      · rw [valV_neg (fun z => e (inj _ _ z)), ih (n + 1) nd'.2 ((List.mem_cons.mp h).elim (fun z => absurd z.symm e) id)]
        rw [QM.ix_ne e, Nat.add_assoc, Nat.add_comm 1]
  rw [gen fs 0 nd h, Nat.zero_add]
theorem ok_Field_times {f : Addr} {fd : FuncData} (F : FnM K "times" "Field.times" s_Field_times f fd) (T : Txt K mg) (k_after : Kn P w K mg base CX0 1 "after" ["one", "other"] sp_after) : FnOk P w K mg base CX0 2 f fd ["self", "one", "other"] (sp_times K) := by
  refine F.ok sc_Field_times (fun vs H Q E h => ?_) (fun cdv A outer s H vs Q E hr h => ?_)
  · obtain ⟨Fa, cs, R, ws, u, v, rfl, _⟩ := h
    rfl
  · obtain ⟨Fa, cs, R, ws, u, v, rfl, ⟨B, wo, de, nu, bl, rs, ⟨dx, ds, hF, hwd, hwo, hde, hdl, hdv, hnu⟩, hbl, hrl, hrows⟩, hu, hv, k⟩ := h
    refine ⟨_, PSs.nox (pss_one (ps_ret (pe_dget (hu_of hr) (pe_fldK (K := K) (pv 0)) (pe_kn k_after (hr.mono (by decide)) rfl (pa_cons (pe_ix (ixL (K := K)) (pe_fldK (K := K) (pv 0)) (pv 1) (fun _ _ => rfl)) (pa_cons (pe_ix (ixL (K := K)) (pe_fldK (K := K) (pv 0)) (pv 2) (fun _ _ => rfl)) pa_nil))) (fun _ _ => rfl)))), ?_⟩
    obtain ⟨u', hu1, hu2, hu3⟩ := B.f.get B.t hu
    obtain ⟨v', hv1, hv2, hv3⟩ := B.f.get B.t hv
    obtain ⟨du, du1, du2⟩ := hdv _ _ hu1
    obtain ⟨dv, dv1, dv2⟩ := hdv _ _ hv1
    have huv : QM.Ok cs.length (u ++ v) := hu.app hv
    walk_at "ws"
    refine r_ixL (SqL.of hde) du1 ?_
    walk_at "ws"
    refine r_ixL (SqL.of hde) dv1 ?_
    walk_at "ws"
    refine ⟨du, dv, _, _, rfl, du2, dv2, fun q hq => by rw [QM.deed_len]; exact QM.deed_lt B.t hu2 q hq, by rw [QM.deed_len]; have := B.six; omega, fun x H1 e1 hx => ?_⟩
    rw [QM.deed_app B.t hu2, QM.deed_cong B.t hu2 hu hu3 hv3] at hx
    obtain ⟨xa, rfl, hxa⟩ := hx
    refine k_dg2T (e1 _ _ hnu) (ks := (QM.deed R (u ++ v)).map ik) (by rw [hxa, List.map_map]; rfl) (valV_zipT B.f.nd (B.f.all B.t _ huv)) ?_
    walk_at "ws"
    exact k _ e1
end

/-! ## after -/
section
variable {P : Program} {w : World} {K : PySem.W.Frag} {mg : Str → Option Value} {base : Heap}
abbrev N_after : List Str := ["one", "other", "state"]
theorem sc_after : FnScope N_after ["one", "other"] (defScope s_after) := ⟨rfl, rfl, rfl, by decide +kernel, rfl, by decide +kernel, by decide +kernel⟩
theorem ok_after {f : Addr} {fd : FuncData} (F : FnP K "after" s_after f fd) (T : Txt K mg) : FnOk P w K mg base CX0 1 f fd ["one", "other"] sp_after := by
  refine F.ok sc_after (fun vs H Q E h => ?_) (fun cdv A outer s H vs Q E hr h => ?_)
  · obtain ⟨x, y, a, b, rfl, _⟩ := h
    rfl
  · obtain ⟨x, y, a, b, rfl, ⟨pa, rfl, ha⟩, ⟨pb, rfl, hb⟩, hq, hl, k⟩ := h
    refine ⟨_, PSs.nox (pss_one (ps_ret (pe_tupleOfK (K := K) rfl T.tuple (pe_lc (own := [("state", 2)]) rfl sc_after.nd (pi_seqK (K := K) (pv 0)) (blkOk_by (own := [("state", 2)]) (N := N_after) (sc := defScope s_after) (by decide +kernel)) (fun _ _ _ _ _ => (pg_name (i := 2) sc_after.nd rfl (by first | exact Or.inl rfl | exact Or.inr rfl))) (fun _ _ _ _ _ => pts_nil) (fun _ _ _ _ _ => (pe_ix (ixT (K := K)) (pv 1) (pv 2) (fun _ _ => rfl))))))), ?_⟩
    walk_at "ws"
    refine k_iS (b := false) (SqT.of ha) ?_
    refine k_lcSP (by simp; omega) (a.map fun q => iv (b.getD q 0)) (by simp) (SqT.of ha) (fun j x H1 Qc hx e k1 => ?_) (fun Dl H1 _ e1 h1 => ?_)
    · obtain ⟨q, hq1, rfl⟩ := at_map hx
      walk_at "ws"
      have hlt : q < b.length := hq q (List.mem_of_getElem? hq1)
      refine r_ixT (SqT.of (e _ _ hb)) (at_iv hlt) ?_
      exact k1 _ _ (by simp [hq1]) Ex.rfl'
    · refine k_tupleL (SqL.of h1) fun p H2 _ e2 h2 => ?_
      exact k _ _ (e1.tr e2) ⟨p, rfl, by rw [h2]; unfold QM.after; rw [List.map_map]; rfl⟩
end

/-! ## is_integer -/
section
variable {P : Program} {w : World} {K : PySem.W.Frag} {mg : Str → Option Value} {base : Heap}
abbrev N_is_integer : List Str := ["thing"]
theorem sc_is_integer : FnScope N_is_integer ["thing"] (defScope s_is_integer) := ⟨rfl, rfl, rfl, by decide +kernel, rfl, by decide +kernel, by decide +kernel⟩
theorem ok_is_integer {f : Addr} {fd : FuncData} (F : FnP K "is_integer" s_is_integer f fd) (T : Txt K mg) : FnOk P w K mg base CX0 1 f fd ["thing"] sp_is_integer := by
  refine F.ok sc_is_integer (fun vs H Q E h => ?_) (fun cdv A outer s H vs Q E hr h => ?_)
  · obtain ⟨i, rfl, _⟩ := h
    rfl
  · obtain ⟨i, rfl, k⟩ := h
    refine ⟨_, PSs.nox (pss_one (ps_ret (pe_and (pe_callB (callIsi (K := K)) (by rfl) T.isinstance (by decide +kernel) (pa_cons (pv 0) (pa_cons (T.ty_int rfl) pa_nil))) (pe_one (pe_not (pe_callB (callIsi (K := K)) (by rfl) T.isinstance (by decide +kernel) (pa_cons (pv 0) (pa_cons (T.ty_bool rfl) pa_nil)))))))), ?_⟩
    walk_at "ws"
    refine r_isi (b := true) (.base (.int i)) (by decide +kernel) ?_
    refine k_andV (fun _ => ?_) (fun z => by cases z)
    walk_at "ws"
    refine r_isi (b := false) (.base (.int i)) (by decide +kernel) ?_
    walk_at "ws"
    exact k _ Ex.rfl'
end

/-! ## is_string_of -/
section
variable {P : Program} {w : World} {K : PySem.W.Frag} {mg : Str → Option Value} {base : Heap}
abbrev N_is_string_of : List Str := ["thing", "signs", "sign"]
theorem sc_is_string_of : FnScope N_is_string_of ["thing", "signs"] (defScope s_is_string_of) := ⟨rfl, rfl, rfl, by decide +kernel, rfl, by decide +kernel, by decide +kernel⟩
theorem ok_is_string_of {f : Addr} {fd : FuncData} (F : FnP K "is_string_of" s_is_string_of f fd) (T : Txt K mg) : FnOk P w K mg base CX0 1 f fd ["thing", "signs"] sp_is_string_of := by
  refine F.ok sc_is_string_of (fun vs H Q E h => ?_) (fun cdv A outer s H vs Q E hr h => ?_)
  · obtain ⟨xs, ss, rfl, _⟩ := h
    rfl
  · obtain ⟨xs, ss, rfl, hin, k⟩ := h
    refine ⟨_, PSs.nox (pss_cons (ps_if (pt_not (pt_val (pe_callB (callIsi (K := K)) (by rfl) T.isinstance (by decide +kernel) (pa_cons (pv 0) (pa_cons (T.ty_str rfl) pa_nil)))))
    (pss_one (ps_ret pe_bl))
    pss_nil)
    (pss_cons (ps_for PassesOwn.never rfl (pi_str (pv 0)) (pg_name (i := 2) sc_is_string_of.nd rfl (by first | exact Or.inl rfl | exact Or.inr rfl))
    (pss_one (ps_if (pt_cmpR op_notInS (pv 2) (pv 1) rfl)
    (pss_one (ps_ret pe_bl))
    pss_nil)))
    (pss_one (ps_ret pe_bl)))), ?_⟩
    walk_at "ws"
    refine r_isi (b := true) (.base (.str _)) (by decide +kernel) ?_
    walk_at "ws"
    refine k_if (fun z => by cases z) fun _ => ?_
    walk_at "ws"
    refine k_forT (fun _ σ H' => Ex H H' ∧ ∃ z, σ = [some (.str (sO xs)), some (.str (sO ss)), z]) ⟨Ex.rfl', _, rfl⟩ ?_ ?_
    · rintro i c σ H1 hc ⟨e, z, rfl⟩
      walk_at "ws"
      have hm : c ∈ ss := hin c (List.mem_of_getElem? (by simpa using hc))
      have hd : decide (c ∈ (sO ss).cps.toList) = true := decide_eq_true (by simpa using hm)
      rw [hd]
      refine k_if (fun z => by cases z) fun _ => ?_
      walk_at "ws"
      exact ⟨e, _, rfl⟩
    · rintro σ H1 ⟨e, z, rfl⟩
      walk_at "ws"
      exact k _ e
end

/-! ## is_ascending -/
section
variable {P : Program} {w : World} {K : PySem.W.Frag} {mg : Str → Option Value} {base : Heap}
abbrev N_is_ascending : List Str := ["thing", "one", "other"]
theorem sc_is_ascending : FnScope N_is_ascending ["thing"] (defScope s_is_ascending) := ⟨rfl, rfl, rfl, by decide +kernel, rfl, by decide +kernel, by decide +kernel⟩
theorem asc_pair {xs : List Nat} (h : xs.Pairwise (· < ·)) {i : Nat} {a b : Nat} (ha : xs[i]? = some a) (hb : (xs.drop 1)[i]? = some b) : a < b := by
  rw [List.getElem?_drop] at hb
  obtain ⟨h1, e1⟩ := List.getElem?_eq_some_iff.mp ha
  obtain ⟨h2, e2⟩ := List.getElem?_eq_some_iff.mp hb
  rw [← e1, ← e2]
  exact List.pairwise_iff_getElem.mp h i (1 + i) h1 h2 (by omega)
theorem ok_is_ascendingS {f : Addr} {fd : FuncData} (F : FnP K "is_ascending" s_is_ascending f fd) (T : Txt K mg) : FnOk P w K mg base CX0 1 f fd ["thing"] sp_is_ascendingS := by
  refine F.ok sc_is_ascending (fun vs H Q E h => ?_) (fun cdv A outer s H vs Q E hr h => ?_)
  · obtain ⟨xs, rfl, _⟩ := h
    rfl
  · obtain ⟨xs, rfl, hp, hl, k⟩ := h
    refine ⟨_, PSs.nox (pss_cons (ps_for PassesOwn.never rfl (pi_zipX (K := K) rfl T.zip (pa_cons (pv 0) (pa_cons (pe_slice sl_str (pv 0) (po_some pe_int) po_none) pa_nil))) (pg_tupK (K := K) rfl (pgs_cons (pg_name (i := 1) sc_is_ascending.nd rfl (by first | exact Or.inl rfl | exact Or.inr rfl)) (pgs_cons (pg_name (i := 2) sc_is_ascending.nd rfl (by first | exact Or.inl rfl | exact Or.inr rfl)) pgs_nil)))
    (pss_one (ps_if (pt_cmpR op_geS (pv 1) (pv 2) (nomark _))
    (pss_one (ps_ret pe_bl))
    pss_nil)))
    (pss_one (ps_ret pe_bl))), ?_⟩
    walk_at "ws"
    by_cases h0 : 1 ≤ xs.length
    · refine r_slSfrom (by omega) h0 ?_
      walk_at "ws"
      refine k_iZX (.txt (sO xs)) (.txt (sO (xs.drop 1))) (xs := sgn (sO xs)) (ys := sgn (sO (xs.drop 1))) rfl rfl ?_
      refine k_for (walk_zipX rfl) (fun _ σ H' => Ex H H' ∧ ∃ y z, σ = [some (.str (sO xs)), y, z]) ⟨Ex.rfl', _, _, rfl⟩ (fun _ _ _ _ => ⟨rfl, rfl⟩) ?_ ?_
      · rintro i v σ H1 H2 hi ⟨e, y, z, rfl⟩ ⟨T1, x1, x2, rfl, hT, rfl, g1, g2⟩
        obtain ⟨a, ha, rfl⟩ := at_map g1
        obtain ⟨b, hb, rfl⟩ := at_map g2
        refine ⟨T1, _, rfl, SqT.of upd_same, rfl, _, _, rfl, _, _, rfl, rfl, ?_⟩
        walk_at "ws"
        have hlt : a < b := asc_pair hp (by simpa using ha) (by simpa using hb)
        have hd : (!decide ([a] < [b])) = false := by
          have : [a] < [b] := by simp [List.cons_lt_cons_iff, hlt]
          simp [this]
        rw [show (!decide ((⟨#[a]⟩ : Str).cps.toList < (⟨#[b]⟩ : Str).cps.toList)) = false from hd]
        refine k_if (fun z => by cases z) fun _ => ?_
        walk_at "ws"
        exact ⟨e.tr (Ex.new hT), _, _, rfl⟩
      · rintro σ H1 ⟨e, y, z, rfl⟩
        walk_at "ws"
        exact k _ e
    · have e0 : xs = [] := List.eq_nil_of_length_eq_zero (by omega)
      subst e0
      refine ⟨_, rfl, by rw [slen, sizeLine_eq]; simp, ?_⟩
      walk_at "ws"
      refine k_iZX (.txt (sO [])) (.txt _) (xs := []) rfl rfl ?_
      refine k_for (walk_zipX (n := 0) (Nat.zero_min _).symm) (fun _ σ H' => Ex H H' ∧ ∃ y z, σ = [some (.str (sO [])), y, z]) ⟨Ex.rfl', _, _, rfl⟩ (fun _ _ _ _ => ⟨rfl, rfl⟩) (fun i _ _ _ _ hi => absurd hi (by omega)) ?_
      rintro σ H1 ⟨e, y, z, rfl⟩
      walk_at "ws"
      exact k _ e
theorem ok_is_ascendingT {f : Addr} {fd : FuncData} (F : FnP K "is_ascending" s_is_ascending f fd) (T : Txt K mg) : FnOk P w K mg base CX0 1 f fd ["thing"] sp_is_ascendingT := by
  refine F.ok sc_is_ascending (fun vs H Q E h => ?_) (fun cdv A outer s H vs Q E hr h => ?_)
  · obtain ⟨x, ns, rfl, _⟩ := h
    rfl
  · obtain ⟨x, ns, rfl, ⟨a, rfl, ha⟩, hp, hl, k⟩ := h
    refine ⟨_, PSs.nox (pss_cons (ps_for PassesOwn.never rfl (pi_zipX (K := K) rfl T.zip (pa_cons (pv 0) (pa_cons (pe_slice (slA (K := K)) (pv 0) (po_some pe_int) po_none) pa_nil))) (pg_tupK (K := K) rfl (pgs_cons (pg_name (i := 1) sc_is_ascending.nd rfl (by first | exact Or.inl rfl | exact Or.inr rfl)) (pgs_cons (pg_name (i := 2) sc_is_ascending.nd rfl (by first | exact Or.inl rfl | exact Or.inr rfl)) pgs_nil)))
    (pss_one (ps_if (pt_cmpR op_ge (pv 1) (pv 2) (nomark _))
    (pss_one (ps_ret pe_bl))
    pss_nil)))
    (pss_one (ps_ret pe_bl))), ?_⟩
    walk_at "ws"
    refine r_slA (ys := (ns.drop 1).map iv) ha ?_ fun q H1 e1 h1 => ?_
    · unfold cutV
      rw [show (some (1 : Int)) = some ((1 : Nat) : Int) from rfl, HT.sIx_nat, HT.sIx_none]
      rw [List.take_of_length_le (by simp)]
      simp only [List.length_map, List.map_drop]
      rcases Nat.le_total 1 ns.length with h | h
      · rw [Nat.min_eq_left h]
      · rw [Nat.min_eq_right h, List.drop_of_length_le (by simp), List.drop_of_length_le (by simp; omega)]
    · walk_at "ws"
      refine k_iZX (.tup a) (.tup q) (xs := ns.map iv) (ys := (ns.drop 1).map iv) (SqT.of (e1 _ _ ha)) (SqT.of h1) ?_
      refine k_for (walk_zipX rfl) (fun _ σ H' => Ex H1 H' ∧ ∃ y z, σ = [some (.ref a), y, z]) ⟨Ex.rfl', _, _, rfl⟩ (fun _ _ _ p => ⟨SqT.of (p.1 _ _ (e1 _ _ ha)), SqT.of (p.1 _ _ h1)⟩) ?_ ?_
      · rintro i v σ H2 H3 hi ⟨e, y, z, rfl⟩ ⟨T1, x1, x2, rfl, hT, rfl, g1, g2⟩
        obtain ⟨a1, ha1, rfl⟩ := at_map g1
        obtain ⟨b1, hb1, rfl⟩ := at_map g2
        refine ⟨T1, _, rfl, SqT.of upd_same, rfl, _, _, rfl, _, _, rfl, rfl, ?_⟩
        walk_at "ws"
        have hlt : a1 < b1 := asc_pair hp ha1 hb1
        rw [show decide ((b1 : Int) ≤ (a1 : Int)) = false from decide_eq_false (by omega)]
        refine k_if (fun z => by cases z) fun _ => ?_
        walk_at "ws"
        exact ⟨e.tr (Ex.new hT), _, _, rfl⟩
      · rintro σ H2 ⟨e, y, z, rfl⟩
        walk_at "ws"
        exact k _ (e1.tr e)
end

/-! ## is_choice -/
section
variable {P : Program} {w : World} {K : PySem.W.Frag} {mg : Str → Option Value} {base : Heap}
abbrev N_is_choice : List Str := ["thing", "signs"]
theorem sc_is_choice : FnScope N_is_choice ["thing", "signs"] (defScope s_is_choice) := ⟨rfl, rfl, rfl, by decide +kernel, rfl, by decide +kernel, by decide +kernel⟩
theorem ok_is_choice {f : Addr} {fd : FuncData} (F : FnP K "is_choice" s_is_choice f fd) (T : Txt K mg) (k_is_string_of : Kn P w K mg base CX0 1 "is_string_of" ["thing", "signs"] sp_is_string_of) (k_is_ascending : Kn P w K mg base CX0 1 "is_ascending" ["thing"] sp_is_ascending) :
    FnOk P w K mg base CX0 2 f fd ["thing", "signs"] sp_is_choice := by
  refine F.ok sc_is_choice (fun vs H Q E h => ?_) (fun cdv A outer s H vs Q E hr h => ?_)
  · obtain ⟨xs, ss, rfl, _⟩ := h
    rfl
  · obtain ⟨xs, ss, rfl, hin, hp, hl, k⟩ := h
    refine ⟨_, PSs.nox (pss_one (ps_ret (pe_and (pe_kn k_is_string_of (hr.mono (by decide)) rfl (pa_cons (pv 0) (pa_cons (pv 1) pa_nil))) (pe_one (pe_kn k_is_ascending (hr.mono (by decide)) rfl (pa_cons (pv 0) pa_nil)))))), ?_⟩
    walk_at "ws"
    refine ⟨xs, ss, rfl, hin, fun H1 e1 => ?_⟩
    refine k_andV (fun _ => ?_) (fun z => by cases z)
    walk_at "ws"
    exact .inl ⟨xs, rfl, hp, hl, fun H2 e2 => k _ (e1.tr e2)⟩
end

/-! ## are_states -/
section
variable {P : Program} {w : World} {K : PySem.W.Frag} {mg : Str → Option Value} {base : Heap}
abbrev N_are_states : List Str := ["thing", "many", "state"]
theorem sc_are_states : FnScope N_are_states ["thing", "many"] (defScope s_are_states) := ⟨rfl, rfl, rfl, by decide +kernel, rfl, by decide +kernel, by decide +kernel⟩
theorem ok_are_states {f : Addr} {fd : FuncData} (F : FnP K "are_states" s_are_states f fd) (T : Txt K mg) (k_is_integer : Kn P w K mg base CX0 1 "is_integer" ["thing"] sp_is_integer) : FnOk P w K mg base CX0 2 f fd ["thing", "many"] sp_are_states := by
  refine F.ok sc_are_states (fun vs H Q E h => ?_) (fun cdv A outer s H vs Q E hr h => ?_)
  · obtain ⟨x, ns, n, rfl, _⟩ := h
    rfl
  · obtain ⟨x, ns, n, rfl, ⟨a, rfl, ha⟩, hlt, hl, k⟩ := h
    refine ⟨_, PSs.nox (pss_cons (ps_if (pt_not (pt_val (pe_callB (callIsi (K := K)) (by rfl) T.isinstance (by decide +kernel) (pa_cons (pv 0) (pa_cons (T.ty_tuple rfl) pa_nil)))))
    (pss_one (ps_ret pe_bl))
    pss_nil)
    (pss_cons (ps_for PassesOwn.never rfl (pi_seqK (K := K) (pv 0)) (pg_name (i := 2) sc_are_states.nd rfl (by first | exact Or.inl rfl | exact Or.inr rfl))
    (pss_one (ps_if (PW.pt (pw_or (pt_not (pt_val (pe_kn k_is_integer (hr.mono (by decide)) rfl (pa_cons (pv 2) pa_nil)))) (pw_or (pt_cmpR op_lt (pv 2) pe_int (nomark _)) (pw_or1 (pt_cmpR op_ge (pv 2) (pv 1) (nomark _))))))
    (pss_one (ps_ret pe_bl))
    pss_nil)))
    (pss_one (ps_ret pe_bl)))), ?_⟩
    walk_at "ws"
    refine r_isi (b := true) (.base (.tup ha)) (by decide +kernel) ?_
    walk_at "ws"
    refine k_if (fun z => by cases z) fun _ => ?_
    walk_at "ws"
    refine k_iS (b := false) (SqT.of ha) ?_
    refine k_forS (xs := ns.map iv) (fun _ σ H' => Ex H H' ∧ ∃ z, σ = [some (.ref a), some (iv n), z]) ⟨Ex.rfl', _, rfl⟩ (fun _ _ _ p => SqT.of (p.1 _ _ ha)) ?_ ?_
    · rintro i x σ H1 hx ⟨e, z, rfl⟩
      obtain ⟨q, hq, rfl⟩ := at_map hx
      have hm : q < n := hlt q (List.mem_of_getElem? hq)
      walk_at "ws"
      refine ⟨_, rfl, fun H2 e2 => ?_⟩
      walk_at "ws"
      refine k_or (fun z => by cases z) fun _ => ?_
      walk_at "ws"
      rw [show decide ((q : Int) < 0) = false from decide_eq_false (by omega)]
      refine k_or (fun z => by cases z) fun _ => ?_
      walk_at "ws"
      rw [show decide ((n : Int) ≤ (q : Int)) = false from decide_eq_false (by omega)]
      refine k_if (fun z => by cases z) fun _ => ?_
      walk_at "ws"
      exact ⟨e.tr e2, _, rfl⟩
    · rintro σ H1 ⟨e, z, rfl⟩
      walk_at "ws"
      exact k _ e
end

/-! ## is_table -/
section
variable {P : Program} {w : World} {K : PySem.W.Frag} {mg : Str → Option Value} {base : Heap}
abbrev N_is_table : List Str := ["thing", "letters", "row"]
theorem sc_is_table : FnScope N_is_table ["thing", "letters"] (defScope s_is_table) := ⟨rfl, rfl, rfl, by decide +kernel, rfl, by decide +kernel, by decide +kernel⟩
theorem ok_is_table {f : Addr} {fd : FuncData} (F : FnP K "is_table" s_is_table f fd) (T : Txt K mg) (k_are_states : Kn P w K mg base CX0 2 "are_states" ["thing", "many"] sp_are_states) : FnOk P w K mg base CX0 3 f fd ["thing", "letters"] sp_is_table := by
  refine F.ok sc_is_table (fun vs H Q E h => ?_) (fun cdv A outer s H vs Q E hr h => ?_)
  · obtain ⟨x, T, cs, rfl, _⟩ := h
    rfl
  · obtain ⟨x, Tb, cs, rfl, ⟨a, us, rfl, ha, hl, hrow⟩, hT, h6, hc, k⟩ := h
    refine ⟨_, PSs.nox (pss_cons (ps_if (PW.pt (pw_or (pt_not (pt_val (pe_callB (callIsi (K := K)) (by rfl) T.isinstance (by decide +kernel) (pa_cons (pv 0) (pa_cons (T.ty_tuple rfl) pa_nil))))) (pw_or1 (pt_not (pt_chain op_le op_le pe_int (pe_callB (callLen (K := K)) (by rfl) T.len PySem.boot_len (pa_cons (pv 0) pa_nil)) pe_int)))))
    (pss_one (ps_ret pe_bl))
    pss_nil)
    (pss_cons (ps_for PassesOwn.never rfl (pi_seqK (K := K) (pv 0)) (pg_name (i := 2) sc_is_table.nd rfl (by first | exact Or.inl rfl | exact Or.inr rfl))
    (pss_one (ps_if (PW.pt (pw_or (pt_not (pt_val (pe_kn k_are_states (hr.mono (by decide)) rfl (pa_cons (pv 2) (pa_cons (pe_callB (callLen (K := K)) (by rfl) T.len PySem.boot_len (pa_cons (pv 0) pa_nil)) pa_nil))))) (pw_or1 (pt_cmpR op_ne (pe_callB (callLen (K := K)) (by rfl) T.len PySem.boot_len (pa_cons (pv 2) pa_nil)) (pe_callB call_lenT (by rfl) T.len PySem.boot_len (pa_cons (pv 1) pa_nil)) (nomark _)))))
    (pss_one (ps_ret pe_bl))
    pss_nil)))
    (pss_one (ps_ret pe_bl)))), ?_⟩
    walk_at "ws"
    refine r_isi (b := true) (.base (.tup ha)) (by decide +kernel) ?_
    walk_at "ws"
    refine k_or (fun z => by cases z) fun _ => ?_
    walk_at "ws"
    refine r_len (.inr (SqT.of ha)) ?_
    walk_at "ws"
    rw [hl, show decide ((1 : Int) ≤ (Tb.length : Int)) = true from decide_eq_true (by have := hT.pos; omega)]
    refine k_ch3 (fun _ => ?_) (fun z => by cases z)
    walk_at "ws"
    rw [show decide ((Tb.length : Int) ≤ 6) = true from decide_eq_true (by omega)]
    walk_at "ws"
    refine k_if (fun z => by cases z) fun _ => ?_
    walk_at "ws"
    refine k_iS (b := false) (SqT.of ha) ?_
    refine k_forS (fun _ σ H' => Ex H H' ∧ ∃ z, σ = [some (.ref a), some (.str (sO cs)), z]) ⟨Ex.rfl', _, rfl⟩ (fun _ _ _ p => SqT.of (p.1 _ _ ha)) ?_ ?_
    · rintro i x σ H1 hx ⟨e, z, rfl⟩
      have hi : i < Tb.length := by rw [← hl]; exact (List.getElem?_eq_some_iff.mp hx).1
      obtain ⟨u, hu, hr1⟩ := hrow i _ (List.getElem?_eq_getElem hi)
      have ex : x = u := by rw [hx] at hu; exact Option.some.inj hu
      subst ex
      obtain ⟨hlen, hlt⟩ := hT.row _ (List.getElem_mem hi)
      obtain ⟨ra, rfl, hra⟩ := hr1
      walk_at "ws"
      refine r_len (.inr (SqT.of (e _ _ ha))) ?_
      walk_at "ws"
      rw [hl]
      refine ⟨_, _, _, rfl, ⟨ra, rfl, e _ _ hra⟩, hlt, by rw [hlen]; exact hc, fun H2 e2 => ?_⟩
      walk_at "ws"
      refine k_or (fun z => by cases z) fun _ => ?_
      walk_at "ws"
      refine r_len (.inr (SqT.of (e2 _ _ (e _ _ hra)))) ?_
      walk_at "ws"
      refine r_lenT (by rw [slen, sizeLine_eq]; omega) ?_
      walk_at "ws"
      rw [show (!decide ((((Tb[i]'hi).map iv).length : Int) = ((sO cs).length : Int))) = false by rw [slen, List.length_map, hlen]; simp]
      refine k_if (fun z => by cases z) fun _ => ?_
      walk_at "ws"
      exact ⟨e.tr e2, _, rfl⟩
    · rintro σ H1 ⟨e, z, rfl⟩
      walk_at "ws"
      exact k _ e
end

/-! ## Machine_keep -/
section
variable {P : Program} {w : World} {K : PySem.W.Frag} {mg : Str → Option Value} {base : Heap}
abbrev N_Machine_keep : List Str := ["self", "letters", "table", "accepts"]
theorem sc_Machine_keep : FnScope N_Machine_keep ["self", "letters", "table", "accepts"] (defScope s_Machine_keep) := ⟨rfl, rfl, rfl, by decide +kernel, rfl, by decide +kernel, by decide +kernel⟩
theorem ok_Machine_keep {f : Addr} {fd : FuncData} {C : Addr} (F : FnM K "keep" "Machine.keep" s_Machine_keep f fd) (T : Txt K mg) (hC : MCls K C) : FnOk P w K mg base CX0 1 f fd ["self", "letters", "table", "accepts"] (sp_keep C) := by
  refine F.ok sc_Machine_keep (fun vs H Q E h => ?_) (fun cdv A outer s H vs Q E hr h => ?_)
  · obtain ⟨p, dx, tb, ac, l, rfl, _⟩ := h
    rfl
  · obtain ⟨p, dx, tb, ac, l, rfl, hp, k⟩ := h
    refine ⟨_, PSs.nox (pss_cons (ps_fldK (K := K) (pv 0) (pv 1))
    (pss_cons (ps_fldK (K := K) (pv 0) (pv 2))
    (pss_cons (ps_fldK (K := K) (pv 0) (pv 3))
    (pss_cons (ps_fldK (K := K) (pv 0) pe_non)
    (pss_cons (ps_fldK (K := K) (pv 0) pe_non)
    (pss_cons (ps_fldK (K := K) (pv 0) pe_dnewK)
    (pss_one (ps_fldK (K := K) (pv 0) pe_dnewK)))))))), ?_⟩
    walk_at "ws"
    refine k_sf2 hp (by walk_at "cls") (by walk_at "na") (Nat.le_of_ble_eq_true rfl) rfl ?_
    intro H1 m1 h1
    walk_at "ws"; walk_at "sf"; intro H2 m2 h2
    walk_at "ws"; walk_at "sf"; intro H3 m3 h3
    walk_at "ws"; walk_at "sf"; intro H4 m4 h4
    walk_at "ws"; walk_at "sf"; intro H5 m5 h5
    walk_at "ws"
    refine w_dnewK fun lo H6 n6 e6 h6 => ?_
    walk_at "ws"; walk_at "sf"; intro H7 m7 h7
    walk_at "ws"
    refine w_dnewK fun mo H8 n8 e8 h8 => ?_
    walk_at "ws"; walk_at "sf"; intro H9 m9 h9
    have m15 : Mo p H H5 := (((m1.tr m2).tr m3).tr m4).tr m5
    have nlp : lo ≠ p := fun q => by rw [q, h5] at n6; cases n6
    have nmp : mo ≠ p := fun q => by rw [q, h7] at n8; cases n8
    have h7l : H7 lo = some (.dK []) := m7 _ _ nlp h6
    have nlm : lo ≠ mo := ne_of_none h7l n8
    have back : ∀ b, b ≠ p → H5 b = none → H b = none := fun b nb e => by
      cases q : H b with
      | none => rfl
      | some o => rw [m15 b o nb q] at e; cases e
    have n8' : H5 mo = none := by
      cases q : H5 mo with
      | none => rfl
      | some o => rw [m7 mo o nmp (e6 _ _ q)] at n8; cases n8
    exact k lo mo H9 (back lo nlp n6) (back mo nmp n8') nlm ((((m15.tr e6.mo).tr m7).tr e8.mo).tr m9) h9 (m9 _ _ nlp (e8 _ _ h7l)) (m9 _ _ nmp h8)
end

/-! ## RawMachine_init -/
section
variable {P : Program} {w : World} {K : PySem.W.Frag} {mg : Str → Option Value} {base : Heap}
abbrev N_RawMachine_init : List Str := ["self", "letters", "table", "accepts"]
theorem sc_RawMachine_init : FnScope N_RawMachine_init ["self", "letters", "table", "accepts"] (defScope s_RawMachine_init) := ⟨rfl, rfl, rfl, by decide +kernel, rfl, by decide +kernel, by decide +kernel⟩
theorem ok_RawMachine_init {f : Addr} {fd : FuncData} (F : FnM K "__init__" "RawMachine.__init__" s_RawMachine_init f fd) (T : Txt K mg) (k_RawMachine_keep : Km P w K mg base CX0 1 (aR K) "keep" ["self", "letters", "table", "accepts"] (sp_keep (aR K))) :
    FnOk P w K mg base CX0 2 f fd ["self", "letters", "table", "accepts"] (sp_keep (aR K)) := by
  refine F.ok sc_RawMachine_init (fun vs H Q E h => ?_) (fun cdv A outer s H vs Q E hr h => ?_)
  · obtain ⟨p, dx, tb, ac, l, rfl, _⟩ := h
    rfl
  · obtain ⟨p, dx, tb, ac, l, rfl, hp, k⟩ := h
    refine ⟨_, PSs.nox (pss_one (ps_expr (pe_km k_RawMachine_keep (hr.mono (by decide)) (pv 0) (pa_cons (pv 1) (pa_cons (pv 2) (pa_cons (pv 3) pa_nil)))))), ?_⟩
    walk_at "ws"
    refine k_meth hp rfl ?_
    walk_at "ws"
    exact ⟨p, dx, tb, ac, l, rfl, hp, fun lo mo H' a1 a2 a3 a4 a5 a6 a7 => k lo mo H' a1 a2 a3 a4 a5 a6 a7⟩
end

/-! ## Machine_init -/
section
variable {P : Program} {w : World} {K : PySem.W.Frag} {mg : Str → Option Value} {base : Heap}
abbrev N_Machine_init : List Str := ["self", "letters", "table", "accepts"]
theorem sc_Machine_init : FnScope N_Machine_init ["self", "letters", "table", "accepts"] (defScope s_Machine_init) := ⟨rfl, rfl, rfl, by decide +kernel, rfl, by decide +kernel, by decide +kernel⟩
theorem small_in {c : Nat} (h : 97 ≤ c ∧ c ≤ 122) : c ∈ ("abcdefghijklmnopqrstuvwxyz" : Str).cps.toList := by
  have e : ("abcdefghijklmnopqrstuvwxyz" : Str).cps.toList = List.range' 97 26 := by decide +kernel
  rw [e, List.mem_range']
  exact ⟨c - 97, by omega, by omega⟩
theorem ok_Machine_init {f : Addr} {fd : FuncData} (F : FnM K "__init__" "Machine.__init__" s_Machine_init f fd) (T : Txt K mg) (k_is_choice : Kn P w K mg base CX0 2 "is_choice" ["thing", "signs"] sp_is_choice) (k_is_table : Kn P w K mg base CX0 3 "is_table" ["thing", "letters"] sp_is_table)
    (k_are_states : Kn P w K mg base CX0 2 "are_states" ["thing", "many"] sp_are_states) (k_is_ascending : Kn P w K mg base CX0 1 "is_ascending" ["thing"] sp_is_ascending) (k_Machine_keep : Km P w K mg base CX0 1 (aM K) "keep" ["self", "letters", "table", "accepts"] (sp_keep (aM K))) :
    FnOk P w K mg base CX0 4 f fd ["self", "letters", "table", "accepts"] (sp_Machine_init (aM K)) := by
  refine F.ok sc_Machine_init (fun vs H Q E h => ?_) (fun cdv A outer s H vs Q E hr h => ?_)
  · obtain ⟨p, dx, tb, ac, cs, Tb, Ac, rfl, _⟩ := h
    rfl
  · obtain ⟨p, dx, tb, ac, cs, Tb, Ac, rfl, hp, htb, hac, hM, hcs, hasc, hAlt, k⟩ := h
    refine ⟨_, PSs.nox (pss_cons (ps_if (PW.pt (pw_or (pt_not (pt_val (pe_kn k_is_choice (hr.mono (by decide)) rfl (pa_cons (pv 1) (pa_cons (T.peSMALL rfl) pa_nil))))) (pw_or1 (pt_not (pt_chain op_le op_le pe_int (pe_callB call_lenT (by rfl) T.len PySem.boot_len (pa_cons (pv 1) pa_nil)) pe_int)))))
    (pss_one ps_never)
    pss_nil)
    (pss_cons (ps_if (pt_not (pt_val (pe_kn k_is_table (hr.mono (by decide)) rfl (pa_cons (pv 2) (pa_cons (pv 1) pa_nil)))))
    (pss_one ps_never)
    pss_nil)
    (pss_cons (ps_if (PW.pt (pw_or (pt_not (pt_val (pe_kn k_are_states (hr.mono (by decide)) rfl (pa_cons (pv 3) (pa_cons (pe_callB (callLen (K := K)) (by rfl) T.len PySem.boot_len (pa_cons (pv 2) pa_nil)) pa_nil))))) (pw_or1 (pt_not (pt_val (pe_kn k_is_ascending (hr.mono (by decide)) rfl (pa_cons (pv 3) pa_nil)))))))
    (pss_one ps_never)
    pss_nil)
    (pss_one (ps_expr (pe_km k_Machine_keep (hr.mono (by decide)) (pv 0) (pa_cons (pv 1) (pa_cons (pv 2) (pa_cons (pv 3) pa_nil))))))))), ?_⟩
    walk_at "ws"
    have eS : ("abcdefghijklmnopqrstuvwxyz" : Str) = sO ("abcdefghijklmnopqrstuvwxyz" : Str).cps.toList := by simp
    rw [eS]
    refine ⟨cs, _, rfl, fun c hc => small_in (hcs c hc), hM.asc, by have := hM.four; omega, fun H1 e1 => ?_⟩
    walk_at "ws"
    refine k_or (fun z => by cases z) fun _ => ?_
    walk_at "ws"
    refine r_lenT (by rw [slen, sizeLine_eq]; have := hM.four; omega) ?_
    walk_at "ws"
    rw [slen, show decide ((1 : Int) ≤ (cs.length : Int)) = true from decide_eq_true (by have := hM.one; omega)]
    refine k_ch3 (fun _ => ?_) (fun z => by cases z)
    walk_at "ws"
    rw [show decide ((cs.length : Int) ≤ 4) = true from decide_eq_true (by have := hM.four; omega)]
    walk_at "ws"
    refine k_if (fun z => by cases z) fun _ => ?_
    walk_at "ws"
    refine ⟨_, Tb, cs, rfl, htb.ex e1, hM.t, hM.six, by have := hM.four; omega, fun H2 e2 => ?_⟩
    walk_at "ws"
    refine k_if (fun z => by cases z) fun _ => ?_
    walk_at "ws"
    obtain ⟨tb', us, etb, htb1, htl, hrow⟩ := htb
    cases etb
    refine r_len (.inr (SqT.of ((e1.tr e2) _ _ htb1))) ?_
    walk_at "ws"
    rw [htl]
    refine ⟨_, Ac, _, rfl, hac.ex (e1.tr e2), hAlt, by have := hM.acc; omega, fun H3 e3 => ?_⟩
    walk_at "ws"
    refine k_or (fun z => by cases z) fun _ => ?_
    walk_at "ws"
    refine .inr ⟨_, Ac, rfl, hac.ex ((e1.tr e2).tr e3), hasc, by have := hM.acc; omega, fun H4 e4 => ?_⟩
    walk_at "ws"
    refine k_if (fun z => by cases z) fun _ => ?_
    walk_at "ws"
    have e : Ex H H4 := ((e1.tr e2).tr e3).tr e4
    refine k_meth (e _ _ hp) rfl ?_
    walk_at "ws"
    exact ⟨p, dx, tb, ac, _, rfl, e _ _ hp, fun lo mo H' a1 a2 a3 a4 a5 a6 a7 => k lo mo H' (e.back a1) (e.back a2) a3 (e.mo.tr a4) a5 a6 a7⟩
end

/-! ## led -/
section
variable {P : Program} {w : World} {K : PySem.W.Frag} {mg : Str → Option Value} {base : Heap}
abbrev N_led : List Str := ["machine", "state", "word", "letter"]
theorem sc_led : FnScope N_led ["machine", "state", "word"] (defScope s_led) := ⟨rfl, rfl, rfl, by decide +kernel, rfl, by decide +kernel, by decide +kernel⟩
theorem ok_led {f : Addr} {fd : FuncData} (F : FnP K "led" s_led f fd) (T : Txt K mg) : FnOk P w K mg base CX0 1 f fd ["machine", "state", "word"] (sp_led K) := by
  refine F.ok sc_led (fun vs H Q E h => ?_) (fun cdv A outer s H vs Q E hr h => ?_)
  · obtain ⟨m, cs, Tb, A, kl, kf, lo, mo, q, u, rfl, _⟩ := h
    rfl
  · obtain ⟨m, cs, Tb, Ac, kl, kf, lo, mo, q, u, rfl, hM, ⟨C, dx, tb, ac, hm, hC, ⟨tb', us, e1, htb, hlen, hrow⟩, hac⟩, hq, hu, k⟩ := h
    cases e1
    refine ⟨_, PSs.nox (pss_cons (ps_for PassesOwn.never rfl (pi_str (pv 2)) (pg_name (i := 3) sc_led.nd rfl (by first | exact Or.inl rfl | exact Or.inr rfl))
    (pss_one (ps_set (i := 1) sc_led.nd rfl (Or.inl rfl) (pe_ix (ixT (K := K)) (pe_ix (ixT (K := K)) (pe_fldK (K := K) (pv 0)) (pv 1) (fun _ _ => rfl)) (pe_bmK (K := K) PySem.F.plainAttrs_str PySem.F.slot_str_index PySem.F.type_str_index mtSIndex (pe_fldK (K := K) (pv 0)) (pa_cons (pv 3) pa_nil)) (fun _ _ => rfl)))))
    (pss_one (ps_ret (pv 1)))), ?_⟩
    walk_at "ws"
    refine k_forT (fun i σ H' => Ex H H' ∧ ∃ z, σ = [some (.ref m), some (iv (QM.run Tb q (u.take i))), some (.str (wO cs u)), z]) ⟨Ex.rfl', _, rfl⟩ ?_ ?_
    · rintro i c σ H1 hc ⟨e, z, rfl⟩
      obtain ⟨a, ha, rfl⟩ := at_map (f := fun a => cs.getD a 0) (l := u) (by simpa using hc)
      have hak : a < cs.length := hu a (List.mem_of_getElem? ha)
      have hst : QM.run Tb q (u.take i) < Tb.length := hM.t.run hq fun b hb => hu b (List.mem_of_mem_take hb)
      obtain ⟨ur, hur, ⟨ra, rfl, hra⟩⟩ := hrow _ _ (List.getElem?_eq_getElem hst)
      walk_at "ws"
      refine r_ixT (SqT.of (e _ _ htb)) hur ?_
      walk_at "ws"
      refine r_sindex (i := a) (by simp [hak]) hM.nodup ?_
      walk_at "ws"
      have hrl := (hM.t.row _ (List.getElem_mem hst)).1
      refine r_ixT (SqT.of (e _ _ hra)) (at_iv (by rw [hrl]; exact hak)) ?_
      walk_at "ws"
      have hs : u.take (i + 1) = u.take i ++ [a] := by rw [List.take_add_one, ha]; rfl
      have hv : QM.run Tb q (u.take (i + 1)) = (Tb[QM.run Tb q (u.take i)]'hst).getD a 0 := by
        rw [hs, QM.run_app]
        show QM.cell Tb (QM.run Tb q (u.take i)) a = _
        unfold QM.cell
        rw [List.getD_eq_getElem?_getD (l := Tb), List.getElem?_eq_getElem hst]
        rfl
      rw [hv]
      exact ⟨e, _, rfl⟩
    · rintro σ H1 ⟨e, z, rfl⟩
      walk_at "ws"
      have hs : u.take (wO cs u).cps.size = u := by simp
      rw [hs]
      exact k _ e
end

/-! ## reached -/
section
variable {P : Program} {w : World} {K : PySem.W.Frag} {mg : Str → Option Value} {base : Heap}
abbrev N_reached : List Str := ["machine", "found", "known", "at", "state"]
theorem sc_reached : FnScope N_reached ["machine"] (defScope s_reached) := ⟨rfl, rfl, rfl, by decide +kernel, rfl, by decide +kernel, by decide +kernel⟩
structure RI (H H' : Hp) (T : List (List Nat)) (k : Nat) (p d : Addr) (ss : List Nat) (i : Nat) : Prop where
  e : Ex H H'
  hp : H' p = some (.lst (ss.map iv))
  hd : H' d = some (.dK (ss.map fun q => (ik q, V.bl true)))
  nd : ss.Nodup
  zero : ss[0]? = some 0
  reach : ∀ q ∈ ss, QM.Reach T k q
  le : i ≤ ss.length
  clo : ∀ j q a, j < i → ss[j]? = some q → a < k → QM.cell T q a ∈ ss
theorem ok_reached {f : Addr} {fd : FuncData} (F : FnP K "reached" s_reached f fd) (T : Txt K mg) : FnOk P w K mg base CX0 1 f fd ["machine"] (sp_reached K) := by
  refine F.ok sc_reached (fun vs H Q E h => ?_) (fun cdv A outer s H vs Q E hr h => ?_)
  · obtain ⟨m, cs, Tb, A, kl, kf, lo, mo, rfl, _⟩ := h
    rfl
  · obtain ⟨m, cs, Tb, Ac, kl, kf, lo, mo, rfl, hM, ⟨C, dx, tb, ac, hm, hC, ⟨tb', us, e1, htb, hlen, hrow⟩, hac⟩, k⟩ := h
    cases e1
    refine ⟨_, PSs.nox (pss_cons (ps_set (i := 1) sc_reached.nd rfl (Or.inl rfl) (pe_lst (pa_cons pe_int pa_nil)))
    (pss_cons (ps_set (i := 2) sc_reached.nd rfl (Or.inl rfl) (pe_dispK (pps_cons pe_int pe_bl pps_nil)))
    (pss_cons (ps_set (i := 3) sc_reached.nd rfl (Or.inl rfl) pe_int)
    (pss_cons (ps_while PassesOwn.never (pt_cmpR op_lt (pv 3) (pe_callB (callLen (K := K)) (by rfl) T.len PySem.boot_len (pa_cons (pv 1) pa_nil)) (nomark _))
    (pss_cons (ps_for PassesOwn.never rfl (pi_seqK (K := K) (pe_ix (ixT (K := K)) (pe_fldK (K := K) (pv 0)) (pe_ix (ixL (K := K)) (pv 1) (pv 3) (fun _ _ => rfl)) (fun _ _ => rfl))) (pg_name (i := 4) sc_reached.nd rfl (by first | exact Or.inl rfl | exact Or.inr rfl))
    (pss_one (ps_if (pt_cmp (pc_dnotin (hu_of hr) (pv 4) (pv 2)) rfl)
    (pss_cons (ps_dput (hu_of hr) (pv 2) (pv 4) pe_bl rfl)
    (pss_one (ps_expr (pe_bmK (K := K) PySem.F.plainAttrs_list PySem.F.slot_list_append PySem.F.type_list_append mt_append (pv 1) (pa_cons (pv 4) pa_nil)))))
    pss_nil)))
    (pss_one (ps_aug (i := 3) sc_reached.nd rfl (Or.inl rfl) pe_int ip_add))))
    (pss_one (ps_ret (pv 1))))))), ?_⟩
    walk_at "ws"
    refine k_lst (by walk_at "sz") fun p H1 n1 e1 h1 => ?_
    walk_at "ws"
    refine w_dispC fun d H2 n2 e2 h2 => ?_
    walk_at "ws"
    have npd : p ≠ d := ne_of_none h1 n2
    have nd0 : H d = none := e1.back n2
    let W (mm : Nat) (σ : L2.St) (H' : Hp) : Prop := ∃ (ss : List Nat) (i : Nat) (z : Option V), mm = Tb.length - i ∧ RI H H' Tb cs.length p d ss i ∧ σ = [some (.ref m), some (.ref p), some (.ref d), some (iv i), z]
    refine w_while W Tb.length ⟨[0], 0, _, by simp, ⟨e1.tr e2, e2 _ _ h1, h2, by simp, rfl, by simpa using QM.Reach.zero, Nat.zero_le _, fun j q a hj => absurd hj (Nat.not_lt_zero _)⟩, rfl⟩ ?_
    rintro mm σ H3 ⟨ss, i, z, rfl, ⟨e3, h3, h4, snd, s0, sr, hi, sc⟩, rfl⟩
    walk_at "ws"
    refine r_len (.inl (SqL.of h3)) ?_
    walk_at "ws"
    refine k_wh (fun hb => ?_) (fun hb => ?_)
    · have hlt : i < ss.length := by simpa using hb
      obtain ⟨q, hq⟩ : ∃ q, ss[i]? = some q := ⟨_, List.getElem?_eq_getElem hlt⟩
      have hqr : QM.Reach Tb cs.length q := sr q (List.mem_of_getElem? hq)
      have hqt := hqr.lt hM.t
      obtain ⟨ur, hur, ⟨ra, rfl, hra⟩⟩ := hrow _ _ (List.getElem?_eq_getElem hqt)
      have hrl := (hM.t.row _ (List.getElem_mem hqt)).1
      have hcell : ∀ a x, (Tb[q]'hqt)[a]? = some x → QM.cell Tb q a = x := fun a x hx => by
        unfold QM.cell
        rw [List.getD_eq_getElem?_getD (l := Tb), List.getElem?_eq_getElem hqt]
        show ((Tb[q]'hqt)).getD a 0 = x
        rw [List.getD_eq_getElem?_getD, hx]
        rfl
      walk_at "ws"
      refine r_ixL (SqL.of h3) (v := iv q) (by rw [List.getElem?_map, hq]; rfl) ?_
      refine r_ixT (SqT.of (e3 _ _ htb)) hur ?_
      refine k_iS (b := false) (SqT.of (e3 _ _ hra)) ?_
      refine k_forS (fun j σ H' => ∃ (ss' : List Nat) (z : Option V), (∃ r, ss' = ss ++ r) ∧ RI H H' Tb cs.length p d ss' i ∧ (∀ a, a < j → QM.cell Tb q a ∈ ss') ∧ σ = [some (.ref m), some (.ref p), some (.ref d), some (iv i), z])
        ⟨ss, z, ⟨[], by simp⟩, ⟨e3, h3, h4, snd, s0, sr, hi, sc⟩, fun a ha => absurd ha (Nat.not_lt_zero _), rfl⟩ (fun _ _ _ ⟨_, _, _, r, _⟩ => SqT.of (r.1 _ _ hra)) ?_ ?_
      · rintro j x σ H4 hx ⟨ss', z', ⟨r, rfl⟩, ⟨e5, h5, h6, snd', s0', sr', hi', sc'⟩, hj, rfl⟩
        obtain ⟨c, hc, rfl⟩ := at_map hx
        have hjk : j < cs.length := by rw [← hrl]; exact (List.getElem?_eq_some_iff.mp hc).1
        have hcr : QM.Reach Tb cs.length c := by rw [← hcell j c hc]; exact hqr.step hjk
        walk_at "ws"
        refine k_di2K h6 ?_
        have hv := valV_bl (ss := ss ++ r) (q := c) (z := V.bl true)
        rw [show valV (List.map (fun q => (ik q, V.bl true)) (ss ++ r)) (Sum.inl (c : Int)) = _ from hv]
        walk_at "ws"
        by_cases hm' : c ∈ ss ++ r
        · rw [if_pos hm']
          refine k_if (fun q => by cases q) fun _ => ?_
          walk_at "ws"
          refine ⟨_, _, ⟨r, rfl⟩, ⟨e5, h5, h6, snd', s0', sr', hi', sc'⟩, fun a ha => ?_, rfl⟩
          rcases Nat.lt_succ_iff_lt_or_eq.mp ha with ha | rfl
          · exact hj a ha
          · rw [hcell _ c hc]; exact hm'
        · rw [if_neg hm']
          refine k_if (fun _ => ?_) (fun q => by cases q)
          have hl' : (ss ++ r).length ≤ Tb.length := by
            have := QM.nodup_le snd' (m := List.range Tb.length) fun x hx => List.mem_range.mpr ((sr' x hx).lt hM.t)
            simpa using this
          have h6t := hM.six
          walk_at "ws"
          refine k_dp3K h6 (by rw [sizeLine_eq, List.length_map]; omega) fun H5 m7 h7 => ?_
          have h8 : H5 p = some (.lst ((ss ++ r).map iv)) := m7 _ _ npd h5
          walk_at "ws"
          refine k_bmL (SqL.of h8) ?_
          walk_at "ws"
          refine r_append h8 (by rw [sizeLine_eq, List.length_map]; omega) fun H6 m9 h9 => ?_
          walk_at "ws"
          have h10 : H6 d = _ := m9 _ _ (Ne.symm npd) h7
          rw [putK_new (by
            intro hmem
            obtain ⟨p', hp', e'⟩ := List.mem_map.mp hmem
            obtain ⟨q', hq', rfl⟩ := List.mem_map.mp hp'
            have : q' = c := by injection e' with e'; exact Int.ofNat.inj e'
            exact hm' (this ▸ hq'))] at h10
          refine ⟨ss ++ r ++ [c], _, ⟨r ++ [c], by simp⟩, ⟨m9.ex (m7.ex e5 nd0) n1, by rw [h9]; simp, by rw [h10]; simp, ?_, ?_, ?_, by simp at hi' ⊢; omega, ?_⟩, fun a ha => ?_, rfl⟩
          · rw [List.nodup_append]
            exact ⟨snd', by simp, fun a ha b hb => by rw [List.mem_singleton.mp hb]; exact fun e => hm' (e ▸ ha)⟩
          · rw [List.getElem?_append_left (by have := (List.getElem?_eq_some_iff.mp s0').1; exact this)]
            exact s0'
          · intro x hx
            rcases List.mem_append.mp hx with hx | hx
            · exact sr' x hx
            · rw [List.mem_singleton.mp hx]; exact hcr
          · intro j' q' a hj' hq' ha
            have hlt' : j' < (ss ++ r).length := by simp at hi' ⊢; omega
            rw [List.getElem?_append_left hlt'] at hq'
            exact List.mem_append_left _ (sc' j' q' a hj' hq' ha)
          · rcases Nat.lt_succ_iff_lt_or_eq.mp ha with ha | rfl
            · exact List.mem_append_left _ (hj a ha)
            · rw [hcell _ c hc]; simp
      · rintro σ H4 ⟨ss', z', ⟨r, rfl⟩, ⟨e5, h5, h6, snd', s0', sr', hi', sc'⟩, hj, rfl⟩
        walk_at "ws"
        have hl' : (ss ++ r).length ≤ Tb.length := by
          have := QM.nodup_le snd' (m := List.range Tb.length) fun x hx => List.mem_range.mpr ((sr' x hx).lt hM.t)
          simpa using this
        have hi2 : i + 1 ≤ (ss ++ r).length := by simp; omega
        refine ⟨Tb.length - (i + 1), by simp at hl'; omega, ss ++ r, i + 1, z', rfl, ⟨e5, h5, h6, snd', s0', sr', hi2, ?_⟩, rfl⟩
        intro j' q' a hj' hq' ha
        rcases Nat.lt_succ_iff_lt_or_eq.mp hj' with hj' | rfl
        · exact sc' j' q' a hj' hq' ha
        · rw [List.getElem?_append_left hlt, hq] at hq'
          cases hq'
          exact hj a (by rw [List.length_map, hrl]; exact ha)
    · have hge : ¬ i < ss.length := by simpa using hb
      have hii : i = ss.length := by omega
      subst hii
      walk_at "ws"
      refine k p ss _ e3 h3 ⟨snd, s0, fun q => ⟨sr q, fun ⟨w', hw', e⟩ => ?_⟩⟩
      have : ∀ w', QM.Ok cs.length w' → QM.run Tb 0 w' ∈ ss := by
        refine QM.snocRec (p := fun w' => QM.Ok cs.length w' → QM.run Tb 0 w' ∈ ss) (fun _ => List.mem_of_getElem? s0) fun l a ih ho => ?_
        have h1 := ih fun b m => ho b (List.mem_append_left _ m)
        obtain ⟨j, hj, ej⟩ := List.mem_iff_getElem.mp h1
        rw [QM.run_app]
        exact sc j _ a hj (by rw [List.getElem?_eq_getElem hj, ej]) (ho a (by simp))
      rw [← e]
      exact this w' hw'
end

/-! ## numbered -/
section
variable {P : Program} {w : World} {K : PySem.W.Frag} {mg : Str → Option Value} {base : Heap}
abbrev N_numbered : List Str := ["keys", "numbers", "found", "item", "key"]
theorem sc_numbered : FnScope N_numbered ["keys"] (defScope s_numbered) := ⟨rfl, rfl, rfl, by decide +kernel, rfl, by decide +kernel, by decide +kernel⟩
/-- the loop of numbered -/
structure NI (P : Program) (w : World) (kd : Bool) (H H' : Hp) (d nu fo : Addr) (od : Obj) (kvs : List (Key × V)) (ss : List Nat) (g : Nat → List Nat) (i : Nat) : Prop where
  e : ∀ a o, a ≠ d → H a = some o → H' a = some o
  hd : H' d = some (.frz od (.dK kvs))
  hn : ND P w kd H' nu (((QM.firsts ((ss.take i).map g)).zipIdx).map fun p => (p.1, iv p.2))
  hf : H' fo = some (.dK (dkN (ss.take i) (QM.num ss g)))
theorem NI.ex {kd : Bool} {H H1 H2 : Hp} {d nu fo : Addr} {od : Obj} {kvs : List (Key × V)} {ss : List Nat} {g : Nat → List Nat} {i : Nat} (r : NI P w kd H H1 d nu fo od kvs ss g i) (e : Ex H1 H2) : NI P w kd H H2 d nu fo od kvs ss g i :=
  ⟨fun a o n h => e _ _ (r.e a o n h), e _ _ r.hd, r.hn.ex e, e _ _ r.hf⟩
theorem valV_zipK {κ : Type} [DecidableEq κ] {l : κ} : ∀ {fs : List κ} {n : Nat}, fs.Nodup → valV ((fs.zipIdx n).map fun p => (p.1, iv p.2)) l = if l ∈ fs then some (iv (n + QM.ixOf fs l)) else none
  | [], _, _ => rfl
  | a :: t, n, nd => by
    have nd' := List.nodup_cons.mp nd
    rw [List.zipIdx_cons, List.map_cons]
    by_cases h : a = l
    · subst h
      rw [valV_pos rfl, if_pos (List.mem_cons_self ..)]
      unfold QM.ixOf
      rw [List.idxOf_cons_self]
      rfl
    · rw [valV_neg h, valV_zipK nd'.2]
      by_cases hm : l ∈ t
      · rw [if_pos hm, if_pos (List.mem_cons_of_mem _ hm)]
        unfold QM.ixOf
        rw [List.idxOf_cons, show (a == l) = false by simpa using h]
        show some (iv _) = some (iv _)
        congr 2
        show n + 1 + _ = n + (_ + 1)
        omega
      · rw [if_neg hm, if_neg fun m => (List.mem_cons.mp m).elim (fun e => h e.symm) hm]
theorem valV_zip {κ : Type} [DecidableEq κ] {l : κ} {fs : List κ} (nd : fs.Nodup) : valV (fs.zipIdx.map fun p => (p.1, iv p.2)) l = if l ∈ fs then some (iv (QM.ixOf fs l)) else none := by
  rw [valV_zipK nd]
  simp
theorem dkN_not {ss : List Nat} {c : Nat → Nat} {q : Nat} (h : q ∉ ss) : ik q ∉ (dkN ss c).map (·.1) := by
  intro hm
  obtain ⟨p', hp', e'⟩ := List.mem_map.mp hm
  obtain ⟨q', hq', rfl⟩ := List.mem_map.mp hp'
  have : q' = q := by injection e' with e'; exact Int.ofNat.inj e'
  exact h (this ▸ hq')
theorem take_not {ss : List Nat} {i q : Nat} (nd : ss.Nodup) (h : ss[i]? = some q) : q ∉ ss.take i := by
  intro hm
  obtain ⟨j, hj, e⟩ := List.mem_take_iff_getElem.mp hm
  obtain ⟨hi, e2⟩ := List.getElem?_eq_some_iff.mp h
  have := (List.getElem_inj (h₀ := by omega) (h₁ := hi) nd).mp (e.trans e2.symm)
  omega
theorem ok_numberedB {f : Addr} {fd : FuncData} (F : FnP K "numbered" s_numbered f fd) (T : Txt K mg) : FnOk P w K mg base CX0 1 f fd ["keys"] (sp_numbered true) := by
  refine F.ok sc_numbered (fun vs H Q E h => ?_) (fun cdv A outer s H vs Q E hr h => ?_)
  · obtain ⟨d, ss, g, kvs, rfl, _⟩ := h
    rfl
  · obtain ⟨d, ss, g, kvs, rfl, snd, slen, hd, klen, hkv, k⟩ := h
    refine ⟨_, PSs.nox (pss_cons (ps_set (i := 1) sc_numbered.nd rfl (Or.inl rfl) (pe_ndnew (P := P) (w := w) (kd := true)))
    (pss_cons (ps_set (i := 2) sc_numbered.nd rfl (Or.inl rfl) pe_dnewK)
    (pss_cons (ps_lock (ps_for PassesOwn.never rfl (pi_items (pv 0)) (pg_tupK (K := K) rfl (pgs_cons (pg_name (i := 3) sc_numbered.nd rfl (by first | exact Or.inl rfl | exact Or.inr rfl)) (pgs_cons (pg_name (i := 4) sc_numbered.nd rfl (by first | exact Or.inl rfl | exact Or.inr rfl)) pgs_nil)))
    (pss_cons (ps_if (pt_cmp (pc_ndnotin (P := P) (w := w) (kd := true) hr.units (pv 4) (pv 1)) rfl)
    (pss_one (ps_ndput (P := P) (w := w) (kd := true) hr.units (pv 1) (pv 4) (pe_callB (call_lenN (P := P) (w := w) (kd := true)) (by rfl) T.len PySem.boot_len (pa_cons (pv 1) pa_nil)) rfl))
    pss_nil)
    (pss_one (ps_dput (hu_of hr) (pv 2) (pv 3) (pe_ndget (P := P) (w := w) (kd := true) hr.units (pv 1) (pv 4) (fun _ _ => rfl)) rfl)))))
    (pss_one (ps_ret (pv 2)))))), ?_⟩
    walk_at "ws"
    intro nu H1 n1 e1 h1
    walk_at "ws"
    refine w_dnewK fun fo H2 n2 e2 h2 => ?_
    walk_at "ws"
    have nud : nu ≠ d := Ne.symm (ne_of_none hd n1)
    have fod : fo ≠ d := Ne.symm (ne_of_none (e1 _ _ hd) n2)
    obtain ⟨φ, hφ⟩ := nd_have h1
    have nuf : nu ≠ fo := ne_of_none hφ n2
    refine w_lock ((e1.tr e2) _ _ hd) True.intro fun od H3 m3 h3 => ?_
    walk_at "ws"
    refine k_iI h3 ?_
    have r0 : NI P w true H H3 d nu fo od kvs ss g 0 := ⟨fun a o hne ha => m3 _ _ hne ((e1.tr e2) _ _ ha), h3, (h1.ex e2).tp (m3.tp fun xs q => by rw [(e1.tr e2) _ _ hd] at q; cases q) fun o ho => m3 _ _ nud ho, m3 _ _ fod h2⟩
    refine k_for walk_items (fun i σ H' => ∃ z y, NI P w true H H' d nu fo od kvs ss g i ∧ σ = [some (.ref d), some (.ref nu), some (.ref fo), z, y]) ⟨_, _, r0, rfl⟩ (fun i σ H' ⟨z, y, r, _⟩ => r.hd) ?_ ?_
    · rintro i x σ H4 H5 hi ⟨z, y, r, rfl⟩ ⟨T1, x1, x2, rfl, hT, eH5, g1, g2⟩
      have hil : i < ss.length := by omega
      obtain ⟨q, hq⟩ : ∃ q, ss[i]? = some q := ⟨_, List.getElem?_eq_getElem hil⟩
      obtain ⟨y0, hy0, hky⟩ := hkv i q hq
      have hx1 : x1 = .int (q : Int) := by
        have g1 : (kvs[i]?.map fun kv => kV kv.1) = some x1 := g1
        rw [hy0] at g1
        exact (Option.some.inj g1).symm
      have hx2 : x2 = y0 := by
        have g2 : (kvs[i]?.map Prod.snd) = some x2 := g2
        rw [hy0] at g2
        exact (Option.some.inj g2).symm
      subst hx1 hx2
      have r5 : NI P w true H H5 d nu fo od kvs ss g i := eH5 ▸ r.ex (Ex.new hT)
      have hky5 : Ky true H5 (g q) x2 := hky.tp fun a xs h => r5.e a _ (fun e => by rw [e, hd] at h; cases h) h
      refine ⟨T1, _, rfl, SqT.of (eH5 ▸ upd_same), rfl, _, _, rfl, _, _, rfl, rfl, ?_⟩
      have htk : ss.take (i + 1) = ss.take i ++ [q] := by rw [List.take_add_one, hq]; rfl
      have htm : (ss.take (i + 1)).map g = (ss.take i).map g ++ [g q] := by rw [htk, List.map_append]; rfl
      obtain ⟨rr, hrr⟩ := QM.firsts_pre ((ss.take (i + 1)).map g) ((ss.drop (i + 1)).map g)
      rw [← List.map_append, List.take_append_drop] at hrr
      have hqm : g q ∈ QM.firsts ((ss.take (i + 1)).map g) := (QM.mem_firsts (α := List Nat)).mpr (List.mem_map.mpr ⟨q, by rw [htk]; simp, rfl⟩)
      have hv : valV (((QM.firsts ((ss.take (i + 1)).map g)).zipIdx).map fun p => (p.1, iv p.2)) (g q) = some (iv (QM.num ss g q)) := by
        rw [valV_zip (κ := List Nat) (QM.nodup_firsts _), if_pos hqm]
        unfold QM.num
        rw [hrr, QM.idx_app hqm]
        rfl
      have hfl : (QM.firsts ((ss.take i).map g)).length ≤ i := by
        have := QM.nodup_le (α := List Nat) (QM.nodup_firsts ((ss.take i).map g)) (m := (ss.take i).map g) fun x hx => (QM.mem_firsts (α := List Nat)).mp hx
        rw [List.length_map, List.length_take] at this
        omega
      walk_at "ws"
      refine k_nn r5.hn hky5 ?_
      rw [valV_zip (κ := List Nat) (QM.nodup_firsts _)]
      walk_at "ws"
      by_cases hm : g q ∈ QM.firsts ((ss.take i).map g)
      · rw [if_pos hm]
        have hfs := QM.firsts_in hm
        rw [← htm] at hfs
        refine k_if (fun q => by cases q) fun _ => ?_
        have n6 := r5.hn
        rw [← hfs] at n6
        have m6 : Mo nu H5 H5 := Ex.rfl'.mo
        have m6t : Tp H5 _ := m6.tp fun xs q => by obtain ⟨φ, hφ⟩ := nd_have r5.hn; rw [hφ] at q; cases q
        walk_at "ws"
        refine k_ng n6 (hky5.tp m6t) hv ?_
        walk_at "ws"
        refine k_dp3K (m6 _ _ (Ne.symm nuf) r5.hf) (by rw [sizeLine_eq]; simp [dkN]; omega) fun H7 m7 h7 => ?_
        walk_at "ws"
        rw [putK_new (dkN_not (by
          intro hmem
          exact take_not snd hq hmem))] at h7
        refine ⟨_, _, ⟨fun a o hne ha => ?_, m7 _ _ (Ne.symm fod) (m6 _ _ (Ne.symm nud) r5.hd), n6.tp (m7.tp fun xs q => by rw [m6 _ _ (Ne.symm nuf) r5.hf] at q; cases q) fun o ho => m7 _ _ nuf ho, ?_⟩, rfl⟩
        · exact m7 _ _ (fun e => by rw [e, e1.back n2] at ha; cases ha) (m6 _ _ (fun e => by rw [e, n1] at ha; cases ha) (r5.e a o hne ha))
        · rw [h7]
          unfold dkN
          rw [htk, List.map_append]
          rfl
      · rw [if_neg hm]
        have hfs := QM.firsts_out hm
        rw [← htm] at hfs
        refine k_if (fun _ => ?_) fun q => by cases q
        walk_at "ws"
        refine r_lenN r5.hn ?_
        walk_at "ws"
        refine k_np r5.hn hky5 (by rw [List.length_map, List.length_zipIdx]; omega) fun H6 m6 n6 => ?_
        rw [putK_new (by
          intro hmem
          obtain ⟨p', hp', e'⟩ := List.mem_map.mp hmem
          obtain ⟨q', hq', rfl⟩ := List.mem_map.mp hp'
          obtain ⟨_, h2⟩ := List.mem_zipIdx_iff_getElem?.mp hq' |> fun z => (⟨trivial, List.mem_of_getElem? z⟩ : True ∧ _)
          exact hm (e' ▸ h2))] at n6
        have n6 : ND P w true H6 nu (((QM.firsts ((ss.take (i + 1)).map g)).zipIdx).map fun p => (p.1, iv p.2)) := by
          rw [hfs, List.zipIdx_append, List.map_append]
          simpa using n6
        have m6t : Tp H5 _ := m6.tp fun xs q => by obtain ⟨φ, hφ⟩ := nd_have r5.hn; rw [hφ] at q; cases q
        walk_at "ws"
        refine k_ng n6 (hky5.tp m6t) hv ?_
        walk_at "ws"
        refine k_dp3K (m6 _ _ (Ne.symm nuf) r5.hf) (by rw [sizeLine_eq]; simp [dkN]; omega) fun H7 m7 h7 => ?_
        walk_at "ws"
        rw [putK_new (dkN_not (by
          intro hmem
          exact take_not snd hq hmem))] at h7
        refine ⟨_, _, ⟨fun a o hne ha => ?_, m7 _ _ (Ne.symm fod) (m6 _ _ (Ne.symm nud) r5.hd), n6.tp (m7.tp fun xs q => by rw [m6 _ _ (Ne.symm nuf) r5.hf] at q; cases q) fun o ho => m7 _ _ nuf ho, ?_⟩, rfl⟩
        · exact m7 _ _ (fun e => by rw [e, e1.back n2] at ha; cases ha) (m6 _ _ (fun e => by rw [e, n1] at ha; cases ha) (r5.e a o hne ha))
        · rw [h7]
          unfold dkN
          rw [htk, List.map_append]
          rfl
    · rintro σ H4 ⟨z, y, r, rfl⟩
      refine lk_nx r.hd ?_
      walk_at "ws"
      have hf := r.hf
      rw [klen, List.take_of_length_le (Nat.le_refl _)] at hf
      refine k fo _ (lk_back hd fun a o hne ha => r.e a o hne ha) ?_
      rw [upd_ne fod]
      exact hf
theorem ok_numberedN {f : Addr} {fd : FuncData} (F : FnP K "numbered" s_numbered f fd) (T : Txt K mg) : FnOk P w K mg base CX0 1 f fd ["keys"] (sp_numbered false) := by
  refine F.ok sc_numbered (fun vs H Q E h => ?_) (fun cdv A outer s H vs Q E hr h => ?_)
  · obtain ⟨d, ss, g, kvs, rfl, _⟩ := h
    rfl
  · obtain ⟨d, ss, g, kvs, rfl, snd, slen, hd, klen, hkv, k⟩ := h
    refine ⟨_, PSs.nox (pss_cons (ps_set (i := 1) sc_numbered.nd rfl (Or.inl rfl) (pe_ndnew (P := P) (w := w) (kd := false)))
    (pss_cons (ps_set (i := 2) sc_numbered.nd rfl (Or.inl rfl) pe_dnewK)
    (pss_cons (ps_lock (ps_for PassesOwn.never rfl (pi_items (pv 0)) (pg_tupK (K := K) rfl (pgs_cons (pg_name (i := 3) sc_numbered.nd rfl (by first | exact Or.inl rfl | exact Or.inr rfl)) (pgs_cons (pg_name (i := 4) sc_numbered.nd rfl (by first | exact Or.inl rfl | exact Or.inr rfl)) pgs_nil)))
    (pss_cons (ps_if (pt_cmp (pc_ndnotin (P := P) (w := w) (kd := false) hr.units (pv 4) (pv 1)) rfl)
    (pss_one (ps_ndput (P := P) (w := w) (kd := false) hr.units (pv 1) (pv 4) (pe_callB (call_lenN (P := P) (w := w) (kd := false)) (by rfl) T.len PySem.boot_len (pa_cons (pv 1) pa_nil)) rfl))
    pss_nil)
    (pss_one (ps_dput (hu_of hr) (pv 2) (pv 3) (pe_ndget (P := P) (w := w) (kd := false) hr.units (pv 1) (pv 4) (fun _ _ => rfl)) rfl)))))
    (pss_one (ps_ret (pv 2)))))), ?_⟩
    walk_at "ws"
    intro nu H1 n1 e1 h1
    walk_at "ws"
    refine w_dnewK fun fo H2 n2 e2 h2 => ?_
    walk_at "ws"
    have nud : nu ≠ d := Ne.symm (ne_of_none hd n1)
    have fod : fo ≠ d := Ne.symm (ne_of_none (e1 _ _ hd) n2)
    obtain ⟨φ, hφ⟩ := nd_have h1
    have nuf : nu ≠ fo := ne_of_none hφ n2
    refine w_lock ((e1.tr e2) _ _ hd) True.intro fun od H3 m3 h3 => ?_
    walk_at "ws"
    refine k_iI h3 ?_
    have r0 : NI P w false H H3 d nu fo od kvs ss g 0 := ⟨fun a o hne ha => m3 _ _ hne ((e1.tr e2) _ _ ha), h3, (h1.ex e2).tp (m3.tp fun xs q => by rw [(e1.tr e2) _ _ hd] at q; cases q) fun o ho => m3 _ _ nud ho, m3 _ _ fod h2⟩
    refine k_for walk_items (fun i σ H' => ∃ z y, NI P w false H H' d nu fo od kvs ss g i ∧ σ = [some (.ref d), some (.ref nu), some (.ref fo), z, y]) ⟨_, _, r0, rfl⟩ (fun i σ H' ⟨z, y, r, _⟩ => r.hd) ?_ ?_
    · rintro i x σ H4 H5 hi ⟨z, y, r, rfl⟩ ⟨T1, x1, x2, rfl, hT, eH5, g1, g2⟩
      have hil : i < ss.length := by omega
      obtain ⟨q, hq⟩ : ∃ q, ss[i]? = some q := ⟨_, List.getElem?_eq_getElem hil⟩
      obtain ⟨y0, hy0, hky⟩ := hkv i q hq
      have hx1 : x1 = .int (q : Int) := by
        have g1 : (kvs[i]?.map fun kv => kV kv.1) = some x1 := g1
        rw [hy0] at g1
        exact (Option.some.inj g1).symm
      have hx2 : x2 = y0 := by
        have g2 : (kvs[i]?.map Prod.snd) = some x2 := g2
        rw [hy0] at g2
        exact (Option.some.inj g2).symm
      subst hx1 hx2
      have r5 : NI P w false H H5 d nu fo od kvs ss g i := eH5 ▸ r.ex (Ex.new hT)
      have hky5 : Ky false H5 (g q) x2 := hky.tp fun a xs h => r5.e a _ (fun e => by rw [e, hd] at h; cases h) h
      refine ⟨T1, _, rfl, SqT.of (eH5 ▸ upd_same), rfl, _, _, rfl, _, _, rfl, rfl, ?_⟩
      have htk : ss.take (i + 1) = ss.take i ++ [q] := by rw [List.take_add_one, hq]; rfl
      have htm : (ss.take (i + 1)).map g = (ss.take i).map g ++ [g q] := by rw [htk, List.map_append]; rfl
      obtain ⟨rr, hrr⟩ := QM.firsts_pre ((ss.take (i + 1)).map g) ((ss.drop (i + 1)).map g)
      rw [← List.map_append, List.take_append_drop] at hrr
      have hqm : g q ∈ QM.firsts ((ss.take (i + 1)).map g) := (QM.mem_firsts (α := List Nat)).mpr (List.mem_map.mpr ⟨q, by rw [htk]; simp, rfl⟩)
      have hv : valV (((QM.firsts ((ss.take (i + 1)).map g)).zipIdx).map fun p => (p.1, iv p.2)) (g q) = some (iv (QM.num ss g q)) := by
        rw [valV_zip (κ := List Nat) (QM.nodup_firsts _), if_pos hqm]
        unfold QM.num
        rw [hrr, QM.idx_app hqm]
        rfl
      have hfl : (QM.firsts ((ss.take i).map g)).length ≤ i := by
        have := QM.nodup_le (α := List Nat) (QM.nodup_firsts ((ss.take i).map g)) (m := (ss.take i).map g) fun x hx => (QM.mem_firsts (α := List Nat)).mp hx
        rw [List.length_map, List.length_take] at this
        omega
      walk_at "ws"
      refine k_nn r5.hn hky5 ?_
      rw [valV_zip (κ := List Nat) (QM.nodup_firsts _)]
      walk_at "ws"
      by_cases hm : g q ∈ QM.firsts ((ss.take i).map g)
      · rw [if_pos hm]
        have hfs := QM.firsts_in hm
        rw [← htm] at hfs
        refine k_if (fun q => by cases q) fun _ => ?_
        have n6 := r5.hn
        rw [← hfs] at n6
        have m6 : Mo nu H5 H5 := Ex.rfl'.mo
        have m6t : Tp H5 _ := m6.tp fun xs q => by obtain ⟨φ, hφ⟩ := nd_have r5.hn; rw [hφ] at q; cases q
        walk_at "ws"
        refine k_ng n6 (hky5.tp m6t) hv ?_
        walk_at "ws"
        refine k_dp3K (m6 _ _ (Ne.symm nuf) r5.hf) (by rw [sizeLine_eq]; simp [dkN]; omega) fun H7 m7 h7 => ?_
        walk_at "ws"
        rw [putK_new (dkN_not (by
          intro hmem
          exact take_not snd hq hmem))] at h7
        refine ⟨_, _, ⟨fun a o hne ha => ?_, m7 _ _ (Ne.symm fod) (m6 _ _ (Ne.symm nud) r5.hd), n6.tp (m7.tp fun xs q => by rw [m6 _ _ (Ne.symm nuf) r5.hf] at q; cases q) fun o ho => m7 _ _ nuf ho, ?_⟩, rfl⟩
        · exact m7 _ _ (fun e => by rw [e, e1.back n2] at ha; cases ha) (m6 _ _ (fun e => by rw [e, n1] at ha; cases ha) (r5.e a o hne ha))
        · rw [h7]
          unfold dkN
          rw [htk, List.map_append]
          rfl
      · rw [if_neg hm]
        have hfs := QM.firsts_out hm
        rw [← htm] at hfs
        refine k_if (fun _ => ?_) fun q => by cases q
        walk_at "ws"
        refine r_lenN r5.hn ?_
        walk_at "ws"
        refine k_np r5.hn hky5 (by rw [List.length_map, List.length_zipIdx]; omega) fun H6 m6 n6 => ?_
        rw [putK_new (by
          intro hmem
          obtain ⟨p', hp', e'⟩ := List.mem_map.mp hmem
          obtain ⟨q', hq', rfl⟩ := List.mem_map.mp hp'
          obtain ⟨_, h2⟩ := List.mem_zipIdx_iff_getElem?.mp hq' |> fun z => (⟨trivial, List.mem_of_getElem? z⟩ : True ∧ _)
          exact hm (e' ▸ h2))] at n6
        have n6 : ND P w false H6 nu (((QM.firsts ((ss.take (i + 1)).map g)).zipIdx).map fun p => (p.1, iv p.2)) := by
          rw [hfs, List.zipIdx_append, List.map_append]
          simpa using n6
        have m6t : Tp H5 _ := m6.tp fun xs q => by obtain ⟨φ, hφ⟩ := nd_have r5.hn; rw [hφ] at q; cases q
        walk_at "ws"
        refine k_ng n6 (hky5.tp m6t) hv ?_
        walk_at "ws"
        refine k_dp3K (m6 _ _ (Ne.symm nuf) r5.hf) (by rw [sizeLine_eq]; simp [dkN]; omega) fun H7 m7 h7 => ?_
        walk_at "ws"
        rw [putK_new (dkN_not (by
          intro hmem
          exact take_not snd hq hmem))] at h7
        refine ⟨_, _, ⟨fun a o hne ha => ?_, m7 _ _ (Ne.symm fod) (m6 _ _ (Ne.symm nud) r5.hd), n6.tp (m7.tp fun xs q => by rw [m6 _ _ (Ne.symm nuf) r5.hf] at q; cases q) fun o ho => m7 _ _ nuf ho, ?_⟩, rfl⟩
        · exact m7 _ _ (fun e => by rw [e, e1.back n2] at ha; cases ha) (m6 _ _ (fun e => by rw [e, n1] at ha; cases ha) (r5.e a o hne ha))
        · rw [h7]
          unfold dkN
          rw [htk, List.map_append]
          rfl
    · rintro σ H4 ⟨z, y, r, rfl⟩
      refine lk_nx r.hd ?_
      walk_at "ws"
      have hf := r.hf
      rw [klen, List.take_of_length_le (Nat.le_refl _)] at hf
      refine k fo _ (lk_back hd fun a o hne ha => r.e a o hne ha) ?_
      rw [upd_ne fod]
      exact hf
end

/-! ## alike_states -/
section
variable {P : Program} {w : World} {K : PySem.W.Frag} {mg : Str → Option Value} {base : Heap}
abbrev N_alike_states : List Str := ["machine", "states", "classes", "many", "keys", "state", "step"]
theorem sc_alike_states : FnScope N_alike_states ["machine", "states"] (defScope s_alike_states) := ⟨rfl, rfl, rfl, by decide +kernel, rfl, by decide +kernel, by decide +kernel⟩
theorem ok_alike_states {f : Addr} {fd : FuncData} (F : FnP K "alike_states" s_alike_states f fd) (T : Txt K mg) (k_numbered : Kn P w K mg base CX0 1 "numbered" ["keys"] (spOr (sp_numbered true) (sp_numbered false))) : FnOk P w K mg base CX0 2 f fd ["machine", "states"] (sp_alike_states K) := by
  refine F.ok sc_alike_states (fun vs H Q E h => ?_) (fun cdv A outer s H vs Q E hr h => ?_)
  · obtain ⟨m, p, cs, Tb, A, kl, kf, lo, mo, ss, rfl, _⟩ := h
    rfl
  · obtain ⟨m, p, cs, Tb, Ac, kl, kf, lo, mo, ss, rfl, hM, ⟨C, dx, tb, ac, hm, hC, ⟨tb', us, e1, htb, hlen, hrow⟩, hac⟩, hp, hS, k⟩ := h
    cases e1
    refine ⟨_, PSs.nox (pss_cons (ps_set (i := 2) sc_alike_states.nd rfl (Or.inr rfl) (pe_kn k_numbered (hr.mono (by decide)) rfl (pa_cons (pe_dc (own := [("state", 5)]) rfl sc_alike_states.nd (pi_seqK (K := K) (pv 1)) (blkOk_by (own := [("state", 5)]) (N := N_alike_states) (sc := defScope s_alike_states) (by decide +kernel)) (fun _ _ _ _ _ => (pg_name (i := 5) sc_alike_states.nd rfl (by first | exact Or.inl rfl | exact Or.inr rfl))) (fun _ _ _ _ _ => pts_nil) (fun _ _ _ _ _ => (pv 5)) (fun _ _ _ _ _ => (pe_cmpR (opIn (K := K)) (pv 5) (pe_fldK (K := K) (pv 0)) rfl))) pa_nil)))
    (pss_cons (ps_set (i := 3) sc_alike_states.nd rfl (Or.inl rfl) pe_int)
    (pss_cons (ps_while PassesOwn.never (pt_cmpR op_ge (pe_maxVals rfl rfl T.max (pv 2)) (pv 3) (nomark _))
    (pss_cons (ps_set (i := 3) sc_alike_states.nd rfl (Or.inl rfl) (pe_op op_add (pe_maxVals rfl rfl T.max (pv 2)) pe_int))
    (pss_cons (ps_set (i := 4) sc_alike_states.nd rfl (Or.inl rfl) pe_dnewK)
    (pss_cons (ps_for PassesOwn.never rfl (pi_seqK (K := K) (pv 1)) (pg_name (i := 5) sc_alike_states.nd rfl (by first | exact Or.inl rfl | exact Or.inr rfl))
    (pss_one (ps_dput (hu_of hr) (pv 4) (pv 5) (pe_tup (pa_cons (pe_dget (hu_of hr) (pv 2) (pv 5) (fun _ _ => rfl)) (pa_cons (pe_tupleOfK (K := K) rfl T.tuple (pe_lc (own := [("step", 6)]) rfl sc_alike_states.nd (pi_seqK (K := K) (pe_ix (ixT (K := K)) (pe_fldK (K := K) (pv 0)) (pv 5) (fun _ _ => rfl))) (blkOk_by (own := [("step", 6)]) (N := N_alike_states) (sc := defScope s_alike_states) (by decide +kernel)) (fun _ _ _ _ _ => (pg_name (i := 6) sc_alike_states.nd rfl (by first | exact Or.inl rfl | exact Or.inr rfl))) (fun _ _ _ _ _ => pts_nil) (fun _ _ _ _ _ => (pe_dget (hu_of hr) (pv 2) (pv 6) (fun _ _ => rfl))))) pa_nil))) rfl)))
    (pss_one (ps_set (i := 2) sc_alike_states.nd rfl (Or.inr rfl) (pe_kn k_numbered (hr.mono (by decide)) rfl (pa_cons (pv 4) pa_nil))))))))
    (pss_one (ps_ret (pv 2)))))), ?_⟩
    have hk0 : 0 < ss.length := (List.getElem?_eq_some_iff.mp hS.zero).1
    have hsl : ss.length ≤ 6 := by
      have := QM.nodup_le hS.nd (m := List.range Tb.length) fun x hx => List.mem_range.mpr (((hS.mem x).mp hx).lt hM.t)
      rw [List.length_range] at this
      exact Nat.le_trans this hM.six
    have hrw : ∀ q ∈ ss, ∃ u, us[q]? = some u ∧ TupN H u (Tb.getD q []) := fun q hq => by
      have hlt := ((hS.mem q).mp hq).lt hM.t
      obtain ⟨u, hu, hr⟩ := hrow _ _ (List.getElem?_eq_getElem hlt)
      exact ⟨u, hu, by rw [List.getD_eq_getElem?_getD, List.getElem?_eq_getElem hlt]; exact hr⟩
    have hstep : ∀ q ∈ ss, ∀ x ∈ Tb.getD q [], x ∈ ss := fun q hq x hx => by
      have hlt := ((hS.mem q).mp hq).lt hM.t
      obtain ⟨a, ha, e⟩ := List.mem_iff_getElem.mp hx
      have hmem : Tb.getD q [] ∈ Tb := by rw [List.getD_eq_getElem?_getD, List.getElem?_eq_getElem hlt]; exact List.getElem_mem hlt
      have hak : a < cs.length := by rw [← (hM.t.row _ hmem).1]; exact ha
      have : QM.cell Tb q a = x := by
        unfold QM.cell
        rw [List.getD_eq_getElem?_getD (l := Tb.getD q []), List.getElem?_eq_getElem ha]
        exact e
      rw [← this]
      exact (hS.mem _).mpr (((hS.mem q).mp hq).step hak)
    let f0 : Nat → List Nat := fun q => [(decide (q ∈ Ac)).toNat]
    have f0i : ∀ q q', f0 q = f0 q' ↔ (q ∈ Ac ↔ q' ∈ Ac) := fun q q' => by
      show [(decide (q ∈ Ac)).toNat] = [(decide (q' ∈ Ac)).toNat] ↔ _
      by_cases h1 : q ∈ Ac <;> by_cases h2 : q' ∈ Ac <;> simp [h1, h2]
    have p0 := QM.part_first (A := Ac) hS (f := f0) (fun q _ q' _ e => (f0i q q').mpr (e [] (fun b m => by cases m))) (fun q _ q' _ e => (f0i q q').mp e)
    obtain ⟨aa, eaa, haa⟩ := hac
    cases eaa
    walk_at "ws"
    refine k_iS (b := true) (SqL.of hp) ?_
    refine k_dcSP (by simp; omega) (ss.map fun q => (ik q, V.bl (decide (q ∈ Ac)))) (by simp) (by
      rw [List.map_map]
      exact hS.nd.map _ fun a b ne e => ne (by injection e with e; exact Int.ofNat.inj e)) (SqL.of hp) (fun j x H1 Qc hx e1 k1 => ?_) fun d0 H1 n1 e1 h1 => ?_
    · obtain ⟨q, hq, rfl⟩ := at_map hx
      refine k_delN rfl ?_
      walk_at "ws"
      refine r_inN (t := false) (SqT.of (e1 _ _ haa)) ?_
      walk_at "ws"
      exact k1 _ _ _ (by rw [List.getElem?_map, hq]; rfl) Ex.rfl'
    walk_at "ws"
    refine .inl ⟨d0, ss, f0, _, rfl, hS.nd, by omega, h1, by simp, fun i q hq => ⟨_, by rw [List.getElem?_map, hq]; rfl, _, rfl, rfl⟩, fun d H2 e2 h2 => ?_⟩
    walk_at "ws"
    let W (mm : Nat) (σ : L2.St) (H' : Hp) : Prop := ∃ (c : Nat → Nat) (n many : Nat) (d : Addr) (z1 z2 z3 : Option V), mm = ss.length - many ∧ QM.Part Tb Ac cs.length ss c n ∧ (n ≤ many → QM.Stable Tb cs.length ss c) ∧ Ex H H' ∧ H' d = some (.dK (dkN ss c)) ∧ σ = [some (.ref m), some (.ref p), some (.ref d), some (iv many), z1, z2, z3]
    refine w_while W ss.length ⟨_, _, 0, d, _, _, _, rfl, p0, fun h => ?_, e1.tr e2, h2, rfl⟩ ?_
    · have := p0.lt 0 ((hS.mem 0).mpr QM.Reach.zero)
      omega
    rintro mm σ H3 ⟨c, n, many, d, z1, z2, z3, rfl, pc, hst, e3, h3, rfl⟩
    have hn1 : 1 ≤ n := by
      have := pc.lt 0 ((hS.mem 0).mpr QM.Reach.zero)
      omega
    have hns : n ≤ ss.length := by
      have := QM.nodup_le (List.nodup_range (n := n)) (m := ss.map c) fun i hi => by
        obtain ⟨q, hq, e⟩ := pc.onto i (List.mem_range.mp hi)
        exact List.mem_map.mpr ⟨q, hq, e⟩
      simpa using this
    have hmx : ∀ mx : Nat, mx ∈ ss.map c → (∀ j ∈ ss.map c, j ≤ mx) → mx = n - 1 := fun mx hm hj => by
      obtain ⟨q, hq, rfl⟩ := List.mem_map.mp hm
      have h1 := pc.lt q hq
      obtain ⟨q', hq', e'⟩ := pc.onto (n - 1) (by omega)
      have := hj (c q') (List.mem_map.mpr ⟨q', hq', rfl⟩)
      omega
    have hne : ss.map c ≠ [] := by
      intro e
      have := congrArg List.length e
      simp at this
      rw [this] at hk0
      exact absurd hk0 (by decide)
    walk_at "ws"
    refine k_maxV h3 (ns := ss.map c) (by simp [dkN, List.map_map, Function.comp_def]) hne fun mx hx1 hx2 => ?_
    have emx := hmx mx hx1 hx2
    subst emx
    walk_at "ws"
    refine k_wh (fun hb => ?_) (fun hb => ?_)
    · have hlt : many ≤ n - 1 := by simpa using hb
      walk_at "ws"
      refine k_maxV h3 (ns := ss.map c) (by simp [dkN, List.map_map, Function.comp_def]) hne fun mx hx1 hx2 => ?_
      have emx := hmx mx hx1 hx2
      subst emx
      walk_at "ws"
      rw [show ((n - 1 : Nat) : Int) + 1 = ((n : Nat) : Int) by omega]
      refine w_dnewK fun dk H4 n4 e4 h4 => ?_
      walk_at "ws"
      refine k_iS (b := true) (SqL.of (e4 _ _ (e3 _ _ hp))) ?_
      refine k_forS (fun i σ H' => ∃ (kvs : List (Key × V)) (z1 z2 : Option V), Ex H3 H' ∧ H' dk = some (.dK kvs) ∧ kvs.length = i ∧ (∀ (j q : Nat), j < i → ss[j]? = some q → ∃ y, kvs[j]? = some (ik q, y) ∧ Ky false H' (QM.keyOf Tb c q) y) ∧ σ = [some (.ref m), some (.ref p), some (.ref d), some (iv n), some (.ref dk), z1, z2])
        ⟨[], _, _, e4, h4, rfl, fun j q hj => absurd hj (Nat.not_lt_zero _), rfl⟩ (fun _ _ _ ⟨_, _, _, r, _⟩ => SqL.of (r _ _ (e3 _ _ hp))) ?_ ?_
      · rintro i x σ H5 hx ⟨kvs, z1, z2, e5, h5, hkl, hkv, rfl⟩
        obtain ⟨q, hq, rfl⟩ := at_map hx
        have hqs : q ∈ ss := List.mem_of_getElem? hq
        obtain ⟨u, hu, ⟨ua, rfl, hua⟩⟩ := hrw q hqs
        walk_at "ws"
        refine k_dg2K (e5 _ _ h3) (dkN_get hqs) ?_
        walk_at "ws"
        refine r_ixT (SqT.of (e5 _ _ (e3 _ _ htb))) hu ?_
        refine k_iS (b := false) (SqT.of (e5 _ _ (e3 _ _ hua))) ?_
        have hrl : (Tb.getD q []).length = cs.length := by
          have hlt := ((hS.mem q).mp hqs).lt hM.t
          have hmem : Tb.getD q [] ∈ Tb := by rw [List.getD_eq_getElem?_getD, List.getElem?_eq_getElem hlt]; exact List.getElem_mem hlt
          exact (hM.t.row _ hmem).1
        refine k_lcSP (by rw [List.length_map, hrl]; have := hM.four; omega) ((Tb.getD q []).map fun x => iv (c x)) (by simp) (SqT.of (e5 _ _ (e3 _ _ hua))) (fun j x H6 Qc hx e6 k6 => ?_) fun l H6 n6 e6 h6 => ?_
        · obtain ⟨y, hy, rfl⟩ := at_map hx
          walk_at "ws"
          refine k_dg2K (e6 _ _ (e5 _ _ h3)) (dkN_get (hstep q hqs y (List.mem_of_getElem? hy))) ?_
          exact k6 _ _ (by rw [List.getElem?_map, hy]; rfl) Ex.rfl'
        refine k_tupleL (SqL.of h6) fun ta H7 n7 e7 h7 => ?_
        walk_at "ws"
        refine k_tup (by walk_at "sz") fun tk H8 n8 e8 h8 => ?_
        walk_at "ws"
        have hnew : ik q ∉ kvs.map (·.1) := by
          intro hmem
          obtain ⟨j, hj, e⟩ := List.mem_iff_getElem.mp hmem
          rw [List.length_map] at hj
          have hjs : j < ss.length := by have := (List.getElem?_eq_some_iff.mp hq).1; omega
          obtain ⟨y, hy, _⟩ := hkv j _ (by omega) (List.getElem?_eq_getElem hjs)
          have : (kvs.map (·.1))[j]? = some (ik ss[j]) := by rw [List.getElem?_map, hy]; rfl
          rw [List.getElem?_eq_getElem (by rw [List.length_map]; exact hj), e] at this
          have e2 : q = ss[j] := by injection this with this; injection this with this; exact Int.ofNat.inj this
          obtain ⟨hi, ei⟩ := List.getElem?_eq_some_iff.mp hq
          have := (List.getElem_inj (h₀ := hjs) (h₁ := hi) hS.nd).mp (e2.symm.trans ei.symm)
          omega
        have hil : i < ss.length := (List.getElem?_eq_some_iff.mp hq).1
        refine k_dp3K (e8 _ _ (e7 _ _ (e6 _ _ h5))) (by rw [sizeLine_eq]; omega) fun H9 m9 h9 => ?_
        rw [putK_new hnew] at h9
        walk_at "ws"
        have e58 : Ex H5 H8 := (e6.tr e7).tr e8
        have t9 : Tp H8 H9 := m9.tp fun xs q => by rw [e58 _ _ h5] at q; cases q
        refine ⟨kvs ++ [(ik q, .ref tk)], _, _, m9.ex (e5.tr e58) n4, h9, by simp [hkl], fun j q' hj hq' => ?_, rfl⟩
        rcases Nat.lt_succ_iff_lt_or_eq.mp hj with hj | rfl
        · obtain ⟨y, hy, hky⟩ := hkv j q' hj hq'
          exact ⟨y, by rw [List.getElem?_append_left (by omega)]; exact hy, hky.tp fun a xs h => t9 _ _ (e58 _ _ h)⟩
        · rw [hq] at hq'
          cases hq'
          refine ⟨.ref tk, by rw [List.getElem?_append_right (by omega)]; simp [hkl], c q, (Tb.getD q []).map c, tk, ta, rfl, rfl, t9 _ _ h8, t9 _ _ (e8 _ _ ?_)⟩
          rw [h7, List.map_map]
          rfl
      · rintro σ H5 ⟨kvs, z1, z2, e5, h5, hkl, hkv, rfl⟩
        walk_at "ws"
        have hkl' : kvs.length = ss.length := by simpa using hkl
        refine .inr ⟨dk, ss, QM.keyOf Tb c, kvs, rfl, hS.nd, by omega, h5, hkl', fun i q hq => hkv i q (by rw [List.length_map]; exact (List.getElem?_eq_some_iff.mp hq).1) hq, fun d2 H6 e6 h6 => ?_⟩
        walk_at "ws"
        have pn := QM.part_next hM.t hS pc.coarse pc.acc
        have pg := QM.part_grow hM.t hS pc
        exact ⟨ss.length - n, by omega, _, _, n, d2, _, _, _, rfl, pn, pg.2, (e3.tr e5).tr e6, h6, rfl⟩
    · have hge : ¬ many ≤ n - 1 := by simpa using hb
      walk_at "ws"
      exact k d c n _ e3 h3 (QM.cls_of hS pc (hst (by omega)))
end

/-! ## least -/
section
variable {P : Program} {w : World} {K : PySem.W.Frag} {mg : Str → Option Value} {base : Heap}
abbrev N_least : List Str := ["machine", "states", "classes", "firsts", "state", "table", "one", "accepts", "step"]
theorem sc_least : FnScope N_least ["machine"] (defScope s_least) := ⟨rfl, rfl, rfl, by decide +kernel, rfl, by decide +kernel, by decide +kernel⟩
theorem range_of {ms ls : List Nat} {n : Nat} (hp : ms.Perm ls) (hs : ms.Pairwise (· ≤ ·)) (nd : ls.Nodup) (h : ∀ i, i ∈ ls ↔ i < n) : ms = List.range n := by
  refine List.Perm.eq_of_pairwise (le := (· ≤ ·)) (fun a b _ _ h1 h2 => Nat.le_antisymm h1 h2) hs ?_ (hp.trans ?_)
  · exact (List.pairwise_lt_range (n := n)).imp fun h => Nat.le_of_lt h
  · rw [List.perm_ext_iff_of_nodup nd List.nodup_range]
    intro i
    rw [h, List.mem_range]
theorem firsts_at {gs : List Nat} {c : Nat → Nat} {i : Nat} (h : i ∈ gs.map c) : ∃ q ∈ gs, c q = i ∧ valV (gs.map fun q => (ik (c q), iv q)) (ik i) = some (iv q) := by
  induction gs with
  | nil => cases h
  | cons a t ih =>
    by_cases e : c a = i
    · exact ⟨a, List.mem_cons_self .., e, by rw [List.map_cons, valV_pos (by show ik (c a) = ik i; rw [e])]⟩
    · obtain ⟨q, h1, h2, h3⟩ := ih ((List.mem_cons.mp h).elim (fun z => absurd z.symm e) id)
      exact ⟨q, List.mem_cons_of_mem _ h1, h2, by rw [List.map_cons, valV_neg (fun z => e (by injection z with z; exact Int.ofNat.inj z)), h3]⟩
theorem ok_least {f : Addr} {fd : FuncData} (F : FnP K "least" s_least f fd) (T : Txt K mg) (k_reached : Kn P w K mg base CX0 1 "reached" ["machine"] (sp_reached K)) (k_alike_states : Kn P w K mg base CX0 2 "alike_states" ["machine", "states"] (sp_alike_states K))
    (k_RawMachine_init : Kc P w K mg base CX0 2 (aR K) "RawMachine" ["self", "letters", "table", "accepts"] (sp_keep (aR K))) : FnOk P w K mg base CX0 4 f fd ["machine"] (sp_least K) := by
  refine F.ok sc_least (fun vs H Q E h => ?_) (fun cdv A outer s H vs Q E hr h => ?_)
  · obtain ⟨m, cs, Tb, A, kl, kf, lo, mo, G, rfl, _⟩ := h
    rfl
  · obtain ⟨m, cs, Tb, Ac, kl, kf, lo, mo, G, rfl, hM, hmat, hL, k⟩ := h
    have hmat0 := hmat
    obtain ⟨C, dx, tb, ac, hm, hC, htab, hac⟩ := hmat
    have htab0 := htab
    refine ⟨_, PSs.nox (pss_cons (ps_if (pt_cmp (pc_isN (pe_fldK (K := K) (pv 0))) rfl)
    (pss_cons (ps_set (i := 1) sc_least.nd rfl (Or.inl rfl) (pe_kn k_reached (hr.mono (by decide)) rfl (pa_cons (pv 0) pa_nil)))
    (pss_cons (ps_set (i := 2) sc_least.nd rfl (Or.inr rfl) (pe_kn k_alike_states (hr.mono (by decide)) rfl (pa_cons (pv 0) (pa_cons (pv 1) pa_nil))))
    (pss_cons (ps_set (i := 3) sc_least.nd rfl (Or.inr rfl) pe_dnewK)
    (pss_cons (ps_for PassesOwn.never rfl (pi_seqK (K := K) (pv 1)) (pg_name (i := 4) sc_least.nd rfl (by first | exact Or.inl rfl | exact Or.inr rfl))
    (pss_one (ps_expr (pe_dsetd (pv 3) (pe_dget (hu_of hr) (pv 2) (pv 4) (fun _ _ => rfl)) (pv 4) ⟨rfl, rfl, rfl, rfl⟩))))
    (pss_cons (ps_set (i := 5) sc_least.nd rfl (Or.inl rfl) (pe_lst pa_nil))
    (pss_cons (ps_for PassesOwn.never rfl (pi_seqK (K := K) (pe_callB (call_sortedDI rfl) (by rfl) T.sorted (by decide +kernel) (pa_cons (pv 3) pa_nil))) (pg_name (i := 6) sc_least.nd rfl (by first | exact Or.inl rfl | exact Or.inr rfl))
    (pss_one (ps_expr (pe_bmK (K := K) PySem.F.plainAttrs_list PySem.F.slot_list_append PySem.F.type_list_append mt_append (pv 5) (pa_cons (pe_tupleOfK (K := K) rfl T.tuple (pe_lc (own := [("step", 8)]) rfl sc_least.nd (pi_seqK (K := K) (pe_ix (ixT (K := K)) (pe_fldK (K := K) (pv 0)) (pe_dget (hu_of hr) (pv 3) (pv 6) (fun _ _ => rfl)) (fun _ _ => rfl))) (blkOk_by (own := [("step", 8)]) (N := N_least) (sc := defScope s_least) (by decide +kernel)) (fun _ _ _ _ _ => (pg_name (i := 8) sc_least.nd rfl (by first | exact Or.inl rfl | exact Or.inr rfl))) (fun _ _ _ _ _ => pts_nil) (fun _ _ _ _ _ => (pe_dget (hu_of hr) (pv 2) (pv 8) (fun _ _ => rfl))))) pa_nil)))))
    (pss_cons (ps_set (i := 7) sc_least.nd rfl (Or.inl rfl) (pe_tupleOfK (K := K) rfl T.tuple (pe_lc (own := [("one", 6)]) rfl sc_least.nd (pi_seqK (K := K) (pe_callB (call_sortedDI rfl) (by rfl) T.sorted (by decide +kernel) (pa_cons (pv 3) pa_nil))) (blkOk_by (own := [("one", 6)]) (N := N_least) (sc := defScope s_least) (by decide +kernel)) (fun _ _ _ _ _ => (pg_name (i := 6) sc_least.nd rfl (by first | exact Or.inl rfl | exact Or.inr rfl))) (fun _ _ _ _ _ => pts_one (pt_cmpR (opIn (K := K)) (pe_dget (hu_of hr) (pv 3) (pv 6) (fun _ _ => rfl)) (pe_fldK (K := K) (pv 0)) rfl)) (fun _ _ _ _ _ => (pv 6)))))
    (pss_cons (ps_fldK (K := K) (pv 0) (pe_mk k_RawMachine_init (hr.mono (by decide)) rfl (pa_cons (pe_fldK (K := K) (pv 0)) (pa_cons (pe_tupleOfK (K := K) rfl T.tuple (pv 5)) (pa_cons (pv 7) pa_nil)))))
    (pss_one (ps_fldK (K := K) (pe_fldK (K := K) (pv 0)) (pe_fldK (K := K) (pv 0))))))))))))
    pss_nil)
    (pss_one (ps_ret (pe_fldK (K := K) (pv 0))))), ?_⟩
    walk_at "ws"
    rcases hL with ⟨rfl, hG⟩ | ⟨L, R, A', rfl, hLA, hG⟩
    · obtain ⟨tb', us, e1, htb, hlen, hrow⟩ := htab
      cases e1
      refine k_if (fun _ => ?_) (fun z => by cases z)
      walk_at "ws"
      refine ⟨m, cs, Tb, Ac, _, kf, lo, mo, rfl, hM, hmat0, fun p ss H1 e1 h1 S => ?_⟩
      walk_at "ws"
      refine ⟨m, p, cs, Tb, Ac, _, kf, lo, mo, ss, rfl, hM, hmat0.ex e1, h1, S, fun d c n H2 e2 h2 CL => ?_⟩
      walk_at "ws"
      refine w_dnewK fun fi H3 n3 e3 h3 => ?_
      walk_at "ws"
      have e12 : Ex H H2 := e1.tr e2
      have hk0 : 0 < ss.length := (List.getElem?_eq_some_iff.mp S.zero).1
      have hsl : ss.length ≤ 6 := by
        have := QM.nodup_le S.nd (m := List.range Tb.length) fun x hx => List.mem_range.mpr (((S.mem x).mp hx).lt hM.t)
        rw [List.length_range] at this
        exact Nat.le_trans this hM.six
      have hns : n ≤ ss.length := by
        have := QM.nodup_le (List.nodup_range (n := n)) (m := ss.map c) fun i hi => by
          obtain ⟨q, hq, e⟩ := CL.onto i (List.mem_range.mp hi)
          exact List.mem_map.mpr ⟨q, hq, e⟩
        simpa using this
      have hrw : ∀ q ∈ ss, ∃ u, us[q]? = some u ∧ TupN H u (Tb.getD q []) := fun q hq => by
        have hlt := ((S.mem q).mp hq).lt hM.t
        obtain ⟨u, hu, hr⟩ := hrow _ _ (List.getElem?_eq_getElem hlt)
        exact ⟨u, hu, by rw [List.getD_eq_getElem?_getD, List.getElem?_eq_getElem hlt]; exact hr⟩
      have hrl : ∀ q ∈ ss, (Tb.getD q []).length = cs.length := fun q hq => by
        have hlt := ((S.mem q).mp hq).lt hM.t
        have hmem : Tb.getD q [] ∈ Tb := by rw [List.getD_eq_getElem?_getD, List.getElem?_eq_getElem hlt]; exact List.getElem_mem hlt
        exact (hM.t.row _ hmem).1
      have hstep : ∀ q ∈ ss, ∀ x ∈ Tb.getD q [], x ∈ ss := fun q hq x hx => by
        obtain ⟨a, ha, e⟩ := List.mem_iff_getElem.mp hx
        have hak : a < cs.length := by rw [← hrl q hq]; exact ha
        have : QM.cell Tb q a = x := by
          unfold QM.cell
          rw [List.getD_eq_getElem?_getD (l := Tb.getD q []), List.getElem?_eq_getElem ha]
          exact e
        rw [← this]
        exact (S.mem _).mpr (((S.mem q).mp hq).step hak)
      refine k_iS (b := true) (SqL.of (e3 _ _ (e2 _ _ h1))) ?_
      refine k_forS (fun i σ H' => ∃ (gs : List Nat) (z1 z2 z3 z4 z5 : Option V), Ex H2 H' ∧ H' fi = some (.dK (gs.map fun q => (ik (c q), iv q))) ∧ (gs.map c).Nodup ∧ (∀ q ∈ gs, q ∈ ss) ∧ (∀ j q, j < i → ss[j]? = some q → c q ∈ gs.map c) ∧
          σ = [some (.ref m), some (.ref p), some (.ref d), some (.ref fi), z1, z2, z3, z4, z5])
        ⟨[], _, _, _, _, _, e3, h3, List.nodup_nil, (by simp), fun j q hj => absurd hj (Nat.not_lt_zero _), rfl⟩ (fun _ _ _ ⟨_, _, _, _, _, _, r, _⟩ => SqL.of (r _ _ (e2 _ _ h1))) ?_ ?_
      · rintro i x σ H4 hx ⟨gs, z1, z2, z3, z4, z5, e4, h4, hnd, hgs, hcov, rfl⟩
        obtain ⟨q, hq, rfl⟩ := at_map hx
        have hqs : q ∈ ss := List.mem_of_getElem? hq
        have hcl : gs.length ≤ 6 := by
          have := QM.nodup_le hnd (m := List.range n) fun x hx => by
            obtain ⟨q, hq, rfl⟩ := List.mem_map.mp hx
            exact List.mem_range.mpr (CL.lt q (hgs q hq))
          simp at this
          omega
        walk_at "ws"
        refine k_ds1 h4 ?_
        walk_at "ws"
        refine k_dg2K (e4 _ _ h2) (dkN_get hqs) ?_
        walk_at "ws"
        refine k_ds3 h4 (by rw [sizeLine_eq, List.length_map]; omega) (fun v hv => ?_) fun hv H5 m5 h5 => ?_
        · walk_at "ws"
          refine ⟨gs, _, _, _, _, _, e4, h4, hnd, hgs, fun j q' hj hq' => ?_, rfl⟩
          rcases Nat.lt_succ_iff_lt_or_eq.mp hj with hj | rfl
          · exact hcov j q' hj hq'
          · rw [hq] at hq'
            cases hq'
            refine Classical.byContradiction fun hn => ?_
            have : valV (gs.map fun q => (ik (c q), iv q)) (ik (c q)) = none := by
              cases hh : valV (gs.map fun q => (ik (c q), iv q)) (ik (c q)) with
              | none => rfl
              | some v =>
                refine absurd ?_ hn
                clear hnd hgs hcov hv h4 hcl hn
                induction gs with
                | nil => cases hh
                | cons a t ih =>
                  by_cases e : c a = c q
                  · rw [List.map_cons, e]; exact List.mem_cons_self ..
                  · rw [List.map_cons, valV_neg (fun z => e (by injection z with z; exact Int.ofNat.inj z))] at hh
                    rw [List.map_cons]
                    exact List.mem_cons_of_mem _ (ih hh)
            rw [show valV (gs.map fun q => (ik (c q), iv q)) (Sum.inl (c q : Int)) = _ from this] at hv
            cases hv
        · walk_at "ws"
          have hn : c q ∉ gs.map c := fun hm => by
            obtain ⟨q', _, _, h3⟩ := firsts_at hm
            rw [show valV (gs.map fun q => (ik (c q), iv q)) (Sum.inl (c q : Int)) = _ from h3] at hv
            cases hv
          refine ⟨gs ++ [q], _, _, _, _, _, m5.ex e4 n3, by rw [h5, List.map_append]; rfl, ?_, fun q' hq' => ?_, fun j q' hj hq' => ?_, rfl⟩
          · rw [List.map_append, List.nodup_append]
            exact ⟨hnd, by simp, fun a ha b hb => by rw [List.mem_singleton.mp hb]; exact fun e => hn (e ▸ ha)⟩
          · rcases List.mem_append.mp hq' with h | h
            · exact hgs q' h
            · rw [List.mem_singleton.mp h]; exact hqs
          · rw [List.map_append]
            rcases Nat.lt_succ_iff_lt_or_eq.mp hj with hj | rfl
            · exact List.mem_append_left _ (hcov j q' hj hq')
            · rw [hq] at hq'
              cases hq'
              exact List.mem_append_right _ (List.mem_singleton.mpr rfl)
      · rintro σ H4 ⟨gs, z1, z2, z3, z4, z5, e4, h4, hnd, hgs, hcov, rfl⟩
        have hcover : ∀ i, i ∈ gs.map c ↔ i < n := fun i => by
          constructor
          · intro hi
            obtain ⟨q, hq, rfl⟩ := List.mem_map.mp hi
            exact CL.lt q (hgs q hq)
          · intro hi
            obtain ⟨q, hq, rfl⟩ := CL.onto i hi
            obtain ⟨j, hj, e⟩ := List.mem_iff_getElem.mp hq
            exact hcov j q (by rw [List.length_map]; exact hj) (by rw [List.getElem?_eq_getElem hj, e])
        obtain ⟨o, ho⟩ : ∃ o : Nat → Nat, ∀ i, i < n → o i ∈ ss ∧ c (o i) = i ∧ valV (gs.map fun q => (ik (c q), iv q)) (ik i) = some (iv (o i)) :=
          ⟨fun i => if h : i < n then Classical.choose (firsts_at ((hcover i).mpr h)) else 0, fun i hi => by
            simp only [dif_pos hi]
            obtain ⟨a, b, d⟩ := Classical.choose_spec (firsts_at ((hcover i).mpr hi))
            exact ⟨hgs _ a, b, d⟩⟩
        have hglen : (gs.map c).length < 64 := by
          have := QM.nodup_le hnd (m := List.range n) fun x hx => List.mem_range.mpr ((hcover x).mp hx)
          simp at this ⊢
          omega
        have hLeast := QM.least_of hM.t S CL o fun i hi => ⟨(ho i hi).1, (ho i hi).2.1⟩
        walk_at "ws"
        refine k_lst (by walk_at "sz") fun tl H5 n5 e5 h5 => ?_
        walk_at "ws"
        refine r_sortDN (e5 _ _ h4) (ns := gs.map c) (by rw [List.map_map, List.map_map]; rfl) hglen fun ms sl H6 hp hs n6 e6 h6 => ?_
        have ems := range_of hp hs hnd hcover
        subst ems
        refine k_iS (b := true) (SqL.of h6) ?_
        refine k_forS (fun i σ H' => ∃ (rows : List V) (z2 z3 z4 z5 : Option V), Ex H4 H' ∧ (∀ a o, a ≠ tl → H6 a = some o → H' a = some o) ∧ H' tl = some (.lst rows) ∧ rows.length = i ∧ (∀ j, j < i → ∃ v, rows[j]? = some v ∧ TupN H' v ((Tb.getD (o j) []).map c)) ∧
            σ = [some (.ref m), some (.ref p), some (.ref d), some (.ref fi), z2, some (.ref tl), z3, z4, z5])
          ⟨[], _, _, _, _, e5.tr e6, fun a o _ h => h, e6 _ _ h5, rfl, fun j hj => absurd hj (Nat.not_lt_zero _), rfl⟩ (fun _ _ _ ⟨_, _, _, _, _, _, r, _⟩ => SqL.of (r _ _ (Ne.symm (ne_of_none h5 n6)) h6)) ?_ ?_
        · rintro i x σ H7 hx ⟨rows, z2, z3, z4, z5, e7, m7, h7, hrl7, hrows, rfl⟩
          obtain ⟨i', hi', rfl⟩ := at_map hx
          have hin : i < n := by have := (List.getElem?_eq_some_iff.mp hi').1; simpa using this
          have hii : i' = i := by rw [List.getElem?_range hin] at hi'; exact (Option.some.inj hi').symm
          subst hii
          obtain ⟨ho1, ho2, ho3⟩ := ho i' hin
          obtain ⟨u, hu, ⟨ua, rfl, hua⟩⟩ := hrw _ ho1
          have e17 : Ex H H7 := (e12.tr e4).tr e7
          walk_at "ws"
          refine k_bmL (SqL.of h7) ?_
          walk_at "ws"
          refine k_dg2K (e7 _ _ h4) ho3 ?_
          refine r_ixT (SqT.of (e17 _ _ htb)) hu ?_
          refine k_iS (b := false) (SqT.of (e17 _ _ hua)) ?_
          refine k_lcSP (by rw [List.length_map, hrl _ ho1]; have := hM.four; omega) ((Tb.getD (o i') []).map fun x => iv (c x)) (by simp) (SqT.of (e17 _ _ hua)) (fun j x H8 Qc hx e8 k8 => ?_) fun l H8 n8 e8 h8 => ?_
          · obtain ⟨y, hy, rfl⟩ := at_map hx
            walk_at "ws"
            refine k_dg2K (e8 _ _ (e7 _ _ (e4 _ _ h2))) (dkN_get (hstep _ ho1 y (List.mem_of_getElem? hy))) ?_
            exact k8 _ _ (by rw [List.getElem?_map, hy]; rfl) Ex.rfl'
          refine k_tupleL (SqL.of h8) fun ta H9 n9 e9 h9 => ?_
          walk_at "ws"
          refine r_append (e9 _ _ (e8 _ _ h7)) (by rw [sizeLine_eq]; omega) fun H10 m10 h10 => ?_
          walk_at "ws"
          have e79 : Ex H7 H9 := e8.tr e9
          have t10 : Tp H9 H10 := m10.tp fun xs q => by rw [e79 _ _ h7] at q; cases q
          refine ⟨rows ++ [.ref ta], _, _, _, _, m10.ex (e7.tr e79) n5, fun a o ne h => m10 _ _ ne (e79 _ _ (m7 a o ne h)), h10, by simp [hrl7], fun j hj => ?_, rfl⟩
          rcases Nat.lt_succ_iff_lt_or_eq.mp hj with hj | rfl
          · obtain ⟨v, hv, hvt⟩ := hrows j hj
            exact ⟨v, by rw [List.getElem?_append_left (by omega)]; exact hv, hvt.tp fun a xs h => t10 _ _ (e79 _ _ h)⟩
          · refine ⟨.ref ta, by rw [List.getElem?_append_right (by omega)]; simp [hrl7], ta, rfl, t10 _ _ ?_⟩
            rw [h9, List.map_map]
            rfl
        · rintro σ H7 ⟨rows, z2, z3, z4, z5, e7, m7, h7, hrl7, hrows, rfl⟩
          have hrl7 : rows.length = n := by simpa using hrl7
          have e17 : Ex H H7 := (e12.tr e4).tr e7
          obtain ⟨aa, eaa, haa⟩ := hac
          cases eaa
          walk_at "ws"
          refine r_sortDN (e7 _ _ h4) (ns := gs.map c) (by rw [List.map_map, List.map_map]; rfl) hglen fun ms sl2 H8 hp hs n8 e8 h8 => ?_
          have ems := range_of hp hs hnd hcover
          subst ems
          refine k_iS (b := true) (SqL.of h8) ?_
          refine k_lcF walk_seq (by simp; omega) (fun i => decide (o i ∈ Ac)) (fun i => iv i) (fun H' e => SqL.of (e _ _ h8)) (fun j x H9 H10 Qb Qc hj hY e9 kq kb' => ?_) fun al H9 n9 e9 h9 => ?_
          · obtain ⟨rfl, hx⟩ := hY
            obtain ⟨j', hj', rfl⟩ := at_map hx
            have hin : j < n := by simpa using hj
            have hii : j' = j := by rw [List.getElem?_range hin] at hj'; exact (Option.some.inj hj').symm
            subst hii
            obtain ⟨ho1, ho2, ho3⟩ := ho j' hin
            walk_at "ws"
            refine k_dg2K (e9 _ _ (e8 _ _ (e7 _ _ h4))) ho3 ?_
            walk_at "ws"
            refine r_inN (t := false) (SqT.of (e9 _ _ (e8 _ _ (e17 _ _ haa)))) ?_
            walk_at "ws"
            by_cases hA : o j' ∈ Ac
            · rw [if_pos (by simp [hA])]
              walk_at "ws"
              exact kq _ (decide_eq_true hA) Ex.rfl'
            · rw [if_neg (by simp [hA])]
              exact kb' _ (decide_eq_false hA) Ex.rfl'
          refine k_tupleL (SqL.of h9) fun ta H10 n10 e10 h10 => ?_
          have h10a : H10 tl = some (.lst rows) := e10 _ _ (e9 _ _ (e8 _ _ h7))
          have e110 : Ex H H10 := ((e17.tr e8).tr e9).tr e10
          walk_at "ws"
          refine k_tupleL (SqL.of h10a) fun tb2 H11 n11 e11 h11 => ?_
          walk_at "ws"
          refine k_make fun L dxL H12 n12 n12d nd12 e12' h12 h12d => ?_
          refine ⟨L, dxL, tb2, ta, _, rfl, h12, fun lo2 mo2 H13 nlo nmo nlm m13 h13 hlo hmo => ⟨rfl, ?_⟩⟩
          have e112 : Ex H H12 := (e110.tr e11).tr e12'
          have hmL : m ≠ L := ne_of_none ((e110.tr e11) _ _ hm) n12
          have hm13 : H13 m = _ := m13 _ _ hmL (e112 _ _ hm)
          walk_at "ws"
          walk_at "sf"
          intro H14 m14 h14
          have h14L : H14 L = _ := m14 _ _ (Ne.symm hmL) h13
          walk_at "ws"
          walk_at "sf"
          intro H15 m15 h15
          have h15m : H15 m = _ := m15 _ _ hmL h14
          walk_at "ws"
          have nL : H L = none := (e110.tr e11).back n12
          have nlo0 : H lo2 = none := e112.back nlo
          have nmo0 : H mo2 = none := e112.back nmo
          have hLlo : L ≠ lo2 := fun e => by rw [e, nlo] at h12; cases h12
          have hLmo : L ≠ mo2 := fun e => by rw [e, nmo] at h12; cases h12
          have hmlo : m ≠ lo2 := ne_of_none hm nlo0
          have hmmo : m ≠ mo2 := ne_of_none hm nmo0
          have mo15 : Mo m H H15 := fun a ob ne ha => by
            have aL : a ≠ L := ne_of_none ha nL
            exact m15 _ _ aL (m14 _ _ ne (m13 _ _ aL (e112 _ _ ha)))
          have keep : ∀ a ob, a ≠ m → a ≠ L → H12 a = some ob → H15 a = some ob := fun a ob n1 n2 ha => m15 _ _ n2 (m14 _ _ n1 (m13 _ _ n2 ha))
          have tup : ∀ a xs, H12 a = some (.tup xs) → H15 a = some (.tup xs) := fun a xs ha => keep a _ (fun e => by rw [e, e112 _ _ hm] at ha; cases ha) (fun e => by rw [e, h12] at ha; cases ha) ha
          have hLM : MAt K H15 L cs ((List.range n).map fun i => (Tb.getD (o i) []).map c) (((List.range n).filter fun i => decide (o i ∈ Ac))) (.ref L) .non lo2 mo2 := by
            refine ⟨aR K, dxL, tb2, ta, h15, T.cR, ⟨tb2, rows, rfl, tup _ _ (e12' _ _ h11), by rw [hrl7]; simp, fun i r hr => ?_⟩, ⟨ta, rfl, tup _ _ (e12' _ _ (e11 _ _ ?_))⟩⟩
            · have hi : i < n := by have := (List.getElem?_eq_some_iff.mp hr).1; simpa using this
              rw [List.getElem?_map, List.getElem?_range hi] at hr
              cases hr
              obtain ⟨v, hv, hvt⟩ := hrows i (by simpa using hi)
              exact ⟨v, hv, hvt.tp fun a xs h => tup _ _ (((((e8.tr e9).tr e10).tr e11).tr e12') _ _ h)⟩
            · rw [h10]
              congr 2
              unfold kept
              simp
          have hMD : MD cs ((List.range n).map fun i => (Tb.getD (o i) []).map c) (((List.range n).filter fun i => decide (o i ∈ Ac))) := by
            refine ⟨hM.asc, hM.one, hM.four, ?_, by simp; omega, ?_⟩
            · obtain ⟨_, hl⟩ := hLeast
              exact hl.ok
            · have := List.length_filter_le (fun i => decide (o i ∈ Ac)) (List.range n)
              rw [List.length_range] at this
              omega
          refine k L _ _ H15 (hG _ hLeast) mo15 ⟨C, dx, tb, ac, h15m, hC, ?_, ?_⟩ ⟨hMD, _, _, _, hLM⟩ (fun _ => ⟨nL, lo2, mo2, nlo0, nmo0, nlm, hLM, ?_, ?_⟩) (fun z => absurd rfl z)
          · exact (htab0.tp fun a xs h => tup _ _ (e112 _ _ h))
          · exact ⟨ac, rfl, tup _ _ (e112 _ _ haa)⟩
          · exact m15 _ _ (Ne.symm hLlo) (m14 _ _ (Ne.symm hmlo) hlo)
          · exact m15 _ _ (Ne.symm hLmo) (m14 _ _ (Ne.symm hmmo) hmo)
    · refine k_if (fun z => by cases z) fun _ => ?_
      walk_at "ws"
      exact k L R A' H hG Ex.rfl'.mo hmat0 hLA (fun z => by cases z) fun _ => Ex.rfl'
end

/-! ## deed_of -/
section
variable {P : Program} {w : World} {K : PySem.W.Frag} {mg : Str → Option Value} {base : Heap}
abbrev N_deed_of : List Str := ["machine", "word", "small", "state"]
theorem sc_deed_of : FnScope N_deed_of ["machine", "word"] (defScope s_deed_of) := ⟨rfl, rfl, rfl, by decide +kernel, rfl, by decide +kernel, by decide +kernel⟩
theorem ok_deed_of {f : Addr} {fd : FuncData} (F : FnP K "deed_of" s_deed_of f fd) (T : Txt K mg) (k_least : Kn P w K mg base CX0 4 "least" ["machine"] (sp_least K)) (k_led : Kn P w K mg base CX0 1 "led" ["machine", "state", "word"] (sp_led K)) : FnOk P w K mg base CX0 5 f fd ["machine", "word"] (sp_deed_of K) := by
  refine F.ok sc_deed_of (fun vs H Q E h => ?_) (fun cdv A outer s H vs Q E hr h => ?_)
  · obtain ⟨m, cs, Tb, A, kf, lo, mo, L, R, A', u, rfl, _⟩ := h
    rfl
  · obtain ⟨m, cs, Tb, Ac, kf, lo, mo, L, R, A', u, rfl, hM, hmat, hL, hu, k⟩ := h
    refine ⟨_, PSs.nox (pss_cons (ps_set (i := 2) sc_deed_of.nd rfl (Or.inr rfl) (pe_kn k_least (hr.mono (by decide)) rfl (pa_cons (pv 0) pa_nil)))
    (pss_one (ps_ret (pe_tupleOfK (K := K) rfl T.tuple (pe_lc (own := [("state", 3)]) rfl sc_deed_of.nd (pi_range1 rfl T.range (pa_cons (pe_callB (callLen (K := K)) (by rfl) T.len PySem.boot_len (pa_cons (pe_fldK (K := K) (pv 2)) pa_nil)) pa_nil)) (blkOk_by (own := [("state", 3)]) (N := N_deed_of) (sc := defScope s_deed_of) (by decide +kernel)) (fun _ _ _ _ _ => (pg_name (i := 3) sc_deed_of.nd rfl (by first | exact Or.inl rfl | exact Or.inr rfl))) (fun _ _ _ _ _ => pts_nil) (fun _ _ _ _ _ => (pe_kn k_led (hr.mono (by decide)) rfl (pa_cons (pv 2) (pa_cons (pv 3) (pa_cons (pv 1) pa_nil)))))))))), ?_⟩
    walk_at "ws"
    refine ⟨m, cs, Tb, Ac, _, kf, lo, mo, fun R' => R' = R, rfl, hM, hmat, .inr ⟨L, R, A', rfl, hL, rfl⟩, fun L2 R2 A2 H1 eR m1 hm1 hL1 _ he => ?_⟩
    subst eR
    have e1 : Ex H H1 := he (fun z => by cases z)
    obtain ⟨hMR, kf2, lo2, mo2, hLM⟩ := hL1
    have hLM0 := hLM
    obtain ⟨C2, dx2, tb2, ac2, hm2, hC2, ⟨tb', us, e', htb, hlen, hrow⟩, hac2⟩ := hLM
    cases e'
    walk_at "ws"
    refine r_len (.inr (SqT.of htb)) ?_
    rw [hlen]
    refine k_iR (by have := hMR.six; omega) ?_
    refine k_lcP walk_rng (by have := hMR.six; omega) ((QM.deed R2 u).map iv) (by simp [QM.deed_len]) (fun _ _ => trivial) (fun j x H2 H3 Qc hj hY e2 k2 => ?_) fun Dl H2 n2 e2 h2 => ?_
    · obtain ⟨rfl, rfl⟩ := hY
      walk_at "ws"
      refine ⟨L2, cs, R2, A2, _, _, _, _, j, u, rfl, hMR, hLM0.ex e2, hj, hu, fun H4 e4 => ?_⟩
      exact k2 _ _ (by simp [QM.deed, hj]) e4
    · refine k_tupleL (SqL.of h2) fun p H3 n3 e3 h3 => ?_
      walk_at "ws"
      exact k _ _ ((e1.tr e2).tr e3) ⟨p, rfl, h3⟩
end

/-! ## field_of -/
section
variable {P : Program} {w : World} {K : PySem.W.Frag} {mg : Str → Option Value} {base : Heap}
abbrev N_field_of : List Str := ["machine"]
theorem sc_field_of : FnScope N_field_of ["machine"] (defScope s_field_of) := ⟨rfl, rfl, rfl, by decide +kernel, rfl, by decide +kernel, by decide +kernel⟩
theorem ok_field_of {f : Addr} {fd : FuncData} (F : FnP K "field_of" s_field_of f fd) (T : Txt K mg) (k_Field_init : Kc P w K mg base CX0 6 (aF K) "Field" ["self", "machine"] (sp_Field_init K)) : FnOk P w K mg base CX0 8 f fd ["machine"] (sp_field_of K) := by
  refine F.ok sc_field_of (fun vs H Q E h => ?_) (fun cdv A outer s H vs Q E hr h => ?_)
  · obtain ⟨m, cs, Tb, A, kl, kf, lo, mo, G, rfl, _⟩ := h
    rfl
  · obtain ⟨m, cs, Tb, Ac, kl, kf, lo, mo, G, rfl, hM, hmat, hL, hF, hfew, k⟩ := h
    obtain ⟨C0, dx0, tb0, ac0, hm0, hC0, hT0, hA0⟩ := id hmat
    refine ⟨_, PSs.nox (pss_cons (ps_if (pt_cmp (pc_isN (pe_fldK (K := K) (pv 0))) rfl)
    (pss_one (ps_fldK (K := K) (pv 0) (pe_mk k_Field_init (hr.mono (by decide)) rfl (pa_cons (pv 0) pa_nil))))
    pss_nil)
    (pss_one (ps_ret (pe_fldK (K := K) (pv 0))))), ?_⟩
    walk_at "ws"
    rcases hF with rfl | ⟨Fa, L, R, A', ws, rfl, rfl, hLA, hFA, hG⟩
    · refine k_if (fun _ => ?_) (fun z => by cases z)
      walk_at "ws"
      refine k_make fun Fa dx H1 n1 nd1 nn1 e1 h1 h1d => ?_
      refine ⟨Fa, dx, m, cs, Tb, Ac, kl, .non, lo, mo, G, rfl, h1, hM, hmat.ex e1, hL.ex e1, hfew, fun L R A' ws H2 hG k1 k2 hm2 hL2 hF2 => ⟨rfl, ?_⟩⟩
      obtain ⟨C2, dx2, tb2, ac2, hmi, hC2, hT2, hA2⟩ := id hm2
      walk_at "ws"
      walk_at "sf"
      intro H3 m3 h3
      walk_at "ws"
      have nFm : Fa ≠ m := Ne.symm (ne_of_none hm0 n1)
      have t3 : Tp H2 H3 := m3.tp fun xs q => by rw [hmi] at q; cases q
      obtain ⟨hMR, kf2, lo2, mo2, hLM⟩ := hL2
      refine k Fa L R A' ws H3 hG (fun a o na h => m3 _ _ na (k1 a o na (ne_of_none h n1) (e1 _ _ h))) ⟨C2, dx2, tb2, ac2, h3, hC2, hT2.tp t3, hA2.tp t3⟩ ?_ ?_ ?_ ?_
      · by_cases hLm : L = m
        · subst hLm
          obtain ⟨C4, dx4, tb4, ac4, hm4, hC4, hT4, hA4⟩ := hLM
          rw [hmi] at hm4
          injection hm4 with hm4
          injection hm4 with e1 e2 e3
          have e3 : MF (sO cs) tb2 ac2 (.ref L) .non lo mo = MF (sO cs) tb4 ac4 (.ref L) kf2 lo2 mo2 := e3
          have : tb2 = tb4 ∧ ac2 = ac4 := by
            unfold MF at e3
            simp at e3
            exact ⟨e3.1, e3.2.1⟩
          obtain ⟨rfl, rfl⟩ := this
          exact ⟨hMR, _, _, _, C2, dx2, tb2, ac2, h3, hC2, hT4.tp t3, hA4.tp t3⟩
        · exact ⟨hMR, kf2, lo2, mo2, hLM.mo (fun o h => m3 _ _ hLm h) t3⟩
      · refine hF2.moI hmi (fun e => ?_) m3
        obtain ⟨_, _, _, _, _, _, ⟨dx', ds, h6, _⟩, _⟩ := hF2
        rw [e, hmi] at h6
        injection h6 with h6
        injection h6 with _ _ e3
        cases e3
      · by_cases hk : kl = .non
        · exact .inr hk
        · have := k2 hk m _ (Ne.symm nFm) (e1 _ _ hm0)
          rw [hmi] at this
          injection this with this
          injection this with _ _ e3
          exact .inl (MF_inj e3).2.2.1.symm
      · exact fun z => absurd rfl z
    · refine k_if (fun z => by cases z) fun _ => ?_
      walk_at "ws"
      exact k Fa L R A' ws H hG Ex.rfl'.mo hmat hLA hFA (.inl rfl) fun _ => Ex.rfl'
end

/-! ## Field_init -/
section
variable {P : Program} {w : World} {K : PySem.W.Frag} {mg : Str → Option Value} {base : Heap}
abbrev N_Field_init : List Str := ["self", "machine", "small", "steps", "here", "at", "row", "letter", "step"]
theorem sc_Field_init : FnScope N_Field_init ["self", "machine"] (defScope s_Field_init) := ⟨rfl, rfl, rfl, by decide +kernel, rfl, by decide +kernel, by decide +kernel⟩
/-- while the field is made -/
structure FI (K : PySem.W.Frag) (H0 H' : Hp) (p : Addr) (cs : List Nat) (R ws : List (List Nat)) (wo de nu bl : Addr) (rs : List V) (i : Nat) : Prop where
  keep : ∀ a o, a ≠ p → H0 a = some o → H' a = some o
  fw : FW K H' p cs R ws wo de nu bl
  hbl : H' bl = some (.lst rs)
  len : rs.length = i
  le : i ≤ ws.length
  zero : ws[0]? = some []
  ok : ∀ w ∈ ws, QM.Ok cs.length w
  nd : (ws.map (QM.deed R)).Nodup
  rows : ∀ (j : Nat) (w : List Nat), j < i → ws[j]? = some w → ∃ b, rs[j]? = some (V.ref b) ∧ b ≠ wo ∧ b ≠ de ∧ b ≠ bl ∧ H' b = some (.lst ((List.range cs.length).map fun a => iv (QM.idx R ws (w ++ [a]))))
  clo : ∀ (j : Nat) (w : List Nat), j < i → ws[j]? = some w → ∀ a, a < cs.length → QM.deed R (w ++ [a]) ∈ ws.map (QM.deed R)
  short : ∀ (j : Nat) (w : List Nat), ws[j]? = some w → w.length ≤ j
  nbw : bl ≠ wo
  nbd : bl ≠ de
theorem FW.keep {H H' : Hp} {F wo de nu bl : Addr} {cs : List Nat} {R ws : List (List Nat)} (h : FW K H F cs R ws wo de nu bl) (e : ∀ a o, (a = F ∨ a = wo ∨ a = de ∨ a = nu) → H a = some o → H' a = some o) (t : Tp H H') : FW K H' F cs R ws wo de nu bl := by
  obtain ⟨dx, ds, h6, hne, h8, h9, h10, h11, h12⟩ := h
  refine ⟨dx, ds, e _ _ (.inl rfl) h6, hne, e _ _ (.inr (.inl rfl)) h8, e _ _ (.inr (.inr (.inl rfl))) h9, h10, fun i w hi => ?_, e _ _ (.inr (.inr (.inr rfl))) h12⟩
  obtain ⟨v, a, b⟩ := h11 i w hi
  exact ⟨v, a, b.tp t⟩
theorem FI.mo {H0 H1 H2 : Hp} {p wo de nu bl x : Addr} {cs : List Nat} {R ws : List (List Nat)} {rs : List V} {i : Nat} {l : List V} (I : FI K H0 H1 p cs R ws wo de nu bl rs i) (h0 : H0 x = none) (xp : x ≠ p) (xw : x ≠ wo) (xd : x ≠ de) (xb : x ≠ bl)
    (hx : H1 x = some (.lst l)) (hrf : ∀ (b : Addr) (j : Nat), rs[j]? = some (V.ref b) → b ≠ x) (k : Mo x H1 H2) : FI K H0 H2 p cs R ws wo de nu bl rs i := by
  have xn : x ≠ nu := fun e => by
    obtain ⟨dx, ds, _, _, _, _, _, _, h12⟩ := I.fw
    rw [e, h12] at hx
    cases hx
  refine ⟨fun a o na h => k _ _ (ne_of_none h h0) (I.keep a o na h), I.fw.keep (fun a o ha h => k _ _ (fun e => ?_) h) (k.tp fun xs q => by rw [hx] at q; cases q), k _ _ (Ne.symm xb) I.hbl, I.len, I.le, I.zero, I.ok, I.nd, fun j w hj hw => ?_, I.clo, I.short, I.nbw, I.nbd⟩
  · subst e
    rcases ha with e | e | e | e
    · exact xp e
    · exact xw e
    · exact xd e
    · exact xn e
  · obtain ⟨b, b1, b2, b3, b4, b5⟩ := I.rows j w hj hw
    exact ⟨b, b1, b2, b3, b4, k _ _ (hrf b j b1) b5⟩
theorem idx_app {R ws : List (List Nat)} {w u : List Nat} (h : QM.deed R w ∈ ws.map (QM.deed R)) : QM.idx R (ws ++ [u]) w = QM.idx R ws w := by
  unfold QM.idx
  rw [List.map_append]
  exact QM.idx_app h
theorem ok_Field_init {f : Addr} {fd : FuncData} (F : FnM K "__init__" "Field.__init__" s_Field_init f fd) (T : Txt K mg) (k_least : Kn P w K mg base CX0 4 "least" ["machine"] (sp_least K)) (k_deed_of : Kn P w K mg base CX0 5 "deed_of" ["machine", "word"] (sp_deed_of K))
    (k_after : Kn P w K mg base CX0 1 "after" ["one", "other"] sp_after) (k_Field_met : Km P w K mg base CX0 1 (aF K) "met" ["self", "deed", "word"] (sp_met K)) : FnOk P w K mg base CX0 6 f fd ["self", "machine"] (sp_Field_init K) := by
  refine F.ok sc_Field_init (fun vs H Q E h => ?_) (fun cdv A outer s H vs Q E hr h => ?_)
  · obtain ⟨p, dx, m, cs, Tb, A, kl, kf, lo, mo, G, rfl, _⟩ := h
    rfl
  · obtain ⟨p, dx, m, cs, Tb, Ac, kl, kf, lo, mo, G, rfl, hp, hM, hmat, hL, hfew, k⟩ := h
    refine ⟨_, PSs.nox (pss_cons (ps_set (i := 2) sc_Field_init.nd rfl (Or.inl rfl) (pe_kn k_least (hr.mono (by decide)) rfl (pa_cons (pv 1) pa_nil)))
    (pss_cons (ps_fldK (K := K) (pv 0) (pe_fldK (K := K) (pv 2)))
    (pss_cons (ps_setLc (i := 3) (own := [("letter", 7)]) rfl sc_Field_init.nd rfl rfl (sw_true rfl rfl rfl (by decide +kernel)) (pi_str (pe_fldK (K := K) (pv 0))) (blkOk_by (own := [("letter", 7)]) (N := N_Field_init) (sc := defScope s_Field_init) (by decide +kernel)) (fun _ _ _ _ _ => (pg_name (i := 7) sc_Field_init.nd rfl (by first | exact Or.inl rfl | exact Or.inr rfl))) (fun _ _ _ _ _ => pts_nil) (fun _ _ _ _ _ => (pe_kn k_deed_of (hr.mono (by decide)) rfl (pa_cons (pv 1) (pa_cons (pv 7) pa_nil)))))
    (pss_cons (ps_set (i := 4) sc_Field_init.nd rfl (Or.inl rfl) (pe_tupRg rfl rfl T.tuple (prg_1 rfl T.range (pe_callB (callLen (K := K)) (by rfl) T.len PySem.boot_len (pa_cons (pe_fldK (K := K) (pv 2)) pa_nil)))))
    (pss_cons (ps_fldK (K := K) (pv 0) (pe_lst (pa_cons pe_str pa_nil)))
    (pss_cons (ps_fldK (K := K) (pv 0) (pe_lst (pa_cons (pv 4) pa_nil)))
    (pss_cons (ps_fldK (K := K) (pv 0) (pe_dispT hr.units (pv 4) pe_int))
    (pss_cons (ps_fldK (K := K) (pv 0) (pe_lst pa_nil))
    (pss_one (ps_while PassesOwn.never (pt_cmpR op_lt (pe_callB (callLen (K := K)) (by rfl) T.len PySem.boot_len (pa_cons (pe_fldK (K := K) (pv 0)) pa_nil)) (pe_callB (callLen (K := K)) (by rfl) T.len PySem.boot_len (pa_cons (pe_fldK (K := K) (pv 0)) pa_nil)) (nomark _))
    (pss_cons (ps_set (i := 5) sc_Field_init.nd rfl (Or.inl rfl) (pe_callB (callLen (K := K)) (by rfl) T.len PySem.boot_len (pa_cons (pe_fldK (K := K) (pv 0)) pa_nil)))
    (pss_cons (ps_set (i := 6) sc_Field_init.nd rfl (Or.inl rfl) (pe_lst pa_nil))
    (pss_cons (ps_for PassesOwn.never rfl (pi_zipX (K := K) rfl T.zip (pa_cons (pe_fldK (K := K) (pv 0)) (pa_cons (pv 3) pa_nil))) (pg_tupK (K := K) rfl (pgs_cons (pg_name (i := 7) sc_Field_init.nd rfl (by first | exact Or.inl rfl | exact Or.inr rfl)) (pgs_cons (pg_name (i := 8) sc_Field_init.nd rfl (by first | exact Or.inl rfl | exact Or.inr rfl)) pgs_nil)))
    (pss_one (ps_expr (pe_bmK (K := K) PySem.F.plainAttrs_list PySem.F.slot_list_append PySem.F.type_list_append mt_append (pv 6) (pa_cons (pe_km k_Field_met (hr.mono (by decide)) (pv 0) (pa_cons (pe_kn k_after (hr.mono (by decide)) rfl (pa_cons (pe_ix (ixL (K := K)) (pe_fldK (K := K) (pv 0)) (pv 5) (fun _ _ => rfl)) (pa_cons (pv 8) pa_nil))) (pa_cons (pe_op op_addT (pe_ix (ixL (K := K)) (pe_fldK (K := K) (pv 0)) (pv 5) (fun _ _ => rfl)) (pv 7)) pa_nil))) pa_nil)))))
    (pss_cons (ps_expr (pe_bmK (K := K) PySem.F.plainAttrs_list PySem.F.slot_list_append PySem.F.type_list_append mt_append (pe_fldK (K := K) (pv 0)) (pa_cons (pv 6) pa_nil)))
    (pss_one (ps_if (pt_cmpR op_gt (pe_callB (callLen (K := K)) (by rfl) T.len PySem.boot_len (pa_cons (pe_fldK (K := K) (pv 0)) pa_nil)) (T.peMOST rfl) (nomark _))
    (pss_one ps_never)
    pss_nil)))))))))))))))), ?_⟩
    obtain ⟨C0, dx0, tb0, ac0, hm0⟩ := hmat.ins
    have npm : p ≠ m := fun e => by rw [e, hm0] at hp; cases hp
    walk_at "ws"
    refine ⟨m, cs, Tb, Ac, kl, kf, lo, mo, G, rfl, hM, hmat, hL, fun L R A' H1 hG m1 hm1 hL1 _ hex => ?_⟩
    have hp1 : H1 p = _ := m1 _ _ npm hp
    obtain ⟨hMR, kf2, lo2, mo2, hLM⟩ := hL1
    obtain ⟨C2, dx2, tb2, ac2, hm2, hC2, hT2, hA2⟩ := hLM
    have npL : p ≠ L := fun e => by rw [e, hm2] at hp1; cases hp1
    walk_at "ws"
    walk_at "sf"
    intro H2 m2 h2
    change H2 p = some (.ins (aF K) dx [("letters", .str (sO cs))]) at h2
    have tp2 : Tp H1 H2 := m2.tp fun xs q => by rw [hp1] at q; cases q
    have hmat2 : MAt K H2 m cs Tb Ac (.ref L) kf lo mo := hm1.mo (fun o h => m2 _ _ (Ne.symm npm) h) tp2
    have hL2 : LAt K H2 L cs R A' := ⟨hMR, kf2, lo2, mo2, C2, dx2, tb2, ac2, m2 _ _ (Ne.symm npL) hm2, hC2, hT2.tp tp2, hA2.tp tp2⟩
    have hm2' : H2 L = _ := m2 _ _ (Ne.symm npL) hm2
    walk_at "ws"
    refine k_lc walk_str (by have := hM.four; show (sO cs).cps.size ≤ 100000; simp; omega) (fun Dl j y H' => TupN H' y (QM.deed R [j])) (fun _ _ => trivial) (fun Dl j y H3 H4 hd mo' h => h.tp (mo'.tp fun xs q => by obtain ⟨l, hd⟩ := hd; rw [hd] at q; cases q)) (fun Dl j x H3 H4 Qc hj hY e3 hDl hDl2 k3 => ?_) fun st H3 ys n3 e3 h3 hys hyv => ?_
    · obtain ⟨rfl, c, hc, rfl⟩ := hY
      have hjc : j < cs.length := by simpa using hj
      have hcj : (⟨#[c]⟩ : Str) = wO cs [j] := by
        have hc : cs[j]? = some c := by simpa using hc
        have : c = cs.getD j 0 := by rw [List.getD_eq_getElem?_getD, hc]; rfl
        rw [this]
        rfl
      walk_at "ws"
      rw [hcj]
      refine ⟨m, cs, Tb, Ac, kf, lo, mo, L, R, A', [j], rfl, hM, hmat2.ex e3, hL2.ex e3, fun b hb => by rw [List.mem_singleton.mp hb]; exact hjc, fun v H5 e5 hv => ?_⟩
      exact k3 v _ e5 hv
    have hys : ys.length = cs.length := by simpa using hys
    walk_at "ws"
    have hm3' : H3 L = _ := e3 _ _ hm2'
    obtain ⟨tb2', us2, et2, htb2, hlen2, hrow2⟩ := hT2
    cases et2
    walk_at "ws"
    refine r_len (.inr (SqT.of (e3 _ _ (tp2 _ _ htb2)))) ?_
    rw [hlen2]
    refine k_tr (by have := hMR.six; omega) fun he H4 n4 e4 h4 => ?_
    walk_at "ws"
    refine k_lst (by walk_at "sz") fun wo H5 n5 e5 h5 => ?_
    have hp5 : H5 p = _ := e5 _ _ (e4 _ _ (e3 _ _ h2))
    walk_at "ws"
    walk_at "sf"
    intro H6 m6 h6
    change H6 p = some (.ins (aF K) dx [("letters", .str (sO cs)), ("words", .ref wo)]) at h6
    have nwp : wo ≠ p := fun e => by rw [e, hp5] at h5; cases h5
    walk_at "ws"
    refine k_lst (by walk_at "sz") fun de H7 n7 e7 h7 => ?_
    have hp7 : H7 p = _ := e7 _ _ h6
    walk_at "ws"
    walk_at "sf"
    intro H8 m8 h8
    change H8 p = some (.ins (aF K) dx [("letters", .str (sO cs)), ("words", .ref wo), ("deeds", .ref de)]) at h8
    have ndp : de ≠ p := fun e => by rw [e, hp7] at h7; cases h7
    have hwo6 : H6 wo = _ := m6 _ _ nwp h5
    have hwo8 : H8 wo = _ := m8 _ _ nwp (e7 _ _ hwo6)
    have nwd : wo ≠ de := ne_of_none hwo6 n7
    have hhp : he ≠ p := fun e => by rw [e] at h4; rw [e4 _ _ (e3 _ _ h2)] at h4; cases h4
    have hhe8 : H8 he = _ := m8 _ _ hhp (e7 _ _ (m6 _ _ hhp (e5 _ _ h4)))
    walk_at "ws"
    refine w_dispT fun nu H9 n9 e9 h9 => ?_
    walk_at "ws"
    refine k_dt2 h9 (ks := (List.range R.length).map ik) (by rw [e9 _ _ hhe8, List.map_map]; rfl) fun H10 m10 h10 => ?_
    have nnp : nu ≠ p := fun e => by rw [e, h8] at n9; cases n9
    have hp10 : H10 p = _ := m10 _ _ (Ne.symm nnp) (e9 _ _ h8)
    walk_at "ws"
    walk_at "sf"
    intro H11 m11 h11
    change H11 p = some (.ins (aF K) dx [("letters", .str (sO cs)), ("words", .ref wo), ("deeds", .ref de), ("number", .ref nu)]) at h11
    walk_at "ws"
    refine k_lst (by walk_at "sz") fun bl H12 n12 e12 h12 => ?_
    have hp12 : H12 p = _ := e12 _ _ h11
    walk_at "ws"
    walk_at "sf"
    intro H13 m13 h13
    change H13 p = some (.ins (aF K) dx (FF (sO cs) wo de nu bl)) at h13
    walk_at "ws"
    have nbp : bl ≠ p := fun e => by rw [e, hp12] at h12; cases h12
    have keep813 : ∀ a o, a ≠ p → H8 a = some o → H13 a = some o := fun a o na h => m13 _ _ na (e12 _ _ (m11 _ _ na (m10 _ _ (ne_of_none h n9) (e9 _ _ h))))
    have keep413 : ∀ a o, a ≠ p → H4 a = some o → H13 a = some o := fun a o na h => keep813 a o na (m8 _ _ na (e7 _ _ (m6 _ _ na (e5 _ _ h))))
    have w4 : H4 wo = none := n5
    have d4 : H4 de = none := by
      cases q : H4 de with
      | none => rfl
      | some o => rw [m6 _ _ ndp (e5 _ _ q)] at n7; cases n7
    have nu4 : H4 nu = none := by
      cases q : H4 nu with
      | none => rfl
      | some o => rw [m8 _ _ nnp (e7 _ _ (m6 _ _ nnp (e5 _ _ q)))] at n9; cases n9
    have bl4 : H4 bl = none := by
      cases q : H4 bl with
      | none => rfl
      | some o => rw [m11 _ _ nbp (m10 _ _ (fun e => by rw [e, nu4] at q; cases q) (e9 _ _ (m8 _ _ nbp (e7 _ _ (m6 _ _ nbp (e5 _ _ q))))))] at n12; cases n12
    have hnu13 : H13 nu = _ := m13 _ _ nnp (e12 _ _ (m11 _ _ nnp h10))
    have hbl13 : H13 bl = _ := m13 _ _ nbp h12
    have hwo13 : H13 wo = _ := keep813 _ _ nwp hwo8
    have hde13 : H13 de = _ := keep813 _ _ ndp (m8 _ _ ndp h7)
    have hhe13 : H13 he = _ := keep813 _ _ hhp hhe8
    have fi0 : FI K H4 H13 p cs R [[]] wo de nu bl [] 0 := ⟨keep413, ⟨dx, _, h13, nwd, hwo13, hde13, rfl, fun i w hi => by
        cases i with
        | zero => cases hi; exact ⟨_, rfl, he, rfl, by rw [hhe13, QM.deed_nil]⟩
        | succ i => simp at hi, by rw [hnu13]; simp [QM.deed_nil]⟩, hbl13, rfl, Nat.zero_le _, rfl, (fun w hw => by rw [List.mem_singleton.mp hw]; exact fun b hb => nomatch hb), by simp, fun j w hj => absurd hj (Nat.not_lt_zero _), fun j w hj => absurd hj (Nat.not_lt_zero _), fun j w hj => by
        cases j with
        | zero => cases hj; exact Nat.le_refl _
        | succ j => simp at hj, Ne.symm (ne_of_none (m11 _ _ nwp (m10 _ _ (ne_of_none hwo8 n9) (e9 _ _ hwo8))) n12), Ne.symm (ne_of_none (m11 _ _ ndp (m10 _ _ (ne_of_none (m8 _ _ ndp h7) n9) (e9 _ _ (m8 _ _ ndp h7)))) n12)⟩
    have hR := hfew R hG
    have st4 : H4 st = some (.lst ys) := e4 _ _ h3
    have nsp : st ≠ p := fun e => by rw [e, e3 _ _ h2] at h3; cases h3
    refine w_while (fun mm σ H' => ∃ (ws : List (List Nat)) (rs : List V) (i : Nat) (z1 z2 z3 z4 : Option V), mm = 10 - i ∧ FI K H4 H' p cs R ws wo de nu bl rs i ∧ σ = [some (.ref p), some (.ref m), some (.ref L), some (.ref st), some (.ref he), z1, z2, z3, z4]) 10
      ⟨_, _, _, _, _, _, _, rfl, fi0, rfl⟩ ?_
    rintro mm σ H14 ⟨ws, rs, i, z1, z2, z3, z4, rfl, I, rfl⟩
    have hwlen : ws.length ≤ 10 := hR ws I.ok I.nd
    obtain ⟨dx14, ds14, hp14, _, hwo14, hde14, hdl14, hdv14, hnu14⟩ := I.fw
    have hbl14 := I.hbl
    walk_at "ws"
    refine r_len (.inl (SqL.of hbl14)) ?_
    walk_at "ws"
    refine r_len (.inl (SqL.of hde14)) ?_
    walk_at "ws"
    rw [I.len, hdl14]
    refine k_wh (fun hb => ?_) (fun hb => ?_)
    · have hlt : i < ws.length := by simpa using hb
      obtain ⟨u, hu⟩ : ∃ u, ws[i]? = some u := ⟨_, List.getElem?_eq_getElem hlt⟩
      have huo : QM.Ok cs.length u := I.ok u (List.mem_of_getElem? hu)
      walk_at "ws"
      refine r_len (.inl (SqL.of hbl14)) ?_
      rw [I.len]
      walk_at "ws"
      refine k_lst (by walk_at "sz") fun ro H15 n15 e15 h15 => ?_
      have hp15 : H15 p = _ := e15 _ _ hp14
      walk_at "ws"
      have ro4 : H4 ro = none := by
        cases q : H4 ro with
        | none => rfl
        | some o =>
          by_cases hc : ro = p
          · rw [hc, hp14] at n15; cases n15
          · rw [I.keep _ _ hc q] at n15; cases n15
      have row : ro ≠ wo := Ne.symm (ne_of_none hwo14 n15)
      have rod : ro ≠ de := Ne.symm (ne_of_none hde14 n15)
      have rob : ro ≠ bl := Ne.symm (ne_of_none hbl14 n15)
      have rop : ro ≠ p := Ne.symm (ne_of_none hp14 n15)
      have I15 : FI K H4 H15 p cs R ws wo de nu bl rs i := ⟨fun a o na h => e15 _ _ (I.keep a o na h), I.fw.ex e15, e15 _ _ I.hbl, I.len, I.le, I.zero, I.ok, I.nd, fun j w hj hw => by
        obtain ⟨b, b1, b2, b3, b4, b5⟩ := I.rows j w hj hw
        exact ⟨b, b1, b2, b3, b4, e15 _ _ b5⟩, I.clo, I.short, I.nbw, I.nbd⟩
      have hrf : ∀ b j, rs[j]? = some (V.ref b) → b ≠ ro := fun b j hb e => by
        have hj : j < i := by rw [← I.len]; exact (List.getElem?_eq_some_iff.mp hb).1
        have hjw : j < ws.length := by omega
        obtain ⟨b', b1, _, _, _, b5⟩ := I.rows j _ hj (List.getElem?_eq_getElem hjw)
        rw [hb] at b1
        cases b1
        rw [e, n15] at b5
        cases b5
      refine k_iZX (.txt (sO cs)) (.lst st) (xs := sgn (sO cs)) (ys := ys) rfl (SqL.of (e15 _ _ (I.keep _ _ nsp st4))) ?_
      refine k_for (walk_zipX (n := cs.length) (by simp [sgn, hys])) (fun j σ H' => ∃ (ws' : List (List Nat)) (z1 z2 : Option V), (∃ r, ws' = ws ++ r) ∧ FI K H4 H' p cs R ws' wo de nu bl rs i ∧ (∀ (b : Addr) (j : Nat), rs[j]? = some (V.ref b) → b ≠ ro) ∧
          H' ro = some (.lst ((List.range j).map fun a => iv (QM.idx R ws' (u ++ [a])))) ∧ (∀ a, a < j → QM.deed R (u ++ [a]) ∈ ws'.map (QM.deed R)) ∧
          σ = [some (.ref p), some (.ref m), some (.ref L), some (.ref st), some (.ref he), some (iv i), some (.ref ro), z1, z2])
        ⟨ws, _, _, ⟨[], by simp⟩, I15, hrf, h15, fun a ha => absurd ha (Nat.not_lt_zero _), rfl⟩ (fun _ _ _ ⟨_, _, _, _, r, _⟩ => ⟨rfl, SqL.of (r.keep _ _ nsp st4)⟩) ?_ ?_
      · rintro j x σ H16 H17 hj ⟨ws', z1, z2, ⟨r, rfl⟩, I16, hrf', hro, hcl, rfl⟩ ⟨T1, x1, x2, rfl, hT, eH17, g1, g2⟩
        obtain ⟨c, hc, rfl⟩ := at_map g1
        have hc : cs[j]? = some c := by simpa using hc
        have hcj : (⟨#[c]⟩ : Str) = wO cs [j] := by
          have : c = cs.getD j 0 := by rw [List.getD_eq_getElem?_getD, hc]; rfl
          rw [this]
          rfl
        have hst := hyv j x2 g2
        have e17 : Ex H16 H17 := eH17 ▸ Ex.new hT
        refine ⟨T1, _, rfl, SqT.of (eH17 ▸ upd_same), rfl, _, _, rfl, _, _, rfl, rfl, ?_⟩
        have hw16 : (ws ++ r).length ≤ 10 := hR _ I16.ok I16.nd
        obtain ⟨dx16, ds16, hp16, _, hwo16, hde16, hdl16, hdv16, hnu16⟩ := I16.fw
        have hp17 : H17 p = _ := e17 _ _ hp16
        have hu' : (ws ++ r)[i]? = some u := by rw [List.getElem?_append_left hlt]; exact hu
        obtain ⟨dv, dv1, dv2⟩ := hdv16 i u hu'
        have hst3 : TupN H3 x2 (QM.deed R [j]) := hst
        have hst17 : TupN H17 x2 (QM.deed R [j]) := hst3.tp fun a xs h => e17 _ _ (I16.keep a _ (fun e => by rw [e, e3 _ _ h2] at h; cases h) (e4 _ _ h))
        walk_at "ws"
        refine k_bmL (SqL.of (e17 _ _ hro)) ?_
        walk_at "ws"
        refine k_meth hp17 rfl ?_
        walk_at "ws"
        refine r_ixL (SqL.of (e17 _ _ hde16)) dv1 ?_
        walk_at "ws"
        have h1j : QM.Ok cs.length [j] := fun b hb => by rw [List.mem_singleton.mp hb]; exact hj
        refine ⟨dv, x2, _, _, rfl, dv2.ex e17, hst17, fun q hq => by rw [QM.deed_len]; exact QM.deed_lt hMR.t huo q hq, by rw [QM.deed_len]; have := hMR.six; omega, fun y H18 e18 hy => ?_⟩
        rw [QM.deed_app hMR.t huo] at hy
        have hp18 : H18 p = _ := e18 _ _ hp17
        have hwo18 : H18 wo = _ := e18 _ _ (e17 _ _ hwo16)
        walk_at "ws"
        refine r_ixL (SqL.of hwo18) (v := V.str (wO cs u)) (by rw [List.getElem?_map, hu']; rfl) ?_
        walk_at "ws"
        rw [hcj]
        refine r_addT (by have := I16.short i u hu'; rw [sizeLine_eq]; simp [Str.length]; omega) ?_
        rw [wO_app]
        walk_at "ws"
        have huj : QM.Ok cs.length (u ++ [j]) := huo.app h1j
        refine ⟨p, cs, R, ws ++ r, wo, de, nu, bl, y, u ++ [j], rfl, I16.fw.ex (e17.tr e18), I16.nd, by omega, hy, fun hm H19 e19 => ?_, fun hm H19 k19 fw19 => ?_⟩
        · walk_at "ws"
          have hro19 : H19 ro = _ := e19 _ _ (e18 _ _ (e17 _ _ hro))
          have e169 : Ex H16 H19 := (e17.tr e18).tr e19
          refine r_append hro19 (by rw [sizeLine_eq]; simp; have := hM.four; omega) fun H20 m20 h20 => ?_
          walk_at "ws"
          have I19 : FI K H4 H19 p cs R (ws ++ r) wo de nu bl rs i := ⟨fun a o na h => e169 _ _ (I16.keep a o na h), I16.fw.ex e169, e169 _ _ I16.hbl, I16.len, I16.le, I16.zero, I16.ok, I16.nd, fun j w hj hw => by
            obtain ⟨b, b1, b2, b3, b4, b5⟩ := I16.rows j w hj hw
            exact ⟨b, b1, b2, b3, b4, e169 _ _ b5⟩, I16.clo, I16.short, I16.nbw, I16.nbd⟩
          refine ⟨ws ++ r, _, _, ⟨r, rfl⟩, I19.mo ro4 rop row rod rob hro19 hrf' m20, hrf', ?_, fun a ha => ?_, rfl⟩
          · rw [h20, List.range_succ, List.map_append]
            rfl
          · rcases Nat.lt_succ_iff_lt_or_eq.mp ha with ha | rfl
            · exact hcl a ha
            · exact hm
        · walk_at "ws"
          have hnw : ro ≠ nu := fun e => by rw [e, hnu16] at hro; cases hro
          have hro19 : H19 ro = _ := k19 _ _ row rod hnw (e18 _ _ (e17 _ _ hro))
          have e168 : Ex H16 H18 := e17.tr e18
          have tp19 : Tp H18 H19 := fun a xs h => k19 _ _ (fun e => by rw [e, hwo18] at h; cases h) (fun e => by rw [e, e168 _ _ hde16] at h; cases h) (fun e => by rw [e, e168 _ _ hnu16] at h; cases h) h
          refine r_append hro19 (by rw [sizeLine_eq]; simp; have := hM.four; omega) fun H20 m20 h20 => ?_
          walk_at "ws"
          have hnd2 : ((ws ++ r ++ [u ++ [j]]).map (QM.deed R)).Nodup := by
            rw [List.map_append, List.nodup_append]
            exact ⟨I16.nd, by simp, fun a ha b hb => by rw [show b = QM.deed R (u ++ [j]) by simpa using hb]; exact fun e => hm (e ▸ ha)⟩
          have hbn : bl ≠ nu := fun e => by have := I16.hbl; rw [e, hnu16] at this; cases this
          have hu19 : (ws ++ r ++ [u ++ [j]])[i]? = some u := by rw [List.getElem?_append_left (by simp; omega)]; exact hu'
          have hlen2 : (ws ++ r ++ [u ++ [j]]).length ≤ 10 := hR _ (fun w hw => (List.mem_append.mp hw).elim (I16.ok w) fun h => by rw [List.mem_singleton.mp h]; exact huj) hnd2
          have I19 : FI K H4 H19 p cs R (ws ++ r ++ [u ++ [j]]) wo de nu bl rs i := by
            refine ⟨fun a o na h => ?_, fw19, ?_, I16.len, by have := I16.le; simp at this ⊢; omega, ?_, fun w hw => ?_, hnd2, fun j' w hj' hw => ?_, fun j' w hj' hw a ha => ?_, fun j' w hw => ?_, I16.nbw, I16.nbd⟩
            · exact k19 _ _ (ne_of_none h w4) (ne_of_none h d4) (ne_of_none h nu4) (e168 _ _ (I16.keep a o na h))
            · exact k19 _ _ I16.nbw I16.nbd hbn (e168 _ _ I16.hbl)
            · rw [List.getElem?_append_left (by simp; omega)]
              exact I16.zero
            · exact (List.mem_append.mp hw).elim (I16.ok w) fun h => by rw [List.mem_singleton.mp h]; exact huj
            · have hlt' : j' < (ws ++ r).length := by simp; omega
              rw [List.getElem?_append_left hlt'] at hw
              obtain ⟨b, b1, b2, b3, b4, b5⟩ := I16.rows j' w hj' hw
              refine ⟨b, b1, b2, b3, b4, ?_⟩
              rw [k19 _ _ b2 b3 (fun e => by rw [e, hnu16] at b5; cases b5) (e168 _ _ b5)]
              congr 2
              refine List.map_congr_left fun a ha => ?_
              rw [idx_app (I16.clo j' w hj' hw a (List.mem_range.mp ha))]
            · have hlt' : j' < (ws ++ r).length := by simp; omega
              rw [List.getElem?_append_left hlt'] at hw
              rw [List.map_append]
              exact List.mem_append_left _ (I16.clo j' w hj' hw a ha)
            · rw [List.getElem?_append] at hw
              split at hw
              · exact I16.short j' w hw
              · rename_i hnl
                have hj0 : j' - (ws ++ r).length = 0 := by
                  cases hk : j' - (ws ++ r).length with
                  | zero => rfl
                  | succ k => rw [hk] at hw; simp at hw
                rw [hj0] at hw
                have : u ++ [j] = w := by simpa using hw
                rw [← this]
                have := I16.short i u hu'
                simp at hnl ⊢
                omega
          refine ⟨ws ++ r ++ [u ++ [j]], _, _, ⟨r ++ [u ++ [j]], by simp⟩, I19.mo ro4 rop row rod rob hro19 hrf' m20, hrf', ?_, fun a ha => ?_, rfl⟩
          · rw [h20, List.range_succ, List.map_append]
            congr 2
            refine congr (congrArg _ (List.map_congr_left fun a ha => ?_)) ?_
            · rw [idx_app (hcl a (List.mem_range.mp ha))]
            · show [iv (ws ++ r).length] = [iv (QM.idx R (ws ++ r ++ [u ++ [j]]) (u ++ [j]))]
              rw [show QM.idx R (ws ++ r ++ [u ++ [j]]) (u ++ [j]) = (ws ++ r).length from QM.idx_get hnd2 (by rw [List.map_append, List.getElem?_append_right (by simp)]; simp)]
          · rcases Nat.lt_succ_iff_lt_or_eq.mp ha with ha | rfl
            · rw [List.map_append]
              exact List.mem_append_left _ (hcl a ha)
            · simp
      · rintro σ H16 ⟨ws', z1, z2, ⟨r, rfl⟩, I16, hrf', hro, hcl, rfl⟩
        have hw16 : (ws ++ r).length ≤ 10 := hR _ I16.ok I16.nd
        have hu' : (ws ++ r)[i]? = some u := by rw [List.getElem?_append_left hlt]; exact hu
        obtain ⟨dx16, ds16, hp16, _, hwo16, hde16, hdl16, hdv16, hnu16⟩ := I16.fw
        have hbl16 := I16.hbl
        have nbn : bl ≠ nu := fun e => by have := I16.hbl; rw [e, hnu16] at this; cases this
        have nbp' : bl ≠ p := fun e => by rw [e, hp16] at hbl16; cases hbl16
        walk_at "ws"
        refine k_bmL (SqL.of hbl16) ?_
        walk_at "ws"
        refine r_append hbl16 (by rw [sizeLine_eq, I16.len]; omega) fun H17 m17 h17 => ?_
        have hp17 : H17 p = _ := m17 _ _ (Ne.symm nbp') hp16
        have hde17 : H17 de = _ := m17 _ _ (Ne.symm I16.nbd) hde16
        walk_at "ws"
        refine r_len (.inl (SqL.of hde17)) ?_
        walk_at "ws"
        rw [show decide ((100 : Int) < (ds16.length : Int)) = false from decide_eq_false (by omega)]
        refine k_if (fun z => by cases z) fun _ => ?_
        walk_at "ws"
        have hrl16 := I16.len
        refine ⟨10 - (i + 1), by omega, ws ++ r, rs ++ [.ref ro], i + 1, _, _, _, _, rfl, ⟨fun a o na h => m17 _ _ (ne_of_none h bl4) (I16.keep a o na h), I16.fw.keep (fun a o ha h => m17 _ _ (fun e => ?_) h) (m17.tp fun xs q => by rw [hbl16] at q; cases q), h17, by simp [hrl16], by simp; omega, I16.zero, I16.ok, I16.nd, fun j' w hj' hw => ?_, fun j' w hj' hw a ha => ?_, I16.short, I16.nbw, I16.nbd⟩, rfl⟩
        · subst e
          rcases ha with e | e | e | e
          · exact nbp' e
          · exact I16.nbw e
          · exact I16.nbd e
          · exact nbn e
        · rcases Nat.lt_succ_iff_lt_or_eq.mp hj' with hj' | rfl
          · obtain ⟨b, b1, b2, b3, b4, b5⟩ := I16.rows j' w hj' hw
            exact ⟨b, by rw [List.getElem?_append_left (by omega)]; exact b1, b2, b3, b4, m17 _ _ b4 b5⟩
          · rw [hu'] at hw
            cases hw
            exact ⟨ro, by rw [List.getElem?_append_right (by omega), hrl16]; simp, row, rod, rob, m17 _ _ rob hro⟩
        · rcases Nat.lt_succ_iff_lt_or_eq.mp hj' with hj' | rfl
          · exact I16.clo j' w hj' hw a ha
          · rw [hu'] at hw
            cases hw
            exact hcl a ha
    · have hge : ¬ i < ws.length := by simpa using hb
      have hii : i = ws.length := by have := I.le; omega
      subst hii
      walk_at "ws"
      have hFOk : QM.FOk R cs.length ws := ⟨I.zero, I.ok, I.nd, fun w hw a ha => by
        obtain ⟨j, hj, e⟩ := List.mem_iff_getElem.mp hw
        exact I.clo j w hj (by rw [List.getElem?_eq_getElem hj, e]) a ha⟩
      have e24 : Ex H2 H4 := e3.tr e4
      have k214 : ∀ a o, a ≠ p → H2 a = some o → H14 a = some o := fun a o na h => I.keep a o na (e24 _ _ h)
      have tp214 : Tp H2 H14 := fun a xs h => k214 a _ (fun e => by rw [e, h2] at h; cases h) h
      refine k L R A' ws H14 hG (fun a o na np h => k214 a o np (m2 _ _ np (m1 _ _ na h))) (fun hk a o np h => k214 a o np (m2 _ _ np (hex hk _ _ h))) (hmat2.mo (fun o h => k214 _ _ (Ne.symm npm) h) tp214) (hL2.mo (fun o h => k214 _ _ (Ne.symm npL) h) tp214) ⟨⟨hFOk, hwlen, hMR.t, hM.four, hM.nodup, hMR.six⟩, wo, de, nu, bl, rs, I.fw, I.hbl, I.len, fun j w hw => ?_⟩
      obtain ⟨b, b1, _, _, _, b5⟩ := I.rows j w (List.getElem?_eq_some_iff.mp hw).1 hw
      exact ⟨b, b1, b5⟩
end

/-! ## Field_met -/
section
variable {P : Program} {w : World} {K : PySem.W.Frag} {mg : Str → Option Value} {base : Heap}
abbrev N_Field_met : List Str := ["self", "deed", "word"]
theorem sc_Field_met : FnScope N_Field_met ["self", "deed", "word"] (defScope s_Field_met) := ⟨rfl, rfl, rfl, by decide +kernel, rfl, by decide +kernel, by decide +kernel⟩
theorem valV_zipTn {fs : List (List Nat)} {l : List Nat} (h : l ∉ fs) : valV (fs.zipIdx.map fun p => (p.1.map ik, iv p.2)) (l.map ik) = none := by
  have inj : ∀ a b : List Nat, a.map ik = b.map ik → a = b := fun a b e => by
    have := congrArg (List.map fun k : Key => match k with | .inl i => i.toNat | .inr _ => 0) e
    simpa [List.map_map, Function.comp_def] using this
  have gen : ∀ (fs : List (List Nat)) (n : Nat), l ∉ fs → valV ((fs.zipIdx n).map fun p => (p.1.map ik, iv p.2)) (l.map ik) = none := by
    intro fs
    induction fs with
    | nil => intro n _; rfl
    | cons a t ih =>
      intro n h
      rw [List.zipIdx_cons, List.map_cons, valV_neg (fun z => h (by have : a = l := inj _ _ z; rw [this]; exact List.mem_cons_self ..)), ih (n + 1) fun m => h (List.mem_cons_of_mem _ m)]
  exact gen fs 0 h
theorem ok_Field_met {f : Addr} {fd : FuncData} (F : FnM K "met" "Field.met" s_Field_met f fd) (T : Txt K mg) : FnOk P w K mg base CX0 1 f fd ["self", "deed", "word"] (sp_met K) := by
  refine F.ok sc_Field_met (fun vs H Q E h => ?_) (fun cdv A outer s H vs Q E hr h => ?_)
  · obtain ⟨Fa, cs, R, ws, wo, de, nu, bl, v, u, rfl, _⟩ := h
    rfl
  · obtain ⟨Fa, cs, R, ws, wo, de, nu, bl, v, u, rfl, ⟨dx, ds, hFa, hwd, hwo, hde, hdl, hdv, hnu⟩, hnd, hlen, ⟨va, rfl, hva⟩, k1, k2⟩ := h
    refine ⟨_, PSs.nox (pss_cons (ps_if (pt_cmp (pc_dnotin (hu_of hr) (pv 1) (pe_fldK (K := K) (pv 0))) rfl)
    (pss_cons (ps_dput (hu_of hr) (pe_fldK (K := K) (pv 0)) (pv 1) (pe_callB (callLen (K := K)) (by rfl) T.len PySem.boot_len (pa_cons (pe_fldK (K := K) (pv 0)) pa_nil)) rfl)
    (pss_cons (ps_expr (pe_bmK (K := K) PySem.F.plainAttrs_list PySem.F.slot_list_append PySem.F.type_list_append mt_append (pe_fldK (K := K) (pv 0)) (pa_cons (pv 1) pa_nil)))
    (pss_one (ps_expr (pe_bmK (K := K) PySem.F.plainAttrs_list PySem.F.slot_list_append PySem.F.type_list_append mt_append (pe_fldK (K := K) (pv 0)) (pa_cons (pv 2) pa_nil))))))
    pss_nil)
    (pss_one (ps_ret (pe_dget (hu_of hr) (pe_fldK (K := K) (pv 0)) (pv 1) (fun _ _ => rfl))))), ?_⟩
    walk_at "ws"
    have hva' : H va = some (.tup (((QM.deed R u).map ik).map kV)) := by rw [hva, List.map_map]; rfl
    refine k_di2T hnu hva' ?_
    walk_at "ws"
    by_cases hm : QM.deed R u ∈ ws.map (QM.deed R)
    · have hv := valV_zipT hnd hm
      rw [hv]
      refine k_if (fun z => by cases z) fun _ => ?_
      walk_at "ws"
      refine k_dg2T hnu hva' hv ?_
      exact k1 hm _ Ex.rfl'
    · rw [valV_zipTn hm]
      refine k_if (fun _ => ?_) fun z => by cases z
      walk_at "ws"
      refine r_len (.inl (SqL.of hde)) ?_
      walk_at "ws"
      rw [hdl]
      refine k_dp3T hnu hva' (by rw [sizeLine_eq]; simp; omega) fun H1 m1 h1 => ?_
      have nnd : nu ≠ de := fun e => by rw [e, hde] at hnu; cases hnu
      have nnw : nu ≠ wo := fun e => by rw [e, hwo] at hnu; cases hnu
      have nnF : nu ≠ Fa := fun e => by rw [e, hFa] at hnu; cases hnu
      have ndF : de ≠ Fa := fun e => by rw [e, hFa] at hde; cases hde
      have nwF : wo ≠ Fa := fun e => by rw [e, hFa] at hwo; cases hwo
      have h1F : H1 Fa = _ := m1 _ _ (Ne.symm nnF) hFa
      have h1d : H1 de = _ := m1 _ _ (Ne.symm nnd) hde
      have h1w : H1 wo = _ := m1 _ _ (Ne.symm nnw) hwo
      walk_at "ws"
      refine k_bmL (SqL.of h1d) ?_
      walk_at "ws"
      refine r_append h1d (by rw [sizeLine_eq]; omega) fun H2 m2 h2 => ?_
      have h2F : H2 Fa = _ := m2 _ _ (Ne.symm ndF) h1F
      have h2w : H2 wo = _ := m2 _ _ hwd h1w
      walk_at "ws"
      refine k_bmL (SqL.of h2w) ?_
      walk_at "ws"
      refine r_append h2w (by rw [sizeLine_eq]; simp; omega) fun H3 m3 h3 => ?_
      have h3F : H3 Fa = _ := m3 _ _ (Ne.symm nwF) h2F
      have h3d : H3 de = _ := m3 _ _ (Ne.symm hwd) h2
      have h3n : H3 nu = _ := m3 _ _ nnw (m2 _ _ nnd h1)
      walk_at "ws"
      have tp : Tp H H3 := fun a xs h => (m3.tp fun xs q => by rw [h2w] at q; cases q) _ _ ((m2.tp fun xs q => by rw [h1d] at q; cases q) _ _ ((m1.tp fun xs q => by rw [hnu] at q; cases q) _ _ h))
      have hnew : (QM.deed R u).map ik ∉ (((ws.map (QM.deed R)).zipIdx.map fun p => (p.1.map ik, iv p.2)) : List (List Key × V)).map (·.1) := valV_none (valV_zipTn hm)
      rw [putK_new hnew] at h3n
      have hnu3 : H3 nu = some (.dT ((((ws ++ [u]).map (QM.deed R)).zipIdx.map fun p => (p.1.map ik, iv p.2)))) := by
        rw [h3n, List.map_append, List.zipIdx_append, List.map_append]
        simp
      have hnd2 : ((ws ++ [u]).map (QM.deed R)).Nodup := by
        rw [List.map_append, List.nodup_append]
        exact ⟨hnd, by simp, fun a ha b hb => by rw [show b = QM.deed R u by simpa using hb]; exact fun e => hm (e ▸ ha)⟩
      have hm2 : QM.deed R u ∈ (ws ++ [u]).map (QM.deed R) := by simp
      refine k_dg2T hnu3 (show H3 va = some (.tup (((QM.deed R u).map ik).map kV)) from tp _ _ hva') (valV_zipT hnd2 hm2) ?_
      have hix : QM.ixOf ((ws ++ [u]).map (QM.deed R)) (QM.deed R u) = ws.length := QM.idx_get hnd2 (by rw [List.map_append, List.getElem?_append_right (by simp)]; simp)
      rw [hix]
      refine k2 hm H3 (fun a o n1 n2 n3 ha => m3 _ _ n1 (m2 _ _ n2 (m1 _ _ n3 ha))) ⟨dx, ds ++ [.ref va], h3F, hwd, by rw [h3]; simp, h3d, by simp [hdl], fun i w hi => ?_, hnu3⟩
      rw [List.getElem?_append] at hi
      split at hi
      · rename_i hlt
        obtain ⟨v, hv1, hv2⟩ := hdv i w hi
        exact ⟨v, by rw [List.getElem?_append_left (by omega)]; exact hv1, hv2.tp tp⟩
      · rename_i hlt
        have hi0 : i - ws.length = 0 := by
          cases hk : i - ws.length with
          | zero => rfl
          | succ k => rw [hk] at hi; simp at hi
        rw [hi0] at hi
        have : u = w := by simpa using hi
        subst this
        exact ⟨.ref va, by rw [List.getElem?_append_right (by omega), show i - ds.length = 0 by omega]; rfl, va, rfl, tp _ _ hva⟩
end

/-! ## Field_is_steady -/
section
variable {P : Program} {w : World} {K : PySem.W.Frag} {mg : Str → Option Value} {base : Heap}
abbrev N_Field_is_steady : List Str := ["self", "at"]
theorem sc_Field_is_steady : FnScope N_Field_is_steady ["self", "at"] (defScope s_Field_is_steady) := ⟨rfl, rfl, rfl, by decide +kernel, rfl, by decide +kernel, by decide +kernel⟩
theorem ok_Field_is_steady {f : Addr} {fd : FuncData} (F : FnM K "is_steady" "Field.is_steady" s_Field_is_steady f fd) (T : Txt K mg) (k_Field_times : Km P w K mg base CX0 2 (aF K) "times" ["self", "one", "other"] (sp_times K)) : FnOk P w K mg base CX0 3 f fd ["self", "at"] (sp_is_steady K) := by
  refine F.ok sc_Field_is_steady (fun vs H Q E h => ?_) (fun cdv A outer s H vs Q E hr h => ?_)
  · obtain ⟨Fa, cs, R, ws, u, rfl, _⟩ := h
    rfl
  · obtain ⟨Fa, cs, R, ws, u, rfl, hF, hu, k⟩ := h
    have hF0 := hF
    obtain ⟨B, wo, de, nu, bl, rs, ⟨dx, ds, hFa, _⟩, _⟩ := hF
    refine ⟨_, PSs.nox (pss_one (ps_ret (pe_cmpR op_eq (pe_km k_Field_times (hr.mono (by decide)) (pv 0) (pa_cons (pv 1) (pa_cons (pv 1) pa_nil))) (pv 1) (nomark _)))), ?_⟩
    walk_at "ws"
    refine k_meth hFa rfl ?_
    walk_at "ws"
    refine ⟨Fa, cs, R, ws, u, u, rfl, hF0, hu, hu, fun H1 e1 => ?_⟩
    walk_at "ws"
    rw [show decide ((QM.idx R ws (u ++ u) : Int) = (QM.idx R ws u : Int)) = decide (QM.idx R ws (u ++ u) = QM.idx R ws u) from decide_eq_decide.mpr Int.ofNat_inj]
    exact k _ e1
end

/-! ## Field_index_of -/
section
variable {P : Program} {w : World} {K : PySem.W.Frag} {mg : Str → Option Value} {base : Heap}
abbrev N_Field_index_of : List Str := ["self", "word", "at", "letter"]
theorem sc_Field_index_of : FnScope N_Field_index_of ["self", "word"] (defScope s_Field_index_of) := ⟨rfl, rfl, rfl, by decide +kernel, rfl, by decide +kernel, by decide +kernel⟩
theorem ok_Field_index_of {f : Addr} {fd : FuncData} (F : FnM K "index_of" "Field.index_of" s_Field_index_of f fd) (T : Txt K mg) : FnOk P w K mg base CX0 1 f fd ["self", "word"] (sp_index_of K) := by
  refine F.ok sc_Field_index_of (fun vs H Q E h => ?_) (fun cdv A outer s H vs Q E hr h => ?_)
  · obtain ⟨Fa, cs, R, ws, u, rfl, _⟩ := h
    rfl
  · obtain ⟨Fa, cs, R, ws, u, rfl, ⟨B, wo, de, nu, bl, rs, ⟨dx, ds, hFa, hwd, hwo, hde, hdl, hdv, hnu⟩, hbl, hrl, hrows⟩, hu, k⟩ := h
    refine ⟨_, PSs.nox (pss_cons (ps_set (i := 2) sc_Field_index_of.nd rfl (Or.inl rfl) pe_int)
    (pss_cons (ps_for PassesOwn.never rfl (pi_str (pv 1)) (pg_name (i := 3) sc_Field_index_of.nd rfl (by first | exact Or.inl rfl | exact Or.inr rfl))
    (pss_one (ps_set (i := 2) sc_Field_index_of.nd rfl (Or.inl rfl) (pe_ix (ixL (K := K)) (pe_ix (ixL (K := K)) (pe_fldK (K := K) (pv 0)) (pv 2) (fun _ _ => rfl)) (pe_bmK (K := K) PySem.F.plainAttrs_str PySem.F.slot_str_index PySem.F.type_str_index mtSIndex (pe_fldK (K := K) (pv 0)) (pa_cons (pv 3) pa_nil)) (fun _ _ => rfl)))))
    (pss_one (ps_ret (pv 2))))), ?_⟩
    walk_at "ws"
    have h0 : QM.idx R ws [] = 0 := B.f.at B.f.zero
    refine k_forT (fun i σ H' => Ex H H' ∧ ∃ z, σ = [some (.ref Fa), some (.str (wO cs u)), some (iv (QM.idx R ws (u.take i))), z]) ⟨Ex.rfl', none, by rw [List.take_zero, h0]; rfl⟩ ?_ ?_
    · rintro i c σ H1 hc ⟨e, z, rfl⟩
      obtain ⟨a, ha, rfl⟩ := at_map (f := fun a => cs.getD a 0) (l := u) (by simpa using hc)
      have hak : a < cs.length := hu a (List.mem_of_getElem? ha)
      have hot : QM.Ok cs.length (u.take i) := fun b hb => hu b (List.mem_of_mem_take hb)
      obtain ⟨v, hv1, hv2, hv3⟩ := B.f.get B.t hot
      obtain ⟨b, hb1, hb2⟩ := hrows _ _ hv1
      walk_at "ws"
      refine r_ixL (SqL.of (e _ _ hbl)) hb1 ?_
      walk_at "ws"
      refine r_sindex (i := a) (by simp [hak]) B.nd ?_
      walk_at "ws"
      refine r_ixL (SqL.of (e _ _ hb2)) (v := iv (QM.idx R ws (v ++ [a]))) (by rw [List.getElem?_map, List.getElem?_range hak]; rfl) ?_
      walk_at "ws"
      have hs : u.take (i + 1) = u.take i ++ [a] := by rw [List.take_add_one, ha]; rfl
      have h1 : QM.Ok cs.length [a] := fun b hb => by rw [List.mem_singleton.mp hb]; exact hak
      have : QM.idx R ws (v ++ [a]) = QM.idx R ws (u.take (i + 1)) := by
        rw [hs]
        exact (B.f.iff B.t (hv2.app h1) (hot.app h1)).mpr (QM.deed_cong B.t hv2 hot hv3 rfl)
      rw [this]
      exact ⟨e, _, rfl⟩
    · rintro σ H1 ⟨e, z, rfl⟩
      walk_at "ws"
      have hs : u.take (wO cs u).cps.size = u := by simp
      rw [hs]
      exact k _ e
end

/-! ## Field_steady_of -/
section
variable {P : Program} {w : World} {K : PySem.W.Frag} {mg : Str → Option Value} {base : Heap}
abbrev N_Field_steady_of : List Str := ["self", "at", "here"]
theorem sc_Field_steady_of : FnScope N_Field_steady_of ["self", "at"] (defScope s_Field_steady_of) := ⟨rfl, rfl, rfl, by decide +kernel, rfl, by decide +kernel, by decide +kernel⟩
theorem ok_Field_steady_of {f : Addr} {fd : FuncData} (F : FnM K "steady_of" "Field.steady_of" s_Field_steady_of f fd) (T : Txt K mg) (k_Field_is_steady : Km P w K mg base CX0 3 (aF K) "is_steady" ["self", "at"] (sp_is_steady K)) (k_Field_times : Km P w K mg base CX0 2 (aF K) "times" ["self", "one", "other"] (sp_times K)) : FnOk P w K mg base CX0 4 f fd ["self", "at"] (sp_steady_of K) := by
  refine F.ok sc_Field_steady_of (fun vs H Q E h => ?_) (fun cdv A outer s H vs Q E hr h => ?_)
  · obtain ⟨Fa, cs, R, ws, u, rfl, _⟩ := h
    rfl
  · obtain ⟨Fa, cs, R, ws, u, rfl, hF, hu, k⟩ := h
    have hF0 := hF
    obtain ⟨B, wo, de, nu, bl, rs, ⟨dx, ds, hFa, _⟩, _⟩ := hF
    obtain ⟨N, hN1, hN2⟩ := B.f.pow B.t hu
    have ok : ∀ n, QM.Ok cs.length (QA.rep u n) := fun n => by
      induction n with
      | zero => exact fun _ m => nomatch m
      | succ n ih => exact hu.app ih
    refine ⟨_, PSs.nox (pss_cons (ps_set (i := 2) sc_Field_steady_of.nd rfl (Or.inl rfl) (pv 1))
    (pss_cons (ps_while PassesOwn.never (pt_not (pt_val (pe_km k_Field_is_steady (hr.mono (by decide)) (pv 0) (pa_cons (pv 2) pa_nil))))
    (pss_one (ps_set (i := 2) sc_Field_steady_of.nd rfl (Or.inl rfl) (pe_km k_Field_times (hr.mono (by decide)) (pv 0) (pa_cons (pv 2) (pa_cons (pv 1) pa_nil))))))
    (pss_one (ps_ret (pv 2))))), ?_⟩
    walk_at "ws"
    refine w_while (fun mm σ H' => ∃ j, mm = N - j ∧ 1 ≤ j ∧ j ≤ N ∧ Ex H H' ∧ σ = [some (.ref Fa), some (iv (QM.idx R ws u)), some (iv (QM.idx R ws (QA.rep u j)))]) (N - 1) ⟨1, rfl, Nat.le_refl _, hN1, Ex.rfl', by
      show _ = [_, _, some (iv (QM.idx R ws (u ++ [])))]
      rw [List.append_nil]
      rfl⟩ ?_
    rintro mm σ H1 ⟨j, rfl, hj1, hjN, e1, rfl⟩
    walk_at "ws"
    refine k_meth (e1 _ _ hFa) rfl ?_
    walk_at "ws"
    refine ⟨Fa, cs, R, ws, QA.rep u j, rfl, hF0.ex e1, ok j, fun H2 e2 => ?_⟩
    walk_at "ws"
    refine k_wh (fun hb => ?_) (fun hb => ?_)
    · have hne : j ≠ N := fun e => by
        subst e
        have : QM.idx R ws (QA.rep u j ++ QA.rep u j) = QM.idx R ws (QA.rep u j) := (B.f.iff B.t ((ok j).app (ok j)) (ok j)).mpr hN2
        simp [this] at hb
      walk_at "ws"
      refine k_meth ((e1.tr e2) _ _ hFa) rfl ?_
      walk_at "ws"
      refine ⟨Fa, cs, R, ws, QA.rep u j, u, rfl, hF0.ex (e1.tr e2), ok j, hu, fun H3 e3 => ?_⟩
      walk_at "ws"
      refine ⟨N - (j + 1), by omega, j + 1, rfl, by omega, by omega, (e1.tr e2).tr e3, ?_⟩
      rw [QA.rep_add u j 1, show QA.rep u 1 = u from List.append_nil u]
      rfl
    · walk_at "ws"
      exact k j _ hj1 (e1.tr e2)
end

/-! ## Lot_all_made -/
section
variable {P : Program} {w : World} {K : PySem.W.Frag} {mg : Str → Option Value} {base : Heap}
abbrev N_Lot_all_made : List Str := ["self", "found", "waiting", "at", "place", "to"]
theorem sc_Lot_all_made : FnScope N_Lot_all_made ["self"] (defScope s_Lot_all_made) := ⟨rfl, rfl, rfl, by decide +kernel, rfl, by decide +kernel, by decide +kernel⟩
/-- the members so far, the waiting ones among them -/
structure AI (H H' : Hp) (fo wa : Addr) (R ws : List (List Nat)) (B gs wt : List Nat) : Prop where
  e : Ex H H'
  hf : H' fo = some (.dK (gs.map fun q => (ik q, V.bl true)))
  hw : H' wa = some (.lst (wt.map iv))
  nd : gs.Nodup
  sub : ∀ i ∈ wt, i ∈ gs
  made : ∀ i ∈ gs, ∃ w, QA.On B w ∧ QM.idx R ws w = i
  zero : QM.idx R ws [] ∈ gs
  wl : wt.length ≤ gs.length
theorem ok_Lot_all_made {f : Addr} {fd : FuncData} (F : FnM K "all_made" "Lot.all_made" s_Lot_all_made f fd) (T : Txt K mg) : FnOk P w K mg base CX0 1 f fd ["self"] (sp_all_made K) := by
  refine F.ok sc_Lot_all_made (fun vs H Q E h => ?_) (fun cdv A outer s H vs Q E hr h => ?_)
  · obtain ⟨l, dx, fs, Fa, pl, cs, R, ws, B, rfl, _⟩ := h
    rfl
  · obtain ⟨l, dx, fs, Fa, pl, cs, R, ws, B, rfl, hL, hF, hB, k⟩ := h
    obtain ⟨FBd, wo, de, nu, bl, rs, ⟨dxf, ds, hFa, hwd, hwo, hde, hdl, hdv, hnu⟩, hbl, hrl, hrows⟩ := hF
    have hf1 := hL.field
    have hf2 := hL.places
    have hl0 := hL.at_
    refine ⟨_, PSs.nox (pss_cons (ps_set (i := 1) sc_Lot_all_made.nd rfl (Or.inl rfl) (pe_dispK (pps_cons pe_int pe_bl pps_nil)))
    (pss_cons (ps_set (i := 2) sc_Lot_all_made.nd rfl (Or.inl rfl) (pe_lst (pa_cons pe_int pa_nil)))
    (pss_cons (ps_while PassesOwn.never (pt_cmpR op_gt (pe_callB (callLen (K := K)) (by rfl) T.len PySem.boot_len (pa_cons (pv 2) pa_nil)) pe_int (nomark _))
    (pss_cons (ps_set (i := 3) sc_Lot_all_made.nd rfl (Or.inl rfl) (pe_bm0K' (K := K) PySem.F.plainAttrs_list PySem.F.slot_list_pop PySem.F.type_list_pop mt_pop (pv 2)))
    (pss_one (ps_for PassesOwn.never rfl (pi_seqK (K := K) (pe_fldK (K := K) (pv 0))) (pg_name (i := 4) sc_Lot_all_made.nd rfl (by first | exact Or.inl rfl | exact Or.inr rfl))
    (pss_cons (ps_set (i := 5) sc_Lot_all_made.nd rfl (Or.inl rfl) (pe_ix (ixL (K := K)) (pe_ix (ixL (K := K)) (pe_fldK (K := K) (pe_fldK (K := K) (pv 0))) (pv 3) (fun _ _ => rfl)) (pv 4) (fun _ _ => rfl)))
    (pss_one (ps_if (pt_cmp (pc_dnotin (hu_of hr) (pv 5) (pv 1)) rfl)
    (pss_cons (ps_dput (hu_of hr) (pv 1) (pv 5) pe_bl rfl)
    (pss_one (ps_expr (pe_bmK (K := K) PySem.F.plainAttrs_list PySem.F.slot_list_append PySem.F.type_list_append mt_append (pv 2) (pa_cons (pv 5) pa_nil)))))
    pss_nil)))))))
    (pss_one (ps_ret (pe_callB (call_sortedDI rfl) (by rfl) T.sorted (by decide +kernel) (pa_cons (pv 1) pa_nil))))))), ?_⟩
    walk_at "ws"
    refine w_dispC fun fo H1 n1 e1 h1 => ?_
    walk_at "ws"
    refine k_lst (by walk_at "sz") fun wa H2 n2 e2 h2 => ?_
    walk_at "ws"
    have h0 : QM.idx R ws [] = 0 := FBd.f.at FBd.f.zero
    have nwf : wa ≠ fo := Ne.symm (ne_of_none h1 n2)
    have step_ok : ∀ i ∈ List.range ws.length, ∀ b ∈ B, True := fun _ _ _ _ => trivial
    refine w_while (fun mm σ H' => ∃ (gs wt : List Nat) (z1 z2 z3 : Option V), mm = 2 * (ws.length - gs.length) + wt.length ∧ AI H H' fo wa R ws B gs wt ∧ (∀ w b, QA.On B w → b ∈ B → QM.idx R ws w ∈ gs → QM.idx R ws w ∉ wt → QM.idx R ws (w ++ [b]) ∈ gs) ∧ σ = [some (.ref l), some (.ref fo), some (.ref wa), z1, z2, z3])
      _ ⟨[0], [0], _, _, _, rfl, ⟨e1.tr e2, e2 _ _ h1, h2, by simp, by simp, fun i hi => ⟨[], QA.On.nil, by rw [h0, List.mem_singleton.mp hi]⟩, by rw [h0]; simp, Nat.le_refl _⟩, fun w b _ _ h1 h2 => absurd h1 h2, rfl⟩ ?_
    rintro mm σ H3 ⟨gs, wt, z1, z2, z3, rfl, I, hcl, rfl⟩
    have hw3 := I.hw
    walk_at "ws"
    refine r_len (.inl (SqL.of hw3)) ?_
    walk_at "ws"
    refine k_wh (fun hb => ?_) (fun hb => ?_)
    · have hne : wt ≠ [] := by
        intro e
        subst e
        simp at hb
      obtain ⟨wt', a, rfl⟩ : ∃ wt' a, wt = wt' ++ [a] := ⟨wt.dropLast, wt.getLast hne, (List.dropLast_concat_getLast hne).symm⟩
      walk_at "ws"
      refine k_bm0L (SqL.of hw3) ?_
      rw [List.map_append] at hw3
      refine r_pop hw3 fun H4 m4 h4 => ?_
      have ha : a ∈ gs := I.sub a (by simp)
      obtain ⟨u, hu, hua⟩ := I.made a ha
      have huo : QM.Ok cs.length u := QM.on_ok hB hu
      obtain ⟨v, hv1, hv2, hv3⟩ := FBd.f.get FBd.t huo
      rw [hua] at hv1
      obtain ⟨ro, hro1, hro2⟩ := hrows _ _ hv1
      have wa0 : H wa = none := e1.back n2
      have e4 : Ex H H4 := m4.ex I.e wa0
      have hpl4 : H4 pl = _ := e4 _ _ hL.hpl
      have hl4 : H4 l = _ := e4 _ _ hl0
      walk_at "ws"
      refine k_iS (b := true) (SqL.of hpl4) ?_
      refine k_forS (fun j σ H' => ∃ (gs' wt'' : List Nat) (z : Option V), (∀ i ∈ gs, i ∈ gs') ∧ AI H H' fo wa R ws B gs' wt'' ∧ (∀ w b, QA.On B w → b ∈ B → QM.idx R ws w ∈ gs' → QM.idx R ws w ∉ wt'' → QM.idx R ws w ≠ a → QM.idx R ws (w ++ [b]) ∈ gs') ∧ (∀ (j' b : Nat), j' < j → B[j']? = some b → QM.idx R ws (u ++ [b]) ∈ gs') ∧
          2 * (ws.length - gs'.length) + wt''.length ≤ 2 * (ws.length - gs.length) + wt'.length ∧ (∃ z', σ = [some (.ref l), some (.ref fo), some (.ref wa), some (iv a), z, z']))
        ⟨gs, wt', _, fun _ h => h, ⟨e4, m4 _ _ (Ne.symm nwf) I.hf, h4, I.nd, fun i hi => I.sub i (by simp [hi]), I.made, I.zero, by have := I.wl; simp at this; omega⟩, fun w b h1 h2 h3 h4 h5 => hcl w b h1 h2 h3 fun hm => (List.mem_append.mp hm).elim h4 fun e => h5 (List.mem_singleton.mp e), fun j' b hj => absurd hj (Nat.not_lt_zero _), Nat.le_refl _, _, rfl⟩ (fun _ _ _ ⟨_, _, _, _, r, _⟩ => SqL.of (r.e _ _ hL.hpl)) ?_ ?_
      · rintro j x σ H5 hx ⟨gs', wt'', z, hsub, I5, hcl5, hdone, hmeas, z', rfl⟩
        obtain ⟨b, hb', rfl⟩ := at_map hx
        have hbB : b ∈ B := List.mem_of_getElem? hb'
        have hbk := hB b hbB
        have hl5 : H5 l = _ := I5.e _ _ hl0
        have hF5 : H5 Fa = _ := I5.e _ _ hFa
        walk_at "ws"
        refine r_ixL (SqL.of (I5.e _ _ hbl)) hro1 ?_
        walk_at "ws"
        refine r_ixL (SqL.of (I5.e _ _ hro2)) (v := iv (QM.idx R ws (v ++ [b]))) (by rw [List.getElem?_map, List.getElem?_range hbk]; rfl) ?_
        have h1b : QM.Ok cs.length [b] := fun c hc => by rw [List.mem_singleton.mp hc]; exact hbk
        have evu : QM.idx R ws (v ++ [b]) = QM.idx R ws (u ++ [b]) := (FBd.f.iff FBd.t (hv2.app h1b) (huo.app h1b)).mpr (QM.deed_cong FBd.t hv2 huo hv3 rfl)
        rw [evu]
        have hub : QA.On B (u ++ [b]) := hu.app fun c hc => by rw [List.mem_singleton.mp hc]; exact hbB
        walk_at "ws"
        refine k_di2K I5.hf ?_
        rw [show valV (List.map (fun q => (ik q, V.bl true)) gs') (Sum.inl (QM.idx R ws (u ++ [b]) : Int)) = _ from valV_bl]
        walk_at "ws"
        have fin : ∀ (gs2 : List Nat), (∀ i ∈ gs', i ∈ gs2) → QM.idx R ws (u ++ [b]) ∈ gs2 → ∀ (j' c : Nat), j' < j + 1 → B[j']? = some c → QM.idx R ws (u ++ [c]) ∈ gs2 := fun gs2 h1 h2 j' c hj hc => by
          rcases Nat.lt_succ_iff_lt_or_eq.mp hj with hj | rfl
          · exact h1 _ (hdone j' c hj hc)
          · rw [hb'] at hc
            cases hc
            exact h2
        by_cases hm : QM.idx R ws (u ++ [b]) ∈ gs'
        · rw [if_pos hm]
          refine k_if (fun z => by cases z) fun _ => ?_
          walk_at "ws"
          exact ⟨gs', wt'', _, hsub, I5, hcl5, fin gs' (fun _ h => h) hm, hmeas, _, rfl⟩
        · rw [if_neg hm]
          refine k_if (fun _ => ?_) fun z => by cases z
          have hglen : (gs' ++ [QM.idx R ws (u ++ [b])]).length ≤ ws.length := by
            have hnd : (gs' ++ [QM.idx R ws (u ++ [b])]).Nodup := by
              rw [List.nodup_append]
              exact ⟨I5.nd, by simp, fun x hx y hy => by rw [List.mem_singleton.mp hy]; exact fun e => hm (e ▸ hx)⟩
            have := QM.nodup_le hnd (m := List.range ws.length) fun x hx => List.mem_range.mpr (by
              rcases List.mem_append.mp hx with h | h
              · obtain ⟨w, hw, rfl⟩ := I5.made x h
                exact FBd.f.lt FBd.t (QM.on_ok hB hw)
              · rw [List.mem_singleton.mp h]
                exact FBd.f.lt FBd.t (QM.on_ok hB hub))
            simpa using this
          have hten := FBd.ten
          simp at hglen
          walk_at "ws"
          refine k_dp3K I5.hf (by rw [sizeLine_eq, List.length_map]; omega) fun H6 m6 h6 => ?_
          have h6w : H6 wa = _ := m6 _ _ nwf I5.hw
          walk_at "ws"
          refine k_bmL (SqL.of h6w) ?_
          walk_at "ws"
          have hwlen : wt''.length ≤ 1000 := by have := I5.wl; omega
          refine r_append h6w (by rw [sizeLine_eq, List.length_map]; omega) fun H7 m7 h7 => ?_
          walk_at "ws"
          have h7f : H7 fo = _ := m7 _ _ (Ne.symm nwf) h6
          rw [putK_new (by
            intro hmem
            obtain ⟨p', hp', e'⟩ := List.mem_map.mp hmem
            obtain ⟨q', hq', rfl⟩ := List.mem_map.mp hp'
            have : q' = QM.idx R ws (u ++ [b]) := by injection e' with e'; exact Int.ofNat.inj e'
            exact hm (this ▸ hq'))] at h7f
          refine ⟨gs' ++ [QM.idx R ws (u ++ [b])], wt'' ++ [QM.idx R ws (u ++ [b])], _, fun i hi => List.mem_append_left _ (hsub i hi), ⟨m7.ex (m6.ex I5.e n1) wa0, by rw [h7f, List.map_append]; rfl, by rw [h7, List.map_append]; rfl, ?_, ?_, ?_, List.mem_append_left _ I5.zero, by have := I5.wl; simp; omega⟩, ?_, fin _ (fun i hi => List.mem_append_left _ hi) (by simp), by simp; omega, _, rfl⟩
          · rw [List.nodup_append]
            exact ⟨I5.nd, by simp, fun x hx y hy => by rw [List.mem_singleton.mp hy]; exact fun e => hm (e ▸ hx)⟩
          · intro i hi
            rcases List.mem_append.mp hi with h | h
            · exact List.mem_append_left _ (I5.sub i h)
            · exact List.mem_append_right _ h
          · intro i hi
            rcases List.mem_append.mp hi with h | h
            · exact I5.made i h
            · exact ⟨u ++ [b], hub, (List.mem_singleton.mp h).symm⟩
          · intro w c h1 h2 h3 h4 h5
            rcases List.mem_append.mp h3 with h | h
            · exact List.mem_append_left _ (hcl5 w c h1 h2 h (fun hh => h4 (List.mem_append_left _ hh)) h5)
            · exact absurd (List.mem_append_right _ h) h4
      · rintro σ H5 ⟨gs', wt'', z, hsub, I5, hcl5, hdone, hmeas, z', rfl⟩
        walk_at "ws"
        have hdone' : ∀ b ∈ B, QM.idx R ws (u ++ [b]) ∈ gs' := fun b hb => by
          obtain ⟨j', hj', e⟩ := List.mem_iff_getElem.mp hb
          exact hdone j' b (by rw [List.length_map]; exact hj') (by rw [List.getElem?_eq_getElem hj', e])
        refine ⟨_, by simp; omega, gs', wt'', _, _, _, rfl, I5, fun w b h1 h2 h3 h4 => ?_, rfl⟩
        by_cases e : QM.idx R ws w = a
        · have h1b : QM.Ok cs.length [b] := fun c hc => by rw [List.mem_singleton.mp hc]; exact hB b h2
          rw [(FBd.f.app FBd.t (QM.on_ok hB h1) huo h1b h1b (e.trans hua.symm) rfl)]
          exact hdone' b h2
        · exact hcl5 w b h1 h2 h3 h4 e
    · have hnil : wt = [] := by
        have : ¬ 0 < wt.length := by simpa using hb
        exact List.eq_nil_of_length_eq_zero (by omega)
      subst hnil
      have hglen : gs.length ≤ 10 := by
        have := QM.nodup_le I.nd (m := List.range ws.length) fun x hx => List.mem_range.mpr (by
          obtain ⟨w, hw, rfl⟩ := I.made x hx
          exact FBd.f.lt FBd.t (QM.on_ok hB hw))
        have := FBd.ten
        simp at *
        omega
      walk_at "ws"
      refine r_sortDN I.hf (ns := gs) (by rw [List.map_map]; rfl) (by omega) fun ms p H4 hp hs n4 e4 h4 => ?_
      refine k p ms H4 (I.e.tr e4) h4 (hp.nodup_iff.mpr I.nd) (by rw [hp.length_eq]; exact hglen) fun i => ?_
      rw [hp.mem_iff]
      refine ⟨I.made i, fun ⟨w, hw, e⟩ => ?_⟩
      rw [← e]
      revert hw
      refine QM.snocRec (p := fun w => QA.On B w → QM.idx R ws w ∈ gs) (fun _ => I.zero) (fun w b ih hw => ?_) w
      exact hcl w b hw.left (hw b (by simp)) (ih hw.left) (by simp)
end

/-! ## Lot_least_ideal -/
section
variable {P : Program} {w : World} {K : PySem.W.Frag} {mg : Str → Option Value} {base : Heap}
abbrev N_Lot_least_ideal : List Str := ["self", "here", "at", "found", "one", "ahead", "other"]
theorem sc_Lot_least_ideal : FnScope N_Lot_least_ideal ["self"] (defScope s_Lot_least_ideal) := ⟨rfl, rfl, rfl, by decide +kernel, rfl, by decide +kernel, by decide +kernel⟩
theorem ok_Lot_least_ideal {f : Addr} {fd : FuncData} (F : FnM K "least_ideal" "Lot.least_ideal" s_Lot_least_ideal f fd) (T : Txt K mg) (k_Field_times : Km P w K mg base CX0 2 (aF K) "times" ["self", "one", "other"] (sp_times K)) : FnOk P w K mg base CX0 3 f fd ["self"] (sp_least_ideal K) := by
  refine F.ok sc_Lot_least_ideal (fun vs H Q E h => ?_) (fun cdv A outer s H vs Q E hr h => ?_)
  · obtain ⟨l, dx, fs, Fa, pl, ma, cs, R, ws, B, ms, rfl, _⟩ := h
    rfl
  · obtain ⟨l, dx, fs, Fa, pl, ma, cs, R, ws, B, ms, rfl, hL, hf3, hma, hml, hmade, hF, hB, k⟩ := h
    have hFA := hF
    obtain ⟨FBd, wo, de, nu, bl, rs, ⟨dxf, ds, hFa, _⟩, _⟩ := hF
    have hf1 := hL.field
    have hl0 := hL.at_
    have h0 : QM.idx R ws [] = 0 := FBd.f.at FBd.f.zero
    refine ⟨_, PSs.nox (pss_cons (ps_set (i := 1) sc_Lot_least_ideal.nd rfl (Or.inl rfl) pe_int)
    (pss_cons (ps_for PassesOwn.never rfl (pi_seqK (K := K) (pe_fldK (K := K) (pv 0))) (pg_name (i := 2) sc_Lot_least_ideal.nd rfl (by first | exact Or.inl rfl | exact Or.inr rfl))
    (pss_one (ps_set (i := 1) sc_Lot_least_ideal.nd rfl (Or.inl rfl) (pe_km k_Field_times (hr.mono (by decide)) (pe_fldK (K := K) (pv 0)) (pa_cons (pv 1) (pa_cons (pv 2) pa_nil))))))
    (pss_cons (ps_set (i := 3) sc_Lot_least_ideal.nd rfl (Or.inl rfl) pe_dnewK)
    (pss_cons (ps_for PassesOwn.never rfl (pi_seqK (K := K) (pe_fldK (K := K) (pv 0))) (pg_name (i := 4) sc_Lot_least_ideal.nd rfl (by first | exact Or.inl rfl | exact Or.inr rfl))
    (pss_cons (ps_set (i := 5) sc_Lot_least_ideal.nd rfl (Or.inl rfl) (pe_km k_Field_times (hr.mono (by decide)) (pe_fldK (K := K) (pv 0)) (pa_cons (pv 4) (pa_cons (pv 1) pa_nil))))
    (pss_one (ps_for PassesOwn.never rfl (pi_seqK (K := K) (pe_fldK (K := K) (pv 0))) (pg_name (i := 6) sc_Lot_least_ideal.nd rfl (by first | exact Or.inl rfl | exact Or.inr rfl))
    (pss_one (ps_dput (hu_of hr) (pv 3) (pe_km k_Field_times (hr.mono (by decide)) (pe_fldK (K := K) (pv 0)) (pa_cons (pv 5) (pa_cons (pv 6) pa_nil))) pe_bl rfl))))))
    (pss_one (ps_ret (pe_callB (call_sortedDI rfl) (by rfl) T.sorted (by decide +kernel) (pa_cons (pv 3) pa_nil)))))))), ?_⟩
    walk_at "ws"
    refine k_iS (b := true) (SqL.of hma) ?_
    refine k_forS (fun i σ H' => ∃ (z : List Nat) (zz : List (Option V)), zz.length = 5 ∧ Ex H H' ∧ QA.On B z ∧ (∀ j i', j < i → ms[j]? = some i' → ∃ x s y, QA.On B x ∧ QA.On B s ∧ QA.On B y ∧ QM.idx R ws s = i' ∧ z = x ++ s ++ y) ∧ σ = some (.ref l) :: some (iv (QM.idx R ws z)) :: zz)
      ⟨[], _, ?_, Ex.rfl', QA.On.nil, fun j i' hj => absurd hj (Nat.not_lt_zero _), by rw [h0]; rfl⟩ (fun _ _ _ ⟨_, _, _, r, _⟩ => SqL.of (r _ _ hma)) ?_ ?_
    · rfl
    · rintro i x σ H1 hx ⟨z, zz, hzl, e1, hz, hz2, rfl⟩
      obtain ⟨i', hi', rfl⟩ := at_map hx
      obtain ⟨s', hs1, hs2⟩ := (hmade i').mp (List.mem_of_getElem? hi')
      obtain ⟨a1, a2, a3, a4, a5, rfl⟩ : ∃ a1 a2 a3 a4 a5, zz = [a1, a2, a3, a4, a5] := by
        match zz, hzl with
        | [a1, a2, a3, a4, a5], _ => exact ⟨a1, a2, a3, a4, a5, rfl⟩
      walk_at "ws"
      refine k_meth (e1 _ _ hFa) rfl ?_
      walk_at "ws"
      refine ⟨Fa, cs, R, ws, z, s', by rw [hs2], hFA.ex e1, QM.on_ok hB hz, QM.on_ok hB hs1, fun H2 e2 => ?_⟩
      walk_at "ws"
      refine ⟨z ++ s', _, ?_, e1.tr e2, hz.app hs1, fun j i2 hj hi2 => ?_, rfl⟩
      · rfl
      · rcases Nat.lt_succ_iff_lt_or_eq.mp hj with hj | rfl
        · obtain ⟨x, s2, y, h1, h2, h3, h4, h5⟩ := hz2 j i2 hj hi2
          exact ⟨x, s2, y ++ s', h1, h2, h3.app hs1, h4, by rw [h5]; simp⟩
        · rw [hi'] at hi2
          cases hi2
          exact ⟨z, s', [], hz, hs1, QA.On.nil, hs2, by simp⟩
    · rintro σ H1 ⟨z, zz, hzl, e1, hz, hz2, rfl⟩
      obtain ⟨a1, a2, a3, a4, a5, rfl⟩ : ∃ a1 a2 a3 a4 a5, zz = [a1, a2, a3, a4, a5] := by
        match zz, hzl with
        | [a1, a2, a3, a4, a5], _ => exact ⟨a1, a2, a3, a4, a5, rfl⟩
      have hzall : ∀ s', QA.On B s' → ∃ x y, QA.On B x ∧ QA.On B y ∧ QM.act R cs.length z = QM.act R cs.length (x ++ s' ++ y) := fun s' hs => by
        obtain ⟨j, hj, e⟩ := List.mem_iff_getElem.mp ((hmade _).mpr ⟨s', hs, rfl⟩)
        obtain ⟨x, s2, y, h1, h2, h3, h4, h5⟩ := hz2 j _ (by rw [List.length_map]; exact hj) (by rw [List.getElem?_eq_getElem hj, e])
        refine ⟨x, y, h1, h3, ?_⟩
        have := (FBd.f.act FBd.t (QM.on_ok hB h2) (QM.on_ok hB hs)).mp h4
        rw [h5, QM.act_app FBd.t, QM.act_app FBd.t, this, QM.act_app FBd.t, QM.act_app FBd.t]
      walk_at "ws"
      refine w_dnewK fun fo H2 n2 e2 h2 => ?_
      walk_at "ws"
      have fo0 : H fo = none := e1.back n2
      refine k_iS (b := true) (SqL.of (e2 _ _ (e1 _ _ hma))) ?_
      refine k_forS (fun i σ H' => ∃ (gs : List Nat) (z1 z2 z3 z4 : Option V), Ex H H' ∧ H' fo = some (.dK (gs.map fun q => (ik q, V.bl true))) ∧ gs.Nodup ∧ (∀ g ∈ gs, ∃ u v, QA.On B u ∧ QA.On B v ∧ QM.idx R ws (u ++ z ++ v) = g) ∧
          (∀ j u v, j < i → QA.On B u → QA.On B v → ms[j]? = some (QM.idx R ws u) → QM.idx R ws (u ++ z ++ v) ∈ gs) ∧ σ = [some (.ref l), some (iv (QM.idx R ws z)), z1, some (.ref fo), z2, z3, z4])
        ⟨[], _, _, _, _, e1.tr e2, h2, List.nodup_nil, (by simp), fun j u v hj => absurd hj (Nat.not_lt_zero _), rfl⟩ (fun _ _ _ ⟨_, _, _, _, _, r, _⟩ => SqL.of (r _ _ hma)) ?_ ?_
      · rintro i x σ H3 hx ⟨gs, z1, z2, z3, z4, e3, h3, hnd, hg1, hg2, rfl⟩
        obtain ⟨i', hi', rfl⟩ := at_map hx
        obtain ⟨u, hu1, hu2⟩ := (hmade i').mp (List.mem_of_getElem? hi')
        walk_at "ws"
        refine k_meth (e3 _ _ hFa) rfl ?_
        walk_at "ws"
        refine ⟨Fa, cs, R, ws, u, z, by rw [hu2], hFA.ex e3, QM.on_ok hB hu1, QM.on_ok hB hz, fun H4 e4 => ?_⟩
        walk_at "ws"
        refine k_iS (b := true) (SqL.of (e4 _ _ (e3 _ _ hma))) ?_
        refine k_forS (fun j σ H' => ∃ (gs' : List Nat) (z4 : Option V), (∀ g ∈ gs, g ∈ gs') ∧ Ex H H' ∧ H' fo = some (.dK (gs'.map fun q => (ik q, V.bl true))) ∧ gs'.Nodup ∧ (∀ g ∈ gs', ∃ u v, QA.On B u ∧ QA.On B v ∧ QM.idx R ws (u ++ z ++ v) = g) ∧
            (∀ j' v, j' < j → QA.On B v → ms[j']? = some (QM.idx R ws v) → QM.idx R ws (u ++ z ++ v) ∈ gs') ∧ σ = [some (.ref l), some (iv (QM.idx R ws z)), z1, some (.ref fo), some (iv i'), some (iv (QM.idx R ws (u ++ z))), z4])
          ⟨gs, _, fun _ h => h, e3.tr e4, e4 _ _ h3, hnd, hg1, fun j' v hj => absurd hj (Nat.not_lt_zero _), rfl⟩ (fun _ _ _ ⟨_, _, _, r, _⟩ => SqL.of (r _ _ hma)) ?_ ?_
        · rintro j x σ H5 hx ⟨gs', z4, hsub, e5, h5, hnd5, hg5, hg6, rfl⟩
          obtain ⟨j', hj', rfl⟩ := at_map hx
          obtain ⟨v, hv1, hv2⟩ := (hmade j').mp (List.mem_of_getElem? hj')
          walk_at "ws"
          refine k_meth (e5 _ _ hFa) rfl ?_
          walk_at "ws"
          refine ⟨Fa, cs, R, ws, u ++ z, v, by rw [hv2], hFA.ex e5, QM.on_ok hB (hu1.app hz), QM.on_ok hB hv1, fun H6 e6 => ?_⟩
          have hglen : gs'.length ≤ 10 := by
            have := QM.nodup_le hnd5 (m := List.range ws.length) fun x hx => List.mem_range.mpr (by
              obtain ⟨u, v, h1, h2, rfl⟩ := hg5 x hx
              exact FBd.f.lt FBd.t (QM.on_ok hB ((h1.app hz).app h2)))
            have := FBd.ten
            simp at *
            omega
          refine k_dp3K (e6 _ _ h5) (by rw [sizeLine_eq, List.length_map]; omega) fun H7 m7 h7 => ?_
          rw [show putK (gs'.map fun q => (ik q, V.bl true)) (Sum.inl (QM.idx R ws (u ++ z ++ v) : Int)) (.bl true) = _ from putK_bl] at h7
          walk_at "ws"
          have hin : ∀ g, g ∈ (if QM.idx R ws (u ++ z ++ v) ∈ gs' then gs' else gs' ++ [QM.idx R ws (u ++ z ++ v)]) ↔ g ∈ gs' ∨ g = QM.idx R ws (u ++ z ++ v) := fun g => by
            split
            · rename_i h
              exact ⟨Or.inl, fun h' => h'.elim id fun e => e ▸ h⟩
            · simp
          refine ⟨_, _, fun g hg => (hin g).mpr (.inl (hsub g hg)), m7.ex (e5.tr e6) fo0, h7, ?_, fun g hg => ?_, fun j2 v2 hj2 hv2' hm2 => ?_, rfl⟩
          · split
            · exact hnd5
            · rename_i h
              rw [List.nodup_append]
              exact ⟨hnd5, by simp, fun x hx y hy => by rw [List.mem_singleton.mp hy]; exact fun e => h (e ▸ hx)⟩
          · rcases (hin g).mp hg with h | h
            · exact hg5 g h
            · exact ⟨u, v, hu1, hv1, h.symm⟩
          · rcases Nat.lt_succ_iff_lt_or_eq.mp hj2 with hj2 | rfl
            · exact (hin _).mpr (.inl (hg6 j2 v2 hj2 hv2' hm2))
            · rw [hj'] at hm2
              have e : QM.idx R ws v = QM.idx R ws v2 := by rw [hv2]; exact Option.some.inj hm2
              refine (hin _).mpr (.inr ?_)
              exact FBd.f.app FBd.t (QM.on_ok hB (hu1.app hz)) (QM.on_ok hB (hu1.app hz)) (QM.on_ok hB hv2') (QM.on_ok hB hv1) rfl e.symm
        · rintro σ H5 ⟨gs', z4, hsub, e5, h5, hnd5, hg5, hg6, rfl⟩
          walk_at "ws"
          refine ⟨gs', _, _, _, _, e5, h5, hnd5, hg5, fun j2 u2 v2 hj2 hu2' hv2' hm2 => ?_, rfl⟩
          rcases Nat.lt_succ_iff_lt_or_eq.mp hj2 with hj2 | rfl
          · exact hsub _ (hg2 j2 u2 v2 hj2 hu2' hv2' hm2)
          · rw [hi'] at hm2
            have e : QM.idx R ws u = QM.idx R ws u2 := by rw [hu2]; exact Option.some.inj hm2
            obtain ⟨j, hj, ej⟩ := List.mem_iff_getElem.mp ((hmade _).mpr ⟨v2, hv2', rfl⟩)
            have := hg6 j v2 (by rw [List.length_map]; exact hj) hv2' (by rw [List.getElem?_eq_getElem hj, ej])
            rw [FBd.f.app FBd.t (QM.on_ok hB (hu2'.app hz)) (QM.on_ok hB (hu1.app hz)) (QM.on_ok hB hv2') (QM.on_ok hB hv2') (FBd.f.app FBd.t (QM.on_ok hB hu2') (QM.on_ok hB hu1) (QM.on_ok hB hz) (QM.on_ok hB hz) e.symm rfl) rfl]
            exact this
      · rintro σ H3 ⟨gs, z1, z2, z3, z4, e3, h3, hnd, hg1, hg2, rfl⟩
        have hglen : gs.length ≤ 10 := by
          have := QM.nodup_le hnd (m := List.range ws.length) fun x hx => List.mem_range.mpr (by
            obtain ⟨u, v, h1, h2, rfl⟩ := hg1 x hx
            exact FBd.f.lt FBd.t (QM.on_ok hB ((h1.app hz).app h2)))
          have := FBd.ten
          simp at *
          omega
        walk_at "ws"
        refine r_sortDN h3 (ns := gs) (by rw [List.map_map]; rfl) (by omega) fun ms' p H4 hp hs n4 e4 h4 => ?_
        have Fi := QM.act_fin FBd.f FBd.t
        refine k p ms' H4 (e3.tr e4) h4 (by rw [hp.length_eq]; exact hglen) fun i => ?_
        rw [hp.mem_iff]
        constructor
        · intro hi
          obtain ⟨u, v, h1, h2, h3⟩ := hg1 i hi
          refine ⟨u ++ z ++ v, (h1.app hz).app h2, h3, ⟨_, (h1.app hz).app h2, rfl⟩, fun s' hs' => ?_⟩
          obtain ⟨x, y, hx, hy, e⟩ := hzall s' hs'
          refine ⟨u ++ x, y ++ v, h1.app hx, hy.app h2, ?_⟩
          simp only [QM.act_app FBd.t] at e ⊢
          rw [e]
          simp only [Fi.assoc]
        · rintro ⟨w, hw, e, hc⟩
          obtain ⟨u, v, hu, hv, e2⟩ := hc.2 z hz
          obtain ⟨j, hj, ej⟩ := List.mem_iff_getElem.mp ((hmade _).mpr ⟨u, hu, rfl⟩)
          have := hg2 j u v (by rw [List.length_map]; exact hj) hu hv (by rw [List.getElem?_eq_getElem hj, ej])
          rw [← e]
          rw [(FBd.f.act FBd.t (QM.on_ok hB hw) (QM.on_ok hB ((hu.app hz).app hv))).mpr (by rw [← e2, QM.act_app FBd.t, QM.act_app FBd.t])]
          exact this
end

/-! ## Lot_walk -/
section
variable {P : Program} {w : World} {K : PySem.W.Frag} {mg : Str → Option Value} {base : Heap}
abbrev N_Lot_walk : List Str := ["self", "found", "known", "at", "here", "letters", "word", "letter", "place", "more", "pair", "one"]
theorem sc_Lot_walk : FnScope N_Lot_walk ["self"] (defScope s_Lot_walk) := ⟨rfl, rfl, rfl, by decide +kernel, rfl, by decide +kernel, by decide +kernel⟩
def kkey (cs : List Nat) (R ws : List (List Nat)) (B u : List Nat) : List Key × V := ([ik (QM.idx R ws u), Sum.inr (wO cs (seen B u))], .bl true)
/-- the walk so far -/
structure WI (K : PySem.W.Frag) (H H' : Hp) (fo kn fw : Addr) (cs : List Nat) (R ws : List (List Nat)) (B : List Nat) (us : List (List Nat)) (fl : List (Nat × List Nat)) (i : Nat) : Prop where
  e : Mo fw H H'
  hf : ∃ vs, H' fo = some (.lst vs) ∧ vs.length = us.length ∧ ∀ (j : Nat) (u : List Nat), us[j]? = some u → ∃ a, vs[j]? = some (V.ref a) ∧ H' a = some (.tup [iv (QM.idx R ws u), .str (wO cs (seen B u)), .str (wO cs u)])
  hk : H' kn = some (.dT (us.map (kkey cs R ws B)))
  hw : H' fw = some (.dK (flK cs fl))
  nd : (us.map fun u => (QM.idx R ws u, seen B u)).Nodup
  on : ∀ u ∈ us, QA.On B u
  zero : us[0]? = some []
  short : ∀ (j : Nat) (u : List Nat), us[j]? = some u → u.length ≤ j
  fnd : (fl.map (·.1)).Nodup
  full : ∀ p ∈ fl, QA.Full B p.2 ∧ QM.idx R ws p.2 = p.1 ∧ p.2.length ≤ 1000
  le : i ≤ us.length
  cov : ∀ (j : Nat) (u : List Nat), j < i → us[j]? = some u → QA.Full B u → QM.idx R ws u ∈ fl.map (·.1)
  clo : ∀ (j : Nat) (u : List Nat), j < i → us[j]? = some u → ∀ b ∈ B, ∃ u' ∈ us, QM.idx R ws u' = QM.idx R ws (u ++ [b]) ∧ seen B u' = seen B (u ++ [b])
theorem WI.ex {H H1 H2 : Hp} {fo kn fw : Addr} {cs : List Nat} {R ws : List (List Nat)} {B : List Nat} {us : List (List Nat)} {fl : List (Nat × List Nat)} {i : Nat} (I : WI K H H1 fo kn fw cs R ws B us fl i) (e : Ex H1 H2) : WI K H H2 fo kn fw cs R ws B us fl i := by
  obtain ⟨vs, v1, v2, v3⟩ := I.hf
  exact ⟨I.e.tr e.mo, ⟨vs, e _ _ v1, v2, fun j u hj => let ⟨a, h1, h2⟩ := v3 j u hj; ⟨a, h1, e _ _ h2⟩⟩, e _ _ I.hk, e _ _ I.hw, I.nd, I.on, I.zero, I.short, I.fnd, I.full, I.le, I.cov, I.clo⟩
theorem WI.add {H H1 H2 : Hp} {fo kn fw tk : Addr} {cs : List Nat} {R ws : List (List Nat)} {B : List Nat} {us : List (List Nat)} {fl : List (Nat × List Nat)} {i : Nat} {u : List Nat} (I : WI K H H1 fo kn fw cs R ws B us fl i) (fo0 : H fo = none) (kn0 : H kn = none) (nfw : fw ≠ fo) (nkw : fw ≠ kn)
    (k : ∀ a o, a ≠ fo → a ≠ kn → H1 a = some o → H2 a = some o) (hu : QA.On B u) (hl : u.length ≤ us.length) (hnew : (QM.idx R ws u, seen B u) ∉ us.map fun u => (QM.idx R ws u, seen B u)) (htk : H2 tk = some (.tup [iv (QM.idx R ws u), .str (wO cs (seen B u)), .str (wO cs u)]))
    (hfo : ∀ vs, H1 fo = some (.lst vs) → H2 fo = some (.lst (vs ++ [V.ref tk]))) (hk : H2 kn = some (.dT (us.map (kkey cs R ws B) ++ [kkey cs R ws B u]))) : WI K H H2 fo kn fw cs R ws B (us ++ [u]) fl i := by
  obtain ⟨vs, v1, v2, v3⟩ := I.hf
  have hat : ∀ (j : Nat) (w : List Nat), (us ++ [u])[j]? = some w → us[j]? = some w ∨ (j = us.length ∧ w = u) := fun j w hj => by
    rw [List.getElem?_append] at hj
    split at hj
    · exact .inl hj
    · rename_i hnl
      have hj0 : j - us.length = 0 := by
        cases hk : j - us.length with
        | zero => rfl
        | succ k => rw [hk] at hj; simp at hj
      rw [hj0] at hj
      exact .inr ⟨by omega, by simpa using hj.symm⟩
  refine ⟨fun a o na h => k _ _ (ne_of_none h fo0) (ne_of_none h kn0) (I.e a o na h), ⟨_, hfo vs v1, by simp [v2], fun j w hj => ?_⟩, by rw [hk]; simp, k _ _ nfw nkw I.hw, ?_, fun w hw => ?_, ?_, fun j w hj => ?_, I.fnd, I.full, by have := I.le; simp; omega, fun j w hj hw => ?_, fun j w hj hw b hb => ?_⟩
  · rcases hat j w hj with h | ⟨rfl, rfl⟩
    · obtain ⟨a, a1, a2⟩ := v3 j w h
      have hjl : j < vs.length := (List.getElem?_eq_some_iff.mp a1).1
      refine ⟨a, by rw [List.getElem?_append_left hjl]; exact a1, k _ _ (fun e => by rw [e, v1] at a2; cases a2) (fun e => by rw [e, I.hk] at a2; cases a2) a2⟩
    · exact ⟨tk, by rw [List.getElem?_append_right (by omega)]; simp [v2], htk⟩
  · rw [List.map_append, List.nodup_append]
    exact ⟨I.nd, by simp, fun x hx y hy => by rw [show y = _ from by simpa using hy]; exact fun e => hnew (e ▸ hx)⟩
  · exact (List.mem_append.mp hw).elim (I.on w) fun h => by rw [List.mem_singleton.mp h]; exact hu
  · rw [List.getElem?_append_left (List.getElem?_eq_some_iff.mp I.zero).1]
    exact I.zero
  · rcases hat j w hj with h | ⟨rfl, rfl⟩
    · exact I.short j w h
    · exact hl
  · rcases hat j w hw with h | ⟨rfl, rfl⟩
    · exact I.cov j w hj h
    · have := I.le
      omega
  · rcases hat j w hw with h | ⟨rfl, rfl⟩
    · obtain ⟨u', h1, h2⟩ := I.clo j w hj h b hb
      exact ⟨u', List.mem_append_left _ h1, h2⟩
    · have := I.le
      omega
theorem valV_kk {cs : List Nat} (nd : cs.Nodup) {R ws : List (List Nat)} {B : List Nat} (hB : ∀ b ∈ B, b < cs.length) {us : List (List Nat)} {u : List Nat} : valV (us.map (kkey cs R ws B)) [ik (QM.idx R ws u), Sum.inr (wO cs (seen B u))] = if (QM.idx R ws u, seen B u) ∈ us.map (fun u => (QM.idx R ws u, seen B u)) then some (.bl true) else none := by
  have so : ∀ u, QM.Ok cs.length (seen B u) := fun u a ha => hB a (List.mem_filter.mp ha).1
  induction us with
  | nil => rfl
  | cons a t ih =>
    rw [List.map_cons]
    by_cases e : (QM.idx R ws u, seen B u) = (QM.idx R ws a, seen B a)
    · injection e with e1 e2
      rw [valV_pos (by show [ik (QM.idx R ws a), Sum.inr (wO cs (seen B a))] = _; rw [e1, e2]), if_pos (by rw [List.map_cons, e1, e2]; exact List.mem_cons_self ..)]
      rfl
    · rw [valV_neg (fun z => e (by
        have z : [ik (QM.idx R ws a), Sum.inr (wO cs (seen B a))] = [ik (QM.idx R ws u), Sum.inr (wO cs (seen B u))] := z
        injection z with z1 z2
        injection z2 with z2 _
        injection z1 with z1
        injection z2 with z2
        rw [Int.ofNat.inj z1, wO_inj nd (so _) (so _) z2])), ih]
      by_cases hm : (QM.idx R ws u, seen B u) ∈ t.map (fun u => (QM.idx R ws u, seen B u))
      · rw [if_pos hm, if_pos (by rw [List.map_cons]; exact List.mem_cons_of_mem _ hm)]
      · rw [if_neg hm, if_neg (by rw [List.map_cons]; exact fun m => (List.mem_cons.mp m).elim e hm)]
theorem flK_none {cs : List Nat} {q : Nat} : ∀ {fl : List (Nat × List Nat)}, q ∉ fl.map (·.1) → valV (flK cs fl) (ik q) = none
  | [], _ => rfl
  | a :: t, h => by
    have h1 : ¬ ik a.1 = ik q := fun e => h (by injection e with e; rw [← Int.ofNat.inj e]; exact List.mem_cons_self ..)
    show valV ((ik a.1, V.str (wO cs a.2)) :: flK cs t) (ik q) = none
    rw [valV_neg h1]
    exact flK_none fun m => h (List.mem_cons_of_mem _ m)
theorem ok_Lot_walk {f : Addr} {fd : FuncData} (F : FnM K "walk" "Lot.walk" s_Lot_walk f fd) (T : Txt K mg) : FnOk P w K mg base CX0 1 f fd ["self"] (sp_walk K) := by
  refine F.ok sc_Lot_walk (fun vs H Q E h => ?_) (fun cdv A outer s H vs Q E hr h => ?_)
  · obtain ⟨l, dx, fs, Fa, pl, fw, cs, R, ws, B, rfl, _⟩ := h
    rfl
  · obtain ⟨l, dx, fs, Fa, pl, fw, cs, R, ws, B, rfl, hL, hf3, hf4, hfw, hF, hB, hBs, k⟩ := h
    have hFA := hF
    obtain ⟨FBd, wo, de, nu, bl, rs, ⟨dxf, ds, hFa, hwd, hwo, hde, hdl, hdv, hnu⟩, hbl, hrl, hrows⟩ := hF
    have hf1 := hL.field
    have hf2 := hL.places
    have hl0 := hL.at_
    have h0 : QM.idx R ws [] = 0 := FBd.f.at FBd.f.zero
    have hB4 : B.length ≤ 4 := Nat.le_trans (len_of_lt hBs hB) FBd.four
    have hBo : QM.Ok cs.length B := hB
    refine ⟨_, PSs.nox (pss_cons (ps_set (i := 1) sc_Lot_walk.nd rfl (Or.inl rfl) (pe_lst (pa_cons (pe_tup (pa_cons pe_int (pa_cons pe_str (pa_cons pe_str pa_nil)))) pa_nil)))
    (pss_cons (ps_set (i := 2) sc_Lot_walk.nd rfl (Or.inl rfl) (pe_dispT hr.units (pe_tup (pa_cons pe_int (pa_cons pe_str pa_nil))) pe_bl))
    (pss_cons (ps_set (i := 3) sc_Lot_walk.nd rfl (Or.inl rfl) pe_int)
    (pss_one (ps_while PassesOwn.never (pt_cmpR op_lt (pv 3) (pe_callB (callLen (K := K)) (by rfl) T.len PySem.boot_len (pa_cons (pv 1) pa_nil)) (nomark _))
    (pss_cons (ps_asg (pe_ix (ixL (K := K)) (pv 1) (pv 3) (fun _ _ => rfl)) (pg_tupK (K := K) rfl (pgs_cons (pg_name (i := 4) sc_Lot_walk.nd rfl (by first | exact Or.inl rfl | exact Or.inr rfl)) (pgs_cons (pg_name (i := 5) sc_Lot_walk.nd rfl (by first | exact Or.inl rfl | exact Or.inr rfl)) (pgs_cons (pg_name (i := 6) sc_Lot_walk.nd rfl (by first | exact Or.inl rfl | exact Or.inr rfl)) pgs_nil)))))
    (pss_cons (ps_if (pt_cmpR op_eq (pv 5) (pe_fldK (K := K) (pv 0)) (nomark _))
    (pss_one (ps_expr (pe_dsetd (pe_fldK (K := K) (pv 0)) (pv 4) (pv 6) ⟨rfl, rfl, rfl, rfl⟩)))
    pss_nil)
    (pss_cons (ps_for PassesOwn.never rfl (pi_zipX (K := K) rfl T.zip (pa_cons (pe_fldK (K := K) (pv 0)) (pa_cons (pe_fldK (K := K) (pv 0)) pa_nil))) (pg_tupK (K := K) rfl (pgs_cons (pg_name (i := 7) sc_Lot_walk.nd rfl (by first | exact Or.inl rfl | exact Or.inr rfl)) (pgs_cons (pg_name (i := 8) sc_Lot_walk.nd rfl (by first | exact Or.inl rfl | exact Or.inr rfl)) pgs_nil)))
    (pss_cons (ps_set (i := 9) sc_Lot_walk.nd rfl (Or.inl rfl) (pe_joinK (K := K) pe_str (pe_lc (own := [("one", 11)]) rfl sc_Lot_walk.nd (pi_str (pe_fldK (K := K) (pv 0))) (blkOk_by (own := [("one", 11)]) (N := N_Lot_walk) (sc := defScope s_Lot_walk) (by decide +kernel)) (fun _ _ _ _ _ => (pg_name (i := 11) sc_Lot_walk.nd rfl (by first | exact Or.inl rfl | exact Or.inr rfl))) (fun _ _ _ _ _ => pts_one (PW.pt (pw_or (pt_cmpR op_inS (pv 11) (pv 5) rfl) (pw_or1 (pt_cmpR op_eq (pv 11) (pv 7) (nomark _)))))) (fun _ _ _ _ _ => (pv 11)))))
    (pss_cons (ps_set (i := 10) sc_Lot_walk.nd rfl (Or.inl rfl) (pe_tup (pa_cons (pe_ix (ixL (K := K)) (pe_ix (ixL (K := K)) (pe_fldK (K := K) (pe_fldK (K := K) (pv 0))) (pv 4) (fun _ _ => rfl)) (pv 8) (fun _ _ => rfl)) (pa_cons (pv 9) pa_nil))))
    (pss_one (ps_if (pt_cmp (pc_dnotin (hu_of hr) (pv 10) (pv 2)) rfl)
    (pss_cons (ps_dput (hu_of hr) (pv 2) (pv 10) pe_bl rfl)
    (pss_one (ps_expr (pe_bmK (K := K) PySem.F.plainAttrs_list PySem.F.slot_list_append PySem.F.type_list_append mt_append (pv 1) (pa_cons (pe_tup (pa_cons (pe_ix (ixT (K := K)) (pv 10) pe_int (fun _ _ => rfl)) (pa_cons (pv 9) (pa_cons (pe_op op_addT (pv 6) (pv 7)) pa_nil)))) pa_nil)))))
    pss_nil)))))
    (pss_one (ps_aug (i := 3) sc_Lot_walk.nd rfl (Or.inl rfl) pe_int ip_add)))))))))), ?_⟩
    walk_at "ws"
    refine k_tup (by walk_at "sz") fun t0 H1 n1 e1 h1 => ?_
    walk_at "ws"
    refine k_lst (by walk_at "sz") fun fo H2 n2 e2 h2 => ?_
    walk_at "ws"
    refine w_dispT fun kn H3 n3 e3 h3 => ?_
    walk_at "ws"
    refine k_tup (by walk_at "sz") fun t1 H4 n4 e4 h4 => ?_
    walk_at "ws"
    refine k_dt2 (e4 _ _ h3) (ks := [ik 0, Sum.inr (wO cs [])]) (by rw [h4]; rfl) fun H5 m5 h5 => ?_
    walk_at "ws"
    have fo0 : H fo = none := e1.back n2
    have kn0 : H kn = none := e1.back (e2.back n3)
    have e05 : Ex H H5 := m5.ex (((e1.tr e2).tr e3).tr e4) kn0
    have nfk : fo ≠ kn := ne_of_none h2 n3
    have nfw : fw ≠ fo := ne_of_none hfw fo0
    have nkw : fw ≠ kn := ne_of_none hfw kn0
    have ht0 : H5 t0 = _ := m5 _ _ (ne_of_none (e2 _ _ h1) n3) (e4 _ _ (e3 _ _ (e2 _ _ h1)))
    have hfo5 : H5 fo = _ := m5 _ _ nfk (e4 _ _ (e3 _ _ h2))
    have I0 : WI K H H5 fo kn fw cs R ws B [[]] [] 0 := ⟨e05.mo, ⟨_, hfo5, rfl, fun j u hj => by
        cases j with
        | zero => cases hj; exact ⟨t0, rfl, by rw [ht0, h0, show seen B [] = [] from List.filter_eq_nil_iff.mpr fun a _ => by simp]; rfl⟩
        | succ j => simp at hj⟩, by rw [h5, List.map_cons, List.map_nil, kkey, h0, show seen B [] = [] from List.filter_eq_nil_iff.mpr fun a _ => by simp], e05 _ _ hfw, by simp, (fun u hu => by rw [List.mem_singleton.mp hu]; exact QA.On.nil), rfl, fun j u hj => by
        cases j with
        | zero => cases hj; exact Nat.le_refl _
        | succ j => simp at hj, List.nodup_nil, by simp, Nat.zero_le _, fun j u hj => absurd hj (Nat.not_lt_zero _), fun j u hj => absurd hj (Nat.not_lt_zero _)⟩
    refine w_while (fun mm σ H' => ∃ (us : List (List Nat)) (fl : List (Nat × List Nat)) (i : Nat) (zz : List (Option V)), mm = 160 - i ∧ zz.length = 8 ∧ WI K H H' fo kn fw cs R ws B us fl i ∧ σ = some (.ref l) :: some (.ref fo) :: some (.ref kn) :: some (iv i) :: zz) 160
      ⟨_, _, _, _, rfl, ?_, I0, rfl⟩ ?_
    · rfl
    rintro mm σ H6 ⟨us, fl, i, zz, rfl, hzl, I, rfl⟩
    obtain ⟨a1, a2, a3, a4, a5, a6, a7, a8, rfl⟩ : ∃ a1 a2 a3 a4 a5 a6 a7 a8, zz = [a1, a2, a3, a4, a5, a6, a7, a8] := by
      match zz, hzl with
      | [a1, a2, a3, a4, a5, a6, a7, a8], _ => exact ⟨a1, a2, a3, a4, a5, a6, a7, a8, rfl⟩
    have hfew : ∀ {H' : Hp} {us : List (List Nat)} {fl : List (Nat × List Nat)} {i : Nat}, WI K H H' fo kn fw cs R ws B us fl i → us.length ≤ 160 := fun {H' us fl i} I => by
      have := pairs_few hB4 I.nd (fun p hp => by
        obtain ⟨u, hu, rfl⟩ := List.mem_map.mp hp
        exact ⟨Nat.lt_of_lt_of_le (FBd.f.lt FBd.t (QM.on_ok hB (I.on u hu))) FBd.ten, filter_subs _ _⟩)
      rwa [List.length_map] at this
    have hus := hfew I
    obtain ⟨vs, hv1, hv2, hv3⟩ := I.hf
    have keep : ∀ {H' : Hp} {us : List (List Nat)} {fl : List (Nat × List Nat)} {i : Nat}, WI K H H' fo kn fw cs R ws B us fl i → ∀ a o, H a = some o → (∀ kvs, o ≠ .dK kvs) → H' a = some o := fun {H' us fl i} I a o h hn => I.e a o (fun e => by rw [e, hfw] at h; exact hn _ (Option.some.inj h).symm) h
    have hl6 : H6 l = _ := keep I _ _ hl0 (fun _ z => nomatch z)
    walk_at "ws"
    refine r_len (.inl (SqL.of hv1)) ?_
    walk_at "ws"
    rw [hv2]
    refine k_wh (fun hb => ?_) (fun hb => ?_)
    · have hlt : i < us.length := by simpa using hb
      obtain ⟨u, hu⟩ : ∃ u, us[i]? = some u := ⟨_, List.getElem?_eq_getElem hlt⟩
      obtain ⟨ua, hua1, hua2⟩ := hv3 i u hu
      have huon : QA.On B u := I.on u (List.mem_of_getElem? hu)
      have huo : QM.Ok cs.length u := QM.on_ok hB huon
      have hso : QM.Ok cs.length (seen B u) := fun a ha => hB a (List.mem_filter.mp ha).1
      obtain ⟨v, hvv1, hvv2, hvv3⟩ := FBd.f.get FBd.t huo
      obtain ⟨ro, hro1, hro2⟩ := hrows _ _ hvv1
      walk_at "ws"
      refine r_ixL (SqL.of hv1) hua1 ?_
      refine ⟨ua, _, rfl, SqT.of hua2, rfl, _, _, rfl, _, _, rfl, _, _, rfl, rfl, ?_⟩
      walk_at "ws"
      have eqB : wO cs (seen B u) = wO cs B ↔ QA.Full B u := ⟨fun e => ⟨huon, seen_full.mp (wO_inj FBd.nd hso hBo e)⟩, fun h => by rw [seen_full.mpr h.2]⟩
      have hat : ∀ (j : Nat) (w : List Nat), j < i + 1 → us[j]? = some w → (j < i ∧ us[j]? = some w) ∨ w = u := fun j w hj hw => by
        rcases Nat.lt_succ_iff_lt_or_eq.mp hj with hj | rfl
        · exact .inl ⟨hj, hw⟩
        · rw [hu] at hw
          exact .inr (Option.some.inj hw).symm
      have hfl : fl.length ≤ 10 := by
        have := QM.nodup_le I.fnd (m := List.range ws.length) fun x hx => by
          obtain ⟨p', hp', rfl⟩ := List.mem_map.mp hx
          rw [← (I.full p' hp').2.1]
          exact List.mem_range.mpr (FBd.f.lt FBd.t (QM.on_ok hB (I.full p' hp').1.1))
        have := FBd.ten
        simp at *
        omega
      refine k_if (fun hb2 => ?_) (fun hb2 => ?_)
      have hfull : QA.Full B u := eqB.mp (of_decide_eq_true hb2)
      walk_at "ws"
      refine k_ds1 I.hw ?_
      walk_at "ws"
      refine k_ds3 I.hw (by rw [sizeLine_eq]; simp [flK]; omega) (fun vv hvv => ?_) (fun hvv H7 m7 h7 => ?_)
      have I7 := I
      have hcov : ∀ (j : Nat) (w : List Nat), j < i + 1 → us[j]? = some w → QA.Full B w → QM.idx R ws w ∈ fl.map (·.1) := fun j w hj hw hfw' => by
        rcases hat j w hj hw with ⟨h1, h2⟩ | rfl
        · exact I.cov j w h1 h2 hfw'
        · refine Classical.byContradiction fun hn => ?_
          have : valV (flK cs fl) (Sum.inl (QM.idx R ws w : Int)) = none := flK_none hn
          rw [this] at hvv
          cases hvv
      walk_at "ws"
      rotate_left
      have I7 : WI K H H7 fo kn fw cs R ws B us (fl ++ [(QM.idx R ws u, u)]) i := by
        have hnm : QM.idx R ws u ∉ fl.map (·.1) := fun hm => valV_none hvv (by
          obtain ⟨p', hp', e⟩ := List.mem_map.mp hm
          exact List.mem_map.mpr ⟨(ik p'.1, _), List.mem_map.mpr ⟨p', hp', rfl⟩, by rw [← e]⟩)
        refine ⟨I.e.tr m7, ⟨vs, m7 _ _ (Ne.symm nfw) hv1, hv2, fun j w hj => ?_⟩, m7 _ _ (Ne.symm nkw) I.hk, by rw [h7]; simp [flK], I.nd, I.on, I.zero, I.short, ?_, fun p' hp' => ?_, I.le, fun j w hj hw hf => ?_, I.clo⟩
        · obtain ⟨a, b1, b2⟩ := hv3 j w hj
          exact ⟨a, b1, m7 _ _ (fun e => by rw [e, I.hw] at b2; cases b2) b2⟩
        · rw [List.map_append, List.nodup_append]
          exact ⟨I.fnd, by simp, fun x hx y hy => by rw [show y = _ from by simpa using hy]; exact fun e => hnm (e ▸ hx)⟩
        · rcases List.mem_append.mp hp' with h | h
          · exact I.full p' h
          · rw [List.mem_singleton.mp h]
            exact ⟨hfull, rfl, by have := I.short i u hu; show u.length ≤ 1000; omega⟩
        · rw [List.map_append]
          exact List.mem_append_left _ (I.cov j w hj hw hf)
      have hcov : ∀ (j : Nat) (w : List Nat), j < i + 1 → us[j]? = some w → QA.Full B w → QM.idx R ws w ∈ (fl ++ [(QM.idx R ws u, u)]).map (·.1) := fun j w hj hw hfw' => by
        rw [List.map_append]
        rcases hat j w hj hw with ⟨h1, h2⟩ | rfl
        · exact List.mem_append_left _ (I.cov j w h1 h2 hfw')
        · exact List.mem_append_right _ (by simp)
      walk_at "ws"
      rotate_left
      have I7 := I
      have hcov : ∀ (j : Nat) (w : List Nat), j < i + 1 → us[j]? = some w → QA.Full B w → QM.idx R ws w ∈ fl.map (·.1) := fun j w hj hw hfw' => by
        rcases hat j w hj hw with ⟨h1, h2⟩ | rfl
        · exact I.cov j w h1 h2 hfw'
        · exact absurd (eqB.mpr hfw') (of_decide_eq_false hb2)
      walk_at "ws"
      all_goals (
        have hl7 := keep I7 _ _ hl0 (fun _ z => nomatch z)
        walk_at "ws"
        have hpl7 := keep I7 _ _ hL.hpl (fun _ z => nomatch z)
        refine k_iZX (.txt (wO cs B)) (.lst pl) (xs := sgn (wO cs B)) (ys := B.map iv) rfl (SqL.of hpl7) ?_
        refine k_for (walk_zipX (n := B.length) (by simp [sgn])) (fun j σ H' => ∃ (us' : List (List Nat)) (fl' : List (Nat × List Nat)) (z1 z2 z3 z4 z5 : Option V), (∃ r, us' = us ++ r) ∧ WI K H H' fo kn fw cs R ws B us' fl' i ∧
            (∀ (j : Nat) (w : List Nat), j < i + 1 → us[j]? = some w → QA.Full B w → QM.idx R ws w ∈ fl'.map (·.1)) ∧
            (∀ (j' b : Nat), j' < j → B[j']? = some b → ∃ u' ∈ us', QM.idx R ws u' = QM.idx R ws (u ++ [b]) ∧ seen B u' = seen B (u ++ [b])) ∧
            σ = [some (.ref l), some (.ref fo), some (.ref kn), some (iv i), some (iv (QM.idx R ws u)), some (.str (wO cs (seen B u))), some (.str (wO cs u)), z1, z2, z3, z4, z5])
          ⟨us, _, _, _, _, _, _, ⟨[], by simp⟩, I7, hcov, fun j' b hj => absurd hj (Nat.not_lt_zero _), rfl⟩ (fun _ _ _ ⟨_, _, _, _, _, _, _, _, r, _⟩ => ⟨rfl, SqL.of (keep r _ _ hL.hpl (fun _ z => nomatch z))⟩) ?_ ?_
        · rintro j x σ H8 H9 hj ⟨us', fl', z1, z2, z3, z4, z5, ⟨r, rfl⟩, I8, hcov8, hdone, rfl⟩ ⟨T1, x1, x2, rfl, hT, eH9, g1, g2⟩
          obtain ⟨c, hc, rfl⟩ := at_map g1
          obtain ⟨b, hb', rfl⟩ := at_map g2
          have hbB : b ∈ B := List.mem_of_getElem? hb'
          have hbk := hB b hbB
          have hcb : c = cs.getD b 0 := by
            have : ((wO cs B).cps.toList)[j]? = some (cs.getD b 0) := by simp [hb']
            rw [this] at hc
            exact (Option.some.inj hc).symm
          subst hcb
          have e9 : Ex H8 H9 := eH9 ▸ Ex.new hT
          have I9 : WI K H H9 fo kn fw cs R ws B (us ++ r) fl' i := I8.ex e9
          refine ⟨T1, _, rfl, SqT.of (eH9 ▸ upd_same), rfl, _, _, rfl, _, _, rfl, rfl, ?_⟩
          have hl9 := keep I9 _ _ hl0 (fun _ z => nomatch z)
          have hF9 := keep I9 _ _ hFa (fun _ z => nomatch z)
          have hbl9 := keep I9 _ _ hbl (fun _ z => nomatch z)
          have hro9 := keep I9 _ _ hro2 (fun _ z => nomatch z)
          walk_at "ws"
          refine k_lcF walk_str (by show (wO cs B).cps.size ≤ 100000; simp; omega) (fun jj => decide (B.getD jj 0 ∈ seen B u) || decide (B.getD jj 0 = b)) (fun jj => V.str ⟨#[cs.getD (B.getD jj 0) 0]⟩) (fun _ _ => trivial) (fun jj x H10 H11 Qb Qc hjj hY e10 kq kb' => ?_) (fun al H10 n10 e10 h10 => ?_)
          · obtain ⟨rfl, c', hc', rfl⟩ := hY
            have hjl : jj < B.length := by simpa using hjj
            have hBj : B.getD jj 0 = B[jj] := by rw [List.getD_eq_getElem?_getD, List.getElem?_eq_getElem hjl]; rfl
            have hak : B[jj] < cs.length := hB _ (List.getElem_mem hjl)
            have hcc : c' = cs.getD (B.getD jj 0) 0 := by
              rw [hBj]
              have : ((wO cs B).cps)[jj]? = some (cs.getD B[jj] 0) := by simp [hjl]
              rw [this] at hc'
              exact (Option.some.inj hc').symm
            subst hcc
            walk_at "ws"
            have d1 : decide (cs.getD (B.getD jj 0) 0 ∈ (wO cs (seen B u)).cps.toList) = decide (B.getD jj 0 ∈ seen B u) := decide_eq_decide.mpr (wO_mem FBd.nd hso (by rw [hBj]; exact hak))
            have d2 : decide ((⟨#[cs.getD (B.getD jj 0) 0]⟩ : Str) = ⟨#[cs.getD b 0]⟩) = decide (B.getD jj 0 = b) := decide_eq_decide.mpr ⟨fun e => getD_inj FBd.nd (by rw [hBj]; exact hak) hbk (by injection e with e; simpa using e), fun e => by rw [e]⟩
            rw [d1]
            by_cases hs : B.getD jj 0 ∈ seen B u
            · rw [decide_eq_true hs]
              refine k_or (fun _ => ?_) fun z => by cases z
              rw [if_pos rfl]
              walk_at "ws"
              exact kq _ (by simp only [hs, decide_true, Bool.true_or]) Ex.rfl'
            · rw [decide_eq_false hs]
              refine k_or (fun z => by cases z) fun _ => ?_
              walk_at "ws"
              rw [d2]
              by_cases hq : B.getD jj 0 = b
              · rw [decide_eq_true hq, if_pos rfl]
                walk_at "ws"
                exact kq _ (by simp only [hq, decide_true, Bool.or_true]) Ex.rfl'
              · rw [decide_eq_false hq, if_neg (by decide)]
                exact kb' _ (by simp only [hs, hq, decide_false, Bool.or_false]) Ex.rfl'
          · have hkept : kept (fun jj => decide (B.getD jj 0 ∈ seen B u) || decide (B.getD jj 0 = b)) (fun jj => V.str ⟨#[cs.getD (B.getD jj 0) 0]⟩) (wO cs B).cps.size = (((seen B (u ++ [b])).map fun a => cs.getD a 0).map fun c => V.str ⟨#[c]⟩) := by
              unfold kept
              rw [show (wO cs B).cps.size = B.length by simp, seen_snoc, List.map_map]
              exact filt_places B (fun a => decide (a ∈ seen B u) || decide (a = b)) fun a => V.str ⟨#[cs.getD a 0]⟩
            rw [hkept] at h10
            walk_at "ws"
            have hseenl : (seen B (u ++ [b])).length ≤ 4 := Nat.le_trans (List.length_filter_le _ _) hB4
            refine r_joinC (SqL.of h10) (by rw [List.length_map]; omega) ?_
            have hF10 := e10 _ _ hF9
            have hl10 := e10 _ _ hl9
            walk_at "ws"
            refine r_ixL (SqL.of (e10 _ _ hbl9)) hro1 ?_
            walk_at "ws"
            refine r_ixL (SqL.of (e10 _ _ hro9)) (v := iv (QM.idx R ws (v ++ [b]))) (by rw [List.getElem?_map, List.getElem?_range hbk]; rfl) ?_
            have h1b : QM.Ok cs.length [b] := fun c hc => by rw [List.mem_singleton.mp hc]; exact hbk
            have evu : QM.idx R ws (v ++ [b]) = QM.idx R ws (u ++ [b]) := (FBd.f.iff FBd.t (hvv2.app h1b) (huo.app h1b)).mpr (QM.deed_cong FBd.t hvv2 huo hvv3 rfl)
            rw [evu]
            have hub : QA.On B (u ++ [b]) := huon.app fun c hc => by rw [List.mem_singleton.mp hc]; exact hbB
            walk_at "ws"
            refine k_tup (by walk_at "sz") fun tp H11 n11 e11 h11 => ?_
            have I11 : WI K H H11 fo kn fw cs R ws B (us ++ r) fl' i := I9.ex (e10.tr e11)
            have hus11 := hfew I11
            walk_at "ws"
            refine k_di2T I11.hk (ks := [ik (QM.idx R ws (u ++ [b])), Sum.inr (wO cs (seen B (u ++ [b])))]) (by rw [h11]; rfl) ?_
            rw [valV_kk FBd.nd hB]
            walk_at "ws"
            have fin : ∀ (us2 : List (List Nat)), (∀ x ∈ us ++ r, x ∈ us2) → (∃ u' ∈ us2, QM.idx R ws u' = QM.idx R ws (u ++ [b]) ∧ seen B u' = seen B (u ++ [b])) → ∀ (j' c : Nat), j' < j + 1 → B[j']? = some c → ∃ u' ∈ us2, QM.idx R ws u' = QM.idx R ws (u ++ [c]) ∧ seen B u' = seen B (u ++ [c]) := fun us2 h1 h2 j' c hj hc2 => by
              rcases Nat.lt_succ_iff_lt_or_eq.mp hj with hj | rfl
              · obtain ⟨u', q1, q2⟩ := hdone j' c hj hc2
                exact ⟨u', h1 _ q1, q2⟩
              · rw [hb'] at hc2
                cases hc2
                exact h2
            by_cases hm : (QM.idx R ws (u ++ [b]), seen B (u ++ [b])) ∈ (us ++ r).map (fun u => (QM.idx R ws u, seen B u))
            · rw [if_pos hm]
              refine k_if (fun z => by cases z) fun _ => ?_
              walk_at "ws"
              refine ⟨us ++ r, fl', _, _, _, _, _, ⟨r, rfl⟩, I11, hcov8, fin _ (fun _ h => h) ?_, rfl⟩
              obtain ⟨u', hu', e⟩ := List.mem_map.mp hm
              injection e with q1 q2
              exact ⟨u', hu', q1, q2⟩
            · rw [if_neg hm]
              refine k_if (fun _ => ?_) fun z => by cases z
              walk_at "ws"
              refine k_dp3T I11.hk (ks := [ik (QM.idx R ws (u ++ [b])), Sum.inr (wO cs (seen B (u ++ [b])))]) (by rw [h11]; rfl) (by rw [sizeLine_eq, List.length_map]; omega) fun H12 m12 h12 => ?_
              obtain ⟨vs11, w1, w2, w3⟩ := I11.hf
              have h12f : H12 fo = _ := m12 _ _ nfk w1
              have h12t : H12 tp = _ := m12 _ _ (fun e => by rw [e, I11.hk] at h11; cases h11) h11
              rw [putK_new (valV_none (by rw [valV_kk FBd.nd hB, if_neg hm]))] at h12
              walk_at "ws"
              refine k_bmL (SqL.of h12f) ?_
              walk_at "ws"
              refine r_ixT (SqT.of h12t) (n := 0) rfl ?_
              walk_at "ws"
              have husl : u.length ≤ 160 := by have := I.short i u hu; omega
              refine r_addT (by rw [sizeLine_eq]; simp [Str.length]; omega) ?_
              rw [show (wO cs u ++ (⟨#[cs.getD b 0]⟩ : Str) : Str) = wO cs (u ++ [b]) from wO_app cs u [b]]
              walk_at "ws"
              refine k_tup (by walk_at "sz") fun tk H13 n13 e13 h13 => ?_
              have h13f : H13 fo = _ := e13 _ _ h12f
              walk_at "ws"
              refine r_append h13f (by rw [sizeLine_eq]; omega) fun H14 m14 h14 => ?_
              walk_at "ws"
              have hfok : fo ≠ tk := ne_of_none h12f n13
              refine ⟨us ++ r ++ [u ++ [b]], fl', _, _, _, _, _, ⟨r ++ [u ++ [b]], by simp⟩, I11.add (tk := tk) fo0 kn0 nfw nkw (fun a o n1 n2 h => m14 _ _ n1 (e13 _ _ (m12 _ _ n2 h))) hub ?_ hm (m14 _ _ (Ne.symm hfok) h13) (fun vs' hvs' => ?_) (m14 _ _ (Ne.symm nfk) (e13 _ _ h12)), hcov8, fin _ (fun x h => List.mem_append_left _ h) ⟨u ++ [b], by simp, rfl, rfl⟩, rfl⟩
              · have := I.short i u hu
                simp
                omega
              · rw [w1] at hvs'
                cases hvs'
                exact h14
        · rintro σ H8 ⟨us', fl', z1, z2, z3, z4, z5, ⟨r, rfl⟩, I8, hcov8, hdone, rfl⟩
          walk_at "ws"
          have hus8 := hfew I8
          have hul : ∀ (j : Nat) (w : List Nat), j < i + 1 → (us ++ r)[j]? = some w → us[j]? = some w := fun j w hj hw => by
            rwa [List.getElem?_append_left (by omega)] at hw
          refine ⟨160 - (i + 1), by simp at hus8; omega, us ++ r, fl', i + 1, _, rfl, ?_, ⟨I8.e, I8.hf, I8.hk, I8.hw, I8.nd, I8.on, I8.zero, I8.short, I8.fnd, I8.full, by simp; omega, fun j w hj hw => hcov8 j w hj (hul j w hj hw), fun j w hj hw b hb => ?_⟩, rfl⟩
          · rfl
          · rcases hat j w hj (hul j w hj hw) with ⟨h1, h2⟩ | rfl
            · exact I8.clo j w h1 hw b hb
            · obtain ⟨j', hj', e⟩ := List.mem_iff_getElem.mp hb
              exact hdone j' b hj' (by rw [List.getElem?_eq_getElem hj', e])
      )
    · have hge : ¬ i < us.length := by simpa using hb
      have hii : i = us.length := by have := I.le; omega
      subst hii
      walk_at "ws"
      refine k fl H6 I.e I.hw I.fnd I.full fun w hw => ?_
      have all : ∀ w, QA.On B w → ∃ u ∈ us, QM.idx R ws u = QM.idx R ws w ∧ seen B u = seen B w := by
        refine QM.snocRec (fun _ => ⟨[], List.mem_of_getElem? I.zero, rfl, rfl⟩) fun w b ih hw => ?_
        obtain ⟨u, hu, q1, q2⟩ := ih hw.left
        have hbB : b ∈ B := hw b (by simp)
        obtain ⟨j, hj, e⟩ := List.mem_iff_getElem.mp hu
        obtain ⟨u', hu', r1, r2⟩ := I.clo j u hj (by rw [List.getElem?_eq_getElem hj, e]) b hbB
        have h1b : QM.Ok cs.length [b] := fun c hc => by rw [List.mem_singleton.mp hc]; exact hB b hbB
        refine ⟨u', hu', r1.trans (FBd.f.app FBd.t (QM.on_ok hB (I.on u hu)) (QM.on_ok hB hw.left) h1b h1b q1 rfl), r2.trans ?_⟩
        rw [seen_snoc, seen_snoc, q2]
      obtain ⟨u, hu, q1, q2⟩ := all w hw.1
      obtain ⟨j, hj, e⟩ := List.mem_iff_getElem.mp hu
      rw [← q1]
      refine I.cov j u hj (by rw [List.getElem?_eq_getElem hj, e]) ⟨I.on u hu, seen_full.mp ?_⟩
      rw [q2]
      exact seen_full.mpr hw.2
end

/-! ## Lot_init -/
section
variable {P : Program} {w : World} {K : PySem.W.Frag} {mg : Str → Option Value} {base : Heap}
abbrev N_Lot_init : List Str := ["self", "field", "lot", "letter"]
theorem sc_Lot_init : FnScope N_Lot_init ["self", "field", "lot"] (defScope s_Lot_init) := ⟨rfl, rfl, rfl, by decide +kernel, rfl, by decide +kernel, by decide +kernel⟩
theorem ok_Lot_init {f : Addr} {fd : FuncData} (F : FnM K "__init__" "Lot.__init__" s_Lot_init f fd) (T : Txt K mg) (k_Lot_all_made : Km P w K mg base CX0 1 (aL K) "all_made" ["self"] (sp_all_made K)) (k_Lot_walk : Km P w K mg base CX0 1 (aL K) "walk" ["self"] (sp_walk K)) (k_Lot_least_ideal : Km P w K mg base CX0 3 (aL K) "least_ideal" ["self"] (sp_least_ideal K)) :
    FnOk P w K mg base CX0 4 f fd ["self", "field", "lot"] (sp_Lot_init K) := by
  refine F.ok sc_Lot_init (fun vs H Q E h => ?_) (fun cdv A outer s H vs Q E hr h => ?_)
  · obtain ⟨p, dx, Fa, cs, R, ws, B, rfl, _⟩ := h
    rfl
  · obtain ⟨p, dx, Fa, cs, R, ws, B, rfl, hp, hF, hB, hBs, k⟩ := h
    have hFA := hF
    obtain ⟨FBd, wo, de, nu, bl, rs, ⟨dxf, ds, hFa, _⟩, _⟩ := hF
    have npF : Fa ≠ p := fun e => by
      rw [e, hp] at hFa
      injection hFa with z
      injection z with _ _ z3
      cases z3
    refine ⟨_, PSs.nox (pss_cons (ps_fldK (K := K) (pv 0) (pv 2))
    (pss_cons (ps_fldK (K := K) (pv 0) (pv 1))
    (pss_cons (ps_fldK (K := K) (pv 0) (pe_lc (own := [("letter", 3)]) rfl sc_Lot_init.nd (pi_str (pv 2)) (blkOk_by (own := [("letter", 3)]) (N := N_Lot_init) (sc := defScope s_Lot_init) (by decide +kernel)) (fun _ _ _ _ _ => (pg_name (i := 3) sc_Lot_init.nd rfl (by first | exact Or.inl rfl | exact Or.inr rfl))) (fun _ _ _ _ _ => pts_nil) (fun _ _ _ _ _ => (pe_bmK (K := K) PySem.F.plainAttrs_str PySem.F.slot_str_index PySem.F.type_str_index mtSIndex (pe_fldK (K := K) (pv 1)) (pa_cons (pv 3) pa_nil)))))
    (pss_cons (ps_fldK (K := K) (pv 0) pe_dnewK)
    (pss_cons (ps_fldK (K := K) (pv 0) (pe_km0 k_Lot_all_made (hr.mono (by decide)) (pv 0) ))
    (pss_cons (ps_expr (pe_km0 k_Lot_walk (hr.mono (by decide)) (pv 0) ))
    (pss_one (ps_fldK (K := K) (pv 0) (pe_km0 k_Lot_least_ideal (hr.mono (by decide)) (pv 0) ))))))))), ?_⟩
    walk_at "ws"
    walk_at "sf"
    intro H1 m1 h1
    change H1 p = some (.ins (aL K) dx [("lot", .str (wO cs B))]) at h1
    walk_at "ws"
    walk_at "sf"
    intro H2 m2 h2
    change H2 p = some (.ins (aL K) dx [("lot", .str (wO cs B)), ("field", .ref Fa)]) at h2
    have hF2 : FAt K H2 Fa cs R ws := (hFA.moI hp npF m1).moI h1 npF m2
    have hFa2 : H2 Fa = _ := m2 _ _ npF (m1 _ _ npF hFa)
    walk_at "ws"
    refine k_lcP walk_str (by have := len_of_lt hBs hB; have := FBd.four; show (wO cs B).cps.size ≤ 100000; simp; omega) (B.map iv) (by simp) (fun _ _ => trivial) (fun j x H3 H4 Qc hj hY e3 k3 => ?_) fun pl H3 n3 e3 h3 => ?_
    · obtain ⟨rfl, c, hc, rfl⟩ := hY
      have hjl : j < B.length := by simpa using hj
      have hcc : c = cs.getD B[j] 0 := by
        have : ((wO cs B).cps)[j]? = some (cs.getD B[j] 0) := by simp [hjl]
        rw [this] at hc
        exact (Option.some.inj hc).symm
      subst hcc
      have hak : B[j] < cs.length := hB _ (List.getElem_mem hjl)
      have hFa4 : H4 Fa = _ := e3 _ _ hFa2
      walk_at "ws"
      refine r_sindex (i := B[j]) (by simp [hak]) FBd.nd ?_
      exact k3 _ _ (by simp [hjl]) Ex.rfl'
    have h3p : H3 p = _ := e3 _ _ h2
    walk_at "ws"
    walk_at "sf"
    intro H4 m4 h4
    change H4 p = some (.ins (aL K) dx [("lot", .str (wO cs B)), ("field", .ref Fa), ("places", .ref pl)]) at h4
    walk_at "ws"
    refine w_dnewK fun fw H5 n5 e5 h5 => ?_
    have h5p : H5 p = _ := e5 _ _ h4
    walk_at "ws"
    walk_at "sf"
    intro H6 m6 h6
    change H6 p = some (.ins (aL K) dx [("lot", .str (wO cs B)), ("field", .ref Fa), ("places", .ref pl), ("full_words", .ref fw)]) at h6
    have npl : pl ≠ p := fun e => by rw [e, e3 _ _ h2] at h3; cases h3
    have nfp : fw ≠ p := fun e => by rw [e, h5p] at h5; cases h5
    have hF6 : FAt K H6 Fa cs R ws := (((hF2.ex e3).moI h3p npF m4).ex e5).moI h5p npF m6
    have hpl6 : H6 pl = _ := m6 _ _ npl (e5 _ _ (m4 _ _ npl h3))
    have hfw6 : H6 fw = _ := m6 _ _ nfp h5
    walk_at "ws"
    refine k_meth h6 rfl ?_
    walk_at "ws"
    refine ⟨p, dx, _, Fa, pl, cs, R, ws, B, rfl, ⟨h6, rfl, rfl, hpl6⟩, hF6, hB, fun ma ms H7 e7 h7 hnd hlen hms => ?_⟩
    have h7p : H7 p = _ := e7 _ _ h6
    walk_at "ws"
    walk_at "sf"
    intro H8 m8 h8
    change H8 p = some (.ins (aL K) dx [("lot", .str (wO cs B)), ("field", .ref Fa), ("places", .ref pl), ("full_words", .ref fw), ("made", .ref ma)]) at h8
    have nmp : ma ≠ p := fun e => by rw [e, h7p] at h7; cases h7
    have hF8 : FAt K H8 Fa cs R ws := (hF6.ex e7).moI h7p npF m8
    have hpl8 : H8 pl = _ := m8 _ _ npl (e7 _ _ hpl6)
    have hfw8 : H8 fw = _ := m8 _ _ nfp (e7 _ _ hfw6)
    have hma8 : H8 ma = _ := m8 _ _ nmp h7
    walk_at "ws"
    refine k_meth h8 rfl ?_
    walk_at "ws"
    refine ⟨p, dx, _, Fa, pl, fw, cs, R, ws, B, rfl, ⟨h8, rfl, rfl, hpl8⟩, rfl, rfl, hfw8, hF8, hB, hBs, fun fl H9 m9 h9 hfnd hfull hall => ?_⟩
    walk_at "ws"
    have h9p : H9 p = _ := m9 _ _ (Ne.symm nfp) h8
    have hpl9 : H9 pl = _ := m9 _ _ (fun e => by rw [e, hfw8] at hpl8; cases hpl8) hpl8
    have hma9 : H9 ma = _ := m9 _ _ (fun e => by rw [e, hfw8] at hma8; cases hma8) hma8
    have hF9 : FAt K H9 Fa cs R ws := hF8.moK hfw8 m9
    walk_at "ws"
    refine k_meth h9p rfl ?_
    walk_at "ws"
    refine ⟨p, dx, _, Fa, pl, ma, cs, R, ws, B, ms, rfl, ⟨h9p, rfl, rfl, hpl9⟩, rfl, hma9, hlen, hms, hF9, hB, fun co cl H10 e10 h10 hcl hcore => ?_⟩
    have h10p : H10 p = _ := e10 _ _ h9p
    walk_at "ws"
    walk_at "sf"
    intro H11 m11 h11
    change H11 p = some (.ins (aL K) dx (LF (wO cs B) Fa pl fw ma co)) at h11
    have ncp : co ≠ p := fun e => by rw [e, h10p] at h10; cases h10
    walk_at "ws"
    have fw0 : H fw = none := by
      cases q : H fw with
      | none => rfl
      | some o => rw [m4 _ _ nfp (e3 _ _ (m2 _ _ nfp (m1 _ _ nfp q)))] at n5; cases n5
    refine k H11 (fun a o na h => m11 _ _ na (e10 _ _ (m9 _ _ (ne_of_none h fw0) (m8 _ _ na (e7 _ _ (m6 _ _ na (e5 _ _ (m4 _ _ na (e3 _ _ (m2 _ _ na (m1 _ _ na h)))))))))))
      ⟨dx, pl, fw, ma, co, ms, fl, cl, h11, (hF9.ex e10).moI h10p npF m11, ⟨hB, hms, hlen, hfnd, hfull, hall, hcore, hcl⟩, m11 _ _ nfp (e10 _ _ h9), m11 _ _ nmp (e10 _ _ hma9), m11 _ _ ncp h10⟩ fun dx' pl' fw' ma' co' h => ?_
    rw [h11] at h
    injection h with h
    injection h with _ _ h
    rw [← LF_inj h]
    exact fw0
end

/-! ## lot_of -/
section
variable {P : Program} {w : World} {K : PySem.W.Frag} {mg : Str → Option Value} {base : Heap}
abbrev N_lot_of : List Str := ["machine", "lot"]
theorem sc_lot_of : FnScope N_lot_of ["machine", "lot"] (defScope s_lot_of) := ⟨rfl, rfl, rfl, by decide +kernel, rfl, by decide +kernel, by decide +kernel⟩
theorem ok_lot_of {f : Addr} {fd : FuncData} (F : FnP K "lot_of" s_lot_of f fd) (T : Txt K mg) (k_field_of : Kn P w K mg base CX0 8 "field_of" ["machine"] (sp_field_of K)) (k_Lot_init : Kc P w K mg base CX0 4 (aL K) "Lot" ["self", "field", "lot"] (sp_Lot_init K)) : FnOk P w K mg base CX0 9 f fd ["machine", "lot"] (sp_lot_of K) := by
  refine F.ok sc_lot_of (fun vs H Q E h => ?_) (fun cdv A outer s H vs Q E hr h => ?_)
  · obtain ⟨m, L, Fa, cs, Tb, R, ws, A, A', lo, mo, B, lots, rfl, _⟩ := h
    rfl
  · obtain ⟨m, L, Fa, cs, Tb, R, ws, Ac, A', lo, mo, B, lots, rfl, hK, hlo, hll, hnone, hB, hBs, k⟩ := h
    obtain ⟨C0, dx0, tb0, ac0, hm0, hC0, hT0, hA0⟩ := hK.m_
    refine ⟨_, PSs.nox (pss_cons (ps_if (pt_cmp (pc_dnotin (hu_of hr) (pv 1) (pe_fldK (K := K) (pv 0))) rfl)
    (pss_one (ps_dput (hu_of hr) (pe_fldK (K := K) (pv 0)) (pv 1) (pe_mk k_Lot_init (hr.mono (by decide)) rfl (pa_cons (pe_kn k_field_of (hr.mono (by decide)) rfl (pa_cons (pv 0) pa_nil)) (pa_cons (pv 1) pa_nil))) rfl))
    pss_nil)
    (pss_one (ps_ret (pe_dget (hu_of hr) (pe_fldK (K := K) (pv 0)) (pv 1) (fun _ _ => rfl))))), ?_⟩
    walk_at "ws"
    refine k_di2S hlo ?_
    rw [hnone]
    walk_at "ws"
    refine k_if (fun _ => ?_) fun z => by cases z
    walk_at "ws"
    refine ⟨m, cs, Tb, Ac, _, _, lo, mo, fun R' => R' = R, rfl, hK.md, hK.m_, .inr ⟨L, R, A', rfl, hK.l_, rfl⟩, .inr ⟨Fa, L, R, A', ws, rfl, rfl, hK.l_, hK.f_, rfl⟩, fun R' e => e ▸ hK.f_.1.few, fun F2 L2 R2 A2 ws2 H1 eR m1 hm1 _ hF1 _ hex => ?_⟩
    subst eR
    have e1 : Ex H H1 := hex (fun z => by cases z)
    obtain ⟨C1, dx1, tb1, ac1, hmi, _⟩ := hm1
    rw [e1 _ _ hm0] at hmi
    injection hmi with hmi
    injection hmi with _ _ e3
    obtain ⟨_, _, eL, eF, _, _⟩ := MF_inj e3
    cases eL
    cases eF
    walk_at "ws"
    refine k_make fun l dxl H2 n2 nd2 nn2 e2 h2 h2d => ?_
    refine ⟨l, dxl, Fa, cs, R2, ws, B, rfl, h2, (hK.f_.ex e1).ex e2, hB, hBs, fun H3 m3 hL3 hfr => ⟨rfl, ?_⟩⟩
    have e12 : Ex H H2 := e1.tr e2
    have hl0 : H l = none := e1.back n2
    have e13 : Ex H H3 := m3.ex e12 hl0
    have hm3 : H3 m = _ := e13 _ _ hm0
    have hlo3 : H3 lo = _ := e13 _ _ hlo
    walk_at "ws"
    refine k_dp3S hlo3 (by rw [sizeLine_eq]; omega) fun H4 m4 h4 => ?_
    rw [putK_new (valV_none hnone)] at h4
    have hm4 : H4 m = _ := m4 _ _ (fun e => by rw [e, hlo3] at hm3; cases hm3) hm3
    walk_at "ws"
    have hv : valV (lots ++ [(Sum.inr (wO cs B), V.ref l)]) (Sum.inr (wO cs B)) = some (V.ref l) := valV_last hnone
    refine k_dg2S h4 hv ?_
    walk_at "ws"
    refine k l H4 (e13.mo.tr m4) h4 (hL3.moK hlo3 m4 fun dx pl fw ma co h => ?_)
    exact Ne.symm (ne_of_none ((e1.tr e2) _ _ hlo) (hfr dx pl fw ma co h))
end

/-! ## both_marks -/
section
variable {P : Program} {w : World} {K : PySem.W.Frag} {mg : Str → Option Value} {base : Heap}
abbrev N_both_marks : List Str := ["field", "at", "one", "other", "here", "more"]
theorem sc_both_marks : FnScope N_both_marks ["field", "at", "one", "other"] (defScope s_both_marks) := ⟨rfl, rfl, rfl, by decide +kernel, rfl, by decide +kernel, by decide +kernel⟩
theorem ok_both_marks {f : Addr} {fd : FuncData} (F : FnP K "both_marks" s_both_marks f fd) (T : Txt K mg) (k_Field_times : Km P w K mg base CX0 2 (aF K) "times" ["self", "one", "other"] (sp_times K)) : FnOk P w K mg base CX0 3 f fd ["field", "at", "one", "other"] (sp_both_marks K) := by
  refine F.ok sc_both_marks (fun vs H Q E h => ?_) (fun cdv A outer s H vs Q E hr h => ?_)
  · obtain ⟨Fa, cs, R, ws, w, u, v, rfl, _⟩ := h
    rfl
  · obtain ⟨Fa, cs, R, ws, w, u, v, rfl, hF, hw, hu, hv, k⟩ := h
    have hF0 := hF
    obtain ⟨B, wo, de, nu, bl, rs, ⟨dx, ds, hFa, _⟩, _⟩ := hF
    refine ⟨_, PSs.nox (pss_cons (ps_set (i := 4) sc_both_marks.nd rfl (Or.inl rfl) (pv 1))
    (pss_cons (ps_for PassesOwn.never rfl (pi_seqK (K := K) (pe_tup (pa_cons (pv 2) (pa_cons (pv 2) (pa_cons (pv 3) (pa_cons (pv 3) (pa_cons (pv 1) pa_nil))))))) (pg_name (i := 5) sc_both_marks.nd rfl (by first | exact Or.inl rfl | exact Or.inr rfl))
    (pss_one (ps_set (i := 4) sc_both_marks.nd rfl (Or.inl rfl) (pe_km k_Field_times (hr.mono (by decide)) (pv 0) (pa_cons (pv 4) (pa_cons (pv 5) pa_nil))))))
    (pss_one (ps_ret (pv 4))))), ?_⟩
    walk_at "ws"
    refine k_tup (by walk_at "sz") fun tp H1 n1 e1 h1 => ?_
    refine k_iS (b := false) (SqT.of h1) ?_
    refine k_forS (fun i σ H' => ∃ z, Ex H1 H' ∧ σ = [some (.ref Fa), some (iv (QM.idx R ws w)), some (iv (QM.idx R ws u)), some (iv (QM.idx R ws v)), some (iv (QM.idx R ws (w ++ (([u, u, v, v, w] : List (List Nat)).take i).flatten))), z])
      ⟨_, Ex.rfl', by simp only [List.take_zero, List.flatten_nil, List.append_nil]; rfl⟩ (fun _ _ _ ⟨_, r, _⟩ => SqT.of (r _ _ h1)) ?_ ?_
    · rintro i x σ H2 hx ⟨z, e2, rfl⟩
      have hi : i < 5 := by have := (List.getElem?_eq_some_iff.mp hx).1; simpa using this
      have hok : ∀ y ∈ ([u, u, v, v, w] : List (List Nat)), QM.Ok cs.length y := fun y hy => by
        simp at hy
        rcases hy with rfl | rfl | rfl <;> assumption
      obtain ⟨y, hy⟩ : ∃ y, ([u, u, v, v, w] : List (List Nat))[i]? = some y := ⟨_, List.getElem?_eq_getElem (by simpa using hi)⟩
      have hxy : x = iv (QM.idx R ws y) := by
        match i, hi with
        | 0, _ => cases hx; cases hy; rfl
        | 1, _ => cases hx; cases hy; rfl
        | 2, _ => cases hx; cases hy; rfl
        | 3, _ => cases hx; cases hy; rfl
        | 4, _ => cases hx; cases hy; rfl
      subst hxy
      have hyo : QM.Ok cs.length y := hok y (List.mem_of_getElem? hy)
      have hpo : QM.Ok cs.length (w ++ (([u, u, v, v, w] : List (List Nat)).take i).flatten) := hw.app fun a ha => by
        obtain ⟨l, hl, hal⟩ := List.mem_flatten.mp ha
        exact hok l (List.mem_of_mem_take hl) a hal
      walk_at "ws"
      refine k_meth (e2 _ _ (e1 _ _ hFa)) rfl ?_
      walk_at "ws"
      refine ⟨Fa, cs, R, ws, _, y, rfl, hF0.ex (e1.tr e2), hpo, hyo, fun H3 e3 => ?_⟩
      walk_at "ws"
      refine ⟨some (iv (QM.idx R ws y)), e2.tr e3, ?_⟩
      rw [List.take_add_one, hy, List.append_assoc]
      simp only [Option.toList, List.flatten_append, List.flatten_cons, List.flatten_nil, List.append_nil]
      rfl
    · rintro σ H2 ⟨z, e2, rfl⟩
      walk_at "ws"
      have := k H2 (e1.tr e2)
      simpa using this
end

/-! ## steady_core -/
section
variable {P : Program} {w : World} {K : PySem.W.Frag} {mg : Str → Option Value} {base : Heap}
abbrev N_steady_core : List Str := ["lot", "at"]
theorem sc_steady_core : FnScope N_steady_core ["lot"] (defScope s_steady_core) := ⟨rfl, rfl, rfl, by decide +kernel, rfl, by decide +kernel, by decide +kernel⟩
theorem ok_steady_core {f : Addr} {fd : FuncData} (F : FnP K "steady_core" s_steady_core f fd) (T : Txt K mg) (k_Field_is_steady : Km P w K mg base CX0 3 (aF K) "is_steady" ["self", "at"] (sp_is_steady K)) : FnOk P w K mg base CX0 4 f fd ["lot"] (sp_steady_core K) := by
  refine F.ok sc_steady_core (fun vs H Q E h => ?_) (fun cdv A outer s H vs Q E hr h => ?_)
  · obtain ⟨l, Fa, cs, R, ws, B, rfl, _⟩ := h
    rfl
  · obtain ⟨l, Fa, cs, R, ws, B, rfl, ⟨dx, pl, fw, ma, co, ms, fl, cl, hl, hF, hO, hfw, hma, hco⟩, k⟩ := h
    have hF0 := hF
    obtain ⟨FBd, wo, de, nu, bl, rs, ⟨dxf, ds, hFa, _⟩, _⟩ := hF
    obtain ⟨wd, hwd⟩ : ∃ wd : Nat → List Nat, ∀ i ∈ cl, QA.On B (wd i) ∧ QM.idx R ws (wd i) = i ∧ QA.Core (QM.act R cs.length) B (QM.act R cs.length (wd i)) :=
      ⟨fun i => if h : i ∈ cl then Classical.choose ((hO.core i).mp h) else [], fun i hi => by
        simp only [dif_pos hi]
        exact Classical.choose_spec ((hO.core i).mp hi)⟩
    refine ⟨_, PSs.nox (pss_one (ps_ret (pe_lc (own := [("at", 1)]) rfl sc_steady_core.nd (pi_seqK (K := K) (pe_fldK (K := K) (pv 0))) (blkOk_by (own := [("at", 1)]) (N := N_steady_core) (sc := defScope s_steady_core) (by decide +kernel)) (fun _ _ _ _ _ => (pg_name (i := 1) sc_steady_core.nd rfl (by first | exact Or.inl rfl | exact Or.inr rfl))) (fun _ _ _ _ _ => pts_one (pt_val (pe_km k_Field_is_steady (hr.mono (by decide)) (pe_fldK (K := K) (pv 0)) (pa_cons (pv 1) pa_nil)))) (fun _ _ _ _ _ => (pv 1))))), ?_⟩
    walk_at "ws"
    refine k_iS (b := true) (SqL.of hco) ?_
    refine k_lcF walk_seq (by rw [List.length_map]; have := hO.clen; omega) (fun j => decide (QM.idx R ws (wd (cl.getD j 0) ++ wd (cl.getD j 0)) = QM.idx R ws (wd (cl.getD j 0)))) (fun j => iv (cl.getD j 0)) (fun H' e => SqL.of (e _ _ hco)) (fun j x H1 H2 Qb Qc hj hY e1 kq kb' => ?_) fun al H1 n1 e1 h1 => ?_
    · obtain ⟨rfl, hx⟩ := hY
      obtain ⟨i, hi, rfl⟩ := at_map hx
      have hij : cl.getD j 0 = i := by rw [List.getD_eq_getElem?_getD, hi]; rfl
      obtain ⟨w1, w2, w3⟩ := hwd i (List.mem_of_getElem? hi)
      have hl1 := e1 _ _ hl
      walk_at "ws"
      refine k_meth (e1 _ _ hFa) rfl ?_
      walk_at "ws"
      refine ⟨Fa, cs, R, ws, wd i, by rw [w2], hF0.ex e1, QM.on_ok hO.sub w1, fun H3 e3 => ?_⟩
      walk_at "ws"
      by_cases hs : QM.idx R ws (wd i ++ wd i) = QM.idx R ws (wd i)
      · rw [if_pos (decide_eq_true hs)]
        walk_at "ws"
        have := kq H3 (by rw [hij]; exact decide_eq_true hs) e3
        rw [hij] at this
        exact this
      · rw [if_neg (by rw [decide_eq_false hs]; decide)]
        exact kb' H3 (by rw [hij]; exact decide_eq_false hs) e3
    · have hk : kept (fun j => decide (QM.idx R ws (wd (cl.getD j 0) ++ wd (cl.getD j 0)) = QM.idx R ws (wd (cl.getD j 0)))) (fun j => iv (cl.getD j 0)) (cl.map iv).length = (cl.filter fun i => decide (QM.idx R ws (wd i ++ wd i) = QM.idx R ws (wd i))).map iv := by
        unfold kept
        rw [List.length_map]
        exact filt_places cl (fun i => decide (QM.idx R ws (wd i ++ wd i) = QM.idx R ws (wd i))) iv
      rw [hk] at h1
      refine k al _ H1 e1 h1 (Nat.le_trans (List.length_filter_le _ _) hO.clen) fun i => ?_
      rw [List.mem_filter]
      constructor
      · rintro ⟨h2, h3⟩
        obtain ⟨w1, w2, w3⟩ := hwd i h2
        refine ⟨wd i, w1, w2, w3, ?_⟩
        have := (FBd.f.act FBd.t (QM.on_ok hO.sub (w1.app w1)) (QM.on_ok hO.sub w1)).mp (of_decide_eq_true h3)
        rw [QM.act_app FBd.t] at this
        exact this
      · rintro ⟨w, h2, h3, h4, h5⟩
        have hi : i ∈ cl := (hO.core i).mpr ⟨w, h2, h3, h4⟩
        obtain ⟨w1, w2, w3⟩ := hwd i hi
        refine ⟨hi, decide_eq_true ?_⟩
        have e := (FBd.f.act FBd.t (QM.on_ok hO.sub w1) (QM.on_ok hO.sub h2)).mp (w2.trans h3.symm)
        refine (FBd.f.act FBd.t (QM.on_ok hO.sub (w1.app w1)) (QM.on_ok hO.sub w1)).mpr ?_
        rw [QM.act_app FBd.t, e]
        exact h5
end

/-! ## back_of -/
section
variable {P : Program} {w : World} {K : PySem.W.Frag} {mg : Str → Option Value} {base : Heap}
abbrev N_back_of : List Str := ["field", "at", "still", "here"]
theorem sc_back_of : FnScope N_back_of ["field", "at", "still"] (defScope s_back_of) := ⟨rfl, rfl, rfl, by decide +kernel, rfl, by decide +kernel, by decide +kernel⟩
theorem ok_back_of {f : Addr} {fd : FuncData} (F : FnP K "back_of" s_back_of f fd) (T : Txt K mg) (k_Field_times : Km P w K mg base CX0 2 (aF K) "times" ["self", "one", "other"] (sp_times K)) : FnOk P w K mg base CX0 3 f fd ["field", "at", "still"] (sp_back_of K) := by
  refine F.ok sc_back_of (fun vs H Q E h => ?_) (fun cdv A outer s H vs Q E hr h => ?_)
  · obtain ⟨Fa, cs, R, ws, w, x, N, rfl, _⟩ := h
    rfl
  · obtain ⟨Fa, cs, R, ws, w, x, N, rfl, hF, hw, hx, hN, hNe, k⟩ := h
    have hF0 := hF
    obtain ⟨B, wo, de, nu, bl, rs, ⟨dx, ds, hFa, _⟩, _⟩ := hF
    have ok := QM.rep_ok hx
    have snoc : ∀ j, QA.rep x j ++ x = QA.rep x (j + 1) := fun j => by rw [QA.rep_add x j 1, show QA.rep x 1 = x from List.append_nil x]
    refine ⟨_, PSs.nox (pss_cons (ps_set (i := 3) sc_back_of.nd rfl (Or.inl rfl) (pv 1))
    (pss_cons (ps_while PassesOwn.never (pt_cmpR op_ne (pe_km k_Field_times (hr.mono (by decide)) (pv 0) (pa_cons (pv 3) (pa_cons (pv 1) pa_nil))) (pv 2) (nomark _))
    (pss_one (ps_set (i := 3) sc_back_of.nd rfl (Or.inl rfl) (pe_km k_Field_times (hr.mono (by decide)) (pv 0) (pa_cons (pv 3) (pa_cons (pv 1) pa_nil))))))
    (pss_one (ps_ret (pv 3))))), ?_⟩
    walk_at "ws"
    refine w_while (fun mm σ H' => ∃ j, mm = N - j ∧ 1 ≤ j ∧ j < N ∧ Ex H H' ∧ σ = [some (.ref Fa), some (iv (QM.idx R ws x)), some (iv (QM.idx R ws w)), some (iv (QM.idx R ws (QA.rep x j)))]) (N - 1) ⟨1, rfl, Nat.le_refl _, hN, Ex.rfl', by
      show _ = [_, _, _, some (iv (QM.idx R ws (x ++ [])))]
      rw [List.append_nil]
      rfl⟩ ?_
    rintro mm σ H1 ⟨j, rfl, hj1, hjN, e1, rfl⟩
    walk_at "ws"
    refine k_meth (e1 _ _ hFa) rfl ?_
    walk_at "ws"
    refine ⟨Fa, cs, R, ws, QA.rep x j, x, rfl, hF0.ex e1, ok j, hx, fun H2 e2 => ?_⟩
    rw [snoc]
    walk_at "ws"
    refine k_wh (fun hb => ?_) (fun hb => ?_)
    · have hne : j + 1 ≠ N := fun e => by
        rw [e, hNe] at hb
        simp at hb
      walk_at "ws"
      refine k_meth ((e1.tr e2) _ _ hFa) rfl ?_
      walk_at "ws"
      refine ⟨Fa, cs, R, ws, QA.rep x j, x, rfl, hF0.ex (e1.tr e2), ok j, hx, fun H3 e3 => ?_⟩
      rw [snoc]
      walk_at "ws"
      exact ⟨N - (j + 1), by omega, j + 1, rfl, by omega, by omega, (e1.tr e2).tr e3, rfl⟩
    · walk_at "ws"
      exact k j _ hj1 (e1.tr e2)
end

/-! ## group_of -/
section
variable {P : Program} {w : World} {K : PySem.W.Frag} {mg : Str → Option Value} {base : Heap}
abbrev N_group_of : List Str := ["lot", "at", "field", "found", "one"]
theorem sc_group_of : FnScope N_group_of ["lot", "at"] (defScope s_group_of) := ⟨rfl, rfl, rfl, by decide +kernel, rfl, by decide +kernel, by decide +kernel⟩
theorem ok_group_of {f : Addr} {fd : FuncData} (F : FnP K "group_of" s_group_of f fd) (T : Txt K mg) (k_Field_times : Km P w K mg base CX0 2 (aF K) "times" ["self", "one", "other"] (sp_times K)) : FnOk P w K mg base CX0 3 f fd ["lot", "at"] (sp_group_of K) := by
  refine F.ok sc_group_of (fun vs H Q E h => ?_) (fun cdv A outer s H vs Q E hr h => ?_)
  · obtain ⟨l, Fa, cs, R, ws, B, w, rfl, _⟩ := h
    rfl
  · obtain ⟨l, Fa, cs, R, ws, B, w, rfl, ⟨dx, pl, fw, ma, co, ms, fl, cl, hl, hF, hO, hfw, hma, hco⟩, hw, k⟩ := h
    have hF0 := hF
    obtain ⟨FBd, wo, de, nu, bl, rs, ⟨dxf, ds, hFa, _⟩, _⟩ := hF
    have hwo := QM.on_ok hO.sub hw
    refine ⟨_, PSs.nox (pss_cons (ps_set (i := 2) sc_group_of.nd rfl (Or.inl rfl) (pe_fldK (K := K) (pv 0)))
    (pss_cons (ps_set (i := 3) sc_group_of.nd rfl (Or.inl rfl) pe_dnewK)
    (pss_cons (ps_for PassesOwn.never rfl (pi_seqK (K := K) (pe_fldK (K := K) (pv 0))) (pg_name (i := 4) sc_group_of.nd rfl (by first | exact Or.inl rfl | exact Or.inr rfl))
    (pss_one (ps_dput (hu_of hr) (pv 3) (pe_km k_Field_times (hr.mono (by decide)) (pv 2) (pa_cons (pe_km k_Field_times (hr.mono (by decide)) (pv 2) (pa_cons (pv 1) (pa_cons (pv 4) pa_nil))) (pa_cons (pv 1) pa_nil))) pe_bl rfl)))
    (pss_one (ps_ret (pe_callB (call_sortedDI rfl) (by rfl) T.sorted (by decide +kernel) (pa_cons (pv 3) pa_nil))))))), ?_⟩
    walk_at "ws"
    refine w_dnewK fun fo H1 n1 e1 h1 => ?_
    walk_at "ws"
    refine k_iS (b := true) (SqL.of (e1 _ _ hma)) ?_
    refine k_forS (fun i σ H' => ∃ (gs : List Nat) (z : Option V), Ex H H' ∧ H' fo = some (.dK (gs.map fun q => (ik q, V.bl true))) ∧ gs.Nodup ∧ (∀ g ∈ gs, ∃ x, QA.On B x ∧ QM.idx R ws (w ++ x ++ w) = g) ∧
        (∀ (j : Nat) (x : List Nat), j < i → QA.On B x → ms[j]? = some (QM.idx R ws x) → QM.idx R ws (w ++ x ++ w) ∈ gs) ∧ σ = [some (.ref l), some (iv (QM.idx R ws w)), some (.ref Fa), some (.ref fo), z])
      ⟨[], _, e1, h1, List.nodup_nil, (by simp), fun j x hj => absurd hj (Nat.not_lt_zero _), rfl⟩ (fun _ _ _ ⟨_, _, r, _⟩ => SqL.of (r _ _ hma)) ?_ ?_
    · rintro i y σ H2 hy ⟨gs, z, e2, h2, hnd, hg1, hg2, rfl⟩
      obtain ⟨i', hi', rfl⟩ := at_map hy
      obtain ⟨x, hx1, hx2⟩ := (hO.made i').mp (List.mem_of_getElem? hi')
      have hxo := QM.on_ok hO.sub hx1
      walk_at "ws"
      refine k_meth (e2 _ _ hFa) rfl ?_
      walk_at "ws"
      refine k_meth (e2 _ _ hFa) rfl ?_
      walk_at "ws"
      refine ⟨Fa, cs, R, ws, w, x, by rw [hx2], hF0.ex e2, hwo, hxo, fun H3 e3 => ?_⟩
      walk_at "ws"
      refine ⟨Fa, cs, R, ws, w ++ x, w, rfl, hF0.ex (e2.tr e3), hwo.app hxo, hwo, fun H4 e4 => ?_⟩
      have hglen : gs.length ≤ 10 := by
        have := QM.nodup_le hnd (m := List.range ws.length) fun x hx => List.mem_range.mpr (by
          obtain ⟨u, h1, rfl⟩ := hg1 x hx
          exact FBd.f.lt FBd.t (QM.on_ok hO.sub ((hw.app h1).app hw)))
        have := FBd.ten
        simp at *
        omega
      refine k_dp3K (e4 _ _ (e3 _ _ h2)) (by rw [sizeLine_eq, List.length_map]; omega) fun H5 m5 h5 => ?_
      rw [show putK (gs.map fun q => (ik q, V.bl true)) (Sum.inl (QM.idx R ws (w ++ x ++ w) : Int)) (.bl true) = _ from putK_bl] at h5
      walk_at "ws"
      have hin : ∀ g, g ∈ (if QM.idx R ws (w ++ x ++ w) ∈ gs then gs else gs ++ [QM.idx R ws (w ++ x ++ w)]) ↔ g ∈ gs ∨ g = QM.idx R ws (w ++ x ++ w) := fun g => by
        split
        · rename_i h
          exact ⟨Or.inl, fun h' => h'.elim id fun e => e ▸ h⟩
        · simp
      refine ⟨_, _, m5.ex ((e2.tr e3).tr e4) n1, h5, ?_, fun g hg => ?_, fun j2 x2 hj2 hx2' hm2 => ?_, rfl⟩
      · split
        · exact hnd
        · rename_i h
          rw [List.nodup_append]
          exact ⟨hnd, by simp, fun x hx y hy => by rw [List.mem_singleton.mp hy]; exact fun e => h (e ▸ hx)⟩
      · rcases (hin g).mp hg with h | h
        · exact hg1 g h
        · exact ⟨x, hx1, h.symm⟩
      · rcases Nat.lt_succ_iff_lt_or_eq.mp hj2 with hj2 | rfl
        · exact (hin _).mpr (.inl (hg2 j2 x2 hj2 hx2' hm2))
        · rw [hi'] at hm2
          have e : QM.idx R ws x2 = QM.idx R ws x := by rw [hx2]; exact (Option.some.inj hm2).symm
          have hx2o := QM.on_ok hO.sub hx2'
          refine (hin _).mpr (.inr ?_)
          exact FBd.f.app FBd.t (hwo.app hx2o) (hwo.app hxo) hwo hwo (FBd.f.app FBd.t hwo hwo hx2o hxo rfl e) rfl
    · rintro σ H2 ⟨gs, z, e2, h2, hnd, hg1, hg2, rfl⟩
      have hglen : gs.length ≤ 10 := by
        have := QM.nodup_le hnd (m := List.range ws.length) fun x hx => List.mem_range.mpr (by
          obtain ⟨u, h1, rfl⟩ := hg1 x hx
          exact FBd.f.lt FBd.t (QM.on_ok hO.sub ((hw.app h1).app hw)))
        have := FBd.ten
        simp at *
        omega
      walk_at "ws"
      refine r_sortDN h2 (ns := gs) (by rw [List.map_map]; rfl) (by omega) fun ms' p H4 hp hs n4 e4 h4 => ?_
      refine k p ms' H4 (e2.tr e4) h4 (by rw [hp.length_eq]; exact hglen) fun i => ?_
      rw [hp.mem_iff]
      refine ⟨hg1 i, fun ⟨x, hx, e⟩ => ?_⟩
      obtain ⟨j, hj, ej⟩ := List.mem_iff_getElem.mp ((hO.made _).mpr ⟨x, hx, rfl⟩)
      rw [← e]
      exact hg2 j x (by rw [List.length_map]; exact hj) hx (by rw [List.getElem?_eq_getElem hj, ej])
end

/-! ## falling_block -/
section
variable {P : Program} {w : World} {K : PySem.W.Frag} {mg : Str → Option Value} {base : Heap}
abbrev N_falling_block : List Str := ["lot", "field", "at", "word", "place", "one", "other"]
theorem sc_falling_block : FnScope N_falling_block ["lot"] (defScope s_falling_block) := ⟨rfl, rfl, rfl, by decide +kernel, rfl, by decide +kernel, by decide +kernel⟩
theorem ok_falling_block {f : Addr} {fd : FuncData} (F : FnP K "falling_block" s_falling_block f fd) (T : Txt K mg) (k_Field_is_steady : Km P w K mg base CX0 3 (aF K) "is_steady" ["self", "at"] (sp_is_steady K)) (k_Field_times : Km P w K mg base CX0 2 (aF K) "times" ["self", "one", "other"] (sp_times K))
    (k_Field_index_of : Km P w K mg base CX0 1 (aF K) "index_of" ["self", "word"] (sp_index_of K)) (k_both_marks : Kn P w K mg base CX0 3 "both_marks" ["field", "at", "one", "other"] (sp_both_marks K)) : FnOk P w K mg base CX0 4 f fd ["lot"] (sp_falling_block K) := by
  refine F.ok sc_falling_block (fun vs H Q E h => ?_) (fun cdv A outer s H vs Q E hr h => ?_)
  · obtain ⟨l, Fa, cs, R, ws, B, rfl, _⟩ := h
    rfl
  · obtain ⟨l, Fa, cs, R, ws, B, rfl, ⟨dx, pl, fw, ma, co, ms, fl, cl, hl, hF, hO, hfw, hma, hco⟩, k1, k2⟩ := h
    have hF0 := hF
    obtain ⟨FBd, wo, de, nu, bl, rs, ⟨dxf, ds, hFa, _⟩, _⟩ := hF
    have Fi := QM.act_fin FBd.f FBd.t
    have hfl : fl.length ≤ 10 := by
      have := QM.nodup_le hO.fnd (m := List.range ws.length) fun x hx => by
        obtain ⟨p', hp', rfl⟩ := List.mem_map.mp hx
        rw [← (hO.full p' hp').2.1]
        exact List.mem_range.mpr (FBd.f.lt FBd.t (QM.on_ok hO.sub (hO.full p' hp').1.1))
      have := FBd.ten
      simp at *
      omega
    refine ⟨_, PSs.nox (pss_cons (ps_set (i := 1) sc_falling_block.nd rfl (Or.inl rfl) (pe_fldK (K := K) (pv 0)))
    (pss_cons (ps_for PassesOwn.never rfl (pi_seqK (K := K) (pe_callB (cr_sortedItK rfl hr.units) (by rfl) T.sorted (by decide +kernel) (pa_cons (pe_bm0K' (K := K) PySem.F.plainAttrs_dict PySem.F.slot_dict_items PySem.F.type_dict_items mt_itK (pe_fldK (K := K) (pv 0))) pa_nil))) (pg_tupK (K := K) rfl (pgs_cons (pg_name (i := 2) sc_falling_block.nd rfl (by first | exact Or.inl rfl | exact Or.inr rfl)) (pgs_cons (pg_name (i := 3) sc_falling_block.nd rfl (by first | exact Or.inl rfl | exact Or.inr rfl)) pgs_nil)))
    (pss_one (ps_if (PW.pt (pw_and (pt_val (pe_km k_Field_is_steady (hr.mono (by decide)) (pv 1) (pa_cons (pv 2) pa_nil))) (pw_and1 (pt_cmpR (opNotIn (K := K)) (pv 2) (pe_fldK (K := K) (pv 0)) rfl))))
    (pss_one (ps_for PassesOwn.never rfl (pi_range1 rfl T.range (pa_cons (pe_callB call_lenT (by rfl) T.len PySem.boot_len (pa_cons (pv 3) pa_nil)) pa_nil)) (pg_name (i := 4) sc_falling_block.nd rfl (by first | exact Or.inl rfl | exact Or.inr rfl))
    (pss_cons (ps_set (i := 5) sc_falling_block.nd rfl (Or.inl rfl) (pe_km k_Field_times (hr.mono (by decide)) (pv 1) (pa_cons (pv 2) (pa_cons (pe_km k_Field_index_of (hr.mono (by decide)) (pv 1) (pa_cons (pe_slice sl_str (pv 3) po_none (po_some (pv 4))) pa_nil)) pa_nil))))
    (pss_cons (ps_set (i := 6) sc_falling_block.nd rfl (Or.inl rfl) (pe_km k_Field_times (hr.mono (by decide)) (pv 1) (pa_cons (pe_km k_Field_index_of (hr.mono (by decide)) (pv 1) (pa_cons (pe_slice sl_str (pv 3) (po_some (pv 4)) po_none) pa_nil)) (pa_cons (pv 2) pa_nil))))
    (pss_one (ps_if (pt_cmpR op_ne (pe_kn k_both_marks (hr.mono (by decide)) rfl (pa_cons (pv 1) (pa_cons (pv 2) (pa_cons (pv 5) (pa_cons (pv 6) pa_nil))))) (pv 2) (nomark _))
    (pss_one (ps_ret (pe_tup (pa_cons (pv 3) (pa_cons (pe_op op_addT (pv 3) (pe_slice sl_str (pv 3) po_none (po_some (pv 4)))) (pa_cons (pe_op op_addT (pv 3) (pe_slice sl_str (pv 3) po_none (po_some (pv 4)))) (pa_cons (pe_op op_addT (pe_slice sl_str (pv 3) (po_some (pv 4)) po_none) (pv 3)) (pa_cons (pe_op op_addT (pe_slice sl_str (pv 3) (po_some (pv 4)) po_none) (pv 3)) pa_nil))))))))
    pss_nil))))))
    pss_nil)))
    (pss_one (ps_ret pe_non)))), ?_⟩
    walk_at "ws"
    refine k_bm0D hfw ?_
    refine r_itK hfw fun vw H1 n1 e1 h1 => ?_
    walk_at "ws"
    refine r_sortIt h1 (ks := fl.map fun p => (p.1, wO cs p.2)) (by rw [e1 _ _ hfw]; unfold flK; rw [List.map_map]; rfl) (by rw [List.length_map]; omega) fun H2 sl ps e2 hps h2 hz => ?_
    have e12 : Ex H H2 := e1.tr e2
    have hpsl : ps.length ≤ 10 := by
      have := hps.length_eq
      rw [List.length_map, List.length_map] at this
      omega
    let Good (u : List Nat) : Prop := QA.Idem (QM.act R cs.length u) → ¬ QA.Core (QM.act R cs.length) B (QM.act R cs.length u) → ∀ x y, u = x ++ y → y ≠ [] →
      QM.act R cs.length u * (QM.act R cs.length u * QM.act R cs.length x) * (QM.act R cs.length u * QM.act R cs.length x) * (QM.act R cs.length y * QM.act R cs.length u) * (QM.act R cs.length y * QM.act R cs.length u) * QM.act R cs.length u = QM.act R cs.length u
    have hword : ∀ z ∈ ps, ∃ p ∈ fl, z.2.1 = p.1 ∧ z.2.2 = wO cs p.2 := fun z hzz => by
      have : z.2 ∈ fl.map fun p => (p.1, wO cs p.2) := hps.mem_iff.mp (List.mem_map.mpr ⟨z, hzz, rfl⟩)
      obtain ⟨p, hp, e⟩ := List.mem_map.mp this
      exact ⟨p, hp, by rw [← e], by rw [← e]⟩
    refine k_iS (b := true) (SqL.of h2) ?_
    refine k_forS (fun i σ H' => ∃ (z1 z2 z3 z4 z5 : Option V), Ex H2 H' ∧ (∀ (j : Nat) (z : Addr × Nat × Str) (u : List Nat), j < i → ps[j]? = some z → (z.2.1, u) ∈ fl → Good u) ∧ σ = [some (.ref l), some (.ref Fa), z1, z2, z3, z4, z5])
      ⟨_, _, _, _, _, Ex.rfl', fun j z u hj => absurd hj (Nat.not_lt_zero _), rfl⟩ (fun _ _ _ ⟨_, _, _, _, _, r, _⟩ => SqL.of (r _ _ h2)) ?_ ?_
    · rintro i x σ H3 hx ⟨z1, z2, z3, z4, z5, e3, hgood, rfl⟩
      obtain ⟨z, hzi, rfl⟩ := at_map hx
      have hzm := List.mem_of_getElem? hzi
      obtain ⟨p, hp, q1, q2⟩ := hword z hzm
      obtain ⟨hfull, hpi, hplen⟩ := hO.full p hp
      have hpo := QM.on_ok hO.sub hfull.1
      have hz3 : H3 z.1 = some (.tup [iv (QM.idx R ws p.2), .str (wO cs p.2)]) := by
        rw [e3 _ _ (hz z hzm), q1, q2, hpi]
      have huniq : ∀ u, (z.2.1, u) ∈ fl → u = p.2 := fun u hu => by
        rw [q1] at hu
        have : ∀ {fl : List (Nat × List Nat)}, (fl.map (·.1)).Nodup → p ∈ fl → (p.1, u) ∈ fl → u = p.2 := by
          intro fl
          induction fl with
          | nil => intro _ h; cases h
          | cons a t ih =>
            intro nd h1 h2
            rw [List.map_cons] at nd
            have nd' := List.nodup_cons.mp nd
            rcases List.mem_cons.mp h1 with rfl | h1
            · rcases List.mem_cons.mp h2 with h2 | h2
              · rw [← h2]
              · exact absurd (List.mem_map.mpr ⟨_, h2, rfl⟩) nd'.1
            · rcases List.mem_cons.mp h2 with h2 | h2
              · rw [← h2] at nd'
                exact absurd (List.mem_map.mpr ⟨_, h1, rfl⟩) nd'.1
              · exact ih nd'.2 h1 h2
        exact this hO.fnd hp hu
      have hstep : ∀ (P' : Good p.2) (j : Nat) (z' : Addr × Nat × Str) (u : List Nat), j < i + 1 → ps[j]? = some z' → (z'.2.1, u) ∈ fl → Good u := fun P' j z' u hj hz' hu => by
        rcases Nat.lt_succ_iff_lt_or_eq.mp hj with hj | rfl
        · exact hgood j z' u hj hz' hu
        · rw [hzi] at hz'
          cases hz'
          rw [huniq u hu]
          exact P'
      have e03 : Ex H H3 := e12.tr e3
      have hl3 := e03 _ _ hl
      refine ⟨z.1, _, rfl, SqT.of hz3, rfl, _, _, rfl, _, _, rfl, rfl, ?_⟩
      walk_at "ws"
      refine k_meth (e03 _ _ hFa) rfl ?_
      walk_at "ws"
      refine ⟨Fa, cs, R, ws, p.2, rfl, hF0.ex e03, hpo, fun H4 e4 => ?_⟩
      have hact : QM.idx R ws (p.2 ++ p.2) = QM.idx R ws p.2 ↔ QA.Idem (QM.act R cs.length p.2) := by
        rw [FBd.f.act FBd.t (hpo.app hpo) hpo, QM.act_app FBd.t]
        exact Iff.rfl
      have hl4 := e4 _ _ hl3
      walk_at "ws"
      by_cases hid : QM.idx R ws (p.2 ++ p.2) = QM.idx R ws p.2
      · rw [decide_eq_true hid]
        refine k_and (fun _ => ?_) fun z => by cases z
        walk_at "ws"
        refine r_inN (t := true) (SqL.of (e4 _ _ (e03 _ _ hco))) ?_
        walk_at "ws"
        by_cases hcore : QM.idx R ws p.2 ∈ cl
        · rw [decide_eq_true hcore]
          refine k_if (fun z => by cases z) fun _ => ?_
          walk_at "ws"
          refine ⟨_, _, _, _, _, e3.tr e4, hstep fun _ hn => absurd ?_ hn, rfl⟩
          obtain ⟨w', h1, h2, h3⟩ := (hO.core _).mp hcore
          rw [← (FBd.f.act FBd.t (QM.on_ok hO.sub h1) hpo).mp h2]
          exact h3
        · rw [decide_eq_false hcore]
          refine k_if (fun _ => ?_) fun z => by cases z
          walk_at "ws"
          refine r_lenT (by rw [sizeLine_eq]; simp [Str.length]; omega) ?_
          rw [show (wO cs p.2).length = p.2.length by simp [Str.length]]
          refine k_iR (by omega) ?_
          refine k_forR (fun j σ H' => ∃ (z3 z4 z5 : Option V), Ex H4 H' ∧ (∀ j', j' < j → QM.idx R ws (p.2 ++ (p.2 ++ p.2.take j') ++ (p.2 ++ p.2.take j') ++ (p.2.drop j' ++ p.2) ++ (p.2.drop j' ++ p.2) ++ p.2) = QM.idx R ws p.2) ∧ σ = [some (.ref l), some (.ref Fa), some (iv (QM.idx R ws p.2)), some (.str (wO cs p.2)), z3, z4, z5])
            ⟨_, _, _, Ex.rfl', fun j' hj => absurd hj (Nat.not_lt_zero _), rfl⟩ ?_ ?_
          · rintro j σ H5 hj ⟨z3, z4, z5, e5, hdone, rfl⟩
            have e05 : Ex H H5 := (e03.tr e4).tr e5
            have hto : QM.Ok cs.length (p.2.take j) := fun a ha => hpo a (List.mem_of_mem_take ha)
            have hdo : QM.Ok cs.length (p.2.drop j) := fun a ha => hpo a (List.mem_of_mem_drop ha)
            walk_at "ws"
            refine k_meth (e05 _ _ hFa) rfl ?_
            walk_at "ws"
            refine k_meth (e05 _ _ hFa) rfl ?_
            walk_at "ws"
            refine r_slSto (by simp; omega) (by simp; omega) ?_
            rw [← List.map_take]
            walk_at "ws"
            refine ⟨Fa, cs, R, ws, p.2.take j, rfl, hF0.ex e05, hto, fun H6 e6 => ?_⟩
            walk_at "ws"
            refine ⟨Fa, cs, R, ws, p.2, p.2.take j, rfl, hF0.ex (e05.tr e6), hpo, hto, fun H7 e7 => ?_⟩
            have e07 : Ex H H7 := (e05.tr e6).tr e7
            walk_at "ws"
            refine k_meth (e07 _ _ hFa) rfl ?_
            walk_at "ws"
            refine k_meth (e07 _ _ hFa) rfl ?_
            walk_at "ws"
            refine r_slSfrom (by simp; omega) (by simp; omega) ?_
            rw [← List.map_drop]
            walk_at "ws"
            refine ⟨Fa, cs, R, ws, p.2.drop j, rfl, hF0.ex e07, hdo, fun H8 e8 => ?_⟩
            walk_at "ws"
            refine ⟨Fa, cs, R, ws, p.2.drop j, p.2, rfl, hF0.ex (e07.tr e8), hdo, hpo, fun H9 e9 => ?_⟩
            walk_at "ws"
            have e09 : Ex H H9 := (e07.tr e8).tr e9
            refine ⟨Fa, cs, R, ws, p.2, p.2 ++ p.2.take j, p.2.drop j ++ p.2, rfl, hF0.ex e09, hpo, hpo.app hto, hdo.app hpo, fun H10 e10 => ?_⟩
            walk_at "ws"
            have hbig : QM.Ok cs.length (p.2 ++ (p.2 ++ p.2.take j) ++ (p.2 ++ p.2.take j) ++ (p.2.drop j ++ p.2) ++ (p.2.drop j ++ p.2) ++ p.2) := ((((hpo.app (hpo.app hto)).app (hpo.app hto)).app (hdo.app hpo)).app (hdo.app hpo)).app hpo
            have hform : QM.idx R ws (p.2 ++ (p.2 ++ p.2.take j) ++ (p.2 ++ p.2.take j) ++ (p.2.drop j ++ p.2) ++ (p.2.drop j ++ p.2) ++ p.2) = QM.idx R ws p.2 ↔
                QM.act R cs.length p.2 * (QM.act R cs.length p.2 * QM.act R cs.length (p.2.take j)) * (QM.act R cs.length p.2 * QM.act R cs.length (p.2.take j)) * (QM.act R cs.length (p.2.drop j) * QM.act R cs.length p.2) * (QM.act R cs.length (p.2.drop j) * QM.act R cs.length p.2) * QM.act R cs.length p.2 = QM.act R cs.length p.2 := by
              rw [FBd.f.act FBd.t hbig hpo]
              simp only [QM.act_app FBd.t]
            by_cases heq : QM.idx R ws (p.2 ++ (p.2 ++ p.2.take j) ++ (p.2 ++ p.2.take j) ++ (p.2.drop j ++ p.2) ++ (p.2.drop j ++ p.2) ++ p.2) = QM.idx R ws p.2
            · rw [ne_iv, decide_eq_true heq]
              refine k_if (fun z => by cases z) fun _ => ?_
              walk_at "ws"
              refine ⟨_, _, _, (((((e5.tr e6).tr e7).tr e8).tr e9).tr e10), fun j' hj' => ?_, rfl⟩
              rcases Nat.lt_succ_iff_lt_or_eq.mp hj' with hj' | rfl
              · exact hdone j' hj'
              · exact heq
            · rw [ne_iv, decide_eq_false heq]
              refine k_if (fun _ => ?_) fun z => by cases z
              walk_at "ws"
              refine r_slSto (by simp; omega) (by simp; omega) ?_
              rw [← List.map_take]
              walk_at "ws"
              have htl : (p.2.take j).length ≤ 1000 := by rw [List.length_take]; omega
              have hdl : (p.2.drop j).length ≤ 1000 := by rw [List.length_drop]; omega
              refine r_addT (by rw [sizeLine_eq]; simp [Str.length]; omega) ?_
              walk_at "ws"
              refine r_slSto (by simp; omega) (by simp; omega) ?_
              rw [← List.map_take]
              walk_at "ws"
              refine r_addT (by rw [sizeLine_eq]; simp [Str.length]; omega) ?_
              walk_at "ws"
              refine r_slSfrom (by simp; omega) (by simp; omega) ?_
              rw [← List.map_drop]
              walk_at "ws"
              refine r_addT (by rw [sizeLine_eq]; simp [Str.length]; omega) ?_
              walk_at "ws"
              refine r_slSfrom (by simp; omega) (by simp; omega) ?_
              rw [← List.map_drop]
              walk_at "ws"
              refine r_addT (by rw [sizeLine_eq]; simp [Str.length]; omega) ?_
              walk_at "ws"
              refine k_tup (by walk_at "sz") fun tp H11 n11 e11 h11 => ?_
              walk_at "ws"
              refine k2 tp H11 ((e09.tr e10).tr e11) fun D => heq (hform.mpr ?_)
              exact QA.fall_all Fi (fun a ha => List.mem_range.mpr (hO.sub a ha)) D hfull (hact.mp hid) (List.take_append_drop j p.2).symm
          · rintro σ H5 ⟨z3, z4, z5, e5, hdone, rfl⟩
            walk_at "ws"
            refine ⟨_, _, _, _, _, (e3.tr e4).tr e5, hstep fun hI hC x y exy hy => ?_, rfl⟩
            have hj : x.length < p.2.length := by
              rw [exy, List.length_append]
              have : 0 < y.length := List.length_pos_iff.mpr hy
              omega
            have := hdone x.length hj
            have ht : p.2.take x.length = x := by rw [exy]; simp
            have hd : p.2.drop x.length = y := by rw [exy]; simp
            rw [ht, hd] at this
            have hxo : QM.Ok cs.length x := fun a ha => hpo a (by rw [exy]; exact List.mem_append_left _ ha)
            have hyo : QM.Ok cs.length y := fun a ha => hpo a (by rw [exy]; exact List.mem_append_right _ ha)
            rw [FBd.f.act FBd.t (((((hpo.app (hpo.app hxo)).app (hpo.app hxo)).app (hyo.app hpo)).app (hyo.app hpo)).app hpo) hpo] at this
            simp only [QM.act_app FBd.t] at this
            exact this
      · rw [decide_eq_false hid]
        refine k_and (fun z => by cases z) fun _ => ?_
        refine k_if (fun z => by cases z) fun _ => ?_
        walk_at "ws"
        exact ⟨_, _, _, _, _, e3.tr e4, hstep fun hI => absurd (hact.mpr hI) hid, rfl⟩
    · rintro σ H3 ⟨z1, z2, z3, z4, z5, e3, hgood, rfl⟩
      walk_at "ws"
      refine k1 H3 (e12.tr e3) fun u hu hI hC => ?_
      obtain ⟨p, hp, e⟩ := List.mem_map.mp (hO.all u hu)
      obtain ⟨hfull, hpi, hplen⟩ := hO.full p hp
      have hpo := QM.on_ok hO.sub hfull.1
      have huo := QM.on_ok hO.sub hu.1
      have hact : QM.act R cs.length p.2 = QM.act R cs.length u := (FBd.f.act FBd.t hpo huo).mp (by rw [hpi, e])
      have : (p.1, wO cs p.2) ∈ ps.map (·.2) := hps.mem_iff.mpr (List.mem_map.mpr ⟨p, hp, rfl⟩)
      obtain ⟨z, hzm, ez⟩ := List.mem_map.mp this
      obtain ⟨j, hj, ej⟩ := List.mem_iff_getElem.mp hzm
      have hg := hgood j z p.2 (by rw [List.length_map]; exact hj) (by rw [List.getElem?_eq_getElem hj, ej]) (by rw [show z.2.1 = p.1 by rw [ez]]; exact hp)
      refine ⟨p.2, hfull, hact, fun x y exy hy => ?_⟩
      have := hg (by rw [hact]; exact hI) (by rw [hact]; exact hC) x y exy hy
      rw [hact] at this
      exact this
end

/-! ## ends_block -/
section
variable {P : Program} {w : World} {K : PySem.W.Frag} {mg : Str → Option Value} {base : Heap}
abbrev N_ends_block : List Str := ["lot", "field", "one", "other", "left", "right"]
theorem sc_ends_block : FnScope N_ends_block ["lot"] (defScope s_ends_block) := ⟨rfl, rfl, rfl, by decide +kernel, rfl, by decide +kernel, by decide +kernel⟩
theorem ok_ends_block {f : Addr} {fd : FuncData} (F : FnP K "ends_block" s_ends_block f fd) (T : Txt K mg) (k_steady_core : Kn P w K mg base CX0 4 "steady_core" ["lot"] (sp_steady_core K)) (k_Field_is_steady : Km P w K mg base CX0 3 (aF K) "is_steady" ["self", "at"] (sp_is_steady K)) (k_Field_times : Km P w K mg base CX0 2 (aF K) "times" ["self", "one", "other"] (sp_times K))
    (k_Field_steady_of : Km P w K mg base CX0 4 (aF K) "steady_of" ["self", "at"] (sp_steady_of K)) : FnOk P w K mg base CX0 5 f fd ["lot"] (sp_ends_block K) := by
  refine F.ok sc_ends_block (fun vs H Q E h => ?_) (fun cdv A outer s H vs Q E hr h => ?_)
  · obtain ⟨l, Fa, cs, R, ws, B, rfl, _⟩ := h
    rfl
  · obtain ⟨l, Fa, cs, R, ws, B, rfl, hLo, k1, k2⟩ := h
    obtain ⟨dx, pl, fw, ma, co, ms, fl, cl, hl, hF, hO, hfw, hma, hco⟩ := id hLo
    have hF0 := hF
    obtain ⟨FBd, wo, de, nu, bl, rs, ⟨dxf, ds, hFa, hwd, hwo, hde, hdl, hdv, hnu⟩, _⟩ := hF
    have Fi := QM.act_fin FBd.f FBd.t
    refine ⟨_, PSs.nox (pss_cons (ps_set (i := 1) sc_ends_block.nd rfl (Or.inl rfl) (pe_fldK (K := K) (pv 0)))
    (pss_cons (ps_for PassesOwn.never rfl (pi_seqK (K := K) (pe_kn k_steady_core (hr.mono (by decide)) rfl (pa_cons (pv 0) pa_nil))) (pg_name (i := 2) sc_ends_block.nd rfl (by first | exact Or.inl rfl | exact Or.inr rfl))
    (pss_one (ps_for PassesOwn.never rfl (pi_seqK (K := K) (pe_kn k_steady_core (hr.mono (by decide)) rfl (pa_cons (pv 0) pa_nil))) (pg_name (i := 3) sc_ends_block.nd rfl (by first | exact Or.inl rfl | exact Or.inr rfl))
    (pss_one (ps_if (pt_not (pt_val (pe_km k_Field_is_steady (hr.mono (by decide)) (pv 1) (pa_cons (pe_km k_Field_times (hr.mono (by decide)) (pv 1) (pa_cons (pv 2) (pa_cons (pv 3) pa_nil))) pa_nil))))
    (pss_cons (ps_set (i := 4) sc_ends_block.nd rfl (Or.inl rfl) (pe_ix (ixL (K := K)) (pe_fldK (K := K) (pv 1)) (pe_km k_Field_steady_of (hr.mono (by decide)) (pv 1) (pa_cons (pe_km k_Field_times (hr.mono (by decide)) (pv 1) (pa_cons (pv 2) (pa_cons (pv 3) pa_nil))) pa_nil)) (fun _ _ => rfl)))
    (pss_cons (ps_set (i := 5) sc_ends_block.nd rfl (Or.inl rfl) (pe_ix (ixL (K := K)) (pe_fldK (K := K) (pv 1)) (pe_km k_Field_steady_of (hr.mono (by decide)) (pv 1) (pa_cons (pe_km k_Field_times (hr.mono (by decide)) (pv 1) (pa_cons (pv 3) (pa_cons (pv 2) pa_nil))) pa_nil)) (fun _ _ => rfl)))
    (pss_one (ps_ret (pe_tup (pa_cons (pe_ix (ixL (K := K)) (pe_fldK (K := K) (pv 1)) (pv 2) (fun _ _ => rfl)) (pa_cons (pv 4) (pa_cons (pv 5) (pa_cons pe_str (pa_cons pe_str pa_nil))))))))))
    pss_nil)))))
    (pss_one (ps_ret pe_non)))), ?_⟩
    walk_at "ws"
    refine ⟨l, Fa, cs, R, ws, B, rfl, hLo, fun p1 sl H1 e1 h1 hs1 hsl => ?_⟩
    refine k_iS (b := true) (SqL.of h1) ?_
    refine k_forS (fun i σ H' => ∃ (z1 z2 z3 z4 : Option V), Ex H1 H' ∧ (∀ (j : Nat) (u v : List Nat), j < i → sl[j]? = some (QM.idx R ws u) → QA.On B u → QA.On B v → QM.idx R ws v ∈ sl → QA.Idem (QM.act R cs.length u * QM.act R cs.length v)) ∧ σ = [some (.ref l), some (.ref Fa), z1, z2, z3, z4])
      ⟨_, _, _, _, Ex.rfl', fun j u v hj => absurd hj (Nat.not_lt_zero _), rfl⟩ (fun _ _ _ ⟨_, _, _, _, r, _⟩ => SqL.of (r _ _ h1)) ?_ ?_
    · rintro i x σ H2 hx ⟨z1, z2, z3, z4, e2, hgood, rfl⟩
      obtain ⟨i', hi', rfl⟩ := at_map hx
      obtain ⟨u, hu1, hu2, hu3, hu4⟩ := (hsl i').mp (List.mem_of_getElem? hi')
      have huo := QM.on_ok hO.sub hu1
      have e02 : Ex H H2 := e1.tr e2
      walk_at "ws"
      refine ⟨l, Fa, cs, R, ws, B, rfl, hLo.ex e02, fun p2 sl2 H3 e3 h3 hs3 hsl2 => ?_⟩
      have e03 : Ex H H3 := e02.tr e3
      refine k_iS (b := true) (SqL.of h3) ?_
      refine k_forS (fun j σ H' => ∃ (z2 z3 z4 : Option V), Ex H3 H' ∧ (∀ (j' : Nat) (v : List Nat), j' < j → sl2[j']? = some (QM.idx R ws v) → QA.On B v → QA.Idem (QM.act R cs.length u * QM.act R cs.length v)) ∧ σ = [some (.ref l), some (.ref Fa), some (iv i'), z2, z3, z4])
        ⟨_, _, _, Ex.rfl', fun j u hj => absurd hj (Nat.not_lt_zero _), rfl⟩ (fun _ _ _ ⟨_, _, _, r, _⟩ => SqL.of (r _ _ h3)) ?_ ?_
      · rintro j y σ H4 hy ⟨z2, z3, z4, e4, hg2, rfl⟩
        obtain ⟨j', hj', rfl⟩ := at_map hy
        obtain ⟨v, hv1, hv2, hv3, hv4⟩ := (hsl2 j').mp (List.mem_of_getElem? hj')
        have hvo := QM.on_ok hO.sub hv1
        have e04 : Ex H H4 := e03.tr e4
        walk_at "ws"
        refine k_meth (e04 _ _ hFa) rfl ?_
        walk_at "ws"
        refine k_meth (e04 _ _ hFa) rfl ?_
        walk_at "ws"
        refine ⟨Fa, cs, R, ws, u, v, by rw [hu2, hv2], hF0.ex e04, huo, hvo, fun H5 e5 => ?_⟩
        have e05 : Ex H H5 := e04.tr e5
        walk_at "ws"
        refine ⟨Fa, cs, R, ws, u ++ v, rfl, hF0.ex e05, huo.app hvo, fun H6 e6 => ?_⟩
        have e06 : Ex H H6 := e05.tr e6
        walk_at "ws"
        have hact : QM.idx R ws (u ++ v ++ (u ++ v)) = QM.idx R ws (u ++ v) ↔ QA.Idem (QM.act R cs.length u * QM.act R cs.length v) := by
          rw [FBd.f.act FBd.t ((huo.app hvo).app (huo.app hvo)) (huo.app hvo), QM.act_app FBd.t (u ++ v), QM.act_app FBd.t u v]
          exact Iff.rfl
        by_cases hid : QM.idx R ws (u ++ v ++ (u ++ v)) = QM.idx R ws (u ++ v)
        · rw [decide_eq_true hid]
          refine k_if (fun z => by cases z) fun _ => ?_
          walk_at "ws"
          refine ⟨_, _, _, (e4.tr e5).tr e6, fun j2 v2 hj2 hv2' hv2o => ?_, rfl⟩
          rcases Nat.lt_succ_iff_lt_or_eq.mp hj2 with hj2 | rfl
          · exact hg2 j2 v2 hj2 hv2' hv2o
          · rw [hj'] at hv2'
            have : QM.idx R ws v = QM.idx R ws v2 := by rw [hv2]; exact Option.some.inj hv2'
            rw [← (FBd.f.act FBd.t hvo (QM.on_ok hO.sub hv2o)).mp this]
            exact hact.mp hid
        · rw [decide_eq_false hid]
          refine k_if (fun _ => ?_) fun z => by cases z
          have hnd : ¬ QA.DO (QM.act R cs.length) (List.range cs.length) := fun D => hid (hact.mpr (QA.noEnds_of Fi (fun a ha => List.mem_range.mpr (hO.sub a ha)) D _ _ hu3 hu4 hv3 hv4))
          walk_at "ws"
          refine k_meth (e06 _ _ hFa) rfl ?_
          walk_at "ws"
          refine k_meth (e06 _ _ hFa) rfl ?_
          walk_at "ws"
          refine ⟨Fa, cs, R, ws, u, v, by rw [hu2, hv2], hF0.ex e06, huo, hvo, fun H7 e7 => ?_⟩
          have e07 : Ex H H7 := e06.tr e7
          walk_at "ws"
          refine ⟨Fa, cs, R, ws, u ++ v, rfl, hF0.ex e07, huo.app hvo, fun n H8 hn e8 => ?_⟩
          have e08 : Ex H H8 := e07.tr e8
          obtain ⟨x1, hx1, _⟩ := FBd.f.get FBd.t (QM.rep_ok (huo.app hvo) n)
          refine r_ixL (SqL.of (e08 _ _ hwo)) (v := V.str (wO cs x1)) (by rw [List.getElem?_map, hx1]; rfl) ?_
          walk_at "ws"
          refine k_meth (e08 _ _ hFa) rfl ?_
          walk_at "ws"
          refine k_meth (e08 _ _ hFa) rfl ?_
          walk_at "ws"
          refine ⟨Fa, cs, R, ws, v, u, by rw [hu2, hv2], hF0.ex e08, hvo, huo, fun H9 e9 => ?_⟩
          have e09 : Ex H H9 := e08.tr e9
          walk_at "ws"
          refine ⟨Fa, cs, R, ws, v ++ u, rfl, hF0.ex e09, hvo.app huo, fun n2 H10 hn2 e10 => ?_⟩
          have e010 : Ex H H10 := e09.tr e10
          obtain ⟨x2, hx2, _⟩ := FBd.f.get FBd.t (QM.rep_ok (hvo.app huo) n2)
          refine r_ixL (SqL.of (e010 _ _ hwo)) (v := V.str (wO cs x2)) (by rw [List.getElem?_map, hx2]; rfl) ?_
          have hF10 := e010 _ _ hFa
          walk_at "ws"
          obtain ⟨x3, hx3, _⟩ := FBd.f.get FBd.t huo
          rw [hu2] at hx3
          refine r_ixL (SqL.of (e010 _ _ hwo)) (v := V.str (wO cs x3)) (by rw [List.getElem?_map, hx3]; rfl) ?_
          walk_at "ws"
          refine k_tup (by walk_at "sz") fun tp H11 n11 e11 h11 => ?_
          walk_at "ws"
          exact k2 tp H11 (e010.tr e11) hnd
      · rintro σ H4 ⟨z2, z3, z4, e4, hg2, rfl⟩
        walk_at "ws"
        refine ⟨_, _, _, _, (e2.tr e3).tr e4, fun j u2 v2 hj hu2' hu2o hv2o hv2m => ?_, rfl⟩
        rcases Nat.lt_succ_iff_lt_or_eq.mp hj with hj | rfl
        · exact hgood j u2 v2 hj hu2' hu2o hv2o hv2m
        · rw [hi'] at hu2'
          have : QM.idx R ws u = QM.idx R ws u2 := by rw [hu2]; exact Option.some.inj hu2'
          rw [← (FBd.f.act FBd.t huo (QM.on_ok hO.sub hu2o)).mp this]
          obtain ⟨w', q1, q2, q3, q4⟩ := (hsl _).mp hv2m
          obtain ⟨j2, hj2, ej2⟩ := List.mem_iff_getElem.mp ((hsl2 _).mpr ⟨w', q1, q2, q3, q4⟩)
          exact hg2 j2 v2 (by rw [List.length_map]; exact hj2) (by rw [List.getElem?_eq_getElem hj2, ej2]) hv2o
    · rintro σ H2 ⟨z1, z2, z3, z4, e2, hgood, rfl⟩
      walk_at "ws"
      refine k1 H2 (e1.tr e2) fun e f ce ee cf ef => ?_
      obtain ⟨u, hu, rfl⟩ := ce.1
      obtain ⟨v, hv, rfl⟩ := cf.1
      obtain ⟨j, hj, ej⟩ := List.mem_iff_getElem.mp ((hsl _).mpr ⟨u, hu, rfl, ce, ee⟩)
      exact hgood j u v (by rw [List.length_map]; exact hj) (by rw [List.getElem?_eq_getElem hj, ej]) hu hv ((hsl _).mpr ⟨v, hv, rfl, cf, ef⟩)
end

/-! ## sums_block -/
section
variable {P : Program} {w : World} {K : PySem.W.Frag} {mg : Str → Option Value} {base : Heap}
abbrev N_sums_block : List Str := ["lot", "field", "still", "group", "one", "other", "backs", "at"]
theorem sc_sums_block : FnScope N_sums_block ["lot"] (defScope s_sums_block) := ⟨rfl, rfl, rfl, by decide +kernel, rfl, by decide +kernel, by decide +kernel⟩
theorem ok_sums_block {f : Addr} {fd : FuncData} (F : FnP K "sums_block" s_sums_block f fd) (T : Txt K mg) (k_steady_core : Kn P w K mg base CX0 4 "steady_core" ["lot"] (sp_steady_core K)) (k_group_of : Kn P w K mg base CX0 3 "group_of" ["lot", "at"] (sp_group_of K)) (k_Field_times : Km P w K mg base CX0 2 (aF K) "times" ["self", "one", "other"] (sp_times K))
    (k_back_of : Kn P w K mg base CX0 3 "back_of" ["field", "at", "still"] (sp_back_of K)) : FnOk P w K mg base CX0 5 f fd ["lot"] (sp_sums_block K) := by
  refine F.ok sc_sums_block (fun vs H Q E h => ?_) (fun cdv A outer s H vs Q E hr h => ?_)
  · obtain ⟨l, Fa, cs, R, ws, B, rfl, _⟩ := h
    rfl
  · obtain ⟨l, Fa, cs, R, ws, B, rfl, hLo, k1, k2⟩ := h
    obtain ⟨dx, pl, fw, ma, co, ms, fl, cl, hl, hF, hO, hfw, hma, hco⟩ := id hLo
    have hF0 := hF
    obtain ⟨FBd, wo, de, nu, bl, rs, ⟨dxf, ds, hFa, hwd, hwo, hde, hdl, hdv, hnu⟩, _⟩ := hF
    have Fi := QM.act_fin FBd.f FBd.t
    obtain ⟨w0, hw01, hw02, hw03⟩ := hO.core_ex FBd.f FBd.t
    refine ⟨_, PSs.nox (pss_cons (ps_set (i := 1) sc_sums_block.nd rfl (Or.inr rfl) (pe_fldK (K := K) (pv 0)))
    (pss_cons (ps_set (i := 2) sc_sums_block.nd rfl (Or.inr rfl) (pe_ix (ixL (K := K)) (pe_kn k_steady_core (hr.mono (by decide)) rfl (pa_cons (pv 0) pa_nil)) pe_int (fun _ _ => rfl)))
    (pss_cons (ps_set (i := 3) sc_sums_block.nd rfl (Or.inl rfl) (pe_kn k_group_of (hr.mono (by decide)) rfl (pa_cons (pv 0) (pa_cons (pv 2) pa_nil))))
    (pss_cons (ps_for PassesOwn.never rfl (pi_seqK (K := K) (pv 3)) (pg_name (i := 4) sc_sums_block.nd rfl (by first | exact Or.inl rfl | exact Or.inr rfl))
    (pss_one (ps_for PassesOwn.never rfl (pi_seqK (K := K) (pv 3)) (pg_name (i := 5) sc_sums_block.nd rfl (by first | exact Or.inl rfl | exact Or.inr rfl))
    (pss_one (ps_if (pt_cmpR op_ne (pe_km k_Field_times (hr.mono (by decide)) (pv 1) (pa_cons (pv 4) (pa_cons (pv 5) pa_nil))) (pe_km k_Field_times (hr.mono (by decide)) (pv 1) (pa_cons (pv 5) (pa_cons (pv 4) pa_nil))) (nomark _))
    (pss_cons (ps_setLc (i := 6) (own := [("at", 7)]) rfl sc_sums_block.nd rfl rfl (sw_true rfl rfl rfl (by decide +kernel)) (pi_seqK (K := K) (pe_tup (pa_cons (pv 4) (pa_cons (pv 5) pa_nil)))) (blkOk_by (own := [("at", 7)]) (N := N_sums_block) (sc := defScope s_sums_block) (by decide +kernel)) (fun _ _ _ _ _ => (pg_name (i := 7) sc_sums_block.nd rfl (by first | exact Or.inl rfl | exact Or.inr rfl))) (fun _ _ _ _ _ => pts_nil) (fun _ _ _ _ _ => (pe_ix (ixL (K := K)) (pe_fldK (K := K) (pv 1)) (pe_kn k_back_of (hr.mono (by decide)) rfl (pa_cons (pv 1) (pa_cons (pv 7) (pa_cons (pv 2) pa_nil)))) (fun _ _ => rfl))))
    (pss_one (ps_ret (pe_tup (pa_cons (pe_ix (ixL (K := K)) (pe_fldK (K := K) (pv 1)) (pv 2) (fun _ _ => rfl)) (pa_cons (pe_ix (ixL (K := K)) (pe_fldK (K := K) (pv 1)) (pv 4) (fun _ _ => rfl)) (pa_cons (pe_ix (ixL (K := K)) (pe_fldK (K := K) (pv 1)) (pv 5) (fun _ _ => rfl)) (pa_cons (pe_ix (ixL (K := K)) (pv 6) pe_int (fun _ _ => rfl)) (pa_cons (pe_ix (ixL (K := K)) (pv 6) pe_int (fun _ _ => rfl)) pa_nil)))))))))
    pss_nil)))))
    (pss_one (ps_ret pe_non)))))), ?_⟩
    walk_at "ws"
    refine ⟨l, Fa, cs, R, ws, B, rfl, hLo, fun p1 sl H1 e1 h1 hs1 hsl => ?_⟩
    have hsl0 : 0 < sl.length := List.length_pos_of_mem ((hsl _).mpr ⟨w0, hw01, rfl, hw02, hw03⟩)
    obtain ⟨i0, hi0⟩ : ∃ i0, sl[0]? = some i0 := ⟨_, List.getElem?_eq_getElem hsl0⟩
    obtain ⟨u, hu1, hu2, hu3, hu4⟩ := (hsl i0).mp (List.mem_of_getElem? hi0)
    have huo := QM.on_ok hO.sub hu1
    walk_at "ws"
    refine r_ixL (SqL.of h1) (n := 0) (v := iv i0) (by rw [List.getElem?_map, hi0]; rfl) ?_
    walk_at "ws"
    refine ⟨l, Fa, cs, R, ws, B, u, by rw [hu2], hLo.ex e1, hu1, fun p2 gl H2 e2 h2 hg1 hgl => ?_⟩
    have e02 : Ex H H2 := e1.tr e2
    walk_at "ws"
    refine k_iS (b := true) (SqL.of h2) ?_
    have uu : QM.act R cs.length u * QM.act R cs.length u = QM.act R cs.length u := hu4
    have c : ∀ t, QM.act R cs.length (u ++ t ++ u) = QM.act R cs.length u * QM.act R cs.length t * QM.act R cs.length u := fun t => by rw [QM.act_app FBd.t, QM.act_app FBd.t]
    refine k_forS (fun i σ H' => ∃ (z1 z2 z3 z4 : Option V), Ex H2 H' ∧ (∀ (j : Nat) (x y : List Nat), j < i → gl[j]? = some (QM.idx R ws (u ++ x ++ u)) → QA.On B x → QA.On B y → QM.act R cs.length (u ++ x ++ u) * QM.act R cs.length (u ++ y ++ u) = QM.act R cs.length (u ++ y ++ u) * QM.act R cs.length (u ++ x ++ u)) ∧
        σ = [some (.ref l), some (.ref Fa), some (iv i0), some (.ref p2), z1, z2, z3, z4])
      ⟨_, _, _, _, Ex.rfl', fun j x y hj => absurd hj (Nat.not_lt_zero _), rfl⟩ (fun _ _ _ ⟨_, _, _, _, r, _⟩ => SqL.of (r _ _ h2)) ?_ ?_
    · rintro i vx σ H3 hx ⟨z1, z2, z3, z4, e3, hgood, rfl⟩
      obtain ⟨i', hi', rfl⟩ := at_map hx
      obtain ⟨x, hx1, hx2⟩ := (hgl i').mp (List.mem_of_getElem? hi')
      have hxo := QM.on_ok hO.sub hx1
      have hX : QA.On B (u ++ x ++ u) := (hu1.app hx1).app hu1
      have hXo := QM.on_ok hO.sub hX
      have e03 : Ex H H3 := e02.tr e3
      walk_at "ws"
      refine k_iS (b := true) (SqL.of (e3 _ _ h2)) ?_
      refine k_forS (fun j σ H' => ∃ (z2 z3 z4 : Option V), Ex H3 H' ∧ (∀ (j' : Nat) (y : List Nat), j' < j → gl[j']? = some (QM.idx R ws (u ++ y ++ u)) → QA.On B y → QM.act R cs.length (u ++ x ++ u) * QM.act R cs.length (u ++ y ++ u) = QM.act R cs.length (u ++ y ++ u) * QM.act R cs.length (u ++ x ++ u)) ∧
          σ = [some (.ref l), some (.ref Fa), some (iv i0), some (.ref p2), some (iv i'), z2, z3, z4])
        ⟨_, _, _, Ex.rfl', fun j y hj => absurd hj (Nat.not_lt_zero _), rfl⟩ (fun _ _ _ ⟨_, _, _, r, _⟩ => SqL.of (r _ _ (e3 _ _ h2))) ?_ ?_
      · rintro j vy σ H4 hy ⟨z2, z3, z4, e4, hg2, rfl⟩
        obtain ⟨j', hj', rfl⟩ := at_map hy
        obtain ⟨y, hy1, hy2⟩ := (hgl j').mp (List.mem_of_getElem? hj')
        have hyo := QM.on_ok hO.sub hy1
        have hY : QA.On B (u ++ y ++ u) := (hu1.app hy1).app hu1
        have hYo := QM.on_ok hO.sub hY
        have e04 : Ex H H4 := e03.tr e4
        walk_at "ws"
        refine k_meth (e04 _ _ hFa) rfl ?_
        walk_at "ws"
        refine ⟨Fa, cs, R, ws, u ++ x ++ u, u ++ y ++ u, by rw [hx2, hy2], hF0.ex e04, hXo, hYo, fun H5 e5 => ?_⟩
        have e05 : Ex H H5 := e04.tr e5
        walk_at "ws"
        refine k_meth (e05 _ _ hFa) rfl ?_
        walk_at "ws"
        refine ⟨Fa, cs, R, ws, u ++ y ++ u, u ++ x ++ u, by rw [hx2, hy2], hF0.ex e05, hYo, hXo, fun H6 e6 => ?_⟩
        have e06 : Ex H H6 := e05.tr e6
        walk_at "ws"
        rw [ne_iv]
        have hact : QM.idx R ws (u ++ x ++ u ++ (u ++ y ++ u)) = QM.idx R ws (u ++ y ++ u ++ (u ++ x ++ u)) ↔ QM.act R cs.length (u ++ x ++ u) * QM.act R cs.length (u ++ y ++ u) = QM.act R cs.length (u ++ y ++ u) * QM.act R cs.length (u ++ x ++ u) := by
          rw [FBd.f.act FBd.t (hXo.app hYo) (hYo.app hXo), QM.act_app FBd.t (u ++ x ++ u), QM.act_app FBd.t (u ++ y ++ u)]
        by_cases heq : QM.idx R ws (u ++ x ++ u ++ (u ++ y ++ u)) = QM.idx R ws (u ++ y ++ u ++ (u ++ x ++ u))
        · rw [decide_eq_true heq]
          refine k_if (fun z => by cases z) fun _ => ?_
          walk_at "ws"
          refine ⟨_, _, _, (e4.tr e5).tr e6, fun j2 y2 hj2 hy2' hy2o => ?_, rfl⟩
          rcases Nat.lt_succ_iff_lt_or_eq.mp hj2 with hj2 | rfl
          · exact hg2 j2 y2 hj2 hy2' hy2o
          · rw [hj'] at hy2'
            have : QM.idx R ws (u ++ y ++ u) = QM.idx R ws (u ++ y2 ++ u) := by rw [hy2]; exact Option.some.inj hy2'
            rw [← (FBd.f.act FBd.t hYo (QM.on_ok hO.sub ((hu1.app hy2o).app hu1))).mp this]
            exact hact.mp heq
        · rw [decide_eq_false heq]
          refine k_if (fun _ => ?_) fun z => by cases z
          have hnd : ¬ QA.AB (QM.act R cs.length) (List.range cs.length) := fun D => heq (hact.mpr (by
            rw [c, c]
            exact QA.sums_at Fi (fun a ha => List.mem_range.mpr (hO.sub a ha)) D hu3 hu4 hx1 hy1))
          walk_at "ws"
          refine k_tup (by walk_at "sz") fun tp H7 n7 e7 h7 => ?_
          have e07 : Ex H H7 := e06.tr e7
          refine k_iS (b := false) (SqT.of h7) ?_
          have hback : ∀ t, QA.On B t → ∃ N, 2 ≤ N ∧ QM.idx R ws (QA.rep (u ++ t ++ u) N) = QM.idx R ws u := fun t ht => by
            obtain ⟨n, hn, e⟩ := QA.core_pow Fi hu3 hu1 hu4 ht
            have hTo := QM.on_ok hO.sub ((hu1.app ht).app hu1)
            refine ⟨n + n, by omega, (FBd.f.act FBd.t (QM.rep_ok hTo _) huo).mpr ?_⟩
            rw [QA.rep_add, QM.act_app FBd.t, e]
            exact uu
          refine k_lcS (by simp) (fun _ _ y _ => ∃ s, y = V.str s) (SqT.of h7) (fun _ _ _ _ _ _ _ r => r) (fun Dl jj vz H8 Qc hvz e8 hDl hDl2 k8 => ?_) fun bl2 H8 ys n8 e8 h8 hys hyv => ?_
          · have e08 : Ex H H8 := e07.tr e8
            have hcase : ∃ t, QA.On B t ∧ vz = iv (QM.idx R ws (u ++ t ++ u)) := by
              match jj, hvz with
              | 0, hvz => cases hvz; exact ⟨x, hx1, by rw [hx2]⟩
              | 1, hvz => cases hvz; exact ⟨y, hy1, by rw [hy2]⟩
              | jj + 2, hvz => simp at hvz
            obtain ⟨t, ht, rfl⟩ := hcase
            obtain ⟨N, hN1, hN2⟩ := hback t ht
            have hTo := QM.on_ok hO.sub ((hu1.app ht).app hu1)
            have hF8 := e08 _ _ hFa
            walk_at "ws"
            refine ⟨Fa, cs, R, ws, u, u ++ t ++ u, N, by rw [hu2], hF0.ex e08, huo, hTo, hN1, hN2, fun n H9 hn e9 => ?_⟩
            obtain ⟨x1, hx1', _⟩ := FBd.f.get FBd.t (QM.rep_ok hTo n)
            refine r_ixL (SqL.of (e9 _ _ (e08 _ _ hwo))) (v := V.str (wO cs x1)) (by rw [List.getElem?_map, hx1']; rfl) ?_
            exact k8 _ _ e9 ⟨_, rfl⟩
          · have e08 : Ex H H8 := e07.tr e8
            have hys2 : ys.length = 2 := by simpa using hys
            obtain ⟨y0, hy0⟩ : ∃ y0, ys[0]? = some y0 := ⟨_, List.getElem?_eq_getElem (by omega)⟩
            obtain ⟨y1, hy1'⟩ : ∃ y1, ys[1]? = some y1 := ⟨_, List.getElem?_eq_getElem (by omega)⟩
            have hF8 := e08 _ _ hFa
            have hwo8 := e08 _ _ hwo
            obtain ⟨x1, hxx1, _⟩ := FBd.f.get FBd.t huo
            obtain ⟨x2, hxx2, _⟩ := FBd.f.get FBd.t hXo
            obtain ⟨x3, hxx3, _⟩ := FBd.f.get FBd.t hYo
            rw [hu2] at hxx1
            rw [hx2] at hxx2
            rw [hy2] at hxx3
            walk_at "ws"
            refine r_ixL (SqL.of hwo8) (v := V.str (wO cs x1)) (by rw [List.getElem?_map, hxx1]; rfl) ?_
            walk_at "ws"
            refine r_ixL (SqL.of hwo8) (v := V.str (wO cs x2)) (by rw [List.getElem?_map, hxx2]; rfl) ?_
            walk_at "ws"
            refine r_ixL (SqL.of hwo8) (v := V.str (wO cs x3)) (by rw [List.getElem?_map, hxx3]; rfl) ?_
            walk_at "ws"
            refine r_ixL (SqL.of h8) (n := 0) hy0 ?_
            walk_at "ws"
            refine r_ixL (SqL.of h8) (n := 1) hy1' ?_
            walk_at "ws"
            refine k_tup (by walk_at "sz") fun tp2 H9 n9 e9 h9 => ?_
            walk_at "ws"
            exact k2 tp2 H9 (e08.tr e9) hnd
      · rintro σ H4 ⟨z2, z3, z4, e4, hg2, rfl⟩
        walk_at "ws"
        refine ⟨_, _, _, _, e3.tr e4, fun j x2 y2 hj hx2' hx2o hy2o => ?_, rfl⟩
        rcases Nat.lt_succ_iff_lt_or_eq.mp hj with hj | rfl
        · exact hgood j x2 y2 hj hx2' hx2o hy2o
        · rw [hi'] at hx2'
          have : QM.idx R ws (u ++ x ++ u) = QM.idx R ws (u ++ x2 ++ u) := by rw [hx2]; exact Option.some.inj hx2'
          rw [← (FBd.f.act FBd.t hXo (QM.on_ok hO.sub ((hu1.app hx2o).app hu1))).mp this]
          obtain ⟨j2, hj2, ej2⟩ := List.mem_iff_getElem.mp ((hgl _).mpr ⟨y2, hy2o, rfl⟩)
          exact hg2 j2 y2 (by rw [List.length_map]; exact hj2) (by rw [List.getElem?_eq_getElem hj2, ej2]) hy2o
    · rintro σ H3 ⟨z1, z2, z3, z4, e3, hgood, rfl⟩
      walk_at "ws"
      refine k1 H3 (e02.tr e3) ⟨QM.act R cs.length u, hu3, hu4, fun x y hx hy => ?_⟩
      obtain ⟨j, hj, ej⟩ := List.mem_iff_getElem.mp ((hgl _).mpr ⟨x, hx, rfl⟩)
      have := hgood j x y (by rw [List.length_map]; exact hj) (by rw [List.getElem?_eq_getElem hj, ej]) hx hy
      rw [c, c] at this
      exact this
end

/-! ## lots_of -/
section
variable {P : Program} {w : World} {K : PySem.W.Frag} {mg : Str → Option Value} {base : Heap}
abbrev N_lots_of : List Str := ["letters", "found", "letter", "told"]
theorem sc_lots_of : FnScope N_lots_of ["letters"] (defScope s_lots_of) := ⟨rfl, rfl, rfl, by decide +kernel, rfl, by decide +kernel, by decide +kernel⟩
theorem ok_lots_of {f : Addr} {fd : FuncData} {c P0 : Addr} (F : FnP K "lots_of" s_lots_of f fd) (hcd : fd.code = .ref c) (TB : LamX.TabB base mg c P0) (T : Txt K mg) : FnOk P w K mg base CX0 4 f fd ["letters"] (sp_lots_of P0) := by
  obtain ⟨oc, od, dV, kV, doc, pm, an, cdv, ct, osl, rfl, lk, hcd2, _, _⟩ := F.ex
  have hcode : cdv = .ref c := hcd
  subst hcode
  refine fn_of lk hcd2 sc_lots_of (fun vs H Q E h => ?_) fun A outer s H vs Q E hr h => ?_
  · obtain ⟨cs, rfl, _⟩ := h
    rfl
  · obtain ⟨cs, rfl, hk4, hT, k⟩ := h
    have hr3 := hr
    refine ⟨_, PSs.nox (pss_cons (ps_set (i := 1) sc_lots_of.nd rfl (Or.inl rfl) (pe_lst (pa_cons pe_str pa_nil)))
    (pss_cons (ps_for PassesOwn.never rfl (pi_str (pv 0)) (pg_name (i := 2) sc_lots_of.nd rfl (by first | exact Or.inl rfl | exact Or.inr rfl))
    (pss_one (ps_set (i := 1) sc_lots_of.nd rfl (Or.inl rfl) (pe_op op_cat (pv 1) (pe_lc (own := [("told", 3)]) rfl sc_lots_of.nd (pi_seqK (K := K) (pv 1)) (blkOk_by (own := [("told", 3)]) (N := N_lots_of) (sc := defScope s_lots_of) (by decide +kernel)) (fun _ _ _ _ _ => (pg_name (i := 3) sc_lots_of.nd rfl (by first | exact Or.inl rfl | exact Or.inr rfl))) (fun _ _ _ _ _ => pts_nil) (fun _ _ _ _ _ => (pe_op op_addT (pv 3) (pv 2))))))))
    (pss_one (ps_ret (pe_sortLam (K := K) hr3 (by rfl) T.sorted T.len TB rfl (List.mem_singleton.mpr rfl) (fun p hp _ => by rw [List.mem_singleton.mp hp]) (pe_slice (slL (K := K)) (pv 1) (po_some pe_int) po_none) (⟨by rfl, by rfl, by rfl, by decide +kernel, by rfl, by rfl⟩) (by intros; rfl) (by rfl) (by intros; rfl) (by rfl) (by rfl) (by rfl)))))), ?_⟩
    walk_at "ws"
    refine k_lst (by walk_at "sz") fun l0 H1 n1 e1 h1 => ?_
    walk_at "ws"
    refine k_forT (fun i σ H' => ∃ (l : Addr) (z1 z2 : Option V), Ex H H' ∧ H' l = some (.lst ((powl i).map fun B => V.str (wO cs B))) ∧ i ≤ cs.length ∧ σ = [some (.str (sO cs)), some (.ref l), z1, z2]) ⟨l0, _, _, e1, by rw [h1]; rfl, Nat.zero_le _, rfl⟩ ?_ ?_
    · rintro i ch σ H2 hc ⟨l, z1, z2, e2, h2, hi, rfl⟩
      have hck : cs[i]? = some ch := by simpa using hc
      have hik : i < cs.length := (List.getElem?_eq_some_iff.mp hck).1
      have hch : (⟨#[ch]⟩ : Str) = wO cs [i] := by
        have : ch = cs.getD i 0 := by rw [List.getD_eq_getElem?_getD, hck]; rfl
        rw [this]
        rfl
      have hpl : (powl i).length ≤ 16 := by
        rw [powl_len]
        have : (2 : Nat) ^ i ≤ 2 ^ 4 := Nat.pow_le_pow_right (by decide) (by omega)
        omega
      walk_at "ws"
      refine k_iS (b := true) (SqL.of h2) ?_
      refine k_lcSP (by rw [List.length_map]; omega) ((powl i).map fun B => V.str (wO cs (B ++ [i]))) (by simp) (SqL.of h2) (fun j x H3 Qc hx e3 k3 => ?_) fun l2 H3 n3 e3 h3 => ?_
      · obtain ⟨B, hB, rfl⟩ := at_map hx
        have hBl := powl_short i B (List.mem_of_getElem? hB)
        walk_at "ws"
        rw [hch]
        refine r_addT (by rw [sizeLine_eq]; simp [Str.length]; omega) ?_
        rw [wO_app]
        exact k3 _ _ (by rw [List.getElem?_map, hB]; rfl) Ex.rfl'
      · walk_at "ws"
        refine r_cat (e3 _ _ h2) h3 (by rw [sizeLine_eq]; simp; omega) fun l3 H4 n4 e4 h4 => ?_
        walk_at "ws"
        refine ⟨l3, _, _, (e2.tr e3).tr e4, ?_, hik, rfl⟩
        rw [h4, show powl (i + 1) = powl i ++ (powl i).map fun B => B ++ [i] from rfl, List.map_append, List.map_map]
        rfl
    · rintro σ H2 ⟨l, z1, z2, e2, h2, hi, rfl⟩
      have hsz : (sO cs).cps.size = cs.length := by simp
      rw [hsz] at h2
      have hpl : (powl cs.length).length ≤ 16 := by
        rw [powl_len]
        have : (2 : Nat) ^ cs.length ≤ 2 ^ 4 := Nat.pow_le_pow_right (by decide) hk4
        omega
      walk_at "ws"
      refine r_slLfrom (p := 1) (SqL.of h2) (by rw [List.length_map, powl_len]; exact Nat.one_le_two_pow) fun l2 H3 n3 e3 h3 => ?_
      walk_at "ws"
      refine w_lam (hT.ext (e2.tr e3)) fun fl c' pm' ctv H4 eN hT4 hfl hf4 hc4 => ?_
      walk_at "ws"
      have h4 : H4 l2 = some (.lst ((((powl cs.length).drop 1).map (wO cs)).map V.str)) := eN _ _ (by rw [h3, ← List.map_drop, List.map_map]; rfl) fun ps z => by cases z
      refine r_sortLam (SqL.of h4) (by rw [List.length_map, List.length_drop]; omega) (fun x hx => ?_) hf4 hc4 fun ys p H5 hp hs n5 e5 h5 => ?_
      · obtain ⟨B, hB, rfl⟩ := List.mem_map.mp hx
        have := powl_short _ B (List.mem_of_mem_drop hB)
        simp [Str.length]
        omega
      · exact k p ys H5 (((LamX.ExtN.of (e2.tr e3)).trans eN).trans (LamX.ExtN.of e5)) (hT4.ext e5) h5 hp hs
end

/-! ## may_change -/
section
variable {P : Program} {w : World} {K : PySem.W.Frag} {mg : Str → Option Value} {base : Heap}
abbrev N_may_change : List Str := ["machine", "a", "b", "one", "other"]
theorem sc_may_change : FnScope N_may_change ["machine", "a", "b"] (defScope s_may_change) := ⟨rfl, rfl, rfl, by decide +kernel, rfl, by decide +kernel, by decide +kernel⟩
theorem ok_may_change {f : Addr} {fd : FuncData} (F : FnP K "may_change" s_may_change f fd) (T : Txt K mg) (k_deed_of : Kn P w K mg base CX0 5 "deed_of" ["machine", "word"] (sp_deed_of K)) (k_after : Kn P w K mg base CX0 1 "after" ["one", "other"] sp_after) : FnOk P w K mg base CX0 6 f fd ["machine", "a", "b"] (sp_may_change K) := by
  refine F.ok sc_may_change (fun vs H Q E h => ?_) (fun cdv A outer s H vs Q E hr h => ?_)
  · obtain ⟨m, cs, Tb, A, kf, lo, mo, L, R, A', a, b, rfl, _⟩ := h
    rfl
  · obtain ⟨m, cs, Tb, Ac, kf, lo, mo, L, R, A', a, b, rfl, hM, hmat, hL, ha, hb, k⟩ := h
    have t := hL.1.t
    have oa : QM.Ok cs.length [a] := fun c hc => by rw [List.mem_singleton.mp hc]; exact ha
    have ob : QM.Ok cs.length [b] := fun c hc => by rw [List.mem_singleton.mp hc]; exact hb
    have six := hL.1.six
    refine ⟨_, PSs.nox (pss_cons (ps_set (i := 3) sc_may_change.nd rfl (Or.inl rfl) (pe_kn k_deed_of (hr.mono (by decide)) rfl (pa_cons (pv 0) (pa_cons (pv 1) pa_nil))))
    (pss_cons (ps_set (i := 4) sc_may_change.nd rfl (Or.inl rfl) (pe_kn k_deed_of (hr.mono (by decide)) rfl (pa_cons (pv 0) (pa_cons (pv 2) pa_nil))))
    (pss_one (ps_ret (pe_cmpR (opEqD (K := K) hr.units) (pe_kn k_after (hr.mono (by decide)) rfl (pa_cons (pv 3) (pa_cons (pv 4) pa_nil))) (pe_kn k_after (hr.mono (by decide)) rfl (pa_cons (pv 4) (pa_cons (pv 3) pa_nil))) (nomark _)))))), ?_⟩
    walk_at "ws"
    refine ⟨m, cs, Tb, Ac, kf, lo, mo, L, R, A', [a], rfl, hM, hmat, hL, oa, fun v1 H1 e1 h1 => ?_⟩
    walk_at "ws"
    refine ⟨m, cs, Tb, Ac, kf, lo, mo, L, R, A', [b], rfl, hM, hmat.ex e1, hL.ex e1, ob, fun v2 H2 e2 h2 => ?_⟩
    walk_at "ws"
    refine ⟨v1, v2, _, _, rfl, h1.ex e2, h2, fun q hq => by rw [QM.deed_len]; exact QM.deed_lt t oa q hq, by rw [QM.deed_len]; omega, fun v3 H3 e3 h3 => ?_⟩
    walk_at "ws"
    refine ⟨v2, v1, _, _, rfl, h2.ex e3, (h1.ex e2).ex e3, fun q hq => by rw [QM.deed_len]; exact QM.deed_lt t ob q hq, by rw [QM.deed_len]; omega, fun v4 H4 e4 h4 => ?_⟩
    rw [QM.deed_app t oa] at h3
    rw [QM.deed_app t ob] at h4
    walk_at "ws"
    refine r_eqT (h3.ex e4) h4 ?_
    exact k _ (((e1.tr e2).tr e3).tr e4)
end

/-! ## search -/
section
variable {P : Program} {w : World} {K : PySem.W.Frag} {mg : Str → Option Value} {base : Heap}
abbrev N_search : List Str := ["machine", "field", "letters", "lot", "found"]
theorem sc_search : FnScope N_search ["machine"] (defScope s_search) := ⟨rfl, rfl, rfl, by decide +kernel, rfl, by decide +kernel, by decide +kernel⟩
theorem ok_search {f : Addr} {fd : FuncData} {P0 : Addr} (F : FnP K "search" s_search f fd) (T : Txt K mg) (k_field_of : Kn P w K mg base CX0 8 "field_of" ["machine"] (sp_field_of K)) (k_lots_of : Kn P w K mg base CX0 4 "lots_of" ["letters"] (sp_lots_of P0)) (k_lot_of : Kn P w K mg base CX0 9 "lot_of" ["machine", "lot"] (sp_lot_of K))
    (k_falling_block : Kn P w K mg base CX0 4 "falling_block" ["lot"] (sp_falling_block K)) (k_ends_block : Kn P w K mg base CX0 5 "ends_block" ["lot"] (sp_ends_block K)) (k_sums_block : Kn P w K mg base CX0 5 "sums_block" ["lot"] (sp_sums_block K)) :
    FnOk P w K mg base CX0 10 f fd ["machine"] (sp_search K P0) := by
  refine F.ok sc_search (fun vs H Q E h => ?_) (fun cdv A outer s H vs Q E hr h => ?_)
  · obtain ⟨m, L, Fa, cs, Tb, R, ws, A, A', lo, mo, rfl, _⟩ := h
    rfl
  · obtain ⟨m, L, Fa, cs, Tb, R, ws, Ac, A', lo, mo, rfl, ⟨hK, hlo, hmo, nlm⟩, hT, k1, k2⟩ := h
    obtain ⟨C0, dx0, tb0, ac0, hm0, hC0, hT0, hA0⟩ := hK.m_
    refine ⟨_, PSs.nox (pss_cons (ps_set (i := 1) sc_search.nd rfl (Or.inl rfl) (pe_kn k_field_of (hr.mono (by decide)) rfl (pa_cons (pv 0) pa_nil)))
    (pss_cons (ps_for PassesOwn.never rfl (pi_seqK (K := K) (pe_kn k_lots_of (hr.mono (by decide)) rfl (pa_cons (pe_fldK (K := K) (pv 1)) pa_nil))) (pg_name (i := 2) sc_search.nd rfl (by first | exact Or.inl rfl | exact Or.inr rfl))
    (pss_cons (ps_set (i := 3) sc_search.nd rfl (Or.inl rfl) (pe_kn k_lot_of (hr.mono (by decide)) rfl (pa_cons (pv 0) (pa_cons (pv 2) pa_nil))))
    (pss_one (ps_for PassesOwn.never rfl (pi_seqK (K := K) (pe_tup (pa_cons (pe_kn k_falling_block (hr.mono (by decide)) rfl (pa_cons (pv 3) pa_nil)) (pa_cons (pe_kn k_ends_block (hr.mono (by decide)) rfl (pa_cons (pv 3) pa_nil)) (pa_cons (pe_kn k_sums_block (hr.mono (by decide)) rfl (pa_cons (pv 3) pa_nil)) pa_nil))))) (pg_name (i := 4) sc_search.nd rfl (by first | exact Or.inl rfl | exact Or.inr rfl))
    (pss_one (ps_if (pt_cmp (pc_notN (pv 4)) rfl)
    (pss_one (ps_ret (pv 4)))
    pss_nil))))))
    (pss_one (ps_ret pe_non)))), ?_⟩
    walk_at "ws"
    refine ⟨m, cs, Tb, Ac, _, _, lo, mo, fun R' => R' = R, rfl, hK.md, hK.m_, .inr ⟨L, R, A', rfl, hK.l_, rfl⟩, .inr ⟨Fa, L, R, A', ws, rfl, rfl, hK.l_, hK.f_, rfl⟩, fun R' e => e ▸ hK.f_.1.few, fun F2 L2 R2 A2 ws2 H1 eR m1 hm1 _ hF1 _ hex => ?_⟩
    subst eR
    have e1 : Ex H H1 := hex (fun z => by cases z)
    obtain ⟨C1, dx1, tb1, ac1, hmi, _⟩ := hm1
    rw [e1 _ _ hm0] at hmi
    injection hmi with hmi
    injection hmi with _ _ e3
    obtain ⟨_, _, eL, eF, _, _⟩ := MF_inj e3
    cases eL
    cases eF
    obtain ⟨FBd, wo, de, nu, bl, rs, ⟨dxf, ds, hFa, hwd, hwo, hde, hdl, hdv, hnu⟩, hbl, hrl, hrows⟩ := (hK.f_.ex e1)
    walk_at "ws"
    refine ⟨cs, rfl, FBd.four, hT.ext e1, fun p ys H2 eN hT2 h2 hperm hsort => ?_⟩
    have hK2 : KM K H2 m L Fa cs Tb R2 ws Ac A' lo mo := (hK.ex e1).exN eN
    have hlo2 := dK_N (e1 _ _ hlo) eN
    have hmo2 := dK_N (e1 _ _ hmo) eN
    have hys : ys.Nodup := by
      rw [hperm.nodup_iff]
      refine List.pairwise_map.mpr ((List.Nodup.sublist (List.drop_sublist 1 _) (powl_nd cs.length)).imp_of_mem fun {B C} hB hC h e => h ?_)
      exact wO_inj FBd.nd (lots_mem.mp hB).2.2 (lots_mem.mp hC).2.2 e
    have hyl : ys.length ≤ 16 := by
      rw [hperm.length_eq, List.length_map, List.length_drop, powl_len]
      have : (2 : Nat) ^ cs.length ≤ 2 ^ 4 := Nat.pow_le_pow_right (by decide) FBd.four
      omega
    have hexb : ∀ H', Mo lo H2 H' → ExB lo mo H H' := fun H' mm a o n1 n2 h ht => mm _ _ n1 (eN _ _ (e1 _ _ h) ht)
    have Fi := QM.act_fin FBd.f FBd.t
    refine k_iS (b := true) (SqL.of h2) ?_
    have np : p ≠ lo := fun e => by rw [e, hlo2] at h2; cases h2
    refine k_forS (fun i σ H' => ∃ (lots : List (Key × V)) (z1 z2 z3 : Option V), Mo lo H2 H' ∧ KM K H' m L Fa cs Tb R2 ws Ac A' lo mo ∧ LamX.Tabs [(P0, qLam)] H' ∧ H' lo = some (.dK lots) ∧ lots.map (·.1) = (ys.take i).map Sum.inr ∧
        (∀ (j : Nat) (B : List Nat), j < i → B ∈ (powl cs.length).drop 1 → ys[j]? = some (wO cs B) → QA.NoFall (QM.act R2 cs.length) B ∧ QA.NoEnds (QM.act R2 cs.length) B ∧ QA.NoSums (QM.act R2 cs.length) B) ∧ σ = [some (.ref m), some (.ref Fa), z1, z2, z3])
      ⟨[], _, _, _, Ex.rfl'.mo, hK2, hT2, hlo2, rfl, fun j B hj => absurd hj (Nat.not_lt_zero _), rfl⟩ (fun _ _ _ ⟨_, _, _, _, mm, _⟩ => SqL.of (mm _ _ np h2)) ?_ ?_
    · rintro i x σ H3 hx ⟨lots, z1, z2, z3, m3, hK3, hT3, hlo3, hkeys, hno, rfl⟩
      obtain ⟨t, ht, rfl⟩ := at_map hx
      obtain ⟨B, hBm, rfl⟩ := List.mem_map.mp (hperm.mem_iff.mp (List.mem_of_getElem? ht))
      obtain ⟨hB0, hBs, hB⟩ := lots_mem.mp hBm
      have hil : i < ys.length := (List.getElem?_eq_some_iff.mp ht).1
      have hll : lots.length = i := by
        have := congrArg List.length hkeys
        rw [List.length_map, List.length_map, List.length_take] at this
        omega
      walk_at "ws"
      refine ⟨m, L, Fa, cs, Tb, R2, ws, Ac, A', lo, mo, B, lots, rfl, hK3, hlo3, by omega, valV_nin (by
        rw [hkeys]
        intro hm
        obtain ⟨u, hu, e⟩ := List.mem_map.mp hm
        injection e with e
        subst e
        obtain ⟨j, hj, ej⟩ := List.mem_take_iff_getElem.mp hu
        obtain ⟨hi', ei⟩ := List.getElem?_eq_some_iff.mp ht
        have := (List.getElem_inj (h₀ := by omega) (h₁ := hi') hys).mp (ej.trans ei.symm)
        omega), hB, hBs, fun l H4 m4 hlo4 hLo => ?_⟩
      have hK4 := hK3.moK hlo3 m4
      have hT4 := tabs_moK hT3 hlo3 m4
      have m24 : Mo lo H2 H4 := m3.tr m4
      walk_at "ws"
      refine ⟨l, Fa, cs, R2, ws, B, rfl, hLo, two_cases fun v1 H5 e5 hv1 => ?_⟩
      walk_at "ws"
      refine ⟨l, Fa, cs, R2, ws, B, rfl, hLo.ex e5, two_cases fun v2 H6 e6 hv2 => ?_⟩
      walk_at "ws"
      refine ⟨l, Fa, cs, R2, ws, B, rfl, (hLo.ex e5).ex e6, two_cases fun v3 H7 e7 hv3 => ?_⟩
      walk_at "ws"
      refine k_tup (by walk_at "sz") fun tp H8 n8 e8 h8 => ?_
      have e48 : Ex H4 H8 := ((e5.tr e6).tr e7).tr e8
      have m28 : Mo lo H2 H8 := m24.tr e48.mo
      refine k_iS (b := false) (SqT.of h8) ?_
      refine k_forS (fun j σ H' => ∃ (z : Option V), Ex H8 H' ∧ (∀ (j' : Nat) (v : V), j' < j → ([v1, v2, v3] : List V)[j']? = some v → v = .non) ∧ σ = [some (.ref m), some (.ref Fa), some (.str (wO cs B)), some (.ref l), z])
        ⟨_, Ex.rfl', fun j' v hj => absurd hj (Nat.not_lt_zero _), rfl⟩ (fun _ _ _ ⟨_, r, _⟩ => SqT.of (r _ _ h8)) ?_ ?_
      · rintro j v σ H9 hv ⟨z, e9, hnon, rfl⟩
        walk_at "ws"
        have hcase : v = .non ∨ ∃ q, v = .ref q ∧ ¬ (QA.DO (QM.act R2 cs.length) (List.range cs.length) ∧ QA.AB (QM.act R2 cs.length) (List.range cs.length)) := by
          match j, hv with
          | 0, hv => cases hv; exact hv1.elim (fun h => .inl h.1) fun ⟨q, h1, h2⟩ => .inr ⟨q, h1, fun h => h2 h.1⟩
          | 1, hv => cases hv; exact hv2.elim (fun h => .inl h.1) fun ⟨q, h1, h2⟩ => .inr ⟨q, h1, fun h => h2 h.1⟩
          | 2, hv => cases hv; exact hv3.elim (fun h => .inl h.1) fun ⟨q, h1, h2⟩ => .inr ⟨q, h1, fun h => h2 h.2⟩
          | j + 3, hv => simp at hv
        rcases hcase with rfl | ⟨q, rfl, hnd⟩
        · refine k_if (fun z => by cases z) fun _ => ?_
          walk_at "ws"
          refine ⟨_, e9, fun j' v' hj' hv' => ?_, rfl⟩
          rcases Nat.lt_succ_iff_lt_or_eq.mp hj' with hj' | rfl
          · exact hnon j' v' hj' hv'
          · rw [hv] at hv'
            exact (Option.some.inj hv').symm
        · refine k_if (fun _ => ?_) fun z => by cases z
          walk_at "ws"
          exact k2 q H9 (hexb _ (m28.tr e9.mo)) ((hT4.ext e48).ext e9) ((m28.tr e9.mo) _ _ (Ne.symm nlm) hmo2) hnd
      · rintro σ H9 ⟨z, e9, hnon, rfl⟩
        walk_at "ws"
        have e49 : Ex H4 H9 := e48.tr e9
        refine ⟨_, _, _, _, m24.tr e49.mo, hK4.ex e49, hT4.ext e49, e49 _ _ hlo4, ?_, fun j C hj hC hjC => ?_, rfl⟩
        · rw [List.map_append, hkeys, List.take_add_one, ht, List.map_append]
          rfl
        · rcases Nat.lt_succ_iff_lt_or_eq.mp hj with hj | rfl
          · exact hno j C hj hC hjC
          · rw [ht] at hjC
            have hBC : B = C := wO_inj FBd.nd hB (lots_mem.mp hC).2.2 (Option.some.inj hjC)
            subst hBC
            have q1 := hnon 0 v1 (by simp) rfl
            have q2 := hnon 1 v2 (by simp) rfl
            have q3 := hnon 2 v3 (by simp) rfl
            subst q1 q2 q3
            exact ⟨hv1.elim (·.2) (fun ⟨q, h, _⟩ => by cases h), hv2.elim (·.2) (fun ⟨q, h, _⟩ => by cases h), hv3.elim (·.2) (fun ⟨q, h, _⟩ => by cases h)⟩
    · rintro σ H3 ⟨lots, z1, z2, z3, m3, hK3, hT3, hlo3, hkeys, hno, rfl⟩
      walk_at "ws"
      refine k1 H3 (hexb _ m3) hT3 (m3 _ _ (Ne.symm nlm) hmo2) ?_
      refine QA.do_ab_of Fi ((powl cs.length).drop 1) (fun w hw0 hw => ?_) fun B hB => ?_
      · refine ⟨(List.range cs.length).filter fun a => decide (a ∈ w), lots_mem.mpr ⟨fun e => ?_, (List.pairwise_lt_range).filter _, fun b hb => List.mem_range.mp (List.mem_filter.mp hb).1⟩, fun a => ?_⟩
        · obtain ⟨a, ha⟩ := List.exists_mem_of_ne_nil w hw0
          have : a ∈ (List.range cs.length).filter fun a => decide (a ∈ w) := List.mem_filter.mpr ⟨hw a ha, decide_eq_true ha⟩
          rw [e] at this
          cases this
        · rw [List.mem_filter]
          exact ⟨fun h => of_decide_eq_true h.2, fun h => ⟨hw a h, decide_eq_true h⟩⟩
      · obtain ⟨j, hj, ej⟩ := List.mem_iff_getElem.mp (hperm.mem_iff.mpr (List.mem_map.mpr ⟨B, hB, rfl⟩))
        exact hno j B (by rw [List.length_map]; exact hj) hB (by rw [List.getElem?_eq_getElem hj, ej])
end

/-! ## block_of -/
section
variable {P : Program} {w : World} {K : PySem.W.Frag} {mg : Str → Option Value} {base : Heap}
abbrev N_block_of : List Str := ["machine"]
theorem sc_block_of : FnScope N_block_of ["machine"] (defScope s_block_of) := ⟨rfl, rfl, rfl, by decide +kernel, rfl, by decide +kernel, by decide +kernel⟩
theorem ok_block_of {f : Addr} {fd : FuncData} {P0 : Addr} (F : FnP K "block_of" s_block_of f fd) (T : Txt K mg) (k_search : Kn P w K mg base CX0 10 "search" ["machine"] (sp_search K P0)) : FnOk P w K mg base CX0 11 f fd ["machine"] (sp_block_of K P0) := by
  refine F.ok sc_block_of (fun vs H Q E h => ?_) (fun cdv A outer s H vs Q E hr h => ?_)
  · obtain ⟨m, L, Fa, cs, Tb, R, ws, A, A', lo, mo, rfl, _⟩ := h
    rfl
  · obtain ⟨m, L, Fa, cs, Tb, R, ws, Ac, A', lo, mo, rfl, hK, hT, k1, k2⟩ := h
    obtain ⟨C0, dx0, tb0, ac0, hm0, hC0, hT0, hA0⟩ := hK.km.m_
    have hmo := hK.hmo
    have nml : m ≠ lo := fun e => by rw [e, hK.hlo] at hm0; cases hm0
    have nmm : m ≠ mo := fun e => by rw [e, hmo] at hm0; cases hm0
    refine ⟨_, PSs.nox (pss_cons (ps_if (pt_cmp (pc_dnotin (hu_of hr) pe_str (pe_fldK (K := K) (pv 0))) rfl)
    (pss_one (ps_dput (hu_of hr) (pe_fldK (K := K) (pv 0)) pe_str (pe_kn k_search (hr.mono (by decide)) rfl (pa_cons (pv 0) pa_nil)) rfl))
    pss_nil)
    (pss_one (ps_ret (pe_dget (hu_of hr) (pe_fldK (K := K) (pv 0)) pe_str (fun _ _ => rfl))))), ?_⟩
    walk_at "ws"
    refine k_di2S hmo ?_
    walk_at "ws"
    refine k_if (fun _ => ?_) fun z => by cases z
    walk_at "ws"
    have fin : ∀ (v : V) (H1 : Hp), ExB lo mo H H1 → LamX.Tabs [(P0, qLam)] H1 → H1 mo = some (.dK []) → ∀ H2, Mo mo H1 H2 → ExB lo mo H H2 ∧ LamX.Tabs [(P0, qLam)] H2 := fun v H1 eb t1 h1 H2 m2 =>
      ⟨fun a o n1 n2 h ht => m2 _ _ n2 (eb _ _ n1 n2 h ht), tabs_moK t1 h1 m2⟩
    refine ⟨m, L, Fa, cs, Tb, R, ws, Ac, A', lo, mo, rfl, hK, hT, fun H1 eb t1 h1 hy => ?_, fun p H1 eb t1 h1 hn => ?_⟩
    · have hm1 : H1 m = _ := eb _ _ nml nmm hm0 (fun _ z => nomatch z)
      walk_at "ws"
      refine k_dp3S h1 (by rw [sizeLine_eq]; simp) fun H2 m2 h2 => ?_
      have hm2 : H2 m = _ := m2 _ _ nmm hm1
      walk_at "ws"
      refine k_dg2S h2 (v := .non) rfl ?_
      exact k1 H2 (fin .non H1 eb t1 h1 H2 m2).1 (fin .non H1 eb t1 h1 H2 m2).2 hy
    · have hm1 : H1 m = _ := eb _ _ nml nmm hm0 (fun _ z => nomatch z)
      walk_at "ws"
      refine k_dp3S h1 (by rw [sizeLine_eq]; simp) fun H2 m2 h2 => ?_
      have hm2 : H2 m = _ := m2 _ _ nmm hm1
      walk_at "ws"
      refine k_dg2S h2 (v := .ref p) rfl ?_
      exact k2 p H2 (fin .non H1 eb t1 h1 H2 m2).1 (fin .non H1 eb t1 h1 H2 m2).2 hn
end

/-! ## pairs_of -/
section
variable {P : Program} {w : World} {K : PySem.W.Frag} {mg : Str → Option Value} {base : Heap}
abbrev N_pairs_of : List Str := ["letters", "a", "b"]
theorem sc_pairs_of : FnScope N_pairs_of ["letters"] (defScope s_pairs_of) := ⟨rfl, rfl, rfl, by decide +kernel, rfl, by decide +kernel, by decide +kernel⟩
theorem ok_pairs_of {f : Addr} {fd : FuncData} (F : FnP K "pairs_of" s_pairs_of f fd) (T : Txt K mg) : FnOk P w K mg base CX0 1 f fd ["letters"] sp_pairs_of := by
  refine F.ok sc_pairs_of (fun vs H Q E h => ?_) (fun cdv A outer s H vs Q E hr h => ?_)
  · obtain ⟨cs, rfl, _⟩ := h
    rfl
  · obtain ⟨cs, rfl, hasc, h4, k⟩ := h
    refine ⟨_, PSs.nox (pss_one (ps_ret (pe_lc2 (own := [("a", 1), ("b", 2)]) (vs1 := [2]) rfl sc_pairs_of.nd (pi_str (pv 0)) (blkOk_by (own := [("a", 1), ("b", 2)]) (N := N_pairs_of) (sc := defScope s_pairs_of) (by decide +kernel)) (by decide) (fun _ _ _ _ _ => (pg_name (i := 1) sc_pairs_of.nd rfl (by first | exact Or.inl rfl | exact Or.inr rfl))) (fun _ _ _ _ _ => pts_nil) (fun _ _ _ _ _ => (pi_str (pv 0))) (fun _ _ _ _ _ => (pg_name (i := 2) sc_pairs_of.nd rfl (by first | exact Or.inl rfl | exact Or.inr rfl))) (fun _ _ _ _ _ => pts_one (pt_cmpR op_ltS (pv 1) (pv 2) (nomark _))) (fun _ _ _ _ _ => (pe_tup (pa_cons (pv 1) (pa_cons (pv 2) pa_nil))))))), ?_⟩
    walk_at "ws"
    intro D hD
    have hsz : (sO cs).cps.size = cs.length := by simp
    have hch : ∀ {j c : Nat}, (sO cs).cps[j]? = some c → cs[j]? = some c := fun h => by simpa using h
    have sgnw : ∀ {j c : Nat}, cs[j]? = some c → (⟨#[c]⟩ : Str) = wO cs [j] := fun {j c} h => by
      have : c = cs.getD j 0 := by rw [List.getD_eq_getElem?_getD, h]; rfl
      rw [this]
      rfl
    let row (i j : Nat) : List (Nat × Nat) := ((List.range j).filter fun b => decide (i < b)).map fun b => (i, b)
    have up : ∀ i, pairsUp cs.length (i + 1) = pairsUp cs.length i ++ row i cs.length := fun i => by
      unfold pairsUp
      rw [List.range_succ, List.flatMap_append, List.flatMap_singleton]
    have rowS : ∀ i j, row i (j + 1) = row i j ++ (if i < j then [(i, j)] else []) := fun i j => by
      show ((List.range (j + 1)).filter fun b => decide (i < b)).map (fun b => (i, b)) = _
      rw [List.range_succ, List.filter_append, List.map_append]
      congr 1
      by_cases h : i < j <;> simp [h]
    have rowlen : ∀ i j, (row i j).length ≤ j := fun i j => by
      show (((List.range j).filter fun b => decide (i < b)).map fun b => (i, b)).length ≤ j
      rw [List.length_map]
      have := List.length_filter_le (fun b => decide (i < b)) (List.range j)
      rwa [List.length_range] at this
    have uplen : ∀ i, (pairsUp cs.length i).length ≤ i * cs.length := fun i => by
      induction i with
      | zero => simp [pairsUp]
      | succ i ih =>
        rw [up, List.length_append, Nat.succ_mul]
        have := rowlen i cs.length
        omega
    refine ⟨fun i m H' => m = cs.length - i ∧ i ≤ cs.length ∧ Ex H H' ∧ ∃ us, H' D = some (.lst us) ∧ prT cs H' us (pairsUp cs.length i), ⟨_, rfl, Nat.zero_le _, Ex.new hD, [], upd_same, rfl, fun j p h => by simp [pairsUp] at h⟩, ?_⟩
    rintro i m H1 ⟨rfl, hi, e1, us, h1, hp⟩
    by_cases hlt : i < cs.length
    · refine .inr ⟨by show i < (sO cs).cps.size; rw [hsz]; exact hlt, fun H' => Ex H H' ∧ ∃ us, H' D = some (.lst us) ∧ prT cs H' us (pairsUp cs.length (i + 1)), fun H' p' => ⟨cs.length - (i + 1), by omega, rfl, hlt, p'⟩, ?_⟩
      rintro x H2 ⟨rfl, c, hc, rfl⟩
      have hca := hch hc
      refine ⟨rfl, ?_⟩
      unfold tYes
      dsimp only
      rw [if_pos rfl]
      walk_at "ws"
      refine ⟨fun j n H' => n = cs.length - j ∧ j ≤ cs.length ∧ Ex H H' ∧ ∃ us, H' D = some (.lst us) ∧ prT cs H' us (pairsUp cs.length i ++ row i j), ⟨_, rfl, Nat.zero_le _, e1, us, h1, by simpa [row] using hp⟩, ?_⟩
      rintro j n H3 ⟨rfl, hj, e3, us3, h3, hp3⟩
      by_cases hjl : j < cs.length
      · refine .inr ⟨by show j < (sO cs).cps.size; rw [hsz]; exact hjl, fun H' => Ex H H' ∧ ∃ us, H' D = some (.lst us) ∧ prT cs H' us (pairsUp cs.length i ++ row i (j + 1)), fun H' p' => ⟨cs.length - (j + 1), by omega, rfl, hjl, p'⟩, ?_⟩
        rintro y H4 ⟨rfl, c2, hc2, rfl⟩
        have hcb := hch hc2
        refine ⟨rfl, ?_⟩
        walk_at "ws"
        have hcmp : decide ((⟨#[c]⟩ : Str).cps.toList < (⟨#[c2]⟩ : Str).cps.toList) = decide (i < j) := by
          refine decide_eq_decide.mpr ?_
          show [c] < [c2] ↔ i < j
          obtain ⟨hi', ei⟩ := List.getElem?_eq_some_iff.mp hca
          obtain ⟨hj', ej⟩ := List.getElem?_eq_some_iff.mp hcb
          rw [List.cons_lt_cons_iff]
          constructor
          · rintro (h | ⟨_, h⟩)
            · refine Classical.byContradiction fun hn => ?_
              rcases Nat.lt_or_ge j i with hji | hji
              · have := List.pairwise_iff_getElem.mp hasc j i hj' hi' hji
                omega
              · have : i = j := by omega
                subst this
                omega
            · exact absurd h (List.lt_irrefl _)
          · intro h
            have := List.pairwise_iff_getElem.mp hasc i j hi' hj' h
            exact .inl (by omega)
        rw [hcmp]
        by_cases hij : i < j
        · rw [if_pos (decide_eq_true hij)]
          walk_at "ws"
          rw [sgnw hca, sgnw hcb]
          refine k_tup (by walk_at "sz") fun tp H5 n5 e5 h5 => ?_
          have hl3 : us3.length ≤ 100 := by
            have a1 := uplen i
            have a2 := rowlen i j
            have a3 : i * cs.length ≤ 4 * 4 := Nat.mul_le_mul (by omega) h4
            rw [hp3.1, List.length_append]
            omega
          refine ⟨us3, e5 _ _ h3, by rw [sizeLine_eq]; omega, (Mo.of).ex (e3.tr e5) hD, us3 ++ [.ref tp], upd_same, by rw [rowS, if_pos hij]; simp [hp3.1]; omega, fun j' p' hp' => ?_⟩
          have hne : ∀ r o, H5 r = some o → (∀ l, o ≠ .lst l) → upd H5 D (.lst (us3 ++ [.ref tp])) r = some o := fun r o h hn => by
            rw [upd_ne (fun e => by rw [e, e5 _ _ h3] at h; exact hn _ (Option.some.inj h).symm)]
            exact h
          rw [rowS, if_pos hij, ← List.append_assoc, List.getElem?_append] at hp'
          split at hp'
          · rename_i hlt'
            obtain ⟨r, r1, r2⟩ := hp3.2 j' p' hp'
            exact ⟨r, by rw [List.getElem?_append_left (by rw [hp3.1]; exact hlt')]; exact r1, hne _ _ (e5 _ _ r2) (fun _ z => nomatch z)⟩
          · rename_i hlt'
            have hj0 : j' - (pairsUp cs.length i ++ row i j).length = 0 := by
              cases hk : j' - (pairsUp cs.length i ++ row i j).length with
              | zero => rfl
              | succ k => rw [hk] at hp'; simp at hp'
            rw [hj0] at hp'
            have : (i, j) = p' := by simpa using hp'
            subst this
            have hl := hp3.1
            exact ⟨tp, by rw [List.getElem?_append_right (by omega), show j' - us3.length = 0 by omega]; rfl, hne _ _ h5 (fun _ z => nomatch z)⟩
        · rw [if_neg (by rw [decide_eq_false hij]; decide)]
          exact ⟨e3, us3, h3, by rw [rowS, if_neg hij, List.append_nil]; exact hp3⟩
      · have : j = cs.length := by omega
        subst this
        exact .inl ⟨by show (sO cs).cps.size ≤ _; rw [hsz]; exact Nat.le_refl _, e3, us3, h3, by rw [up]; exact hp3⟩
    · have : i = cs.length := by omega
      subst this
      exact .inl ⟨by show (sO cs).cps.size ≤ _; rw [hsz]; exact Nat.le_refl _, k D us H1 e1 h1 hp⟩
end

/-! ## fixed -/
section
variable {P : Program} {w : World} {K : PySem.W.Frag} {mg : Str → Option Value} {base : Heap}
abbrev N_fixed : List Str := ["machine", "a", "b"]
theorem sc_fixed : FnScope N_fixed ["machine"] (defScope s_fixed) := ⟨rfl, rfl, rfl, by decide +kernel, rfl, by decide +kernel, by decide +kernel⟩
theorem ok_fixed {f : Addr} {fd : FuncData} (F : FnP K "fixed" s_fixed f fd) (T : Txt K mg) (k_pairs_of : Kn P w K mg base CX0 1 "pairs_of" ["letters"] sp_pairs_of) (k_may_change : Kn P w K mg base CX0 6 "may_change" ["machine", "a", "b"] (sp_may_change K)) : FnOk P w K mg base CX0 7 f fd ["machine"] (sp_fixed K) := by
  refine F.ok sc_fixed (fun vs H Q E h => ?_) (fun cdv A outer s H vs Q E hr h => ?_)
  · obtain ⟨m, cs, Tb, A, kf, lo, mo, L, R, A', rfl, _⟩ := h
    rfl
  · obtain ⟨m, cs, Tb, Ac, kf, lo, mo, L, R, A', rfl, hM, hmat, hL, k1, k2⟩ := h
    obtain ⟨C0, dx0, tb0, ac0, hm0, hC0, hT0, hA0⟩ := id hmat
    refine ⟨_, PSs.nox (pss_one (ps_ret (pe_callB (callAll (K := K) rfl) (by rfl) T.all (by decide +kernel) (pa_cons (pe_lc (own := [("a", 1), ("b", 2)]) rfl sc_fixed.nd (pi_seqK (K := K) (pe_kn k_pairs_of (hr.mono (by decide)) rfl (pa_cons (pe_fldK (K := K) (pv 0)) pa_nil))) (blkOk_by (own := [("a", 1), ("b", 2)]) (N := N_fixed) (sc := defScope s_fixed) (by decide +kernel)) (fun _ _ _ _ _ => (pg_tupK (K := K) (n := 2) rfl (pgs_cons (pg_name (i := 1) sc_fixed.nd rfl (by first | exact Or.inl rfl | exact Or.inr rfl)) (pgs_cons (pg_name (i := 2) sc_fixed.nd rfl (by first | exact Or.inl rfl | exact Or.inr rfl)) pgs_nil)))) (fun _ _ _ _ _ => pts_nil) (fun _ _ _ _ _ => (pe_kn k_may_change (hr.mono (by decide)) rfl (pa_cons (pv 0) (pa_cons (pv 1) (pa_cons (pv 2) pa_nil)))))) pa_nil)))), ?_⟩
    walk_at "ws"
    refine ⟨cs, rfl, hM.asc, hM.four, fun p us H1 e1 h1 hpr => ?_⟩
    refine k_iS (b := true) (SqL.of h1) ?_
    have hle : (pairsUp cs.length cs.length).length ≤ 16 := by
      have : ∀ {k : Nat}, k ≤ 4 → (pairsUp k k).length ≤ 16 := fun {k} h => by
        match k, h with
        | 0, _ => decide
        | 1, _ => decide
        | 2, _ => decide
        | 3, _ => decide
        | 4, _ => decide
      exact this hM.four
    have hpm : ∀ p ∈ pairsUp cs.length cs.length, p.1 < cs.length ∧ p.2 < cs.length ∧ p.1 < p.2 := fun p hp => by
      unfold pairsUp at hp
      obtain ⟨a, ha, hp⟩ := List.mem_flatMap.mp hp
      obtain ⟨b, hb, rfl⟩ := List.mem_map.mp hp
      obtain ⟨hb, hab⟩ := List.mem_filter.mp hb
      exact ⟨List.mem_range.mp ha, List.mem_range.mp hb, of_decide_eq_true hab⟩
    refine k_lcSP (by rw [hpr.1]; omega) (((pairsUp cs.length cs.length).map fun p => decide (QM.deed R [p.1, p.2] = QM.deed R [p.2, p.1])).map V.bl) (by rw [List.length_map, List.length_map, hpr.1]) (SqL.of h1) (fun j x H2 Qc hj e2 kk => ?_) fun Dl H2 n2 e2 h2 => ?_
    · have hjl : j < (pairsUp cs.length cs.length).length := by rw [← hpr.1]; exact (List.getElem?_eq_some_iff.mp hj).1
      obtain ⟨r, r1, r2⟩ := hpr.2 j _ (List.getElem?_eq_getElem hjl)
      obtain ⟨ha, hb, _⟩ := hpm _ (List.getElem_mem hjl)
      generalize hpe : (pairsUp cs.length cs.length)[j] = pr at *
      rw [hj] at r1
      cases r1
      refine ⟨r, _, rfl, SqT.of (e2 _ _ r2), rfl, _, _, rfl, _, _, rfl, rfl, rfl, ?_⟩
      walk_at "ws"
      refine ⟨m, cs, Tb, Ac, kf, lo, mo, L, R, A', pr.1, pr.2, rfl, hM, (hmat.ex e1).ex e2, (hL.ex e1).ex e2, ha, hb, fun H3 e3 => ?_⟩
      exact kk _ _ (by simp [hjl, hpe]) e3
    · refine r_all (SqL.of h2) ?_
      walk_at "ws"
      by_cases hc : ∀ a b, a < cs.length → b < cs.length → QM.deed R [a, b] = QM.deed R [b, a]
      · have : ((pairsUp cs.length cs.length).map fun p => decide (QM.deed R [p.1, p.2] = QM.deed R [p.2, p.1])).all id = true := by
          rw [List.all_map, List.all_eq_true]
          intro p hp
          exact decide_eq_true (hc _ _ (hpm p hp).1 (hpm p hp).2.1)
        rw [this]
        exact k1 _ (e1.tr e2) hc
      · have : ((pairsUp cs.length cs.length).map fun p => decide (QM.deed R [p.1, p.2] = QM.deed R [p.2, p.1])).all id = false := by
          rw [Bool.eq_false_iff]
          intro ha
          rw [List.all_map, List.all_eq_true] at ha
          refine hc fun a b h1 h2 => ?_
          have key : ∀ a b, a < cs.length → b < cs.length → a < b → QM.deed R [a, b] = QM.deed R [b, a] := fun a b h1 h2 h3 =>
            of_decide_eq_true (ha (a, b) (List.mem_flatMap.mpr ⟨a, List.mem_range.mpr h1, List.mem_map.mpr ⟨b, List.mem_filter.mpr ⟨List.mem_range.mpr h2, decide_eq_true h3⟩, rfl⟩⟩))
          rcases Nat.lt_trichotomy a b with h | h | h
          · exact key a b h1 h2 h
          · subst h; rfl
          · exact (key b a h2 h1 h).symm
        rw [this]
        exact k2 _ (e1.tr e2) hc
end

/-! ## kind -/
section
variable {P : Program} {w : World} {K : PySem.W.Frag} {mg : Str → Option Value} {base : Heap}
abbrev N_kind : List Str := ["machine"]
theorem sc_kind : FnScope N_kind ["machine"] (defScope s_kind) := ⟨rfl, rfl, rfl, by decide +kernel, rfl, by decide +kernel, by decide +kernel⟩
theorem ok_kind {f : Addr} {fd : FuncData} {P0 : Addr} (F : FnP K "kind" s_kind f fd) (T : Txt K mg) (k_field_of : Kn P w K mg base CX0 8 "field_of" ["machine"] (sp_field_of K)) (k_fixed : Kn P w K mg base CX0 7 "fixed" ["machine"] (sp_fixed K)) (k_block_of : Kn P w K mg base CX0 11 "block_of" ["machine"] (sp_block_of K P0)) : FnOk P w K mg base CX0 12 f fd ["machine"] (sp_kind K P0) := by
  refine F.ok sc_kind (fun vs H Q E h => ?_) (fun cdv A outer s H vs Q E hr h => ?_)
  · obtain ⟨m, cs, Tb, A, kl, kf, lo, mo, G, rfl, _⟩ := h
    rfl
  · obtain ⟨m, cs, Tb, Ac, kl, kf, lo, mo, G, rfl, hM, hmat, hLP, hFP, hG, hlo, hmo, nlm, hT, k⟩ := h
    refine ⟨_, PSs.nox (pss_cons (ps_expr (pe_kn k_field_of (hr.mono (by decide)) rfl (pa_cons (pv 0) pa_nil)))
    (pss_cons (ps_if (pt_val (pe_kn k_fixed (hr.mono (by decide)) rfl (pa_cons (pv 0) pa_nil)))
    (pss_one (ps_ret pe_str))
    pss_nil)
    (pss_cons (ps_if (pt_cmp (pc_isN (pe_kn k_block_of (hr.mono (by decide)) rfl (pa_cons (pv 0) pa_nil))) rfl)
    (pss_one (ps_ret pe_str))
    pss_nil)
    (pss_one (ps_ret pe_str))))), ?_⟩
    obtain ⟨C0, dx0, tb0, ac0, hm0⟩ := hmat.ins
    have nml : m ≠ lo := fun e => by rw [e, hlo] at hm0; cases hm0
    have nmm : m ≠ mo := fun e => by rw [e, hmo] at hm0; cases hm0
    walk_at "ws"
    refine ⟨m, cs, Tb, Ac, kl, kf, lo, mo, G, rfl, hM, hmat, hLP, hFP, hG, fun Fa L R A' ws H1 gR m1 hm1 hL1 hF1 _ _ => ?_⟩
    have hT1 : LamX.Tabs [(P0, qLam)] H1 := fun p hp => by
      obtain ⟨ps, h1, h2, h3⟩ := hT p hp
      refine ⟨ps, m1 _ _ (fun e => by rw [e, hm0] at h1; cases h1) h1, h2, fun pos cv hc => ?_⟩
      obtain ⟨c, e1, e2⟩ := h3 pos cv hc
      exact ⟨c, e1, m1 _ _ (fun e => by rw [e, hm0] at e2; unfold LamX.CodeO at e2; cases e2) e2⟩
    walk_at "ws"
    refine ⟨m, cs, Tb, Ac, _, lo, mo, L, R, A', rfl, hM, hm1, hL1, fun H2 e2 hc => ?_, fun H2 e2 hc => ?_⟩
    · walk_at "ws"
      refine k_if (fun _ => ?_) fun z => by cases z
      walk_at "ws"
      rw [show V.str "fixed" = .str (kS (QM.kdR R cs.length)) by rw [QM.kdR_0 hc]; rfl]
      exact k R H2 gR ((Kp.mo m1 (by simp)).tr (Kp.ex e2)) (hT1.ext e2)
    · walk_at "ws"
      refine k_if (fun z => by cases z) fun _ => ?_
      walk_at "ws"
      have hK2 : KM0 K H2 m L Fa cs Tb R ws Ac A' lo mo := ⟨⟨hM, hm1.ex e2, hL1.ex e2, hF1.ex e2⟩, e2 _ _ (m1 _ _ (Ne.symm nml) hlo), e2 _ _ (m1 _ _ (Ne.symm nmm) hmo), nlm⟩
      have kp : ∀ H3, ExB lo mo H2 H3 → Kp [m, lo, mo] H H3 := fun H3 eb => ((Kp.mo m1 (by simp)).tr (Kp.ex e2)).tr fun a o n q t => eb a o (fun z => n (by simp [z])) (fun z => n (by simp [z])) q t
      refine ⟨m, L, Fa, cs, Tb, R, ws, Ac, A', lo, mo, rfl, hK2, hT1.ext e2, fun H3 eb hT3 hda => ?_, fun p H3 eb hT3 hda => ?_⟩
      · walk_at "ws"
        refine k_if (fun _ => ?_) fun z => by cases z
        walk_at "ws"
        rw [show V.str "digits" = .str (kS (QM.kdR R cs.length)) by rw [QM.kdR_1 hc hda]; rfl]
        exact k R H3 gR (kp _ eb) hT3
      · walk_at "ws"
        refine k_if (fun z => by cases z) fun _ => ?_
        walk_at "ws"
        rw [show V.str "length" = .str (kS (QM.kdR R cs.length)) by rw [QM.kdR_2 hc hda]; rfl]
        exact k R H3 gR (kp _ eb) hT3
end

/-! ## silenced -/
section
variable {P : Program} {w : World} {K : PySem.W.Frag} {mg : Str → Option Value} {base : Heap}
abbrev N_silenced : List Str := ["machine", "letters", "left", "places", "table", "letter", "row", "place"]
theorem sc_silenced : FnScope N_silenced ["machine", "letters"] (defScope s_silenced) := ⟨rfl, rfl, rfl, by decide +kernel, rfl, by decide +kernel, by decide +kernel⟩
theorem ok_silenced {f : Addr} {fd : FuncData} (F : FnP K "silenced" s_silenced f fd) (T : Txt K mg) (k_RawMachine_init : Kc P w K mg base CX0 2 (aR K) "RawMachine" ["self", "letters", "table", "accepts"] (sp_keep (aR K))) (k_least : Kn P w K mg base CX0 4 "least" ["machine"] (sp_least K)) : FnOk P w K mg base CX0 5 f fd ["machine", "letters"] (sp_silenced K) := by
  refine F.ok sc_silenced (fun vs H Q E h => ?_) (fun cdv A outer s H vs Q E hr h => ?_)
  · obtain ⟨m, cs, Tb, A, kl, kf, lo, mo, B, rfl, _⟩ := h
    rfl
  · obtain ⟨m, cs, Tb, Ac, kl, kf, lo, mo, B, rfl, hM, hmat, hBs, hB, hBl, k⟩ := h
    obtain ⟨C0, dx0, tb0, ac0, hm0, hC0, hT0, hA0⟩ := id hmat
    have four := hM.four
    refine ⟨_, PSs.nox (pss_cons (ps_set (i := 2) sc_silenced.nd rfl (Or.inl rfl) (pe_joinK (K := K) pe_str (pe_lc (own := [("letter", 5)]) rfl sc_silenced.nd (pi_str (pe_fldK (K := K) (pv 0))) (blkOk_by (own := [("letter", 5)]) (N := N_silenced) (sc := defScope s_silenced) (by decide +kernel)) (fun _ _ _ _ _ => (pg_name (i := 5) sc_silenced.nd rfl (by first | exact Or.inl rfl | exact Or.inr rfl))) (fun _ _ _ _ _ => pts_one (pt_cmpR op_notInS (pv 5) (pv 1) rfl)) (fun _ _ _ _ _ => (pv 5)))))
    (pss_cons (ps_set (i := 3) sc_silenced.nd rfl (Or.inr rfl) (pe_lc (own := [("letter", 5)]) rfl sc_silenced.nd (pi_str (pv 2)) (blkOk_by (own := [("letter", 5)]) (N := N_silenced) (sc := defScope s_silenced) (by decide +kernel)) (fun _ _ _ _ _ => (pg_name (i := 5) sc_silenced.nd rfl (by first | exact Or.inl rfl | exact Or.inr rfl))) (fun _ _ _ _ _ => pts_nil) (fun _ _ _ _ _ => (pe_bmK (K := K) PySem.F.plainAttrs_str PySem.F.slot_str_index PySem.F.type_str_index mtSIndex (pe_fldK (K := K) (pv 0)) (pa_cons (pv 5) pa_nil)))))
    (pss_cons (ps_set (i := 4) sc_silenced.nd rfl (Or.inl rfl) (pe_tupleOfK (K := K) rfl T.tuple (pe_lc (own := [("row", 6)]) rfl sc_silenced.nd (pi_seqK (K := K) (pe_fldK (K := K) (pv 0))) (blkOk_by (own := [("row", 6)]) (N := N_silenced) (sc := defScope s_silenced) (by decide +kernel)) (fun _ _ _ _ _ => (pg_name (i := 6) sc_silenced.nd rfl (by first | exact Or.inl rfl | exact Or.inr rfl))) (fun _ _ _ _ _ => pts_nil) (fun _ _ _ _ _ => (pe_tupleOfK (K := K) rfl T.tuple (pe_lc (own := [("place", 7)]) rfl sc_silenced.nd (pi_seqK (K := K) (pv 3)) (blkOk_by (own := [("place", 7)]) (N := N_silenced) (by dsimp only [compEnvC, relabel, cxOf, Cx.nox, Cx.wish, PyProof.Rows.envOfC, Env.kindOf]; exact rfl)) (fun _ _ _ _ _ => (pg_name (i := 7) sc_silenced.nd rfl (by first | exact Or.inl rfl | exact Or.inr rfl))) (fun _ _ _ _ _ => pts_nil) (fun _ _ _ _ _ => (pe_ix (ixT (K := K)) (pv 6) (pv 7) (fun _ _ => rfl)))))))))
    (pss_one (ps_ret (pe_kn k_least (hr.mono (by decide)) rfl (pa_cons (pe_mk k_RawMachine_init (hr.mono (by decide)) rfl (pa_cons (pv 2) (pa_cons (pv 4) (pa_cons (pe_fldK (K := K) (pv 0)) pa_nil)))) pa_nil))))))), ?_⟩
    let ps := QM.leftL cs.length B
    let lf := ps.map fun a => cs.getD a 0
    have hpsl : ps.length ≤ cs.length := QM.leftL_len
    have hplt : ∀ p ∈ ps, p < cs.length := QM.leftL_lt
    walk_at "ws"
    refine k_lcF walk_str (by show (sO cs).cps.size ≤ 100000; simp; omega) (fun j => !decide (j ∈ B)) (fun j => V.str ⟨#[cs.getD j 0]⟩) (fun _ _ => trivial) (fun j x H1 H2 Qb Qc hj hY e1 kq kb => ?_) (fun al H1 n1 e1 h1 => ?_)
    · obtain ⟨rfl, c, hc, rfl⟩ := hY
      have hjl : j < cs.length := by simpa using hj
      have hcc : c = cs.getD j 0 := by
        have : ((sO cs).cps)[j]? = some (cs.getD j 0) := by simp [hjl]
        rw [this] at hc
        exact (Option.some.inj hc).symm
      subst hcc
      walk_at "ws"
      rw [show decide (cs.getD j 0 ∈ (wO cs B).cps.toList) = decide (j ∈ B) from decide_eq_decide.mpr (wO_mem hM.nodup hB hjl)]
      by_cases hs : j ∈ B
      · rw [decide_eq_true hs]
        exact kb _ (by simp [hs]) Ex.rfl'
      · rw [decide_eq_false hs]
        show tVar _ _ _ _
        walk_at "ws"
        exact kq _ (by simp [hs]) Ex.rfl'
    have hk1 : kept (fun j => !decide (j ∈ B)) (fun j => V.str ⟨#[cs.getD j 0]⟩) (sO cs).cps.size = lf.map fun c => V.str ⟨#[c]⟩ := by
      have : (sO cs).cps.size = cs.length := by simp
      rw [this]
      show List.map _ (List.filter _ (List.range cs.length)) = List.map _ (List.map _ (List.filter _ (List.range cs.length)))
      rw [List.map_map]
      rfl
    rw [hk1] at h1
    refine r_joinC (SqL.of h1) (by rw [List.length_map]; omega) ?_
    walk_at "ws"
    refine k_lcP walk_str (by show (sO lf).cps.size ≤ 100000; simp [lf]; omega) (ps.map iv) (by simp [lf]) (fun _ _ => trivial) (fun j x H3 H4 Qc hj hY e3 k3 => ?_) fun pl H3 n3 e3 h3 => ?_
    · obtain ⟨rfl, c, hc, rfl⟩ := hY
      have hjl : j < ps.length := by simpa [lf] using hj
      have hcc : c = cs.getD ps[j] 0 := by
        have : ((sO lf).cps)[j]? = some (cs.getD ps[j] 0) := by simp [lf, hjl]
        rw [this] at hc
        exact (Option.some.inj hc).symm
      subst hcc
      have hak : ps[j] < cs.length := hplt _ (List.getElem_mem hjl)
      have hm4 : H4 m = _ := e3 _ _ (e1 _ _ hm0)
      walk_at "ws"
      refine r_sindex (i := ps[j]) (by simp [hak]) hM.nodup ?_
      exact k3 _ _ (by simp [hjl]) Ex.rfl'
    have e03 := e1.tr e3
    have hm3 : H3 m = _ := e03 _ _ hm0
    obtain ⟨tb', us, e', htb, htl, hrow⟩ := hT0
    cases e'
    walk_at "ws"
    refine k_iS (b := false) (SqT.of (e03 _ _ htb)) ?_
    have six := hM.six
    refine k_lcS (by omega) (fun Dl j y H' => ∃ r, (QM.rst Tb ps)[j]? = some r ∧ TupN H' y r) (SqT.of (e03 _ _ htb)) (fun Dl j y Ha Hb hl mm ⟨r, h1, h2⟩ => ⟨r, h1, h2.tp (mm.tp fun xs q => by obtain ⟨l, hl⟩ := hl; rw [hl] at q; cases q)⟩) (fun Dl j x H4 Qc hj e4 nDl hDl kq => ?_) fun Dl H4 us4 n4 e4 h4 hl4 hr4 => ?_
    · have hjl : j < Tb.length := by rw [← htl]; exact (List.getElem?_eq_some_iff.mp hj).1
      obtain ⟨u, hu, rT⟩ := hrow j _ (List.getElem?_eq_getElem hjl)
      rw [hj] at hu
      cases hu
      obtain ⟨ra, rfl, hra⟩ := rT.ex (e03.tr e4)
      walk_at "ws"
      refine k_iS (b := true) (SqL.of (e4 _ _ h3)) ?_
      refine k_lcSP (by rw [List.length_map]; omega) ((ps.map fun p => Tb[j].getD p 0).map iv) (by simp) (SqL.of (e4 _ _ h3)) (fun i y H5 Qc5 hi e5 k5 => ?_) fun D5 H5 n5 e5 h5 => ?_
      · obtain ⟨p, hp, rfl⟩ := at_map hi
        have hpk : p < cs.length := hplt p (List.mem_of_getElem? hp)
        walk_at "ws"
        refine r_ixT (n := p) (SqT.of (e5 _ _ hra)) (at_iv (b := Tb[j]) (by rw [(hM.t.row _ (List.getElem_mem hjl)).1]; exact hpk)) ?_
        exact k5 _ _ (by simp [hp]) Ex.rfl'
      · refine k_tupleL (SqL.of h5) fun p6 H6 n6 e6 h6 => ?_
        exact kq _ _ (e5.tr e6) ⟨ps.map fun p => Tb[j].getD p 0, by simp [QM.rst, hjl], p6, rfl, h6⟩
    · refine k_tupleL (SqL.of h4) fun tb5 H5 n5 e5 h5 => ?_
      have e05 : Ex H H5 := (e03.tr e4).tr e5
      have hm5 : H5 m = _ := e05 _ _ hm0
      have hT5 : TabT H5 (.ref tb5) (QM.rst Tb ps) := ⟨tb5, us4, rfl, h5, by rw [hl4, QM.rst_len, htl], fun i r hr => by
        have hi : i < us4.length := by
          rw [hl4, htl, ← QM.rst_len (ps := ps)]
          exact (List.getElem?_eq_some_iff.mp hr).1
        obtain ⟨r', h1, h2⟩ := hr4 i _ (List.getElem?_eq_getElem hi)
        rw [hr] at h1
        cases h1
        exact ⟨_, List.getElem?_eq_getElem hi, h2.ex e5⟩⟩
      have hA5 := hA0.ex e05
      have hlf : lf.length = ps.length := by simp [lf]
      have hMD : MD lf (QM.rst Tb ps) Ac := ⟨by
          refine List.pairwise_map.mpr ((QM.leftL_asc (k := cs.length) (B := B)).imp_of_mem fun {a b} ha hb hab => ?_)
          have ha' := hplt a ha
          have hb' := hplt b hb
          rw [List.getD_eq_getElem?_getD, List.getD_eq_getElem?_getD, List.getElem?_eq_getElem ha', List.getElem?_eq_getElem hb']
          exact List.pairwise_iff_getElem.mp hM.asc a b ha' hb' hab, by rw [hlf]; exact QM.leftL_pos (hBs.imp fun h => Nat.ne_of_lt h) hBl, by omega, by rw [hlf]; exact QM.rst_ok hM.t hplt, by rw [QM.rst_len]; exact six, hM.acc⟩
      walk_at "ws"
      refine k_make fun q dx H6 nq nd nn e6 h6 h6d => ?_
      refine ⟨q, dx, tb5, ac0, sO lf, rfl, h6, fun lo2 mo2 H7 nlo nmo nlm m7 h7 hlo7 hmo7 => ⟨rfl, ?_⟩⟩
      have e07 : Ex H H7 := m7.ex (e05.tr e6) (e05.back nq)
      have hT7 : TabT H7 (.ref tb5) (QM.rst Tb ps) := (hT5.ex e6).tp (m7.tp fun xs z => by rw [h6] at z; cases z)
      have hmat7 : MAt K H7 q lf (QM.rst Tb ps) Ac .non .non lo2 mo2 := ⟨aR K, dx, tb5, ac0, h7, T.cR, hT7, hA0.ex e07⟩
      refine ⟨q, lf, _, _, _, _, lo2, mo2, fun R => QM.Least (QM.rst Tb ps) Ac lf.length R, rfl, hMD, hmat7, .inl ⟨rfl, fun R h => h⟩, fun L R A' H8 hR m8 hm8 hL8 hfr _ => ?_⟩
      walk_at "ws"
      obtain ⟨nL, lo3, mo3, nlo3, nmo3, nlm3, hmat8, hlo8, hmo8⟩ := hfr rfl
      refine k L R A' H8 (by rw [hlf] at hR; exact hR) (m8.ex e07 (e05.back nq)) ⟨e07.back nL, lo3, mo3, e07.back nlo3, e07.back nmo3, nlm3, hmat8, hlo8, hmo8⟩ hL8.1
end

/-! ## check_letters -/
section
variable {P : Program} {w : World} {K : PySem.W.Frag} {mg : Str → Option Value} {base : Heap}
abbrev N_check_letters : List Str := ["machine", "thing"]
theorem sc_check_letters : FnScope N_check_letters ["machine", "thing"] (defScope s_check_letters) := ⟨rfl, rfl, rfl, by decide +kernel, rfl, by decide +kernel, by decide +kernel⟩
theorem ok_check_letters {f : Addr} {fd : FuncData} (F : FnP K "check_letters" s_check_letters f fd) (T : Txt K mg) (k_is_choice : Kn P w K mg base CX0 2 "is_choice" ["thing", "signs"] sp_is_choice) : FnOk P w K mg base CX0 3 f fd ["machine", "thing"] (sp_check_letters K) := by
  refine F.ok sc_check_letters (fun vs H Q E h => ?_) (fun cdv A outer s H vs Q E hr h => ?_)
  · obtain ⟨m, cs, Tb, A, kl, kf, lo, mo, B, rfl, _⟩ := h
    rfl
  · obtain ⟨m, cs, Tb, Ac, kl, kf, lo, mo, B, rfl, hM, hmat, hBs, hB, hBl, k⟩ := h
    obtain ⟨C0, dx0, tb0, ac0, hm0, hC0, hT0, hA0⟩ := id hmat
    have four := hM.four
    refine ⟨_, PSs.nox (pss_one (ps_if (PW.pt (pw_or (pt_not (pt_val (pe_kn k_is_choice (hr.mono (by decide)) rfl (pa_cons (pv 1) (pa_cons (pe_fldK (K := K) (pv 0)) pa_nil))))) (pw_or1 (pt_cmpR op_eq (pe_callB call_lenT (by rfl) T.len PySem.boot_len (pa_cons (pv 1) pa_nil)) (pe_callB call_lenT (by rfl) T.len PySem.boot_len (pa_cons (pe_fldK (K := K) (pv 0)) pa_nil)) (nomark _)))))
    (pss_one ps_never)
    pss_nil)), ?_⟩
    walk_at "ws"
    refine ⟨B.map fun a => cs.getD a 0, cs, rfl, fun c hc => ?_, ?_, by rw [List.length_map]; omega, fun H1 e1 => ?_⟩
    · obtain ⟨b, hb, rfl⟩ := List.mem_map.mp hc
      exact QM.getD_mem (hB b hb)
    · refine List.pairwise_map.mpr (hBs.imp_of_mem fun {a b} ha hb hab => ?_)
      have ha' := hB a ha
      have hb' := hB b hb
      rw [List.getD_eq_getElem?_getD, List.getD_eq_getElem?_getD, List.getElem?_eq_getElem ha', List.getElem?_eq_getElem hb']
      exact List.pairwise_iff_getElem.mp hM.asc a b ha' hb' hab
    · have hm1 := e1 _ _ hm0
      walk_at "ws"
      refine k_or (fun z => by cases z) fun _ => ?_
      walk_at "ws"
      refine r_lenT (by show (wO cs B).length ≤ _; rw [slen, List.length_map, sizeLine_eq]; omega) ?_
      walk_at "ws"
      refine r_lenT (by show (sO cs).length ≤ _; rw [slen, sizeLine_eq]; omega) ?_
      walk_at "ws"
      refine k_if (fun z => ?_) fun _ => ?_
      · have z := of_decide_eq_true z
        rw [slen, slen, List.length_map] at z
        omega
      · walk_at "ws"
        exact k _ e1
end

/-! ## without -/
section
variable {P : Program} {w : World} {K : PySem.W.Frag} {mg : Str → Option Value} {base : Heap}
abbrev N_without : List Str := ["machine", "letters"]
theorem sc_without : FnScope N_without ["machine", "letters"] (defScope s_without) := ⟨rfl, rfl, rfl, by decide +kernel, rfl, by decide +kernel, by decide +kernel⟩
theorem ok_without {f : Addr} {fd : FuncData} (F : FnP K "without" s_without f fd) (T : Txt K mg) (k_check_letters : Kn P w K mg base CX0 3 "check_letters" ["machine", "thing"] (sp_check_letters K)) (k_silenced : Kn P w K mg base CX0 5 "silenced" ["machine", "letters"] (sp_silenced K)) : FnOk P w K mg base CX0 6 f fd ["machine", "letters"] (sp_without K) := by
  refine F.ok sc_without (fun vs H Q E h => ?_) (fun cdv A outer s H vs Q E hr h => ?_)
  · obtain ⟨m, cs, Tb, A, kl, kf, lo, mo, B, rfl, _⟩ := h
    rfl
  · obtain ⟨m, cs, Tb, Ac, kl, kf, lo, mo, B, rfl, hM, hmat, hBs, hB, hBl, k⟩ := h
    refine ⟨_, PSs.nox (pss_cons (ps_expr (pe_kn k_check_letters (hr.mono (by decide)) rfl (pa_cons (pv 0) (pa_cons (pv 1) pa_nil))))
    (pss_one (ps_ret (pe_kn k_silenced (hr.mono (by decide)) rfl (pa_cons (pv 0) (pa_cons (pv 1) pa_nil)))))), ?_⟩
    walk_at "ws"
    refine ⟨m, cs, Tb, Ac, kl, kf, lo, mo, B, rfl, hM, hmat, hBs, hB, hBl, fun H1 e1 => ?_⟩
    walk_at "ws"
    refine ⟨m, cs, Tb, Ac, kl, kf, lo, mo, B, rfl, hM, hmat.ex e1, hBs, hB, hBl, fun L R A' H2 hR e2 hF hMD => ?_⟩
    obtain ⟨nL, lo3, mo3, nlo3, nmo3, nlm3, hmat8, hlo8, hmo8⟩ := hF
    exact k L R A' H2 hR (e1.tr e2) ⟨e1.back nL, lo3, mo3, e1.back nlo3, e1.back nmo3, nlm3, hmat8, hlo8, hmo8⟩ hMD
end

/-! ## quiet -/
section
variable {P : Program} {w : World} {K : PySem.W.Frag} {mg : Str → Option Value} {base : Heap}
abbrev N_quiet : List Str := ["machine", "goal", "found", "letters", "spare", "less", "letter"]
theorem sc_quiet : FnScope N_quiet ["machine", "goal"] (defScope s_quiet) := ⟨rfl, rfl, rfl, by decide +kernel, rfl, by decide +kernel, by decide +kernel⟩
theorem ok_quiet {f : Addr} {fd : FuncData} {P0 : Addr} (F : FnP K "quiet" s_quiet f fd) (T : Txt K mg) (T2 : ∃ o, K.lookup (He.ga K "KINDS") = some o ∧ o.cls = .type "tuple" ∧ o.dict = none) (k_field_of : Kn P w K mg base CX0 8 "field_of" ["machine"] (sp_field_of K)) (k_lots_of : Kn P w K mg base CX0 4 "lots_of" ["letters"] (sp_lots_of P0)) (k_silenced : Kn P w K mg base CX0 5 "silenced" ["machine", "letters"] (sp_silenced K)) (k_kind : Kn P w K mg base CX0 12 "kind" ["machine"] (sp_kind K P0)) : FnOk P w K mg base CX0 13 f fd ["machine", "goal"] (sp_quiet K P0) := by
  refine F.ok sc_quiet (fun vs H Q E h => ?_) (fun cdv A outer s H vs Q E hr h => ?_)
  · obtain ⟨m, cs, Tb, A, kl, kf, lo, mo, G, g, rfl, _⟩ := h
    rfl
  · obtain ⟨m, cs, Tb, Ac, kl, kf, lo, mo, G, g, rfl, hg, hM, hmat, hLP, hFP, hG, hGL, hT, k⟩ := h
    have four := hM.four
    have one := hM.one
    obtain ⟨C0, dx0, tb0, ac0, hm0⟩ := hmat.ins
    have kind3 : (["fixed", "digits", "length"] : List Str).map V.str = [.str "fixed", .str "digits", .str "length"] := rfl
    refine ⟨_, PSs.nox (pss_cons (ps_if (PW.pt (pw_or (pt_not (pt_val (pe_callB (callIsi (K := K)) (by rfl) T.isinstance (by decide +kernel) (pa_cons (pv 1) (pa_cons (T.ty_str rfl) pa_nil))))) (pw_or1 (pt_cmpR (opNotIn (K := K)) (pv 1) (pe_slice (slA (K := K)) (T.peKINDS rfl) po_none (po_some pe_int)) rfl))))
    (pss_one ps_never)
    pss_nil)
    (pss_cons (ps_expr (pe_kn k_field_of (hr.mono (by decide)) rfl (pa_cons (pv 0) pa_nil)))
    (pss_cons (ps_set (i := 2) sc_quiet.nd rfl (Or.inl rfl) (pe_lst pa_nil))
    (pss_cons (ps_for PassesOwn.never rfl (pi_seqK (K := K) (pe_op op_cat (pe_lst (pa_cons pe_str pa_nil)) (pe_kn k_lots_of (hr.mono (by decide)) rfl (pa_cons (pe_fldK (K := K) (pv 0)) pa_nil)))) (pg_name (i := 3) sc_quiet.nd rfl (by first | exact Or.inl rfl | exact Or.inr rfl))
    (pss_cons (ps_set (i := 4) sc_quiet.nd rfl (Or.inl rfl) (pe_callB (callAny (K := K) rfl) (by rfl) T.any (by decide +kernel) (pa_cons (pe_lc (own := [("less", 5)]) rfl sc_quiet.nd (pi_seqK (K := K) (pv 2)) (blkOk_by (own := [("less", 5)]) (N := N_quiet) (sc := defScope s_quiet) (by decide +kernel)) (fun _ _ _ _ _ => (pg_name (i := 5) sc_quiet.nd rfl (by first | exact Or.inl rfl | exact Or.inr rfl))) (fun _ _ _ _ _ => pts_nil) (fun _ _ _ _ _ => (pe_callB (callAll (K := K) rfl) (by rfl) T.all (by decide +kernel) (pa_cons (pe_lc (own := [("letter", 6)]) rfl sc_quiet.nd (pi_str (pv 5)) (blkOk_by (own := [("letter", 6)]) (N := N_quiet) (by dsimp only [compEnvC, relabel, cxOf, Cx.nox, Cx.wish, PyProof.Rows.envOfC, Env.kindOf]; exact rfl)) (fun _ _ _ _ _ => (pg_name (i := 6) sc_quiet.nd rfl (by first | exact Or.inl rfl | exact Or.inr rfl))) (fun _ _ _ _ _ => pts_nil) (fun _ _ _ _ _ => (pe_cmpR op_inS (pv 6) (pv 3) rfl))) pa_nil)))) pa_nil)))
    (pss_one (ps_if (PW.pt (pw_and (pt_not (pt_val (pv 4))) (pw_and1 (pt_cmpR op_lt (pe_callB call_lenT (by rfl) T.len PySem.boot_len (pa_cons (pv 3) pa_nil)) (pe_callB call_lenT (by rfl) T.len PySem.boot_len (pa_cons (pe_fldK (K := K) (pv 0)) pa_nil)) (nomark _)))))
    (pss_one (ps_if (pt_cmpR op_le (pe_bmK (K := K) PySem.F.plainAttrs_tuple PySem.F.slot_tuple_index PySem.F.type_tuple_index (mtTupIndex (K := K)) (T.peKINDS rfl) (pa_cons (pe_kn k_kind (hr.mono (by decide)) rfl (pa_cons (pe_kn k_silenced (hr.mono (by decide)) rfl (pa_cons (pv 0) (pa_cons (pv 3) pa_nil))) pa_nil)) pa_nil)) (pe_bmK (K := K) PySem.F.plainAttrs_tuple PySem.F.slot_tuple_index PySem.F.type_tuple_index (mtTupIndex (K := K)) (T.peKINDS rfl) (pa_cons (pv 1) pa_nil)) (nomark _))
    (pss_one (ps_expr (pe_bmK (K := K) PySem.F.plainAttrs_list PySem.F.slot_list_append PySem.F.type_list_append mt_append (pv 2) (pa_cons (pv 3) pa_nil))))
    pss_nil))
    pss_nil))))
    (pss_one (ps_ret (pv 2))))))), ?_⟩
    walk_at "ws"
    refine r_isi (b := true) (.base (.str _)) (by decide +kernel) ?_
    walk_at "ws"
    refine k_or (fun z => by cases z) fun _ => ?_
    walk_at "ws"
    refine r_slS (ys := [.str "fixed", .str "digits"]) (T.kinds H) (by decide) (by rfl) fun q2 H2 n2 e2 h2 => ?_
    refine r_inSt (ss := ["fixed", "digits"]) (t := false) (neg := true) (SqT.of h2) ?_
    have hin : decide (kS g ∈ (["fixed", "digits"] : List Str)) = true := by
      match g, hg with
      | 0, _ => decide +kernel
      | 1, _ => decide +kernel
    rw [hin]
    walk_at "ws"
    refine k_if (fun z => by simp at z) fun _ => ?_
    walk_at "ws"
    refine ⟨m, cs, Tb, Ac, kl, kf, lo, mo, G, rfl, hM, hmat.ex e2, hLP.ex e2, ?_, hG, fun Fa L R A' ws H3 gR m3 hm3 hL3 hF3 _ hx3 => ?_⟩
    · rcases hFP with h | ⟨F', L', R', A'', ws', h1, h2, h3, h4, h5⟩
      · exact .inl h
      · exact .inr ⟨F', L', R', A'', ws', h1, h2, h3.ex e2, h4.ex e2, h5⟩
    have hT3 : LamX.Tabs [(P0, qLam)] H3 := tabs_moI (hT.ext e2) (e2 _ _ hm0) m3
    walk_at "ws"
    refine k_lst (by walk_at "sz") fun fo H4 n4 e4 h4 => ?_
    walk_at "ws"
    refine k_lst (by walk_at "sz") fun l0 H5 n5 e5 h5 => ?_
    obtain ⟨C5, dx5, tb5, ac5, hm5, hC5, hT5, hA5⟩ := id (hm3.ex (e4.tr e5))
    walk_at "ws"
    refine ⟨cs, rfl, four, (hT3.ext e4).ext e5, fun lp ys H6 eN6 hT6 h6 hperm hsort => ?_⟩
    have hys := lots_eq hM.asc one four hperm hsort
    subst hys
    have h56 : H6 l0 = _ := eN6 _ _ h5 (fun _ z => nomatch z)
    walk_at "ws"
    refine r_cat h56 h6 (by have := (QM.lotsK_len one four).2; rw [sizeLine_eq]; simp; omega) fun lq H7 n7 e7 h7 => ?_
    have hl7 : H7 lq = some (.lst ((([] : List Nat) :: QM.lotsK cs.length).map fun B => V.str (wO cs B))) := by
      rw [h7, List.map_cons, List.map_map]
      rfl
    have ex37 : LamX.ExtN H3 H7 := ((LamX.ExtN.of e4).trans (LamX.ExtN.of e5)).trans (eN6.trans (LamX.ExtN.of e7))
    have hfo7 : H7 fo = some (.lst []) := e7 _ _ (eN6 _ _ (e5 _ _ h4) (fun _ z => nomatch z))
    have nfq : fo ≠ lq := fun e => by rw [e, hl7] at hfo7; cases hfo7
    refine k_iS (b := true) (SqL.of hl7) ?_
    let lots : List (List Nat) := [] :: QM.lotsK cs.length
    let kf0 := QM.kfOf Tb Ac cs.length
    let du (i : Nat) := QM.dueL kf0 g ((lots.take i).filter fun B => decide (B.length < cs.length))
    have hlots : ∀ B ∈ lots, B.Pairwise (· < ·) ∧ (∀ b ∈ B, b < cs.length) ∧ B.length ≤ cs.length := fun B hB => by
      rcases List.mem_cons.mp hB with rfl | hB
      · exact ⟨.nil, (fun b hb => nomatch hb), Nat.zero_le _⟩
      · exact QM.lotsK_ok one four B hB
    have hll : lots.length ≤ 16 := by have := (QM.lotsK_len one four).2; simp [lots]; omega
    have hdul : ∀ i, (du i).length ≤ 16 := fun i => by
      have h1 := QM.dueL_len kf0 g ((lots.take i).filter fun B => decide (B.length < cs.length))
      have h2 := List.length_filter_le (fun B : List Nat => decide (B.length < cs.length)) (lots.take i)
      have h3 : (lots.take i).length ≤ 16 := by rw [List.length_take]; omega
      show (QM.dueL kf0 g ((lots.take i).filter fun B => decide (B.length < cs.length))).length ≤ 16
      omega
    have hdum : ∀ i, ∀ B ∈ du i, B ∈ lots := fun i B hB => List.mem_of_mem_take (List.mem_filter.mp (QM.dueL_sub _ _ _ B hB).1).1
    have n3fo : H3 fo = none := n4
    have hmL3 := hm3
    refine k_forS (fun i σ H' => ∃ (z1 z2 z3 z4 : Option V), Kp [fo] H7 H' ∧ LamX.Tabs [(P0, qLam)] H' ∧ H' fo = some (.lst (dueS cs (du i))) ∧ σ = [some (.ref m), some (.str (kS g)), some (.ref fo), z1, z2, z3, z4])
      ⟨_, _, _, _, Kp.rfl', hT6.ext e7, hfo7, rfl⟩ (fun _ _ H' ⟨_, _, _, _, kp, _⟩ => SqL.of (kp _ _ (by simpa using Ne.symm nfq) hl7 (fun _ z => nomatch z))) ?_ ?_
    · rintro i x σ H8 hx ⟨z1, z2, z3, z4, kp8, hT8, hfo8, rfl⟩
      obtain ⟨B, hB, rfl⟩ := at_map hx
      obtain ⟨hBs, hBk, hBl⟩ := hlots B (List.mem_of_getElem? hB)
      have hfo8L : SqK K true H8 fo (dueS cs (du i)) := SqL.of hfo8
      walk_at "ws"
      refine k_iS (b := true) hfo8L ?_
      refine k_lcSP (by rw [List.length_map]; have := hdul i; omega) (((du i).map fun C => C.all fun a => decide (a ∈ B)).map V.bl) (by simp) hfo8L (fun j x H9 Qc hj e9 k9 => ?_) fun Dl H9 n9 e9 h9 => ?_
      · obtain ⟨C, hC, rfl⟩ := at_map hj
        obtain ⟨hCs, hCk, hCl⟩ := hlots C (hdum i C (List.mem_of_getElem? hC))
        walk_at "ws"
        refine k_lcP walk_str (by show (wO cs C).cps.size ≤ 100000; simp; omega) ((C.map fun a => decide (a ∈ B)).map V.bl) (by simp) (fun _ _ => trivial) (fun jj x Ha Hb Qc2 hjj hY ea kb => ?_) fun D2 Ha na ea ha => ?_
        · obtain ⟨rfl, c, hc, rfl⟩ := hY
          have hjl : jj < C.length := by simpa using hjj
          have hcc : c = cs.getD C[jj] 0 := by
            have : ((wO cs C).cps)[jj]? = some (cs.getD C[jj] 0) := by simp [hjl]
            rw [this] at hc
            exact (Option.some.inj hc).symm
          subst hcc
          have hak : C[jj] < cs.length := hCk _ (List.getElem_mem hjl)
          walk_at "ws"
          refine kb _ _ ?_ Ex.rfl'
          rw [show decide (cs.getD C[jj] 0 ∈ (wO cs B).cps.toList) = decide (C[jj] ∈ B) from decide_eq_decide.mpr (wO_mem hM.nodup hBk hak)]
          simp [hjl]
        · refine r_all (SqL.of ha) ?_
          refine k9 _ _ ?_ ea
          rw [List.all_map]
          simp [hC]
      refine r_any (SqL.of h9) ?_
      rw [show (((du i).map fun C => C.all fun a => decide (a ∈ B)).any id) = QM.spare (du i) B by rw [List.any_map]; rfl]
      have kp9 : Kp [fo] H7 H9 := kp8.tr (Kp.ex e9)
      have hT9 := hT8.ext e9
      have hfo9 := e9 _ _ hfo8
      have e39 : LamX.ExtN H3 H9 := (Kp.drop (S' := []) (Kp.exN ex37) kp9 (fun x hx => .inr (by rw [List.mem_singleton.mp hx]; exact n3fo))).extN
      obtain ⟨C9, dx9, tb9, ac9, hm9, hC9, hT9', hA9⟩ := id (hm3.exN e39)
      have hmat9 := hm3.exN e39
      have du1 : du (i + 1) = if B.length < cs.length ∧ QM.spare (du i) B = false ∧ kf0 B ≤ g then du i ++ [B] else du i := by
        show QM.dueL kf0 g ((lots.take (i + 1)).filter _) = _
        rw [List.take_add_one, hB, Option.toList_some, List.filter_append]
        by_cases hlt : B.length < cs.length
        · rw [show List.filter (fun B : List Nat => decide (B.length < cs.length)) [B] = [B] by simp [hlt], QM.dueL_snoc]
          simp only [hlt, true_and]
          rfl
        · rw [show List.filter (fun B : List Nat => decide (B.length < cs.length)) [B] = [] by simp [hlt], List.append_nil, if_neg (fun z => hlt z.1)]
      have stay : ∀ (H' : Hp) (z1 z2 z3 z4 : Option V), Kp [fo] H9 H' → LamX.Tabs [(P0, qLam)] H' → H' fo = some (.lst (dueS cs (du i))) → ¬ (B.length < cs.length ∧ QM.spare (du i) B = false ∧ kf0 B ≤ g) →
          (∃ (z1' z2' z3' z4' : Option V), Kp [fo] H7 H' ∧ LamX.Tabs [(P0, qLam)] H' ∧ H' fo = some (.lst (dueS cs (du (i + 1)))) ∧ [some (.ref m), some (.str (kS g)), some (.ref fo), z1, z2, z3, z4] = [some (V.ref m), some (.str (kS g)), some (.ref fo), z1', z2', z3', z4']) := fun H' z1 z2 z3 z4 kp t h hn =>
        ⟨_, _, _, _, kp9.tr kp, t, by rw [du1, if_neg hn]; exact h, rfl⟩
      walk_at "ws"
      refine k_and (fun hsp => ?_) fun hsp => ?_
      · have hsp' : QM.spare (du i) B = false := by simpa using hsp
        walk_at "ws"
        refine r_lenT (by show (wO cs B).length ≤ _; rw [slen, List.length_map, sizeLine_eq]; omega) ?_
        walk_at "ws"
        refine r_lenT (by show (sO cs).length ≤ _; rw [slen, sizeLine_eq]; omega) ?_
        walk_at "ws"
        rw [show decide (((wO cs B).length : Int) < ((sO cs).length : Int)) = decide (B.length < cs.length) by rw [slen, slen, List.length_map]; exact decide_eq_decide.mpr Int.ofNat_lt]
        refine k_if (fun hlt => ?_) fun hlt => ?_
        · have hlt := of_decide_eq_true hlt
          walk_at "ws"
          refine k_bmT T2 ?_
          walk_at "ws"
          refine ⟨m, cs, Tb, Ac, _, _, lo, mo, B, rfl, hM, hmat9, hBs, hBk, hlt, fun L2 R2 A2 H10 hR2 e10 hFr hMD2 => ?_⟩
          walk_at "ws"
          obtain ⟨nL2, lo2, mo2, nlo2, nmo2, nlm2, hmat10, hlo10, hmo10⟩ := hFr
          have hLeft : ((QM.leftL cs.length B).map fun a => cs.getD a 0).length = (QM.leftL cs.length B).length := List.length_map _
          have hlt2 : ∀ p ∈ QM.leftL cs.length B, p < cs.length := QM.leftL_lt
          have few2 : QM.Few R2 (QM.leftL cs.length B).length 10 := QM.few_rst hM.t hlt2 (hGL R gR) hR2 (hG R gR)
          refine ⟨L2, _, R2, A2, _, _, lo2, mo2, fun R' => R' = R2, rfl, hMD2, hmat10, .inr ⟨L2, R2, A2, rfl, ⟨hMD2, _, _, _, hmat10⟩, rfl⟩, .inl rfl, fun R' e => by rw [e, hLeft]; exact few2, hlo10, hmo10, nlm2, hT9.ext e10, fun R' H11 eR kp11 hT11 => ?_⟩
          subst eR
          rw [hLeft]
          walk_at "ws"
          have hkd : kf0 B = QM.kdR R' (QM.leftL cs.length B).length := QM.kd_of hR2
          have hle := QM.kdR_le R' (QM.leftL cs.length B).length
          rw [← hkd] at hle ⊢
          have kp911 : Kp [] H9 H11 := Kp.drop (S' := []) (Kp.ex e10) kp11 (fun x hx => .inr (by
            simp only [List.mem_cons, List.mem_nil_iff, or_false] at hx
            rcases hx with rfl | rfl | rfl
            · exact nL2
            · exact nlo2
            · exact nmo2))
          refine r_tindex (ys := ["fixed", "digits", "length"]) (j := kf0 B) (T.kinds H11) (kS_at hle) kS_nd ?_
          walk_at "ws"
          refine k_bmT T2 ?_
          walk_at "ws"
          refine r_tindex (ys := ["fixed", "digits", "length"]) (j := g) (T.kinds H11) (kS_at (by omega)) kS_nd ?_
          walk_at "ws"
          have hfo11 : H11 fo = some (.lst (dueS cs (du i))) := kp911 _ _ (fun z => nomatch z) hfo9 (fun _ z => nomatch z)
          rw [show decide ((kf0 B : Int) ≤ (g : Int)) = decide (kf0 B ≤ g) from decide_eq_decide.mpr Int.ofNat_le]
          refine k_if (fun hkg => ?_) fun hkg => ?_
          · have hkg := of_decide_eq_true hkg
            walk_at "ws"
            refine k_bmL (SqL.of hfo11) ?_
            walk_at "ws"
            refine r_append hfo11 (by rw [List.length_map]; have := hdul i; rw [sizeLine_eq]; omega) fun H12 m12 h12 => ?_
            walk_at "ws"
            refine ⟨_, _, _, _, (kp9.tr (kp911.sub (fun x hx => nomatch hx))).tr (Kp.mo m12 (by simp)), tabs_moL hT11 hfo11 m12, ?_, rfl⟩
            rw [h12, du1, if_pos ⟨hlt, hsp', hkg⟩, dueS, dueS, List.map_append]
            rfl
          · have hkg := of_decide_eq_false hkg
            walk_at "ws"
            exact stay H11 _ _ _ _ (kp911.sub (fun x hx => nomatch hx)) hT11 hfo11 fun z => hkg z.2.2
        · have hlt := of_decide_eq_false hlt
          walk_at "ws"
          exact stay H9 _ _ _ _ Kp.rfl' hT9 hfo9 fun z => hlt z.1
      · have hsp' : QM.spare (du i) B = true := by simpa using hsp
        refine k_if (fun z => by cases z) fun _ => ?_
        walk_at "ws"
        exact stay H9 _ _ _ _ Kp.rfl' hT9 hfo9 fun z => by rw [hsp'] at z; cases z.2.1
    · rintro σ H8 ⟨z1, z2, z3, z4, kp8, hT8, hfo8, rfl⟩
      walk_at "ws"
      have e38 : LamX.ExtN H3 H8 := (Kp.drop (S' := []) (Kp.exN ex37) kp8 (fun x hx => .inr (by rw [List.mem_singleton.mp hx]; exact n3fo))).extN
      have hfin : du lots.length = QM.dueL kf0 g (QM.lotsN cs.length) := by
        show QM.dueL kf0 g ((lots.take lots.length).filter _) = _
        rw [List.take_length, QM.lotsN_filter one four]
      have hfo8' : H8 fo = some (.lst (dueS cs (QM.dueL kf0 g (QM.lotsN cs.length)))) := by
        rw [← hfin, hfo8]
        simp [lots]
      have kp08 : Kp [m] H H8 := ((Kp.ex e2).tr (Kp.mo m3 (by simp))).tr (Kp.exN e38)
      refine k L Fa R A' ws fo H3 H8 gR kp08 hm3 hL3 hF3 e38 n4 (fun hk => (LamX.ExtN.of (e2.tr (hx3 hk))).trans e38) hT8 hfo8' ?_
      cases hh : H fo with
      | none => rfl
      | some o =>
        obtain ⟨_, _, _, _, hm3i⟩ := hm3.ins
        have : fo ≠ m := fun e => by rw [e, hm3i] at n4; cases n4
        rw [m3 _ _ this (e2 _ _ hh)] at n4
        cases n4
end

/-! ## quietR -/
section
variable {P : Program} {w : World} {K : PySem.W.Frag} {mg : Str → Option Value} {base : Heap}
theorem ok_quietR {f : Addr} {fd : FuncData} {P0 : Addr} (F : FnP K "quiet" s_quiet f fd) (T : Txt K mg) (N : NkC K mg) (k_field_of : Kn P w K mg base CX0 8 "field_of" ["machine"] (sp_field_of K)) (k_lots_of : Kn P w K mg base CX0 4 "lots_of" ["letters"] (sp_lots_of P0)) (k_silenced : Kn P w K mg base CX0 5 "silenced" ["machine", "letters"] (sp_silenced K)) (k_kind : Kn P w K mg base CX0 12 "kind" ["machine"] (sp_kind K P0)) : FnOk P w K mg base (L2.CX P w) 13 f fd ["machine", "goal"] (sp_quietR K) := by
  refine F.ok sc_quiet (fun vs H Q E h => ?_) (fun cdv A outer s H vs Q E hr h => ?_)
  · obtain ⟨m, x, rfl, _⟩ := h
    rfl
  · obtain ⟨m, x, rfl, hb, k⟩ := h
    refine ⟨_, (pss_cons (ps_if (PW.pt (pw_or (pt_not (pt_val (pe_callB (callIsi (K := K)) (by rfl) T.isinstance (by decide +kernel) (pa_cons (pv 1) (pa_cons (T.ty_str rfl) pa_nil))))) (pw_or1 (pt_cmpR (opNotIn (K := K)) (pv 1) (pe_slice (slA (K := K)) (T.peKINDS rfl) po_none (po_some pe_int)) rfl))))
    (pss_one (ps_raise rfl (takes_of rfl rfl rfl rfl) (pmk_own0 PySem.F.excBase_ValueError N.xN N.gN N.kN (raises_own N.bN N.tN) rfl)))
    pss_nil)
    (PSs.nox (pss_cons (ps_expr (pe_kn k_field_of (hr.mono (by decide)) rfl (pa_cons (pv 0) pa_nil)))
    (pss_cons (ps_set (i := 2) sc_quiet.nd rfl (Or.inl rfl) (pe_lst pa_nil))
    (pss_cons (ps_for PassesOwn.never rfl (pi_seqK (K := K) (pe_op op_cat (pe_lst (pa_cons pe_str pa_nil)) (pe_kn k_lots_of (hr.mono (by decide)) rfl (pa_cons (pe_fldK (K := K) (pv 0)) pa_nil)))) (pg_name (i := 3) sc_quiet.nd rfl (by first | exact Or.inl rfl | exact Or.inr rfl))
    (pss_cons (ps_set (i := 4) sc_quiet.nd rfl (Or.inl rfl) (pe_callB (callAny (K := K) rfl) (by rfl) T.any (by decide +kernel) (pa_cons (pe_lc (own := [("less", 5)]) rfl sc_quiet.nd (pi_seqK (K := K) (pv 2)) (blkOk_by (own := [("less", 5)]) (N := N_quiet) (sc := defScope s_quiet) (by decide +kernel)) (fun _ _ _ _ _ => (pg_name (i := 5) sc_quiet.nd rfl (by first | exact Or.inl rfl | exact Or.inr rfl))) (fun _ _ _ _ _ => pts_nil) (fun _ _ _ _ _ => (pe_callB (callAll (K := K) rfl) (by rfl) T.all (by decide +kernel) (pa_cons (pe_lc (own := [("letter", 6)]) rfl sc_quiet.nd (pi_str (pv 5)) (blkOk_by (own := [("letter", 6)]) (N := N_quiet) (by dsimp only [compEnvC, relabel, cxOf, Cx.nox, Cx.wish, PyProof.Rows.envOfC, Env.kindOf]; exact rfl)) (fun _ _ _ _ _ => (pg_name (i := 6) sc_quiet.nd rfl (by first | exact Or.inl rfl | exact Or.inr rfl))) (fun _ _ _ _ _ => pts_nil) (fun _ _ _ _ _ => (pe_cmpR op_inS (pv 6) (pv 3) rfl))) pa_nil)))) pa_nil)))
    (pss_one (ps_if (PW.pt (pw_and (pt_not (pt_val (pv 4))) (pw_and1 (pt_cmpR op_lt (pe_callB call_lenT (by rfl) T.len PySem.boot_len (pa_cons (pv 3) pa_nil)) (pe_callB call_lenT (by rfl) T.len PySem.boot_len (pa_cons (pe_fldK (K := K) (pv 0)) pa_nil)) (nomark _)))))
    (pss_one (ps_if (pt_cmpR op_le (pe_bmK (K := K) PySem.F.plainAttrs_tuple PySem.F.slot_tuple_index PySem.F.type_tuple_index (mtTupIndex (K := K)) (T.peKINDS rfl) (pa_cons (pe_kn k_kind (hr.mono (by decide)) rfl (pa_cons (pe_kn k_silenced (hr.mono (by decide)) rfl (pa_cons (pv 0) (pa_cons (pv 3) pa_nil))) pa_nil)) pa_nil)) (pe_bmK (K := K) PySem.F.plainAttrs_tuple PySem.F.slot_tuple_index PySem.F.type_tuple_index (mtTupIndex (K := K)) (T.peKINDS rfl) (pa_cons (pv 1) pa_nil)) (nomark _))
    (pss_one (ps_expr (pe_bmK (K := K) PySem.F.plainAttrs_list PySem.F.slot_list_append PySem.F.type_list_append mt_append (pv 2) (pa_cons (pv 3) pa_nil))))
    pss_nil))
    pss_nil))))
    (pss_one (ps_ret (pv 2)))))))), ?_⟩
    walk_at "ws"
    rcases hb with ⟨s, rfl, h1, h2⟩ | ⟨T1, hT1, hk⟩
    · refine r_isi (b := true) (.base (.str _)) (by decide +kernel) ?_
      walk_at "ws"
      refine k_or (fun z => by cases z) fun _ => ?_
      walk_at "ws"
      refine r_slS (ys := [.str "fixed", .str "digits"]) (T.kinds H) (by decide) (by rfl) fun q2 H2 n2 e2 h2 => ?_
      refine r_inSt (ss := ["fixed", "digits"]) (t := false) (neg := true) (SqT.of h2) ?_
      have hin : decide (s ∈ (["fixed", "digits"] : List Str)) = false := by simp [*]
      rw [hin]
      walk_at "ws"
      refine k_if (fun _ => ?_) fun z => by simp at z
      exact k _ e2
    · refine r_isi (b := false) hT1 hk ?_
      walk_at "ws"
      refine k_or (fun _ => ?_) fun z => by cases z
      walk_at "ws"
      refine k_if (fun _ => ?_) fun z => by cases z
      exact k _ Ex.rfl'
end

/-! ## l_is_refused -/
section
variable {P : Program} {w : World} {K : PySem.W.Frag} {mg : Str → Option Value} {base : Heap}
abbrev N_l_is_refused : List Str := ["_law_machine", "_law_thing", "_law_refused", "_law_e"]
theorem sc_l_is_refused : FnScope N_l_is_refused ["_law_machine", "_law_thing"] (defScope s_l_is_refused) := ⟨rfl, rfl, rfl, by decide +kernel, rfl, by decide +kernel, by decide +kernel⟩
theorem ok_l_is_refused {f : Addr} {fd : FuncData} (F : FnP K "_law_is_refused" s_l_is_refused f fd) (T : Txt K mg) (N : NkC K mg) (k_quietR : Kn P w K mg base (L2.CX P w) 13 "quiet" ["machine", "goal"] (sp_quietR K)) : FnOk P w K mg base CX0 14 f fd ["_law_machine", "_law_thing"] (sp_is_refused K) := by
  refine F.ok sc_l_is_refused (fun vs H Q E h => ?_) (fun cdv A outer s H vs Q E hr h => ?_)
  · obtain ⟨m, x, rfl, _⟩ := h
    rfl
  · obtain ⟨m, x, rfl, hb, k⟩ := h
    refine ⟨_, PSs.nox (pss_cons (ps_set (i := 2) sc_l_is_refused.nd rfl (Or.inl rfl) pe_bl)
    (pss_cons (ps_try_as (i := 3) rfl rfl sc_l_is_refused.nd rfl rfl ⟨rfl, by decide, .inl N.gS⟩ takes0 (fun W pn xe tk _ => (pss_one (ps_expr (pe_knS k_quietR (hr.mono (by decide)) rfl (fun σ => passAt tk σ) (pa_cons (pv 0) (pa_cons (pv 1) pa_nil)))))) (fun a oe cls d pn hz hf => (pss_one (ps_set (i := 2) sc_l_is_refused.nd rfl (Or.inl rfl) (pe_callB (call_isEG (K := K) N.ec hz hf) (by rfl) T.isinstance (by decide +kernel) (pa_cons (pv 3) (pa_cons (show PE _ _ (tC (.ref (He.ga K "NoKind"))) from pe_glob rfl N.gN rfl) pa_nil)))))))
    (pss_one (ps_ret (pv 2))))), ?_⟩
    walk_at "ws"
    refine ⟨m, x, rfl, hb, fun H1 e1 => ?_⟩
    refine ⟨true, N.exm, fun _ a ha => ?_, fun z => by cases z⟩
    walk_at "ws"
    refine ⟨rfl, rfl, .ref (He.ga K "NoKind"), .ref (He.ga K "NoKind"), true, rfl, fun u h => h, N.kit, ?_⟩
    walk_at "ws"
    exact k _ e1
end

/-! ## l_draw -/
section
variable {P : Program} {w : World} {K : PySem.W.Frag} {mg : Str → Option Value} {base : Heap}
abbrev N_l_draw : List Str := ["_law_hand_here", "_law_many", "_law_cell", "_law_digit", "_law_number"]
theorem sc_l_draw : FnScope N_l_draw ["_law_hand_here", "_law_many"] (defScope s_l_draw) := ⟨rfl, rfl, rfl, by decide +kernel, rfl, by decide +kernel, by decide +kernel⟩
theorem ok_l_draw {f : Addr} {fd : FuncData} (F : FnP K "_law_draw" s_l_draw f fd) (T : Txt K mg) : FnOk P w K mg base CX0 1 f fd ["_law_hand_here", "_law_many"] (sp_draw K) := by
  refine F.ok sc_l_draw (fun vs H Q E h => ?_) (fun cdv A outer s H vs Q E hr h => ?_)
  · obtain ⟨h, c, many, rfl, _⟩ := h
    rfl
  · obtain ⟨h, c, many, rfl, hH, hm1, hm2, k⟩ := h
    have hmp : (0 : Int) < (many : Int) := by omega
    have modn : ∀ {x m : Int}, 0 ≤ x → 0 < m → ∃ j : Nat, x % m = (j : Int) ∧ (j : Int) < m := fun {x m} hx hm => ⟨(x % m).toNat, (Int.toNat_of_nonneg (Int.emod_nonneg x (by omega))).symm, by rw [Int.toNat_of_nonneg (Int.emod_nonneg x (by omega))]; exact Int.emod_lt_of_pos x hm⟩
    refine ⟨_, PSs.nox (pss_cons (ps_if (PW.pt (pw_and (pt_cmpR op_eq (pe_ix (ixL (K := K)) (pv 0) pe_int (fun _ _ => rfl)) pe_int (nomark _)) (pw_and1 (pt_cmpR op_lt (pe_ix (ixL (K := K)) (pv 0) pe_int (fun _ _ => rfl)) (pe_callB (callLen (K := K)) (by rfl) T.len PySem.boot_len (pa_cons (pe_ix (ixL (K := K)) (pv 0) pe_int (fun _ _ => rfl)) pa_nil)) (nomark _)))))
    (pss_cons (ps_set (i := 2) sc_l_draw.nd rfl (Or.inl rfl) (pe_ix (ixL (K := K)) (pe_ix (ixL (K := K)) (pv 0) pe_int (fun _ _ => rfl)) (pe_ix (ixL (K := K)) (pv 0) pe_int (fun _ _ => rfl)) (fun _ _ => rfl)))
    (pss_cons (ps_asg (pe_op op_add (pe_ix (ixL (K := K)) (pv 0) pe_int (fun _ _ => rfl)) pe_int) (pg_sub (pv 0) pe_int set_list))
    (pss_cons (ps_asg (pe_op op_mod (pe_callTy call_intS (by rfl) T.int (by decide +kernel) (pa_cons (pe_op op_add (pe_op op_add (pe_op op_mul (pe_ix (ixL (K := K)) (pv 0) pe_int (fun _ _ => rfl)) pe_int) (pv 2)) pe_int) pa_nil)) pe_int) (pg_sub (pv 0) pe_int set_list))
    (pss_one (ps_if (pt_cmpR op_ge (pv 2) (pe_op op_pow pe_int pe_int) (nomark _))
    (pss_one (ps_asg (pv 2) (pg_sub (pv 0) pe_int set_list)))
    pss_nil)))))
    pss_nil)
    (pss_cons (ps_if (pt_cmpR op_gt (pe_ix (ixL (K := K)) (pv 0) pe_int (fun _ _ => rfl)) pe_int (nomark _))
    (pss_cons (ps_set (i := 3) sc_l_draw.nd rfl (Or.inl rfl) (pe_op op_mod (pe_callTy call_intS (by rfl) T.int (by decide +kernel) (pa_cons (pe_ix (ixL (K := K)) (pv 0) pe_int (fun _ _ => rfl)) pa_nil)) (pv 1)))
    (pss_cons (ps_asg (pe_op op_fdiv (pe_ix (ixL (K := K)) (pv 0) pe_int (fun _ _ => rfl)) (pv 1)) (pg_sub (pv 0) pe_int set_list))
    (pss_one (ps_ret (pv 3)))))
    pss_nil)
    (pss_cons (ps_asg (pe_op op_add (pe_ix (ixL (K := K)) (pv 0) pe_int (fun _ _ => rfl)) pe_int) (pg_sub (pv 0) pe_int set_list))
    (pss_cons (ps_set (i := 4) sc_l_draw.nd rfl (Or.inl rfl) (pe_op op_mod (pe_callTy call_intS (by rfl) T.int (by decide +kernel) (pa_cons (pe_op op_mul (pe_callTy call_intS (by rfl) T.int (by decide +kernel) (pa_cons (pe_op op_add (pe_ix (ixL (K := K)) (pv 0) pe_int (fun _ _ => rfl)) (pe_op op_mul pe_int (pe_ix (ixL (K := K)) (pv 0) pe_int (fun _ _ => rfl)))) pa_nil)) pe_int) pa_nil)) pe_int))
    (pss_cons (ps_set (i := 4) sc_l_draw.nd rfl (Or.inl rfl) (pe_op op_mod (pe_callTy call_intS (by rfl) T.int (by decide +kernel) (pa_cons (pe_op op_mul (pv 4) (pe_op op_add (pe_op op_fdiv (pv 4) pe_int) pe_int)) pa_nil)) pe_int))
    (pss_cons (ps_set (i := 4) sc_l_draw.nd rfl (Or.inl rfl) (pe_op op_mod (pe_callTy call_intS (by rfl) T.int (by decide +kernel) (pa_cons (pe_op op_mul (pv 4) (pe_op op_add (pe_op op_fdiv (pv 4) pe_int) pe_int)) pa_nil)) pe_int))
    (pss_one (ps_ret (pe_op op_mod (pe_callTy call_intS (by rfl) T.int (by decide +kernel) (pa_cons (pe_op op_fdiv (pv 4) pe_int) pa_nil)) (pv 1)))))))))), ?_⟩
    refine w_seq ?_
    refine cut (fun σ' H' => ∃ z1 z2 z3, Mo h H H' ∧ HandAt K H' h c ∧ σ' = [some (.ref h), some (iv many), z1, z2, z3]) ?_ fun nx => ?_
    · rintro σ H1 ⟨z1, z2, z3, m1, ⟨ns, a, r, s, n, h0, hc, hs, nch⟩, rfl⟩
      walk_at "ws"
      refine r_ixL0 (n := 2) (SqL.of h0) rfl rfl ?_
      walk_at "ws"
      by_cases hr0 : (0 : Int) < (r : Int)
      · rw [decide_eq_true hr0]
        refine k_if (fun _ => ?_) fun z => by cases z
        walk_at "ws"
        refine r_ixL0 (n := 2) (SqL.of h0) rfl rfl ?_
        walk_at "ws"
        refine r_mod hmp ?_
        walk_at "ws"
        refine r_ixL0 (n := 2) (SqL.of h0) rfl rfl ?_
        walk_at "ws"
        refine r_fdiv ⟨hmp, by omega⟩ ?_
        walk_at "ws"
        refine k_setL0 (j := 2) h0 (by show 2 < 5; decide) rfl fun H2 m2 h2 => ?_
        walk_at "ws"
        have e1 : (r : Int) % (many : Int) = ((r % many : Nat) : Int) := by simp
        have e2 : (r : Int) / (many : Int) = ((r / many : Nat) : Int) := by simp
        rw [e1]
        rw [e2] at h2
        exact k (r % many) H2 (Nat.mod_lt _ hm1) (m1.tr m2) ⟨ns, a, r / many, s, n, h2, moSqL m2 nch hc, hs, nch⟩
      · rw [decide_eq_false hr0]
        refine k_if (fun z => by cases z) fun _ => ?_
        walk_at "ws"
        have ds := [some (V.ref h), some (iv many), z1, z2, z3]
        refine r_ixL0 (n := 4) (SqL.of h0) rfl rfl ?_
        walk_at "ws"
        refine k_setL0 (j := 4) h0 (by show 4 < 5; decide) rfl fun H2 m2 h2 => ?_
        have h2' : H2 h = some (.lst [.ref c, iv a, iv r, iv s, iv (n + 1)]) := h2
        have hc2 := moSqL m2 nch hc
        walk_at "ws"
        refine r_ixL0 (n := 3) (SqL.of h2') rfl rfl ?_
        walk_at "ws"
        refine r_ixL0 (n := 4) (SqL.of h2') rfl rfl ?_
        walk_at "ws"
        refine r_mul (.inl (by decide)) ?_
        walk_at "ws"
        refine r_mul (.inr (by decide)) ?_
        walk_at "ws"
        refine r_mod (by decide) ?_
        walk_at "ws"
        obtain ⟨j1, ej1, lj1⟩ := modn (x := ((s : Int) + 7919 * ((n + 1 : Nat) : Int)) * 48271) (m := 2147483647) (by omega) (by decide)
        rw [ej1]
        refine r_fdiv ⟨by decide, by decide⟩ ?_
        walk_at "ws"
        refine r_mul (.inl (by omega)) ?_
        walk_at "ws"
        refine r_mod (by decide) ?_
        walk_at "ws"
        obtain ⟨j2, ej2, lj2⟩ := modn (x := (j1 : Int) * ((j1 : Int) / 1009 + 69621)) (m := 2147483647) (Int.mul_nonneg (by omega) (by omega)) (by decide)
        rw [ej2]
        refine r_fdiv ⟨by decide, by decide⟩ ?_
        walk_at "ws"
        refine r_mul (.inl (by omega)) ?_
        walk_at "ws"
        refine r_mod (by decide) ?_
        walk_at "ws"
        obtain ⟨j3, ej3, lj3⟩ := modn (x := (j2 : Int) * ((j2 : Int) / 2003 + 40692)) (m := 2147483399) (Int.mul_nonneg (by omega) (by omega)) (by decide)
        rw [ej3]
        refine r_fdiv ⟨by decide, by decide⟩ ?_
        walk_at "ws"
        refine r_mod hmp ?_
        obtain ⟨j4, ej4, lj4⟩ := modn (x := (j3 : Int) / 16) (m := (many : Int)) (by omega) hmp
        rw [ej4]
        exact k j4 H2 (by omega) (m1.tr m2) ⟨ns, a, r, s, n + 1, h2', hc2, hs, nch⟩
    · obtain ⟨ns, a, r, s, n, h0, hc, hs, nch⟩ := hH
      have stay : ∀ z1 z2 z3, ∃ y1 y2 y3, Mo h H H ∧ HandAt K H h c ∧ [some (V.ref h), some (iv many), z1, z2, z3] = [some (.ref h), some (iv many), y1, y2, y3] := fun z1 z2 z3 => ⟨z1, z2, z3, Ex.rfl'.mo, ⟨ns, a, r, s, n, h0, hc, hs, nch⟩, rfl⟩
      walk_at "ws"
      refine r_ixL0 (n := 2) (SqL.of h0) rfl rfl ?_
      walk_at "ws"
      refine k_and (fun _ => ?_) fun _ => ?_
      · walk_at "ws"
        refine r_ixL0 (n := 1) (SqL.of h0) rfl rfl ?_
        walk_at "ws"
        refine r_ixL0 (n := 0) (SqL.of h0) rfl rfl ?_
        walk_at "ws"
        refine r_len (.inl hc) ?_
        walk_at "ws"
        refine k_if (fun hlt => ?_) fun _ => ?_
        · have hlt : a < ns.length := by have := of_decide_eq_true hlt; rw [List.length_map] at this; omega
          walk_at "ws"
          refine r_ixL0 (n := 0) (SqL.of h0) rfl rfl ?_
          walk_at "ws"
          refine r_ixL0 (n := 1) (SqL.of h0) rfl rfl ?_
          walk_at "ws"
          refine r_ixL0 (n := a) (v := iv (ns.getD a 0)) hc rfl (at_iv hlt) ?_
          walk_at "ws"
          refine r_ixL0 (n := 1) (SqL.of h0) rfl rfl ?_
          walk_at "ws"
          refine k_setL0 (j := 1) h0 (by show 1 < 5; decide) rfl fun H2 m2 h2 => ?_
          have h2' : H2 h = some (.lst [.ref c, iv (a + 1), iv r, iv s, iv n]) := h2
          have hc2 := moSqL m2 nch hc
          walk_at "ws"
          refine r_ixL0 (n := 3) (SqL.of h2') rfl rfl ?_
          walk_at "ws"
          refine r_mul (.inr (by decide)) ?_
          walk_at "ws"
          refine r_mod (by decide) ?_
          walk_at "ws"
          obtain ⟨s', es, ls⟩ := modn (x := (s : Int) * 69621 + (ns.getD a 0 : Nat) + 11) (m := 2147483629) (by omega) (by decide)
          refine k_setL0 (j := 3) h2' (by show 3 < 5; decide) rfl fun H3 m3 h3 => ?_
          rw [es] at h3
          have h3' : H3 h = some (.lst [.ref c, iv (a + 1), iv r, iv s', iv n]) := h3
          have hc3 := moSqL m3 nch hc2
          walk_at "ws"
          refine r_pow ⟨by decide, by decide, by decide⟩ ?_
          walk_at "ws"
          refine k_if (fun _ => ?_) fun _ => ?_
          · walk_at "ws"
            refine k_setL0 (j := 2) h3' (by show 2 < 5; decide) rfl fun H4 m4 h4 => ?_
            exact nx _ _ ⟨_, _, _, (m2.tr m3).tr m4, ⟨ns, a + 1, ns.getD a 0, s', n, h4, moSqL m4 nch hc3, by omega, nch⟩, rfl⟩
          · exact nx _ _ ⟨_, _, _, m2.tr m3, ⟨ns, a + 1, r, s', n, h3', hc3, by omega, nch⟩, rfl⟩
        · exact nx _ _ (stay _ _ _)
      · refine k_if (fun z => by cases z) fun _ => ?_
        exact nx _ _ (stay _ _ _)
end

/-! ## l_hand -/
section
variable {P : Program} {w : World} {K : PySem.W.Frag} {mg : Str → Option Value} {base : Heap}
abbrev N_l_hand : List Str := ["_law_script", "_law_cells", "_law_cell"]
theorem sc_l_hand : FnScope N_l_hand ["_law_script"] (defScope s_l_hand) := ⟨rfl, rfl, rfl, by decide +kernel, rfl, by decide +kernel, by decide +kernel⟩
theorem ok_l_hand {f : Addr} {fd : FuncData} (F : FnP K "_law_hand" s_l_hand f fd) (T : Txt K mg) : FnOk P w K mg base CX0 1 f fd ["_law_script"] (sp_hand K) := by
  refine F.ok sc_l_hand (fun vs H Q E h => ?_) (fun cdv A outer s H vs Q E hr h => ?_)
  · obtain ⟨a, ns, rfl, _⟩ := h
    rfl
  · obtain ⟨a, ns, rfl, ha, k⟩ := h
    refine ⟨_, PSs.nox (pss_cons (ps_setLc (i := 1) (own := [("_law_cell", 2)]) rfl sc_l_hand.nd rfl rfl (sw_true rfl rfl rfl (by decide +kernel)) (pi_seqK (K := K) (pe_slice (slL (K := K)) (pv 0) po_none (po_some pe_int))) (blkOk_by (own := [("_law_cell", 2)]) (N := N_l_hand) (sc := defScope s_l_hand) (by decide +kernel)) (fun _ _ _ _ _ => (pg_name (i := 2) sc_l_hand.nd rfl (by first | exact Or.inl rfl | exact Or.inr rfl))) (fun _ _ _ _ _ => pts_nil) (fun _ _ _ _ _ => (pe_callB call_absS (by rfl) T.abs (by decide +kernel) (pa_cons (pe_callTy call_intS (by rfl) T.int (by decide +kernel) (pa_cons (pv 2) pa_nil)) pa_nil))))
    (pss_one (ps_ret (pe_lst (pa_cons (pv 1) (pa_cons pe_int (pa_cons pe_int (pa_cons (pe_op op_add pe_int (pe_callB (callLen (K := K)) (by rfl) T.len PySem.boot_len (pa_cons (pv 1) pa_nil))) (pa_cons pe_int pa_nil))))))))), ?_⟩
    walk_at "ws"
    refine r_slLto (p := 63) ha fun q H1 n1 e1 h1 => ?_
    walk_at "ws"
    refine k_iS (b := true) (SqL.of h1) ?_
    have hl : ((ns.map V.int).take 63).length ≤ 63 := by rw [List.length_take]; omega
    refine k_lcSP (by omega) (((ns.take 63).map Int.natAbs).map iv) (by simp) (SqL.of h1) (fun j x H2 Qc hj e2 k2 => ?_) fun Dl H2 n2 e2 h2 => ?_
    · have hj' : ((ns.take 63).map V.int)[j]? = some x := by rw [List.map_take]; exact hj
      obtain ⟨i, hi, rfl⟩ := at_map hj'
      walk_at "ws"
      refine k2 _ _ ?_ Ex.rfl'
      rw [List.getElem?_map, List.getElem?_map, hi]
      show some (V.int (i.natAbs : Int)) = _
      congr 2
      split <;> omega
    · walk_at "ws"
      refine r_len (.inl (SqL.of h2)) ?_
      walk_at "ws"
      refine k_lst (by walk_at "sz") fun p H3 n3 e3 h3 => ?_
      refine k p Dl H3 ((e1.tr e2).tr e3) ((e1.tr e2).back n3) (e1.back n2) ⟨(ns.take 63).map Int.natAbs, 0, 0, 1 + ((ns.take 63).map Int.natAbs).length, 0, ?_, exSqL e3 (SqL.of h2), by simp; omega, fun e => by rw [e] at h2; rw [h2] at n3; cases n3⟩
      rw [h3]
      simp
end

/-! ## l_shuffled -/
section
variable {P : Program} {w : World} {K : PySem.W.Frag} {mg : Str → Option Value} {base : Heap}
abbrev N_l_shuffled : List Str := ["_law_hand_here", "_law_things", "_law_rest", "_law_found", "_law_turn"]
theorem sc_l_shuffled : FnScope N_l_shuffled ["_law_hand_here", "_law_things"] (defScope s_l_shuffled) := ⟨rfl, rfl, rfl, by decide +kernel, rfl, by decide +kernel, by decide +kernel⟩
theorem ok_l_shuffled {f : Addr} {fd : FuncData} (F : FnP K "_law_shuffled" s_l_shuffled f fd) (T : Txt K mg) (k_l_draw : Kn P w K mg base CX0 1 "_law_draw" ["_law_hand_here", "_law_many"] (sp_draw K)) : FnOk P w K mg base CX0 2 f fd ["_law_hand_here", "_law_things"] (sp_shuffled K) := by
  refine F.ok sc_l_shuffled (fun vs H Q E h => ?_) (fun cdv A outer s H vs Q E hr h => ?_)
  · obtain ⟨h, c, t, xs, rfl, _⟩ := h
    rfl
  · obtain ⟨h, c, t, xs, rfl, hH, ht, hl, nth, k⟩ := h
    refine ⟨_, PSs.nox (pss_cons (ps_set (i := 2) sc_l_shuffled.nd rfl (Or.inl rfl) (pe_callTy (callList (K := K)) (by rfl) T.list (by decide +kernel) (pa_cons (pv 1) pa_nil)))
    (pss_cons (ps_set (i := 3) sc_l_shuffled.nd rfl (Or.inl rfl) (pe_lst pa_nil))
    (pss_cons (ps_for PassesOwn.never rfl (pi_range1 rfl T.range (pa_cons (pe_callB (callLen (K := K)) (by rfl) T.len PySem.boot_len (pa_cons (pv 1) pa_nil)) pa_nil)) (pg_name (i := 4) sc_l_shuffled.nd rfl (by first | exact Or.inl rfl | exact Or.inr rfl))
    (pss_one (ps_expr (pe_bmK (K := K) PySem.F.plainAttrs_list PySem.F.slot_list_append PySem.F.type_list_append mt_append (pv 3) (pa_cons (pe_bmK (K := K) PySem.F.plainAttrs_list PySem.F.slot_list_pop PySem.F.type_list_pop mt_popAt (pv 2) (pa_cons (pe_kn k_l_draw (hr.mono (by decide)) rfl (pa_cons (pv 0) (pa_cons (pe_callB (callLen (K := K)) (by rfl) T.len PySem.boot_len (pa_cons (pv 2) pa_nil)) pa_nil))) pa_nil)) pa_nil)))))
    (pss_one (ps_ret (pv 3)))))), ?_⟩
    obtain ⟨ns0, a0, r0, s0, n0, h0, hc0, hs0, nch0⟩ := id hH
    walk_at "ws"
    refine r_list (.inl ht) fun re H1 n1 e1 h1 => ?_
    walk_at "ws"
    refine k_lst (by walk_at "sz") fun fo H2 n2 e2 h2 => ?_
    walk_at "ws"
    refine r_len (.inl (exSqL (e1.tr e2) ht)) ?_
    refine k_iR (by omega) ?_
    have nre : re ≠ h := fun e => by rw [e, h0] at n1; cases n1
    have nfo : fo ≠ h := fun e => by rw [e, e1 _ _ h0] at n2; cases n2
    have nrf : re ≠ fo := fun e => by rw [e] at h1; rw [h1] at n2; cases n2
    refine k_forR (fun i σ H' => ∃ (rs fs : List V) (z : Option V), Mo h H H' ∧ HandAt K H' h c ∧ H' re = some (.lst rs) ∧ H' fo = some (.lst fs) ∧ (rs ++ fs).Perm xs ∧ fs.length = i ∧ σ = [some (.ref h), some (.ref t), some (.ref re), some (.ref fo), z])
      ⟨xs, [], _, (e1.tr e2).mo, hH.ex (e1.tr e2), e2 _ _ h1, h2, by simp, rfl, rfl⟩ ?_ ?_
    · rintro i σ H3 hi ⟨rs, fs, z, m3, hH3, hre, hfo, hp, hfl, rfl⟩
      have hlen := hp.length_eq
      rw [List.length_append] at hlen
      walk_at "ws"
      refine k_bmL (SqL.of hfo) ?_
      walk_at "ws"
      refine k_bmL (SqL.of hre) ?_
      walk_at "ws"
      refine r_len (.inl (SqL.of hre)) ?_
      refine ⟨h, c, rs.length, rfl, hH3, by omega, by omega, fun d H4 hd m4 hH4 => ?_⟩
      walk_at "ws"
      have hre4 := m4 _ _ nre hre
      refine r_popAt hre4 (List.getElem?_eq_getElem hd) (by omega) fun H5 m5 h5 => ?_
      have hfo5 : H5 fo = _ := m5 _ _ (Ne.symm nrf) (m4 _ _ nfo hfo)
      walk_at "ws"
      refine r_append hfo5 (by rw [sizeLine_eq]; omega) fun H6 m6 h6 => ?_
      walk_at "ws"
      have nf0 : H fo = none := e1.back n2
      have hH5 : HandAt K H5 h c := hH.moN hH4 m5 n1
      have hH6 : HandAt K H6 h c := hH.moN hH5 m6 nf0
      refine ⟨_, _, _, ((m3.tr m4).skip m5 n1).skip m6 nf0, hH6, m6 _ _ nrf h5, h6, ?_, by simp [hfl], rfl⟩
      · refine List.Perm.trans ?_ hp
        rw [← List.append_assoc]
        refine (List.perm_append_comm (l₂ := [rs[d]])).trans ?_
        rw [← List.append_assoc]
        exact List.Perm.append_right _ (erase_perm (List.getElem?_eq_getElem hd))
    · rintro σ H3 ⟨rs, fs, z, m3, hH3, hre, hfo, hp, hfl, rfl⟩
      walk_at "ws"
      have hlen := hp.length_eq
      rw [List.length_append] at hlen
      have : rs = [] := List.length_eq_zero_iff.mp (by omega)
      subst this
      exact k fo fs H3 hp m3 hH3 hfo (e1.back n2)
end

/-! ## l_rows -/
section
variable {P : Program} {w : World} {K : PySem.W.Frag} {mg : Str → Option Value} {base : Heap}
abbrev N_l_rows : List Str := ["_law_hand_here", "_law_rule", "_law_size", "_law_many", "_law_rows_here", "_law_steps", "_law_turns", "_law_state", "_law_row", "_law_letter", "_law_to"]
theorem sc_l_rows : FnScope N_l_rows ["_law_hand_here", "_law_rule", "_law_size", "_law_many"] (defScope s_l_rows) := ⟨rfl, rfl, rfl, by decide +kernel, rfl, by decide +kernel, by decide +kernel⟩
theorem ok_l_rows {f : Addr} {fd : FuncData} (F : FnP K "_law_rows" s_l_rows f fd) (T : Txt K mg) (k_l_draw : Kn P w K mg base CX0 1 "_law_draw" ["_law_hand_here", "_law_many"] (sp_draw K)) (k_l_shuffled : Kn P w K mg base CX0 2 "_law_shuffled" ["_law_hand_here", "_law_things"] (sp_shuffled K)) : FnOk P w K mg base CX0 3 f fd ["_law_hand_here", "_law_rule", "_law_size", "_law_many"] (sp_rows K) := by
  refine F.ok sc_l_rows (fun vs H Q E h => ?_) (fun cdv A outer s H vs Q E hr h => ?_)
  · obtain ⟨h, c, rule, size, many, rfl, _⟩ := h
    rfl
  · obtain ⟨h, c, rule, size, many, rfl, hH, hs1, hs6, hm1, hm4, k⟩ := h
    refine ⟨_, PSs.nox (pss_cons (ps_set (i := 4) sc_l_rows.nd rfl (Or.inl rfl) (pe_lst pa_nil))
    (pss_cons (ps_setLc (i := 5) (own := [("_law_letter", 9)]) rfl sc_l_rows.nd rfl rfl (sw_true rfl rfl rfl (by decide +kernel)) (pi_range1 rfl T.range (pa_cons (pv 3) pa_nil)) (blkOk_by (own := [("_law_letter", 9)]) (N := N_l_rows) (sc := defScope s_l_rows) (by decide +kernel)) (fun _ _ _ _ _ => (pg_name (i := 9) sc_l_rows.nd rfl (by first | exact Or.inl rfl | exact Or.inr rfl))) (fun _ _ _ _ _ => pts_nil) (fun _ _ _ _ _ => (pe_kn k_l_draw (hr.mono (by decide)) rfl (pa_cons (pv 0) (pa_cons (pv 2) pa_nil)))))
    (pss_cons (ps_setLc (i := 6) (own := [("_law_letter", 9)]) rfl sc_l_rows.nd rfl rfl (sw_true rfl rfl rfl (by decide +kernel)) (pi_range1 rfl T.range (pa_cons (pv 3) pa_nil)) (blkOk_by (own := [("_law_letter", 9)]) (N := N_l_rows) (sc := defScope s_l_rows) (by decide +kernel)) (fun _ _ _ _ _ => (pg_name (i := 9) sc_l_rows.nd rfl (by first | exact Or.inl rfl | exact Or.inr rfl))) (fun _ _ _ _ _ => pts_nil) (fun _ _ _ _ _ => (pe_kn k_l_shuffled (hr.mono (by decide)) rfl (pa_cons (pv 0) (pa_cons (pe_listRg rfl rfl T.list (prg_1 rfl T.range (pv 2))) pa_nil)))))
    (pss_cons (ps_for PassesOwn.never rfl (pi_range1 rfl T.range (pa_cons (pv 2) pa_nil)) (pg_name (i := 7) sc_l_rows.nd rfl (by first | exact Or.inl rfl | exact Or.inr rfl))
    (pss_cons (ps_set (i := 8) sc_l_rows.nd rfl (Or.inl rfl) (pe_lst pa_nil))
    (pss_cons (ps_for PassesOwn.never rfl (pi_range1 rfl T.range (pa_cons (pv 3) pa_nil)) (pg_name (i := 9) sc_l_rows.nd rfl (by first | exact Or.inl rfl | exact Or.inr rfl))
    (pss_cons (ps_set (i := 10) sc_l_rows.nd rfl (Or.inl rfl) (pe_kn k_l_draw (hr.mono (by decide)) rfl (pa_cons (pv 0) (pa_cons (pv 2) pa_nil))))
    (pss_cons (ps_if (pt_cmpR op_eq (pv 1) pe_int (nomark _))
    (pss_one (ps_set (i := 10) sc_l_rows.nd rfl (Or.inl rfl) (pe_op op_mod (pe_callTy call_intS (by rfl) T.int (by decide +kernel) (pa_cons (pe_op op_add (pv 7) (pe_ix (ixL (K := K)) (pv 5) (pv 9) (fun _ _ => rfl))) pa_nil)) (pv 2))))
    pss_nil)
    (pss_cons (ps_if (pt_cmpR op_eq (pv 1) pe_int (nomark _))
    (pss_one (ps_set (i := 10) sc_l_rows.nd rfl (Or.inl rfl) (pe_callB (call_minS rfl) (by rfl) T.min (by decide +kernel) (pa_cons (pe_op op_sub (pv 2) pe_int) (pa_cons (pe_op op_add (pv 7) (pe_ix (ixL (K := K)) (pv 5) (pv 9) (fun _ _ => rfl))) pa_nil)))))
    pss_nil)
    (pss_cons (ps_if (pt_cmpR op_eq (pv 1) pe_int (nomark _))
    (pss_cons (ps_set (i := 10) sc_l_rows.nd rfl (Or.inl rfl) (pv 7))
    (pss_one (ps_if (pt_cmpR op_eq (pv 7) pe_int (nomark _))
    (pss_one (ps_set (i := 10) sc_l_rows.nd rfl (Or.inl rfl) (pe_op op_mod (pe_callTy call_intS (by rfl) T.int (by decide +kernel) (pa_cons (pe_op op_add pe_int (pv 9)) pa_nil)) (pv 2))))
    pss_nil)))
    pss_nil)
    (pss_cons (ps_if (pt_cmpR op_eq (pv 1) pe_int (nomark _))
    (pss_one (ps_set (i := 10) sc_l_rows.nd rfl (Or.inl rfl) (pe_op op_mod (pe_callTy call_intS (by rfl) T.int (by decide +kernel) (pa_cons (pe_op op_add pe_int (pv 9)) pa_nil)) (pv 2))))
    pss_nil)
    (pss_cons (ps_if (pt_cmpR op_eq (pv 1) pe_int (nomark _))
    (pss_one (ps_set (i := 10) sc_l_rows.nd rfl (Or.inl rfl) (pe_callB (call_minS rfl) (by rfl) T.min (by decide +kernel) (pa_cons (pe_op op_sub (pv 2) pe_int) (pa_cons (pe_op op_add (pv 7) (pe_callTy call_intS (by rfl) T.int (by decide +kernel) (pa_cons (pe_cmpR op_eq (pe_op op_mod (pv 7) (pv 3)) (pv 9) (nomark _)) pa_nil))) pa_nil)))))
    pss_nil)
    (pss_cons (ps_if (pt_cmpR op_eq (pv 1) pe_int (nomark _))
    (pss_cons (ps_set (i := 10) sc_l_rows.nd rfl (Or.inl rfl) (pe_op op_sub (pv 2) pe_int))
    (pss_one (ps_if (PW.pt (pw_and (pt_cmpR op_lt (pv 7) (pe_op op_sub (pv 2) pe_int) (nomark _)) (pw_and1 (pt_cmpR op_eq (pe_op op_mod (pv 7) (pv 3)) (pv 9) (nomark _)))))
    (pss_one (ps_set (i := 10) sc_l_rows.nd rfl (Or.inl rfl) (pe_op op_mod (pe_callTy call_intS (by rfl) T.int (by decide +kernel) (pa_cons (pe_op op_add (pv 7) pe_int) pa_nil)) (pe_op op_sub (pv 2) pe_int))))
    pss_nil)))
    pss_nil)
    (pss_cons (ps_if (pt_cmpR op_eq (pv 1) pe_int (nomark _))
    (pss_one (ps_set (i := 10) sc_l_rows.nd rfl (Or.inl rfl) (pe_ix (ixL (K := K)) (pe_ix (ixL (K := K)) (pv 6) (pv 9) (fun _ _ => rfl)) (pv 7) (fun _ _ => rfl))))
    pss_nil)
    (pss_one (ps_expr (pe_bmK (K := K) PySem.F.plainAttrs_list PySem.F.slot_list_append PySem.F.type_list_append mt_append (pv 8) (pa_cons (pv 10) pa_nil)))))))))))))
    (pss_one (ps_expr (pe_bmK (K := K) PySem.F.plainAttrs_list PySem.F.slot_list_append PySem.F.type_list_append mt_append (pv 4) (pa_cons (pe_tupleOfK (K := K) rfl T.tuple (pv 8)) pa_nil)))))))
    (pss_one (ps_ret (pe_tupleOfK (K := K) rfl T.tuple (pv 4)))))))), ?_⟩
    obtain ⟨ns0, a0, r0, s0, n0, h0, hc0, hs0, nch0⟩ := id hH
    walk_at "ws"
    refine k_lst (by walk_at "sz") fun ro H1 n1 e1 h1 => ?_
    have nroh : ro ≠ h := fun e => by rw [e, h0] at n1; cases n1
    walk_at "ws"
    refine k_iR (by omega) ?_
    refine k_lcG walk_rng (by omega) (fun Dl i ys H' => Mo h H H' ∧ HandAt K H' h c ∧ H' ro = some (.lst []) ∧ ∀ v ∈ ys, ∃ x, x < size ∧ v = iv x) (fun Dl H2 nD e2 => ⟨(e1.tr e2).mo, hH.ex (e1.tr e2), e2 _ _ h1, fun v hv => nomatch hv⟩) (fun _ _ _ _ _ => trivial)
      (fun Dl i ys Ha Hb nD mD ⟨p1, p2, p3, p4⟩ => ⟨p1.skip mD (e1.back nD), hH.moN p2 mD (e1.back nD), mD _ _ (fun e => by rw [← e, h1] at nD; cases nD) p3, p4⟩) (fun Dl i x H2 H3 ys Qc hi ⟨p1, p2, p3, p4⟩ hY nD hD hyl kk => ?_) fun st H2 ss nst ⟨p1, p2, p3, p4⟩ hst hsl => ?_
    · obtain ⟨rfl, rfl⟩ := hY
      walk_at "ws"
      refine ⟨h, c, size, rfl, p2, hs1, by omega, fun d H4 hd m4 hH4 => ?_⟩
      have nDh : Dl ≠ h := fun e => by rw [e, e1 _ _ h0] at nD; cases nD
      refine kk _ _ (m4 _ _ nDh hD) ⟨p1.tr m4, hH4, m4 _ _ nroh p3, fun v hv => ?_⟩
      rcases List.mem_append.mp hv with hv | hv
      · exact p4 v hv
      · exact ⟨d, hd, List.mem_singleton.mp hv⟩
    have nsto : st ≠ ro := fun e => by rw [e, h1] at nst; cases nst
    have nsth : st ≠ h := fun e => by rw [e, e1 _ _ h0] at nst; cases nst
    have nst0 : H st = none := e1.back nst
    walk_at "ws"
    refine k_iR (by omega) ?_
    refine k_lcG walk_rng (by omega) (fun Dl i ys H' => Mo h H H' ∧ HandAt K H' h c ∧ H' ro = some (.lst []) ∧ H' st = some (.lst ss) ∧ ∀ v ∈ ys, ∃ q zs, v = .ref q ∧ q ≠ Dl ∧ q ≠ h ∧ q ≠ ro ∧ H' q = some (.lst zs) ∧ zs.length = size ∧ ∀ u ∈ zs, ∃ x, x < size ∧ u = iv x)
      (fun Dl H3 nD e3 => ⟨p1.tr e3.mo, p2.ex e3, e3 _ _ p3, e3 _ _ hst, fun v hv => nomatch hv⟩) (fun _ _ _ _ _ => trivial)
      (fun Dl i ys Ha Hb nD mD ⟨q1, q2, q3, q4, q5⟩ => ?_) (fun Dl i x H3 H4 ys Qc hi ⟨q1, q2, q3, q4, q5⟩ hY nD hD hyl kk => ?_) fun tu B us ntu ⟨q1, q2, q3, q4, q5⟩ htu hul => ?_
    · have nD0 : H Dl = none := by
        cases hh : H Dl with
        | none => rfl
        | some o =>
          have : Dl ≠ h := fun e => by obtain ⟨_, _, _, _, _, z, _⟩ := p2; rw [e, z] at nD; cases nD
          rw [p1 _ _ this hh] at nD
          cases nD
      refine ⟨q1.skip mD nD0, hH.moN q2 mD nD0, mD _ _ (fun e => by rw [← e, p3] at nD; cases nD) q3, mD _ _ (fun e => by rw [← e, hst] at nD; cases nD) q4, fun v hv => ?_⟩
      obtain ⟨q, zs, r1, r2, r3, r4, r5, r6, r7⟩ := q5 v hv
      exact ⟨q, zs, r1, r2, r3, r4, mD _ _ r2 r5, r6, r7⟩
    · obtain ⟨rfl, rfl⟩ := hY
      walk_at "ws"
      refine k_lr (by omega) fun li H4 n4 e4 h4 => ?_
      have hh4 : ∃ o, H4 h = some o := by obtain ⟨_, _, _, _, _, z, _⟩ := q2; exact ⟨_, e4 _ _ z⟩
      have nlh : li ≠ h := fun e => by obtain ⟨_, _, _, _, _, z, _⟩ := q2; rw [e, z] at n4; cases n4
      walk_at "ws"
      refine ⟨h, c, li, (List.range size).map iv, rfl, q2.ex e4, SqL.of h4, by simp; omega, nlh, fun q zs H5 hp m5 hH5 h5 n5 => ?_⟩
      have nDh : Dl ≠ h := fun e => by obtain ⟨_, _, _, _, _, z, _⟩ := p2; rw [e, z] at nD; cases nD
      have nqh : q ≠ h := fun e => by obtain ⟨o, z⟩ := hh4; rw [e, z] at n5; cases n5
      refine kk _ _ (m5 _ _ nDh (e4 _ _ hD)) ⟨(q1.tr e4.mo).tr m5, hH5, m5 _ _ nroh (e4 _ _ q3), m5 _ _ nsth (e4 _ _ q4), fun v hv => ?_⟩
      rcases List.mem_append.mp hv with hv | hv
      · obtain ⟨q', zs', r1, r2, r3, r4, r5, r6, r7⟩ := q5 v hv
        exact ⟨q', zs', r1, r2, r3, r4, m5 _ _ r3 (e4 _ _ r5), r6, r7⟩
      · refine ⟨q, zs, List.mem_singleton.mp hv, (fun e => by rw [e, e4 _ _ hD] at n5; cases n5), nqh, (fun e => by rw [e, e4 _ _ q3] at n5; cases n5), h5, by rw [hp.length_eq]; simp, fun u hu => ?_⟩
        obtain ⟨x, hx, rfl⟩ := List.mem_map.mp (hp.mem_iff.mp hu)
        exact ⟨x, List.mem_range.mp hx, rfl⟩
    have ntuo : tu ≠ ro := fun e => by rw [e, p3] at ntu; cases ntu
    have ntuh : tu ≠ h := fun e => by obtain ⟨_, _, _, _, _, z, _⟩ := p2; rw [e, z] at ntu; cases ntu
    walk_at "ws"
    refine k_iR (by omega) ?_
    refine k_forR (fun i σ H' => ∃ (vs : List V) (z1 z2 z3 z4 : Option V) (T0 : List (List Nat)), (∀ a o, a ≠ h → a ≠ ro → B a = some o → H' a = some o) ∧ HandAt K H' h c ∧ H' ro = some (.lst vs) ∧ vs.length = i ∧ T0.length = i ∧ (∀ r ∈ T0, r.length = many ∧ ∀ x ∈ r, x < size) ∧
        (∀ (j : Nat) (r : List Nat), T0[j]? = some r → ∃ u, vs[j]? = some u ∧ TupN H' u r) ∧ σ = [some (.ref h), some (.int rule), some (iv size), some (iv many), some (.ref ro), some (.ref st), some (.ref tu), z1, z2, z3, z4])
      ⟨[], _, _, _, _, [], fun _ _ _ _ e => e, q2, q3, rfl, rfl, (fun r hr => nomatch hr), (fun j r hr => by simp at hr), rfl⟩ ?_ ?_
    · rintro i σ H3 hi ⟨vs, z1, z2, z3, z4, T0, kb, hH3, hro3, hvl, hTl, hTr, hrow, rfl⟩
      walk_at "ws"
      refine k_lst (by walk_at "sz") fun rw_ H4 n4 e4 h4 => ?_
      walk_at "ws"
      refine k_iR (by omega) ?_
      have hh3 : ∃ o, H3 h = some o := by obtain ⟨_, _, _, _, _, z, _⟩ := hH3; exact ⟨_, z⟩
      have nrh : rw_ ≠ h := fun e => by obtain ⟨o, z⟩ := hh3; rw [e, z] at n4; cases n4
      have nrr : rw_ ≠ ro := fun e => by rw [e, hro3] at n4; cases n4
      have hst3 : H3 st = some (.lst ss) := kb _ _ nsth nsto q4
      have htu3 : H3 tu = some (.lst us) := kb _ _ ntuh ntuo htu
      have nstr : st ≠ rw_ := ne_of_none hst3 n4
      have ntur : tu ≠ rw_ := ne_of_none htu3 n4
      refine k_forR (fun j σ H' => ∃ (row : List Nat) (z3 z4 : Option V), (∀ a o, a ≠ h → a ≠ rw_ → H4 a = some o → H' a = some o) ∧ HandAt K H' h c ∧ H' rw_ = some (.lst (row.map iv)) ∧ row.length = j ∧ (∀ x ∈ row, x < size) ∧
          σ = [some (.ref h), some (.int rule), some (iv size), some (iv many), some (.ref ro), some (.ref st), some (.ref tu), some (iv i), some (.ref rw_), z3, z4])
        ⟨[], _, _, fun _ _ _ _ e => e, hH3.ex e4, h4, rfl, (fun x hx => nomatch hx), rfl⟩ ?_ ?_
      · rintro j σ H5 hj ⟨row, z3, z4, kr, hH5, hrw5, hrl, hrx, rfl⟩
        walk_at "ws"
        refine ⟨h, c, size, rfl, hH5, hs1, by omega, fun d H6 hd m6 hH6 => ?_⟩
        have hst6 : H6 st = some (.lst ss) := m6 _ _ nsth (kr _ _ nsth nstr (e4 _ _ hst3))
        have htu6 : H6 tu = some (.lst us) := m6 _ _ ntuh (kr _ _ ntuh ntur (e4 _ _ htu3))
        have hrw6 : H6 rw_ = some (.lst (row.map iv)) := m6 _ _ nrh hrw5
        have kr6 : ∀ a o, a ≠ h → a ≠ rw_ → H4 a = some o → H6 a = some o := fun a o n1 n2 z => m6 _ _ n1 (kr a o n1 n2 z)
        have hmz : (0 : Int) < (many : Int) := by omega
        have hsz : (0 : Int) < (size : Int) := by omega
        have modn : ∀ {x : Int} {m : Nat}, 0 ≤ x → 0 < m → ∃ j : Nat, x % (m : Int) = (j : Int) ∧ j < m := fun {x m} hx hm => ⟨(x % (m : Int)).toNat, (Int.toNat_of_nonneg (Int.emod_nonneg x (by omega))).symm, by have := Int.emod_lt_of_pos x (show (0 : Int) < (m : Int) by omega); have := Int.emod_nonneg x (show (m : Int) ≠ 0 by omega); omega⟩
        let P : L2.St → Hp → Prop := fun σ' H' => H' = H6 ∧ ∃ t, t < size ∧ σ' = [some (.ref h), some (.int rule), some (iv size), some (iv many), some (.ref ro), some (.ref st), some (.ref tu), some (iv i), some (.ref rw_), some (iv j), some (iv t)]
        have hP0 : P [some (.ref h), some (.int rule), some (iv size), some (iv many), some (.ref ro), some (.ref st), some (.ref tu), some (iv i), some (.ref rw_), some (iv j), some (iv d)] H6 := ⟨rfl, d, hd, rfl⟩
        have hsj : ∃ x, x < size ∧ ss[j]? = some (iv x) := by
          have hj' : j < ss.length := by omega
          obtain ⟨x, hx, e⟩ := p4 _ (List.getElem_mem hj')
          exact ⟨x, hx, by rw [List.getElem?_eq_getElem hj', e]⟩
        obtain ⟨sj, hsjl, hsj⟩ := hsj
        have htj : ∃ q zs x, us[j]? = some (.ref q) ∧ H6 q = some (.lst zs) ∧ x < size ∧ zs[i]? = some (iv x) := by
          have hj' : j < us.length := by omega
          obtain ⟨q, zs, r1, r2, r3, r4, r5, r6, r7⟩ := q5 _ (List.getElem_mem hj')
          have hi' : i < zs.length := by omega
          obtain ⟨x, hx, e⟩ := r7 _ (List.getElem_mem hi')
          have hq3 := kb _ _ r3 r4 r5
          exact ⟨q, zs, x, by rw [List.getElem?_eq_getElem hj', r1], m6 _ _ r3 (kr _ _ r3 (ne_of_none hq3 n4) (e4 _ _ hq3)), hx, by rw [List.getElem?_eq_getElem hi', e]⟩
        obtain ⟨tq, tz, tx, htj, htq, htx, htz⟩ := htj
        have done : ∀ {N' : L2.St → Hp → Prop} {t : Int}, (∀ σ' H', P σ' H' → N' σ' H') → 0 ≤ t → t < size → N' [some (.ref h), some (.int rule), some (iv size), some (iv many), some (.ref ro), some (.ref st), some (.ref tu), some (iv i), some (.ref rw_), some (iv j), some (.int t)] H6 := fun {N' t} nx h0 h1 =>
          nx _ _ ⟨rfl, t.toNat, by omega, by rw [show iv t.toNat = V.int t from congrArg V.int (Int.toNat_of_nonneg h0)]⟩
        walk_at "ws"
        refine cutIf P (fun N' nx => k_if (fun _ => ?_) fun _ => nx _ _ hP0) ?_
        · walk_at "ws"
          refine r_ixL (n := j) (SqL.of hst6) hsj ?_
          walk_at "ws"
          refine r_mod hsz ?_
          walk_at "ws"
          exact done nx (Int.emod_nonneg _ (by omega)) (Int.emod_lt_of_pos _ hsz)
        rintro σ _ ⟨rfl, t, ht, rfl⟩
        walk_at "ws"
        refine cutIf P (fun N' nx => k_if (fun _ => ?_) fun _ => nx _ _ ⟨rfl, t, ht, rfl⟩) ?_
        · walk_at "ws"
          refine r_ixL (n := j) (SqL.of hst6) hsj ?_
          walk_at "ws"
          exact done nx (by split <;> omega) (by split <;> omega)
        clear t ht
        rintro σ _ ⟨rfl, t, ht, rfl⟩
        walk_at "ws"
        refine cutIf P (fun N' nx => k_if (fun _ => ?_) fun _ => nx _ _ ⟨rfl, t, ht, rfl⟩) ?_
        · walk_at "ws"
          refine k_if (fun _ => ?_) fun _ => nx _ _ ⟨rfl, i, hi, rfl⟩
          walk_at "ws"
          refine r_mod hsz ?_
          walk_at "ws"
          exact done nx (Int.emod_nonneg _ (by omega)) (Int.emod_lt_of_pos _ hsz)
        clear t ht
        rintro σ _ ⟨rfl, t, ht, rfl⟩
        walk_at "ws"
        refine cutIf P (fun N' nx => k_if (fun _ => ?_) fun _ => nx _ _ ⟨rfl, t, ht, rfl⟩) ?_
        · walk_at "ws"
          refine r_mod hsz ?_
          walk_at "ws"
          exact done nx (Int.emod_nonneg _ (by omega)) (Int.emod_lt_of_pos _ hsz)
        clear t ht
        rintro σ _ ⟨rfl, t, ht, rfl⟩
        walk_at "ws"
        refine cutIf P (fun N' nx => k_if (fun _ => ?_) fun _ => nx _ _ ⟨rfl, t, ht, rfl⟩) ?_
        · walk_at "ws"
          refine r_mod hmz ?_
          walk_at "ws"
          refine done nx ?_ ?_
          · split <;> split <;> omega
          · split <;> split <;> omega
        clear t ht
        rintro σ _ ⟨rfl, t, ht, rfl⟩
        walk_at "ws"
        refine cutIf P (fun N' nx => k_if (fun _ => ?_) fun _ => nx _ _ ⟨rfl, t, ht, rfl⟩) ?_
        · walk_at "ws"
          refine k_and (fun hlt => ?_) fun _ => k_if (fun z => by cases z) fun _ => done nx (by omega) (by omega)
          have hlt := of_decide_eq_true hlt
          walk_at "ws"
          refine r_mod hmz ?_
          walk_at "ws"
          refine k_if (fun _ => ?_) fun _ => done nx (by omega) (by omega)
          walk_at "ws"
          have hz1 : (0 : Int) < (size : Int) - 1 := by omega
          refine r_mod hz1 ?_
          walk_at "ws"
          have := Int.emod_lt_of_pos ((i : Int) + 1) hz1
          exact done nx (Int.emod_nonneg _ (by omega)) (by omega)
        clear t ht
        rintro σ _ ⟨rfl, t, ht, rfl⟩
        walk_at "ws"
        refine cutIf P (fun N' nx => k_if (fun _ => ?_) fun _ => nx _ _ ⟨rfl, t, ht, rfl⟩) ?_
        · walk_at "ws"
          refine r_ixL (n := j) (SqL.of htu6) htj ?_
          walk_at "ws"
          refine r_ixL (n := i) (SqL.of htq) htz ?_
          walk_at "ws"
          exact nx _ _ ⟨rfl, tx, htx, rfl⟩
        clear t ht
        rintro σ _ ⟨rfl, t, ht, rfl⟩
        walk_at "ws"
        refine k_bmL (SqL.of hrw6) ?_
        walk_at "ws"
        refine r_append hrw6 (by rw [List.length_map, hrl, sizeLine_eq]; omega) fun H7 m7 h7 => ?_
        walk_at "ws"
        have hrh0 : H rw_ = none := by
          cases hh : H rw_ with
          | none => rfl
          | some o =>
            have hB : B rw_ = some o := q1 _ _ nrh hh
            rw [kb _ _ nrh nrr hB] at n4
            cases n4
        refine ⟨row ++ [t], _, _, fun a o n1 n2 z => m7 _ _ n2 (kr6 a o n1 n2 z), hH.moN hH6 m7 hrh0, by rw [h7, List.map_append]; rfl, by simp [hrl], fun x hx => ?_, rfl⟩
        rcases List.mem_append.mp hx with hx | hx
        · exact hrx x hx
        · rw [List.mem_singleton.mp hx]; exact ht
      · rintro σ H5 ⟨row, z3, z4, kr, hH5, hrw5, hrl, hrx, rfl⟩
        walk_at "ws"
        have hro5 : H5 ro = some (.lst vs) := kr _ _ nroh (Ne.symm nrr) (e4 _ _ hro3)
        refine k_bmL (SqL.of hro5) ?_
        walk_at "ws"
        refine k_tupleL (SqL.of hrw5) fun tp H6 n6 e6 h6 => ?_
        walk_at "ws"
        have hro6 := e6 _ _ hro5
        refine r_append hro6 (by rw [hvl, sizeLine_eq]; omega) fun H7 m7 h7 => ?_
        walk_at "ws"
        have ntr : tp ≠ ro := fun e => by rw [e, hro5] at n6; cases n6
        have kb7 : ∀ a o, a ≠ h → a ≠ ro → B a = some o → H7 a = some o := fun a o n1 n2 z => m7 _ _ n2 (e6 _ _ (kr _ _ n1 (ne_of_none (kb _ _ n1 n2 z) n4) (e4 _ _ (kb _ _ n1 n2 z))))
        refine ⟨_, _, _, _, _, T0 ++ [row], kb7, ?_, h7, by simp [hvl], by simp [hTl], fun r hr => ?_, fun j r hr => ?_, rfl⟩
        · exact hH.moN (hH5.ex e6) m7 n1
        · rcases List.mem_append.mp hr with hr | hr
          · exact hTr r hr
          · rw [List.mem_singleton.mp hr]; exact ⟨hrl, hrx⟩
        · have tp37 : ∀ u r, TupN H3 u r → TupN H7 u r := fun u r ⟨a, ha, hb⟩ => by
            have n1 : a ≠ h := fun e => by obtain ⟨o, z⟩ := hh3; obtain ⟨_, _, _, _, _, z', _⟩ := hH3; rw [e, z'] at hb; cases hb
            have n2 : a ≠ ro := fun e => by rw [e, hro3] at hb; cases hb
            exact ⟨a, ha, m7 _ _ n2 (e6 _ _ (kr _ _ n1 (ne_of_none hb n4) (e4 _ _ hb)))⟩
          rw [List.getElem?_append] at hr
          split at hr
          · rename_i hlt
            obtain ⟨u, hu, ht⟩ := hrow j r hr
            exact ⟨u, by rw [List.getElem?_append_left (by omega)]; exact hu, tp37 u r ht⟩
          · rename_i hlt
            have : j - T0.length = 0 := by
              cases hk : j - T0.length with
              | zero => rfl
              | succ k => rw [hk] at hr; simp at hr
            rw [this] at hr
            have : row = r := by simpa using hr
            subst this
            exact ⟨.ref tp, by rw [List.getElem?_append_right (by omega), show j - vs.length = 0 by omega]; rfl, tp, rfl, m7 _ _ ntr h6⟩
    · rintro σ H3 ⟨vs, z1, z2, z3, z4, T0, kb, hH3, hro3, hvl, hTl, hTr, hrow, rfl⟩
      walk_at "ws"
      refine k_tupleL (SqL.of hro3) fun tp H4 n4 e4 h4 => ?_
      refine k _ T0 H4 ⟨by omega, fun r hr => ⟨(hTr r hr).1, fun x hx => by rw [hTl]; exact (hTr r hr).2 x hx⟩⟩ hTl (fun a o na ha => e4 _ _ (kb _ _ na (ne_of_none ha n1) (q1 _ _ na ha))) (hH3.ex e4) ⟨tp, vs, rfl, h4, by rw [hvl, hTl], fun j r hr => ?_⟩
      obtain ⟨u, hu, ht⟩ := hrow j r hr
      exact ⟨u, hu, ht.ex e4⟩
end

/-! ## l_woven -/
section
variable {P : Program} {w : World} {K : PySem.W.Frag} {mg : Str → Option Value} {base : Heap}
abbrev N_l_woven : List Str := ["_law_hand_here", "_law_many", "_law_one", "_law_size", "_law_other", "_law_rows_here", "_law_state", "_law_left", "_law_right", "_law_k"]
theorem sc_l_woven : FnScope N_l_woven ["_law_hand_here", "_law_many"] (defScope s_l_woven) := ⟨rfl, rfl, rfl, by decide +kernel, rfl, by decide +kernel, by decide +kernel⟩
theorem ok_l_woven {f : Addr} {fd : FuncData} (F : FnP K "_law_woven" s_l_woven f fd) (T : Txt K mg) (k_l_draw : Kn P w K mg base CX0 1 "_law_draw" ["_law_hand_here", "_law_many"] (sp_draw K)) (k_l_rows : Kn P w K mg base CX0 3 "_law_rows" ["_law_hand_here", "_law_rule", "_law_size", "_law_many"] (sp_rows K)) : FnOk P w K mg base CX0 4 f fd ["_law_hand_here", "_law_many"] (sp_woven K) := by
  refine F.ok sc_l_woven (fun vs H Q E h => ?_) (fun cdv A outer s H vs Q E hr h => ?_)
  · obtain ⟨h, c, many, rfl, _⟩ := h
    rfl
  · obtain ⟨h, c, many, rfl, hH, hm1, hm4, k⟩ := h
    refine ⟨_, PSs.nox (pss_cons (ps_set (i := 2) sc_l_woven.nd rfl (Or.inl rfl) (pe_kn k_l_rows (hr.mono (by decide)) rfl (pa_cons (pv 0) (pa_cons (pe_op op_add pe_int (pe_kn k_l_draw (hr.mono (by decide)) rfl (pa_cons (pv 0) (pa_cons pe_int pa_nil)))) (pa_cons pe_int (pa_cons (pv 1) pa_nil))))))
    (pss_cons (ps_set (i := 3) sc_l_woven.nd rfl (Or.inr rfl) (pe_op op_add pe_int (pe_kn k_l_draw (hr.mono (by decide)) rfl (pa_cons (pv 0) (pa_cons pe_int pa_nil)))))
    (pss_cons (ps_set (i := 4) sc_l_woven.nd rfl (Or.inl rfl) (pe_kn k_l_rows (hr.mono (by decide)) rfl (pa_cons (pv 0) (pa_cons (pe_op op_add pe_int (pe_kn k_l_draw (hr.mono (by decide)) rfl (pa_cons (pv 0) (pa_cons pe_int pa_nil)))) (pa_cons (pv 3) (pa_cons (pv 1) pa_nil))))))
    (pss_cons (ps_set (i := 5) sc_l_woven.nd rfl (Or.inl rfl) (pe_lst pa_nil))
    (pss_cons (ps_for PassesOwn.never rfl (pi_range1 rfl T.range (pa_cons (pe_op op_mul pe_int (pv 3)) pa_nil)) (pg_name (i := 6) sc_l_woven.nd rfl (by first | exact Or.inl rfl | exact Or.inr rfl))
    (pss_cons (ps_set (i := 7) sc_l_woven.nd rfl (Or.inr rfl) (pe_ix (ixT (K := K)) (pv 2) (pe_op op_fdiv (pv 6) (pv 3)) (fun _ _ => rfl)))
    (pss_cons (ps_set (i := 8) sc_l_woven.nd rfl (Or.inr rfl) (pe_ix (ixT (K := K)) (pv 4) (pe_op op_mod (pe_callTy call_intS (by rfl) T.int (by decide +kernel) (pa_cons (pv 6) pa_nil)) (pv 3)) (fun _ _ => rfl)))
    (pss_one (ps_expr (pe_bmK (K := K) PySem.F.plainAttrs_list PySem.F.slot_list_append PySem.F.type_list_append mt_append (pv 5) (pa_cons (pe_tupleOfK (K := K) rfl T.tuple (pe_lc (own := [("_law_k", 9)]) rfl sc_l_woven.nd (pi_range1 rfl T.range (pa_cons (pv 1) pa_nil)) (blkOk_by (own := [("_law_k", 9)]) (N := N_l_woven) (sc := defScope s_l_woven) (by decide +kernel)) (fun _ _ _ _ _ => (pg_name (i := 9) sc_l_woven.nd rfl (by first | exact Or.inl rfl | exact Or.inr rfl))) (fun _ _ _ _ _ => pts_nil) (fun _ _ _ _ _ => (pe_op op_add (pe_op op_mul (pe_ix (ixT (K := K)) (pv 7) (pv 9) (fun _ _ => rfl)) (pv 3)) (pe_ix (ixT (K := K)) (pv 8) (pv 9) (fun _ _ => rfl)))))) pa_nil)))))))
    (pss_one (ps_ret (pe_tupleOfK (K := K) rfl T.tuple (pv 5))))))))), ?_⟩
    walk_at "ws"
    refine ⟨h, c, 7, rfl, hH, by omega, by omega, fun d1 H1 hd1 m1 hH1 => ?_⟩
    walk_at "ws"
    refine ⟨h, c, 3 + d1, 2, many, rfl, hH1, by omega, by omega, hm1, hm4, fun v1 T1 H2 hT1 hl1 m2 hH2 hv1 => ?_⟩
    walk_at "ws"
    refine ⟨h, c, 2, rfl, hH2, by omega, by omega, fun d2 H3 hd2 m3 hH3 => ?_⟩
    walk_at "ws"
    rw [show (2 : Int) + (d2 : Int) = ((2 + d2 : Nat) : Int) by omega]
    obtain ⟨size, hsz⟩ : ∃ size, 2 + d2 = size := ⟨_, rfl⟩
    rw [hsz]
    refine ⟨h, c, 7, rfl, hH3, by omega, by omega, fun d3 H4 hd3 m4 hH4 => ?_⟩
    walk_at "ws"
    refine ⟨h, c, 3 + d3, size, many, rfl, hH4, by omega, by omega, hm1, hm4, fun v2 T2 H5 hT2 hl2 m5 hH5 hv2 => ?_⟩
    have hv1' : TabT H5 v1 T1 := ((hv1.tp (tp_moH hH2 m3)).tp (tp_moH hH3 m4)).tp (tp_moH hH4 m5)
    have m05 : Mo h H H5 := (((m1.tr m2).tr m3).tr m4).tr m5
    obtain ⟨a1, us1, rfl, ha1, hu1, hr1⟩ := hv1'
    obtain ⟨a2, us2, rfl, ha2, hu2, hr2⟩ := hv2
    walk_at "ws"
    refine k_lst (by walk_at "sz") fun ro H6 n6 e6 h6 => ?_
    walk_at "ws"
    refine r_mul (.inl (by decide)) ?_
    walk_at "ws"
    rw [show (2 : Int) * ((size : Nat) : Int) = ((2 * size : Nat) : Int) by omega]
    refine k_iR (by omega) ?_
    have hT1l : T1.length = 2 := hl1
    have hT2l : T2.length = size := hl2
    have a16 := e6 _ _ ha1
    have a26 := e6 _ _ ha2
    have n1o : a1 ≠ ro := ne_of_none ha1 n6
    have n2o : a2 ≠ ro := ne_of_none ha2 n6
    refine k_forR (fun i σ H' => ∃ (vs : List V) (z1 z2 z3 : Option V) (T0 : List (List Nat)), Mo ro H6 H' ∧ H' ro = some (.lst vs) ∧ vs.length = i ∧ T0.length = i ∧ (∀ r ∈ T0, r.length = many ∧ ∀ x ∈ r, x < 2 * size) ∧
        (∀ (j : Nat) (r : List Nat), T0[j]? = some r → ∃ u, vs[j]? = some u ∧ TupN H' u r) ∧ ∃ z0, σ = [some (.ref h), some (iv many), some (.ref a1), some (iv size), some (.ref a2), some (.ref ro), z0, z1, z2, z3])
      ⟨[], _, _, _, [], Ex.rfl'.mo, h6, rfl, rfl, (fun r hr => nomatch hr), (fun j r hr => by simp at hr), _, rfl⟩ ?_ ?_
    · rintro i σ H7 hi ⟨vs, z1, z2, z3, T0, m7, hro7, hvl, hTl, hTr, hrow, z0, rfl⟩
      walk_at "ws"
      have hsz0 : (0 : Int) < (size : Int) := by omega
      refine r_fdiv ⟨hsz0, by omega⟩ ?_
      have hq : i / size < 2 := Nat.div_lt_of_lt_mul (by omega)
      have hm : i % size < size := Nat.mod_lt _ (by omega)
      rw [show (i : Int) / (size : Int) = ((i / size : Nat) : Int) by simp]
      obtain ⟨u1, hu1e, hu1t⟩ := hr1 (i / size) _ (List.getElem?_eq_getElem (by omega))
      refine r_ixT (SqT.of (m7 _ _ n1o a16)) hu1e ?_
      walk_at "ws"
      refine r_mod hsz0 ?_
      rw [show (i : Int) % (size : Int) = ((i % size : Nat) : Int) by simp]
      obtain ⟨u2, hu2e, hu2t⟩ := hr2 (i % size) _ (List.getElem?_eq_getElem (by omega))
      refine r_ixT (SqT.of (m7 _ _ n2o a26)) hu2e ?_
      have tp57 : Tp H5 H7 := fun a xs z => m7 _ _ (ne_of_none z n6) (e6 _ _ z)
      obtain ⟨b1, rfl, hb1⟩ := hu1t.tp tp57
      obtain ⟨b2, rfl, hb2⟩ := hu2t.tp tp57
      have r1 := hT1.row _ (List.getElem_mem (show i / size < T1.length by omega))
      have r2 := hT2.row _ (List.getElem_mem (show i % size < T2.length by omega))
      generalize hR1 : T1[i / size] = R1 at *
      generalize hR2 : T2[i % size] = R2 at *
      walk_at "ws"
      refine k_bmL (SqL.of hro7) ?_
      walk_at "ws"
      refine k_iR (by omega) ?_
      refine k_lcP walk_rng (by omega) (((List.range many).map fun k => R1.getD k 0 * size + R2.getD k 0).map iv) (by simp) (fun _ _ => trivial) (fun j x H8 H9 Qc hj hY e8 k8 => ?_) fun Dl H8 n8 e8 h8 => ?_
      · obtain ⟨rfl, rfl⟩ := hY
        walk_at "ws"
        refine r_ixT (n := j) (SqT.of (e8 _ _ hb1)) (at_iv (by rw [r1.1]; exact hj)) ?_
        walk_at "ws"
        refine r_mul (.inr (by omega)) ?_
        walk_at "ws"
        refine r_ixT (n := j) (SqT.of (e8 _ _ hb2)) (at_iv (by rw [r2.1]; exact hj)) ?_
        walk_at "ws"
        refine k8 _ _ ?_ Ex.rfl'
        simp [hj]
      refine k_tupleL (SqL.of h8) fun tp H9 n9 e9 h9 => ?_
      have hro9 := e9 _ _ (e8 _ _ hro7)
      walk_at "ws"
      refine r_append hro9 (by rw [hvl, sizeLine_eq]; omega) fun H10 m10 h10 => ?_
      walk_at "ws"
      have ntr : tp ≠ ro := fun e => by rw [e, e8 _ _ hro7] at n9; cases n9
      refine ⟨_, _, _, _, T0 ++ [(List.range many).map fun k => R1.getD k 0 * size + R2.getD k 0], fun a o na ha => m10 _ _ na (e9 _ _ (e8 _ _ (m7 _ _ na ha))), h10, by simp [hvl], by simp [hTl], fun r hr => ?_, fun j r hr => ?_, _, rfl⟩
      · rcases List.mem_append.mp hr with hr | hr
        · exact hTr r hr
        · rw [List.mem_singleton.mp hr]
          refine ⟨by simp, fun x hx => ?_⟩
          obtain ⟨k, hk, rfl⟩ := List.mem_map.mp hx
          have hk := List.mem_range.mp hk
          have g1 : R1.getD k 0 < 2 := by
            rw [List.getD_eq_getElem?_getD, List.getElem?_eq_getElem (by rw [r1.1]; exact hk)]
            have := r1.2 _ (List.getElem_mem (by rw [r1.1]; exact hk : k < R1.length))
            exact Nat.lt_of_lt_of_eq this hT1l
          have g2 : R2.getD k 0 < size := by
            rw [List.getD_eq_getElem?_getD, List.getElem?_eq_getElem (by rw [r2.1]; exact hk)]
            have := r2.2 _ (List.getElem_mem (by rw [r2.1]; exact hk : k < R2.length))
            exact Nat.lt_of_lt_of_eq this hT2l
          have : R1.getD k 0 * size ≤ 1 * size := Nat.mul_le_mul_right _ (by omega)
          omega
      · have tp37 : ∀ u r, TupN H7 u r → TupN H10 u r := fun u r ⟨a, ha, hb⟩ => ⟨a, ha, m10 _ _ (fun e => by rw [e, hro7] at hb; cases hb) (e9 _ _ (e8 _ _ hb))⟩
        rw [List.getElem?_append] at hr
        split at hr
        · rename_i hlt
          obtain ⟨u, hu, ht⟩ := hrow j r hr
          exact ⟨u, by rw [List.getElem?_append_left (by omega)]; exact hu, tp37 u r ht⟩
        · rename_i hlt
          have : j - T0.length = 0 := by
            cases hk : j - T0.length with
            | zero => rfl
            | succ k => rw [hk] at hr; simp at hr
          rw [this] at hr
          have hr := Option.some.inj (show some _ = some r from hr)
          subst hr
          exact ⟨.ref tp, by rw [List.getElem?_append_right (by omega), show j - vs.length = 0 by omega]; rfl, tp, rfl, m10 _ _ ntr h9⟩
    · rintro σ H7 ⟨vs, z1, z2, z3, T0, m7, hro7, hvl, hTl, hTr, hrow, z0, rfl⟩
      walk_at "ws"
      refine k_tupleL (SqL.of hro7) fun tp H8 n8 e8 h8 => ?_
      have hro0 : H ro = none := by
        cases hh : H ro with
        | none => rfl
        | some o =>
          have : ro ≠ h := fun e => by obtain ⟨_, _, _, _, _, z, _⟩ := hH5; rw [e, z] at n6; cases n6
          rw [m05 _ _ this hh] at n6
          cases n6
      refine k _ T0 H8 ⟨by omega, fun r hr => ⟨(hTr r hr).1, fun x hx => by rw [hTl]; exact (hTr r hr).2 x hx⟩⟩ (by omega) ((m05.tr e6.mo).skip (fun a o na ha => e8 _ _ (m7 _ _ na ha)) hro0) ((hH.moN (hH5.ex e6) m7 hro0).ex e8) ⟨tp, vs, rfl, h8, by rw [hvl, hTl], fun j r hr => ?_⟩
      obtain ⟨u, hu, ht⟩ := hrow j r hr
      exact ⟨u, hu, ht.ex e8⟩
end

/-! ## l_parts -/
section
variable {P : Program} {w : World} {K : PySem.W.Frag} {mg : Str → Option Value} {base : Heap}
abbrev N_l_parts : List Str := ["_law_hand_here", "_law_most", "_law_states", "_law_rule", "_law_many", "_law_size", "_law_signs", "_law_letters", "_law_table", "_law_accepts", "_law_state"]
theorem sc_l_parts : FnScope N_l_parts ["_law_hand_here", "_law_most", "_law_states"] (defScope s_l_parts) := ⟨rfl, rfl, rfl, by decide +kernel, rfl, by decide +kernel, by decide +kernel⟩
theorem ok_l_parts {f : Addr} {fd : FuncData} (F : FnP K "_law_parts" s_l_parts f fd) (T : Txt K mg) (k_l_draw : Kn P w K mg base CX0 1 "_law_draw" ["_law_hand_here", "_law_many"] (sp_draw K)) (k_l_shuffled : Kn P w K mg base CX0 2 "_law_shuffled" ["_law_hand_here", "_law_things"] (sp_shuffled K)) (k_l_rows : Kn P w K mg base CX0 3 "_law_rows" ["_law_hand_here", "_law_rule", "_law_size", "_law_many"] (sp_rows K)) (k_l_woven : Kn P w K mg base CX0 4 "_law_woven" ["_law_hand_here", "_law_many"] (sp_woven K)) : FnOk P w K mg base CX0 5 f fd ["_law_hand_here", "_law_most", "_law_states"] (sp_parts K) := by
  refine F.ok sc_l_parts (fun vs H Q E h => ?_) (fun cdv A outer s H vs Q E hr h => ?_)
  · obtain ⟨h, c, rfl, _⟩ := h
    rfl
  · obtain ⟨h, c, rfl, hH, k⟩ := h
    refine ⟨_, PSs.nox (pss_cons (ps_set (i := 3) sc_l_parts.nd rfl (Or.inl rfl) (pe_kn k_l_draw (hr.mono (by decide)) rfl (pa_cons (pv 0) (pa_cons pe_int pa_nil))))
    (pss_cons (ps_set (i := 4) sc_l_parts.nd rfl (Or.inl rfl) (pe_op op_add pe_int (pe_kn k_l_draw (hr.mono (by decide)) rfl (pa_cons (pv 0) (pa_cons (pv 1) pa_nil)))))
    (pss_cons (ps_set (i := 5) sc_l_parts.nd rfl (Or.inl rfl) (pe_op op_add pe_int (pe_kn k_l_draw (hr.mono (by decide)) rfl (pa_cons (pv 0) (pa_cons (pv 2) pa_nil)))))
    (pss_cons (ps_if (pt_cmpR op_gt (pv 3) pe_int (nomark _))
    (pss_cons (ps_set (i := 5) sc_l_parts.nd rfl (Or.inl rfl) (pe_callB (call_maxS rfl) (by rfl) T.max (by decide +kernel) (pa_cons pe_int (pa_cons (pv 5) pa_nil))))
    (pss_one (ps_set (i := 4) sc_l_parts.nd rfl (Or.inl rfl) (pe_callB (call_maxS rfl) (by rfl) T.max (by decide +kernel) (pa_cons (pe_callB (call_minS rfl) (by rfl) T.min (by decide +kernel) (pa_cons pe_int (pa_cons (pv 1) pa_nil))) (pa_cons (pv 4) pa_nil))))))
    pss_nil)
    (pss_cons (ps_set (i := 6) sc_l_parts.nd rfl (Or.inl rfl) (pe_kn k_l_shuffled (hr.mono (by decide)) rfl (pa_cons (pv 0) (pa_cons (pe_callTy (call_listT rfl) (by rfl) T.list (by decide +kernel) (pa_cons pe_str pa_nil)) pa_nil))))
    (pss_cons (ps_set (i := 7) sc_l_parts.nd rfl (Or.inl rfl) (pe_joinK (K := K) pe_str (pe_callB (cr_sortedSK (K := K)) (by rfl) T.sorted (by decide +kernel) (pa_cons (pe_slice (slL (K := K)) (pv 6) po_none (po_some (pv 4))) pa_nil))))
    (pss_cons (ps_if (pt_cmpR op_gt (pv 3) pe_int (nomark _))
    (pss_one (ps_set (i := 8) sc_l_parts.nd rfl (Or.inl rfl) (pe_kn k_l_woven (hr.mono (by decide)) rfl (pa_cons (pv 0) (pa_cons (pv 4) pa_nil)))))
    (pss_one (ps_set (i := 8) sc_l_parts.nd rfl (Or.inl rfl) (pe_kn k_l_rows (hr.mono (by decide)) rfl (pa_cons (pv 0) (pa_cons (pv 3) (pa_cons (pv 5) (pa_cons (pv 4) pa_nil))))))))
    (pss_cons (ps_set (i := 9) sc_l_parts.nd rfl (Or.inl rfl) (pe_tupleOfK (K := K) rfl T.tuple (pe_lc (own := [("_law_state", 10)]) rfl sc_l_parts.nd (pi_range1 rfl T.range (pa_cons (pe_callB (callLen (K := K)) (by rfl) T.len PySem.boot_len (pa_cons (pv 8) pa_nil)) pa_nil)) (blkOk_by (own := [("_law_state", 10)]) (N := N_l_parts) (sc := defScope s_l_parts) (by decide +kernel)) (fun _ _ _ _ _ => (pg_name (i := 10) sc_l_parts.nd rfl (by first | exact Or.inl rfl | exact Or.inr rfl))) (fun _ _ _ _ _ => pts_one (pt_cmpR op_eq (pe_kn k_l_draw (hr.mono (by decide)) rfl (pa_cons (pv 0) (pa_cons pe_int pa_nil))) pe_int (nomark _))) (fun _ _ _ _ _ => (pv 10)))))
    (pss_one (ps_ret (pe_tup (pa_cons (pv 7) (pa_cons (pv 8) (pa_cons (pv 9) pa_nil)))))))))))))), ?_⟩
    walk_at "ws"
    refine ⟨h, c, 13, rfl, hH, by omega, by omega, fun rule H1 hru m1 hH1 => ?_⟩
    walk_at "ws"
    refine ⟨h, c, 4, rfl, hH1, by omega, by omega, fun dm H2 hdm m2 hH2 => ?_⟩
    walk_at "ws"
    refine ⟨h, c, 6, rfl, hH2, by omega, by omega, fun dz H3 hdz m3 hH3 => ?_⟩
    walk_at "ws"
    refine cutIf (fun σ' H' => H' = H3 ∧ ∃ many size : Nat, 1 ≤ many ∧ many ≤ 4 ∧ 1 ≤ size ∧ size ≤ 6 ∧ ∃ z6 z7 z8 z9 z10, σ' = [some (.ref h), some (iv 4), some (iv 6), some (iv rule), some (iv many), some (iv size), z6, z7, z8, z9, z10]) (fun N' nx => ?_) ?_
    · have done : ∀ (mi si : Int) z6 z7 z8 z9 z10, 1 ≤ mi → mi ≤ 4 → 1 ≤ si → si ≤ 6 → N' [some (.ref h), some (iv 4), some (iv 6), some (iv rule), some (.int mi), some (.int si), z6, z7, z8, z9, z10] H3 := fun mi si z6 z7 z8 z9 z10 h1 h2 h3 h4 =>
        nx _ _ ⟨rfl, mi.toNat, si.toNat, by omega, by omega, by omega, by omega, z6, z7, z8, z9, z10, by rw [show iv mi.toNat = V.int mi from congrArg V.int (Int.toNat_of_nonneg (by omega)), show iv si.toNat = V.int si from congrArg V.int (Int.toNat_of_nonneg (by omega))]⟩
      refine k_if (fun _ => ?_) fun _ => done _ _ _ _ _ _ _ (by omega) (by omega) (by omega) (by omega)
      walk_at "ws"
      refine done _ _ _ _ _ _ _ ?_ ?_ ?_ ?_
      · split <;> omega
      · split <;> split <;> omega
      · split <;> omega
      · split <;> omega
    rintro σ _ ⟨rfl, many, size, g1, g2, g3, g4, z6, z7, z8, z9, z10, rfl⟩
    walk_at "ws"
    have zl : (Str.ofString "abcdefghijklmnopqrstuvwxyz").length = 26 := by decide +kernel
    refine r_listT (by rw [zl, sizeLine_eq]; omega) fun al H4 n4 e4 h4 => ?_
    have halpha : sgn (Str.ofString "abcdefghijklmnopqrstuvwxyz") = ((List.range 26).map (· + 97)).map fun c => V.str (sg1 c) := by
      unfold sgn
      rw [show (Str.ofString "abcdefghijklmnopqrstuvwxyz").cps.toList = (List.range 26).map (· + 97) by decide +kernel]
    rw [halpha] at h4
    have nalh : al ≠ h := fun e => by obtain ⟨_, _, _, _, _, z, _⟩ := hH3; rw [e, z] at n4; cases n4
    walk_at "ws"
    refine ⟨h, c, al, _, rfl, hH3.ex e4, SqL.of h4, by simp, nalh, fun sl zs H5 hperm m5 hH5 h5 n5 => ?_⟩
    obtain ⟨ds, rfl, hds⟩ := perm_pull (fun v : V => match v with | .str s => s.cps.toList.headD 0 | _ => 0) (fun a => rfl) hperm
    walk_at "ws"
    refine r_slLto (p := many) (SqL.of h5) fun tl H6 n6 e6 h6 => ?_
    rw [← List.map_take] at h6
    have map2 : ∀ l : List Nat, (l.map fun c => V.str (sg1 c)) = (l.map sg1).map V.str := fun l => by rw [List.map_map]; rfl
    have h6' : H6 tl = some (.lst (((ds.take many).map sg1).map V.str)) := by rw [h6, map2]
    have hal : ∀ x ∈ ds, 97 ≤ x ∧ x ≤ 122 := fun x hx => by
      obtain ⟨y, hy, rfl⟩ := List.mem_map.mp (hds.mem_iff.mp hx)
      have := List.mem_range.mp hy
      omega
    have hdl : ds.length = 26 := by rw [hds.length_eq]; simp
    have hdn : ds.Nodup := by
      rw [hds.nodup_iff]
      exact List.pairwise_map.mpr (List.nodup_range.imp fun h e => h (by omega))
    refine r_sortS (SqL.of h6') (by rw [List.length_map, List.length_take]; omega) fun ms so H7 hpm hsm n7 e7 h7 => ?_
    obtain ⟨es, rfl, hes⟩ := perm_pull (fun s : Str => s.cps.toList.headD 0) (fun a => rfl) hpm
    have hel : es.length = many := by rw [hes.length_eq, List.length_take]; omega
    have hem : ∀ x ∈ es, x ∈ ds := fun x hx => List.mem_of_mem_take (hes.mem_iff.mp hx)
    have hen : es.Nodup := by rw [hes.nodup_iff]; exact hdn.sublist (List.take_sublist _ _)
    have hasc : es.Pairwise (· < ·) := by
      have h1 := List.pairwise_map.mp (sortedS_pw hsm)
      refine (h1.and hen).imp fun {x y} ⟨a, b⟩ => ?_
      have a : ¬ [y] < [x] := a
      rw [List.cons_lt_cons_iff] at a
      have : ¬ y < x := fun z => a (.inl z)
      omega
    rw [← map2] at h7
    refine r_joinC (SqL.of h7) (by omega) ?_
    have hH7 : HandAt K H7 h c := (hH5.ex e6).ex e7
    have m07 : Mo h H H7 := ((((m1.tr m2).tr m3).tr e4.mo).tr m5).tr (e6.tr e7).mo
    walk_at "ws"
    refine cutIf (fun σ' H' => ∃ (tv : V) (Tb : List (List Nat)), QM.TOk Tb many ∧ Tb.length ≤ 6 ∧ Mo h H H' ∧ HandAt K H' h c ∧ TabT H' tv Tb ∧ ∃ z6 z9 z10, σ' = [some (.ref h), some (iv 4), some (iv 6), some (iv rule), some (iv many), some (iv size), z6, some (.str (sO es)), some tv, z9, z10]) (fun N' nx => ?_) ?_
    · refine k_if (fun _ => ?_) fun _ => ?_
      · walk_at "ws"
        refine ⟨h, c, many, rfl, hH7, g1, g2, fun v Tb H8 hTb hl m8 hH8 hv => ?_⟩
        walk_at "ws"
        exact nx _ _ ⟨v, Tb, hTb, hl, m07.tr m8, hH8, hv, _, _, _, rfl⟩
      · walk_at "ws"
        refine ⟨h, c, rule, size, many, rfl, hH7, g3, g4, g1, g2, fun v Tb H8 hTb hl m8 hH8 hv => ?_⟩
        walk_at "ws"
        exact nx _ _ ⟨v, Tb, hTb, by omega, m07.tr m8, hH8, hv, _, _, _, rfl⟩
    rintro σ H8 ⟨tv, Tb, hTb, hTl, m08, hH8, hTv, z6, z9, z10, rfl⟩
    obtain ⟨ta, tus, rfl, hta, htl, htr⟩ := id hTv
    walk_at "ws"
    refine r_len (.inr (SqT.of hta)) ?_
    rw [htl]
    refine k_iR (by omega) ?_
    refine k_lcGT walk_rng (by omega) (fun Dl i ys H' => Mo h H H' ∧ HandAt K H' h c ∧ TabT H' (.ref ta) Tb ∧ ∃ A : List Nat, ys = A.map iv ∧ A.Pairwise (· < ·) ∧ ∀ q ∈ A, q < i)
      (fun Dl H9 nD e9 => ⟨m08.tr e9.mo, hH8.ex e9, hTv.ex e9, [], rfl, .nil, fun q hq => nomatch hq⟩) (fun _ _ _ _ _ => trivial)
      (fun Dl i ys Ha Hb nD hlD mD ⟨q1, q2, q3, q4⟩ => ?_) (fun Dl i x H9 H10 ys Qb Qc hi ⟨q1, q2, q3, A1, q4, q5, q6⟩ hY nD hD kk kb => ?_) fun Dl H9 ys nD ⟨q1, q2, q3, A1, q4, q5, q6⟩ hD hyl => ?_
    · have nD0 : H Dl = none := by
        cases hh : H Dl with
        | none => rfl
        | some o =>
          have : Dl ≠ h := fun e => by obtain ⟨_, _, _, _, _, z, _⟩ := hH8; rw [e, z] at nD; cases nD
          rw [m08 _ _ this hh] at nD
          cases nD
      exact ⟨q1.skip mD nD0, hH.moN q2 mD nD0, q3.tp (mD.tp fun xs q => by obtain ⟨l, hl⟩ := hlD; rw [hl] at q; cases q), q4⟩
    · obtain ⟨rfl, rfl⟩ := hY
      walk_at "ws"
      refine ⟨h, c, 2, rfl, q2, by omega, by omega, fun d H11 hd m11 hH11 => ?_⟩
      have nDh : Dl ≠ h := fun e => by obtain ⟨_, _, _, _, _, z, _⟩ := hH8; rw [e, z] at nD; cases nD
      walk_at "ws"
      by_cases hd1 : (d : Int) = 1
      · rw [decide_eq_true hd1]
        rw [if_pos rfl]
        walk_at "ws"
        refine kk _ _ (m11 _ _ nDh hD) ⟨q1.tr m11, hH11, q3.tp (tp_moH q2 m11), A1 ++ [i], by rw [q4, List.map_append]; rfl, ?_, fun q hq => ?_⟩
        · exact List.pairwise_append.mpr ⟨q5, by simp, fun a ha b hb => by rw [List.mem_singleton.mp hb]; exact q6 a ha⟩
        · rcases List.mem_append.mp hq with hq | hq
          · have := q6 q hq; omega
          · rw [List.mem_singleton.mp hq]; omega
      · rw [decide_eq_false hd1]
        exact kb _ (m11 _ _ nDh hD) ⟨q1.tr m11, hH11, q3.tp (tp_moH q2 m11), A1, q4, q5, fun q hq => by have := q6 q hq; omega⟩
    · subst q4
      refine k_tupleL (SqL.of hD) fun tp H10 n10 e10 h10 => ?_
      walk_at "ws"
      refine k_tup (by walk_at "sz") fun rp H11 n11 e11 h11 => ?_
      refine k rp es (.ref ta) (.ref tp) Tb A1 H11 ⟨hasc, by omega, by omega, hel ▸ hTb, hTl, ?_⟩ (fun x hx => hal x (hem x hx)) q5 q6 (q1.tr (e10.tr e11).mo) (q2.ex (e10.tr e11)) (q3.ex (e10.tr e11)) ⟨tp, rfl, e11 _ _ h10⟩ h11
      have := QM.nodup_le (q5.imp fun h => Nat.ne_of_lt h : A1.Nodup) (m := List.range Tb.length) fun x hx => List.mem_range.mpr (q6 x hx)
      rw [List.length_range] at this
      omega
end

/-! ## l_after -/
section
variable {P : Program} {w : World} {K : PySem.W.Frag} {mg : Str → Option Value} {base : Heap}
abbrev N_l_after : List Str := ["_law_one", "_law_other", "_law_state"]
theorem sc_l_after : FnScope N_l_after ["_law_one", "_law_other"] (defScope s_l_after) := ⟨rfl, rfl, rfl, by decide +kernel, rfl, by decide +kernel, by decide +kernel⟩
theorem ok_l_after {f : Addr} {fd : FuncData} (F : FnP K "_law_after" s_l_after f fd) (T : Txt K mg) : FnOk P w K mg base CX0 1 f fd ["_law_one", "_law_other"] sp_after := by
  refine F.ok sc_l_after (fun vs H Q E h => ?_) (fun cdv A outer s H vs Q E hr h => ?_)
  · obtain ⟨x, y, a, b, rfl, _⟩ := h
    rfl
  · obtain ⟨x, y, a, b, rfl, ⟨pa, rfl, ha⟩, ⟨pb, rfl, hb⟩, hq, hl, k⟩ := h
    refine ⟨_, PSs.nox (pss_one (ps_ret (pe_tupleOfK (K := K) rfl T.tuple (pe_lc (own := [("_law_state", 2)]) rfl sc_l_after.nd (pi_seqK (K := K) (pv 0)) (blkOk_by (own := [("_law_state", 2)]) (N := N_l_after) (sc := defScope s_l_after) (by decide +kernel)) (fun _ _ _ _ _ => (pg_name (i := 2) sc_l_after.nd rfl (by first | exact Or.inl rfl | exact Or.inr rfl))) (fun _ _ _ _ _ => pts_nil) (fun _ _ _ _ _ => (pe_ix (ixT (K := K)) (pv 1) (pv 2) (fun _ _ => rfl))))))), ?_⟩
    walk_at "ws"
    refine k_iS (b := false) (SqT.of ha) ?_
    refine k_lcSP (by simp; omega) (a.map fun q => iv (b.getD q 0)) (by simp) (SqT.of ha) (fun j x H1 Qc hx e k1 => ?_) (fun Dl H1 _ e1 h1 => ?_)
    · obtain ⟨q, hq1, rfl⟩ := at_map hx
      walk_at "ws"
      have hlt : q < b.length := hq q (List.mem_of_getElem? hq1)
      refine r_ixT (SqT.of (e _ _ hb)) (at_iv hlt) ?_
      exact k1 _ _ (by simp [hq1]) Ex.rfl'
    · refine k_tupleL (SqL.of h1) fun p H2 _ e2 h2 => ?_
      exact k _ _ (e1.tr e2) ⟨p, rfl, by rw [h2]; unfold QM.after; rw [List.map_map]; rfl⟩
end

/-! ## l_place -/
section
variable {P : Program} {w : World} {K : PySem.W.Frag} {mg : Str → Option Value} {base : Heap}
abbrev N_l_place : List Str := ["_law_told"]
theorem sc_l_place : FnScope N_l_place ["_law_told"] (defScope s_l_place) := ⟨rfl, rfl, rfl, by decide +kernel, rfl, by decide +kernel, by decide +kernel⟩
theorem ok_l_place {f : Addr} {fd : FuncData} (F : FnP K "_law_place" s_l_place f fd) (T : Txt K mg) : FnOk P w K mg base CX0 1 f fd ["_law_told"] sp_l_place := by
  refine F.ok sc_l_place (fun vs H Q E h => ?_) (fun cdv A outer s H vs Q E hr h => ?_)
  · obtain ⟨n, rfl, _⟩ := h
    rfl
  · obtain ⟨n, rfl, hn, k⟩ := h
    refine ⟨_, PSs.nox (pss_one (ps_ret (pe_bmK (K := K) PySem.F.plainAttrs_list PySem.F.slot_list_index PySem.F.type_list_index (mtIndex (K := K)) (pe_lst (pa_cons pe_str (pa_cons pe_str (pa_cons pe_str pa_nil)))) (pa_cons (pv 0) pa_nil)))), ?_⟩
    walk_at "ws"
    refine k_lst (by walk_at "sz") fun p H1 n1 e1 h1 => ?_
    refine k_bmL (SqL.of h1) ?_
    walk_at "ws"
    match n, hn with
    | 0, _ => exact ⟨p, _, _, 0, _, rfl, rfl, SqL.of h1, by decide +kernel, by decide +kernel, rfl, by decide +kernel, (fun m z hm => absurd hm (Nat.not_lt_zero _)), k _ e1⟩
    | 1, _ => exact ⟨p, _, _, 1, _, rfl, rfl, SqL.of h1, by decide +kernel, by decide +kernel, rfl, by decide +kernel, (fun m z hm hz => by
        match m, hm with
        | 0, _ => cases hz; decide +kernel), k _ e1⟩
    | 2, _ => exact ⟨p, _, _, 2, _, rfl, rfl, SqL.of h1, by decide +kernel, by decide +kernel, rfl, by decide +kernel, (fun m z hm hz => by
        match m, hm with
        | 0, _ => cases hz; decide +kernel
        | 1, _ => cases hz; decide +kernel), k _ e1⟩
end

/-! ## l_deed -/
section
variable {P : Program} {w : World} {K : PySem.W.Frag} {mg : Str → Option Value} {base : Heap}
abbrev N_l_deed : List Str := ["_law_letters", "_law_rows_here", "_law_word", "_law_here", "_law_letter", "_law_k", "_law_state"]
theorem sc_l_deed : FnScope N_l_deed ["_law_letters", "_law_rows_here", "_law_word"] (defScope s_l_deed) := ⟨rfl, rfl, rfl, by decide +kernel, rfl, by decide +kernel, by decide +kernel⟩
theorem ok_l_deed {f : Addr} {fd : FuncData} (F : FnP K "_law_deed" s_l_deed f fd) (T : Txt K mg) : FnOk P w K mg base CX0 1 f fd ["_law_letters", "_law_rows_here", "_law_word"] sp_l_deed := by
  refine F.ok sc_l_deed (fun vs H Q E h => ?_) (fun cdv A outer s H vs Q E hr h => ?_)
  · obtain ⟨cs, x, R, u, rfl, _⟩ := h
    rfl
  · obtain ⟨cs, x, R, u, rfl, hnd, ⟨ra, us, rfl, hra, hrl, hrow⟩, ht, h6, hu, hul, k⟩ := h
    refine ⟨_, PSs.nox (pss_cons (ps_set (i := 3) sc_l_deed.nd rfl (Or.inl rfl) (pe_tupRg rfl rfl T.tuple (prg_1 rfl T.range (pe_callB (callLen (K := K)) (by rfl) T.len PySem.boot_len (pa_cons (pv 1) pa_nil)))))
    (pss_cons (ps_for PassesOwn.never rfl (pi_str (pv 2)) (pg_name (i := 4) sc_l_deed.nd rfl (by first | exact Or.inl rfl | exact Or.inr rfl))
    (pss_cons (ps_set (i := 5) sc_l_deed.nd rfl (Or.inr rfl) (pe_bmK (K := K) PySem.F.plainAttrs_str PySem.F.slot_str_find PySem.F.type_str_find mtSFind (pv 0) (pa_cons (pv 4) pa_nil)))
    (pss_one (ps_set (i := 3) sc_l_deed.nd rfl (Or.inl rfl) (pe_tupleOfK (K := K) rfl T.tuple (pe_lc (own := [("_law_state", 6)]) rfl sc_l_deed.nd (pi_seqK (K := K) (pv 3)) (blkOk_by (own := [("_law_state", 6)]) (N := N_l_deed) (sc := defScope s_l_deed) (by decide +kernel)) (fun _ _ _ _ _ => (pg_name (i := 6) sc_l_deed.nd rfl (by first | exact Or.inl rfl | exact Or.inr rfl))) (fun _ _ _ _ _ => pts_nil) (fun _ _ _ _ _ => (pe_ix (ixT (K := K)) (pe_ix (ixT (K := K)) (pv 1) (pv 6) (fun _ _ => rfl)) (pv 5) (fun _ _ => rfl)))))))))
    (pss_one (ps_ret (pv 3))))), ?_⟩
    walk_at "ws"
    refine r_len (.inr (SqT.of hra)) ?_
    rw [hrl]
    refine k_tr (by omega) fun h0 H1 n1 e1 h1 => ?_
    walk_at "ws"
    refine k_forT (fun i σ H' => ∃ (hv : V) (z4 z5 z6 : Option V), Ex H H' ∧ TupN H' hv (QM.deed R (u.take i)) ∧ σ = [some (.str (sO cs)), some (.ref ra), some (.str (wO cs u)), some hv, z4, z5, z6])
      ⟨_, _, _, _, e1, ⟨h0, rfl, by rw [List.take_zero, QM.deed_nil]; exact h1⟩, rfl⟩ ?_ ?_
    · rintro i c σ H2 hc ⟨hv, z4, z5, z6, e2, ⟨ha, rfl, hha⟩, rfl⟩
      have hil : i < u.length := by
        have := (List.getElem?_eq_some_iff.mp hc).1
        simpa using this
      have hak : u[i] < cs.length := hu _ (List.getElem_mem hil)
      have hcc : c = cs.getD u[i] 0 := by
        have : ((wO cs u).cps.toList)[i]? = some (cs.getD u[i] 0) := by simp [hil]
        rw [this] at hc
        exact (Option.some.inj hc).symm
      subst hcc
      have otk : QM.Ok cs.length (u.take i) := fun a m => hu a (List.mem_of_mem_take m)
      walk_at "ws"
      refine r_sfind (i := u[i]) (by simp [hak]) hnd ?_
      walk_at "ws"
      refine k_iS (b := false) (SqT.of hha) ?_
      refine k_lcSP (by rw [List.length_map, QM.deed_len]; omega) ((QM.deed R (u.take i ++ [u[i]])).map iv) (by simp [QM.deed_len]) (SqT.of hha) (fun j x H3 Qc hx e3 k3 => ?_) fun Dl H3 n3 e3 h3 => ?_
      · obtain ⟨q, hq, rfl⟩ := at_map hx
        have hqR : q < R.length := QM.deed_lt ht otk q (List.mem_of_getElem? hq)
        obtain ⟨v, hv, b, rfl, hb⟩ := hrow q _ (List.getElem?_eq_getElem hqR)
        walk_at "ws"
        refine r_ixT (SqT.of (e3 _ _ (e2 _ _ hra))) hv ?_
        walk_at "ws"
        refine r_ixT (n := u[i]) (SqT.of (e3 _ _ (e2 _ _ hb))) (at_iv (by rw [(ht.row _ (List.getElem_mem hqR)).1]; exact hak)) ?_
        refine k3 _ _ ?_ Ex.rfl'
        have hjR : j < R.length := by have := (List.getElem?_eq_some_iff.mp hq).1; rwa [QM.deed_len] at this
        have hqe : q = QM.run R j (u.take i) := by
          unfold QM.deed at hq
          rw [List.getElem?_map, List.getElem?_range hjR] at hq
          exact (Option.some.inj hq).symm
        unfold QM.deed
        rw [List.getElem?_map, List.getElem?_map, List.getElem?_range hjR]
        show some (iv (QM.run R j (u.take i ++ [u[i]]))) = _
        rw [QM.run_app, ← hqe]
        show some (iv (QM.cell R q u[i])) = _
        unfold QM.cell
        rw [List.getD_eq_getElem?_getD (l := R), List.getElem?_eq_getElem hqR]
        rfl
      · refine k_tupleL (SqL.of h3) fun tp H4 n4 e4 h4 => ?_
        walk_at "ws"
        exact ⟨_, _, _, _, (e2.tr e3).tr e4, ⟨tp, rfl, by rw [h4, List.take_add_one, List.getElem?_eq_getElem hil]; rfl⟩, rfl⟩
    · rintro σ H2 ⟨hv, z4, z5, z6, e2, hd, rfl⟩
      walk_at "ws"
      refine k _ _ e2 ?_
      have : u.take (wO cs u).cps.size = u := by simp
      rwa [this] at hd
end

/-! ## l_steady -/
section
variable {P : Program} {w : World} {K : PySem.W.Frag} {mg : Str → Option Value} {base : Heap}
abbrev N_l_steady : List Str := ["_law_act", "_law_here"]
theorem sc_l_steady : FnScope N_l_steady ["_law_act"] (defScope s_l_steady) := ⟨rfl, rfl, rfl, by decide +kernel, rfl, by decide +kernel, by decide +kernel⟩
theorem ok_l_steady {f : Addr} {fd : FuncData} (F : FnP K "_law_steady" s_l_steady f fd) (T : Txt K mg) (k_l_after : Kn P w K mg base CX0 1 "_law_after" ["_law_one", "_law_other"] sp_l_after) : FnOk P w K mg base CX0 2 f fd ["_law_act"] sp_l_steady := by
  refine F.ok sc_l_steady (fun vs H Q E h => ?_) (fun cdv A outer s H vs Q E hr h => ?_)
  · obtain ⟨x, R, ws, kk, u, rfl, _⟩ := h
    rfl
  · obtain ⟨x, R, ws, kk, u, rfl, hx, hF, ht, hu, h6, k⟩ := h
    refine ⟨_, PSs.nox (pss_cons (ps_set (i := 1) sc_l_steady.nd rfl (Or.inl rfl) (pv 0))
    (pss_cons (ps_while PassesOwn.never (pt_cmpR (opNeD (K := K) hr.units) (pe_kn k_l_after (hr.mono (by decide)) rfl (pa_cons (pv 1) (pa_cons (pv 1) pa_nil))) (pv 1) (nomark _))
    (pss_one (ps_set (i := 1) sc_l_steady.nd rfl (Or.inl rfl) (pe_kn k_l_after (hr.mono (by decide)) rfl (pa_cons (pv 1) (pa_cons (pv 0) pa_nil))))))
    (pss_one (ps_ret (pv 1))))), ?_⟩
    obtain ⟨N, hN1, hN⟩ := hF.pow ht hu
    walk_at "ws"
    let W (mm : Nat) (σ : L2.St) (H' : Hp) : Prop := ∃ (n : Nat) (v : V), mm = N - n ∧ 1 ≤ n ∧ n ≤ N ∧ Ex H H' ∧ TupN H' v (QM.deed R (QA.rep u n)) ∧ σ = [some x, some v]
    refine w_while W (N - 1) ⟨1, x, rfl, Nat.le_refl _, hN1, Ex.rfl', by show TupN H x (QM.deed R (u ++ [])); rwa [List.append_nil], rfl⟩ ?_
    rintro mm σ H3 ⟨n, v, rfl, h1, hn, e3, hv, rfl⟩
    have on := QM.rep_ok hu n
    have hlt : ∀ q ∈ QM.deed R (QA.rep u n), q < (QM.deed R (QA.rep u n)).length := fun q hq => by rw [QM.deed_len]; exact QM.deed_lt ht on q hq
    walk_at "ws"
    refine ⟨v, v, _, _, rfl, hv, hv, hlt, by rw [QM.deed_len]; omega, fun v2 H4 e4 hv2 => ?_⟩
    walk_at "ws"
    rw [QM.deed_app ht on] at hv2
    refine r_neT hv2 (hv.ex e4) ?_
    walk_at "ws"
    refine k_wh (fun hb => ?_) (fun hb => ?_)
    · have hne : QM.deed R (QA.rep u n ++ QA.rep u n) ≠ QM.deed R (QA.rep u n) := by simpa using hb
      have hnN : n < N := by
        rcases Nat.lt_or_eq_of_le hn with h | h
        · exact h
        · subst h; exact absurd hN hne
      walk_at "ws"
      refine ⟨v, x, _, _, rfl, hv.ex e4, (hx.ex e3).ex e4, fun q hq => by rw [QM.deed_len]; exact QM.deed_lt ht on q hq, by rw [QM.deed_len]; omega, fun v3 H5 e5 hv3 => ?_⟩
      walk_at "ws"
      rw [QM.deed_app ht on] at hv3
      refine ⟨N - (n + 1), by omega, n + 1, v3, rfl, by omega, by omega, (e3.tr e4).tr e5, ?_, rfl⟩
      have : QA.rep u (n + 1) = QA.rep u n ++ u := by rw [QA.rep_add u n 1]; show _ = _; congr 1; show u ++ [] = u; simp
      rw [this]
      exact hv3
    · have he : QM.deed R (QA.rep u n ++ QA.rep u n) = QM.deed R (QA.rep u n) := by simpa using hb
      walk_at "ws"
      refine k v H4 (e3.tr e4) ?_
      rw [← QM.spw_at hF ht hu h1 he]
      exact hv.ex e4
end

/-! ## l_deeds -/
section
variable {P : Program} {w : World} {K : PySem.W.Frag} {mg : Str → Option Value} {base : Heap}
abbrev N_l_deeds : List Str := ["_law_letters", "_law_rows_here", "_law_most", "_law_words", "_law_acts", "_law_known", "_law_at", "_law_k", "_law_act", "_law_state"]
theorem sc_l_deeds : FnScope N_l_deeds ["_law_letters", "_law_rows_here", "_law_most"] (defScope s_l_deeds) := ⟨rfl, rfl, rfl, by decide +kernel, rfl, by decide +kernel, by decide +kernel⟩
/-- words, deeds, known ones -/
structure DI (H H' : Hp) (cs : List Nat) (R : List (List Nat)) (wo ac kn : Addr) (ws : List (List Nat)) (i : Nat) : Prop where
  e : Ex H H'
  w : WsAt H' wo ac cs R ws
  kn : H' kn = some (.dT ((ws.map (QM.deed R)).map fun d => (d.map ik, V.bl true)))
  nd : (ws.map (QM.deed R)).Nodup
  zero : ws[0]? = some []
  ok : ∀ w ∈ ws, QM.Ok cs.length w
  clo : ∀ j w a, j < i → ws[j]? = some w → a < cs.length → QM.deed R (w ++ [a]) ∈ ws.map (QM.deed R)
  len : ∀ (j : Nat) (w : List Nat), ws[j]? = some w → w.length ≤ j
theorem ok_l_deeds {f : Addr} {fd : FuncData} (F : FnP K "_law_deeds" s_l_deeds f fd) (T : Txt K mg) : FnOk P w K mg base CX0 1 f fd ["_law_letters", "_law_rows_here", "_law_most"] (sp_l_deeds K) := by
  refine F.ok sc_l_deeds (fun vs H Q E h => ?_) (fun cdv A outer s H vs Q E hr h => ?_)
  · obtain ⟨cs, x, R, most, rfl, _⟩ := h
    rfl
  · obtain ⟨cs, x, R, most, rfl, h4, ⟨ra, us, rfl, hra, hrl, hrow⟩, ht, h6, hm1, hm100, k1, k2⟩ := h
    refine ⟨_, PSs.nox (pss_cons (ps_set (i := 3) sc_l_deeds.nd rfl (Or.inl rfl) (pe_lst (pa_cons pe_str pa_nil)))
    (pss_cons (ps_set (i := 4) sc_l_deeds.nd rfl (Or.inl rfl) (pe_lst (pa_cons (pe_tupRg rfl rfl T.tuple (prg_1 rfl T.range (pe_callB (callLen (K := K)) (by rfl) T.len PySem.boot_len (pa_cons (pv 1) pa_nil)))) pa_nil)))
    (pss_cons (ps_set (i := 5) sc_l_deeds.nd rfl (Or.inl rfl) (pe_dispT hr.units (pe_ix (ixL (K := K)) (pv 4) pe_int (fun _ _ => rfl)) pe_bl))
    (pss_cons (ps_set (i := 6) sc_l_deeds.nd rfl (Or.inl rfl) pe_int)
    (pss_cons (ps_while PassesOwn.never (pt_cmpR op_lt (pv 6) (pe_callB (callLen (K := K)) (by rfl) T.len PySem.boot_len (pa_cons (pv 4) pa_nil)) (nomark _))
    (pss_cons (ps_for PassesOwn.never rfl (pi_range1 rfl T.range (pa_cons (pe_callB call_lenT (by rfl) T.len PySem.boot_len (pa_cons (pv 0) pa_nil)) pa_nil)) (pg_name (i := 7) sc_l_deeds.nd rfl (by first | exact Or.inl rfl | exact Or.inr rfl))
    (pss_cons (ps_set (i := 8) sc_l_deeds.nd rfl (Or.inl rfl) (pe_tupleOfK (K := K) rfl T.tuple (pe_lc (own := [("_law_state", 9)]) rfl sc_l_deeds.nd (pi_seqK (K := K) (pe_ix (ixL (K := K)) (pv 4) (pv 6) (fun _ _ => rfl))) (blkOk_by (own := [("_law_state", 9)]) (N := N_l_deeds) (sc := defScope s_l_deeds) (by decide +kernel)) (fun _ _ _ _ _ => (pg_name (i := 9) sc_l_deeds.nd rfl (by first | exact Or.inl rfl | exact Or.inr rfl))) (fun _ _ _ _ _ => pts_nil) (fun _ _ _ _ _ => (pe_ix (ixT (K := K)) (pe_ix (ixT (K := K)) (pv 1) (pv 9) (fun _ _ => rfl)) (pv 7) (fun _ _ => rfl))))))
    (pss_one (ps_if (pt_cmp (pc_dnotin (hu_of hr) (pv 8) (pv 5)) rfl)
    (pss_cons (ps_dput (hu_of hr) (pv 5) (pv 8) pe_bl rfl)
    (pss_cons (ps_expr (pe_bmK (K := K) PySem.F.plainAttrs_list PySem.F.slot_list_append PySem.F.type_list_append mt_append (pv 3) (pa_cons (pe_op op_addT (pe_ix (ixL (K := K)) (pv 3) (pv 6) (fun _ _ => rfl)) (pe_ix ix_str (pv 0) (pv 7) (fun _ _ => rfl))) pa_nil)))
    (pss_one (ps_expr (pe_bmK (K := K) PySem.F.plainAttrs_list PySem.F.slot_list_append PySem.F.type_list_append mt_append (pv 4) (pa_cons (pv 8) pa_nil))))))
    pss_nil))))
    (pss_cons (ps_if (pt_cmpR op_gt (pe_callB (callLen (K := K)) (by rfl) T.len PySem.boot_len (pa_cons (pv 4) pa_nil)) (pv 2) (nomark _))
    (pss_one (ps_ret pe_non))
    pss_nil)
    (pss_one (ps_set (i := 6) sc_l_deeds.nd rfl (Or.inl rfl) (pe_op op_add (pv 6) pe_int))))))
    (pss_one (ps_ret (pe_tup (pa_cons (pv 3) (pa_cons (pv 4) pa_nil)))))))))), ?_⟩
    walk_at "ws"
    refine k_lst (by walk_at "sz") fun wo H1 n1 e1 h1 => ?_
    walk_at "ws"
    refine r_len (.inr (SqT.of (e1 _ _ hra))) ?_
    rw [hrl]
    refine k_tr (by omega) fun t0 H2 n2 e2 h2 => ?_
    walk_at "ws"
    refine k_lst (by walk_at "sz") fun ac H3 n3 e3 h3 => ?_
    walk_at "ws"
    refine w_dispT fun kn H4 n4 e4 h4 => ?_
    walk_at "ws"
    refine r_ixL0 (n := 0) (SqL.of (e4 _ _ h3)) rfl rfl ?_
    walk_at "ws"
    refine k_dt2 h4 (ks := (List.range R.length).map ik) (by rw [e4 _ _ (e3 _ _ h2), List.map_map]; rfl) fun H5 m5 h5 => ?_
    have nwk : wo ≠ kn := ne_of_none (e3 _ _ (e2 _ _ h1)) n4
    have nak : ac ≠ kn := ne_of_none h3 n4
    have nwa : wo ≠ ac := ne_of_none (e2 _ _ h1) n3
    have ntk : t0 ≠ kn := ne_of_none (e3 _ _ h2) n4
    have nkn : H kn = none := ((e1.tr e2).tr e3).back n4
    have nac : H ac = none := (e1.tr e2).back n3
    walk_at "ws"
    let W (mm : Nat) (σ : L2.St) (H' : Hp) : Prop := ∃ (ws : List (List Nat)) (i : Nat) (z7 z8 z9 : Option V), mm = most - i ∧ DI H H' cs R wo ac kn ws i ∧ ws.length ≤ most ∧ i ≤ ws.length ∧ σ = [some (.str (sO cs)), some (.ref ra), some (iv most), some (.ref wo), some (.ref ac), some (.ref kn), some (iv i), z7, z8, z9]
    refine w_while W most ⟨[[]], 0, _, _, _, rfl, ⟨m5.ex (((e1.tr e2).tr e3).tr e4) nkn, ⟨[.ref t0], m5 _ _ nwk (e4 _ _ (e3 _ _ (e2 _ _ h1))), m5 _ _ nak (e4 _ _ h3), rfl, fun i w hw => ?_⟩, (by rw [h5, List.map_cons, QM.deed_nil]; rfl), by simp, rfl, (fun w hw => by rw [List.mem_singleton.mp hw]; exact fun _ m => nomatch m), (fun j w a hj => absurd hj (Nat.not_lt_zero _)), (fun j w hw => by
      match j, hw with
      | 0, hw => cases hw; exact Nat.le_refl _
      | j + 1, hw => simp at hw)⟩, by simpa using hm1, Nat.zero_le _, rfl⟩ ?_
    · match i, hw with
      | 0, hw => cases hw; exact ⟨_, rfl, t0, rfl, by rw [m5 _ _ ntk (e4 _ _ (e3 _ _ h2)), QM.deed_nil]⟩
      | i + 1, hw => simp at hw
    rintro mm σ H6 ⟨ws, i, z7, z8, z9, rfl, hD, hwl, hiw, rfl⟩
    obtain ⟨ds, hwo, hac, hdl, hds⟩ := id hD.w
    walk_at "ws"
    refine r_len (.inl (SqL.of hac)) ?_
    rw [hdl]
    walk_at "ws"
    refine k_wh (fun hb => ?_) (fun hb => ?_)
    · have hlt : i < ws.length := by simpa using hb
      obtain ⟨w0, hw0⟩ : ∃ w0, ws[i]? = some w0 := ⟨_, List.getElem?_eq_getElem hlt⟩
      have ow0 := hD.ok w0 (List.mem_of_getElem? hw0)
      walk_at "ws"
      refine r_lenT (by show (sO cs).length ≤ _; rw [slen, sizeLine_eq]; omega) ?_
      rw [slen]
      refine k_iR (by omega) ?_
      refine k_forR (fun j σ H' => ∃ (ws' : List (List Nat)) (z7 z8 z9 : Option V), (∃ r, ws' = ws ++ r) ∧ DI H H' cs R wo ac kn ws' i ∧ ws'.length ≤ ws.length + j ∧ (∀ a, a < j → QM.deed R (w0 ++ [a]) ∈ ws'.map (QM.deed R)) ∧
          σ = [some (.str (sO cs)), some (.ref ra), some (iv most), some (.ref wo), some (.ref ac), some (.ref kn), some (iv i), z7, z8, z9])
        ⟨ws, _, _, _, ⟨[], by simp⟩, hD, by omega, fun a ha => absurd ha (Nat.not_lt_zero _), rfl⟩ ?_ ?_
      · rintro j σ H7 hj ⟨ws', z7, z8, z9, ⟨r, rfl⟩, hD7, hl7, hdone, rfl⟩
        obtain ⟨ds7, hwo7, hac7, hdl7, hds7⟩ := id hD7.w
        have hw07 : (ws ++ r)[i]? = some w0 := by rw [List.getElem?_append_left hlt]; exact hw0
        obtain ⟨v0, hv0, b0, rfl, hb0⟩ := hds7 i w0 hw07
        walk_at "ws"
        refine r_ixL (n := i) (SqL.of hac7) hv0 ?_
        refine k_iS (b := false) (SqT.of hb0) ?_
        refine k_lcSP (by rw [List.length_map, QM.deed_len]; omega) ((QM.deed R (w0 ++ [j])).map iv) (by simp [QM.deed_len]) (SqT.of hb0) (fun jj x H8 Qc hx e8 k8 => ?_) fun Dl H8 n8 e8 h8 => ?_
        · obtain ⟨q, hq, rfl⟩ := at_map hx
          have hqR : q < R.length := QM.deed_lt ht ow0 q (List.mem_of_getElem? hq)
          obtain ⟨v, hv, b, rfl, hb⟩ := hrow q _ (List.getElem?_eq_getElem hqR)
          walk_at "ws"
          refine r_ixT (SqT.of (e8 _ _ (hD7.e _ _ hra))) hv ?_
          walk_at "ws"
          refine r_ixT (n := j) (SqT.of (e8 _ _ (hD7.e _ _ hb))) (at_iv (by rw [(ht.row _ (List.getElem_mem hqR)).1]; exact hj)) ?_
          refine k8 _ _ ?_ Ex.rfl'
          have hjR : jj < R.length := by have := (List.getElem?_eq_some_iff.mp hq).1; rwa [QM.deed_len] at this
          have hqe : q = QM.run R jj w0 := by
            unfold QM.deed at hq
            rw [List.getElem?_map, List.getElem?_range hjR] at hq
            exact (Option.some.inj hq).symm
          unfold QM.deed
          rw [List.getElem?_map, List.getElem?_map, List.getElem?_range hjR]
          show some (iv (QM.run R jj (w0 ++ [j]))) = _
          rw [QM.run_app, ← hqe]
          show some (iv (QM.cell R q j)) = _
          unfold QM.cell
          rw [List.getD_eq_getElem?_getD (l := R), List.getElem?_eq_getElem hqR]
          rfl
        refine k_tupleL (SqL.of h8) fun tp H9 n9 e9 h9 => ?_
        have e79 := e8.tr e9
        have hD9 : DI H H9 cs R wo ac kn (ws ++ r) i := ⟨hD7.e.tr e79, hD7.w.ex e79, e79 _ _ hD7.kn, hD7.nd, hD7.zero, hD7.ok, hD7.clo, hD7.len⟩
        obtain ⟨ds9, hwo9, hac9, hdl9, hds9⟩ := id hD9.w
        have ow1 : QM.Ok cs.length (w0 ++ [j]) := ow0.app fun b m => by rw [List.mem_singleton.mp m]; exact hj
        walk_at "ws"
        refine k_di2T hD9.kn (ks := (QM.deed R (w0 ++ [j])).map ik) (by rw [h9, kV_ik]) ?_
        rw [valV_blT]
        walk_at "ws"
        by_cases hm : QM.deed R (w0 ++ [j]) ∈ (ws ++ r).map (QM.deed R)
        · rw [if_pos hm]
          refine k_if (fun z => by cases z) fun _ => ?_
          refine ⟨_, _, _, _, ⟨r, rfl⟩, hD9, by omega, fun a ha => ?_, rfl⟩
          rcases Nat.lt_succ_iff_lt_or_eq.mp ha with ha | rfl
          · exact hdone a ha
          · exact hm
        · rw [if_neg hm]
          refine k_if (fun _ => ?_) fun z => by cases z
          walk_at "ws"
          refine k_dp3T hD9.kn (ks := (QM.deed R (w0 ++ [j])).map ik) (by rw [h9, kV_ik]) (by rw [sizeLine_eq, List.length_map, List.length_map]; omega) fun H10 m10 h10 => ?_
          have hwo10 := m10 _ _ nwk hwo9
          have hac10 := m10 _ _ nak hac9
          walk_at "ws"
          refine k_bmL (SqL.of hwo10) ?_
          walk_at "ws"
          refine r_ixL (n := i) (SqL.of hwo10) (v := .str (wO cs w0)) (by rw [List.getElem?_map, hw07]; rfl) ?_
          walk_at "ws"
          refine r_ixC hj (by omega) ?_
          have hwlen : w0.length ≤ i := hD.len i w0 hw0
          walk_at "ws"
          refine r_addT (by show (wO cs w0).length + 1 ≤ _; rw [slen, List.length_map, sizeLine_eq]; omega) ?_
          rw [show (wO cs w0 ++ (⟨#[cs.getD j 0]⟩ : Str)) = wO cs (w0 ++ [j]) from wO_app cs w0 [j]]
          refine r_append hwo10 (by rw [sizeLine_eq, List.length_map]; omega) fun H11 m11 h11 => ?_
          have hac11 := m11 _ _ (Ne.symm nwa) hac10
          walk_at "ws"
          refine k_bmL (SqL.of hac11) ?_
          walk_at "ws"
          refine r_append hac11 (by rw [sizeLine_eq, hdl9]; omega) fun H12 m12 h12 => ?_
          walk_at "ws"
          have t12 : Tp H9 H12 := fun a xs z => m12 _ _ (fun e => by rw [e, hac9] at z; cases z) (m11 _ _ (fun e => by rw [e, hwo9] at z; cases z) (m10 _ _ (fun e => by rw [e, hD9.kn] at z; cases z) z))
          refine ⟨ws ++ r ++ [w0 ++ [j]], _, _, _, ⟨r ++ [w0 ++ [j]], by simp⟩, ⟨m12.ex (m11.ex (m10.ex hD9.e nkn) n1) nac, ⟨ds9 ++ [.ref tp], (by
            rw [m12 _ _ nwa h11]
            conv => { rhs; rw [List.map_append] }
            rfl), h12, (by simp [hdl9]; omega), fun i' w' hw' => ?_⟩, ?_, ?_, ?_, ?_, ?_, ?_⟩, ?_, ?_, rfl⟩
          · rw [List.getElem?_append] at hw'
            split at hw'
            · rename_i hlt'
              obtain ⟨v, hv, hvt⟩ := hds9 i' w' hw'
              exact ⟨v, by rw [List.getElem?_append_left (by omega)]; exact hv, hvt.tp t12⟩
            · rename_i hlt'
              have h0 : i' - (ws ++ r).length = 0 := by
                cases hk : i' - (ws ++ r).length with
                | zero => rfl
                | succ k => rw [hk] at hw'; simp at hw'
              rw [h0] at hw'
              have hw' := Option.some.inj (show some _ = some w' from hw')
              subst hw'
              exact ⟨.ref tp, by rw [List.getElem?_append_right (by omega), show i' - ds9.length = 0 by omega]; rfl, tp, rfl, t12 _ _ h9⟩
          · rw [m12 _ _ (Ne.symm nak) (m11 _ _ (Ne.symm nwk) h10), putK_new]
            · conv => { rhs; rw [List.map_append, List.map_append] }
              rfl
            · intro hmem
              obtain ⟨p', hp', e'⟩ := List.mem_map.mp hmem
              obtain ⟨d', hd', rfl⟩ := List.mem_map.mp hp'
              exact hm (ikl_inj e' ▸ hd')
          · rw [List.map_append, List.nodup_append]
            exact ⟨hD9.nd, by simp, fun a ha b hb e => hm (by rw [← List.mem_singleton.mp hb, ← e]; exact ha)⟩
          · rw [List.getElem?_append_left (by simp; omega)]
            exact hD9.zero
          · intro w' hw'
            rcases List.mem_append.mp hw' with hw' | hw'
            · exact hD9.ok w' hw'
            · rw [List.mem_singleton.mp hw']; exact ow1
          · intro j' w' a hj' hw' ha
            rw [List.getElem?_append_left (by simp; omega)] at hw'
            rw [List.map_append]
            exact List.mem_append_left _ (hD9.clo j' w' a hj' hw' ha)
          · intro j' w' hw'
            rw [List.getElem?_append] at hw'
            split at hw'
            · exact hD9.len j' w' hw'
            · rename_i hlt'
              have h0 : j' - (ws ++ r).length = 0 := by
                cases hk : j' - (ws ++ r).length with
                | zero => rfl
                | succ k => rw [hk] at hw'; simp at hw'
              rw [h0] at hw'
              have hw' := Option.some.inj (show some _ = some w' from hw')
              subst hw'
              simp at hlt' ⊢
              omega
          · simp at hl7 ⊢; omega
          · intro a ha
            rw [List.map_append]
            rcases Nat.lt_succ_iff_lt_or_eq.mp ha with ha | rfl
            · exact List.mem_append_left _ (hdone a ha)
            · exact List.mem_append_right _ (by simp)
      · rintro σ H7 ⟨ws', z7, z8, z9, ⟨r, rfl⟩, hD7, hl7, hdone, rfl⟩
        obtain ⟨ds7, hwo7, hac7, hdl7, hds7⟩ := id hD7.w
        walk_at "ws"
        refine r_len (.inl (SqL.of hac7)) ?_
        rw [hdl7]
        walk_at "ws"
        refine k_if (fun hgt => ?_) fun hgt => ?_
        · have hgt : most < (ws ++ r).length := by have := of_decide_eq_true hgt; omega
          walk_at "ws"
          exact k1 _ hD7.e fun few => by have := few _ hD7.ok hD7.nd; omega
        · have hgt : ¬ most < (ws ++ r).length := by have := of_decide_eq_false hgt; omega
          walk_at "ws"
          refine ⟨most - (i + 1), by omega, ws ++ r, i + 1, _, _, _, rfl, ⟨hD7.e, hD7.w, hD7.kn, hD7.nd, hD7.zero, hD7.ok, fun j' w' a hj' hw' ha => ?_, hD7.len⟩, by omega, by simp; omega, rfl⟩
          rcases Nat.lt_succ_iff_lt_or_eq.mp hj' with hj' | rfl
          · exact hD7.clo j' w' a hj' hw' ha
          · rw [List.getElem?_append_left hlt, hw0] at hw'
            cases hw'
            exact hdone a ha
    · have hge : ¬ i < ws.length := by simpa using hb
      walk_at "ws"
      refine k_tup (by walk_at "sz") fun rp H7 n7 e7 h7 => ?_
      refine k2 ws wo ac rp H7 (hD.e.tr e7) ⟨hD.zero, hD.ok, hD.nd, fun w' hw' a ha => ?_⟩ hwl (hD.w.ex e7) h7
      obtain ⟨j, hj, ej⟩ := List.mem_iff_getElem.mp hw'
      exact hD.clo j w' a (by omega) (by rw [List.getElem?_eq_getElem hj, ej]) ha
end

/-! ## l_lots -/
section
variable {P : Program} {w : World} {K : PySem.W.Frag} {mg : Str → Option Value} {base : Heap}
abbrev N_l_lots : List Str := ["_law_letters", "_law_lots_here", "_law_letter", "_law_found", "_law_size", "_law_lot"]
theorem sc_l_lots : FnScope N_l_lots ["_law_letters"] (defScope s_l_lots) := ⟨rfl, rfl, rfl, by decide +kernel, rfl, by decide +kernel, by decide +kernel⟩
theorem ok_l_lots {f : Addr} {fd : FuncData} (F : FnP K "_law_lots" s_l_lots f fd) (T : Txt K mg) : FnOk P w K mg base CX0 1 f fd ["_law_letters"] sp_l_lots := by
  refine F.ok sc_l_lots (fun vs H Q E h => ?_) (fun cdv A outer s H vs Q E hr h => ?_)
  · obtain ⟨cs, rfl, _⟩ := h
    rfl
  · obtain ⟨cs, rfl, hasc, h1k, h4, k⟩ := h
    refine ⟨_, PSs.nox (pss_cons (ps_set (i := 1) sc_l_lots.nd rfl (Or.inl rfl) (pe_lst (pa_cons pe_str pa_nil)))
    (pss_cons (ps_for PassesOwn.never rfl (pi_str (pv 0)) (pg_name (i := 2) sc_l_lots.nd rfl (by first | exact Or.inl rfl | exact Or.inr rfl))
    (pss_one (ps_set (i := 1) sc_l_lots.nd rfl (Or.inl rfl) (pe_op op_cat (pv 1) (pe_lc (own := [("_law_lot", 5)]) rfl sc_l_lots.nd (pi_seqK (K := K) (pv 1)) (blkOk_by (own := [("_law_lot", 5)]) (N := N_l_lots) (sc := defScope s_l_lots) (by decide +kernel)) (fun _ _ _ _ _ => (pg_name (i := 5) sc_l_lots.nd rfl (by first | exact Or.inl rfl | exact Or.inr rfl))) (fun _ _ _ _ _ => pts_nil) (fun _ _ _ _ _ => (pe_op op_addT (pv 5) (pv 2))))))))
    (pss_cons (ps_set (i := 3) sc_l_lots.nd rfl (Or.inl rfl) (pe_lst pa_nil))
    (pss_cons (ps_for PassesOwn.never rfl (pi_range1 rfl T.range (pa_cons (pe_callB call_lenT (by rfl) T.len PySem.boot_len (pa_cons (pv 0) pa_nil)) pa_nil)) (pg_name (i := 4) sc_l_lots.nd rfl (by first | exact Or.inl rfl | exact Or.inr rfl))
    (pss_one (ps_set (i := 3) sc_l_lots.nd rfl (Or.inl rfl) (pe_op op_cat (pv 3) (pe_callB (cr_sortedSK (K := K)) (by rfl) T.sorted (by decide +kernel) (pa_cons (pe_lc (own := [("_law_lot", 5)]) rfl sc_l_lots.nd (pi_seqK (K := K) (pv 1)) (blkOk_by (own := [("_law_lot", 5)]) (N := N_l_lots) (sc := defScope s_l_lots) (by decide +kernel)) (fun _ _ _ _ _ => (pg_name (i := 5) sc_l_lots.nd rfl (by first | exact Or.inl rfl | exact Or.inr rfl))) (fun _ _ _ _ _ => pts_one (pt_cmpR op_eq (pe_callB call_lenT (by rfl) T.len PySem.boot_len (pa_cons (pv 5) pa_nil)) (pe_op op_add (pv 4) pe_int) (nomark _))) (fun _ _ _ _ _ => (pv 5))) pa_nil))))))
    (pss_one (ps_ret (pv 3))))))), ?_⟩
    have hpl : ∀ i, i ≤ 4 → (powl i).length ≤ 16 := fun i hi => by
      rw [powl_len]
      exact Nat.pow_le_pow_right (n := 2) (by decide) hi
    walk_at "ws"
    refine k_lst (by walk_at "sz") fun l0 H1 n1 e1 h1 => ?_
    walk_at "ws"
    refine k_forT (fun i σ H' => ∃ (lh : Addr) (z2 z3 z4 z5 : Option V), Ex H H' ∧ H' lh = some (.lst (dueS cs (powl i))) ∧ i ≤ cs.length ∧ σ = [some (.str (sO cs)), some (.ref lh), z2, z3, z4, z5])
      ⟨l0, _, _, _, _, e1, h1, Nat.zero_le _, rfl⟩ ?_ ?_
    · rintro i c σ H2 hc ⟨lh, z2, z3, z4, z5, e2, h2, hi, rfl⟩
      have hil : i < cs.length := by
        have := (List.getElem?_eq_some_iff.mp hc).1
        simpa using this
      have hcc : c = cs.getD i 0 := by
        have : ((sO cs).cps.toList)[i]? = some (cs.getD i 0) := by simp [hil]
        rw [this] at hc
        exact (Option.some.inj hc).symm
      subst hcc
      have hpi := hpl i (by omega)
      walk_at "ws"
      refine k_iS (b := true) (SqL.of h2) ?_
      refine k_lcSP (by rw [List.length_map]; omega) (dueS cs ((powl i).map fun B => B ++ [i])) (by simp) (SqL.of h2) (fun j x H3 Qc hx e3 k3 => ?_) fun Dl H3 n3 e3 h3 => ?_
      · obtain ⟨B, hB, rfl⟩ := at_map hx
        have hBl := powl_short i B (List.mem_of_getElem? hB)
        walk_at "ws"
        refine r_addT (by show (wO cs B).length + 1 ≤ _; rw [slen, List.length_map, sizeLine_eq]; omega) ?_
        rw [show (wO cs B ++ (⟨#[cs.getD i 0]⟩ : Str)) = wO cs (B ++ [i]) from wO_app cs B [i]]
        exact k3 _ _ (by simp [hB]) Ex.rfl'
      · refine r_cat (e3 _ _ h2) h3 (by rw [List.length_map, List.length_map, List.length_map, sizeLine_eq]; omega) fun lq H4 n4 e4 h4 => ?_
        walk_at "ws"
        refine ⟨lq, _, _, _, _, (e2.tr e3).tr e4, ?_, hil, rfl⟩
        rw [h4]
        show _ = some (HO.lst (List.map _ (powl i ++ (powl i).map fun B => B ++ [i])))
        conv => { rhs; rw [List.map_append] }
    rintro σ H2 ⟨lh, z2, z3, z4, z5, e2, h2, hi, rfl⟩
    have hsz : (sO cs).cps.size = cs.length := by simp
    rw [hsz] at h2
    have hpk := hpl cs.length h4
    walk_at "ws"
    refine k_lst (by walk_at "sz") fun f0 H3 n3 e3 h3 => ?_
    walk_at "ws"
    refine r_lenT (by show (sO cs).length ≤ _; rw [slen, sizeLine_eq]; omega) ?_
    rw [slen]
    refine k_iR (by omega) ?_
    let fl (i : Nat) := (powl cs.length).filter fun B => decide (1 ≤ B.length) && decide (B.length ≤ i)
    have hfl : ∀ i, (fl i).length ≤ 16 := fun i => Nat.le_trans (List.length_filter_le _ _) hpk
    refine k_forR (fun i σ H' => ∃ (fo : Addr) (ys : List Str) (z3 z4 z5 : Option V), Ex H3 H' ∧ H' fo = some (.lst (ys.map V.str)) ∧ ys.Perm ((fl i).map (wO cs)) ∧ ys.Pairwise (fun x y => ¬ LtS y x) ∧ σ = [some (.str (sO cs)), some (.ref lh), z3, some (.ref fo), z4, z5])
      ⟨f0, [], _, _, _, Ex.rfl', h3, ?_, .nil, rfl⟩ ?_ ?_
    · have : fl 0 = [] := by
        show List.filter _ _ = []
        rw [List.filter_eq_nil_iff]
        intro B _ h
        rw [Bool.and_eq_true] at h
        have h1 := of_decide_eq_true h.1
        have h2 := of_decide_eq_true h.2
        omega
      rw [this]
      exact List.Perm.refl _
    · rintro i σ H4 hi' ⟨fo, ys, z3, z4, z5, e4, h4', hp, hs, rfl⟩
      have h24 := e4 _ _ (e3 _ _ h2)
      walk_at "ws"
      refine k_iS (b := true) (SqL.of h24) ?_
      let q : List Nat → Bool := fun B => decide (B.length = i + 1)
      refine k_lcF walk_seq (by rw [List.length_map]; omega) (fun j => q ((powl cs.length).getD j [])) (fun j => V.str (wO cs ((powl cs.length).getD j []))) (fun H' e => SqL.of (e _ _ h24)) (fun j x H5 H6 Qb Qc hj hY e5 kq kb => ?_) (fun Dl H5 n5 e5 h5 => ?_)
      · obtain ⟨rfl, hx⟩ := hY
        obtain ⟨B, hB, rfl⟩ := at_map hx
        have hBe : (powl cs.length).getD j [] = B := by rw [List.getD_eq_getElem?_getD, hB]; rfl
        have hBl := powl_short cs.length B (List.mem_of_getElem? hB)
        walk_at "ws"
        refine r_lenT (by show (wO cs B).length ≤ _; rw [slen, List.length_map, sizeLine_eq]; omega) ?_
        rw [slen, List.length_map]
        walk_at "ws"
        rw [show decide ((B.length : Int) = (i : Int) + 1) = decide (B.length = i + 1) from decide_eq_decide.mpr (by omega)]
        by_cases hb : B.length = i + 1
        · rw [decide_eq_true hb]
          show tVar _ _ _ _
          walk_at "ws"
          rw [← hBe]
          exact kq _ (by show decide _ = true; rw [hBe]; exact decide_eq_true hb) Ex.rfl'
        · rw [decide_eq_false hb]
          exact kb _ (by show decide _ = false; rw [hBe]; exact decide_eq_false hb) Ex.rfl'
      · have hk : kept (fun j => q ((powl cs.length).getD j [])) (fun j => V.str (wO cs ((powl cs.length).getD j []))) (List.map (fun B => V.str (wO cs B)) (powl cs.length)).length = (((powl cs.length).filter q).map (wO cs)).map V.str := by
          unfold kept
          rw [List.length_map, List.map_map]
          exact filt_pl [] (powl cs.length) q fun B => V.str (wO cs B)
        rw [hk] at h5
        have hql : ((powl cs.length).filter q).length ≤ 16 := Nat.le_trans (List.length_filter_le _ _) hpk
        refine r_sortS (SqL.of h5) (by rw [List.length_map]; omega) fun ms so H6 hpm hsm n6 e6 h6 => ?_
        have hml : ms.length ≤ 16 := by rw [hpm.length_eq, List.length_map]; exact hql
        have hyl : ys.length ≤ 16 := by rw [hp.length_eq, List.length_map]; exact hfl i
        refine r_cat (e6 _ _ (e5 _ _ h4')) h6 (by rw [List.length_map, List.length_map, sizeLine_eq]; omega) fun lq H7 n7 e7 h7 => ?_
        walk_at "ws"
        refine ⟨lq, ys ++ ms, _, _, _, ((e4.tr e5).tr e6).tr e7, by rw [h7, List.map_append], ?_, ?_, rfl⟩
        · refine (hp.append hpm).trans ?_
          rw [← List.map_append]
          refine List.Perm.map _ ?_
          have : fl (i + 1) = (powl cs.length).filter fun B => (decide (1 ≤ B.length) && decide (B.length ≤ i)) || q B := by
            refine List.filter_congr fun B _ => ?_
            show (decide (1 ≤ B.length) && decide (B.length ≤ i + 1)) = ((decide (1 ≤ B.length) && decide (B.length ≤ i)) || decide (B.length = i + 1))
            rw [Bool.eq_iff_iff]
            simp
            omega
          rw [this]
          refine perm_filter_or fun B _ ⟨a, b⟩ => ?_
          have b : B.length = i + 1 := of_decide_eq_true b
          simp at a
          omega
        · have lenm : ∀ y ∈ ms, y.length = i + 1 := fun y hy => by
            obtain ⟨B, hB, rfl⟩ := List.mem_map.mp (hpm.mem_iff.mp hy)
            rw [slen, List.length_map]
            exact of_decide_eq_true (List.mem_filter.mp hB).2
          have leny : ∀ y ∈ ys, y.length ≤ i := fun y hy => by
            obtain ⟨B, hB, rfl⟩ := List.mem_map.mp (hp.mem_iff.mp hy)
            rw [slen, List.length_map]
            have := (List.mem_filter.mp hB).2
            simp at this
            omega
          refine List.pairwise_append.mpr ⟨hs, ?_, fun x hx y hy => ?_⟩
          · refine (sortedS_pw hsm).imp_of_mem fun {x y} hx hy h => ?_
            rintro (h' | ⟨_, h'⟩)
            · have := lenm x hx; have := lenm y hy; omega
            · exact h h'
          · have := leny x hx
            have := lenm y hy
            rintro (h' | ⟨h', _⟩) <;> omega
    · rintro σ H4 ⟨fo, ys, z3, z4, z5, e4, h4', hp, hs, rfl⟩
      walk_at "ws"
      have hfk : fl cs.length = (powl cs.length).drop 1 := by
        show List.filter _ (powl cs.length) = _
        conv => { lhs; rw [powl_head cs.length] }
        rw [List.filter_cons_of_neg (by simp)]
        rw [List.filter_eq_self]
        intro B hB
        have h1 := (lots_mem.mp hB).1
        have h2 := powl_short cs.length B (List.mem_of_mem_drop hB)
        have h3 : 1 ≤ B.length := List.length_pos_iff.mpr h1
        simp [h2, h3]
      rw [hfk] at hp
      have he := lots_eq hasc h1k h4 hp hs
      subst he
      refine k fo H4 (e2.tr (e3.tr e4)) ?_
      rw [h4', List.map_map]
      rfl
end

/-! ## l_is_straight -/
section
variable {P : Program} {w : World} {K : PySem.W.Frag} {mg : Str → Option Value} {base : Heap}
abbrev N_l_is_straight : List Str := ["_law_acts", "_law_stills", "_law_act", "_law_x", "_law_y", "_law_e", "_law_f"]
theorem sc_l_is_straight : FnScope N_l_is_straight ["_law_acts"] (defScope s_l_is_straight) := ⟨rfl, rfl, rfl, by decide +kernel, rfl, by decide +kernel, by decide +kernel⟩
theorem ok_l_is_straight {f : Addr} {fd : FuncData} (F : FnP K "_law_is_straight" s_l_is_straight f fd) (T : Txt K mg) (k_l_after : Kn P w K mg base CX0 1 "_law_after" ["_law_one", "_law_other"] sp_l_after) (k_l_steady : Kn P w K mg base CX0 2 "_law_steady" ["_law_act"] sp_l_steady) : FnOk P w K mg base CX0 3 f fd ["_law_acts"] sp_l_straight := by
  refine F.ok sc_l_is_straight (fun vs H Q E h => ?_) (fun cdv A outer s H vs Q E hr h => ?_)
  · obtain ⟨ac, R, ws, kk, rfl, _⟩ := h
    rfl
  · obtain ⟨ac, R, ws, kk, rfl, ⟨ds, hac, hdl, hds⟩, hF, ht, h6, h10, k1, k2⟩ := h
    refine ⟨_, PSs.nox (pss_cons (ps_set (i := 1) sc_l_is_straight.nd rfl (Or.inl rfl) pe_dnewT)
    (pss_cons (ps_for PassesOwn.never rfl (pi_seqK (K := K) (pv 0)) (pg_name (i := 2) sc_l_is_straight.nd rfl (by first | exact Or.inl rfl | exact Or.inr rfl))
    (pss_one (ps_dput (hu_of hr) (pv 1) (pv 2) (pe_kn k_l_steady (hr.mono (by decide)) rfl (pa_cons (pv 2) pa_nil)) rfl)))
    (pss_cons (ps_for PassesOwn.never rfl (pi_seqK (K := K) (pv 0)) (pg_name (i := 3) sc_l_is_straight.nd rfl (by first | exact Or.inl rfl | exact Or.inr rfl))
    (pss_one (ps_for PassesOwn.never rfl (pi_seqK (K := K) (pv 0)) (pg_name (i := 4) sc_l_is_straight.nd rfl (by first | exact Or.inl rfl | exact Or.inr rfl))
    (pss_cons (ps_set (i := 5) sc_l_is_straight.nd rfl (Or.inl rfl) (pe_dget (hu_of hr) (pv 1) (pe_kn k_l_after (hr.mono (by decide)) rfl (pa_cons (pv 3) (pa_cons (pv 4) pa_nil))) (fun _ _ => rfl)))
    (pss_cons (ps_set (i := 6) sc_l_is_straight.nd rfl (Or.inl rfl) (pe_dget (hu_of hr) (pv 1) (pe_kn k_l_after (hr.mono (by decide)) rfl (pa_cons (pv 4) (pa_cons (pv 3) pa_nil))) (fun _ _ => rfl)))
    (pss_one (ps_if (pt_cmpR (opNeD (K := K) hr.units) (pe_kn k_l_after (hr.mono (by decide)) rfl (pa_cons (pe_kn k_l_after (hr.mono (by decide)) rfl (pa_cons (pv 5) (pa_cons (pv 6) pa_nil))) (pa_cons (pv 5) pa_nil))) (pv 5) (nomark _))
    (pss_one (ps_ret pe_bl))
    pss_nil)))))))
    (pss_one (ps_ret pe_bl))))), ?_⟩
    have dl : ∀ {u : List Nat}, QM.Ok kk u → ∀ (v : List Nat), ∀ q ∈ QM.deed R u, q < (QM.deed R v).length := fun hu v q hq => by rw [QM.deed_len]; exact QM.deed_lt ht hu q hq
    walk_at "ws"
    refine w_dnewT fun sd H1 n1 e1 h1 => ?_
    walk_at "ws"
    refine k_iS (b := true) (SqL.of (e1 _ _ hac)) ?_
    refine k_forS (fun i σ H' => ∃ (kvs : List (List Key × V)) (z2 z3 z4 z5 z6 : Option V), Ex H H' ∧ H' sd = some (.dT kvs) ∧ kvs.length = i ∧ (∀ (j : Nat) (w : List Nat), j < i → ws[j]? = some w → ∃ v, kvs[j]? = some ((QM.deed R w).map ik, v) ∧ TupN H' v (QM.deed R (QM.spw R w))) ∧ σ = [some (.ref ac), some (.ref sd), z2, z3, z4, z5, z6])
      ⟨[], _, _, _, _, _, e1, h1, rfl, fun j w hj => absurd hj (Nat.not_lt_zero _), rfl⟩ (fun _ _ _ ⟨_, _, _, _, _, _, r, _⟩ => SqL.of (r _ _ hac)) ?_ ?_
    · rintro i x σ H2 hx ⟨kvs, z2, z3, z4, z5, z6, e2, h2, hkl, hkv, rfl⟩
      have hil : i < ws.length := by rw [← hdl]; exact (List.getElem?_eq_some_iff.mp hx).1
      obtain ⟨w0, hw0⟩ : ∃ w0, ws[i]? = some w0 := ⟨_, List.getElem?_eq_getElem hil⟩
      obtain ⟨v0, hv0, hv0t⟩ := hds i w0 hw0
      rw [hx] at hv0
      cases hv0
      have ow0 := hF.ok w0 (List.mem_of_getElem? hw0)
      walk_at "ws"
      refine ⟨x, R, ws, kk, w0, rfl, hv0t.ex e2, hF, ht, ow0, h6, fun v H3 e3 hv => ?_⟩
      obtain ⟨xa, rfl, hxa⟩ := hv0t.ex (e2.tr e3)
      walk_at "ws"
      refine k_dp3T (e3 _ _ h2) (ks := (QM.deed R w0).map ik) (by rw [hxa, kV_ik]) (by rw [sizeLine_eq]; omega) fun H4 m4 h4 => ?_
      have hnew : (QM.deed R w0).map ik ∉ kvs.map (·.1) := by
        intro hmem
        obtain ⟨j, hj, e⟩ := List.mem_iff_getElem.mp hmem
        rw [List.length_map] at hj
        obtain ⟨wj, hwj⟩ : ∃ wj, ws[j]? = some wj := ⟨_, List.getElem?_eq_getElem (by omega)⟩
        obtain ⟨v', hv', _⟩ := hkv j wj (by omega) hwj
        have : (kvs.map (·.1))[j]? = some ((QM.deed R wj).map ik) := by rw [List.getElem?_map, hv']; rfl
        rw [List.getElem?_eq_getElem (by rw [List.length_map]; exact hj), e] at this
        have e2 := ikl_inj (Option.some.inj this)
        have a1 := hF.at hw0
        have a2 := hF.at hwj
        have : QM.idx R ws w0 = QM.idx R ws wj := by unfold QM.idx; rw [e2]
        omega
      rw [putK_new hnew] at h4
      walk_at "ws"
      have t4 : Tp H3 H4 := m4.tp fun xs q => by rw [e3 _ _ h2] at q; cases q
      refine ⟨_, _, _, _, _, _, m4.ex (e2.tr e3) n1, h4, by simp [hkl], fun j w hj hw => ?_, rfl⟩
      rcases Nat.lt_succ_iff_lt_or_eq.mp hj with hj | rfl
      · obtain ⟨v', hv', hvt⟩ := hkv j w hj hw
        exact ⟨v', by rw [List.getElem?_append_left (by omega)]; exact hv', (hvt.ex e3).tp t4⟩
      · rw [hw0] at hw
        cases hw
        exact ⟨v, by rw [List.getElem?_append_right (by omega)]; simp [hkl], hv.tp t4⟩
    rintro σ H2 ⟨kvs, z2, z3, z4, z5, z6, e2, h2, hkl, hkv, rfl⟩
    rw [hdl] at hkl
    have hknd : (kvs.map (·.1)).Nodup := by
      have : kvs.map (·.1) = (ws.map (QM.deed R)).map fun d => d.map ik := by
        apply List.ext_getElem?
        intro j
        rw [List.getElem?_map, List.getElem?_map, List.getElem?_map]
        by_cases hj : j < ws.length
        · obtain ⟨v', hv', _⟩ := hkv j _ (by rw [hdl]; exact hj) (List.getElem?_eq_getElem hj)
          rw [hv', List.getElem?_eq_getElem hj]
          rfl
        · rw [List.getElem?_eq_none (by omega), List.getElem?_eq_none (by omega)]
          rfl
      rw [this]
      exact List.pairwise_map.mpr (hF.nd.imp fun h e => h (ikl_inj e))
    have look : ∀ u, QM.Ok kk u → ∃ v, valV kvs ((QM.deed R u).map ik) = some v ∧ TupN H2 v (QM.deed R (QM.spw R u)) := fun u hu => by
      obtain ⟨w', hw', ow', e'⟩ := QM.word_of hF ht hu
      obtain ⟨j, hj, ej⟩ := List.mem_iff_getElem.mp hw'
      obtain ⟨v', hv', hvt⟩ := hkv j w' (by rw [hdl]; exact hj) (by rw [List.getElem?_eq_getElem hj, ej])
      refine ⟨v', ?_, ?_⟩
      · rw [← e']
        exact valV_nd hknd hv'
      · rw [QM.spw_cong hF ht hu ow' e'.symm]
        exact hvt
    walk_at "ws"
    refine k_iS (b := true) (SqL.of (e2 _ _ hac)) ?_
    refine k_forS (fun i σ H' => ∃ (z2 z3 z4 z5 z6 : Option V), Ex H2 H' ∧ (∀ (j : Nat) (x : List Nat), j < i → ws[j]? = some x → ∀ y ∈ ws, QM.deed R (QM.spw R (x ++ y) ++ QM.spw R (y ++ x) ++ QM.spw R (x ++ y)) = QM.deed R (QM.spw R (x ++ y))) ∧ σ = [some (.ref ac), some (.ref sd), z2, z3, z4, z5, z6])
      ⟨_, _, _, _, _, Ex.rfl', fun j w hj => absurd hj (Nat.not_lt_zero _), rfl⟩ (fun _ _ _ ⟨_, _, _, _, _, r, _⟩ => SqL.of (r _ _ (e2 _ _ hac))) ?_ ?_
    · rintro i x σ H3 hx ⟨z2, z3, z4, z5, z6, e3, hdone, rfl⟩
      have hil : i < ws.length := by rw [← hdl]; exact (List.getElem?_eq_some_iff.mp hx).1
      obtain ⟨w0, hw0⟩ : ∃ w0, ws[i]? = some w0 := ⟨_, List.getElem?_eq_getElem hil⟩
      obtain ⟨v0, hv0, hv0t⟩ := hds i w0 hw0
      rw [hx] at hv0
      cases hv0
      have mw0 := List.mem_of_getElem? hw0
      have ow0 := hF.ok w0 mw0
      have e03 := e2.tr e3
      walk_at "ws"
      refine k_iS (b := true) (SqL.of (e03 _ _ hac)) ?_
      refine k_forS (fun i' σ H' => ∃ (z4 z5 z6 : Option V), Ex H3 H' ∧ (∀ (j : Nat) (y : List Nat), j < i' → ws[j]? = some y → QM.deed R (QM.spw R (w0 ++ y) ++ QM.spw R (y ++ w0) ++ QM.spw R (w0 ++ y)) = QM.deed R (QM.spw R (w0 ++ y))) ∧ ∃ z2, σ = [some (.ref ac), some (.ref sd), z2, some x, z4, z5, z6])
        ⟨_, _, _, Ex.rfl', fun j w hj => absurd hj (Nat.not_lt_zero _), _, rfl⟩ (fun _ _ _ ⟨_, _, _, r, _⟩ => SqL.of (r _ _ (e03 _ _ hac))) ?_ ?_
      · rintro i' y σ H4 hy ⟨z4, z5, z6, e4, hdone4, z2, rfl⟩
        have hil' : i' < ws.length := by rw [← hdl]; exact (List.getElem?_eq_some_iff.mp hy).1
        obtain ⟨w1, hw1⟩ : ∃ w1, ws[i']? = some w1 := ⟨_, List.getElem?_eq_getElem hil'⟩
        obtain ⟨v1, hv1, hv1t⟩ := hds i' w1 hw1
        rw [hy] at hv1
        cases hv1
        have mw1 := List.mem_of_getElem? hw1
        have ow1 := hF.ok w1 mw1
        have o01 := ow0.app ow1
        have o10 := ow1.app ow0
        have os01 := QM.spw_ok hF ht o01
        have os10 := QM.spw_ok hF ht o10
        obtain ⟨ve, hve, hvet⟩ := look _ o01
        obtain ⟨vf, hvf, hvft⟩ := look _ o10
        have e04 := e03.tr e4
        have e24 := e3.tr e4
        walk_at "ws"
        refine ⟨x, y, _, _, rfl, hv0t.ex e04, hv1t.ex e04, dl ow0 w1, by rw [QM.deed_len]; omega, fun va H5 e5 hva => ?_⟩
        rw [QM.deed_app ht ow0] at hva
        obtain ⟨vaa, rfl, hvaa⟩ := hva
        refine k_dg2T (e5 _ _ (e24 _ _ h2)) (ks := (QM.deed R (w0 ++ w1)).map ik) (by rw [hvaa, kV_ik]) hve ?_
        walk_at "ws"
        refine ⟨y, x, _, _, rfl, (hv1t.ex e04).ex e5, (hv0t.ex e04).ex e5, dl ow1 w0, by rw [QM.deed_len]; omega, fun vb H6 e6 hvb => ?_⟩
        rw [QM.deed_app ht ow1] at hvb
        obtain ⟨vbb, rfl, hvbb⟩ := hvb
        refine k_dg2T (e6 _ _ (e5 _ _ (e24 _ _ h2))) (ks := (QM.deed R (w1 ++ w0)).map ik) (by rw [hvbb, kV_ik]) hvf ?_
        have e26 := e24.tr (e5.tr e6)
        walk_at "ws"
        refine ⟨ve, vf, _, _, rfl, hvet.ex e26, hvft.ex e26, dl os01 _, by rw [QM.deed_len]; omega, fun vc H7 e7 hvc => ?_⟩
        rw [QM.deed_app ht os01] at hvc
        walk_at "ws"
        refine ⟨vc, ve, _, _, rfl, hvc, (hvet.ex e26).ex e7, dl (os01.app os10) _, by rw [QM.deed_len]; omega, fun vd H8 e8 hvd => ?_⟩
        rw [QM.deed_app ht (os01.app os10)] at hvd
        walk_at "ws"
        refine r_neT hvd (((hvet.ex e26).ex e7).ex e8) ?_
        walk_at "ws"
        have e48 : Ex H4 H8 := ((e5.tr e6).tr e7).tr e8
        refine k_if (fun hne => ?_) fun heq => ?_
        · have hne : ¬ QM.deed R (QM.spw R (w0 ++ w1) ++ QM.spw R (w1 ++ w0) ++ QM.spw R (w0 ++ w1)) = QM.deed R (QM.spw R (w0 ++ w1)) := by simpa using hne
          walk_at "ws"
          exact k2 _ (e04.tr e48) fun D => hne ((QM.straight_iff hF ht).mpr D w0 mw0 w1 mw1)
        · have heq : QM.deed R (QM.spw R (w0 ++ w1) ++ QM.spw R (w1 ++ w0) ++ QM.spw R (w0 ++ w1)) = QM.deed R (QM.spw R (w0 ++ w1)) := by simpa using heq
          walk_at "ws"
          refine ⟨_, _, _, e4.tr e48, fun j w hj hw => ?_, _, rfl⟩
          rcases Nat.lt_succ_iff_lt_or_eq.mp hj with hj | rfl
          · exact hdone4 j w hj hw
          · rw [hw1] at hw; cases hw; exact heq
      · rintro σ H4 ⟨z4, z5, z6, e4, hdone4, z2, rfl⟩
        walk_at "ws"
        refine ⟨_, _, _, _, _, e3.tr e4, fun j w hj hw y hy => ?_, rfl⟩
        rcases Nat.lt_succ_iff_lt_or_eq.mp hj with hj | rfl
        · exact hdone j w hj hw y hy
        · rw [hw0] at hw
          cases hw
          obtain ⟨j', hj', ej'⟩ := List.mem_iff_getElem.mp hy
          exact hdone4 j' y (by rw [hdl]; exact hj') (by rw [List.getElem?_eq_getElem hj', ej'])
    · rintro σ H3 ⟨z2, z3, z4, z5, z6, e3, hdone, rfl⟩
      walk_at "ws"
      refine k1 _ (e2.tr e3) ((QM.straight_iff hF ht).mp fun x hx y hy => ?_)
      obtain ⟨j', hj', ej'⟩ := List.mem_iff_getElem.mp hx
      exact hdone j' x (by rw [hdl]; exact hj') (by rw [List.getElem?_eq_getElem hj', ej']) y hy
end

/-! ## l_groups_change -/
section
variable {P : Program} {w : World} {K : PySem.W.Frag} {mg : Str → Option Value} {base : Heap}
abbrev N_l_groups_change : List Str := ["_law_acts", "_law_groups", "_law_act", "_law_e", "_law_one", "_law_other"]
theorem sc_l_groups_change : FnScope N_l_groups_change ["_law_acts"] (defScope s_l_groups_change) := ⟨rfl, rfl, rfl, by decide +kernel, rfl, by decide +kernel, by decide +kernel⟩
theorem ok_l_groups_change {f : Addr} {fd : FuncData} (F : FnP K "_law_groups_change" s_l_groups_change f fd) (T : Txt K mg) (k_l_after : Kn P w K mg base CX0 1 "_law_after" ["_law_one", "_law_other"] sp_l_after) (k_l_steady : Kn P w K mg base CX0 2 "_law_steady" ["_law_act"] sp_l_steady) : FnOk P w K mg base CX0 3 f fd ["_law_acts"] sp_l_groups := by
  refine F.ok sc_l_groups_change (fun vs H Q E h => ?_) (fun cdv A outer s H vs Q E hr h => ?_)
  · obtain ⟨ac, R, ws, kk, rfl, _⟩ := h
    rfl
  · obtain ⟨ac, R, ws, kk, rfl, ⟨ds, hac, hdl, hds⟩, hF, ht, h6, h10, k1, k2⟩ := h
    refine ⟨_, PSs.nox (pss_cons (ps_set (i := 1) sc_l_groups_change.nd rfl (Or.inl rfl) pe_dnewT)
    (pss_cons (ps_for PassesOwn.never rfl (pi_seqK (K := K) (pv 0)) (pg_name (i := 2) sc_l_groups_change.nd rfl (by first | exact Or.inl rfl | exact Or.inr rfl))
    (pss_cons (ps_set (i := 3) sc_l_groups_change.nd rfl (Or.inl rfl) (pe_kn k_l_steady (hr.mono (by decide)) rfl (pa_cons (pv 2) pa_nil)))
    (pss_one (ps_if (PW.pt (pw_and (pt_cmpR (opEqD (K := K) hr.units) (pe_kn k_l_after (hr.mono (by decide)) rfl (pa_cons (pv 2) (pa_cons (pv 3) pa_nil))) (pv 2) (nomark _)) (pw_and1 (pt_cmpR (opEqD (K := K) hr.units) (pe_kn k_l_after (hr.mono (by decide)) rfl (pa_cons (pv 3) (pa_cons (pv 2) pa_nil))) (pv 2) (nomark _)))))
    (pss_one (ps_dput (hu_of hr) (pv 1) (pv 3) (pe_op op_cat (pe_dget2 (hu_of hr) (pv 1) (pv 3) (pe_lst pa_nil) ⟨rfl, rfl, rfl, rfl⟩) (pe_lst (pa_cons (pv 2) pa_nil))) rfl))
    pss_nil))))
    (pss_cons (ps_lock (ps_for PassesOwn.never rfl (pi_keys (pv 1)) (pg_name (i := 3) sc_l_groups_change.nd rfl (by first | exact Or.inl rfl | exact Or.inr rfl))
    (pss_one (ps_for PassesOwn.never rfl (pi_seqK (K := K) (pe_dget (hu_of hr) (pv 1) (pv 3) (fun _ _ => rfl))) (pg_name (i := 4) sc_l_groups_change.nd rfl (by first | exact Or.inl rfl | exact Or.inr rfl))
    (pss_one (ps_for PassesOwn.never rfl (pi_seqK (K := K) (pe_dget (hu_of hr) (pv 1) (pv 3) (fun _ _ => rfl))) (pg_name (i := 5) sc_l_groups_change.nd rfl (by first | exact Or.inl rfl | exact Or.inr rfl))
    (pss_one (ps_if (pt_cmpR (opNeD (K := K) hr.units) (pe_kn k_l_after (hr.mono (by decide)) rfl (pa_cons (pv 4) (pa_cons (pv 5) pa_nil))) (pe_kn k_l_after (hr.mono (by decide)) rfl (pa_cons (pv 5) (pa_cons (pv 4) pa_nil))) (nomark _))
    (pss_one (ps_ret pe_bl))
    pss_nil))))))))
    (pss_one (ps_ret pe_bl))))), ?_⟩
    have dl : ∀ {u : List Nat}, QM.Ok kk u → ∀ (v : List Nat), ∀ q ∈ QM.deed R u, q < (QM.deed R v).length := fun hu v q hq => by rw [QM.deed_len]; exact QM.deed_lt ht hu q hq
    walk_at "ws"
    refine w_dnewT fun gd H1 n1 e1 h1 => ?_
    walk_at "ws"
    refine k_iS (b := true) (SqL.of (e1 _ _ hac)) ?_
    refine k_forS (fun i σ H' => ∃ (kvs : List (List Key × V)) (gs : List (List Nat × List (List Nat))) (z2 z3 z4 z5 : Option V), Ex H H' ∧ H' gd = some (.dT kvs) ∧ GI H' R kvs gs ∧ QP.GJ R ws i gs ∧ σ = [some (.ref ac), some (.ref gd), z2, z3, z4, z5])
      ⟨[], [], _, _, _, _, e1, h1, ⟨rfl, fun j g hg => by simp at hg⟩, ⟨by simp, (fun g hg => nomatch hg), (fun j w hj => absurd hj (Nat.not_lt_zero _)), (fun g hg => nomatch hg), Nat.le_refl _⟩, rfl⟩ (fun _ _ _ ⟨_, _, _, _, _, _, r, _⟩ => SqL.of (r _ _ hac)) ?_ ?_
    · rintro i x σ H2 hx ⟨kvs, gs, z2, z3, z4, z5, e2, h2, hGI, hGJ, rfl⟩
      have hil : i < ws.length := by rw [← hdl]; exact (List.getElem?_eq_some_iff.mp hx).1
      obtain ⟨w0, hw0⟩ : ∃ w0, ws[i]? = some w0 := ⟨_, List.getElem?_eq_getElem hil⟩
      obtain ⟨v0, hv0, hv0t⟩ := hds i w0 hw0
      rw [hx] at hv0
      cases hv0
      have ow0 := hF.ok w0 (List.mem_of_getElem? hw0)
      have os0 := QM.spw_ok hF ht ow0
      walk_at "ws"
      refine ⟨x, R, ws, kk, w0, rfl, hv0t.ex e2, hF, ht, ow0, h6, fun v H3 e3 hv => ?_⟩
      walk_at "ws"
      refine ⟨x, v, _, _, rfl, (hv0t.ex e2).ex e3, hv, dl ow0 _, by rw [QM.deed_len]; omega, fun va H4 e4 hva => ?_⟩
      rw [QM.deed_app ht ow0] at hva
      have hx4 := ((hv0t.ex e2).ex e3).ex e4
      walk_at "ws"
      refine r_eqT hva hx4 ?_
      walk_at "ws"
      have skip : ∀ H', Ex H2 H' → ¬ QM.InG R w0 → ∀ z2 z3 z4 z5 : Option V, ∃ (kvs : List (List Key × V)) (gs : List (List Nat × List (List Nat))) (y2 y3 y4 y5 : Option V), Ex H H' ∧ H' gd = some (.dT kvs) ∧ GI H' R kvs gs ∧ QP.GJ R ws (i + 1) gs ∧ [some (V.ref ac), some (.ref gd), z2, z3, z4, z5] = [some (.ref ac), some (.ref gd), y2, y3, y4, y5] := fun H' e hn z2 z3 z4 z5 =>
        ⟨kvs, gs, _, _, _, _, e2.tr e, e _ _ h2, hGI.ex e, hGJ.skip hw0 hn, rfl⟩
      refine k_and (fun hc1 => ?_) fun hc1 => ?_
      · have hc1 := of_decide_eq_true hc1
        walk_at "ws"
        refine ⟨v, x, _, _, rfl, hv.ex e4, hx4, dl os0 _, by rw [QM.deed_len]; omega, fun vb H5 e5 hvb => ?_⟩
        rw [QM.deed_app ht os0] at hvb
        walk_at "ws"
        refine r_eqT hvb (hx4.ex e5) ?_
        walk_at "ws"
        have e25 : Ex H2 H5 := (e3.tr e4).tr e5
        refine k_if (fun hc2 => ?_) fun hc2 => ?_
        · have hc2 := of_decide_eq_true hc2
          have hin : QM.InG R w0 := ⟨hc1, hc2⟩
          walk_at "ws"
          refine k_gt1 (e25 _ _ h2) ?_
          walk_at "ws"
          refine k_lst (by walk_at "sz") fun el H6 n6 e6 h6 => ?_
          obtain ⟨vv, rfl, hvv⟩ := ((hv.ex e4).ex e5).ex e6
          have e26 := e25.tr e6
          refine k_gt3 (e26 _ _ h2) (ks := (QM.deed R (QM.spw R w0)).map ik) (by rw [hvv, kV_ik]) ?_
          have hnd : (kvs.map (·.1)).Nodup := by
            rw [hGI.keys]
            exact List.pairwise_map.mpr ((List.pairwise_map.mp hGJ.nd).imp fun h e => h (ikl_inj e))
          by_cases hex : ∃ g ∈ gs, QM.deed R g.1 = QM.deed R (QM.spw R w0)
          · obtain ⟨g, hg, hge⟩ := id hex
            obtain ⟨jx, hjl, hjx⟩ := List.mem_iff_getElem.mp hg
            have hjx' : gs[jx]? = some g := by rw [List.getElem?_eq_getElem hjl, hjx]
            obtain ⟨lp, dsx, g1, g2, g3, g4⟩ := hGI.at_ jx g hjx'
            rw [← hge, valV_nd hnd g1]
            show kOp _ _ _ _ (V.ref lp) H6
            walk_at "ws"
            refine k_lst (by walk_at "sz") fun xl H7 n7 e7 h7 => ?_
            have hfw := hGJ.few g hg
            refine r_cat (e7 _ _ (e26 _ _ g2)) h7 (by rw [sizeLine_eq, g3]; simp; omega) fun lq H8 n8 e8 h8 => ?_
            have e28 := (e26.tr e7).tr e8
            walk_at "ws"
            refine k_dp3T (e28 _ _ h2) (ks := (QM.deed R (QM.spw R w0)).map ik) (by rw [e8 _ _ (e7 _ _ hvv), kV_ik]) (by rw [sizeLine_eq, hGI.len]; have := hGJ.short; omega) fun H9 m9 h9 => ?_
            walk_at "ws"
            have nq : lq ≠ gd := fun e => by rw [e, e7 _ _ (e26 _ _ h2)] at n8; cases n8
            have t9 : Tp H8 H9 := m9.tp fun xs q => by rw [e28 _ _ h2] at q; cases q
            have hx9 : TupN H9 x (QM.deed R w0) := ((hv0t.ex e2).ex e28).tp t9
            exact ⟨_, _, _, _, _, _, m9.ex (e2.tr e28) n1, h9, ((hGI.ex e28).mo (e28 _ _ h2) m9).add hGJ.nd hjx' hge (fun t w hw => let ⟨v', a, b⟩ := g4 t w hw; ⟨v', a, (b.ex e28).tp t9⟩) g3 (m9 _ _ nq h8) hx9, hGJ.add hw0 hin hex, rfl⟩
          · have hnx : ∀ g ∈ gs, QM.deed R g.1 ≠ QM.deed R (QM.spw R w0) := fun g hg e => hex ⟨g, hg, e⟩
            have hv0 : valV kvs ((QM.deed R (QM.spw R w0)).map ik) = none := valV_nin (by
              rw [hGI.keys]
              intro hm
              obtain ⟨g, hg, e⟩ := List.mem_map.mp hm
              exact hnx g hg (ikl_inj e))
            rw [hv0]
            show kOp _ _ _ _ (V.ref el) H6
            walk_at "ws"
            refine k_lst (by walk_at "sz") fun xl H7 n7 e7 h7 => ?_
            refine r_cat (e7 _ _ h6) h7 (by rw [sizeLine_eq]; simp) fun lq H8 n8 e8 h8 => ?_
            have e28 := (e26.tr e7).tr e8
            walk_at "ws"
            refine k_dp3T (e28 _ _ h2) (ks := (QM.deed R (QM.spw R w0)).map ik) (by rw [e8 _ _ (e7 _ _ hvv), kV_ik]) (by rw [sizeLine_eq, hGI.len]; have := hGJ.short; omega) fun H9 m9 h9 => ?_
            walk_at "ws"
            have nq : lq ≠ gd := fun e => by rw [e, e7 _ _ (e26 _ _ h2)] at n8; cases n8
            have t9 : Tp H8 H9 := m9.tp fun xs q => by rw [e28 _ _ h2] at q; cases q
            have hx9 : TupN H9 x (QM.deed R w0) := ((hv0t.ex e2).ex e28).tp t9
            exact ⟨_, _, _, _, _, _, m9.ex (e2.tr e28) n1, h9, ((hGI.ex e28).mo (e28 _ _ h2) m9).new hnx (m9 _ _ nq h8) hx9, hGJ.new hw0 hin hnx, rfl⟩
        · have hc2 := of_decide_eq_false hc2
          walk_at "ws"
          exact skip _ e25 (fun h => hc2 h.2) _ _ _ _
      · have hc1 := of_decide_eq_false hc1
        refine k_if (fun z => by cases z) fun _ => ?_
        walk_at "ws"
        exact skip _ (e3.tr e4) (fun h => hc1 h.1) _ _ _ _
    · rintro σ H2 ⟨kvs, gs, z2, z3, z4, z5, e2, h2, hGI, hGJ, rfl⟩
      rw [hdl] at hGJ
      have hnd : (kvs.map (·.1)).Nodup := by
        rw [hGI.keys]
        exact List.pairwise_map.mpr ((List.pairwise_map.mp hGJ.nd).imp fun h e => h (ikl_inj e))
      walk_at "ws"
      refine w_lock h2 True.intro fun od H3 m3 h3 => ?_
      have hGI3 := hGI.mo h2 m3
      have back : ∀ H4, Ex H3 H4 → Ex H (upd H4 gd (.dT kvs)) := fun H4 e4 a o ha => by
        rw [upd_ne (ne_of_none ha n1)]
        exact e4 _ _ (m3 _ _ (ne_of_none ha n1) (e2 _ _ ha))
      walk_at "ws"
      refine k_iKT h3 ?_
      refine k_for walk_keysT (fun i σ H' => ∃ (z2 z3 z4 z5 : Option V), Ex H3 H' ∧ (∀ (j : Nat) (g : List Nat × List (List Nat)), j < i → gs[j]? = some g → ∀ a ∈ g.2, ∀ b ∈ g.2, QM.deed R (a ++ b) = QM.deed R (b ++ a)) ∧ σ = [some (.ref ac), some (.ref gd), z2, z3, z4, z5])
        ⟨_, _, _, _, Ex.rfl', fun j g hj => absurd hj (Nat.not_lt_zero _), rfl⟩ (fun i σ H' ⟨_, _, _, _, r, _⟩ => r _ _ h3) ?_ ?_
      · rintro i x σ H4 H4' hi ⟨z2, z3, z4, z5, e4, hdone, rfl⟩ ⟨rfl, key, v, q, hk, rfl, hq⟩
        obtain ⟨g, hg⟩ : ∃ g, gs[i]? = some g := ⟨_, List.getElem?_eq_getElem (by have := hGI.len; omega)⟩
        have hgm := List.mem_of_getElem? hg
        obtain ⟨lp, dg, g1, g2, g3, g4⟩ := hGI3.at_ i g hg
        rw [hk] at g1
        have g1 := Option.some.inj g1
        injection g1 with gk gv
        subst gk gv
        have hval := valV_nd hnd hk
        have wok : ∀ w ∈ g.2, QM.Ok kk w := fun w hw => hF.ok w (hGJ.mem g hgm w hw).1
        walk_at "ws"
        refine k_dg2TF (e4 _ _ h3) hq hval ?_
        refine k_iS (b := true) (SqL.of (e4 _ _ g2)) ?_
        refine k_forS (fun i' σ H' => ∃ (z2 z4 z5 : Option V), Ex H4' H' ∧ (∀ (j : Nat) (a : List Nat), j < i' → g.2[j]? = some a → ∀ b ∈ g.2, QM.deed R (a ++ b) = QM.deed R (b ++ a)) ∧ σ = [some (.ref ac), some (.ref gd), z2, some (.ref q), z4, z5])
          ⟨_, _, _, Ex.rfl', fun j w hj => absurd hj (Nat.not_lt_zero _), rfl⟩ (fun _ _ _ ⟨_, _, _, r, _⟩ => SqL.of (r _ _ (e4 _ _ g2))) ?_ ?_
        · rintro i' x1 σ H5 hx1 ⟨z2, z4, z5, e5, hdone5, rfl⟩
          obtain ⟨w1, hw1⟩ : ∃ w1, g.2[i']? = some w1 := ⟨_, List.getElem?_eq_getElem (by rw [← g3]; exact (List.getElem?_eq_some_iff.mp hx1).1)⟩
          obtain ⟨v1, hv1, hv1t⟩ := g4 i' w1 hw1
          rw [hx1] at hv1
          cases hv1
          have mw1 := List.mem_of_getElem? hw1
          have ow1 := wok w1 mw1
          have e35 := e4.tr e5
          walk_at "ws"
          refine k_dg2TF (e35 _ _ h3) (e5 _ _ hq) hval ?_
          refine k_iS (b := true) (SqL.of (e35 _ _ g2)) ?_
          refine k_forS (fun i2 σ H' => ∃ (z2 z5 : Option V), Ex H5 H' ∧ (∀ (j : Nat) (b : List Nat), j < i2 → g.2[j]? = some b → QM.deed R (w1 ++ b) = QM.deed R (b ++ w1)) ∧ σ = [some (.ref ac), some (.ref gd), z2, some (.ref q), some x1, z5])
            ⟨_, _, Ex.rfl', fun j w hj => absurd hj (Nat.not_lt_zero _), rfl⟩ (fun _ _ _ ⟨_, _, r, _⟩ => SqL.of (r _ _ (e35 _ _ g2))) ?_ ?_
          · rintro i2 x2 σ H6 hx2 ⟨z2, z5, e6, hdone6, rfl⟩
            obtain ⟨w2, hw2⟩ : ∃ w2, g.2[i2]? = some w2 := ⟨_, List.getElem?_eq_getElem (by rw [← g3]; exact (List.getElem?_eq_some_iff.mp hx2).1)⟩
            obtain ⟨v2, hv2, hv2t⟩ := g4 i2 w2 hw2
            rw [hx2] at hv2
            cases hv2
            have mw2 := List.mem_of_getElem? hw2
            have ow2 := wok w2 mw2
            have e36 := e35.tr e6
            walk_at "ws"
            refine ⟨x1, x2, _, _, rfl, hv1t.ex e36, hv2t.ex e36, dl ow1 _, by rw [QM.deed_len]; omega, fun va H7 e7 hva => ?_⟩
            rw [QM.deed_app ht ow1] at hva
            walk_at "ws"
            refine ⟨x2, x1, _, _, rfl, (hv2t.ex e36).ex e7, (hv1t.ex e36).ex e7, dl ow2 _, by rw [QM.deed_len]; omega, fun vb H8 e8 hvb => ?_⟩
            rw [QM.deed_app ht ow2] at hvb
            walk_at "ws"
            refine r_neT (hva.ex e8) hvb ?_
            walk_at "ws"
            have e38 := (e36.tr e7).tr e8
            refine k_if (fun hne => ?_) fun heq => ?_
            · have hne : ¬ QM.deed R (w1 ++ w2) = QM.deed R (w2 ++ w1) := by simpa using hne
              walk_at "ws"
              refine lk_rt (e38 _ _ h3) ?_
              refine k2 _ (back _ e38) fun D => hne ?_
              have m1 := hGJ.mem g hgm w1 mw1
              have m2 := hGJ.mem g hgm w2 mw2
              exact (QM.groups_iff hF ht).mpr D w1 m1.1 w2 m2.1 m1.2.1 m2.2.1 (m1.2.2.trans m2.2.2.symm)
            · have heq : QM.deed R (w1 ++ w2) = QM.deed R (w2 ++ w1) := by simpa using heq
              walk_at "ws"
              refine ⟨_, _, (e6.tr e7).tr e8, fun j b hj hb => ?_, rfl⟩
              rcases Nat.lt_succ_iff_lt_or_eq.mp hj with hj | rfl
              · exact hdone6 j b hj hb
              · rw [hw2] at hb; cases hb; exact heq
          · rintro σ H6 ⟨z2, z5, e6, hdone6, rfl⟩
            walk_at "ws"
            refine ⟨_, _, _, e5.tr e6, fun j a hj ha b hb => ?_, rfl⟩
            rcases Nat.lt_succ_iff_lt_or_eq.mp hj with hj | rfl
            · exact hdone5 j a hj ha b hb
            · rw [hw1] at ha
              cases ha
              obtain ⟨j', hj', ej'⟩ := List.mem_iff_getElem.mp hb
              exact hdone6 j' b (by rw [g3]; exact hj') (by rw [List.getElem?_eq_getElem hj', ej'])
        · rintro σ H5 ⟨z2, z4, z5, e5, hdone5, rfl⟩
          walk_at "ws"
          refine ⟨_, _, _, _, e4.tr e5, fun j g' hj hg' a ha b hb => ?_, rfl⟩
          rcases Nat.lt_succ_iff_lt_or_eq.mp hj with hj | rfl
          · exact hdone j g' hj hg' a ha b hb
          · rw [hg] at hg'
            cases hg'
            obtain ⟨j', hj', ej'⟩ := List.mem_iff_getElem.mp ha
            exact hdone5 j' a (by rw [g3]; exact hj') (by rw [List.getElem?_eq_getElem hj', ej']) b hb
      · rintro σ H4 ⟨z2, z3, z4, z5, e4, hdone, rfl⟩
        refine lk_nx (e4 _ _ h3) ?_
        walk_at "ws"
        refine k1 _ (back _ e4) ((QM.groups_iff hF ht).mp fun x hx y hy gx gy es => ?_)
        obtain ⟨jx, hjx, ejx⟩ := List.mem_iff_getElem.mp hx
        obtain ⟨jy, hjy, ejy⟩ := List.mem_iff_getElem.mp hy
        obtain ⟨g1, hg1, mx⟩ := hGJ.cov jx x hjx (by rw [List.getElem?_eq_getElem hjx, ejx]) gx
        obtain ⟨g2, hg2, my⟩ := hGJ.cov jy y hjy (by rw [List.getElem?_eq_getElem hjy, ejy]) gy
        have s1 := (hGJ.mem g1 hg1 x mx).2.2
        have s2 := (hGJ.mem g2 hg2 y my).2.2
        obtain ⟨i1, hi1, ei1⟩ := List.mem_iff_getElem.mp hg1
        obtain ⟨i2, hi2, ei2⟩ := List.mem_iff_getElem.mp hg2
        have p1 : gs[i1]? = some g1 := by rw [List.getElem?_eq_getElem hi1, ei1]
        have p2 : gs[i2]? = some g2 := by rw [List.getElem?_eq_getElem hi2, ei2]
        have : i1 = i2 := nd_ixf (f := fun g : List Nat × List (List Nat) => QM.deed R g.1) hGJ.nd p1 p2 (by show QM.deed R g1.1 = QM.deed R g2.1; rw [← s1, ← s2, es])
        subst this
        rw [p1] at p2
        cases p2
        exact hdone i1 g1 (by rw [hGI.len]; exact hi1) p1 x mx y my
end

/-! ## l_kind -/
section
variable {P : Program} {w : World} {K : PySem.W.Frag} {mg : Str → Option Value} {base : Heap}
abbrev N_l_kind : List Str := ["_law_letters", "_law_rows_here", "_law_acts", "_law_changing", "_law_a", "_law_b"]
theorem sc_l_kind : FnScope N_l_kind ["_law_letters", "_law_rows_here", "_law_acts"] (defScope s_l_kind) := ⟨rfl, rfl, rfl, by decide +kernel, rfl, by decide +kernel, by decide +kernel⟩
theorem ok_l_kind {f : Addr} {fd : FuncData} (F : FnP K "_law_kind" s_l_kind f fd) (T : Txt K mg) (k_l_deed : Kn P w K mg base CX0 1 "_law_deed" ["_law_letters", "_law_rows_here", "_law_word"] sp_l_deed) (k_l_is_straight : Kn P w K mg base CX0 3 "_law_is_straight" ["_law_acts"] sp_l_straight) (k_l_groups_change : Kn P w K mg base CX0 3 "_law_groups_change" ["_law_acts"] sp_l_groups) : FnOk P w K mg base CX0 4 f fd ["_law_letters", "_law_rows_here", "_law_acts"] sp_l_kind := by
  refine F.ok sc_l_kind (fun vs H Q E h => ?_) (fun cdv A outer s H vs Q E hr h => ?_)
  · obtain ⟨cs, x, ac, R, ws, rfl, _⟩ := h
    rfl
  · obtain ⟨cs, x, ac, R, ws, rfl, hnd, h4, hx, hD, hF, ht, h6, h10, k⟩ := h
    refine ⟨_, PSs.nox (pss_cons (ps_set (i := 3) sc_l_kind.nd rfl (Or.inl rfl) pe_bl)
    (pss_cons (ps_for PassesOwn.never rfl (pi_str (pv 0)) (pg_name (i := 4) sc_l_kind.nd rfl (by first | exact Or.inl rfl | exact Or.inr rfl))
    (pss_one (ps_for PassesOwn.never rfl (pi_str (pv 0)) (pg_name (i := 5) sc_l_kind.nd rfl (by first | exact Or.inl rfl | exact Or.inr rfl))
    (pss_one (ps_if (pt_cmpR (opNeD (K := K) hr.units) (pe_kn k_l_deed (hr.mono (by decide)) rfl (pa_cons (pv 0) (pa_cons (pv 1) (pa_cons (pe_op op_addT (pv 4) (pv 5)) pa_nil)))) (pe_kn k_l_deed (hr.mono (by decide)) rfl (pa_cons (pv 0) (pa_cons (pv 1) (pa_cons (pe_op op_addT (pv 5) (pv 4)) pa_nil)))) (nomark _))
    (pss_one (ps_set (i := 3) sc_l_kind.nd rfl (Or.inl rfl) pe_bl))
    pss_nil)))))
    (pss_cons (ps_if (pt_val (pv 3))
    (pss_one (ps_ret pe_str))
    pss_nil)
    (pss_cons (ps_if (PW.pt (pw_and (pt_val (pe_kn k_l_is_straight (hr.mono (by decide)) rfl (pa_cons (pv 2) pa_nil))) (pw_and1 (pt_val (pe_kn k_l_groups_change (hr.mono (by decide)) rfl (pa_cons (pv 2) pa_nil))))))
    (pss_one (ps_ret pe_str))
    pss_nil)
    (pss_one (ps_ret pe_str)))))), ?_⟩
    have hsg : ∀ {i c : Nat}, (sO cs).cps.toList[i]? = some c → i < cs.length ∧ c = cs.getD i 0 := fun {i c} hc => by
      have hil : i < cs.length := by
        have := (List.getElem?_eq_some_iff.mp hc).1
        simpa using this
      refine ⟨hil, ?_⟩
      have : ((sO cs).cps.toList)[i]? = some (cs.getD i 0) := by simp [hil]
      rw [this] at hc
      exact (Option.some.inj hc).symm
    have hsz : (sO cs).cps.size = cs.length := by simp
    walk_at "ws"
    let Cm (i j : Nat) : Prop := QM.deed R [i, j] = QM.deed R [j, i]
    refine k_forT (fun i σ H' => ∃ (b : Bool) (z4 z5 : Option V), Ex H H' ∧ (b = true ↔ ∀ i' j, i' < i → j < cs.length → Cm i' j) ∧ σ = [some (.str (sO cs)), some x, some (.ref ac), some (.bl b), z4, z5])
      ⟨true, _, _, Ex.rfl', ⟨fun _ i' j h => absurd h (Nat.not_lt_zero _), fun _ => rfl⟩, rfl⟩ ?_ ?_
    · rintro i c σ H2 hc ⟨b, z4, z5, e2, hb, rfl⟩
      obtain ⟨hil, rfl⟩ := hsg hc
      walk_at "ws"
      refine k_forT (fun j σ H' => ∃ (b : Bool) (z5 : Option V), Ex H2 H' ∧ (b = true ↔ (∀ i' j, i' < i → j < cs.length → Cm i' j) ∧ ∀ j', j' < j → Cm i j') ∧ σ = [some (.str (sO cs)), some x, some (.ref ac), some (.bl b), some (.str ⟨#[cs.getD i 0]⟩), z5])
        ⟨b, _, Ex.rfl', ⟨fun h => ⟨hb.mp h, fun j h => absurd h (Nat.not_lt_zero _)⟩, fun h => hb.mpr h.1⟩, rfl⟩ ?_ ?_
      · rintro j c2 σ H3 hc2 ⟨b, z5, e3, hb3, rfl⟩
        obtain ⟨hjl, rfl⟩ := hsg hc2
        walk_at "ws"
        refine r_addT (by show 1 + 1 ≤ _; rw [sizeLine_eq]; omega) ?_
        rw [show ((⟨#[cs.getD i 0]⟩ : Str) ++ (⟨#[cs.getD j 0]⟩ : Str)) = wO cs [i, j] from wO_app cs [i] [j]]
        walk_at "ws"
        refine ⟨cs, x, R, [i, j], rfl, hnd, (hx.ex e2).ex e3, ht, h6, QM.ok2 hil hjl, by simp, fun v1 H4 e4 hv1 => ?_⟩
        walk_at "ws"
        refine r_addT (by show 1 + 1 ≤ _; rw [sizeLine_eq]; omega) ?_
        rw [show ((⟨#[cs.getD j 0]⟩ : Str) ++ (⟨#[cs.getD i 0]⟩ : Str)) = wO cs [j, i] from wO_app cs [j] [i]]
        walk_at "ws"
        refine ⟨cs, x, R, [j, i], rfl, hnd, ((hx.ex e2).ex e3).ex e4, ht, h6, QM.ok2 hjl hil, by simp, fun v2 H5 e5 hv2 => ?_⟩
        walk_at "ws"
        refine r_neT (hv1.ex e5) hv2 ?_
        walk_at "ws"
        have e25 := (e3.tr e4).tr e5
        refine k_if (fun hne => ?_) fun heq => ?_
        · have hne : ¬ Cm i j := by simpa [Cm] using hne
          walk_at "ws"
          refine ⟨false, _, e25, ⟨fun z => (nomatch z), fun h => absurd (h.2 j (Nat.lt_succ_self _)) hne⟩, rfl⟩
        · have heq : Cm i j := by simpa [Cm] using heq
          walk_at "ws"
          refine ⟨b, _, e25, ⟨fun h => ⟨(hb3.mp h).1, fun j' hj' => ?_⟩, fun h => hb3.mpr ⟨h.1, fun j' hj' => h.2 j' (Nat.lt_succ_of_lt hj')⟩⟩, rfl⟩
          rcases Nat.lt_succ_iff_lt_or_eq.mp hj' with hj' | rfl
          · exact (hb3.mp h).2 j' hj'
          · exact heq
      · rintro σ H3 ⟨b, z5, e3, hb3, rfl⟩
        rw [hsz] at hb3
        walk_at "ws"
        refine ⟨b, _, _, e2.tr e3, ⟨fun h i' j hi' hj => ?_, fun h => hb3.mpr ⟨fun i' j hi' hj => h i' j (Nat.lt_succ_of_lt hi') hj, fun j' hj' => h i j' (Nat.lt_succ_self _) hj'⟩⟩, rfl⟩
        rcases Nat.lt_succ_iff_lt_or_eq.mp hi' with hi' | rfl
        · exact (hb3.mp h).1 i' j hi' hj
        · exact (hb3.mp h).2 j hj
    · rintro σ H2 ⟨b, z4, z5, e2, hb, rfl⟩
      rw [hsz] at hb
      walk_at "ws"
      refine k_if (fun hbt => ?_) fun hbf => ?_
      · have hC : QM.Comm R cs.length := fun i j hi hj => hb.mp hbt i j hi hj
        walk_at "ws"
        rw [show V.str "fixed" = .str (kS (QM.kdR R cs.length)) by rw [QM.kdR_0 hC]; rfl]
        exact k _ e2
      · have hC : ¬ QM.Comm R cs.length := fun h => by
          have := hb.mpr fun i j hi hj => h i j hi hj
          rw [hbf] at this
          cases this
        walk_at "ws"
        refine ⟨ac, R, ws, cs.length, rfl, hD.ex e2, hF, ht, h6, h10, fun H3 e3 hdo => ?_, fun H3 e3 hdo => ?_⟩
        · walk_at "ws"
          refine k_and (fun _ => ?_) fun z => by cases z
          walk_at "ws"
          refine ⟨ac, R, ws, cs.length, rfl, (hD.ex e2).ex e3, hF, ht, h6, h10, fun H4 e4 hab => ?_, fun H4 e4 hab => ?_⟩
          · walk_at "ws"
            refine k_if (fun _ => ?_) fun z => by cases z
            walk_at "ws"
            rw [show V.str "digits" = .str (kS (QM.kdR R cs.length)) by rw [QM.kdR_1 hC ⟨hdo, hab⟩]; rfl]
            exact k _ ((e2.tr e3).tr e4)
          · walk_at "ws"
            refine k_if (fun z => by cases z) fun _ => ?_
            walk_at "ws"
            rw [show V.str "length" = .str (kS (QM.kdR R cs.length)) by rw [QM.kdR_2 hC fun h => hab h.2]; rfl]
            exact k _ ((e2.tr e3).tr e4)
        · walk_at "ws"
          refine k_and (fun z => by cases z) fun _ => ?_
          refine k_if (fun z => by cases z) fun _ => ?_
          walk_at "ws"
          rw [show V.str "length" = .str (kS (QM.kdR R cs.length)) by rw [QM.kdR_2 hC fun h => hdo h.1]; rfl]
          exact k _ (e2.tr e3)
end

/-! ## l_kind_without -/
section
variable {P : Program} {w : World} {K : PySem.W.Frag} {mg : Str → Option Value} {base : Heap}
abbrev N_l_kind_without : List Str := ["_law_letters", "_law_table", "_law_accepts", "_law_lot", "_law_left", "_law_places", "_law_rows_here", "_law_yes", "_law_letter", "_law_row", "_law_k"]
theorem sc_l_kind_without : FnScope N_l_kind_without ["_law_letters", "_law_table", "_law_accepts", "_law_lot"] (defScope s_l_kind_without) := ⟨rfl, rfl, rfl, by decide +kernel, rfl, by decide +kernel, by decide +kernel⟩
theorem ok_l_kind_without {f : Addr} {fd : FuncData} (F : FnP K "_law_kind_without" s_l_kind_without f fd) (T : Txt K mg) (k_l_least : Kn P w K mg base CX0 2 "_law_least" ["_law_table", "_law_accepts"] (sp_l_least K)) (k_l_deeds : Kn P w K mg base CX0 1 "_law_deeds" ["_law_letters", "_law_rows_here", "_law_most"] (sp_l_deeds K)) (k_l_kind : Kn P w K mg base CX0 4 "_law_kind" ["_law_letters", "_law_rows_here", "_law_acts"] sp_l_kind) : FnOk P w K mg base CX0 5 f fd ["_law_letters", "_law_table", "_law_accepts", "_law_lot"] sp_l_kind_without := by
  refine F.ok sc_l_kind_without (fun vs H Q E h => ?_) (fun cdv A outer s H vs Q E hr h => ?_)
  · obtain ⟨cs, tv, av, Tb, Ac, B, rfl, _⟩ := h
    rfl
  · obtain ⟨cs, tv, av, Tb, Ac, B, rfl, hM, hTv, hAv, hBs, hB, hBl, ⟨R0, hR0, hfew⟩, k⟩ := h
    obtain ⟨tb0, us, rfl, htb, htl, hrow⟩ := id hTv
    have four := hM.four
    have six := hM.six
    refine ⟨_, PSs.nox (pss_cons (ps_set (i := 4) sc_l_kind_without.nd rfl (Or.inl rfl) (pe_joinK (K := K) pe_str (pe_lc (own := [("_law_letter", 8)]) rfl sc_l_kind_without.nd (pi_str (pv 0)) (blkOk_by (own := [("_law_letter", 8)]) (N := N_l_kind_without) (sc := defScope s_l_kind_without) (by decide +kernel)) (fun _ _ _ _ _ => (pg_name (i := 8) sc_l_kind_without.nd rfl (by first | exact Or.inl rfl | exact Or.inr rfl))) (fun _ _ _ _ _ => pts_one (pt_cmpR op_notInS (pv 8) (pv 3) rfl)) (fun _ _ _ _ _ => (pv 8)))))
    (pss_cons (ps_set (i := 5) sc_l_kind_without.nd rfl (Or.inr rfl) (pe_lc (own := [("_law_letter", 8)]) rfl sc_l_kind_without.nd (pi_str (pv 4)) (blkOk_by (own := [("_law_letter", 8)]) (N := N_l_kind_without) (sc := defScope s_l_kind_without) (by decide +kernel)) (fun _ _ _ _ _ => (pg_name (i := 8) sc_l_kind_without.nd rfl (by first | exact Or.inl rfl | exact Or.inr rfl))) (fun _ _ _ _ _ => pts_nil) (fun _ _ _ _ _ => (pe_bmK (K := K) PySem.F.plainAttrs_str PySem.F.slot_str_find PySem.F.type_str_find mtSFind (pv 0) (pa_cons (pv 8) pa_nil)))))
    (pss_cons (ps_asg (pe_kn k_l_least (hr.mono (by decide)) rfl (pa_cons (pe_lc (own := [("_law_row", 9)]) rfl sc_l_kind_without.nd (pi_seqK (K := K) (pv 1)) (blkOk_by (own := [("_law_row", 9)]) (N := N_l_kind_without) (sc := defScope s_l_kind_without) (by decide +kernel)) (fun _ _ _ _ _ => (pg_name (i := 9) sc_l_kind_without.nd rfl (by first | exact Or.inl rfl | exact Or.inr rfl))) (fun _ _ _ _ _ => pts_nil) (fun _ _ _ _ _ => (pe_lc (own := [("_law_k", 10)]) rfl sc_l_kind_without.nd (pi_seqK (K := K) (pv 5)) (blkOk_by (own := [("_law_k", 10)]) (N := N_l_kind_without) (by dsimp only [compEnvC, relabel, cxOf, Cx.nox, Cx.wish, PyProof.Rows.envOfC, Env.kindOf]; exact rfl)) (fun _ _ _ _ _ => (pg_name (i := 10) sc_l_kind_without.nd rfl (by first | exact Or.inl rfl | exact Or.inr rfl))) (fun _ _ _ _ _ => pts_nil) (fun _ _ _ _ _ => (pe_ix (ixT (K := K)) (pv 9) (pv 10) (fun _ _ => rfl)))))) (pa_cons (pv 2) pa_nil))) (pg_tupK (K := K) (n := 2) rfl (pgs_cons (pg_name (i := 6) sc_l_kind_without.nd rfl (by first | exact Or.inl rfl | exact Or.inr rfl)) (pgs_cons (pg_name (i := 7) sc_l_kind_without.nd rfl (by first | exact Or.inl rfl | exact Or.inr rfl)) pgs_nil))))
    (pss_one (ps_ret (pe_kn k_l_kind (hr.mono (by decide)) rfl (pa_cons (pv 4) (pa_cons (pv 6) (pa_cons (pe_ix (ixT (K := K)) (pe_kn k_l_deeds (hr.mono (by decide)) rfl (pa_cons (pv 4) (pa_cons (pv 6) (pa_cons pe_int pa_nil)))) pe_int (fun _ _ => rfl)) pa_nil))))))))), ?_⟩
    let ps := QM.leftL cs.length B
    let lf := ps.map fun a => cs.getD a 0
    have hpsl : ps.length ≤ cs.length := QM.leftL_len
    have hplt : ∀ p ∈ ps, p < cs.length := QM.leftL_lt
    have hlf : lf.length = ps.length := by simp [lf]
    walk_at "ws"
    refine k_lcF walk_str (by show (sO cs).cps.size ≤ 100000; simp; omega) (fun j => !decide (j ∈ B)) (fun j => V.str ⟨#[cs.getD j 0]⟩) (fun _ _ => trivial) (fun j x H1 H2 Qb Qc hj hY e1 kq kb => ?_) (fun al H1 n1 e1 h1 => ?_)
    · obtain ⟨rfl, c, hc, rfl⟩ := hY
      have hjl : j < cs.length := by simpa using hj
      have hcc : c = cs.getD j 0 := by
        have : ((sO cs).cps)[j]? = some (cs.getD j 0) := by simp [hjl]
        rw [this] at hc
        exact (Option.some.inj hc).symm
      subst hcc
      walk_at "ws"
      rw [show decide (cs.getD j 0 ∈ (wO cs B).cps.toList) = decide (j ∈ B) from decide_eq_decide.mpr (wO_mem hM.nodup hB hjl)]
      by_cases hs : j ∈ B
      · rw [decide_eq_true hs]
        exact kb _ (by simp [hs]) Ex.rfl'
      · rw [decide_eq_false hs]
        show tVar _ _ _ _
        walk_at "ws"
        exact kq _ (by simp [hs]) Ex.rfl'
    have hk1 : kept (fun j => !decide (j ∈ B)) (fun j => V.str ⟨#[cs.getD j 0]⟩) (sO cs).cps.size = lf.map fun c => V.str ⟨#[c]⟩ := by
      have : (sO cs).cps.size = cs.length := by simp
      rw [this]
      show List.map _ (List.filter _ (List.range cs.length)) = List.map _ (List.map _ (List.filter _ (List.range cs.length)))
      rw [List.map_map]
      rfl
    rw [hk1] at h1
    refine r_joinC (SqL.of h1) (by rw [List.length_map]; omega) ?_
    walk_at "ws"
    refine k_lcP walk_str (by show (sO lf).cps.size ≤ 100000; simp [lf]; omega) (ps.map iv) (by simp [lf]) (fun _ _ => trivial) (fun j x H3 H4 Qc hj hY e3 k3 => ?_) fun pl H3 n3 e3 h3 => ?_
    · obtain ⟨rfl, c, hc, rfl⟩ := hY
      have hjl : j < ps.length := by simpa [lf] using hj
      have hcc : c = cs.getD ps[j] 0 := by
        have : ((sO lf).cps)[j]? = some (cs.getD ps[j] 0) := by simp [lf, hjl]
        rw [this] at hc
        exact (Option.some.inj hc).symm
      subst hcc
      have hak : ps[j] < cs.length := hplt _ (List.getElem_mem hjl)
      walk_at "ws"
      refine r_sfind (i := ps[j]) (by simp [hak]) hM.nodup ?_
      exact k3 _ _ (by simp [hjl]) Ex.rfl'
    have e03 := e1.tr e3
    walk_at "ws"
    refine k_iS (b := false) (SqT.of (e03 _ _ htb)) ?_
    refine k_lcS (by omega) (fun Dl j y H' => y ≠ .ref Dl ∧ ∃ r a, (QM.rst Tb ps)[j]? = some r ∧ y = .ref a ∧ H' a = some (.lst (r.map iv))) (SqT.of (e03 _ _ htb)) (fun Dl j y Ha Hb hl mm ⟨ny, r, a, h1, h2, h3⟩ => ⟨ny, r, a, h1, h2, mm _ _ (fun e => ny (by rw [h2, e])) h3⟩) (fun Dl j x H4 Qc hj e4 nDl hDl kq => ?_) fun Dl H4 us4 n4 e4 h4 hl4 hr4 => ?_
    · have hjl : j < Tb.length := by rw [← htl]; exact (List.getElem?_eq_some_iff.mp hj).1
      obtain ⟨u, hu, rT⟩ := hrow j _ (List.getElem?_eq_getElem hjl)
      rw [hj] at hu
      cases hu
      obtain ⟨ra, rfl, hra⟩ := rT.ex (e03.tr e4)
      walk_at "ws"
      refine k_iS (b := true) (SqL.of (e4 _ _ h3)) ?_
      refine k_lcSP (by rw [List.length_map]; omega) ((ps.map fun p => Tb[j].getD p 0).map iv) (by simp) (SqL.of (e4 _ _ h3)) (fun i y H5 Qc5 hi e5 k5 => ?_) fun D5 H5 n5 e5 h5 => ?_
      · obtain ⟨p, hp, rfl⟩ := at_map hi
        have hpk : p < cs.length := hplt p (List.mem_of_getElem? hp)
        walk_at "ws"
        refine r_ixT (n := p) (SqT.of (e5 _ _ hra)) (at_iv (b := Tb[j]) (by rw [(hM.t.row _ (List.getElem_mem hjl)).1]; exact hpk)) ?_
        exact k5 _ _ (by simp [hp]) Ex.rfl'
      · obtain ⟨l, hl⟩ := hDl
        exact kq _ _ e5 ⟨(fun e => by injection e with e; rw [e, hl] at n5; cases n5), ps.map fun p => Tb[j].getD p 0, D5, by simp [QM.rst, hjl], rfl, h5⟩
    have e04 := e03.tr e4
    have hTS : TabS K H4 (.ref Dl) (QM.rst Tb ps) := ⟨true, Dl, us4, rfl, SqL.of h4, by rw [hl4, QM.rst_len, htl], fun i r hr => by
      have hi : i < us4.length := by
        rw [hl4, htl, ← QM.rst_len (ps := ps)]
        exact (List.getElem?_eq_some_iff.mp hr).1
      obtain ⟨_, r', a, h1, h2, h3⟩ := hr4 i _ (List.getElem?_eq_getElem hi)
      rw [hr] at h1
      cases h1
      exact ⟨_, List.getElem?_eq_getElem hi, true, a, h2, SqL.of h3⟩⟩
    have ht2 : QM.TOk (QM.rst Tb ps) ps.length := QM.rst_ok hM.t hplt
    walk_at "ws"
    refine ⟨.ref Dl, av, QM.rst Tb ps, Ac, ps.length, rfl, hTS, hAv.ex e04, ht2, by omega, by rw [QM.rst_len]; exact six, fun p rv yv R A' H5 e5 hrv hR hR6 hyv hp => ?_⟩
    have hfw := QM.few_rst hM.t hplt hR0 hR hfew
    have hRt := hR.tok
    refine ⟨p, _, rfl, SqT.of hp, rfl, _, _, rfl, _, _, rfl, rfl, ?_⟩
    walk_at "ws"
    refine ⟨lf, rv, R, 100, rfl, by omega, hrv, by rw [hlf]; exact hRt, hR6, by omega, by omega, fun H6 e6 hn => ?_, fun ws wo de q H6 e6 hF hwl hW hq => ?_⟩
    · rw [hlf] at hn
      exact absurd (QM.few_mono hfw (by omega)) hn
    · rw [hlf] at hF
      refine r_ixT0 (n := 1) (SqT.of hq) rfl rfl ?_
      walk_at "ws"
      refine ⟨lf, rv, de, R, ws, rfl, ?_, by omega, hrv.ex e6, hW.ds, by rw [hlf]; exact hF, by rw [hlf]; exact hRt, hR6, hfw ws hF.ok hF.nd, fun H7 e7 => ?_⟩
      · refine List.pairwise_map.mpr ((QM.leftL_asc (k := cs.length) (B := B)).imp_of_mem fun {a b} ha hb hab e => ?_)
        have := getD_inj hM.nodup (hplt a ha) (hplt b hb) e
        omega
      · rw [hlf]
        walk_at "ws"
        have : QM.kfOf Tb Ac cs.length B = QM.kdR R ps.length := QM.kd_of hR
        rw [← this]
        exact k _ (((e04.tr e5).tr e6).tr e7)
end

/-! ## l_due -/
section
variable {P : Program} {w : World} {K : PySem.W.Frag} {mg : Str → Option Value} {base : Heap}
abbrev N_l_due : List Str := ["_law_kinds", "_law_lots_here", "_law_goal", "_law_found", "_law_lot", "_law_less", "_law_letter"]
theorem sc_l_due : FnScope N_l_due ["_law_kinds", "_law_lots_here", "_law_goal"] (defScope s_l_due) := ⟨rfl, rfl, rfl, by decide +kernel, rfl, by decide +kernel, by decide +kernel⟩
theorem ok_l_due {f : Addr} {fd : FuncData} (F : FnP K "_law_due" s_l_due f fd) (T : Txt K mg) (k_l_place : Kn P w K mg base CX0 1 "_law_place" ["_law_told"] sp_l_place) : FnOk P w K mg base CX0 2 f fd ["_law_kinds", "_law_lots_here", "_law_goal"] sp_l_due := by
  refine F.ok sc_l_due (fun vs H Q E h => ?_) (fun cdv A outer s H vs Q E hr h => ?_)
  · obtain ⟨cs, kd, lh, kf, g, rfl, _⟩ := h
    rfl
  · obtain ⟨cs, kd, lh, kf, g, rfl, hg, hnd, one, four, hkd, hlh, hk2, k⟩ := h
    refine ⟨_, PSs.nox (pss_cons (ps_set (i := 3) sc_l_due.nd rfl (Or.inl rfl) (pe_lst pa_nil))
    (pss_cons (ps_for PassesOwn.never rfl (pi_seqK (K := K) (pv 1)) (pg_name (i := 4) sc_l_due.nd rfl (by first | exact Or.inl rfl | exact Or.inr rfl))
    (pss_one (ps_if (pt_cmpR op_le (pe_kn k_l_place (hr.mono (by decide)) rfl (pa_cons (pe_dget (hu_of hr) (pv 0) (pv 4) (fun _ _ => rfl)) pa_nil)) (pe_kn k_l_place (hr.mono (by decide)) rfl (pa_cons (pv 2) pa_nil)) (nomark _))
    (pss_one (ps_if (pt_not (pt_val (pe_callB (callAny (K := K) rfl) (by rfl) T.any (by decide +kernel) (pa_cons (pe_lc (own := [("_law_less", 5)]) rfl sc_l_due.nd (pi_seqK (K := K) (pv 3)) (blkOk_by (own := [("_law_less", 5)]) (N := N_l_due) (sc := defScope s_l_due) (by decide +kernel)) (fun _ _ _ _ _ => (pg_name (i := 5) sc_l_due.nd rfl (by first | exact Or.inl rfl | exact Or.inr rfl))) (fun _ _ _ _ _ => pts_nil) (fun _ _ _ _ _ => (pe_callB (callAll (K := K) rfl) (by rfl) T.all (by decide +kernel) (pa_cons (pe_lc (own := [("_law_letter", 6)]) rfl sc_l_due.nd (pi_str (pv 5)) (blkOk_by (own := [("_law_letter", 6)]) (N := N_l_due) (by dsimp only [compEnvC, relabel, cxOf, Cx.nox, Cx.wish, PyProof.Rows.envOfC, Env.kindOf]; exact rfl)) (fun _ _ _ _ _ => (pg_name (i := 6) sc_l_due.nd rfl (by first | exact Or.inl rfl | exact Or.inr rfl))) (fun _ _ _ _ _ => pts_nil) (fun _ _ _ _ _ => (pe_cmpR op_inS (pv 6) (pv 4) rfl))) pa_nil)))) pa_nil))))
    (pss_one (ps_expr (pe_bmK (K := K) PySem.F.plainAttrs_list PySem.F.slot_list_append PySem.F.type_list_append mt_append (pv 3) (pa_cons (pv 4) pa_nil))))
    pss_nil))
    pss_nil)))
    (pss_one (ps_ret (pv 3))))), ?_⟩
    let lots := QM.lotsN cs.length
    have hlots := QM.lotsN_ok one four
    have hll : lots.length ≤ 15 := QM.lotsN_len one four
    let du (i : Nat) := QM.dueL kf g (lots.take i)
    have hdul : ∀ i, (du i).length ≤ 16 := fun i => by
      have h1 := QM.dueL_len kf g (lots.take i)
      have h3 : (lots.take i).length ≤ 16 := by rw [List.length_take]; omega
      show (QM.dueL kf g (lots.take i)).length ≤ 16
      omega
    have hdum : ∀ i, ∀ B ∈ du i, B ∈ lots := fun i B hB => List.mem_of_mem_take (QM.dueL_sub _ _ _ B hB).1
    have hknd : ((kinK cs kf lots).map (·.1)).Nodup := by
      rw [List.map_map]
      refine List.pairwise_map.mpr ((QM.lotsN_nd one four).imp_of_mem fun {B C} hB hC h e => h ?_)
      have e : (Sum.inr (wO cs B) : Key) = Sum.inr (wO cs C) := e
      injection e with e
      exact wO_inj hnd (hlots B hB).2.1 (hlots C hC).2.1 e
    walk_at "ws"
    refine k_lst (by walk_at "sz") fun fo H1 n1 e1 h1 => ?_
    walk_at "ws"
    refine k_iS (b := true) (SqL.of (e1 _ _ hlh)) ?_
    refine k_forS (fun i σ H' => ∃ (z1 z2 z3 : Option V), Ex H H' ∧ H' fo = some (.lst (dueS cs (du i))) ∧ σ = [some (.ref kd), some (.ref lh), some (.str (kS g)), some (.ref fo), z1, z2, z3])
      ⟨_, _, _, e1, h1, rfl⟩ (fun _ _ _ ⟨_, _, _, r, _⟩ => SqL.of (r _ _ hlh)) ?_ ?_
    · rintro i x σ H2 hx ⟨z1, z2, z3, e2, hfo, rfl⟩
      obtain ⟨B, hB, rfl⟩ := at_map hx
      obtain ⟨hBs, hBk, hBl⟩ := hlots B (List.mem_of_getElem? hB)
      have du1 : du (i + 1) = if QM.spare (du i) B = false ∧ kf B ≤ g then du i ++ [B] else du i := by
        show QM.dueL kf g (lots.take (i + 1)) = _
        rw [List.take_add_one, hB, Option.toList_some, QM.dueL_snoc]
      have stay : ∀ (H' : Hp) (y1 y2 y3 : Option V), Ex H H' → H' fo = some (.lst (dueS cs (du i))) → ¬ (QM.spare (du i) B = false ∧ kf B ≤ g) →
          (∃ (z1 z2 z3 : Option V), Ex H H' ∧ H' fo = some (.lst (dueS cs (du (i + 1)))) ∧ [some (V.ref kd), some (.ref lh), some (.str (kS g)), some (.ref fo), y1, y2, y3] = [some (.ref kd), some (.ref lh), some (.str (kS g)), some (.ref fo), z1, z2, z3]) := fun H' y1 y2 y3 e h hn =>
        ⟨_, _, _, e, by rw [du1, if_neg hn]; exact h, rfl⟩
      walk_at "ws"
      refine k_dg2S (e2 _ _ hkd) (v := .str (kS (kf B))) (valV_nd hknd (j := i) (by rw [List.getElem?_map, hB]; rfl)) ?_
      walk_at "ws"
      refine ⟨kf B, rfl, hk2 B, fun H3 e3 => ?_⟩
      walk_at "ws"
      refine ⟨g, rfl, by omega, fun H4 e4 => ?_⟩
      walk_at "ws"
      rw [show decide ((kf B : Int) ≤ (g : Int)) = decide (kf B ≤ g) from decide_eq_decide.mpr Int.ofNat_le]
      have e24 := e3.tr e4
      have hfo4 := e24 _ _ hfo
      have e04 := e2.tr e24
      refine k_if (fun hkg => ?_) fun hkg => ?_
      · have hkg := of_decide_eq_true hkg
        have hfoL : SqK K true H4 fo (dueS cs (du i)) := SqL.of hfo4
        walk_at "ws"
        refine k_iS (b := true) hfoL ?_
        refine k_lcSP (by rw [List.length_map]; have := hdul i; omega) (((du i).map fun C => C.all fun a => decide (a ∈ B)).map V.bl) (by simp) hfoL (fun j x H9 Qc hj e9 k9 => ?_) fun Dl H9 n9 e9 h9 => ?_
        · obtain ⟨C, hC, rfl⟩ := at_map hj
          obtain ⟨hCs, hCk, hCl⟩ := hlots C (hdum i C (List.mem_of_getElem? hC))
          walk_at "ws"
          refine k_lcP walk_str (by show (wO cs C).cps.size ≤ 100000; simp; omega) ((C.map fun a => decide (a ∈ B)).map V.bl) (by simp) (fun _ _ => trivial) (fun jj x Ha Hb Qc2 hjj hY ea kb => ?_) fun D2 Ha na ea ha => ?_
          · obtain ⟨rfl, c, hc, rfl⟩ := hY
            have hjl : jj < C.length := by simpa using hjj
            have hcc : c = cs.getD C[jj] 0 := by
              have : ((wO cs C).cps)[jj]? = some (cs.getD C[jj] 0) := by simp [hjl]
              rw [this] at hc
              exact (Option.some.inj hc).symm
            subst hcc
            have hak : C[jj] < cs.length := hCk _ (List.getElem_mem hjl)
            walk_at "ws"
            refine kb _ _ ?_ Ex.rfl'
            rw [show decide (cs.getD C[jj] 0 ∈ (wO cs B).cps.toList) = decide (C[jj] ∈ B) from decide_eq_decide.mpr (wO_mem hnd hBk hak)]
            simp [hjl]
          · refine r_all (SqL.of ha) ?_
            refine k9 _ _ ?_ ea
            rw [List.all_map]
            simp [hC]
        refine r_any (SqL.of h9) ?_
        rw [show (((du i).map fun C => C.all fun a => decide (a ∈ B)).any id) = QM.spare (du i) B by rw [List.any_map]; rfl]
        have hfo9 := e9 _ _ hfo4
        walk_at "ws"
        refine k_if (fun hsp => ?_) fun hsp => ?_
        · have hsp' : QM.spare (du i) B = false := by simpa using hsp
          walk_at "ws"
          refine k_bmL (SqL.of hfo9) ?_
          walk_at "ws"
          refine r_append hfo9 (by rw [List.length_map]; have := hdul i; rw [sizeLine_eq]; omega) fun H12 m12 h12 => ?_
          walk_at "ws"
          refine ⟨_, _, _, m12.ex (e04.tr e9) n1, ?_, rfl⟩
          rw [h12, du1, if_pos ⟨hsp', hkg⟩, dueS, dueS, List.map_append]
          rfl
        · have hsp' : QM.spare (du i) B = true := by simpa using hsp
          walk_at "ws"
          exact stay H9 _ _ _ (e04.tr e9) hfo9 fun z => by rw [hsp'] at z; cases z.1
      · have hkg := of_decide_eq_false hkg
        walk_at "ws"
        exact stay H4 _ _ _ e04 hfo4 fun z => hkg z.2
    · rintro σ H2 ⟨z1, z2, z3, e2, hfo, rfl⟩
      walk_at "ws"
      refine k fo H2 e2 n1 ?_
      rw [hfo]
      show some (HO.lst (dueS cs (QM.dueL kf g (lots.take (dueS cs lots).length)))) = _
      rw [List.length_map, List.take_length]
end

/-! ## l_field -/
section
variable {P : Program} {w : World} {K : PySem.W.Frag} {mg : Str → Option Value} {base : Heap}
abbrev N_l_field : List Str := ["_law_hand_here", "_law_most", "_law_states", "_law_acts", "_law_letters", "_law_table", "_law_accepts", "_law_rows_here", "_law_yes", "_law_found", "_law_turn", "_law_row"]
theorem sc_l_field : FnScope N_l_field ["_law_hand_here", "_law_most", "_law_states", "_law_acts"] (defScope s_l_field) := ⟨rfl, rfl, rfl, by decide +kernel, rfl, by decide +kernel, by decide +kernel⟩
theorem ok_l_field {f : Addr} {fd : FuncData} (F : FnP K "_law_field" s_l_field f fd) (T : Txt K mg) (k_l_parts : Kn P w K mg base CX0 5 "_law_parts" ["_law_hand_here", "_law_most", "_law_states"] (sp_parts K)) (k_l_least : Kn P w K mg base CX0 2 "_law_least" ["_law_table", "_law_accepts"] (sp_l_least K)) (k_l_deeds : Kn P w K mg base CX0 1 "_law_deeds" ["_law_letters", "_law_rows_here", "_law_most"] (sp_l_deeds K)) : FnOk P w K mg base CX0 6 f fd ["_law_hand_here", "_law_most", "_law_states", "_law_acts"] (sp_l_field K) := by
  refine F.ok sc_l_field (fun vs H Q E h => ?_) (fun cdv A outer s H vs Q E hr h => ?_)
  · obtain ⟨h, c, rfl, _⟩ := h
    rfl
  · obtain ⟨h, c, rfl, hH, k⟩ := h
    refine ⟨_, PSs.nox (pss_cons (ps_asg (pe_kn k_l_parts (hr.mono (by decide)) rfl (pa_cons (pv 0) (pa_cons (pv 1) (pa_cons (pv 2) pa_nil)))) (pg_tupK (K := K) (n := 3) rfl (pgs_cons (pg_name (i := 4) sc_l_field.nd rfl (by first | exact Or.inl rfl | exact Or.inr rfl)) (pgs_cons (pg_name (i := 5) sc_l_field.nd rfl (by first | exact Or.inl rfl | exact Or.inr rfl)) (pgs_cons (pg_name (i := 6) sc_l_field.nd rfl (by first | exact Or.inl rfl | exact Or.inr rfl)) pgs_nil)))))
    (pss_cons (ps_asg (pe_kn k_l_least (hr.mono (by decide)) rfl (pa_cons (pv 5) (pa_cons (pv 6) pa_nil))) (pg_tupK (K := K) (n := 2) rfl (pgs_cons (pg_name (i := 7) sc_l_field.nd rfl (by first | exact Or.inl rfl | exact Or.inr rfl)) (pgs_cons (pg_name (i := 8) sc_l_field.nd rfl (by first | exact Or.inl rfl | exact Or.inr rfl)) pgs_nil))))
    (pss_cons (ps_set (i := 9) sc_l_field.nd rfl (Or.inl rfl) (pe_kn k_l_deeds (hr.mono (by decide)) rfl (pa_cons (pv 4) (pa_cons (pv 7) (pa_cons (pv 3) pa_nil)))))
    (pss_cons (ps_for PassesOwn.never rfl (pi_range1 rfl T.range (pa_cons pe_int pa_nil)) (pg_name (i := 10) sc_l_field.nd rfl (by first | exact Or.inl rfl | exact Or.inr rfl))
    (pss_one (ps_if (pt_cmp (pc_isN (pv 9)) rfl)
    (pss_cons (ps_set (i := 4) sc_l_field.nd rfl (Or.inl rfl) (pe_slice sl_str (pv 4) po_none (po_some (pe_un un_neg pe_int))))
    (pss_cons (ps_set (i := 5) sc_l_field.nd rfl (Or.inl rfl) (pe_tupleOfK (K := K) rfl T.tuple (pe_lc (own := [("_law_row", 11)]) rfl sc_l_field.nd (pi_seqK (K := K) (pv 5)) (blkOk_by (own := [("_law_row", 11)]) (N := N_l_field) (sc := defScope s_l_field) (by decide +kernel)) (fun _ _ _ _ _ => (pg_name (i := 11) sc_l_field.nd rfl (by first | exact Or.inl rfl | exact Or.inr rfl))) (fun _ _ _ _ _ => pts_nil) (fun _ _ _ _ _ => (pe_slice (slA (K := K)) (pv 11) po_none (po_some (pe_un un_neg pe_int)))))))
    (pss_cons (ps_asg (pe_kn k_l_least (hr.mono (by decide)) rfl (pa_cons (pv 5) (pa_cons (pv 6) pa_nil))) (pg_tupK (K := K) (n := 2) rfl (pgs_cons (pg_name (i := 7) sc_l_field.nd rfl (by first | exact Or.inl rfl | exact Or.inr rfl)) (pgs_cons (pg_name (i := 8) sc_l_field.nd rfl (by first | exact Or.inl rfl | exact Or.inr rfl)) pgs_nil))))
    (pss_one (ps_set (i := 9) sc_l_field.nd rfl (Or.inl rfl) (pe_kn k_l_deeds (hr.mono (by decide)) rfl (pa_cons (pv 4) (pa_cons (pv 7) (pa_cons (pv 3) pa_nil)))))))))
    pss_nil)))
    (pss_one (ps_ret (pe_tup (pa_cons (pv 4) (pa_cons (pv 5) (pa_cons (pv 6) (pa_cons (pv 7) (pa_cons (pv 8) (pa_cons (pe_ix (ixT (K := K)) (pv 9) pe_int (fun _ _ => rfl)) (pa_cons (pe_ix (ixT (K := K)) (pv 9) pe_int (fun _ _ => rfl)) pa_nil)))))))))))))), ?_⟩
    walk_at "ws"
    refine ⟨h, c, rfl, hH, fun p cs tv av Tb Ac H1 hM habc hasc hlt m1 hH1 hTv hAv hp => ?_⟩
    refine ⟨p, _, rfl, SqT.of hp, rfl, _, _, rfl, _, _, rfl, _, _, rfl, rfl, ?_⟩
    walk_at "ws"
    refine ⟨tv, av, Tb, Ac, cs.length, rfl, hTv.s, hAv, hM.t, hM.four, hM.six, fun p2 rv yv R A' H2 e2 hrv hR hR6 hyv hp2 => ?_⟩
    refine ⟨p2, _, rfl, SqT.of hp2, rfl, _, _, rfl, _, _, rfl, rfl, ?_⟩
    walk_at "ws"
    -- the rest, for whatever is found
    have m02 := m1.tr e2.mo
    let P (i : Nat) (σ : L2.St) (H' : Hp) : Prop := ∃ (cs : List Nat) (Tb : List (List Nat)) (Ac : List Nat) (tv av rv yv fv : V) (z10 z11 : Option V), Mo h H H' ∧ HandAt K H' h c ∧ MD cs Tb Ac ∧ (∀ x ∈ cs, 97 ≤ x ∧ x ≤ 122) ∧ Ac.Pairwise (· < ·) ∧ (∀ q ∈ Ac, q < Tb.length) ∧ TabT H' tv Tb ∧ TupN H' av Ac ∧ Fd H' i fv cs Tb Ac ∧
      σ = [some (.ref h), some (iv 4), some (iv 6), some (iv 10), some (.str (sO cs)), some tv, some av, some rv, some yv, some fv, z10, z11]
    -- a look for deeds behind a least machine
    have hmain : P 0 = P 0 := rfl
    have step : ∀ (i : Nat) (cs : List Nat) (Tb : List (List Nat)) (Ac : List Nat) (tv av rv yv : V) (R : List (List Nat)) (H2 : Hp) (Qc : VK), Mo h H H2 → HandAt K H2 h c → MD cs Tb Ac → (∀ x ∈ cs, 97 ≤ x ∧ x ≤ 122) → Ac.Pairwise (· < ·) → (∀ q ∈ Ac, q < Tb.length) → TabT H2 tv Tb → TupN H2 av Ac → TabT H2 rv R → QM.Least Tb Ac cs.length R → R.length ≤ 6 → cs.length + i ≤ 4 →
        (∀ fv H3 σ10 σ11, P i [some (.ref h), some (iv 4), some (iv 6), some (iv 10), some (.str (sO cs)), some tv, some av, some rv, some yv, some fv, σ10, σ11] H3 → Qc fv H3) → sp_l_deeds K [.str (sO cs), rv, iv 10] H2 Qc E := by
      intro i cs Tb Ac tv av rv yv R H2 Qc m02 hH2 hM habc hasc hlt hTv hAv hrv hR hR6 hci kk
      refine ⟨cs, rv, R, 10, rfl, hM.four, hrv, hR.tok, hR6, by omega, by omega, fun H3 e3 hn => ?_, fun ws wo de q H3 e3 hF hwl hW hq => ?_⟩
      · exact kk .non H3 none none ⟨cs, Tb, Ac, tv, av, rv, yv, .non, _, _, m02.tr e3.mo, hH2.ex e3, hM, habc, hasc, hlt, hTv.ex e3, hAv.ex e3, .inl ⟨rfl, hci, one_few hR hR6 hM.one hn⟩, rfl⟩
      · exact kk (.ref q) H3 none none ⟨cs, Tb, Ac, tv, av, rv, yv, .ref q, _, _, m02.tr e3.mo, hH2.ex e3, hM, habc, hasc, hlt, hTv.ex e3, hAv.ex e3, .inr ⟨q, wo, de, rfl, hq, R, hR, few_of hF hR.tok hwl⟩, rfl⟩
    refine step 0 cs Tb Ac tv av rv yv R H2 _ m02 (hH1.ex e2) hM habc hasc hlt (hTv.ex e2) (hAv.ex e2) hrv hR hR6 hM.four fun fv H3 σ10 σ11 hP0 => ?_
    walk_at "ws"
    refine k_iR (m := 3) (by omega) ?_
    have hP0' : ∃ z10 z11, P 0 [some (.ref h), some (iv 4), some (iv 6), some (iv 10), some (.str (sO cs)), some tv, some av, some rv, some yv, some fv, z10, z11] H3 := ⟨_, _, hP0⟩
    obtain ⟨cs0, Tb0, Ac0, tv0, av0, rv0, yv0, fv0, z10, z11, q1, q2, q3, q4, q5, q6, q7, q8, q9, q10⟩ := hP0
    refine k_forR (fun i σ H' => P i σ H') ⟨cs0, Tb0, Ac0, tv0, av0, rv0, yv0, fv0, _, _, q1, q2, q3, q4, q5, q6, q7, q8, q9, by injection q10 with _ q10; injection q10 with _ q10; injection q10 with _ q10; injection q10 with _ q10; injection q10 with a1 q10; injection q10 with a2 q10; injection q10 with a3 q10; injection q10 with a4 q10; injection q10 with a5 q10; injection q10 with a6 q10; rw [← a1, ← a2, ← a3, ← a4, ← a5, ← a6]; rfl⟩ ?_ ?_
    · rintro i σ H4 hi ⟨cs, Tb, Ac, tv, av, rv, yv, fv, z10, z11, m04, hH4, hM, habc, hasc, hlt, hTv, hAv, hFd, rfl⟩
      walk_at "ws"
      rcases hFd with ⟨rfl, hci, h2k⟩ | ⟨fp, wo, de, rfl, hfp, hR⟩
      · refine k_if (fun _ => ?_) fun z => by cases z
        walk_at "ws"
        refine r_slSm1 (by have := hM.four; omega) ?_
        walk_at "ws"
        obtain ⟨ta, us, rfl, hta, htl, hrow⟩ := id hTv
        have hk1 : cs.dropLast.length = cs.length - 1 := by simp
        let ps := List.range (cs.length - 1)
        have hpl : ∀ p ∈ ps, p < cs.length := fun p hp => by have := List.mem_range.mp hp; omega
        have hpsl : ps.length = cs.length - 1 := by simp [ps]
        have four := hM.four
        have six := hM.six
        refine k_iS (b := false) (SqT.of hta) ?_
        refine k_lcS (by omega) (fun Dl j y H' => ∃ r, (QM.rst Tb ps)[j]? = some r ∧ TupN H' y r) (SqT.of hta) (fun Dl j y Ha Hb hl mm ⟨r, h1, h2⟩ => ⟨r, h1, h2.tp (mm.tp fun xs q => by obtain ⟨l, hl⟩ := hl; rw [hl] at q; cases q)⟩) (fun Dl j x H5 Qc hj e5 nDl hDl kq => ?_) fun Dl H5 us5 n5 e5 h5 hl5 hr5 => ?_
        · have hjl : j < Tb.length := by rw [← htl]; exact (List.getElem?_eq_some_iff.mp hj).1
          obtain ⟨u, hu, rT⟩ := hrow j _ (List.getElem?_eq_getElem hjl)
          rw [hj] at hu
          cases hu
          obtain ⟨ra, rfl, hra⟩ := rT.ex e5
          walk_at "ws"
          refine r_slA (ys := ((ps.map fun p => Tb[j].getD p 0)).map iv) hra ?_ fun q H6 e6 h6 => ?_
          · rw [cutV_m1, List.map_dropLast.symm]
            congr 1
            have hrl := (hM.t.row _ (List.getElem_mem hjl)).1
            apply List.ext_getElem
            · simp [hrl, ps]
            · intro a h1 h2
              simp [hrl] at h1
              have : a < Tb[j].length := by omega
              simp [ps, List.getD_eq_getElem?_getD, this]
          · exact kq _ _ e6 ⟨_, by simp [QM.rst, hjl], q, rfl, h6⟩
        refine k_tupleL (SqL.of h5) fun tb5 H6 n6 e6 h6 => ?_
        have e46 := e5.tr e6
        have hT6 : TabT H6 (.ref tb5) (QM.rst Tb ps) := ⟨tb5, us5, rfl, h6, by rw [hl5, QM.rst_len, htl], fun i r hr => by
          have hi : i < us5.length := by
            rw [hl5, htl, ← QM.rst_len (ps := ps)]
            exact (List.getElem?_eq_some_iff.mp hr).1
          obtain ⟨r', h1, h2⟩ := hr5 i _ (List.getElem?_eq_getElem hi)
          rw [hr] at h1
          cases h1
          exact ⟨_, List.getElem?_eq_getElem hi, h2.ex e6⟩⟩
        have hM6 : MD cs.dropLast (QM.rst Tb ps) Ac := ⟨hM.asc.sublist (List.dropLast_sublist cs), by omega, by omega, by rw [hk1, ← hpsl]; exact QM.rst_ok hM.t hpl, by rw [QM.rst_len]; exact six, hM.acc⟩
        walk_at "ws"
        refine ⟨.ref tb5, av, QM.rst Tb ps, Ac, cs.dropLast.length, rfl, hT6.s, hAv.ex e46, hM6.t, hM6.four, hM6.six, fun p2 rv2 yv2 R2 A2 H7 e7 hrv2 hR2 hR26 hyv2 hp2 => ?_⟩
        refine ⟨p2, _, rfl, SqT.of hp2, rfl, _, _, rfl, _, _, rfl, rfl, ?_⟩
        walk_at "ws"
        refine step (i + 1) cs.dropLast (QM.rst Tb ps) Ac (.ref tb5) av rv2 yv2 R2 H7 _ (m04.tr (e46.tr e7).mo) ((hH4.ex e46).ex e7) hM6 (fun x hx => habc x ((List.dropLast_sublist cs).subset hx)) hasc (by rw [QM.rst_len]; exact hlt) (hT6.ex e7) ((hAv.ex e46).ex e7) hrv2 hR2 hR26 (by omega) fun fv H8 σ10 σ11 hP8 => ?_
        walk_at "ws"
        obtain ⟨cs0, Tb0, Ac0, tv0, av0, rv0, yv0, fv0, z10, z11, q1, q2, q3, q4, q5, q6, q7, q8, q9, q10⟩ := hP8
        exact ⟨cs0, Tb0, Ac0, tv0, av0, rv0, yv0, fv0, _, _, q1, q2, q3, q4, q5, q6, q7, q8, q9, by injection q10 with _ q10; injection q10 with _ q10; injection q10 with _ q10; injection q10 with _ q10; injection q10 with a1 q10; injection q10 with a2 q10; injection q10 with a3 q10; injection q10 with a4 q10; injection q10 with a5 q10; injection q10 with a6 q10; rw [← a1, ← a2, ← a3, ← a4, ← a5, ← a6]; rfl⟩
      · refine k_if (fun z => by cases z) fun _ => ?_
        walk_at "ws"
        exact ⟨cs, Tb, Ac, tv, av, rv, yv, .ref fp, _, _, m04, hH4, hM, habc, hasc, hlt, hTv, hAv, .inr ⟨fp, wo, de, rfl, hfp, hR⟩, rfl⟩
    · rintro σ H4 ⟨cs, Tb, Ac, tv, av, rv, yv, fv, z10, z11, m04, hH4, hM, habc, hasc, hlt, hTv, hAv, hFd, rfl⟩
      rcases hFd with ⟨rfl, hci, h2k⟩ | ⟨fp, wo, de, rfl, hfp, hR⟩
      · omega
      · walk_at "ws"
        refine r_ixT0 (n := 0) (SqT.of hfp) rfl rfl ?_
        walk_at "ws"
        refine r_ixT0 (n := 1) (SqT.of hfp) rfl rfl ?_
        walk_at "ws"
        refine k_tup (by walk_at "sz") fun rp H5 n5 e5 h5 => ?_
        exact k rp cs tv av rv yv _ _ Tb Ac H5 ⟨hM, habc, hasc, hlt, hR⟩ (m04.tr e5.mo) (hH4.ex e5) (hTv.ex e5) (hAv.ex e5) h5
end

/-! ## l_classes -/
section
variable {P : Program} {w : World} {K : PySem.W.Frag} {mg : Str → Option Value} {base : Heap}
abbrev N_l_classes : List Str := ["_law_table", "_law_accepts", "_law_states", "_law_classes_here", "_law_state", "_law_many", "_law_turn", "_law_numbers", "_law_later", "_law_key", "_law_to"]
theorem sc_l_classes : FnScope N_l_classes ["_law_table", "_law_accepts", "_law_states"] (defScope s_l_classes) := ⟨rfl, rfl, rfl, by decide +kernel, rfl, by decide +kernel, by decide +kernel⟩
theorem ok_l_classes {f : Addr} {fd : FuncData} (F : FnP K "_law_classes" s_l_classes f fd) (T : Txt K mg) : FnOk P w K mg base CX0 1 f fd ["_law_table", "_law_accepts", "_law_states"] (sp_l_classes K) := by
  refine F.ok sc_l_classes (fun vs H Q E h => ?_) (fun cdv A outer s H vs Q E hr h => ?_)
  · obtain ⟨tv, av, p, Tb, Ac, k, ss, rfl, _⟩ := h
    rfl
  · obtain ⟨tv, av, p, Tb, Ac, kk, ss, rfl, ⟨bt, ta, tus, rfl, hta, htl, htr⟩, ⟨aa, rfl, haa⟩, hp, ht, hk4, hT6, hS, k⟩ := h
    refine ⟨_, PSs.nox (pss_cons (ps_set (i := 3) sc_l_classes.nd rfl (Or.inr rfl) pe_dnewK)
    (pss_cons (ps_for PassesOwn.never rfl (pi_seqK (K := K) (pv 2)) (pg_name (i := 4) sc_l_classes.nd rfl (by first | exact Or.inl rfl | exact Or.inr rfl))
    (pss_one (ps_dput (hu_of hr) (pv 3) (pv 4) (pe_callTy call_intS (by rfl) T.int (by decide +kernel) (pa_cons (pe_cmpR (opIn (K := K)) (pv 4) (pv 1) rfl) pa_nil)) rfl)))
    (pss_cons (ps_set (i := 5) sc_l_classes.nd rfl (Or.inl rfl) pe_int)
    (pss_cons (ps_for PassesOwn.never rfl (pi_range1 rfl T.range (pa_cons (pe_callB (callLen (K := K)) (by rfl) T.len PySem.boot_len (pa_cons (pv 2) pa_nil)) pa_nil)) (pg_name (i := 6) sc_l_classes.nd rfl (by first | exact Or.inl rfl | exact Or.inr rfl))
    (pss_cons (ps_set (i := 7) sc_l_classes.nd rfl (Or.inl rfl) (pe_ndnew (P := P) (w := w) (kd := false)))
    (pss_cons (ps_set (i := 8) sc_l_classes.nd rfl (Or.inl rfl) pe_dnewK)
    (pss_cons (ps_for PassesOwn.never rfl (pi_seqK (K := K) (pv 2)) (pg_name (i := 4) sc_l_classes.nd rfl (by first | exact Or.inl rfl | exact Or.inr rfl))
    (pss_cons (ps_set (i := 9) sc_l_classes.nd rfl (Or.inl rfl) (pe_tup (pa_cons (pe_dget (hu_of hr) (pv 3) (pv 4) (fun _ _ => rfl)) (pa_cons (pe_tupleOfK (K := K) rfl T.tuple (pe_lc (own := [("_law_to", 10)]) rfl sc_l_classes.nd (pi_seqK (K := K) (pe_ix (ixS (K := K)) (pv 0) (pv 4) (fun _ _ => rfl))) (blkOk_by (own := [("_law_to", 10)]) (N := N_l_classes) (sc := defScope s_l_classes) (by decide +kernel)) (fun _ _ _ _ _ => (pg_name (i := 10) sc_l_classes.nd rfl (by first | exact Or.inl rfl | exact Or.inr rfl))) (fun _ _ _ _ _ => pts_nil) (fun _ _ _ _ _ => (pe_dget (hu_of hr) (pv 3) (pv 10) (fun _ _ => rfl))))) pa_nil))))
    (pss_cons (ps_if (pt_cmp (pc_ndnotin (P := P) (w := w) (kd := false) hr.units (pv 9) (pv 7)) rfl)
    (pss_one (ps_ndput (P := P) (w := w) (kd := false) hr.units (pv 7) (pv 9) (pe_callB (call_lenN (P := P) (w := w) (kd := false)) (by rfl) T.len PySem.boot_len (pa_cons (pv 7) pa_nil)) rfl))
    pss_nil)
    (pss_one (ps_dput (hu_of hr) (pv 8) (pv 4) (pe_ndget (P := P) (w := w) (kd := false) hr.units (pv 7) (pv 9) (fun _ _ => rfl)) rfl)))))
    (pss_cons (ps_set (i := 3) sc_l_classes.nd rfl (Or.inr rfl) (pv 8))
    (pss_cons (ps_if (pt_cmpR op_eq (pe_callB (call_lenN (P := P) (w := w) (kd := false)) (by rfl) T.len PySem.boot_len (pa_cons (pv 7) pa_nil)) (pv 5) (nomark _))
    (pss_one ps_break)
    pss_nil)
    (pss_one (ps_set (i := 5) sc_l_classes.nd rfl (Or.inl rfl) (pe_callB (call_lenN (P := P) (w := w) (kd := false)) (by rfl) T.len PySem.boot_len (pa_cons (pv 7) pa_nil))))))))))
    (pss_one (ps_ret (pv 3))))))), ?_⟩
    have hsl : ss.length ≤ 6 := Nat.le_trans (sts_len ht hS) hT6
    let c0 : Nat → Nat := fun q => if q ∈ Ac then 1 else 0
    walk_at "ws"
    refine w_dnewK fun d0 H1 n1 e1 h1 => ?_
    walk_at "ws"
    refine k_iS (b := true) (SqL.of (e1 _ _ hp)) ?_
    refine k_forS (fun i σ H' => ∃ z1 z2 z3 z4 z5 z6 z7, Ex H H' ∧ H' d0 = some (.dK (dkN (ss.take i) c0)) ∧ σ = [some (.ref ta), some (.ref aa), some (.ref p), some (.ref d0), z1, z2, z3, z4, z5, z6, z7])
      ⟨_, _, _, _, _, _, _, e1, h1, rfl⟩ (fun _ _ _ ⟨_, _, _, _, _, _, _, r, _⟩ => SqL.of (r _ _ hp)) ?_ ?_
    · rintro i x σ H2 hx ⟨z1, z2, z3, z4, z5, z6, z7, e2, h2, rfl⟩
      obtain ⟨q, hq, rfl⟩ := at_map hx
      walk_at "ws"
      refine r_inN (t := false) (SqT.of (e2 _ _ haa)) ?_
      walk_at "ws"
      refine k_dp3K h2 (by rw [sizeLine_eq]; simp [dkN]; omega) fun H3 m3 h3 => ?_
      walk_at "ws"
      rw [putK_new (dkN_not (by intro hmem; exact take_not hS.nd hq hmem))] at h3
      refine ⟨_, _, _, _, _, _, _, m3.ex e2 n1, ?_, rfl⟩
      rw [h3, List.take_add_one, hq]
      unfold dkN
      rw [List.map_append]
      show some (HO.dK (_ ++ [(ik q, _)])) = some (HO.dK (_ ++ [(ik q, iv (c0 q))]))
      congr 6
      by_cases hqa : q ∈ Ac <;> simp [c0, hqa]
    · rintro σ H2 ⟨z1, z2, z3, z4, z5, z6, z7, e2, h2, rfl⟩
      have h2' : H2 d0 = some (.dK (dkN ss c0)) := by rw [h2]; simp
      walk_at "ws"
      refine r_len (.inl (SqL.of (e2 _ _ hp))) ?_
      refine k_iR (by rw [List.length_map]; omega) ?_
      refine k_forR (fun i σ H' => ∃ (c : Nat → Nat) (n : Nat) (d : Addr) (z4 z6 z7 z8 z9 z10 : Option V), QM.LInv Tb Ac kk ss i c n ∧ Ex H H' ∧ H' d = some (.dK (dkN ss c)) ∧ σ = [some (.ref ta), some (.ref aa), some (.ref p), some (.ref d), z4, some (iv n), z6, z7, z8, z9, z10])
        ⟨c0, 0, d0, _, _, _, _, _, _, .inl ⟨rfl, rfl, rfl⟩, e2, h2', rfl⟩ ?_ ?_
      · rintro i σ H3 hi ⟨c, n, d, z4, z6, z7, z8, z9, z10, hL, e3, h3, rfl⟩
        let g := QM.keyOf Tb c
        walk_at "ws"
        intro nu H4 n4 e4 h4
        walk_at "ws"
        refine w_dnewK fun la H5 n5 e5 h5 => ?_
        obtain ⟨φ, hφ⟩ := nd_have h4
        have nul : nu ≠ la := ne_of_none hφ n5
        walk_at "ws"
        have hp5 : H5 p = _ := e5 _ _ (e4 _ _ (e3 _ _ hp))
        refine k_iS (b := true) (SqL.of hp5) ?_
        refine k_forS (fun j σ H' => ∃ z4 z6 z9 z10, Ex H3 H' ∧ ND P w false H' nu (((QM.firsts ((ss.take j).map g)).zipIdx).map fun p => (p.1, iv p.2)) ∧ H' la = some (.dK (dkN (ss.take j) (QM.num ss g))) ∧
            σ = [some (.ref ta), some (.ref aa), some (.ref p), some (.ref d), z4, some (iv n), z6, some (.ref nu), some (.ref la), z9, z10])
          ⟨_, _, _, _, e4.tr e5, h4.ex e5, h5, rfl⟩ (fun _ _ _ ⟨_, _, _, _, r, _⟩ => SqL.of (r _ _ (e3 _ _ hp))) ?_ ?_
        · rintro j x σ H6 hx ⟨z4, z6, z9, z10, e6, hn6, hl6, rfl⟩
          obtain ⟨q, hq, rfl⟩ := at_map hx
          have hqs : q ∈ ss := List.mem_of_getElem? hq
          obtain ⟨hqT, hqr, hrl, hstep⟩ := tab_row ht hS hqs
          obtain ⟨u, hu, b, ua, rfl, hua⟩ := htr _ _ hqr
          walk_at "ws"
          refine k_dg2K (e6 _ _ h3) (dkN_get hqs) ?_
          walk_at "ws"
          refine r_ixS ((hta.ex (e3.tr e6)).sq) hu ?_
          have hua6 := hua.ex (e3.tr e6)
          refine k_iS hua6 ?_
          refine k_lcSP (by rw [List.length_map, hrl]; omega) ((Tb.getD q []).map fun x => iv (c x)) (by simp) hua6 (fun jj x H7 Qc hx e7 k7 => ?_) fun l H7 n7 e7 h7 => ?_
          · obtain ⟨y, hy, rfl⟩ := at_map hx
            walk_at "ws"
            refine k_dg2K (e7 _ _ (e6 _ _ h3)) (dkN_get (hstep y (List.mem_of_getElem? hy))) ?_
            exact k7 _ _ (by rw [List.getElem?_map, hy]; rfl) Ex.rfl'
          refine k_tupleL (SqL.of h7) fun ta2 H8 n8 e8 h8 => ?_
          walk_at "ws"
          refine k_tup (by walk_at "sz") fun tk H9 n9 e9 h9 => ?_
          have e69 : Ex H6 H9 := (e7.tr e8).tr e9
          have hky : Ky false H9 (g q) (.ref tk) := ⟨c q, (Tb.getD q []).map c, tk, ta2, rfl, rfl, h9, by rw [e9 _ _ h8, List.map_map]; rfl⟩
          have hn9 := hn6.ex e69
          have hl9 := e69 _ _ hl6
          have htk : ss.take (j + 1) = ss.take j ++ [q] := by rw [List.take_add_one, hq]; rfl
          have hfs : QM.firsts ((ss.take (j + 1)).map g) = if g q ∈ QM.firsts ((ss.take j).map g) then QM.firsts ((ss.take j).map g) else QM.firsts ((ss.take j).map g) ++ [g q] := by
            rw [htk, List.map_append]
            have h := QM.firsts_snoc ((ss.take j).map g) (g q)
            by_cases hm : g q ∈ QM.firsts ((ss.take j).map g)
            · rw [if_pos hm] at h ⊢; exact h
            · rw [if_neg hm] at h ⊢; exact h
          obtain ⟨rr, hrr⟩ := QM.firsts_pre ((ss.take (j + 1)).map g) ((ss.drop (j + 1)).map g)
          rw [← List.map_append, List.take_append_drop] at hrr
          have hqm : g q ∈ QM.firsts ((ss.take (j + 1)).map g) := QM.mem_firsts.mpr (List.mem_map.mpr ⟨q, by rw [htk]; simp, rfl⟩)
          have hv : valV (((QM.firsts ((ss.take (j + 1)).map g)).zipIdx).map fun p => (p.1, iv p.2)) (g q) = some (iv (QM.num ss g q)) := by
            rw [valV_zip (κ := List Nat) (QM.nodup_firsts _), if_pos hqm]
            unfold QM.num
            rw [hrr, QM.idx_app hqm]
            rfl
          have hfl : (QM.firsts ((ss.take j).map g)).length ≤ 6 := by
            have := QM.nodup_le (QM.nodup_firsts ((ss.take j).map g)) (m := (ss.take j).map g) fun x hx => QM.mem_firsts.mp hx
            rw [List.length_map, List.length_take] at this
            omega
          have nun : ∀ φ, H6 nu ≠ some φ ∨ True := fun _ => .inr trivial
          walk_at "ws"
          refine k_nn hn9 hky ?_
          rw [valV_zip (κ := List Nat) (QM.nodup_firsts _)]
          walk_at "ws"
          have tnu : ∀ {H' : Hp}, Mo nu H9 H' → Tp H9 H' := fun m => m.tp fun xs q => by obtain ⟨φ, hφ⟩ := nd_have hn9; rw [hφ] at q; cases q
          refine cutIf (fun σ' H' => Mo nu H9 H' ∧ ND P w false H' nu (((QM.firsts ((ss.take (j + 1)).map g)).zipIdx).map fun p => (p.1, iv p.2)) ∧ σ' = [some (.ref ta), some (.ref aa), some (.ref p), some (.ref d), some (iv q), some (iv n), z6, some (.ref nu), some (.ref la), some (.ref tk), z10]) (fun N' nx => ?_) ?_
          · by_cases hm : g q ∈ QM.firsts ((ss.take j).map g)
            · rw [if_pos hm]
              rw [if_pos hm] at hfs
              refine k_if (fun q => by cases q) fun _ => ?_
              exact nx _ _ ⟨Ex.rfl'.mo, by rw [hfs]; exact hn9, rfl⟩
            · rw [if_neg hm]
              rw [if_neg hm] at hfs
              refine k_if (fun _ => ?_) fun q => by cases q
              walk_at "ws"
              refine r_lenN hn9 ?_
              walk_at "ws"
              refine k_np hn9 hky (by rw [List.length_map, List.length_zipIdx]; omega) fun H10 m10 n10 => ?_
              rw [putK_new (by
                intro hmem
                obtain ⟨p', hp', e'⟩ := List.mem_map.mp hmem
                obtain ⟨q', hq', rfl⟩ := List.mem_map.mp hp'
                obtain ⟨_, h2⟩ := List.mem_zipIdx_iff_getElem?.mp hq' |> fun z => (⟨trivial, List.mem_of_getElem? z⟩ : True ∧ _)
                exact hm (e' ▸ h2))] at n10
              refine nx _ _ ⟨m10, ?_, rfl⟩
              rw [hfs, List.zipIdx_append, List.map_append]
              simpa using n10
          rintro σ H10 ⟨m10, hn10, rfl⟩
          walk_at "ws"
          refine k_ng hn10 (hky.tp (tnu m10)) hv ?_
          walk_at "ws"
          refine k_dp3K (m10 _ _ (Ne.symm nul) hl9) (by rw [sizeLine_eq]; simp [dkN]; omega) fun H11 m11 h11 => ?_
          walk_at "ws"
          rw [putK_new (dkN_not (by
            intro hmem
            exact take_not hS.nd hq hmem))] at h11
          refine ⟨_, _, _, _, ?_, hn10.tp (m11.tp fun xs q => by rw [m10 _ _ (Ne.symm nul) hl9] at q; cases q) fun o ho => m11 _ _ nul ho, ?_, rfl⟩
          · exact fun a o ha => m11 _ _ (fun e => by rw [e] at ha; rw [e4 _ _ ha] at n5; cases n5) (m10 _ _ (fun e => by rw [e, n4] at ha; cases ha) (e69 _ _ (e6 _ _ ha)))
          · rw [h11]
            unfold dkN
            rw [htk, List.map_append]
            rfl
        · rintro σ H6 ⟨z4, z6, z9, z10, e6, hn6, hl6, rfl⟩
          have hall : (ss.take (ss.map iv).length) = ss := by simp
          rw [hall] at hn6 hl6
          walk_at "ws"
          refine r_lenN hn6 ?_
          walk_at "ws"
          rw [show ((((QM.firsts (ss.map g)).zipIdx).map fun p => (p.1, iv p.2)).length : Nat) = QM.kn Tb ss c by simp [QM.kn, g]]
          rw [eq_iv]
          obtain ⟨t1, t2⟩ := hL.turn ht hS
          by_cases hnn : QM.kn Tb ss c = n
          · rw [decide_eq_true hnn]
            refine k_if (fun _ => ?_) fun z => by cases z
            walk_at "ws"
            exact k la _ _ H6 (e3.tr e6) hl6 (t1 hnn)
          · rw [decide_eq_false hnn]
            refine k_if (fun z => by cases z) fun _ => ?_
            walk_at "ws"
            refine r_lenN hn6 ?_
            walk_at "ws"
            rw [show ((((QM.firsts (ss.map g)).zipIdx).map fun p => (p.1, iv p.2)).length : Nat) = QM.kn Tb ss c by simp [QM.kn, g]]
            exact ⟨_, _, la, _, _, _, _, _, _, t2 hnn, e3.tr e6, hl6, rfl⟩
      · rintro σ H3 ⟨c, n, d, z4, z6, z7, z8, z9, z10, hL, e3, h3, rfl⟩
        walk_at "ws"
        rw [List.length_map] at hL
        exact k d c n H3 e3 h3 (hL.fin hS)
end

/-! ## l_least -/
section
variable {P : Program} {w : World} {K : PySem.W.Frag} {mg : Str → Option Value} {base : Heap}
abbrev N_l_least : List Str := ["_law_table", "_law_accepts", "_law_states", "_law_at", "_law_to", "_law_classes_here", "_law_numbers", "_law_order", "_law_state", "_law_rows_here", "_law_k"]
theorem sc_l_least : FnScope N_l_least ["_law_table", "_law_accepts"] (defScope s_l_least) := ⟨rfl, rfl, rfl, by decide +kernel, rfl, by decide +kernel, by decide +kernel⟩
structure RJ (H H' : Hp) (T : List (List Nat)) (k : Nat) (p : Addr) (ss : List Nat) (i : Nat) : Prop where
  e : Ex H H'
  hp : H' p = some (.lst (ss.map iv))
  nd : ss.Nodup
  zero : ss[0]? = some 0
  reach : ∀ q ∈ ss, QM.Reach T k q
  le : i ≤ ss.length
  clo : ∀ j q a, j < i → ss[j]? = some q → a < k → QM.cell T q a ∈ ss
theorem ik_mem {F : List Nat} {x : Nat} : ik x ∈ F.map ik ↔ x ∈ F := by
  rw [List.mem_map]
  exact ⟨fun ⟨y, hy, e⟩ => by injection e with e; exact Int.ofNat.inj e ▸ hy, fun h => ⟨x, h, rfl⟩⟩
theorem ik_nd {F : List Nat} (h : F.Nodup) : (F.map ik).Nodup := List.pairwise_map.mpr (h.imp fun h e => h (by injection e with e; exact Int.ofNat.inj e))
theorem ix_ik : ∀ {F : List Nat} {x : Nat}, QM.ixOf (F.map ik) (ik x) = QM.ixOf F x
  | [], _ => rfl
  | a :: F, x => by
    by_cases h : a = x
    · subst h
      rw [List.map_cons, QM.ix_self, QM.ix_self]
    · rw [List.map_cons, QM.ix_ne h, QM.ix_ne (fun e => h (by injection e with e; exact Int.ofNat.inj e)), ix_ik]
/-- numbers told by the first ones -/
def nuK (F : List Nat) : List (Key × V) := ((F.map ik).zipIdx).map fun p => (p.1, iv p.2)
theorem nuK_get {F : List Nat} (nd : F.Nodup) {x : Nat} : valV (nuK F) (Sum.inl (x : Int)) = if x ∈ F then some (iv (QM.ixOf F x)) else none := by
  unfold nuK
  have h := valV_zip (κ := Key) (l := ik x) (ik_nd nd)
  rw [show (Sum.inl (x : Int) : Key) = ik x from rfl, h, ix_ik]
  by_cases hm : x ∈ F
  · rw [if_pos hm, if_pos (ik_mem.mpr hm)]
  · rw [if_neg hm, if_neg fun z => hm (ik_mem.mp z)]
theorem nuK_snoc {F : List Nat} {x : Nat} (h : x ∉ F) : putK (nuK F) (Sum.inl (x : Int)) (iv F.length) = nuK (F ++ [x]) := by
  rw [putK_new]
  · unfold nuK
    rw [List.map_append, List.zipIdx_append, List.map_append]
    simp
  · intro hm
    obtain ⟨p', hp', e'⟩ := List.mem_map.mp hm
    obtain ⟨q', hq', rfl⟩ := List.mem_map.mp hp'
    obtain ⟨_, h2⟩ := List.mem_zipIdx_iff_getElem?.mp hq' |> fun z => (⟨trivial, List.mem_of_getElem? z⟩ : True ∧ _)
    have e2 : q'.1 = ik x := e'
    rw [e2] at h2
    exact h (ik_mem.mp h2)
theorem ok_l_least {f : Addr} {fd : FuncData} (F : FnP K "_law_least" s_l_least f fd) (T : Txt K mg) (k_l_classes : Kn P w K mg base CX0 1 "_law_classes" ["_law_table", "_law_accepts", "_law_states"] (sp_l_classes K)) : FnOk P w K mg base CX0 2 f fd ["_law_table", "_law_accepts"] (sp_l_least K) := by
  refine F.ok sc_l_least (fun vs H Q E h => ?_) (fun cdv A outer s H vs Q E hr h => ?_)
  · obtain ⟨tv, av, Tb, Ac, k, rfl, _⟩ := h
    rfl
  · obtain ⟨tv, av, Tb, Ac, kk, rfl, hTS, hAT, ht, hk4, hT6, k⟩ := h
    obtain ⟨bt, ta, tus, rfl, hta, htl, htr⟩ := id hTS
    obtain ⟨aa, rfl, haa⟩ := id hAT
    refine ⟨_, PSs.nox (pss_cons (ps_set (i := 2) sc_l_least.nd rfl (Or.inl rfl) (pe_lst (pa_cons pe_int pa_nil)))
    (pss_cons (ps_set (i := 3) sc_l_least.nd rfl (Or.inl rfl) pe_int)
    (pss_cons (ps_while PassesOwn.never (pt_cmpR op_lt (pv 3) (pe_callB (callLen (K := K)) (by rfl) T.len PySem.boot_len (pa_cons (pv 2) pa_nil)) (nomark _))
    (pss_cons (ps_for PassesOwn.never rfl (pi_seqK (K := K) (pe_ix (ixS (K := K)) (pv 0) (pe_ix (ixL (K := K)) (pv 2) (pv 3) (fun _ _ => rfl)) (fun _ _ => rfl))) (pg_name (i := 4) sc_l_least.nd rfl (by first | exact Or.inl rfl | exact Or.inr rfl))
    (pss_one (ps_if (pt_cmpR (opNotIn (K := K)) (pv 4) (pv 2) rfl)
    (pss_one (ps_expr (pe_bmK (K := K) PySem.F.plainAttrs_list PySem.F.slot_list_append PySem.F.type_list_append mt_append (pv 2) (pa_cons (pv 4) pa_nil))))
    pss_nil)))
    (pss_one (ps_set (i := 3) sc_l_least.nd rfl (Or.inl rfl) (pe_op op_add (pv 3) pe_int)))))
    (pss_cons (ps_set (i := 5) sc_l_least.nd rfl (Or.inr rfl) (pe_kn k_l_classes (hr.mono (by decide)) rfl (pa_cons (pv 0) (pa_cons (pv 1) (pa_cons (pv 2) pa_nil)))))
    (pss_cons (ps_set (i := 6) sc_l_least.nd rfl (Or.inr rfl) pe_dnewK)
    (pss_cons (ps_set (i := 7) sc_l_least.nd rfl (Or.inr rfl) (pe_lst pa_nil))
    (pss_cons (ps_for PassesOwn.never rfl (pi_seqK (K := K) (pv 2)) (pg_name (i := 8) sc_l_least.nd rfl (by first | exact Or.inl rfl | exact Or.inr rfl))
    (pss_one (ps_if (pt_cmp (pc_dnotin (hu_of hr) (pe_dget (hu_of hr) (pv 5) (pv 8) (fun _ _ => rfl)) (pv 6)) rfl)
    (pss_cons (ps_dput (hu_of hr) (pv 6) (pe_dget (hu_of hr) (pv 5) (pv 8) (fun _ _ => rfl)) (pe_callB (callLen (K := K)) (by rfl) T.len PySem.boot_len (pa_cons (pv 7) pa_nil)) rfl)
    (pss_one (ps_expr (pe_bmK (K := K) PySem.F.plainAttrs_list PySem.F.slot_list_append PySem.F.type_list_append mt_append (pv 7) (pa_cons (pv 8) pa_nil)))))
    pss_nil)))
    (pss_cons (ps_set (i := 9) sc_l_least.nd rfl (Or.inl rfl) (pe_tupleOfK (K := K) rfl T.tuple (pe_lc (own := [("_law_state", 8)]) rfl sc_l_least.nd (pi_seqK (K := K) (pv 7)) (blkOk_by (own := [("_law_state", 8)]) (N := N_l_least) (sc := defScope s_l_least) (by decide +kernel)) (fun _ _ _ _ _ => (pg_name (i := 8) sc_l_least.nd rfl (by first | exact Or.inl rfl | exact Or.inr rfl))) (fun _ _ _ _ _ => pts_nil) (fun _ _ _ _ _ => (pe_tupleOfK (K := K) rfl T.tuple (pe_lc (own := [("_law_to", 4)]) rfl sc_l_least.nd (pi_seqK (K := K) (pe_ix (ixS (K := K)) (pv 0) (pv 8) (fun _ _ => rfl))) (blkOk_by (own := [("_law_to", 4)]) (N := N_l_least) (by dsimp only [compEnvC, relabel, cxOf, Cx.nox, Cx.wish, PyProof.Rows.envOfC, Env.kindOf]; exact rfl)) (fun _ _ _ _ _ => (pg_name (i := 4) sc_l_least.nd rfl (by first | exact Or.inl rfl | exact Or.inr rfl))) (fun _ _ _ _ _ => pts_nil) (fun _ _ _ _ _ => (pe_dget (hu_of hr) (pv 6) (pe_dget (hu_of hr) (pv 5) (pv 4) (fun _ _ => rfl)) (fun _ _ => rfl)))))))))
    (pss_one (ps_ret (pe_tup (pa_cons (pv 9) (pa_cons (pe_tupleOfK (K := K) rfl T.tuple (pe_lc (own := [("_law_k", 10)]) rfl sc_l_least.nd (pi_range1 rfl T.range (pa_cons (pe_callB (callLen (K := K)) (by rfl) T.len PySem.boot_len (pa_cons (pv 7) pa_nil)) pa_nil)) (blkOk_by (own := [("_law_k", 10)]) (N := N_l_least) (sc := defScope s_l_least) (by decide +kernel)) (fun _ _ _ _ _ => (pg_name (i := 10) sc_l_least.nd rfl (by first | exact Or.inl rfl | exact Or.inr rfl))) (fun _ _ _ _ _ => pts_one (pt_cmpR (opIn (K := K)) (pe_ix (ixL (K := K)) (pv 7) (pv 10) (fun _ _ => rfl)) (pv 1) rfl)) (fun _ _ _ _ _ => (pv 10)))) pa_nil))))))))))))), ?_⟩
    walk_at "ws"
    refine k_lst (by walk_at "sz") fun p H1 n1 e1 h1 => ?_
    walk_at "ws"
    let W (mm : Nat) (σ : L2.St) (H' : Hp) : Prop := ∃ (ss : List Nat) (i : Nat) (z z5 z6 z7 z8 z9 z10 : Option V), mm = Tb.length - i ∧ RJ H H' Tb kk p ss i ∧ σ = [some (.ref ta), some (.ref aa), some (.ref p), some (iv i), z, z5, z6, z7, z8, z9, z10]
    refine w_while W Tb.length ⟨[0], 0, _, _, _, _, _, _, _, by simp, ⟨e1, h1, by simp, rfl, by simpa using QM.Reach.zero, Nat.zero_le _, fun j q a hj => absurd hj (Nat.not_lt_zero _)⟩, rfl⟩ ?_
    rintro mm σ H3 ⟨ss, i, z, z5, z6, z7, z8, z9, z10, rfl, ⟨e3, h3, snd, s0, sr, hi, sc⟩, rfl⟩
    walk_at "ws"
    refine r_len (.inl (SqL.of h3)) ?_
    walk_at "ws"
    refine k_wh (fun hb => ?_) (fun hb => ?_)
    · have hlt : i < ss.length := by simpa using hb
      obtain ⟨q, hq⟩ : ∃ q, ss[i]? = some q := ⟨_, List.getElem?_eq_getElem hlt⟩
      have hqr : QM.Reach Tb kk q := sr q (List.mem_of_getElem? hq)
      have hqt := hqr.lt ht
      obtain ⟨ur, hur, br, ra, rfl, hra⟩ := htr _ _ (List.getElem?_eq_getElem hqt)
      have hrl := (ht.row _ (List.getElem_mem hqt)).1
      have hcell : ∀ a x, (Tb[q]'hqt)[a]? = some x → QM.cell Tb q a = x := fun a x hx => by
        unfold QM.cell
        rw [List.getD_eq_getElem?_getD (l := Tb), List.getElem?_eq_getElem hqt]
        show ((Tb[q]'hqt)).getD a 0 = x
        rw [List.getD_eq_getElem?_getD, hx]
        rfl
      walk_at "ws"
      refine r_ixL (SqL.of h3) (v := iv q) (by rw [List.getElem?_map, hq]; rfl) ?_
      refine r_ixS ((hta.ex e3).sq) hur ?_
      refine k_iS (hra.ex e3) ?_
      refine k_forS (fun j σ H' => ∃ (ss' : List Nat) (z : Option V), (∃ r, ss' = ss ++ r) ∧ RJ H H' Tb kk p ss' i ∧ (∀ a, a < j → QM.cell Tb q a ∈ ss') ∧ σ = [some (.ref ta), some (.ref aa), some (.ref p), some (iv i), z, z5, z6, z7, z8, z9, z10])
        ⟨ss, z, ⟨[], by simp⟩, ⟨e3, h3, snd, s0, sr, hi, sc⟩, fun a ha => absurd ha (Nat.not_lt_zero _), rfl⟩ (fun _ _ _ ⟨_, _, _, r, _⟩ => hra.ex r.1) ?_ ?_
      · rintro j x σ H4 hx ⟨ss', z', ⟨r, rfl⟩, ⟨e5, h5, snd', s0', sr', hi', sc'⟩, hj, rfl⟩
        obtain ⟨c, hc, rfl⟩ := at_map hx
        have hjk : j < kk := by rw [← hrl]; exact (List.getElem?_eq_some_iff.mp hc).1
        have hcr : QM.Reach Tb kk c := by rw [← hcell j c hc]; exact hqr.step hjk
        walk_at "ws"
        refine r_inN (t := true) (SqL.of h5) ?_
        walk_at "ws"
        by_cases hm' : c ∈ ss ++ r
        · rw [decide_eq_true hm']
          refine k_if (fun q => by simp at q) fun _ => ?_
          walk_at "ws"
          refine ⟨_, _, ⟨r, rfl⟩, ⟨e5, h5, snd', s0', sr', hi', sc'⟩, fun a ha => ?_, rfl⟩
          rcases Nat.lt_succ_iff_lt_or_eq.mp ha with ha | rfl
          · exact hj a ha
          · rw [hcell _ c hc]; exact hm'
        · rw [decide_eq_false hm']
          refine k_if (fun _ => ?_) (fun q => by simp at q)
          have hl' : (ss ++ r).length ≤ Tb.length := by
            have := QM.nodup_le snd' (m := List.range Tb.length) fun x hx => List.mem_range.mpr ((sr' x hx).lt ht)
            simpa using this
          walk_at "ws"
          refine k_bmL (SqL.of h5) ?_
          walk_at "ws"
          refine r_append h5 (by rw [sizeLine_eq, List.length_map]; omega) fun H6 m9 h9 => ?_
          walk_at "ws"
          refine ⟨ss ++ r ++ [c], _, ⟨r ++ [c], by simp⟩, ⟨m9.ex e5 n1, by rw [h9]; simp, ?_, ?_, ?_, by simp at hi' ⊢; omega, ?_⟩, fun a ha => ?_, rfl⟩
          · rw [List.nodup_append]
            exact ⟨snd', by simp, fun a ha b hb => by rw [List.mem_singleton.mp hb]; exact fun e => hm' (e ▸ ha)⟩
          · rw [List.getElem?_append_left (by have := (List.getElem?_eq_some_iff.mp s0').1; exact this)]
            exact s0'
          · intro x hx
            rcases List.mem_append.mp hx with hx | hx
            · exact sr' x hx
            · rw [List.mem_singleton.mp hx]; exact hcr
          · intro j' q' a hj' hq' ha
            have hlt' : j' < (ss ++ r).length := by simp at hi' ⊢; omega
            rw [List.getElem?_append_left hlt'] at hq'
            exact List.mem_append_left _ (sc' j' q' a hj' hq' ha)
          · rcases Nat.lt_succ_iff_lt_or_eq.mp ha with ha | rfl
            · exact List.mem_append_left _ (hj a ha)
            · rw [hcell _ c hc]; simp
      · rintro σ H4 ⟨ss', z', ⟨r, rfl⟩, ⟨e5, h5, snd', s0', sr', hi', sc'⟩, hj, rfl⟩
        walk_at "ws"
        have hl' : (ss ++ r).length ≤ Tb.length := by
          have := QM.nodup_le snd' (m := List.range Tb.length) fun x hx => List.mem_range.mpr ((sr' x hx).lt ht)
          simpa using this
        have hi2 : i + 1 ≤ (ss ++ r).length := by simp; omega
        refine ⟨Tb.length - (i + 1), by simp at hl'; omega, ss ++ r, i + 1, z', _, _, _, _, _, _, rfl, ⟨e5, h5, snd', s0', sr', hi2, ?_⟩, rfl⟩
        intro j' q' a hj' hq' ha
        rcases Nat.lt_succ_iff_lt_or_eq.mp hj' with hj' | rfl
        · exact sc' j' q' a hj' hq' ha
        · rw [List.getElem?_append_left hlt, hq] at hq'
          cases hq'
          exact hj a (by rw [List.length_map, hrl]; exact ha)
    · have hge : ¬ i < ss.length := by simpa using hb
      have hii : i = ss.length := by omega
      subst hii
      have hS : QM.Sts Tb kk ss := ⟨snd, s0, fun q => ⟨sr q, fun ⟨w', hw', e⟩ => by
        have : ∀ w', QM.Ok kk w' → QM.run Tb 0 w' ∈ ss := by
          refine QM.snocRec (p := fun w' => QM.Ok kk w' → QM.run Tb 0 w' ∈ ss) (fun _ => List.mem_of_getElem? s0) fun l a ih ho => ?_
          have h1 := ih fun b m => ho b (List.mem_append_left _ m)
          obtain ⟨j, hj, ej⟩ := List.mem_iff_getElem.mp h1
          rw [QM.run_app]
          exact sc j _ a hj (by rw [List.getElem?_eq_getElem hj, ej]) (ho a (by simp))
        rw [← e]
        exact this w' hw'⟩⟩
      have hsl : ss.length ≤ 6 := Nat.le_trans (sts_len ht hS) hT6
      walk_at "ws"
      refine ⟨.ref ta, .ref aa, p, Tb, Ac, kk, ss, rfl, hTS.ex e3, hAT.ex e3, h3, ht, hk4, hT6, hS, fun d c n H4 e4 h4 hCl => ?_⟩
      walk_at "ws"
      refine w_dnewK fun nu H5 n5 e5 h5 => ?_
      walk_at "ws"
      refine k_lst (by walk_at "sz") fun od H6 n6 e6 h6 => ?_
      have nno : nu ≠ od := ne_of_none h5 n6
      have e46 : Ex H4 H6 := e5.tr e6
      have hp6 : H6 p = _ := e46 _ _ (e4 _ _ h3)
      walk_at "ws"
      refine k_iS (b := true) (SqL.of hp6) ?_
      refine k_forS (fun j σ H' => ∃ (os : List Nat) (z4 z8 z9 z10 : Option V), Ex H4 H' ∧ H' nu = some (.dK (nuK (QM.firsts ((ss.take j).map c)))) ∧ H' od = some (.lst (os.map iv)) ∧ os.map c = QM.firsts ((ss.take j).map c) ∧ (∀ q ∈ os, q ∈ ss) ∧
          σ = [some (.ref ta), some (.ref aa), some (.ref p), some (iv ss.length), z4, some (.ref d), some (.ref nu), some (.ref od), z8, z9, z10])
        ⟨[], _, _, _, _, e46, by rw [e6 _ _ h5]; rfl, h6, rfl, (fun q hq => nomatch hq), rfl⟩ (fun _ _ _ ⟨_, _, _, _, _, r, _⟩ => SqL.of (r _ _ (e4 _ _ h3))) ?_ ?_
      · rintro j x σ H7 hx ⟨os, z4, z8, z9, z10, e7, h7, h8, hos, hss, rfl⟩
        obtain ⟨q, hq, rfl⟩ := at_map hx
        have hqs : q ∈ ss := List.mem_of_getElem? hq
        have htk : ss.take (j + 1) = ss.take j ++ [q] := by rw [List.take_add_one, hq]; rfl
        have hfl : (QM.firsts ((ss.take j).map c)).length ≤ 6 := by
          have := QM.nodup_le (QM.nodup_firsts ((ss.take j).map c)) (m := (ss.take j).map c) fun x hx => QM.mem_firsts.mp hx
          rw [List.length_map, List.length_take] at this
          omega
        have hol : os.length = (QM.firsts ((ss.take j).map c)).length := by rw [← hos, List.length_map]
        walk_at "ws"
        refine k_dg2K (e7 _ _ h4) (dkN_get hqs) ?_
        walk_at "ws"
        refine k_di2K h7 ?_
        rw [nuK_get (QM.nodup_firsts _)]
        walk_at "ws"
        by_cases hm : c q ∈ QM.firsts ((ss.take j).map c)
        · rw [if_pos hm]
          refine k_if (fun z => by cases z) fun _ => ?_
          have hfe : QM.firsts ((ss.take (j + 1)).map c) = QM.firsts ((ss.take j).map c) := by
            rw [htk, List.map_append]; exact QM.firsts_in hm
          refine ⟨os, _, _, _, _, e7, by rw [hfe]; exact h7, h8, by rw [hfe]; exact hos, hss, rfl⟩
        · rw [if_neg hm]
          refine k_if (fun _ => ?_) fun z => by cases z
          have hfe : QM.firsts ((ss.take (j + 1)).map c) = QM.firsts ((ss.take j).map c) ++ [c q] := by
            rw [htk, List.map_append]; exact QM.firsts_out hm
          walk_at "ws"
          refine r_len (.inl (SqL.of h8)) ?_
          walk_at "ws"
          refine k_dg2K (e7 _ _ h4) (dkN_get hqs) ?_
          refine k_dp3K h7 (by rw [sizeLine_eq, nuK, List.length_map, List.length_zipIdx, List.length_map]; omega) fun H8 m8 h9 => ?_
          rw [List.length_map, hol, nuK_snoc hm] at h9
          have h10 := m8 _ _ (Ne.symm nno) h8
          walk_at "ws"
          refine k_bmL (SqL.of h10) ?_
          walk_at "ws"
          refine r_append h10 (by rw [sizeLine_eq, List.length_map]; omega) fun H9 m9 h11 => ?_
          walk_at "ws"
          refine ⟨os ++ [q], _, _, _, _, m9.ex (m8.ex e7 n5) (e5.back n6), by rw [hfe]; exact m9 _ _ nno h9, by rw [h11, List.map_append]; rfl, by rw [List.map_append, hos, hfe]; rfl, fun x hx => ?_, rfl⟩
          rcases List.mem_append.mp hx with hx | hx
          · exact hss x hx
          · rw [List.mem_singleton.mp hx]; exact hqs
      · rintro σ H7 ⟨os, z4, z8, z9, z10, e7, h7, h8, hos, hss, rfl⟩
        have hall : (ss.take (ss.map iv).length) = ss := by simp
        rw [hall] at h7 hos
        have hol : os.length ≤ 6 := by
          have h1 : os.length = (QM.firsts (ss.map c)).length := by rw [← hos, List.length_map]
          have := QM.nodup_le (QM.nodup_firsts (ss.map c)) (m := ss.map c) fun x hx => QM.mem_firsts.mp hx
          rw [List.length_map] at this
          omega
        have hget : ∀ y ∈ ss, valV (nuK (QM.firsts (ss.map c))) (Sum.inl (c y : Int)) = some (iv (QM.num ss c y)) := fun y hy => by
          rw [nuK_get (QM.nodup_firsts _), if_pos (QM.mem_firsts.mpr (List.mem_map.mpr ⟨y, hy, rfl⟩))]
          rfl
        have e37 : Ex H H7 := (e3.tr e4).tr e7
        let R : List (List Nat) := os.map fun q => (Tb.getD q []).map (QM.num ss c)
        walk_at "ws"
        refine k_iS (b := true) (SqL.of h8) ?_
        refine k_lcS (by rw [List.length_map]; omega) (fun Dl j y H' => ∃ r, R[j]? = some r ∧ TupN H' y r) (SqL.of h8) (fun Dl j y Ha Hb hl mm ⟨r, h1, h2⟩ => ⟨r, h1, h2.tp (mm.tp fun xs q => by obtain ⟨l, hl⟩ := hl; rw [hl] at q; cases q)⟩) (fun Dl j x H8 Qc hj e8 nDl hDl kq => ?_) fun Dl H8 us8 n8 e8 hD8 hl8 hr8 => ?_
        · obtain ⟨q, hq, rfl⟩ := at_map hj
          have hqs := hss q (List.mem_of_getElem? hq)
          obtain ⟨hqT, hqr, hrl, hstep⟩ := tab_row ht hS hqs
          obtain ⟨u, hu, b, ua, rfl, hua⟩ := htr _ _ hqr
          have hua8 := hua.ex (e37.tr e8)
          walk_at "ws"
          refine r_ixS ((hta.ex (e37.tr e8)).sq) hu ?_
          refine k_iS hua8 ?_
          refine k_lcSP (by rw [List.length_map, hrl]; omega) ((Tb.getD q []).map fun x => iv (QM.num ss c x)) (by simp) hua8 (fun jj x H9 Qc2 hx e9 k9 => ?_) fun l H9 n9 e9 h9 => ?_
          · obtain ⟨y, hy, rfl⟩ := at_map hx
            have hys := hstep y (List.mem_of_getElem? hy)
            walk_at "ws"
            refine k_dg2K (e9 _ _ (e8 _ _ (e7 _ _ h4))) (dkN_get hys) ?_
            refine k_dg2K (e9 _ _ (e8 _ _ h7)) (hget y hys) ?_
            exact k9 _ _ (by rw [List.getElem?_map, hy]; rfl) Ex.rfl'
          · refine k_tupleL (SqL.of h9) fun tp H10 n10 e10 h10 => ?_
            exact kq _ _ (e9.tr e10) ⟨_, by rw [List.getElem?_map, hq]; rfl, tp, rfl, by rw [h10, List.map_map]; rfl⟩
        refine k_tupleL (SqL.of hD8) fun rt H9 n9 e9 h9 => ?_
        have hRl : R.length = os.length := by simp [R]
        have hR9 : TabT H9 (.ref rt) R := ⟨rt, us8, rfl, h9, by rw [hl8, List.length_map, hRl], fun i r hr => by
          have hi : i < us8.length := by
            rw [hl8, List.length_map, ← hRl]
            exact (List.getElem?_eq_some_iff.mp hr).1
          obtain ⟨r', h1, h2⟩ := hr8 i _ (List.getElem?_eq_getElem hi)
          rw [hr] at h1
          cases h1
          exact ⟨_, List.getElem?_eq_getElem hi, h2.ex e9⟩⟩
        have h89 := e9 _ _ (e8 _ _ h8)
        walk_at "ws"
        refine r_len (.inl (SqL.of h89)) ?_
        rw [List.length_map]
        refine k_iR (by omega) ?_
        refine k_lcF walk_rng (by omega) (fun j => decide (os.getD j 0 ∈ Ac)) (fun j => iv j) (fun _ _ => trivial) (fun j x H10 H11 Qb Qc hj hY e10 kq kb => ?_) fun Dl2 H10 n10 e10 h10 => ?_
        · obtain ⟨rfl, rfl⟩ := hY
          walk_at "ws"
          refine r_ixL (n := j) (SqL.of (e10 _ _ h89)) (at_iv hj) ?_
          walk_at "ws"
          refine r_inN (t := false) (SqT.of (e10 _ _ (e9 _ _ (e8 _ _ (e37 _ _ haa))))) ?_
          walk_at "ws"
          by_cases hs : os.getD j 0 ∈ Ac
          · rw [decide_eq_true hs]
            show tVar _ _ _ _
            walk_at "ws"
            exact kq _ (decide_eq_true hs) Ex.rfl'
          · rw [decide_eq_false hs]
            exact kb _ (decide_eq_false hs) Ex.rfl'
        refine k_tupleL (SqL.of h10) fun yt H11 n11 e11 h11 => ?_
        walk_at "ws"
        refine k_tup (by walk_at "sz") fun rp H12 n12 e12 h12 => ?_
        have e912 : Ex H9 H12 := (e10.tr e11).tr e12
        refine k rp (.ref rt) (.ref yt) R ((List.range os.length).filter fun j => decide (os.getD j 0 ∈ Ac)) H12 ((e37.tr (e8.tr e9)).tr e912) (hR9.ex e912) (QM.least_firsts ht hS hCl hos hss) (by omega) ⟨yt, rfl, e12 _ _ h11⟩ h12
end

/-! ## law -/
section
variable {P : Program} {w : World} {K : PySem.W.Frag} {mg : Str → Option Value} {base : Heap}
abbrev N_law : List Str := ["_law_script", "_law_hand_here", "_law_letters", "_law_table", "_law_accepts", "_law_rows_here", "_law_yes", "_law_words", "_law_known", "_law_machine", "_law_lots_here", "_law_kinds", "_law_lot", "_law_goal", "_law_due_here", "_law_found", "_law_odd"]
theorem sc_law : FnScope N_law ["_law_script"] (defScope s_law) := ⟨rfl, rfl, rfl, by decide +kernel, rfl, by decide +kernel, by decide +kernel⟩
theorem ok_law {f : Addr} {fd : FuncData} {P0 : Addr} (F : FnP K "law" s_law f fd) (T : Txt K mg)
    (k_l_hand : Kn P w K mg base CX0 1 "_law_hand" ["_law_script"] (sp_hand K))
    (k_l_field : Kn P w K mg base CX0 6 "_law_field" ["_law_hand_here", "_law_most", "_law_states", "_law_acts"] (sp_l_field K))
    (k_Machine_init : Kc P w K mg base CX0 4 (aM K) "Machine" ["self", "letters", "table", "accepts"] (sp_Machine_init (aM K)))
    (k_l_lots : Kn P w K mg base CX0 1 "_law_lots" ["_law_letters"] sp_l_lots)
    (k_l_kind_without : Kn P w K mg base CX0 5 "_law_kind_without" ["_law_letters", "_law_table", "_law_accepts", "_law_lot"] sp_l_kind_without)
    (k_l_shuffled : Kn P w K mg base CX0 2 "_law_shuffled" ["_law_hand_here", "_law_things"] (sp_shuffled K))
    (k_l_due : Kn P w K mg base CX0 2 "_law_due" ["_law_kinds", "_law_lots_here", "_law_goal"] sp_l_due)
    (k_quiet : Kn P w K mg base CX0 13 "quiet" ["machine", "goal"] (sp_quiet K P0))
    (k_l_place : Kn P w K mg base CX0 1 "_law_place" ["_law_told"] sp_l_place)
    (k_kind : Kn P w K mg base CX0 12 "kind" ["machine"] (sp_kind K P0))
    (k_without : Kn P w K mg base CX0 6 "without" ["machine", "letters"] (sp_without K))
    (k_l_is_refused : Kn P w K mg base CX0 14 "_law_is_refused" ["_law_machine", "_law_thing"] (sp_is_refused K))
    (k_l_draw : Kn P w K mg base CX0 1 "_law_draw" ["_law_hand_here", "_law_many"] (sp_draw K)) :
    FnOk P w K mg base CX0 15 f fd ["_law_script"] (sp_law K P0) := by
  refine F.ok sc_law (fun vs H Q E h => ?_) (fun cdv A outer s H vs Q E hr h => ?_)
  · obtain ⟨a, ns, rfl, _⟩ := h
    rfl
  · obtain ⟨a, ns, rfl, ha, hT, k⟩ := h
    refine ⟨_, PSs.nox (pss_cons (ps_set (i := 1) sc_law.nd rfl (Or.inl rfl) (pe_kn k_l_hand (hr.mono (by decide)) rfl (pa_cons (pv 0) pa_nil)))
    (pss_cons (ps_asg (pe_kn k_l_field (hr.mono (by decide)) rfl (pa_cons (pv 1) (pa_cons pe_int (pa_cons pe_int (pa_cons pe_int pa_nil))))) (pg_tupK (K := K) (n := 7) rfl (pgs_cons (pg_name (i := 2) sc_law.nd rfl (by first | exact Or.inl rfl | exact Or.inr rfl)) (pgs_cons (pg_name (i := 3) sc_law.nd rfl (by first | exact Or.inl rfl | exact Or.inr rfl)) (pgs_cons (pg_name (i := 4) sc_law.nd rfl (by first | exact Or.inl rfl | exact Or.inr rfl)) (pgs_cons (pg_name (i := 5) sc_law.nd rfl (by first | exact Or.inl rfl | exact Or.inr rfl)) (pgs_cons (pg_name (i := 6) sc_law.nd rfl (by first | exact Or.inl rfl | exact Or.inr rfl)) (pgs_cons (pg_name (i := 7) sc_law.nd rfl (by first | exact Or.inl rfl | exact Or.inr rfl)) (pgs_cons (pg_name (i := 8) sc_law.nd rfl (by first | exact Or.inl rfl | exact Or.inr rfl)) pgs_nil)))))))))
    (pss_cons (ps_set (i := 9) sc_law.nd rfl (Or.inl rfl) (pe_mk k_Machine_init (hr.mono (by decide)) rfl (pa_cons (pv 2) (pa_cons (pv 3) (pa_cons (pv 4) pa_nil)))))
    (pss_cons (ps_set (i := 10) sc_law.nd rfl (Or.inl rfl) (pe_slice (slL (K := K)) (pe_op op_cat (pe_lst (pa_cons pe_str pa_nil)) (pe_kn k_l_lots (hr.mono (by decide)) rfl (pa_cons (pv 2) pa_nil))) po_none (po_some (pe_un un_neg pe_int))))
    (pss_cons (ps_set (i := 11) sc_law.nd rfl (Or.inl rfl) pe_dnewK)
    (pss_cons (ps_for PassesOwn.never rfl (pi_seqK (K := K) (pv 10)) (pg_name (i := 12) sc_law.nd rfl (by first | exact Or.inl rfl | exact Or.inr rfl))
    (pss_one (ps_dput (hu_of hr) (pv 11) (pv 12) (pe_kn k_l_kind_without (hr.mono (by decide)) rfl (pa_cons (pv 2) (pa_cons (pv 3) (pa_cons (pv 4) (pa_cons (pv 12) pa_nil))))) rfl)))
    (pss_cons (ps_for PassesOwn.never rfl (pi_seqK (K := K) (pe_kn k_l_shuffled (hr.mono (by decide)) rfl (pa_cons (pv 1) (pa_cons (pe_lst (pa_cons pe_str (pa_cons pe_str pa_nil))) pa_nil)))) (pg_name (i := 13) sc_law.nd rfl (by first | exact Or.inl rfl | exact Or.inr rfl))
    (pss_cons (ps_set (i := 14) sc_law.nd rfl (Or.inl rfl) (pe_kn k_l_due (hr.mono (by decide)) rfl (pa_cons (pv 11) (pa_cons (pv 10) (pa_cons (pv 13) pa_nil)))))
    (pss_cons (ps_set (i := 15) sc_law.nd rfl (Or.inl rfl) (pe_kn k_quiet (hr.mono (by decide)) rfl (pa_cons (pv 9) (pa_cons (pv 13) pa_nil))))
    (pss_cons (ps_if (PW.pt (pw_or (pt_not (pt_val (pe_callB (callIsi (K := K)) (by rfl) T.isinstance (by decide +kernel) (pa_cons (pv 15) (pa_cons (T.ty_list rfl) pa_nil))))) (pw_or1 (pt_cmpR (opNeD (K := K) hr.units) (pv 15) (pv 14) (nomark _)))))
    (pss_one (ps_ret pe_bl))
    pss_nil)
    (pss_cons (ps_for PassesOwn.never rfl (pi_seqK (K := K) (pv 15)) (pg_name (i := 12) sc_law.nd rfl (by first | exact Or.inl rfl | exact Or.inr rfl))
    (pss_one (ps_if (pt_cmpR op_gt (pe_kn k_l_place (hr.mono (by decide)) rfl (pa_cons (pe_kn k_kind (hr.mono (by decide)) rfl (pa_cons (pe_kn k_without (hr.mono (by decide)) rfl (pa_cons (pv 9) (pa_cons (pv 12) pa_nil))) pa_nil)) pa_nil)) (pe_kn k_l_place (hr.mono (by decide)) rfl (pa_cons (pv 13) pa_nil)) (nomark _))
    (pss_one (ps_ret pe_bl))
    pss_nil)))
    (pss_cons (ps_expr (pe_bmK (K := K) PySem.F.plainAttrs_list PySem.F.slot_list_append PySem.F.type_list_append mt_append (pv 15) (pa_cons pe_str pa_nil)))
    (pss_cons (ps_asg pe_str (pg_sub (pv 15) pe_int set_list))
    (pss_cons (ps_if (pt_cmpR (opNeD (K := K) hr.units) (pe_kn k_quiet (hr.mono (by decide)) rfl (pa_cons (pv 9) (pa_cons (pv 13) pa_nil))) (pv 14) (nomark _))
    (pss_one (ps_ret pe_bl))
    pss_nil)
    (pss_cons (ps_set (i := 16) sc_law.nd rfl (Or.inl rfl) (pe_lst (pa_cons pe_str (pa_cons pe_str (pa_cons pe_str (pa_cons pe_str (pa_cons pe_str (pa_cons pe_non (pa_cons pe_int (pa_cons pe_int (pa_cons pe_bl (pa_cons (pe_lst (pa_cons (pv 13) pa_nil)) (pa_cons (pe_tup (pa_cons (pv 13) pa_nil)) (pa_cons pe_dnewK (pa_cons pe_str pa_nil)))))))))))))))
    (pss_one (ps_if (pt_not (pt_val (pe_kn k_l_is_refused (hr.mono (by decide)) rfl (pa_cons (pv 9) (pa_cons (pe_ix (ixL (K := K)) (pv 16) (pe_kn k_l_draw (hr.mono (by decide)) rfl (pa_cons (pv 1) (pa_cons pe_int pa_nil))) (fun _ _ => rfl)) pa_nil)))))
    (pss_one (ps_ret pe_bl))
    pss_nil)))))))))))
    (pss_one (ps_ret (pe_cmpR op_eq (pe_kn k_kind (hr.mono (by decide)) rfl (pa_cons (pv 9) pa_nil)) (pe_dget (hu_of hr) (pv 11) pe_str (fun _ _ => rfl)) (nomark _))))))))))), ?_⟩
    walk_at "ws"
    refine ⟨a, ns, rfl, ha, fun h c H1 e1 nh nc hH1 => ?_⟩
    walk_at "ws"
    refine ⟨h, c, rfl, hH1, fun p cs tv av rv yv wv dv Tb Ac H2 hLM m2 hH2 hTv hAv hp => ?_⟩
    refine ⟨p, _, rfl, SqT.of hp, rfl, _, _, rfl, _, _, rfl, _, _, rfl, _, _, rfl, _, _, rfl, _, _, rfl, _, _, rfl, rfl, ?_⟩
    walk_at "ws"
    have hM := hLM.md
    have one := hM.one
    have four := hM.four
    have hnd := hM.nodup
    obtain ⟨tb, tus, rfl, htb, htl, htr⟩ := id hTv
    obtain ⟨ac, rfl, hac⟩ := id hAv
    obtain ⟨_, _, _, _, _, hh1, _⟩ := id hH1
    obtain ⟨_, _, _, _, _, hh2, _⟩ := id hH2
    have hT2 : LamX.Tabs [(P0, qLam)] H2 := tabs_moL (hT.ext e1) hh1 m2
    refine k_make fun m dx H3 nm ndx nmd e3 h3 h3d => ?_
    refine ⟨m, dx, tb, ac, cs, Tb, Ac, rfl, h3, hTv.ex e3, hAv.ex e3, hM, hLM.abc, hLM.asc, hLM.lt, fun lo mo H4 nlo nmo nlm m4 h4 hlo4 hmo4 => ⟨rfl, ?_⟩⟩
    have e24 : Ex H2 H4 := m4.ex e3 nm
    have nm1 : H1 m = none := by
      cases hh : H1 m with
      | none => rfl
      | some o =>
        have : m ≠ h := fun e => by rw [e, hh2] at nm; cases nm
        rw [m2 _ _ this hh] at nm
        cases nm
    walk_at "ws"
    refine k_lst (by walk_at "sz") fun l0 H5 n5 e5 h5 => ?_
    walk_at "ws"
    refine ⟨cs, rfl, hM.asc, one, four, fun lp H6 e6 h6 => ?_⟩
    have hkl := QM.lotsK_len one four
    refine r_cat (e6 _ _ h5) h6 (by rw [sizeLine_eq, List.length_map]; simp; omega) fun lr H7 n7 e7 h7 => ?_
    walk_at "ws"
    refine r_slLm1 (SqL.of h7) fun lh H8 n8 e8 h8 => ?_
    have hlh8 : H8 lh = some (.lst (dueS cs (QM.lotsN cs.length))) := by
      rw [h8]
      show some (HO.lst (List.dropLast (dueS cs ([] :: QM.lotsK cs.length)))) = _
      unfold QM.lotsN
      rw [← List.map_dropLast]
    have e27 : Ex H2 H7 := ((e24.tr e5).tr e6).tr e7
    have e28 := e27.tr e8
    have nlh : lh ≠ h := fun e => by rw [e, e27 _ _ hh2] at n8; cases n8
    walk_at "ws"
    refine w_dnewK fun kd H9 n9 e9 h9 => ?_
    have e29 := e28.tr e9
    have e49 : Ex H4 H9 := ((((e5.tr e6).tr e7).tr e8).tr e9)
    let kf := QM.kfOf Tb Ac cs.length
    let lots := QM.lotsN cs.length
    have hlots := QM.lotsN_ok one four
    have hll : lots.length ≤ 15 := QM.lotsN_len one four
    have hlnd : lots.Nodup := QM.lotsN_nd one four
    have hlh9 := e9 _ _ hlh8
    walk_at "ws"
    refine k_iS (b := true) (SqL.of hlh9) ?_
    refine k_forS (fun i σ H' => ∃ (z12 z13 z14 z15 z16 : Option V), Ex H8 H' ∧ H' kd = some (.dK (kinK cs kf (lots.take i))) ∧ σ = [some (.ref a), some (.ref h), some (.str (sO cs)), some (.ref tb), some (.ref ac), some rv, some yv, some wv, some dv, some (.ref m), some (.ref lh), some (.ref kd), z12, z13, z14, z15, z16])
      ⟨_, _, _, _, _, e9, h9, rfl⟩ (fun _ _ _ ⟨_, _, _, _, _, r, _⟩ => SqL.of (r _ _ hlh8)) ?_ ?_
    · rintro i x σ H10 hx ⟨z12, z13, z14, z15, z16, e10, hk10, rfl⟩
      obtain ⟨B, hB, rfl⟩ := at_map hx
      obtain ⟨hBs, hBk, hBl⟩ := hlots B (List.mem_of_getElem? hB)
      walk_at "ws"
      refine ⟨cs, .ref tb, .ref ac, Tb, Ac, B, rfl, hM, hTv.ex (e28.tr e10), hAv.ex (e28.tr e10), hBs, hBk, hBl, hLM.few, fun H11 e11 => ?_⟩
      walk_at "ws"
      refine k_dp3S (e11 _ _ hk10) (by rw [List.length_map, List.length_take, sizeLine_eq]; omega) fun H12 m12 h12 => ?_
      walk_at "ws"
      refine ⟨_, _, _, _, _, ?_, ?_, rfl⟩
      · exact m12.ex (e10.tr e11) n9
      · rw [h12, putK_new, List.take_add_one, hB]
        · conv => { rhs; rw [kinK, List.map_append] }
          rfl
        · intro hmem
          rw [List.map_map] at hmem
          obtain ⟨C, hC, e⟩ := List.mem_map.mp hmem
          have e : (Sum.inr (wO cs C) : Key) = Sum.inr (wO cs B) := e
          injection e with e
          have hCl := List.mem_of_mem_take hC
          have := wO_inj hnd (hlots C hCl).2.1 hBk e
          subst this
          exact takeL_not hlnd hB hC
    rintro σ H10 ⟨z12, z13, z14, z15, z16, e10, hk10, rfl⟩
    have hk10' : H10 kd = some (.dK (kinK cs kf lots)) := by
      rw [hk10]
      show some (HO.dK (kinK cs kf (lots.take (dueS cs lots).length))) = _
      rw [List.length_map, List.take_length]
    have e210 := e28.tr e10
    have e48 : Ex H4 H8 := (((e5.tr e6).tr e7).tr e8)
    have e410 := e48.tr e10
    have hlo10 := e410 _ _ hlo4
    have hmo10 := e410 _ _ hmo4
    have hlh10 := e10 _ _ hlh8
    obtain ⟨R0, hR0, hfew0⟩ := hLM.few
    let G : List (List Nat) → Prop := fun R => QM.Least Tb Ac cs.length R ∧ QM.Few R cs.length 10
    have hG : ∀ R, QM.Least Tb Ac cs.length R → G R := fun R l => ⟨l, few_same hR0 l hfew0⟩
    have hm10 : H10 m = _ := e410 _ _ h4
    have hMS10 : MS K H10 m lo mo cs Tb Ac G := .inl ⟨aM K, dx, tb, ac, hm10, T.cM, hTv.ex e210, hAv.ex e210⟩
    have hT10 := hT2.ext e210
    have hH10 : HandAt K H10 h c := hH2.ex e210
    walk_at "ws"
    refine k_lst (by walk_at "sz") fun g0 H11 n11 e11 h11 => ?_
    have ng0 : g0 ≠ h := fun e => by rw [e, e210 _ _ hh2] at n11; cases n11
    walk_at "ws"
    refine ⟨h, c, g0, _, rfl, hH10.ex e11, SqL.of h11, by simp, ng0, fun gl zs H12 hperm m12 hH12 h12 n12 => ?_⟩
    have hh11 := e11 _ _ (e210 _ _ hh2)
    have nmh : m ≠ h := fun e => by rw [e, hh2] at nm; cases nm
    have nkh : kd ≠ h := fun e => by rw [e, e28 _ _ hh2] at n9; cases n9
    have ngh : gl ≠ h := fun e => by rw [e, hh11] at n12; cases n12
    have nloh : lo ≠ h := fun e => by rw [e, e210 _ _ hh2] at hlo10; cases hlo10
    have nmoh : mo ≠ h := fun e => by rw [e, e210 _ _ hh2] at hmo10; cases hmo10
    have nkm : kd ≠ m := fun e => by rw [e, hm10] at hk10'; cases hk10'
    have nlm' : lh ≠ m := fun e => by rw [e, hm10] at hlh10; cases hlh10
    have nglm : gl ≠ m := fun e => by rw [e, e11 _ _ hm10] at n12; cases n12
    have nlom : lo ≠ m := fun e => by rw [e, hm10] at hlo10; cases hlo10
    have nmom : mo ≠ m := fun e => by rw [e, hm10] at hmo10; cases hmo10
    have nklo : kd ≠ lo := fun e => by rw [e, e48 _ _ hlo4] at n9; cases n9
    have nkmo : kd ≠ mo := fun e => by rw [e, e48 _ _ hmo4] at n9; cases n9
    have hneH : h ≠ kd ∧ h ≠ lh ∧ h ≠ gl ∧ h ≠ lo ∧ h ≠ mo := ⟨Ne.symm nkh, Ne.symm nlh, Ne.symm ngh, Ne.symm nloh, Ne.symm nmoh⟩
    have hneM : m ≠ kd ∧ m ≠ lh ∧ m ≠ gl ∧ m ≠ lo ∧ m ≠ mo := ⟨Ne.symm nkm, Ne.symm nlm', Ne.symm nglm, Ne.symm nlom, Ne.symm nmom⟩
    have hF12 : FX H12 kd lh gl lo mo (kinK cs kf lots) (dueS cs lots) zs := ⟨m12 _ _ nkh (e11 _ _ hk10'), m12 _ _ nlh (e11 _ _ hlh10), h12, m12 _ _ nloh (e11 _ _ hlo10), m12 _ _ nmoh (e11 _ _ hmo10)⟩
    have hT12 := tabs_moL (hT10.ext e11) hh11 m12
    have hMS12 : MS K H12 m lo mo cs Tb Ac G := (hMS10.exN (LamX.ExtN.of e11)).moH (hH10.ex e11) m12
    refine k_iS (b := true) (SqL.of h12) ?_
    refine k_forS (fun i σ H' => ∃ (z12 z13 z14 z15 z16 : Option V), FX H' kd lh gl lo mo (kinK cs kf lots) (dueS cs lots) zs ∧ HandAt K H' h c ∧ LamX.Tabs [(P0, qLam)] H' ∧ MS K H' m lo mo cs Tb Ac G ∧ σ = [some (.ref a), some (.ref h), some (.str (sO cs)), some (.ref tb), some (.ref ac), some rv, some yv, some wv, some dv, some (.ref m), some (.ref lh), some (.ref kd), z12, z13, z14, z15, z16])
      ⟨_, _, _, _, _, hF12, hH12, hT12, hMS12, rfl⟩ (fun _ _ _ ⟨_, _, _, _, _, r, _⟩ => SqL.of r.gl_) ?_ ?_
    · rintro i x σ H13 hx ⟨z12, z13, z14, z15, z16, hF13, hH13, hT13, hMS13, rfl⟩
      obtain ⟨g, hg, rfl⟩ := kS_of hperm hx
      walk_at "ws"
      have hk2 : ∀ B, kf B ≤ 2 := fun B => by
        obtain ⟨R1, l1⟩ : ∃ R1, QM.kd (QM.rst Tb (QM.leftL cs.length B)) Ac (QM.leftL cs.length B).length ≤ 2 ∧ R1 = R0 := ⟨R0, by
          unfold QM.kd
          split
          · exact QM.kdR_le _ _
          · exact Nat.le_refl _, rfl⟩
        exact l1.1
      let due := QM.dueL kf g lots
      have hdum : ∀ B ∈ due, B ∈ lots ∧ kf B ≤ g := QM.dueL_sub kf g lots
      have hdul : due.length ≤ 15 := Nat.le_trans (QM.dueL_len kf g lots) hll
      have hlay : ∀ s ∈ due.map (wO cs), PyData.canLay0 (.str s) = true := fun s hs => by
        obtain ⟨B, _, rfl⟩ := List.mem_map.mp hs
        exact lay_wO (fun x hx => (hLM.abc x hx).2) B
      refine ⟨cs, kd, lh, kf, g, rfl, hg, hnd, one, four, hF13.kd_, hF13.lh_, hk2, fun dp H14 e14 ndp hdp => ?_⟩
      have hMS14 := hMS13.exN (LamX.ExtN.of e14)
      have hF14 := hF13.exN (LamX.ExtN.of e14)
      have hH14 := hH13.ex e14
      obtain ⟨kl, kff, hmat, hLP, hFP⟩ := hMS14.use hG
      obtain ⟨_, _, _, _, hm14⟩ := hmat.ins
      walk_at "ws"
      refine ⟨m, cs, Tb, Ac, kl, kff, lo, mo, G, g, rfl, hg, hM, hmat, hLP, hFP, fun R h => h.2, fun R h => h.1, hT13.ext e14, fun L Fa R A' ws fo H15 H16 gR kp16 hm15 hL15 hF15 ex16 nfo15 _ hT16 hfo16 nfo14 => ?_⟩
      have ndm : dp ≠ m := fun e => by rw [e, hm14] at hdp; cases hdp
      have hdp16 : H16 dp = some (.lst (dueS cs due)) := kp16 _ _ (by simp [ndm]) hdp (fun _ z => nomatch z)
      have hF16 := hF14.kp kp16 fun x hx => by rw [List.mem_singleton.mp hx]; exact hneM
      have hH16 : HandAt K H16 h c := hH1.kpN hH14 kp16 fun x hx => by rw [List.mem_singleton.mp hx]; exact nm1
      have nfx := hF14.ne nfo14
      have ndf : dp ≠ fo := ne_of_none hdp nfo14
      walk_at "ws"
      refine r_isi (b := true) (.base (.lst hfo16)) (by decide +kernel) ?_
      walk_at "ws"
      refine k_or (fun z => by cases z) fun _ => ?_
      walk_at "ws"
      have hfo16' := hfo16
      have hdp16' := hdp16
      rw [dueS_eq] at hfo16' hdp16'
      refine r_neL hlay (SqL.of hfo16') (SqL.of hdp16') ?_
      walk_at "ws"
      refine k_if (fun z => by cases z) fun _ => ?_
      walk_at "ws"
      refine k_iS (b := true) (SqL.of hfo16) ?_
      refine k_forS (fun j σ H' => ∃ (z12 : Option V), LamX.ExtN H16 H' ∧ LamX.Tabs [(P0, qLam)] H' ∧ σ = [some (.ref a), some (.ref h), some (.str (sO cs)), some (.ref tb), some (.ref ac), some rv, some yv, some wv, some dv, some (.ref m), some (.ref lh), some (.ref kd), z12, some (.str (kS g)), some (.ref dp), some (.ref fo), z16])
        ⟨_, LamX.ExtN.refl _, hT16, rfl⟩ (fun _ _ _ ⟨_, r, _⟩ => SqL.of (r _ _ hfo16 (fun _ z => nomatch z))) ?_ ?_
      · rintro j y σ H17 hy ⟨z12, ex17, hT17, rfl⟩
        obtain ⟨B, hB, rfl⟩ := at_map hy
        obtain ⟨hBl, hBg⟩ := hdum B (List.mem_of_getElem? hB)
        obtain ⟨hBs, hBk, hBn⟩ := hlots B hBl
        walk_at "ws"
        refine ⟨m, cs, Tb, Ac, _, _, lo, mo, B, rfl, hM, (hm15.exN ex16).exN ex17, hBs, hBk, hBn, fun L2 R2 A2 H18 hR2 e18 hFr hMD2 => ?_⟩
        walk_at "ws"
        obtain ⟨nL2, lo2, mo2, nlo2, nmo2, nlm2, hmat18, hlo18, hmo18⟩ := hFr
        have hLeft : ((QM.leftL cs.length B).map fun a => cs.getD a 0).length = (QM.leftL cs.length B).length := List.length_map _
        have hlt2 : ∀ p ∈ QM.leftL cs.length B, p < cs.length := QM.leftL_lt
        have few2 : QM.Few R2 (QM.leftL cs.length B).length 10 := QM.few_rst hM.t hlt2 gR.1 hR2 gR.2
        refine ⟨L2, _, R2, A2, _, _, lo2, mo2, fun R' => R' = R2, rfl, hMD2, hmat18, .inr ⟨L2, R2, A2, rfl, ⟨hMD2, _, _, _, hmat18⟩, rfl⟩, .inl rfl, fun R' e => by rw [e, hLeft]; exact few2, hlo18, hmo18, nlm2, hT17.ext e18, fun R' H19 eR kp19 hT19 => ?_⟩
        subst eR
        rw [hLeft]
        have hkd : kf B = QM.kdR R' (QM.leftL cs.length B).length := QM.kd_of hR2
        rw [← hkd]
        have kp179 : Kp [] H17 H19 := Kp.drop (S' := []) (Kp.ex e18) kp19 (fun x hx => .inr (by
          simp only [List.mem_cons, List.mem_nil_iff, or_false] at hx
          rcases hx with rfl | rfl | rfl
          · exact nL2
          · exact nlo2
          · exact nmo2))
        walk_at "ws"
        refine ⟨kf B, rfl, hk2 B, fun H20 e20 => ?_⟩
        walk_at "ws"
        refine ⟨g, rfl, by omega, fun H21 e21 => ?_⟩
        walk_at "ws"
        rw [show decide ((g : Int) < (kf B : Int)) = false from decide_eq_false (by omega)]
        refine k_if (fun z => by cases z) fun _ => ?_
        walk_at "ws"
        exact ⟨_, ex17.trans (kp179.extN.trans (LamX.ExtN.of (e20.tr e21))), (hT19.ext e20).ext e21, rfl⟩
      · rintro σ H17 ⟨z12, ex17, hT17, rfl⟩
        have hfo17 := ex17 _ _ hfo16 (fun _ z => nomatch z)
        have hdp17 := ex17 _ _ hdp16 (fun _ z => nomatch z)
        have hF17 := hF16.exN ex17
        have hH17 : HandAt K H17 h c := hH16.kp (S := []) (Kp.exN ex17) (fun z => nomatch z) (fun z => nomatch z)
        have ex1517 := ex16.trans ex17
        walk_at "ws"
        refine k_bmL (SqL.of hfo17) ?_
        walk_at "ws"
        refine r_append hfo17 (by rw [List.length_map, sizeLine_eq]; have : (QM.dueL (QM.kfOf Tb Ac cs.length) g (QM.lotsN cs.length)).length ≤ 15 := hdul; omega) fun H18 m18 h18 => ?_
        walk_at "ws"
        refine k_setL0 (j := 0) h18 (by simp) rfl fun H19 m19 h19 => ?_
        have hF19 := (hF17.mo m18 nfx).mo m19 nfx
        have hH19 : HandAt K H19 h c := hH14.moN (hH14.moN hH17 m18 nfo14) m19 nfo14
        have hdp19 := m19 _ _ ndf (m18 _ _ ndf hdp17)
        have ex1519 := extN_mo (extN_mo ex1517 m18 nfo15) m19 nfo15
        have hT19 := tabs_moL (tabs_moL hT17 hfo17 m18) h18 m19
        have hL19 := hL15.exN ex1519
        have hF19' := hF15.exN ex1519
        walk_at "ws"
        refine ⟨m, cs, Tb, Ac, _, _, lo, mo, G, g, rfl, hg, hM, hm15.exN ex1519, .inr ⟨L, R, A', rfl, hL19, gR⟩, .inr ⟨Fa, L, R, A', ws, rfl, rfl, hL19, hF19', gR⟩, fun R h => h.2, fun R h => h.1, hT19, fun L3 F3 R3 A3 ws3 fo3 H20 H21 gR3 kp21 hm20 hL20 hF20 ex21 nfo20 hex hT21 hfo21 nfo19 => ?_⟩
        have ex1921 : LamX.ExtN H19 H21 := hex (fun z => by cases z)
        have hdp21 := ex1921 _ _ hdp19 (fun _ z => nomatch z)
        have hfo21' := hfo21
        have hdp21' := hdp21
        rw [dueS_eq] at hfo21' hdp21'
        walk_at "ws"
        refine r_neL hlay (SqL.of hfo21') (SqL.of hdp21') ?_
        walk_at "ws"
        refine k_if (fun z => by cases z) fun _ => ?_
        walk_at "ws"
        refine k_lst (by walk_at "sz") fun o1 H22 n22 e22 h22 => ?_
        walk_at "ws"
        refine k_tup (by walk_at "sz") fun o2 H23 n23 e23 h23 => ?_
        walk_at "ws"
        refine w_dnewK fun o3 H24 n24 e24 h24 => ?_
        walk_at "ws"
        refine k_lst (by walk_at "sz") fun od H25 n25 e25 h25 => ?_
        have e2125 : Ex H21 H25 := ((e22.tr e23).tr e24).tr e25
        have ex1925 := ex1921.trans (LamX.ExtN.of e2125)
        have hH25 : HandAt K H25 h c := hH19.kp (S := []) (Kp.exN ex1925) (fun z => nomatch z) (fun z => nomatch z)
        have hF25 := hF19.exN ex1925
        have ho1 := e25 _ _ (e24 _ _ (e23 _ _ h22))
        have ho2 := e25 _ _ (e24 _ _ h23)
        have ho3 := e25 _ _ h24
        obtain ⟨_, _, _, _, _, hh25, _⟩ := id hH25
        walk_at "ws"
        refine ⟨h, c, 13, rfl, hH25, by omega, by omega, fun d H26 hd m26 hH26 => ?_⟩
        have nh1 : o1 ≠ h := fun e => by rw [e, hh25] at ho1; cases ho1
        have nh2 : o2 ≠ h := fun e => by rw [e, hh25] at ho2; cases ho2
        have nh3 : o3 ≠ h := fun e => by rw [e, hh25] at ho3; cases ho3
        have nhd : od ≠ h := fun e => by rw [e, hh25] at h25; cases h25
        have ho1 := m26 _ _ nh1 ho1
        have ho2 := m26 _ _ nh2 ho2
        have ho3 := m26 _ _ nh3 ho3
        have hod := m26 _ _ nhd h25
        have hbad : ∃ v, ([.str "length", .str "none", .str "", .str "Fixed", .str "fixed ", .non, .int 0, .int 1, .bl true, .ref o1, .ref o2, .ref o3, .str "digit"] : List V)[d]? = some v ∧ BadG K H26 v := by
          match d, hd with
          | 0, _ => exact ⟨_, rfl, .inl ⟨_, rfl, by decide +kernel, by decide +kernel⟩⟩
          | 1, _ => exact ⟨_, rfl, .inl ⟨_, rfl, by decide +kernel, by decide +kernel⟩⟩
          | 2, _ => exact ⟨_, rfl, .inl ⟨_, rfl, by decide +kernel, by decide +kernel⟩⟩
          | 3, _ => exact ⟨_, rfl, .inl ⟨_, rfl, by decide +kernel, by decide +kernel⟩⟩
          | 4, _ => exact ⟨_, rfl, .inl ⟨_, rfl, by decide +kernel, by decide +kernel⟩⟩
          | 5, _ => exact ⟨_, rfl, .inr ⟨_, .base .non, by decide +kernel⟩⟩
          | 6, _ => exact ⟨_, rfl, .inr ⟨_, .base (.int _), by decide +kernel⟩⟩
          | 7, _ => exact ⟨_, rfl, .inr ⟨_, .base (.int _), by decide +kernel⟩⟩
          | 8, _ => exact ⟨_, rfl, .inr ⟨_, .base (.bl _), by decide +kernel⟩⟩
          | 9, _ => exact ⟨_, rfl, .inr ⟨_, .base (.lst ho1), by decide +kernel⟩⟩
          | 10, _ => exact ⟨_, rfl, .inr ⟨_, .base (.tup ho2), by decide +kernel⟩⟩
          | 11, _ => exact ⟨_, rfl, .inr ⟨_, .base (.dK ho3), by decide +kernel⟩⟩
          | 12, _ => exact ⟨_, rfl, .inl ⟨_, rfl, by decide +kernel, by decide +kernel⟩⟩
        obtain ⟨v, hv, hvb⟩ := hbad
        refine r_ixL (n := d) (SqL.of hod) hv ?_
        walk_at "ws"
        refine ⟨.ref m, v, rfl, hvb, fun H27 e27' => ?_⟩
        walk_at "ws"
        refine k_if (fun z => by cases z) fun _ => ?_
        walk_at "ws"
        have hMS21 : MS K H21 m lo mo cs Tb Ac G := .inr ⟨L3, F3, R3, A3, ws3, hm20.exN ex21, hL20.exN ex21, hF20.exN ex21, gR3⟩
        have hMS26 := (hMS21.exN (LamX.ExtN.of e2125)).moH hH25 m26
        exact ⟨_, _, _, _, _, (hF25.mo m26 hneH).exN (LamX.ExtN.of e27'), hH26.ex e27', (tabs_moL (hT21.ext e2125) hh25 m26).ext e27', hMS26.exN (LamX.ExtN.of e27'), rfl⟩
    · rintro σ H13 ⟨z12, z13, z14, z15, z16, hF13, hH13, hT13, hMS13, rfl⟩
      obtain ⟨kl, kff, hmat, hLP, hFP⟩ := hMS13.use hG
      walk_at "ws"
      refine ⟨m, cs, Tb, Ac, kl, kff, lo, mo, G, rfl, hM, hmat, hLP, hFP, fun R h => h.2, hF13.lo_, hF13.mo_, nlm, hT13, fun R H14 gR kp14 hT14 => ?_⟩
      walk_at "ws"
      have hk14 : H14 kd = some (.dK (kinK cs kf lots)) := kp14 _ _ (by simp [nkm, nklo, nkmo]) hF13.kd_ (fun _ z => nomatch z)
      have hl0 : lots[0]? = some [] := QM.four (p := fun k => (QM.lotsN k)[0]? = some []) rfl rfl rfl rfl one four
      have hkf0 : kf [] = QM.kdR R cs.length := by
        show QM.kd (QM.rst Tb (QM.leftL cs.length [])) Ac (QM.leftL cs.length []).length = _
        rw [QM.leftL_nil, QM.rst_all hM.t, List.length_range]
        exact QM.kd_of gR.1
      have hknd : ((kinK cs kf lots).map (·.1)).Nodup := by
        rw [List.map_map]
        refine List.pairwise_map.mpr (hlnd.imp_of_mem fun {B C} hB hC h e => h ?_)
        have e : (Sum.inr (wO cs B) : Key) = Sum.inr (wO cs C) := e
        injection e with e
        exact wO_inj hnd (hlots B hB).2.1 (hlots C hC).2.1 e
      refine k_dg2S hk14 (v := .str (kS (kf []))) (valV_nd hknd (j := 0) (by rw [List.getElem?_map, hl0]; rfl)) ?_
      walk_at "ws"
      rw [hkf0, decide_eq_true rfl]
      exact k _
end

end QP

set_option Elab.async false
set_option linter.all false
set_option maxRecDepth 100000
set_option maxHeartbeats 1000000
namespace QP
open PySem PySem.Spec PyProof.Rows L2
/-! ### the head's facts, as the walk asks them -/
section
variable {K : PySem.W.Frag} {mg : Str → Option Value} {h : Heap}
theorem txt_of (KX : K.In h) (G : h.Ns mainGlobals mg) (c : He.SaysD fa fn K) (e : He.tupB K "KINDS" [.str "fixed", .str "digits", .str "length"] = true) : Txt K mg where
  len := He.free_ok KX G (c.fact 61 (f := .free "len") rfl)
  range := He.free_ok KX G (c.fact 62 (f := .free "range") rfl)
  isinstance := He.free_ok KX G (c.fact 63 (f := .free "isinstance") rfl)
  sorted := He.free_ok KX G (c.fact 64 (f := .free "sorted") rfl)
  zip := He.free_ok KX G (c.fact 65 (f := .free "zip") rfl)
  tuple := He.free_ok KX G (c.fact 66 (f := .free "tuple") rfl)
  list := He.free_ok KX G (c.fact 67 (f := .free "list") rfl)
  int := He.free_ok KX G (c.fact 68 (f := .free "int") rfl)
  abs := He.free_ok KX G (c.fact 69 (f := .free "abs") rfl)
  min := He.free_ok KX G (c.fact 70 (f := .free "min") rfl)
  max := He.free_ok KX G (c.fact 71 (f := .free "max") rfl)
  all := He.free_ok KX G (c.fact 72 (f := .free "all") rfl)
  any := He.free_ok KX G (c.fact 73 (f := .free "any") rfl)
  str := He.free_ok KX G (c.fact 74 (f := .free "str") rfl)
  bool := He.free_ok KX G (c.fact 75 (f := .free "bool") rfl)
  MOST := He.int_ok KX G (c.fact 76 (f := .int "MOST_DEEDS" 100) rfl)
  SMALL := He.str_ok KX G (c.fact 77 (f := .str "SMALL" "abcdefghijklmnopqrstuvwxyz") rfl)
  KINDS := He.glo_ok KX G (c.fact 125 (f := .glo "KINDS") rfl)
  kinds := fun H => He.tupB_ok e H
  cM := ⟨He.cls_ok (c.fact 78 (f := .cls "Machine") rfl), He.noat_ok (c.fact 80 (f := .noat "Machine" "kept_letters") rfl), He.noat_ok (c.fact 81 (f := .noat "Machine" "kept_table") rfl), He.noat_ok (c.fact 82 (f := .noat "Machine" "kept_accepts") rfl), He.noat_ok (c.fact 83 (f := .noat "Machine" "kept_least") rfl), He.noat_ok (c.fact 84 (f := .noat "Machine" "kept_field") rfl), He.noat_ok (c.fact 85 (f := .noat "Machine" "kept_lots") rfl), He.noat_ok (c.fact 86 (f := .noat "Machine" "kept_more") rfl)⟩
  cR := ⟨He.cls_ok (c.fact 88 (f := .cls "RawMachine") rfl), He.noat_ok (c.fact 90 (f := .noat "RawMachine" "kept_letters") rfl), He.noat_ok (c.fact 91 (f := .noat "RawMachine" "kept_table") rfl), He.noat_ok (c.fact 92 (f := .noat "RawMachine" "kept_accepts") rfl), He.noat_ok (c.fact 93 (f := .noat "RawMachine" "kept_least") rfl), He.noat_ok (c.fact 94 (f := .noat "RawMachine" "kept_field") rfl), He.noat_ok (c.fact 95 (f := .noat "RawMachine" "kept_lots") rfl), He.noat_ok (c.fact 96 (f := .noat "RawMachine" "kept_more") rfl)⟩
  cF := ⟨He.cls_ok (c.fact 98 (f := .cls "Field") rfl), He.noat_ok (c.fact 100 (f := .noat "Field" "letters") rfl), He.noat_ok (c.fact 101 (f := .noat "Field" "words") rfl), He.noat_ok (c.fact 102 (f := .noat "Field" "deeds") rfl), He.noat_ok (c.fact 103 (f := .noat "Field" "number") rfl), He.noat_ok (c.fact 104 (f := .noat "Field" "by_letter") rfl)⟩
  cL := ⟨He.cls_ok (c.fact 110 (f := .cls "Lot") rfl), He.noat_ok (c.fact 112 (f := .noat "Lot" "lot") rfl), He.noat_ok (c.fact 113 (f := .noat "Lot" "field") rfl), He.noat_ok (c.fact 114 (f := .noat "Lot" "places") rfl), He.noat_ok (c.fact 115 (f := .noat "Lot" "full_words") rfl), He.noat_ok (c.fact 116 (f := .noat "Lot" "made") rfl), He.noat_ok (c.fact 117 (f := .noat "Lot" "core") rfl)⟩
theorem nk_of (KX : K.In h) (G : h.Ns mainGlobals mg) (c : He.SaysD fa fn K) (e : nkB K = true) : NkC K mg := by
  obtain ⟨e1, e⟩ := He.ba e
  obtain ⟨e2, e⟩ := He.ba e
  obtain ⟨e3, e⟩ := He.ba e
  obtain ⟨e4, e⟩ := He.ba e
  obtain ⟨e5, e⟩ := He.ba e
  obtain ⟨e6, e⟩ := He.ba e
  obtain ⟨e7, e8⟩ := He.ba e
  obtain ⟨x1, x2, x3, x4⟩ := He.exc_ok (c.fact 124 (f := .exc "NoKind") rfl)
  exact ⟨He.glo_ok KX G (c.fact 56 (f := .glo "NoKind") rfl), He.glo_ok KX G (c.fact 55 (f := .glo "SaidError") rfl), x1, x2, x3, x4, He.exm_ok (c.fact 123 (f := .exm "NoKind" "SaidError" true) rfl), ⟨He.eqO_ok e1, He.eqO_ok e2, x3, e3, He.eqO_ok e4, He.eqO_ok e5, of_decide_eq_true e6, of_decide_eq_true e7⟩, of_decide_eq_true e8⟩
theorem kd_of (e : kdB K = true) : ∃ o, K.lookup (He.ga K "KINDS") = some o ∧ o.cls = .type "tuple" ∧ o.dict = none := by
  unfold kdB at e
  cases q : K.lookup (He.ga K "KINDS") with
  | none =>
    rw [q] at e
    cases e
  | some o =>
    obtain ⟨oc, od, dt, osl⟩ := o
    rw [q] at e
    cases oc with
    | type c =>
      cases od with
      | none => exact ⟨_, rfl, congrArg Value.type (of_decide_eq_true e), rfl⟩
      | some d => cases e
    | _ => cases od <;> cases e
end
/-! ### every def's promise, joined -/
theorem all_ok {P : Program} {w : World} {K : PySem.W.Frag} {mg : Str → Option Value} {h base : Heap} {fd_law : FuncData} (KX : K.In h) (G : h.Ns mainGlobals mg) (c : He.SaysD fa fn K) (e : ex K = true) (F_law : FnP K "law" s_law (He.fAd K ("law", none)) fd_law)
    (TB : LamX.TabB base mg (He.cT K ("lots_of", none)).1 (He.cT K ("lots_of", none)).2) : FnOk P w K mg base CX0 15 (He.fAd K ("law", none)) fd_law ["_law_script"] (sp_law K (He.cT K ("lots_of", none)).2) := by
  obtain ⟨e1, e⟩ := He.ba e
  obtain ⟨e2, e3⟩ := He.ba e
  have T := txt_of KX G c e1
  have N := nk_of KX G c e3
  have T2 := kd_of e2
  obtain ⟨fd_is_integer, F_is_integer⟩ := c.def_ 0 (d := d_is_integer) rfl
  obtain ⟨fd_is_string_of, F_is_string_of⟩ := c.def_ 1 (d := d_is_string_of) rfl
  obtain ⟨fd_is_ascending, F_is_ascending⟩ := c.def_ 2 (d := d_is_ascending) rfl
  obtain ⟨fd_is_choice, F_is_choice⟩ := c.def_ 3 (d := d_is_choice) rfl
  obtain ⟨fd_check_letters, F_check_letters⟩ := c.def_ 4 (d := d_check_letters) rfl
  obtain ⟨fd_are_states, F_are_states⟩ := c.def_ 5 (d := d_are_states) rfl
  obtain ⟨fd_is_table, F_is_table⟩ := c.def_ 6 (d := d_is_table) rfl
  obtain ⟨fd_Machine_init, F_Machine_init⟩ := c.def_ 7 (d := d_Machine_init) rfl
  obtain ⟨fd_Machine_keep, F_Machine_keep⟩ := c.def_ 8 (d := d_Machine_keep) rfl
  obtain ⟨fd_RawMachine_init, F_RawMachine_init⟩ := c.def_ 9 (d := d_RawMachine_init) rfl
  obtain ⟨fd_led, F_led⟩ := c.def_ 10 (d := d_led) rfl
  obtain ⟨fd_reached, F_reached⟩ := c.def_ 11 (d := d_reached) rfl
  obtain ⟨fd_numbered, F_numbered⟩ := c.def_ 12 (d := d_numbered) rfl
  obtain ⟨fd_alike_states, F_alike_states⟩ := c.def_ 13 (d := d_alike_states) rfl
  obtain ⟨fd_least, F_least⟩ := c.def_ 14 (d := d_least) rfl
  obtain ⟨fd_after, F_after⟩ := c.def_ 15 (d := d_after) rfl
  obtain ⟨fd_deed_of, F_deed_of⟩ := c.def_ 16 (d := d_deed_of) rfl
  obtain ⟨fd_Field_init, F_Field_init⟩ := c.def_ 17 (d := d_Field_init) rfl
  obtain ⟨fd_Field_met, F_Field_met⟩ := c.def_ 18 (d := d_Field_met) rfl
  obtain ⟨fd_Field_times, F_Field_times⟩ := c.def_ 19 (d := d_Field_times) rfl
  obtain ⟨fd_Field_is_steady, F_Field_is_steady⟩ := c.def_ 20 (d := d_Field_is_steady) rfl
  obtain ⟨fd_Field_index_of, F_Field_index_of⟩ := c.def_ 21 (d := d_Field_index_of) rfl
  obtain ⟨fd_Field_steady_of, F_Field_steady_of⟩ := c.def_ 22 (d := d_Field_steady_of) rfl
  obtain ⟨fd_field_of, F_field_of⟩ := c.def_ 23 (d := d_field_of) rfl
  obtain ⟨fd_lots_of, F_lots_of⟩ := c.def_ 24 (d := d_lots_of) rfl
  obtain ⟨fd_Lot_init, F_Lot_init⟩ := c.def_ 25 (d := d_Lot_init) rfl
  obtain ⟨fd_Lot_all_made, F_Lot_all_made⟩ := c.def_ 26 (d := d_Lot_all_made) rfl
  obtain ⟨fd_Lot_walk, F_Lot_walk⟩ := c.def_ 27 (d := d_Lot_walk) rfl
  obtain ⟨fd_Lot_least_ideal, F_Lot_least_ideal⟩ := c.def_ 28 (d := d_Lot_least_ideal) rfl
  obtain ⟨fd_lot_of, F_lot_of⟩ := c.def_ 29 (d := d_lot_of) rfl
  obtain ⟨fd_both_marks, F_both_marks⟩ := c.def_ 30 (d := d_both_marks) rfl
  obtain ⟨fd_falling_block, F_falling_block⟩ := c.def_ 31 (d := d_falling_block) rfl
  obtain ⟨fd_steady_core, F_steady_core⟩ := c.def_ 32 (d := d_steady_core) rfl
  obtain ⟨fd_ends_block, F_ends_block⟩ := c.def_ 33 (d := d_ends_block) rfl
  obtain ⟨fd_group_of, F_group_of⟩ := c.def_ 34 (d := d_group_of) rfl
  obtain ⟨fd_back_of, F_back_of⟩ := c.def_ 35 (d := d_back_of) rfl
  obtain ⟨fd_sums_block, F_sums_block⟩ := c.def_ 36 (d := d_sums_block) rfl
  obtain ⟨fd_search, F_search⟩ := c.def_ 37 (d := d_search) rfl
  obtain ⟨fd_block_of, F_block_of⟩ := c.def_ 38 (d := d_block_of) rfl
  obtain ⟨fd_pairs_of, F_pairs_of⟩ := c.def_ 39 (d := d_pairs_of) rfl
  obtain ⟨fd_may_change, F_may_change⟩ := c.def_ 40 (d := d_may_change) rfl
  obtain ⟨fd_fixed, F_fixed⟩ := c.def_ 41 (d := d_fixed) rfl
  obtain ⟨fd_kind, F_kind⟩ := c.def_ 42 (d := d_kind) rfl
  obtain ⟨fd_silenced, F_silenced⟩ := c.def_ 43 (d := d_silenced) rfl
  obtain ⟨fd_without, F_without⟩ := c.def_ 44 (d := d_without) rfl
  obtain ⟨fd_quiet, F_quiet⟩ := c.def_ 45 (d := d_quiet) rfl
  obtain ⟨fd_l_hand, F_l_hand⟩ := c.def_ 46 (d := d_l_hand) rfl
  obtain ⟨fd_l_draw, F_l_draw⟩ := c.def_ 47 (d := d_l_draw) rfl
  obtain ⟨fd_l_shuffled, F_l_shuffled⟩ := c.def_ 48 (d := d_l_shuffled) rfl
  obtain ⟨fd_l_rows, F_l_rows⟩ := c.def_ 49 (d := d_l_rows) rfl
  obtain ⟨fd_l_woven, F_l_woven⟩ := c.def_ 50 (d := d_l_woven) rfl
  obtain ⟨fd_l_parts, F_l_parts⟩ := c.def_ 51 (d := d_l_parts) rfl
  obtain ⟨fd_l_classes, F_l_classes⟩ := c.def_ 52 (d := d_l_classes) rfl
  obtain ⟨fd_l_least, F_l_least⟩ := c.def_ 53 (d := d_l_least) rfl
  obtain ⟨fd_l_after, F_l_after⟩ := c.def_ 54 (d := d_l_after) rfl
  obtain ⟨fd_l_deed, F_l_deed⟩ := c.def_ 55 (d := d_l_deed) rfl
  obtain ⟨fd_l_deeds, F_l_deeds⟩ := c.def_ 56 (d := d_l_deeds) rfl
  obtain ⟨fd_l_steady, F_l_steady⟩ := c.def_ 57 (d := d_l_steady) rfl
  obtain ⟨fd_l_field, F_l_field⟩ := c.def_ 58 (d := d_l_field) rfl
  obtain ⟨fd_l_is_straight, F_l_is_straight⟩ := c.def_ 59 (d := d_l_is_straight) rfl
  obtain ⟨fd_l_groups_change, F_l_groups_change⟩ := c.def_ 60 (d := d_l_groups_change) rfl
  obtain ⟨fd_l_kind, F_l_kind⟩ := c.def_ 61 (d := d_l_kind) rfl
  obtain ⟨fd_l_lots, F_l_lots⟩ := c.def_ 62 (d := d_l_lots) rfl
  obtain ⟨fd_l_place, F_l_place⟩ := c.def_ 63 (d := d_l_place) rfl
  obtain ⟨fd_l_kind_without, F_l_kind_without⟩ := c.def_ 64 (d := d_l_kind_without) rfl
  obtain ⟨fd_l_due, F_l_due⟩ := c.def_ 65 (d := d_l_due) rfl
  obtain ⟨fd_l_is_refused, F_l_is_refused⟩ := c.def_ 66 (d := d_l_is_refused) rfl
  obtain ⟨fd_RawMachine_keep, F_RawMachine_keep⟩ := c.def_ 68 (d := d_RawMachine_keep) rfl
  have k_l_hand : Kn P w K mg base CX0 1 "_law_hand" ["_law_script"] (sp_hand K) := ⟨_, fd_l_hand, (ok_l_hand F_l_hand T), He.glo_ok KX G (c.fact 33 (f := .glo "_law_hand") rfl), F_l_hand.kp, (FunD.bindsN F_l_hand (fun _ _ _ _ _ _ us hl => match us, hl with | [_], _ => rfl))⟩
  have k_l_draw : Kn P w K mg base CX0 1 "_law_draw" ["_law_hand_here", "_law_many"] (sp_draw K) := ⟨_, fd_l_draw, (ok_l_draw F_l_draw T), He.glo_ok KX G (c.fact 34 (f := .glo "_law_draw") rfl), F_l_draw.kp, (FunD.bindsN F_l_draw (fun _ _ _ _ _ _ us hl => match us, hl with | [_, _], _ => rfl))⟩
  have k_l_shuffled : Kn P w K mg base CX0 2 "_law_shuffled" ["_law_hand_here", "_law_things"] (sp_shuffled K) := ⟨_, fd_l_shuffled, (ok_l_shuffled F_l_shuffled T k_l_draw), He.glo_ok KX G (c.fact 35 (f := .glo "_law_shuffled") rfl), F_l_shuffled.kp, (FunD.bindsN F_l_shuffled (fun _ _ _ _ _ _ us hl => match us, hl with | [_, _], _ => rfl))⟩
  have k_l_rows : Kn P w K mg base CX0 3 "_law_rows" ["_law_hand_here", "_law_rule", "_law_size", "_law_many"] (sp_rows K) := ⟨_, fd_l_rows, (ok_l_rows F_l_rows T k_l_draw k_l_shuffled), He.glo_ok KX G (c.fact 36 (f := .glo "_law_rows") rfl), F_l_rows.kp, (FunD.bindsN F_l_rows (fun _ _ _ _ _ _ us hl => match us, hl with | [_, _, _, _], _ => rfl))⟩
  have k_l_woven : Kn P w K mg base CX0 4 "_law_woven" ["_law_hand_here", "_law_many"] (sp_woven K) := ⟨_, fd_l_woven, (ok_l_woven F_l_woven T k_l_draw k_l_rows), He.glo_ok KX G (c.fact 37 (f := .glo "_law_woven") rfl), F_l_woven.kp, (FunD.bindsN F_l_woven (fun _ _ _ _ _ _ us hl => match us, hl with | [_, _], _ => rfl))⟩
  have k_l_parts : Kn P w K mg base CX0 5 "_law_parts" ["_law_hand_here", "_law_most", "_law_states"] (sp_parts K) := ⟨_, fd_l_parts, (ok_l_parts F_l_parts T k_l_draw k_l_shuffled k_l_rows k_l_woven), He.glo_ok KX G (c.fact 38 (f := .glo "_law_parts") rfl), F_l_parts.kp, (FunD.bindsN F_l_parts (fun _ _ _ _ _ _ us hl => match us, hl with | [_, _, _], _ => rfl))⟩
  have k_l_classes : Kn P w K mg base CX0 1 "_law_classes" ["_law_table", "_law_accepts", "_law_states"] (sp_l_classes K) := ⟨_, fd_l_classes, (ok_l_classes F_l_classes T), He.glo_ok KX G (c.fact 39 (f := .glo "_law_classes") rfl), F_l_classes.kp, (FunD.bindsN F_l_classes (fun _ _ _ _ _ _ us hl => match us, hl with | [_, _, _], _ => rfl))⟩
  have k_l_least : Kn P w K mg base CX0 2 "_law_least" ["_law_table", "_law_accepts"] (sp_l_least K) := ⟨_, fd_l_least, (ok_l_least F_l_least T k_l_classes), He.glo_ok KX G (c.fact 40 (f := .glo "_law_least") rfl), F_l_least.kp, (FunD.bindsN F_l_least (fun _ _ _ _ _ _ us hl => match us, hl with | [_, _], _ => rfl))⟩
  have k_l_deeds : Kn P w K mg base CX0 1 "_law_deeds" ["_law_letters", "_law_rows_here", "_law_most"] (sp_l_deeds K) := ⟨_, fd_l_deeds, (ok_l_deeds F_l_deeds T), He.glo_ok KX G (c.fact 43 (f := .glo "_law_deeds") rfl), F_l_deeds.kp, (FunD.bindsN F_l_deeds (fun _ _ _ _ _ _ us hl => match us, hl with | [_, _, _], _ => rfl))⟩
  have k_l_field : Kn P w K mg base CX0 6 "_law_field" ["_law_hand_here", "_law_most", "_law_states", "_law_acts"] (sp_l_field K) := ⟨_, fd_l_field, (ok_l_field F_l_field T k_l_parts k_l_least k_l_deeds), He.glo_ok KX G (c.fact 45 (f := .glo "_law_field") rfl), F_l_field.kp, (FunD.bindsN F_l_field (fun _ _ _ _ _ _ us hl => match us, hl with | [_, _, _, _], _ => rfl))⟩
  have k_is_string_of : Kn P w K mg base CX0 1 "is_string_of" ["thing", "signs"] sp_is_string_of := ⟨_, fd_is_string_of, (ok_is_string_of F_is_string_of T), He.glo_ok KX G (c.fact 1 (f := .glo "is_string_of") rfl), F_is_string_of.kp, (FunD.bindsN F_is_string_of (fun _ _ _ _ _ _ us hl => match us, hl with | [_, _], _ => rfl))⟩
  have k_is_ascending : Kn P w K mg base CX0 1 "is_ascending" ["thing"] sp_is_ascending := ⟨_, fd_is_ascending, (FnOk.or (ok_is_ascendingS F_is_ascending T) (ok_is_ascendingT F_is_ascending T)), He.glo_ok KX G (c.fact 2 (f := .glo "is_ascending") rfl), F_is_ascending.kp, (FunD.bindsN F_is_ascending (fun _ _ _ _ _ _ us hl => match us, hl with | [_], _ => rfl))⟩
  have k_is_choice : Kn P w K mg base CX0 2 "is_choice" ["thing", "signs"] sp_is_choice := ⟨_, fd_is_choice, (ok_is_choice F_is_choice T k_is_string_of k_is_ascending), He.glo_ok KX G (c.fact 3 (f := .glo "is_choice") rfl), F_is_choice.kp, (FunD.bindsN F_is_choice (fun _ _ _ _ _ _ us hl => match us, hl with | [_, _], _ => rfl))⟩
  have k_is_integer : Kn P w K mg base CX0 1 "is_integer" ["thing"] sp_is_integer := ⟨_, fd_is_integer, (ok_is_integer F_is_integer T), He.glo_ok KX G (c.fact 0 (f := .glo "is_integer") rfl), F_is_integer.kp, (FunD.bindsN F_is_integer (fun _ _ _ _ _ _ us hl => match us, hl with | [_], _ => rfl))⟩
  have k_are_states : Kn P w K mg base CX0 2 "are_states" ["thing", "many"] sp_are_states := ⟨_, fd_are_states, (ok_are_states F_are_states T k_is_integer), He.glo_ok KX G (c.fact 5 (f := .glo "are_states") rfl), F_are_states.kp, (FunD.bindsN F_are_states (fun _ _ _ _ _ _ us hl => match us, hl with | [_, _], _ => rfl))⟩
  have k_is_table : Kn P w K mg base CX0 3 "is_table" ["thing", "letters"] sp_is_table := ⟨_, fd_is_table, (ok_is_table F_is_table T k_are_states), He.glo_ok KX G (c.fact 6 (f := .glo "is_table") rfl), F_is_table.kp, (FunD.bindsN F_is_table (fun _ _ _ _ _ _ us hl => match us, hl with | [_, _], _ => rfl))⟩
  have k_Machine_keep : Km P w K mg base CX0 1 (aM K) "keep" ["self", "letters", "table", "accepts"] (sp_keep (aM K)) := ⟨_, fd_Machine_keep, (ok_Machine_keep F_Machine_keep T T.cM), He.cls_ok (c.fact 78 (f := .cls "Machine") rfl), He.meth_ok (c.fact 87 (f := .meth "Machine" "keep") rfl), (FunD.bindsN F_Machine_keep (fun _ _ _ _ _ _ us hl => match us, hl with | [_, _, _, _], _ => rfl))⟩
  have k_Machine_init : Kc P w K mg base CX0 4 (aM K) "Machine" ["self", "letters", "table", "accepts"] (sp_Machine_init (aM K)) := ⟨_, fd_Machine_init, (ok_Machine_init F_Machine_init T k_is_choice k_is_table k_are_states k_is_ascending k_Machine_keep), He.mkr_ok (c.fact 79 (f := .mkr "Machine") rfl), He.glo_ok KX G (c.fact 57 (f := .glo "Machine") rfl), (FunD.bindsN F_Machine_init (fun _ _ _ _ _ _ us hl => match us, hl with | [_, _, _, _], _ => rfl))⟩
  have k_l_lots : Kn P w K mg base CX0 1 "_law_lots" ["_law_letters"] sp_l_lots := ⟨_, fd_l_lots, (ok_l_lots F_l_lots T), He.glo_ok KX G (c.fact 49 (f := .glo "_law_lots") rfl), F_l_lots.kp, (FunD.bindsN F_l_lots (fun _ _ _ _ _ _ us hl => match us, hl with | [_], _ => rfl))⟩
  have k_l_deed : Kn P w K mg base CX0 1 "_law_deed" ["_law_letters", "_law_rows_here", "_law_word"] sp_l_deed := ⟨_, fd_l_deed, (ok_l_deed F_l_deed T), He.glo_ok KX G (c.fact 42 (f := .glo "_law_deed") rfl), F_l_deed.kp, (FunD.bindsN F_l_deed (fun _ _ _ _ _ _ us hl => match us, hl with | [_, _, _], _ => rfl))⟩
  have k_l_after : Kn P w K mg base CX0 1 "_law_after" ["_law_one", "_law_other"] sp_l_after := ⟨_, fd_l_after, (ok_l_after F_l_after T), He.glo_ok KX G (c.fact 41 (f := .glo "_law_after") rfl), F_l_after.kp, (FunD.bindsN F_l_after (fun _ _ _ _ _ _ us hl => match us, hl with | [_, _], _ => rfl))⟩
  have k_l_steady : Kn P w K mg base CX0 2 "_law_steady" ["_law_act"] sp_l_steady := ⟨_, fd_l_steady, (ok_l_steady F_l_steady T k_l_after), He.glo_ok KX G (c.fact 44 (f := .glo "_law_steady") rfl), F_l_steady.kp, (FunD.bindsN F_l_steady (fun _ _ _ _ _ _ us hl => match us, hl with | [_], _ => rfl))⟩
  have k_l_is_straight : Kn P w K mg base CX0 3 "_law_is_straight" ["_law_acts"] sp_l_straight := ⟨_, fd_l_is_straight, (ok_l_is_straight F_l_is_straight T k_l_after k_l_steady), He.glo_ok KX G (c.fact 46 (f := .glo "_law_is_straight") rfl), F_l_is_straight.kp, (FunD.bindsN F_l_is_straight (fun _ _ _ _ _ _ us hl => match us, hl with | [_], _ => rfl))⟩
  have k_l_groups_change : Kn P w K mg base CX0 3 "_law_groups_change" ["_law_acts"] sp_l_groups := ⟨_, fd_l_groups_change, (ok_l_groups_change F_l_groups_change T k_l_after k_l_steady), He.glo_ok KX G (c.fact 47 (f := .glo "_law_groups_change") rfl), F_l_groups_change.kp, (FunD.bindsN F_l_groups_change (fun _ _ _ _ _ _ us hl => match us, hl with | [_], _ => rfl))⟩
  have k_l_kind : Kn P w K mg base CX0 4 "_law_kind" ["_law_letters", "_law_rows_here", "_law_acts"] sp_l_kind := ⟨_, fd_l_kind, (ok_l_kind F_l_kind T k_l_deed k_l_is_straight k_l_groups_change), He.glo_ok KX G (c.fact 48 (f := .glo "_law_kind") rfl), F_l_kind.kp, (FunD.bindsN F_l_kind (fun _ _ _ _ _ _ us hl => match us, hl with | [_, _, _], _ => rfl))⟩
  have k_l_kind_without : Kn P w K mg base CX0 5 "_law_kind_without" ["_law_letters", "_law_table", "_law_accepts", "_law_lot"] sp_l_kind_without := ⟨_, fd_l_kind_without, (ok_l_kind_without F_l_kind_without T k_l_least k_l_deeds k_l_kind), He.glo_ok KX G (c.fact 51 (f := .glo "_law_kind_without") rfl), F_l_kind_without.kp, (FunD.bindsN F_l_kind_without (fun _ _ _ _ _ _ us hl => match us, hl with | [_, _, _, _], _ => rfl))⟩
  have k_l_place : Kn P w K mg base CX0 1 "_law_place" ["_law_told"] sp_l_place := ⟨_, fd_l_place, (ok_l_place F_l_place T), He.glo_ok KX G (c.fact 50 (f := .glo "_law_place") rfl), F_l_place.kp, (FunD.bindsN F_l_place (fun _ _ _ _ _ _ us hl => match us, hl with | [_], _ => rfl))⟩
  have k_l_due : Kn P w K mg base CX0 2 "_law_due" ["_law_kinds", "_law_lots_here", "_law_goal"] sp_l_due := ⟨_, fd_l_due, (ok_l_due F_l_due T k_l_place), He.glo_ok KX G (c.fact 52 (f := .glo "_law_due") rfl), F_l_due.kp, (FunD.bindsN F_l_due (fun _ _ _ _ _ _ us hl => match us, hl with | [_, _, _], _ => rfl))⟩
  have k_reached : Kn P w K mg base CX0 1 "reached" ["machine"] (sp_reached K) := ⟨_, fd_reached, (ok_reached F_reached T), He.glo_ok KX G (c.fact 8 (f := .glo "reached") rfl), F_reached.kp, (FunD.bindsN F_reached (fun _ _ _ _ _ _ us hl => match us, hl with | [_], _ => rfl))⟩
  have k_numbered : Kn P w K mg base CX0 1 "numbered" ["keys"] (spOr (sp_numbered true) (sp_numbered false)) := ⟨_, fd_numbered, (FnOk.or (ok_numberedB F_numbered T) (ok_numberedN F_numbered T)), He.glo_ok KX G (c.fact 9 (f := .glo "numbered") rfl), F_numbered.kp, (FunD.bindsN F_numbered (fun _ _ _ _ _ _ us hl => match us, hl with | [_], _ => rfl))⟩
  have k_alike_states : Kn P w K mg base CX0 2 "alike_states" ["machine", "states"] (sp_alike_states K) := ⟨_, fd_alike_states, (ok_alike_states F_alike_states T k_numbered), He.glo_ok KX G (c.fact 10 (f := .glo "alike_states") rfl), F_alike_states.kp, (FunD.bindsN F_alike_states (fun _ _ _ _ _ _ us hl => match us, hl with | [_, _], _ => rfl))⟩
  have k_RawMachine_keep : Km P w K mg base CX0 1 (aR K) "keep" ["self", "letters", "table", "accepts"] (sp_keep (aR K)) := ⟨_, fd_RawMachine_keep, (ok_Machine_keep F_RawMachine_keep T T.cR), He.cls_ok (c.fact 88 (f := .cls "RawMachine") rfl), He.meth_ok (c.fact 97 (f := .meth "RawMachine" "keep") rfl), (FunD.bindsN F_RawMachine_keep (fun _ _ _ _ _ _ us hl => match us, hl with | [_, _, _, _], _ => rfl))⟩
  have k_RawMachine_init : Kc P w K mg base CX0 2 (aR K) "RawMachine" ["self", "letters", "table", "accepts"] (sp_keep (aR K)) := ⟨_, fd_RawMachine_init, (ok_RawMachine_init F_RawMachine_init T k_RawMachine_keep), He.mkr_ok (c.fact 89 (f := .mkr "RawMachine") rfl), He.glo_ok KX G (c.fact 58 (f := .glo "RawMachine") rfl), (FunD.bindsN F_RawMachine_init (fun _ _ _ _ _ _ us hl => match us, hl with | [_, _, _, _], _ => rfl))⟩
  have k_least : Kn P w K mg base CX0 4 "least" ["machine"] (sp_least K) := ⟨_, fd_least, (ok_least F_least T k_reached k_alike_states k_RawMachine_init), He.glo_ok KX G (c.fact 11 (f := .glo "least") rfl), F_least.kp, (FunD.bindsN F_least (fun _ _ _ _ _ _ us hl => match us, hl with | [_], _ => rfl))⟩
  have k_led : Kn P w K mg base CX0 1 "led" ["machine", "state", "word"] (sp_led K) := ⟨_, fd_led, (ok_led F_led T), He.glo_ok KX G (c.fact 7 (f := .glo "led") rfl), F_led.kp, (FunD.bindsN F_led (fun _ _ _ _ _ _ us hl => match us, hl with | [_, _, _], _ => rfl))⟩
  have k_deed_of : Kn P w K mg base CX0 5 "deed_of" ["machine", "word"] (sp_deed_of K) := ⟨_, fd_deed_of, (ok_deed_of F_deed_of T k_least k_led), He.glo_ok KX G (c.fact 13 (f := .glo "deed_of") rfl), F_deed_of.kp, (FunD.bindsN F_deed_of (fun _ _ _ _ _ _ us hl => match us, hl with | [_, _], _ => rfl))⟩
  have k_after : Kn P w K mg base CX0 1 "after" ["one", "other"] sp_after := ⟨_, fd_after, (ok_after F_after T), He.glo_ok KX G (c.fact 12 (f := .glo "after") rfl), F_after.kp, (FunD.bindsN F_after (fun _ _ _ _ _ _ us hl => match us, hl with | [_, _], _ => rfl))⟩
  have k_Field_met : Km P w K mg base CX0 1 (aF K) "met" ["self", "deed", "word"] (sp_met K) := ⟨_, fd_Field_met, (ok_Field_met F_Field_met T), He.cls_ok (c.fact 98 (f := .cls "Field") rfl), He.meth_ok (c.fact 105 (f := .meth "Field" "met") rfl), (FunD.bindsN F_Field_met (fun _ _ _ _ _ _ us hl => match us, hl with | [_, _, _], _ => rfl))⟩
  have k_Field_init : Kc P w K mg base CX0 6 (aF K) "Field" ["self", "machine"] (sp_Field_init K) := ⟨_, fd_Field_init, (ok_Field_init F_Field_init T k_least k_deed_of k_after k_Field_met), He.mkr_ok (c.fact 99 (f := .mkr "Field") rfl), He.glo_ok KX G (c.fact 59 (f := .glo "Field") rfl), (FunD.bindsN F_Field_init (fun _ _ _ _ _ _ us hl => match us, hl with | [_, _], _ => rfl))⟩
  have k_field_of : Kn P w K mg base CX0 8 "field_of" ["machine"] (sp_field_of K) := ⟨_, fd_field_of, (ok_field_of F_field_of T k_Field_init), He.glo_ok KX G (c.fact 14 (f := .glo "field_of") rfl), F_field_of.kp, (FunD.bindsN F_field_of (fun _ _ _ _ _ _ us hl => match us, hl with | [_], _ => rfl))⟩
  have hcd : fd_lots_of.code = .ref (He.cT K ("lots_of", none)).1 := by
    obtain ⟨oc, od, dV, kV, doc, pm, an, cdv, ct, osl, e4, lk, hcd, _, _⟩ := F_lots_of.ex
    obtain ⟨c0, e5⟩ := He.codeIn_ref hcd
    have e6 : fd_lots_of.code = .ref c0 := by
      rw [e4, e5] <;> rfl
    rw [e6]
    exact congrArg Value.ref (He.codeOf_eq lk e6).symm
  have k_lots_of : Kn P w K mg base CX0 4 "lots_of" ["letters"] (sp_lots_of (He.cT K ("lots_of", none)).2) := ⟨_, fd_lots_of, (ok_lots_of F_lots_of hcd TB T), He.glo_ok KX G (c.fact 15 (f := .glo "lots_of") rfl), F_lots_of.kp, (FunD.bindsN F_lots_of (fun _ _ _ _ _ _ us hl => match us, hl with | [_], _ => rfl))⟩
  have k_silenced : Kn P w K mg base CX0 5 "silenced" ["machine", "letters"] (sp_silenced K) := ⟨_, fd_silenced, (ok_silenced F_silenced T k_RawMachine_init k_least), He.glo_ok KX G (c.fact 30 (f := .glo "silenced") rfl), F_silenced.kp, (FunD.bindsN F_silenced (fun _ _ _ _ _ _ us hl => match us, hl with | [_, _], _ => rfl))⟩
  have k_pairs_of : Kn P w K mg base CX0 1 "pairs_of" ["letters"] sp_pairs_of := ⟨_, fd_pairs_of, (ok_pairs_of F_pairs_of T), He.glo_ok KX G (c.fact 26 (f := .glo "pairs_of") rfl), F_pairs_of.kp, (FunD.bindsN F_pairs_of (fun _ _ _ _ _ _ us hl => match us, hl with | [_], _ => rfl))⟩
  have k_may_change : Kn P w K mg base CX0 6 "may_change" ["machine", "a", "b"] (sp_may_change K) := ⟨_, fd_may_change, (ok_may_change F_may_change T k_deed_of k_after), He.glo_ok KX G (c.fact 27 (f := .glo "may_change") rfl), F_may_change.kp, (FunD.bindsN F_may_change (fun _ _ _ _ _ _ us hl => match us, hl with | [_, _, _], _ => rfl))⟩
  have k_fixed : Kn P w K mg base CX0 7 "fixed" ["machine"] (sp_fixed K) := ⟨_, fd_fixed, (ok_fixed F_fixed T k_pairs_of k_may_change), He.glo_ok KX G (c.fact 28 (f := .glo "fixed") rfl), F_fixed.kp, (FunD.bindsN F_fixed (fun _ _ _ _ _ _ us hl => match us, hl with | [_], _ => rfl))⟩
  have k_Lot_all_made : Km P w K mg base CX0 1 (aL K) "all_made" ["self"] (sp_all_made K) := ⟨_, fd_Lot_all_made, (ok_Lot_all_made F_Lot_all_made T), He.cls_ok (c.fact 110 (f := .cls "Lot") rfl), He.meth_ok (c.fact 118 (f := .meth "Lot" "all_made") rfl), (FunD.bindsN F_Lot_all_made (fun _ _ _ _ _ _ us hl => match us, hl with | [_], _ => rfl))⟩
  have k_Lot_walk : Km P w K mg base CX0 1 (aL K) "walk" ["self"] (sp_walk K) := ⟨_, fd_Lot_walk, (ok_Lot_walk F_Lot_walk T), He.cls_ok (c.fact 110 (f := .cls "Lot") rfl), He.meth_ok (c.fact 119 (f := .meth "Lot" "walk") rfl), (FunD.bindsN F_Lot_walk (fun _ _ _ _ _ _ us hl => match us, hl with | [_], _ => rfl))⟩
  have k_Field_times : Km P w K mg base CX0 2 (aF K) "times" ["self", "one", "other"] (sp_times K) := ⟨_, fd_Field_times, (ok_Field_times F_Field_times T k_after), He.cls_ok (c.fact 98 (f := .cls "Field") rfl), He.meth_ok (c.fact 106 (f := .meth "Field" "times") rfl), (FunD.bindsN F_Field_times (fun _ _ _ _ _ _ us hl => match us, hl with | [_, _, _], _ => rfl))⟩
  have k_Lot_least_ideal : Km P w K mg base CX0 3 (aL K) "least_ideal" ["self"] (sp_least_ideal K) := ⟨_, fd_Lot_least_ideal, (ok_Lot_least_ideal F_Lot_least_ideal T k_Field_times), He.cls_ok (c.fact 110 (f := .cls "Lot") rfl), He.meth_ok (c.fact 120 (f := .meth "Lot" "least_ideal") rfl), (FunD.bindsN F_Lot_least_ideal (fun _ _ _ _ _ _ us hl => match us, hl with | [_], _ => rfl))⟩
  have k_Lot_init : Kc P w K mg base CX0 4 (aL K) "Lot" ["self", "field", "lot"] (sp_Lot_init K) := ⟨_, fd_Lot_init, (ok_Lot_init F_Lot_init T k_Lot_all_made k_Lot_walk k_Lot_least_ideal), He.mkr_ok (c.fact 111 (f := .mkr "Lot") rfl), He.glo_ok KX G (c.fact 60 (f := .glo "Lot") rfl), (FunD.bindsN F_Lot_init (fun _ _ _ _ _ _ us hl => match us, hl with | [_, _, _], _ => rfl))⟩
  have k_lot_of : Kn P w K mg base CX0 9 "lot_of" ["machine", "lot"] (sp_lot_of K) := ⟨_, fd_lot_of, (ok_lot_of F_lot_of T k_field_of k_Lot_init), He.glo_ok KX G (c.fact 16 (f := .glo "lot_of") rfl), F_lot_of.kp, (FunD.bindsN F_lot_of (fun _ _ _ _ _ _ us hl => match us, hl with | [_, _], _ => rfl))⟩
  have k_Field_is_steady : Km P w K mg base CX0 3 (aF K) "is_steady" ["self", "at"] (sp_is_steady K) := ⟨_, fd_Field_is_steady, (ok_Field_is_steady F_Field_is_steady T k_Field_times), He.cls_ok (c.fact 98 (f := .cls "Field") rfl), He.meth_ok (c.fact 107 (f := .meth "Field" "is_steady") rfl), (FunD.bindsN F_Field_is_steady (fun _ _ _ _ _ _ us hl => match us, hl with | [_, _], _ => rfl))⟩
  have k_Field_index_of : Km P w K mg base CX0 1 (aF K) "index_of" ["self", "word"] (sp_index_of K) := ⟨_, fd_Field_index_of, (ok_Field_index_of F_Field_index_of T), He.cls_ok (c.fact 98 (f := .cls "Field") rfl), He.meth_ok (c.fact 108 (f := .meth "Field" "index_of") rfl), (FunD.bindsN F_Field_index_of (fun _ _ _ _ _ _ us hl => match us, hl with | [_, _], _ => rfl))⟩
  have k_both_marks : Kn P w K mg base CX0 3 "both_marks" ["field", "at", "one", "other"] (sp_both_marks K) := ⟨_, fd_both_marks, (ok_both_marks F_both_marks T k_Field_times), He.glo_ok KX G (c.fact 17 (f := .glo "both_marks") rfl), F_both_marks.kp, (FunD.bindsN F_both_marks (fun _ _ _ _ _ _ us hl => match us, hl with | [_, _, _, _], _ => rfl))⟩
  have k_falling_block : Kn P w K mg base CX0 4 "falling_block" ["lot"] (sp_falling_block K) := ⟨_, fd_falling_block, (ok_falling_block F_falling_block T k_Field_is_steady k_Field_times k_Field_index_of k_both_marks), He.glo_ok KX G (c.fact 18 (f := .glo "falling_block") rfl), F_falling_block.kp, (FunD.bindsN F_falling_block (fun _ _ _ _ _ _ us hl => match us, hl with | [_], _ => rfl))⟩
  have k_steady_core : Kn P w K mg base CX0 4 "steady_core" ["lot"] (sp_steady_core K) := ⟨_, fd_steady_core, (ok_steady_core F_steady_core T k_Field_is_steady), He.glo_ok KX G (c.fact 19 (f := .glo "steady_core") rfl), F_steady_core.kp, (FunD.bindsN F_steady_core (fun _ _ _ _ _ _ us hl => match us, hl with | [_], _ => rfl))⟩
  have k_Field_steady_of : Km P w K mg base CX0 4 (aF K) "steady_of" ["self", "at"] (sp_steady_of K) := ⟨_, fd_Field_steady_of, (ok_Field_steady_of F_Field_steady_of T k_Field_is_steady k_Field_times), He.cls_ok (c.fact 98 (f := .cls "Field") rfl), He.meth_ok (c.fact 109 (f := .meth "Field" "steady_of") rfl), (FunD.bindsN F_Field_steady_of (fun _ _ _ _ _ _ us hl => match us, hl with | [_, _], _ => rfl))⟩
  have k_ends_block : Kn P w K mg base CX0 5 "ends_block" ["lot"] (sp_ends_block K) := ⟨_, fd_ends_block, (ok_ends_block F_ends_block T k_steady_core k_Field_is_steady k_Field_times k_Field_steady_of), He.glo_ok KX G (c.fact 20 (f := .glo "ends_block") rfl), F_ends_block.kp, (FunD.bindsN F_ends_block (fun _ _ _ _ _ _ us hl => match us, hl with | [_], _ => rfl))⟩
  have k_group_of : Kn P w K mg base CX0 3 "group_of" ["lot", "at"] (sp_group_of K) := ⟨_, fd_group_of, (ok_group_of F_group_of T k_Field_times), He.glo_ok KX G (c.fact 21 (f := .glo "group_of") rfl), F_group_of.kp, (FunD.bindsN F_group_of (fun _ _ _ _ _ _ us hl => match us, hl with | [_, _], _ => rfl))⟩
  have k_back_of : Kn P w K mg base CX0 3 "back_of" ["field", "at", "still"] (sp_back_of K) := ⟨_, fd_back_of, (ok_back_of F_back_of T k_Field_times), He.glo_ok KX G (c.fact 22 (f := .glo "back_of") rfl), F_back_of.kp, (FunD.bindsN F_back_of (fun _ _ _ _ _ _ us hl => match us, hl with | [_, _, _], _ => rfl))⟩
  have k_sums_block : Kn P w K mg base CX0 5 "sums_block" ["lot"] (sp_sums_block K) := ⟨_, fd_sums_block, (ok_sums_block F_sums_block T k_steady_core k_group_of k_Field_times k_back_of), He.glo_ok KX G (c.fact 23 (f := .glo "sums_block") rfl), F_sums_block.kp, (FunD.bindsN F_sums_block (fun _ _ _ _ _ _ us hl => match us, hl with | [_], _ => rfl))⟩
  have k_search : Kn P w K mg base CX0 10 "search" ["machine"] (sp_search K (He.cT K ("lots_of", none)).2) := ⟨_, fd_search, (ok_search F_search T k_field_of k_lots_of k_lot_of k_falling_block k_ends_block k_sums_block), He.glo_ok KX G (c.fact 24 (f := .glo "search") rfl), F_search.kp, (FunD.bindsN F_search (fun _ _ _ _ _ _ us hl => match us, hl with | [_], _ => rfl))⟩
  have k_block_of : Kn P w K mg base CX0 11 "block_of" ["machine"] (sp_block_of K (He.cT K ("lots_of", none)).2) := ⟨_, fd_block_of, (ok_block_of F_block_of T k_search), He.glo_ok KX G (c.fact 25 (f := .glo "block_of") rfl), F_block_of.kp, (FunD.bindsN F_block_of (fun _ _ _ _ _ _ us hl => match us, hl with | [_], _ => rfl))⟩
  have k_kind : Kn P w K mg base CX0 12 "kind" ["machine"] (sp_kind K (He.cT K ("lots_of", none)).2) := ⟨_, fd_kind, (ok_kind F_kind T k_field_of k_fixed k_block_of), He.glo_ok KX G (c.fact 29 (f := .glo "kind") rfl), F_kind.kp, (FunD.bindsN F_kind (fun _ _ _ _ _ _ us hl => match us, hl with | [_], _ => rfl))⟩
  have k_quiet : Kn P w K mg base CX0 13 "quiet" ["machine", "goal"] (sp_quiet K (He.cT K ("lots_of", none)).2) := ⟨_, fd_quiet, (ok_quiet F_quiet T T2 k_field_of k_lots_of k_silenced k_kind), He.glo_ok KX G (c.fact 32 (f := .glo "quiet") rfl), F_quiet.kp, (FunD.bindsN F_quiet (fun _ _ _ _ _ _ us hl => match us, hl with | [_, _], _ => rfl))⟩
  have k_check_letters : Kn P w K mg base CX0 3 "check_letters" ["machine", "thing"] (sp_check_letters K) := ⟨_, fd_check_letters, (ok_check_letters F_check_letters T k_is_choice), He.glo_ok KX G (c.fact 4 (f := .glo "check_letters") rfl), F_check_letters.kp, (FunD.bindsN F_check_letters (fun _ _ _ _ _ _ us hl => match us, hl with | [_, _], _ => rfl))⟩
  have k_without : Kn P w K mg base CX0 6 "without" ["machine", "letters"] (sp_without K) := ⟨_, fd_without, (ok_without F_without T k_check_letters k_silenced), He.glo_ok KX G (c.fact 31 (f := .glo "without") rfl), F_without.kp, (FunD.bindsN F_without (fun _ _ _ _ _ _ us hl => match us, hl with | [_, _], _ => rfl))⟩
  have k_quietR : Kn P w K mg base (L2.CX P w) 13 "quiet" ["machine", "goal"] (sp_quietR K) := ⟨_, fd_quiet, (ok_quietR F_quiet T N k_field_of k_lots_of k_silenced k_kind), He.glo_ok KX G (c.fact 32 (f := .glo "quiet") rfl), F_quiet.kp, (FunD.bindsN F_quiet (fun _ _ _ _ _ _ us hl => match us, hl with | [_, _], _ => rfl))⟩
  have k_l_is_refused : Kn P w K mg base CX0 14 "_law_is_refused" ["_law_machine", "_law_thing"] (sp_is_refused K) := ⟨_, fd_l_is_refused, (ok_l_is_refused F_l_is_refused T N k_quietR), He.glo_ok KX G (c.fact 53 (f := .glo "_law_is_refused") rfl), F_l_is_refused.kp, (FunD.bindsN F_l_is_refused (fun _ _ _ _ _ _ us hl => match us, hl with | [_, _], _ => rfl))⟩
  exact (ok_law F_law T k_l_hand k_l_field k_Machine_init k_l_lots k_l_kind_without k_l_shuffled k_l_due k_quiet k_l_place k_kind k_without k_l_is_refused k_l_draw)
/-! ### the law, at the head's heap -/
theorem law_at {w : World} {K : PySem.W.Frag} {mg : Str → Option Value} {f : Addr} {h : Heap} (KX : K.In h) (G : h.Ns mainGlobals mg) (hmg : mg ("law" : Str) = some (.ref f)) (c : He.SaysX fa fn [] tf ex w h K) :
    LamX.LawAtS PySem.Challenge.rw_saidacross_k87_whole_quiet_letters w K CX0 15 63 "_law_script" mg f h := by
  have mem : (("lots_of", none) : He.Defn) ∈ tf := List.mem_singleton.mpr rfl
  obtain ⟨fd, F⟩ := c.t.d.def_ 67 (d := d_law) rfl
  have e := hmg.symm.trans (He.glo_ok KX G (c.t.d.fact 54 (f := .glo "law") rfl))
  cases e
  refine ⟨fd, [He.cT K ("lots_of", none)], sp_law K (He.cT K ("lots_of", none)).2, fun p hp => ?_, fun p hp => ?_, fun p hp => ?_, fun s u => ?_, fun H a ns hl hb hT hS => ?_, fun base Kin Ns TB => ?_⟩
  · rw [List.mem_singleton.mp hp]
    exact c.empty _ mem
  · rw [List.mem_singleton.mp hp]
    exact c.out _ mem
  · rw [List.mem_singleton.mp hp]
    exact PySem.W.codeHd_of_K KX (c.hd _ mem)
  · exact (FunD.bindsA (ps := ["_law_script"]) F fun _ _ _ _ _ _ us hl => match us, hl with | [_], _ => rfl) s [u] rfl
  · exact ⟨a, ns, rfl, hS, fun p hp => by
      rw [List.mem_singleton.mp hp]
      exact LamX.TabS.nil (hT _ (List.mem_singleton.mpr rfl)), fun _ => rfl⟩
  · exact all_ok KX G c.t.d c.more F (TB _ (List.mem_singleton.mpr rfl))
end QP
open PySem PySem.W PySem.Calls PyProof.Rows
theorem PySem.Challenge.cw_saidacross_k87_whole_quiet_letters_holds : PySem.Challenge.rw_saidacross_k87_whole_quiet_letters.Holds := by
  w_on; o_law
  refine HandSHeadRun.head_any (r := OpenLaw.row PySem.Challenge.rw_saidacross_k87_whole_quiet_letters) (q := view (OpenLaw.row PySem.Challenge.rw_saidacross_k87_whole_quiet_letters).prog [76]) (H := QP.hk) (ob := QP.ob) (M := 7000) (loose := QP.names)
    (d := HandSHeadRun.topDef (OpenLaw.row PySem.Challenge.rw_saidacross_k87_whole_quiet_letters).prog 76) (kwd := []) QP.ob_eq
    (by kernel_rfl) (fun s => by kernel_rfl) QP.run (by kernel_rfl) (by kernel_rfl) (by kernel_rfl) (by rfl) (by first | assumption | decide +kernel) (by decide +kernel) ⟨rfl, rfl, rfl, rfl, rfl, by decide +kernel⟩ ?hw ?hc
  case hw => w_witness2
  case hc =>
    refine LamX.walk_ofTsE (l := PySem.Challenge.rw_saidacross_k87_whole_quiet_letters) (n := 63) (k := 15) (x := "_law_script") (CX := fun _ => L2.CX0) rfl (by decide) (by kernel_rfl) ⟨rfl, by decide, by decide⟩ ?F (fun _ _ _ _ _ z => z)
    intro w mg fa h Y G hmg0
    obtain ⟨K, KX, c⟩ := Y
    have hmg : mg ("law" : PySem.Str) = some (.ref fa) := by
      have e : (HandSHeadRun.topDef (OpenLaw.row PySem.Challenge.rw_saidacross_k87_whole_quiet_letters).prog 76).name = ("law" : PySem.Str) := by kernel_rfl
      rw [← e]
      exact hmg0
    exact ⟨K, KX, QP.law_at KX G hmg c⟩

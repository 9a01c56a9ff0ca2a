import PyProof.Rows.All
import Wide.All
import OpenK.AllK
import Wide.FinOn
import KE.KStateDown
import Lean
import HandS.Base
import HandS.Call
import HandS.Ends
import HandS.More
import HandS.Words
import HandS.WordsExc
import HandS.Defaults
import HandS.Head0
import HandS.Head1
import HandS.Head2
import HandS.HeadEnd
import HandS.HeadHook1
import HandS.HeadHook2
import HandS.HeadHook3
import HandS.HeadHook4
import HandS.ForMost
import HandS.IsInst
import HandS.Codes
import HandS.TupMul
import HandS.TupAny
import HandS.Wide
import HandS.SetKeys
import HandS.Sort
import HandS.Strs
import HandS.Deep
import HandS.Style
import HandS.Flow
import HandS.Conv
import HandS.NoneIn
import HandS.TryOnly
import HandS.Walk
import HandS.Set
import HandS.SetFor
import HandS.CallLocal
import HandS.ListItems
import KE.KDictList
import PySem.Challenge.RW_usetally_k33_whole_paper_tells_the_run
set_option Elab.async false
set_option linter.all false
set_option maxRecDepth 100000
set_option maxHeartbeats 0
namespace Ut
open PySem PySem.Spec PyProof.Rows L2
/-! ### the text by places -/
def top (i : Nat) : Stmt := PySem.Challenge.pw_usetally_k33_whole_paper_tells_the_run.main.body.getD i (.Pass ⟨0, 0, 0, 0⟩)
abbrev S_is_number : Stmt := top 2
abbrev S_is_kind : Stmt := top 3
abbrev S_are_kinds : Stmt := top 4
abbrev S_is_name : Stmt := top 16
abbrev S_is_whole : Stmt := top 17
abbrev S_need_name : Stmt := top 18
abbrev S_need_terms : Stmt := top 20
abbrev S_must_be_closed : Stmt := top 29
abbrev S_is_beyond : Stmt := top 32
abbrev S_measured : Stmt := top 33
abbrev S_read_back : Stmt := top 34
abbrev S_term_of : Stmt := top 37
abbrev S_sum_of : Stmt := top 39
abbrev S_opened : Stmt := top 49
abbrev S_looked : Stmt := top 50
abbrev S_turned : Stmt := top 51
abbrev S_went_on : Stmt := top 52
abbrev S_first_state : Stmt := top 54
abbrev S_machine_run : Stmt := top 55
abbrev S_tally_with : Stmt := top 57
abbrev S_tallies_together : Stmt := top 58
abbrev S_kinds_used : Stmt := top 59
abbrev S_uses_but : Stmt := top 60
abbrev S_has_form : Stmt := top 61
abbrev S_judged : Stmt := top 62
abbrev S_judged_name : Stmt := top 63
abbrev S_judged_maker : Stmt := top 64
abbrev S_judged_each : Stmt := top 65
abbrev S_put_together : Stmt := top 66
abbrev S_judged_give : Stmt := top 67
abbrev S_judged_sum : Stmt := top 68
abbrev S_judged_choice : Stmt := top 69
abbrev S_judged_again : Stmt := top 70
abbrev S_lets_by : Stmt := top 71
abbrev S_law_state : Stmt := top 73
abbrev S_law_draw : Stmt := top 74
abbrev S_law_number : Stmt := top 75
abbrev S_law_alike : Stmt := top 76
abbrev S_law_all : Stmt := top 77
abbrev S_law_word : Stmt := top 78
abbrev S_law_leaf : Stmt := top 79
abbrev S_law_two : Stmt := top 80
abbrev S_law_shape : Stmt := top 81
abbrev S_law_shape_kind : Stmt := top 82
abbrev S_law_shape_paper : Stmt := top 83
abbrev S_law_used : Stmt := top 84
abbrev S_law_tied : Stmt := top 85
abbrev S_law_loop : Stmt := top 86
abbrev S_law_made : Stmt := top 87
abbrev S_law_short : Stmt := top 88
abbrev S_law_tally_right : Stmt := top 89
abbrev S_law_row : Stmt := top 90
abbrev S_law_great_looks : Stmt := top 91
abbrev S_law_right : Stmt := top 92
abbrev S_law : Stmt := top 93
abbrev S_Name_init : Stmt := inClass (top 22) 0
abbrev S_Term_parts : Stmt := inClass (top 19) 0
abbrev S_Term_rebuilt : Stmt := inClass (top 19) 1
abbrev S_Term_binds : Stmt := inClass (top 19) 2
abbrev S_Name_free : Stmt := inClass (top 22) 3
abbrev S_Number_init : Stmt := inClass (top 23) 0
abbrev S_Term_free : Stmt := inClass (top 19) 5
abbrev S_Maker_init : Stmt := inClass (top 24) 0
abbrev S_Maker_parts : Stmt := inClass (top 24) 1
abbrev S_Maker_rebuilt : Stmt := inClass (top 24) 2
abbrev S_Maker_binds : Stmt := inClass (top 24) 3
abbrev S_Give_init : Stmt := inClass (top 25) 0
abbrev S_Give_parts : Stmt := inClass (top 25) 1
abbrev S_Give_rebuilt : Stmt := inClass (top 25) 2
abbrev S_Sum_init : Stmt := inClass (top 26) 0
abbrev S_Sum_parts : Stmt := inClass (top 26) 1
abbrev S_Sum_rebuilt : Stmt := inClass (top 26) 2
abbrev S_Choice_init : Stmt := inClass (top 27) 0
abbrev S_Choice_parts : Stmt := inClass (top 27) 1
abbrev S_Choice_rebuilt : Stmt := inClass (top 27) 2
abbrev S_Again_init : Stmt := inClass (top 28) 0
abbrev S_Again_parts : Stmt := inClass (top 28) 1
abbrev S_Again_rebuilt : Stmt := inClass (top 28) 2
abbrev S_Again_binds : Stmt := inClass (top 28) 3
abbrev S_GivenWait_init : Stmt := inClass (top 42) 0
abbrev S_GivenWait_sort_for : Stmt := inClass (top 42) 1
abbrev S_GivenWait_after : Stmt := inClass (top 42) 2
abbrev S_OtherWait_init : Stmt := inClass (top 43) 0
abbrev S_OtherWait_sort_for : Stmt := inClass (top 43) 1
abbrev S_OtherWait_after : Stmt := inClass (top 43) 2
abbrev S_NumberWait_init : Stmt := inClass (top 44) 0
abbrev S_NumberWait_sort_for : Stmt := inClass (top 44) 1
abbrev S_NumberWait_after : Stmt := inClass (top 44) 2
abbrev S_ChoiceWait_init : Stmt := inClass (top 45) 0
abbrev S_ChoiceWait_sort_for : Stmt := inClass (top 45) 1
abbrev S_ChoiceWait_after : Stmt := inClass (top 45) 2
abbrev S_Late_init : Stmt := inClass (top 31) 0
abbrev S_State_init : Stmt := inClass (top 48) 0
abbrev S_State_next_sort : Stmt := inClass (top 48) 1
abbrev S_State_how : Stmt := inClass (top 48) 2
abbrev S_State_step : Stmt := inClass (top 48) 3
abbrev S_State_came : Stmt := inClass (top 48) 4
/-! ### defs, facts -/
def dFn (x : Str) (st : Stmt) : He.DefD := ⟨(x, none), x, x, defArgs st, defBody st, defScope st, [], []⟩
def dMe (C x q : Str) (st : Stmt) : He.DefD := ⟨(C, some x), x, q, defArgs st, defBody st, defScope st, [], []⟩
def fnA : List He.DefD := [dFn "is_number" S_is_number, dFn "is_kind" S_is_kind, dFn "are_kinds" S_are_kinds, dFn "is_name" S_is_name, dFn "is_whole" S_is_whole, dFn "need_name" S_need_name, dFn "need_terms" S_need_terms, dFn "must_be_closed" S_must_be_closed, dFn "is_beyond" S_is_beyond, dFn "measured" S_measured, dFn "read_back" S_read_back, dFn "term_of" S_term_of, dFn "sum_of" S_sum_of, dFn "opened" S_opened, dFn "looked" S_looked, dFn "turned" S_turned, dFn "went_on" S_went_on, dFn "first_state" S_first_state, dFn "machine_run" S_machine_run, dFn "tally_with" S_tally_with, dFn "tallies_together" S_tallies_together, dFn "kinds_used" S_kinds_used, dFn "uses_but" S_uses_but, dFn "has_form" S_has_form, dFn "judged" S_judged, dFn "judged_name" S_judged_name, dFn "judged_maker" S_judged_maker, dFn "judged_each" S_judged_each, dFn "put_together" S_put_together, dFn "judged_give" S_judged_give, dFn "judged_sum" S_judged_sum, dFn "judged_choice" S_judged_choice, dFn "judged_again" S_judged_again, dFn "lets_by" S_lets_by, dFn "_law_state" S_law_state, dFn "_law_draw" S_law_draw, dFn "_law_number" S_law_number, dFn "_law_alike" S_law_alike, dFn "_law_all" S_law_all, dFn "_law_word" S_law_word, dFn "_law_leaf" S_law_leaf, dFn "_law_two" S_law_two, dFn "_law_shape" S_law_shape, dFn "_law_shape_kind" S_law_shape_kind, dFn "_law_shape_paper" S_law_shape_paper, dFn "_law_used" S_law_used, dFn "_law_tied" S_law_tied, dFn "_law_loop" S_law_loop, dFn "_law_made" S_law_made, dFn "_law_short" S_law_short, dFn "_law_tally_right" S_law_tally_right, dFn "_law_row" S_law_row, dFn "_law_great_looks" S_law_great_looks, dFn "_law_right" S_law_right, dFn "law" S_law]
def fnB : List He.DefD := [dMe "Name" "__init__" "Name.__init__" S_Name_init, dMe "Name" "parts" "Term.parts" S_Term_parts, dMe "Name" "rebuilt" "Term.rebuilt" S_Term_rebuilt, dMe "Name" "binds" "Term.binds" S_Term_binds, dMe "Name" "free" "Name.free" S_Name_free, dMe "Number" "__init__" "Number.__init__" S_Number_init, dMe "Number" "parts" "Term.parts" S_Term_parts, dMe "Number" "rebuilt" "Term.rebuilt" S_Term_rebuilt, dMe "Number" "binds" "Term.binds" S_Term_binds, dMe "Number" "free" "Term.free" S_Term_free, dMe "Maker" "__init__" "Maker.__init__" S_Maker_init, dMe "Maker" "parts" "Maker.parts" S_Maker_parts, dMe "Maker" "rebuilt" "Maker.rebuilt" S_Maker_rebuilt, dMe "Maker" "binds" "Maker.binds" S_Maker_binds, dMe "Maker" "free" "Term.free" S_Term_free, dMe "Give" "__init__" "Give.__init__" S_Give_init, dMe "Give" "parts" "Give.parts" S_Give_parts, dMe "Give" "rebuilt" "Give.rebuilt" S_Give_rebuilt, dMe "Give" "binds" "Term.binds" S_Term_binds, dMe "Give" "free" "Term.free" S_Term_free, dMe "Sum" "__init__" "Sum.__init__" S_Sum_init, dMe "Sum" "parts" "Sum.parts" S_Sum_parts, dMe "Sum" "rebuilt" "Sum.rebuilt" S_Sum_rebuilt, dMe "Sum" "binds" "Term.binds" S_Term_binds, dMe "Sum" "free" "Term.free" S_Term_free, dMe "Choice" "__init__" "Choice.__init__" S_Choice_init, dMe "Choice" "parts" "Choice.parts" S_Choice_parts, dMe "Choice" "rebuilt" "Choice.rebuilt" S_Choice_rebuilt, dMe "Choice" "binds" "Term.binds" S_Term_binds, dMe "Choice" "free" "Term.free" S_Term_free, dMe "Again" "__init__" "Again.__init__" S_Again_init, dMe "Again" "parts" "Again.parts" S_Again_parts, dMe "Again" "rebuilt" "Again.rebuilt" S_Again_rebuilt, dMe "Again" "binds" "Again.binds" S_Again_binds, dMe "Again" "free" "Term.free" S_Term_free, dMe "GivenWait" "__init__" "GivenWait.__init__" S_GivenWait_init, dMe "GivenWait" "sort_for" "GivenWait.sort_for" S_GivenWait_sort_for, dMe "GivenWait" "after" "GivenWait.after" S_GivenWait_after, dMe "OtherWait" "__init__" "OtherWait.__init__" S_OtherWait_init, dMe "OtherWait" "sort_for" "OtherWait.sort_for" S_OtherWait_sort_for, dMe "OtherWait" "after" "OtherWait.after" S_OtherWait_after, dMe "NumberWait" "__init__" "NumberWait.__init__" S_NumberWait_init, dMe "NumberWait" "sort_for" "NumberWait.sort_for" S_NumberWait_sort_for, dMe "NumberWait" "after" "NumberWait.after" S_NumberWait_after, dMe "ChoiceWait" "__init__" "ChoiceWait.__init__" S_ChoiceWait_init, dMe "ChoiceWait" "sort_for" "ChoiceWait.sort_for" S_ChoiceWait_sort_for, dMe "ChoiceWait" "after" "ChoiceWait.after" S_ChoiceWait_after, dMe "Late" "__init__" "Late.__init__" S_Late_init, dMe "State" "__init__" "State.__init__" S_State_init, dMe "State" "next_sort" "State.next_sort" S_State_next_sort, dMe "State" "how" "State.how" S_State_how, dMe "State" "step" "State.step" S_State_step, dMe "State" "came" "State.came" S_State_came]
def fn : List He.DefD := fnA ++ fnB
def fa1 : List He.Fa := [.glo "is_number", .glo "is_kind", .glo "are_kinds", .glo "is_name", .glo "is_whole", .glo "need_name", .glo "need_terms", .glo "must_be_closed", .glo "is_beyond", .glo "measured", .glo "read_back", .glo "term_of", .glo "sum_of", .glo "opened", .glo "looked", .glo "turned", .glo "went_on", .glo "first_state", .glo "machine_run", .glo "tally_with", .glo "tallies_together", .glo "kinds_used", .glo "uses_but", .glo "has_form", .glo "judged", .glo "judged_name", .glo "judged_maker", .glo "judged_each", .glo "put_together", .glo "judged_give", .glo "judged_sum", .glo "judged_choice", .glo "judged_again", .glo "lets_by", .glo "_law_state", .glo "_law_draw", .glo "_law_number", .glo "_law_alike", .glo "_law_all", .glo "_law_word", .glo "_law_leaf", .glo "_law_two", .glo "_law_shape", .glo "_law_shape_kind", .glo "_law_shape_paper", .glo "_law_used", .glo "_law_tied", .glo "_law_loop", .glo "_law_made", .glo "_law_short", .glo "_law_tally_right", .glo "_law_row", .glo "_law_great_looks", .glo "_law_right", .glo "law"]
def fa2 : List He.Fa := [.glo "Term", .glo "Name", .glo "Number", .glo "Maker", .glo "Give", .glo "Sum", .glo "Choice", .glo "Again", .glo "Late", .glo "GivenWait", .glo "OtherWait", .glo "NumberWait", .glo "ChoiceWait", .glo "State", .free "isinstance", .free "len", .free "all", .free "sorted", .free "set", .free "max", .free "int", .free "bool", .free "tuple", .free "str", .free "list", .free "dict", .free "sum", .free "abs", .free "range", .int "MOST_LETTERS" 8, .int "MOST_PLACES" 600, .int "MOST_DEEP" 60, .str "LETTERS" "abcdefghijklmnopqrstuvwxyz", .glo "SUMS", .glo "SORTS", .glo "LENGTHS", .glo "DEEDS", .cls "Name", .mkr "Name", .cls "Number", .mkr "Number", .cls "Maker", .mkr "Maker", .cls "Give", .mkr "Give", .cls "Sum", .mkr "Sum", .cls "Choice", .mkr "Choice", .cls "Again", .mkr "Again", .cls "Late", .mkr "Late", .cls "GivenWait", .mkr "GivenWait", .cls "OtherWait", .mkr "OtherWait", .cls "NumberWait", .mkr "NumberWait", .cls "ChoiceWait", .mkr "ChoiceWait", .cls "State", .mkr "State"]
def fa3 : List He.Fa := [.noat "Name" "name", .noat "Number" "number", .noat "Maker" "name", .noat "Maker" "body", .noat "Give" "maker", .noat "Give" "given", .noat "Sum" "sign", .noat "Sum" "one", .noat "Sum" "other", .noat "Choice" "asked", .noat "Choice" "nought", .noat "Choice" "other", .noat "Again" "name", .noat "Again" "body", .noat "Late" "what", .noat "Late" "ties", .noat "Late" "many", .noat "Late" "deep", .noat "Late" "full", .noat "GivenWait" "late", .noat "OtherWait" "sign", .noat "OtherWait" "late", .noat "NumberWait" "sign", .noat "NumberWait" "number", .noat "ChoiceWait" "nought", .noat "ChoiceWait" "other", .noat "State" "at", .noat "State" "ties", .noat "State" "pile"]
def fa4 : List He.Fa := [.meth "Name" "__init__", .meth "Name" "parts", .meth "Name" "rebuilt", .meth "Name" "binds", .meth "Name" "free", .meth "Number" "__init__", .meth "Number" "parts", .meth "Number" "rebuilt", .meth "Number" "binds", .meth "Number" "free", .meth "Maker" "__init__", .meth "Maker" "parts", .meth "Maker" "rebuilt", .meth "Maker" "binds", .meth "Maker" "free", .meth "Give" "__init__", .meth "Give" "parts", .meth "Give" "rebuilt", .meth "Give" "binds", .meth "Give" "free", .meth "Sum" "__init__", .meth "Sum" "parts", .meth "Sum" "rebuilt", .meth "Sum" "binds", .meth "Sum" "free", .meth "Choice" "__init__", .meth "Choice" "parts", .meth "Choice" "rebuilt", .meth "Choice" "binds", .meth "Choice" "free", .meth "Again" "__init__", .meth "Again" "parts", .meth "Again" "rebuilt", .meth "Again" "binds", .meth "Again" "free", .meth "GivenWait" "__init__", .meth "GivenWait" "sort_for", .meth "GivenWait" "after", .meth "OtherWait" "__init__", .meth "OtherWait" "sort_for", .meth "OtherWait" "after", .meth "NumberWait" "__init__", .meth "NumberWait" "sort_for", .meth "NumberWait" "after", .meth "ChoiceWait" "__init__", .meth "ChoiceWait" "sort_for", .meth "ChoiceWait" "after", .meth "Late" "__init__", .meth "State" "__init__", .meth "State" "next_sort", .meth "State" "how", .meth "State" "step", .meth "State" "came"]
def fa : List He.Fa := fa1 ++ (fa2 ++ (fa3 ++ fa4))
def tabs : List He.Tab := [(fun K => He.ga K "LENGTHS", ["name", "number", "maker", "give", "sum", "choice", "again", "open"]), (fun K => He.ga K "DEEDS", ["open", "look", "take", "turn", "next", "sum", "choose"])]
def clsN : List Str := ["Name", "Number", "Maker", "Give", "Sum", "Choice", "Again"]
/-- of the term classes: what isinstance asks -/
def insB (K : PySem.W.Frag) (C : Str) : Bool := decide (PySem.W.findIn K (.ref (He.ga K C)) "__class__" = some (some (.builtin "object.__class__"))) && (decide (PySem.W.mroIn K (He.ga K C) (.type "object") = some true) &&
  (decide (PySem.W.kitOne K (.ref (He.ga K C)) (.ref (He.ga K "Term")) = some true) && clsN.all fun D => decide (PySem.W.kitOne K (.ref (He.ga K C)) (.ref (He.ga K D)) = some (decide (C = D)))))
def exB (K : PySem.W.Frag) : Bool := decide (PySem.W.specialIn K (.builtin "object.__class__") "__get__" = some (some (.builtin "getset_descriptor.__get__"))) && (decide (PySem.W.takesIn K (.builtin "object.__class__") = some true) && (clsN.all (insB K) &&
  (He.tupB K "SUMS" [.str "+", .str "-", .str "<"] && (He.tupB K "SORTS" [.str "open", .str "look", .str "take", .str "turn", .str "next", .str "sum", .str "choose"] &&
  (He.valsB K (He.ga K "LENGTHS") [("name", .int 2), ("number", .int 2), ("maker", .int 3), ("give", .int 3), ("sum", .int 4), ("choice", .int 4), ("again", .int 3), ("open", .int 1)] &&
  He.valsB K (He.ga K "DEEDS") [("open", .glo "opened"), ("look", .glo "looked"), ("take", .glo "went_on"), ("turn", .glo "turned"), ("next", .glo "went_on"), ("sum", .glo "went_on"), ("choose", .glo "went_on")])))))
/-! ### the head: the written part is what stands at these addresses (read off one run) -/
def as0 : List Addr := [3, 6, 4, 21, 28, 35, 42, 52, 65, 77, 96, 99, 104, 111, 118, 206, 217, 227, 274, 307, 361, 408, 455, 502, 556, 565, 582, 593, 600, 605]
def as1 : List Addr := [606, 613, 620, 658, 707, 754, 801, 848, 851, 910, 921, 928, 935, 942, 943, 950, 957, 964, 969, 974, 979, 986, 993, 1000, 1007, 1014, 1021, 1026, 1033, 1040]
def as2 : List Addr := [1045, 1052, 1057, 1064, 1071, 1076, 1081, 1086, 1091, 1098, 1105, 1112, 1119, 1124, 1129, 1136, 1143, 1150, 1157, 1164, 1171, 1178, 1185, 0, 20, 27, 34, 41, 51, 64]
def as3 : List Addr := [76, 95, 103, 110, 117, 205, 216, 226, 273, 306, 360, 407, 454, 501, 555, 564, 581, 592, 599, 604, 612, 619, 657, 706, 753, 800, 847, 909, 920, 927]
def as4 : List Addr := [934, 941, 949, 956, 963, 968, 973, 978, 985, 992, 999, 1006, 1013, 1020, 1025, 1032, 1039, 1044, 1051, 1056, 1063, 1070, 1075, 1080, 1085, 1090, 1097, 1104, 1111, 1118]
def as5 : List Addr := [1123, 1128, 1135, 1142, 1149, 1156, 1163, 1170, 1177, 1184, 15, 16, 17, 18, 19, 50, 53, 63, 75, 93, 94, 132, 139, 146, 153, 160, 165, 172, 177, 184]
def as6 : List Addr := [189, 196, 203, 204, 207, 208, 211, 212, 213, 214, 215, 225, 243, 250, 257, 264, 271, 272, 290, 297, 304, 305, 323, 330, 337, 344, 351, 358, 359, 377]
def as7 : List Addr := [384, 391, 398, 405, 406, 424, 431, 438, 445, 452, 453, 471, 478, 485, 492, 499, 500, 518, 525, 532, 539, 546, 553, 554, 559, 560, 561, 562, 563, 579]
def as8 : List Addr := [580, 583, 584, 587, 588, 589, 590, 591, 634, 641, 648, 655, 656, 659, 660, 676, 683, 690, 697, 704, 705, 723, 730, 737, 744, 751, 752, 770, 777, 784]
def as9 : List Addr := [791, 798, 799, 817, 824, 831, 838, 845, 846, 865, 872, 879, 886, 893, 900, 907, 908, 911, 912, 915, 916, 917, 918, 919, 92, 131, 138, 145, 152, 159]
def as10 : List Addr := [164, 171, 176, 183, 188, 195, 202, 242, 249, 256, 263, 270, 289, 296, 303, 322, 329, 336, 343, 350, 357, 376, 383, 390, 397, 404, 423, 430, 437, 444]
def as11 : List Addr := [451, 470, 477, 484, 491, 498, 517, 524, 531, 538, 545, 552, 578, 633, 640, 647, 654, 675, 682, 689, 696, 703, 722, 729, 736, 743, 750, 769, 776, 783]
def as12 : List Addr := [790, 797, 816, 823, 830, 837, 844, 864, 871, 878, 885, 892, 899, 906]
def asAll : List Addr := as0 ++ (as1 ++ (as2 ++ (as3 ++ (as4 ++ (as5 ++ (as6 ++ (as7 ++ (as8 ++ (as9 ++ (as10 ++ (as11 ++ (as12))))))))))))
/-- of a def: all that is asked, but the code's name, which is read as a datum (its == costs the kernel more than all the rest) -/
def okL (K : PySem.W.Frag) (d : He.DefD) : Bool := PySem.W.keepIn K (.ref (He.fAd K d.at_)) && (match K.lookup (He.fAd K d.at_) with
  | some ⟨_, _, .func fd, _⟩ => He.dflB K fd.defaults (d.dvs K) && He.kwdB K fd.kwdefaults (d.kws K)
  | _ => false)
def codeN (K : PySem.W.Frag) (cd : Value) : Option Str := match cd with
  | .ref c => (match K.lookup c with
    | some ⟨_, _, .fields vs, _⟩ => (match vs.toList with
      | _ :: .str n _ :: _ => some n
      | _ => none)
    | _ => none)
  | _ => none
def codeW (K : PySem.W.Frag) (d : He.DefD) : Option Str := match K.lookup (He.fAd K d.at_) with
  | some ⟨_, _, .func fd, _⟩ => codeN K fd.code
  | _ => none
theorem codeN_ok {K : PySem.W.Frag} {cd : Value} {q : Str} (h : codeN K cd = some q) : PySem.W.codeIn K cd q = true := by
  unfold codeN at h
  split at h
  · split at h
    · rename_i e1
      split at h
      · rename_i e2
        cases h
        unfold PySem.W.codeIn
        simp only [e1, e2]
        exact beq_self_eq_true q
      · cases h
    · cases h
  · cases h
theorem okL_ok {K : PySem.W.Frag} {d : He.DefD} (h : okL K d = true) (c : codeW K d = some d.qual) : d.ok K = true := by
  unfold okL at h
  unfold codeW at c
  unfold He.DefD.ok
  obtain ⟨h1, h2⟩ := He.ba h
  rw [h1]
  split at c
  · rename_i e
    rw [e] at h2
    have h2 : (He.dflB K _ (d.dvs K) && He.kwdB K _ (d.kws K)) = true := h2
    rw [e]
    simp only [codeN_ok c, h2]
    rfl
  · cases c
abbrev AlL : Type := He.AlT × List (Option Str)
def obsL (K : PySem.W.Frag) : AlL := ((((fa.all fun f => f.ok K) && fn.all fun d => okL K d, fn.map fun d => He.fnW K d.at_), tabs.map fun t => He.dicW K (t.1 K)), fn.map fun d => codeW K d)
def valL (w : World) : AlL := (((true, fn.map He.DefD.val), tabs.map fun t => some (He.keysIn w.params t.2)), fn.map fun d => some d.qual)
theorem saysL {w : World} {K : PySem.W.Frag} (e : obsL K = valL w) : He.SaysT fa fn tabs w K := by
  have h1 : ((fa.all fun f => f.ok K) && fn.all fun d => okL K d) = true := congrArg (fun z : AlL => z.1.1.1) e
  have h2 : (fn.map fun d => He.fnW K d.at_) = fn.map He.DefD.val := congrArg (fun z : AlL => z.1.1.2) e
  have h3 : (tabs.map fun t => He.dicW K (t.1 K)) = tabs.map fun t => some (He.keysIn w.params t.2) := congrArg (fun z : AlL => z.1.2) e
  have h4 : (fn.map fun d => codeW K d) = fn.map fun d => some d.qual := congrArg (fun z : AlL => z.2) e
  obtain ⟨k1, k2⟩ := He.ba h1
  have k3 : (fn.all fun d => d.ok K) = true := List.all_eq_true.mpr fun d hd => okL_ok (List.all_eq_true.mp k2 d hd) (List.map_inj_left.mp h4 d hd)
  show (((fa.all fun f => f.ok K) && fn.all fun d => d.ok K, fn.map fun d => He.fnW K d.at_), tabs.map fun t => He.dicW K (t.1 K)) = ((true, fn.map He.DefD.val), tabs.map fun t => some (He.keysIn w.params t.2))
  rw [k1, k3, h2, h3]
  rfl
abbrev AlM : Type := AlL × Bool
def obsM (g : Addr → Option Obj) : AlM := (obsL (He.frG g asAll), exB (He.frG g asAll))
def valM (w : World) : AlM := (valL w, true)
/-- what is told of the written part -/
structure Says (w : World) (K : PySem.W.Frag) : Prop where
  t : He.SaysT fa fn tabs w K
  ex : exB K = true
theorem says_of {w : World} {h : Heap} (e : obsM h.get? = valM w) : Says w (He.frG h.get? asAll) := ⟨saysL (congrArg (fun z : AlM => z.1) e), congrArg (fun z : AlM => z.2) e⟩
def hk : PySem.W.Hook where
  α := AlM
  obs := fun s => obsM s.heap.get?
  val := valM
  says := fun w h => ∃ K : PySem.W.Frag, K.In h ∧ Says w K
  of := fun _ _ e => ⟨_, He.frG_in, says_of e⟩
  keeps := fun _ _ _ ⟨K, hK, c⟩ k => ⟨K, PySem.W.Frag.In.keeps hK k, c⟩
abbrev R : PySem.W.OpenRow := PySem.W.OpenLaw.row PySem.Challenge.rw_usetally_k33_whole_paper_tells_the_run
abbrev qv : Program := PySem.W.view R.prog [93]
def ob (s : PySem.W.SharedT) : hk.α := obsM (HandSHeadRun.getT s)
theorem ob_eq (s : PySem.W.SharedT) : ob s = hk.obs s.abs := congrArg obsM (funext (HandSHeadRun.getT_eq s))
def names0 : List PySem.Str := ["_wall", "is_number", "is_kind", "are_kinds", "TallyError", "BadTerm", "NoStep", "NotClosed", "LETTERS", "MOST_LETTERS", "SUMS", "MOST_PLACES", "MOST_DEEP", "is_name", "is_whole", "need_name", "Term", "need_terms", "Open", "Name"]
def names1 : List PySem.Str := ["Number", "Maker", "Give", "Sum", "Choice", "Again", "must_be_closed", "Late", "is_beyond", "measured", "read_back", "LENGTHS", "term_of", "sum_of", "Waiting", "GivenWait", "OtherWait", "NumberWait", "ChoiceWait", "SORTS"]
def names2 : List PySem.Str := ["State", "opened", "looked", "turned", "went_on", "DEEDS", "first_state", "machine_run", "tally_with", "tallies_together", "kinds_used", "uses_but", "has_form", "judged", "judged_name", "judged_maker", "judged_each", "put_together", "judged_give", "judged_sum"]
def names3 : List PySem.Str := ["judged_choice", "judged_again", "lets_by", "_law_state", "_law_draw", "_law_number", "_law_alike", "_law_all", "_law_word", "_law_leaf", "_law_two", "_law_shape", "_law_shape_kind", "_law_shape_paper", "_law_used", "_law_tied", "_law_loop", "_law_made", "_law_short", "_law_tally_right"]
def names4 : List PySem.Str := ["_law_row", "_law_great_looks", "_law_right"]
def names : List PySem.Str := names0 ++ names1 ++ names2 ++ names3 ++ names4
theorem runF (w : World) : HandSHeadRun.RunEq R qv hk ob 9000 names (w.withFollow "special-get-raises" false) := by
  intro os
  kernel_rfl
theorem runT (w : World) : HandSHeadRun.RunEq R qv hk ob 9000 names (w.withFollow "special-get-raises" true) := by
  intro os
  kernel_rfl
theorem run (w : World) : HandSHeadRun.RunEq R qv hk ob 9000 names w := PySem.W.byRow2 "special-get-raises" (P := fun w => HandSHeadRun.RunEq R qv hk ob 9000 names w) runF runT w
end Ut
set_option Elab.async false
set_option linter.all false
set_option maxRecDepth 100000
set_option maxHeartbeats 4000000
namespace Ut
open PySem PySem.Spec PyProof.Rows L2
/-! ### the text as the top has left it -/
structure Tx (w : World) (K : PySem.W.Frag) (mg : Str → Option Value) : Prop where
  s : Says w K
  h : ∃ h : Heap, K.In h ∧ h.Ns mainGlobals mg
section
variable {P : Program} {w : World} {K : PySem.W.Frag} {mg : Str → Option Value} {base : Heap}
theorem Tx.fact (T : Tx w K mg) (i : Nat) {f : He.Fa} (h : fa[i]? = some f := by rfl) : f.ok K = true := T.s.t.d.fact i h
theorem Tx.glo (T : Tx w K mg) (i : Nat) {x : Str} (h : fa[i]? = some (.glo x) := by rfl) : mg x = some (.ref (He.ga K x)) := by
  obtain ⟨hp, X, G⟩ := T.h
  exact He.glo_ok X G (T.fact i h)
theorem Tx.free (T : Tx w K mg) (i : Nat) {x : Str} (h : fa[i]? = some (.free x) := by rfl) : mg x = none := by
  obtain ⟨hp, X, G⟩ := T.h
  exact He.free_ok X G (T.fact i h)
theorem Tx.int (T : Tx w K mg) (i : Nat) {x : Str} {n : Int} (h : fa[i]? = some (.int x n) := by rfl) : ∃ u, mg x = some u ∧ RelV (.int n) u := by
  obtain ⟨hp, X, G⟩ := T.h
  obtain ⟨t, e⟩ := He.int_ok X G (T.fact i h)
  exact ⟨_, e, t, rfl⟩
theorem Tx.str (T : Tx w K mg) (i : Nat) {x z : Str} (h : fa[i]? = some (.str x z) := by rfl) : ∃ u, mg x = some u ∧ RelV (.str z) u := by
  obtain ⟨hp, X, G⟩ := T.h
  obtain ⟨t, e⟩ := He.str_ok X G (T.fact i h)
  exact ⟨_, e, t, rfl⟩
theorem Tx.cls (T : Tx w K mg) (i : Nat) {x : Str} (h : fa[i]? = some (.cls x) := by rfl) : Cls K (He.ga K x) := He.cls_ok (T.fact i h)
theorem Tx.noat (T : Tx w K mg) (i : Nat) {x f : Str} (h : fa[i]? = some (.noat x f) := by rfl) : NoAttr K (He.ga K x) f := He.noat_ok (T.fact i h)
theorem Tx.meth (T : Tx w K mg) (i : Nat) {x m : Str} (h : fa[i]? = some (.meth x m) := by rfl) : Meth K (He.ga K x) m (He.ma K (He.ga K x) m) := He.meth_ok (T.fact i h)
theorem Tx.mkr (T : Tx w K mg) (i : Nat) {x : Str} (h : fa[i]? = some (.mkr x) := by rfl) : Mk K (He.ga K x) (He.ma K (He.ga K x) "__init__") := He.mkr_ok (T.fact i h)
theorem Tx.fn (T : Tx w K mg) (i : Nat) {d : He.DefD} (h : fn[i]? = some d := by rfl) : ∃ fd, FunD K d.name d.qual d.params d.body d.scope (d.dvs K) (d.kws K) (He.fAd K d.at_) fd := T.s.t.d.def_ i h

/-! ### a def that may be called by its name; a method of a class; a class that may be made -/
structure Cal (P : Program) (w : World) (K : PySem.W.Frag) (mg : Str → Option Value) (base : Heap) (k : Nat) (x : Str) (sp : Sp) : Prop where
  ex : ∃ (f : Addr) (fd : FuncData) (ps : List Str), FnOk P w K mg base CX0 k f fd ps sp ∧ mg x = some (.ref f) ∧ PySem.W.keepIn K (.ref f) = true ∧ Binds K fd ps []
structure Met (P : Program) (w : World) (K : PySem.W.Frag) (mg : Str → Option Value) (base : Heap) (k : Nat) (C : Addr) (m : Str) (sp : Sp) : Prop where
  ex : ∃ (f : Addr) (fd : FuncData) (ps : List Str), Cls K C ∧ Meth K C m f ∧ FnOk P w K mg base CX0 k f fd ps sp ∧ Binds K fd ps []
structure Mak (P : Program) (w : World) (K : PySem.W.Frag) (mg : Str → Option Value) (base : Heap) (k : Nat) (x : Str) (C : Addr) (sp : Sp) : Prop where
  ex : ∃ (f : Addr) (fd : FuncData) (ps : List Str), Mk K C f ∧ FnOk P w K mg base CX0 k f fd ps sp ∧ mg x = some (.ref C) ∧ Binds K fd ps []
theorem Cal.mono {j k : Nat} {x : Str} {sp : Sp} (c : Cal P w K mg base j x sp) (h : j ≤ k) : Cal P w K mg base k x sp := by
  obtain ⟨f, fd, ps, F, r⟩ := c.ex
  exact ⟨f, fd, ps, F.mono h, r⟩
theorem Met.mono {j k : Nat} {C : Addr} {m : Str} {sp : Sp} (c : Met P w K mg base j C m sp) (h : j ≤ k) : Met P w K mg base k C m sp := by
  obtain ⟨f, fd, ps, c1, c2, F, r⟩ := c.ex
  exact ⟨f, fd, ps, c1, c2, F.mono h, r⟩
theorem Mak.mono {j k : Nat} {C : Addr} {x : Str} {sp : Sp} (c : Mak P w K mg base j x C sp) (h : j ≤ k) : Mak P w K mg base k x C sp := by
  obtain ⟨f, fd, ps, c1, F, r⟩ := c.ex
  exact ⟨f, fd, ps, c1, F.mono h, r⟩
/-- a body's proof: what Fun.ok wants -/
abbrev BodyOk (P : Program) (w : World) (K : PySem.W.Frag) (mg : Str → Option Value) (base : Heap) (N : List Str) (qual : Str) (st : Stmt) (f : Addr) (k : Nat) (sp : Sp) : Prop :=
  ∀ (cdv : Value) (A : Around) (outer : List Env) (s : Shared) (H : Hp) (vs : List V) (Q : VK) (E : XK), Room k (A.deeper (envOfC qual (defScope st) s.heap.objs.size f cdv)) → sp vs H Q E →
    ∃ t, PSs (cxOf CX0 P w K mg base N qual (defScope st) f cdv A outer s H E).nox (defBody st) t ∧ t { nx := fun _ H' => Q .non H', rt := Q } (start N vs) H
abbrev BindP (x qual : Str) (st : Stmt) (ps : List Str) : Prop :=
  ∀ (kV doc pm : Value) (an : Option Addr) (cdv ct : Value) (us : List Value), us.length = ps.length → bindArgs (PySem.W.fnOf x qual (defArgs st) (defBody st) (defScope st) .none kV doc pm an cdv ct) ⟨us, []⟩ = pure (ps.zip us)
theorem fnok_mk (T : Tx w K mg) {at_ : Str × Option Str} {x qual : Str} {st : Stmt} {N ps : List Str} {k : Nat} {sp : Sp} (i : Nat) (h : fn[i]? = some ⟨at_, x, qual, defArgs st, defBody st, defScope st, [], []⟩) (S : FnScope N ps (defScope st)) (hb : BindP x qual st ps)
    (len : ∀ vs H Q E, sp vs H Q E → vs.length = ps.length) (body : BodyOk P w K mg base N qual st (He.fAd K at_) k sp) :
    ∃ (fd : FuncData), FnOk P w K mg base CX0 (k + 1) (He.fAd K at_) fd ps sp ∧ PySem.W.keepIn K (.ref (He.fAd K at_)) = true ∧ Binds K fd ps [] := by
  obtain ⟨fd, F⟩ := T.fn i h
  refine ⟨fd, ?_, F.kp, F.bindsN hb⟩
  refine F.ok S len fun cdv A outer s H vs Q E hr hsp => ?_
  obtain ⟨t, h1, q⟩ := body cdv A outer s H vs Q E hr hsp
  exact ⟨t, h1.nox, q⟩
theorem cal_mk (T : Tx w K mg) {x : Str} {st : Stmt} {N ps : List Str} {k : Nat} {sp : Sp} (i j : Nat) (h : fn[i]? = some (dFn x st)) (hg : fa[j]? = some (.glo x)) (S : FnScope N ps (defScope st)) (hb : BindP x x st ps)
    (len : ∀ vs H Q E, sp vs H Q E → vs.length = ps.length) (body : BodyOk P w K mg base N x st (He.fAd K (x, none)) k sp) : Cal P w K mg base (k + 1) x sp := by
  obtain ⟨fd, F, kp, b⟩ := fnok_mk (P := P) (base := base) T i h S hb len body
  exact ⟨_, fd, ps, F, T.glo j hg, kp, b⟩
theorem met_mk (T : Tx w K mg) {C x q : Str} {st : Stmt} {N ps : List Str} {k : Nat} {sp : Sp} (i j jc : Nat) (h : fn[i]? = some (dMe C x q st)) (hg : fa[j]? = some (.meth C x)) (hc : fa[jc]? = some (.cls C)) (S : FnScope N ps (defScope st)) (hb : BindP x q st ps)
    (len : ∀ vs H Q E, sp vs H Q E → vs.length = ps.length) (body : BodyOk P w K mg base N q st (He.fAd K (C, some x)) k sp) : Met P w K mg base (k + 1) (He.ga K C) x sp := by
  obtain ⟨fd, F, kp, b⟩ := fnok_mk (P := P) (base := base) T i h S hb len body
  exact ⟨_, fd, ps, T.cls jc hc, T.meth j hg, F, b⟩
theorem mak_mk (T : Tx w K mg) {C q : Str} {st : Stmt} {N ps : List Str} {k : Nat} {sp : Sp} (i j jg : Nat) (h : fn[i]? = some (dMe C "__init__" q st)) (hg : fa[j]? = some (.mkr C)) (hc : fa[jg]? = some (.glo C)) (S : FnScope N ps (defScope st)) (hb : BindP "__init__" q st ps)
    (len : ∀ vs H Q E, sp vs H Q E → vs.length = ps.length) (body : BodyOk P w K mg base N q st (He.fAd K (C, some "__init__")) k sp) : Mak P w K mg base (k + 1) C (He.ga K C) sp := by
  obtain ⟨fd, F, kp, b⟩ := fnok_mk (P := P) (base := base) T i h S hb len body
  exact ⟨_, fd, ps, T.mkr j hg, F, T.glo jg hc, b⟩
/-- more of what may be asked -/
theorem Cal.imp {k : Nat} {x : Str} {sp sp' : Sp} (c : Cal P w K mg base k x sp) (h : ∀ vs H Q E, sp' vs H Q E → sp vs H Q E) : Cal P w K mg base k x sp' := by
  obtain ⟨f, fd, ps, F, r⟩ := c.ex
  exact ⟨f, fd, ps, F.imp h, r⟩
theorem Met.imp {k : Nat} {C : Addr} {m : Str} {sp sp' : Sp} (c : Met P w K mg base k C m sp) (h : ∀ vs H Q E, sp' vs H Q E → sp vs H Q E) : Met P w K mg base k C m sp' := by
  obtain ⟨f, fd, ps, c1, c2, F, r⟩ := c.ex
  exact ⟨f, fd, ps, c1, c2, F.imp h, r⟩
end
/-! ### rules in short -/
section
variable {X : Cx} {k j : Nat} {C : Addr} {x m : Str} {sp : Sp} {p pos apos : Pos} {e o : Expr} {es : List Expr} {ta : TE} {t : TA}
/-- one of several readings, chosen when it is read -/
theorem pe_any {ι : Type} {ts : ι → TE} (h : ∀ i, PE X e (ts i)) : PE X e (fun σ H Q => ∃ i, ts i σ H Q) := ⟨fun pins s σ H Q I ⟨i, hi⟩ => (h i).run pins s σ H Q I hi⟩
theorem pe_two {t1 t2 : TE} (h1 : PE X e t1) (h2 : PE X e t2) : PE X e (fun σ H Q => t1 σ H Q ∨ t2 σ H Q) := ⟨fun pins s σ H Q I h => h.elim (h1.run pins s σ H Q I) (h2.run pins s σ H Q I)⟩
theorem pt_two {t1 t2 : TT} (h1 : PT X e t1) (h2 : PT X e t2) : PT X e (fun σ H Q => t1 σ H Q ∨ t2 σ H Q) := ⟨fun pins s σ H Q I h => h.elim (h1.run pins s σ H Q I) (h2.run pins s σ H Q I)⟩
theorem pe_c (c : Cal X.prog X.w X.K X.mg X.base k x sp) (hr : Room j X.A) (hk : k ≤ j) (hg : Gl X x) (ha : PA X (e :: es) t)
    (hdb : (x == ("__debug__" : Str)) = false := by decide) (he : starEach (e :: es) X.env = (false, eval e X.env) :: starEach es X.env := by rfl) (hpl : (backTo pos (starEach es X.env)).any (·.1) = false := by rfl) :
    PE X (.Call (.Name x p) (e :: es) [] pos) (tCall sp [] E0 t) := by
  obtain ⟨f, fd, ps, F, hm, kp, b⟩ := c.ex
  exact pe_call F (hr.mono hk) hg hm kp b .nil pass0 ha hdb he hpl
theorem pe_mk (c : Mak X.prog X.w X.K X.mg X.base k x C sp) (hr : Room j X.A) (hk : k + 1 ≤ j) (hg : Gl X x) (ha : PA X (e :: es) t)
    (hdb : (x == ("__debug__" : Str)) = false := by decide) (he : starEach (e :: es) X.env = (false, eval e X.env) :: starEach es X.env := by rfl) (hpl : (backTo pos (starEach es X.env)).any (·.1) = false := by rfl) :
    PE X (.Call (.Name x p) (e :: es) [] pos) (tMake C sp [] E0 t) := by
  obtain ⟨f, fd, ps, M, F, hm, b⟩ := c.ex
  exact pe_make M F (hr.mono hk) hg hm b .nil pass0 ha hdb he hpl
theorem pe_mt {pl : Sem Bool} (c : Met X.prog X.w X.K X.mg X.base k C m sp) (hr : Room j X.A) (hk : k ≤ j) (he : PE X o ta) (ha : PA X (e :: es) t)
    (hst : starEach (e :: es) X.env = (false, eval e X.env) :: starEach es X.env := by rfl) (hpl : (backTo pos (starEach es X.env)).any (·.1) = false := by rfl)
    (ht : eval (.Call (.Attribute o m apos) (e :: es) [] pos) X.env = (do
      let ov ← eval o X.env
      standAt apos.atName
      let (f, first) ← holding [ov] (getMethod ov m pl)
      callWith pos f first (backTo pos (starEach (e :: es) X.env)) (backToKw pos (keywordEach [] X.env))) := by rfl) :
    PE X (.Call (.Attribute o m apos) (e :: es) [] pos) (tMeth C m sp [] E0 ta t) := by
  obtain ⟨f, fd, ps, hc, hm, F, b⟩ := c.ex
  exact pe_meth (pl := pl) he hc hm F (hr.mono hk) b .nil pass0 ha hst hpl ht
theorem pe_mt0 {pl : Sem Bool} (c : Met X.prog X.w X.K X.mg X.base k C m sp) (hr : Room j X.A) (hk : k ≤ j) (he : PE X o ta)
    (ht : eval (.Call (.Attribute o m apos) [] [] pos) X.env = (do
      let ov ← eval o X.env
      standAt apos.atName
      let (f, first) ← holding [ov] (getMethod ov m pl)
      callWith pos f first (backTo pos (starEach [] X.env)) (backToKw pos (keywordEach [] X.env))) := by rfl) :
    PE X (.Call (.Attribute o m apos) [] [] pos) (tMeth C m sp [] E0 ta tNil) := by
  obtain ⟨f, fd, ps, hc, hm, F, b⟩ := c.ex
  exact pe_meth0 (pl := pl) he hc hm F (hr.mono hk) b .nil pass0 ht
end
end Ut
set_option Elab.async false
set_option linter.all false
set_option maxRecDepth 100000
set_option maxHeartbeats 4000000
namespace Ut
open PySem PySem.Spec PyProof.Rows L2
/-! ### heaps with some addresses hidden: what stands there may change -/
def hid (B : List Addr) (H : Hp) : Hp := fun b => if b ∈ B then none else H b
def Dom (B : List Addr) (H : Hp) : Prop := ∀ a ∈ B, H a ≠ none
section
variable {B B' : List Addr} {H H' H1 H2 : Hp} {a b p : Addr} {o u : HO} {K : PySem.W.Frag}
theorem hid_in (h : b ∈ B) : hid B H b = none := if_pos h
theorem hid_out (h : b ∉ B) : hid B H b = H b := if_neg h
theorem hid_sub : Same (hid B H) H := fun b o h => by
  unfold hid at h
  by_cases q : b ∈ B
  · rw [if_pos q] at h; cases h
  · rw [if_neg q] at h; exact h
theorem hid_nil : hid [] H = H := by
  funext b
  exact hid_out (by simp)
theorem hid_up (s : Same H H') : Same (hid B H) (hid B H') := fun b o h => by
  by_cases q : b ∈ B
  · rw [hid_in q] at h; cases h
  · rw [hid_out q] at h ⊢; exact s b o h
/-- all that is not hidden is kept -/
def SameX (B : List Addr) (H H' : Hp) : Prop := ∀ b o, b ∉ B → H b = some o → H' b = some o
theorem SameX.refl : SameX B H H := fun _ _ _ h => h
theorem SameX.trans (x : SameX B H H1) (y : SameX B H1 H2) : SameX B H H2 := fun b o n h => y b o n (x b o n h)
theorem same_x (s : Same H H') : SameX B H H' := fun b o _ h => s b o h
theorem samex_hid (s : SameX B H H') : Same (hid B H) (hid B H') := fun b o h => by
  by_cases q : b ∈ B
  · rw [hid_in q] at h; cases h
  · rw [hid_out q] at h ⊢; exact s b o q h
theorem samex_of_hid (s : Same (hid B H) (hid B H')) : SameX B H H' := fun b o n h => by
  have := s b o (by rw [hid_out n]; exact h)
  rwa [hid_out n] at this
theorem same_new (h : H p = none) (o : HO) : Same H (upd H p o) := fun b u q => by rw [upd_ne (ne_of_none q h)]; exact q
theorem same_newX (h : H p = none) (s : Same H0 H) (o : HO) : Same H0 (upd H p o) := s.trans (same_new h o)
theorem samex_upd (h : p ∈ B) (o : HO) : SameX B H (upd H p o) := fun b u n q => by
  rw [upd_ne (fun e : b = p => n (by rw [e]; exact h))]; exact q
theorem Dom.out (d : Dom B H) (h : H p = none) : p ∉ B := fun m => d p m h
theorem Dom.up (d : Dom B H) (s : Same H H') : Dom B H' := fun a m e => by
  cases q : H a with
  | none => exact d a m q
  | some o => rw [s a o q] at e; cases e
theorem Dom.nil : Dom [] H := fun _ h => by cases h
theorem hid_new (d : Dom B H) (h : H p = none) : hid B (upd H p o) p = some o := by rw [hid_out (d.out h)]; exact upd_same
theorem hid_at (h : hid B H a = some o) : H a = some o := hid_sub a o h
theorem hid_at' (h : hid B H a = some o) (s : Same H H') : hid B H' a = some o := hid_up s a o h
theorem hid_ne (h : hid B H a = some o) (m : b ∈ B) : a ≠ b := fun e => by rw [e, hid_in m] at h; cases h
/-- what is known ahead of a new object does not speak of it -/
theorem same_hid_new (h : H p = none) : Same H (hid [p] (upd H p o)) := fun b u q => by
  have n : b ≠ p := ne_of_none q h
  rw [hid_out (by simpa using n), upd_ne n]; exact q
theorem same_hid_more (s : Same H H') (h : H p = none) : Same (hid B H) (hid (p :: B) H') := fun b u q => by
  have q' := hid_sub b u q
  have n : b ≠ p := ne_of_none q' h
  have nB : b ∉ B := fun m => by rw [hid_in m] at q; cases q
  rw [hid_out (by simp [n, nB])]; exact s b u q'
theorem hid_less : Same (hid (p :: B) H) (hid B H) := fun b u q => by
  have nB : b ∉ p :: B := fun m => by rw [hid_in m] at q; cases q
  rw [hid_out nB] at q
  rw [hid_out (fun m => nB (List.mem_cons_of_mem _ m))]; exact q
theorem Dom.cons (d : Dom B H) (h : H p ≠ none) : Dom (p :: B) H := fun a m => by
  rcases List.mem_cons.mp m with e | m
  · rw [e]; exact h
  · exact d a m
theorem same_seqT (e : Same H H') {xs : List V} (h : SqT K H a xs) : SqT K H' a xs := by
  rcases h with (h | ⟨o, h⟩) | h
  · exact .inl (.inl (e _ _ h))
  · exact .inl (.inr ⟨o, e _ _ h⟩)
  · exact .inr h
theorem SqT.new {xs : List V} (h : H a = some (.tup xs)) : SqT K H a xs := .inl (.inl h)
theorem SqL.new {xs : List V} (h : H a = some (.lst xs)) : SqL K H a xs := .inl (.inl h)

/-! ### plain data -/
mutual
theorem dp_up (s : Same H H') : ∀ {d : PyData} {v : V}, Dp K H v d → Dp K H' v d
  | _, _, .non => .non
  | _, _, .bl b => .bl b
  | _, _, .int i => .int i
  | _, _, .str x => .str x
  | _, _, .lst q r => .lst (s.seq q) (dps_up s r)
  | _, _, .tup q r => .tup (same_seqT s q) (dps_up s r)
theorem dps_up (s : Same H H') : ∀ {ds : List PyData} {vs : List V}, DpAll K H vs ds → DpAll K H' vs ds
  | _, _, .nil => .nil
  | _, _, .cons a b => .cons (dp_up s a) (dps_up s b)
end
theorem dps_len : ∀ {vs : List V} {ds : List PyData}, DpAll K H vs ds → vs.length = ds.length
  | _, _, .nil => rfl
  | _, _, .cons _ b => congrArg Nat.succ (dps_len b)
theorem dps_app : ∀ {vs ws : List V} {ds es : List PyData}, DpAll K H vs ds → DpAll K H ws es → DpAll K H (vs ++ ws) (ds ++ es)
  | _, _, _, _, .nil, h => h
  | _, _, _, _, .cons a b, h => .cons a (dps_app b h)
theorem dps_at : ∀ {vs : List V} {ds : List PyData} {i : Nat} {v : V}, DpAll K H vs ds → vs[i]? = some v → ∃ d, ds[i]? = some d ∧ Dp K H v d
  | _, _, 0, _, .cons a _, e => by cases e; exact ⟨_, rfl, a⟩
  | _, _, i + 1, _, .cons _ b, e => dps_at b (i := i) (by simpa using e)
theorem dps_at' : ∀ {vs : List V} {ds : List PyData} {i : Nat} {d : PyData}, DpAll K H vs ds → ds[i]? = some d → ∃ v, vs[i]? = some v ∧ Dp K H v d
  | _, _, 0, _, .cons a _, e => by cases e; exact ⟨_, rfl, a⟩
  | _, _, i + 1, _, .cons _ b, e => dps_at' b (i := i) (by simpa using e)
theorem dps_rep {v : V} {d : PyData} (h : Dp K H v d) : ∀ n : Nat, DpAll K H (List.replicate n v) (List.replicate n d)
  | 0 => .nil
  | n + 1 => .cons h (dps_rep h n)
theorem dps_ints : ∀ (ns : List Int), DpAll K H (ns.map V.int) (ns.map PyData.int)
  | [] => .nil
  | n :: r => .cons (.int n) (dps_ints r)
theorem dps_ints_of : ∀ {ns : List Int} {vs : List V}, DpAll K H vs (ns.map PyData.int) → vs = ns.map V.int
  | [], _, .nil => rfl
  | n :: r, _, .cons (.int _) b => by rw [dps_ints_of b] <;> rfl
theorem dp_int_of {v : V} {i : Int} (h : Dp K H v (.int i)) : v = .int i := by cases h; rfl
theorem dp_str_of {v : V} {x : Str} (h : Dp K H v (.str x)) : v = .str x := by cases h; rfl
theorem dp_tup_of {v : V} {ds : List PyData} (h : Dp K H v (.tuple ds)) : ∃ a xs, v = .ref a ∧ SqT K H a xs ∧ DpAll K H xs ds := by cases h with | tup q r => exact ⟨_, _, rfl, q, r⟩
theorem dp_lst_of {v : V} {ds : List PyData} (h : Dp K H v (.list ds)) : ∃ a xs, v = .ref a ∧ SqL K H a xs ∧ DpAll K H xs ds := by cases h with | lst q r => exact ⟨_, _, rfl, q, r⟩
theorem dp_newT (h : H a = some (.tup xs)) (r : DpAll K H xs ds) : Dp K H (.ref a) (.tuple ds) := .tup (SqT.new h) r
theorem dp_newL (h : H a = some (.lst xs)) (r : DpAll K H xs ds) : Dp K H (.ref a) (.list ds) := .lst (SqL.new h) r
theorem dps1_of {vs : List V} {d : PyData} (h : DpAll K H vs [d]) : ∃ v, vs = [v] ∧ Dp K H v d := by
  cases h with | cons a b => cases b; exact ⟨_, rfl, a⟩
theorem dps2_of {vs : List V} {d e : PyData} (h : DpAll K H vs [d, e]) : ∃ v u, vs = [v, u] ∧ Dp K H v d ∧ Dp K H u e := by
  cases h with | cons a b => obtain ⟨u, rfl, r⟩ := dps1_of b; exact ⟨_, _, rfl, a, r⟩
theorem dps3_of {vs : List V} {d e f : PyData} (h : DpAll K H vs [d, e, f]) : ∃ v u x, vs = [v, u, x] ∧ Dp K H v d ∧ Dp K H u e ∧ Dp K H x f := by
  cases h with | cons a b => obtain ⟨u, x, rfl, r⟩ := dps2_of b; exact ⟨_, _, _, rfl, a, r⟩
theorem dps4_of {vs : List V} {d e f g : PyData} (h : DpAll K H vs [d, e, f, g]) : ∃ v u x y, vs = [v, u, x, y] ∧ Dp K H v d ∧ Dp K H u e ∧ Dp K H x f ∧ Dp K H y g := by
  cases h with | cons a b => obtain ⟨u, x, y, rfl, r⟩ := dps3_of b; exact ⟨_, _, _, _, rfl, a, r⟩
theorem dps5_of {vs : List V} {d e f g i : PyData} (h : DpAll K H vs [d, e, f, g, i]) : ∃ v u x y z, vs = [v, u, x, y, z] ∧ Dp K H v d ∧ Dp K H u e ∧ Dp K H x f ∧ Dp K H y g ∧ Dp K H z i := by
  cases h with | cons a b => obtain ⟨u, x, y, z, rfl, r⟩ := dps4_of b; exact ⟨_, _, _, _, _, rfl, a, r⟩

/-! ### isinstance -/
/-- isinstance(x, c) is b -/
def IsI (K : PySem.W.Frag) (H : Hp) (x c : V) (b : Bool) : Prop := ∃ t u, ClsV c u ∧ TyX K H x t ∧ PySem.W.kitOne K t u = some b
def tyN : PyData → String
  | .none => "NoneType" | .bool _ => "bool" | .int _ => "int" | .str _ => "str" | .list _ => "list" | .tuple _ => "tuple" | .dict _ => "dict"
theorem ty_dp {v : V} {d : PyData} (h : Dp K H v d) : TyX K H v (.type (tyN d)) := by
  cases h with
  | non => exact .base .non
  | bl b => exact .base (.bl b)
  | int i => exact .base (.int i)
  | str x => exact .base (.str x)
  | lst q r =>
    rcases q with (q | ⟨o, q⟩) | ⟨o, its, n, q, c, _⟩
    · exact .base (.lst q)
    · exact .base (.frz q)
    · exact .kList q c
  | tup q r =>
    rcases q with (q | ⟨o, q⟩) | ⟨o, its, n, q, c, _⟩
    · exact .base (.tup q)
    · exact .fTuple q
    · exact .kTuple q c
theorem isi_dp {v : V} {d : PyData} {n : String} {b : Bool} (h : Dp K H v d) (e : kitB (tyN d) n = some b) : IsI K H v (.ty n) b := ⟨_, _, .ty n, ty_dp h, kit_ty e⟩
theorem isi_non {n : String} {b : Bool} (e : kitB "NoneType" n = some b) : IsI K H .non (.ty n) b := ⟨_, _, .ty n, .base .non, kit_ty e⟩
theorem isi_int {n : String} {i : Int} {b : Bool} (e : kitB "int" n = some b) : IsI K H (.int i) (.ty n) b := ⟨_, _, .ty n, .base (.int i), kit_ty e⟩
theorem isi_str {n : String} {i : Str} {b : Bool} (e : kitB "str" n = some b) : IsI K H (.str i) (.ty n) b := ⟨_, _, .ty n, .base (.str i), kit_ty e⟩
theorem isi_tup {n : String} {xs : List V} {b : Bool} (q : SqT K H a xs) (e : kitB "tuple" n = some b) : IsI K H (.ref a) (.ty n) b := by
  refine ⟨_, _, .ty n, ?_, kit_ty e⟩
  rcases q with (q | ⟨o, q⟩) | ⟨o, its, n, q, c, _⟩
  · exact .base (.tup q)
  · exact .fTuple q
  · exact .kTuple q c
theorem isi_lst {n : String} {xs : List V} {b : Bool} (q : SqL K H a xs) (e : kitB "list" n = some b) : IsI K H (.ref a) (.ty n) b := by
  refine ⟨_, _, .ty n, ?_, kit_ty e⟩
  rcases q with (q | ⟨o, q⟩) | ⟨o, its, n, q, c, _⟩
  · exact .base (.lst q)
  · exact .base (.frz q)
  · exact .kList q c
theorem kb (a b : String) (r : Bool) (h : kitB a b = some r := by decide +kernel) : kitB a b = some r := h
theorem k_int_int : kitB "int" "int" = some true := by decide +kernel
theorem k_int_bool : kitB "int" "bool" = some false := by decide +kernel
theorem k_int_tuple : kitB "int" "tuple" = some false := by decide +kernel
theorem k_int_str : kitB "int" "str" = some false := by decide +kernel
theorem k_int_list : kitB "int" "list" = some false := by decide +kernel
theorem k_str_int : kitB "str" "int" = some false := by decide +kernel
theorem k_str_bool : kitB "str" "bool" = some false := by decide +kernel
theorem k_str_str : kitB "str" "str" = some true := by decide +kernel
theorem k_str_tuple : kitB "str" "tuple" = some false := by decide +kernel
theorem k_str_list : kitB "str" "list" = some false := by decide +kernel
theorem k_tuple_int : kitB "tuple" "int" = some false := by decide +kernel
theorem k_tuple_bool : kitB "tuple" "bool" = some false := by decide +kernel
theorem k_tuple_str : kitB "tuple" "str" = some false := by decide +kernel
theorem k_tuple_tuple : kitB "tuple" "tuple" = some true := by decide +kernel
theorem k_tuple_list : kitB "tuple" "list" = some false := by decide +kernel
theorem k_list_int : kitB "list" "int" = some false := by decide +kernel
theorem k_list_str : kitB "list" "str" = some false := by decide +kernel
theorem k_list_tuple : kitB "list" "tuple" = some false := by decide +kernel
theorem k_list_list : kitB "list" "list" = some true := by decide +kernel
theorem k_dict_dict : kitB "dict" "dict" = some true := by decide +kernel
theorem isi_dK {n : String} {kvs : List (Key × V)} {b : Bool} (q : H a = some (.dK kvs)) (e : kitB "dict" n = some b) : IsI K H (.ref a) (.ty n) b := ⟨_, _, .ty n, .base (.dK q), kit_ty e⟩
end
/-! ### readings in short -/
section
variable {X : Cx} {a b c : Expr} {ta tb tc : TE} {p p1 p2 pos : Pos}
/-- isinstance(a, b) -/
def tIsI (K : PySem.W.Frag) (ta tb : TE) : TE := fun σ H Q => ta σ H fun x H1 => tb σ H1 fun y H2 => ∃ r, IsI K H2 x y r ∧ Q (.bl r) H2
theorem pe_isi (ha : PE X a ta) (hb : PE X b tb) (hg : Gl X "isinstance") (hm : X.mg "isinstance" = none)
    (h1 : starEach [a, b] X.env = (false, eval a X.env) :: starEach [b] X.env := by rfl) (h2 : starEach [b] X.env = (false, eval b X.env) :: starEach [] X.env := by rfl) (hpl : (backTo pos (starEach [b] X.env)).any (·.1) = false := by rfl) : PE X (.Call (.Name "isinstance" p) [a, b] [] pos) (tIsI X.K ta tb) := by
  refine ⟨fun pins s σ H Q I h => ?_⟩
  refine (pe_callB (hv := (by decide +kernel)) (he := h1) (hpl := hpl) call_isi hg hm (pa_cons ha (pa_cons hb pa_nil h2) h1)).run pins s σ H Q I ?_
  show ta σ H fun x H1 => tb σ H1 fun y H2 => rIsi X.K [x, y] H2 Q
  have e : (fun x H1 => tb σ H1 fun y H2 => ∃ r, IsI X.K H2 x y r ∧ Q (.bl r) H2) = (fun x H1 => tb σ H1 fun y H2 => rIsi X.K [x, y] H2 Q) := by
    funext x H1
    congr 1
    funext y H2
    apply propext
    constructor
    · rintro ⟨r, ⟨t, u, c1, c2, c3⟩, q⟩
      exact ⟨x, y, t, u, r, rfl, c1, c2, c3, q⟩
    · rintro ⟨x', y', t, u, r, e, c1, c2, c3, q⟩
      cases e
      exact ⟨r, ⟨t, u, c1, c2, c3⟩, q⟩
  rw [← e]
  exact h
/-- a test that is a bool value -/
abbrev pt_v {e : Expr} {t : TE} (h : PE X e t) (he : ∀ whole, isTrue e X.env whole = (do let v ← whole; standAt e.pos; holding [v] (truthy v)) := by intro _; rfl) : PT X e (tB t) := pt_val h he
end
end Ut
set_option Elab.async false
set_option linter.all false
set_option maxRecDepth 100000
set_option maxHeartbeats 4000000
namespace Ut
open PySem PySem.Spec PyProof.Rows L2
/-! ### terms -/
inductive Tm where
  | name (x : Str) | num (i : Int) | mk (x : Str) (b : Tm) | gv (m g : Tm) | sm (s : Str) (a b : Tm) | ch (a n o : Tm) | ag (x : Str) (b : Tm)
inductive Tc where
  | name | num | mk | gv | sm | ch | ag
  deriving DecidableEq
def Tc.nm : Tc → Str
  | .name => "Name" | .num => "Number" | .mk => "Maker" | .gv => "Give" | .sm => "Sum" | .ch => "Choice" | .ag => "Again"
def Tm.tc : Tm → Tc
  | .name _ => .name | .num _ => .num | .mk _ _ => .mk | .gv _ _ => .gv | .sm _ _ _ => .sm | .ch _ _ _ => .ch | .ag _ _ => .ag
def Tm.parts : Tm → List Tm
  | .name _ => [] | .num _ => [] | .mk _ b => [b] | .gv m g => [m, g] | .sm _ a b => [a, b] | .ch a n o => [a, n, o] | .ag _ b => [b]
def Tm.binds : Tm → Option Str
  | .mk x _ => some x | .ag x _ => some x | _ => none
def Tm.dep : Tm → Nat
  | .name _ => 1 | .num _ => 1 | .mk _ b => b.dep + 1 | .gv m g => max m.dep g.dep + 1 | .sm _ a b => max a.dep b.dep + 1 | .ch a n o => max a.dep (max n.dep o.dep) + 1 | .ag _ b => b.dep + 1
/-- the term of its sort with these parts -/
def Tm.re : Tm → List Tm → Tm
  | .mk x _, [b] => .mk x b | .gv _ _, [m, g] => .gv m g | .sm s _ _, [a, b] => .sm s a b | .ch _ _ _, [a, n, o] => .ch a n o | .ag x _, [b] => .ag x b
  | t, _ => t
abbrev letters : Str := "abcdefghijklmnopqrstuvwxyz"
def okName (x : Str) : Prop := 1 ≤ x.length ∧ x.length ≤ 8 ∧ ∀ c ∈ x.cps.toList, c ∈ letters.cps.toList
def okSign (x : Str) : Prop := x = ("+" : Str) ∨ x = ("-" : Str) ∨ x = ("<" : Str)
def sumOf (s : Str) (a b : Int) : Int := if s = ("+" : Str) then a + b else if s = ("-" : Str) then a - b else if a < b then 1 else 0
section
variable {K : PySem.W.Frag} {H H' : Hp} {B : List Addr}
/-- the term stands at v -/
def TermAt (K : PySem.W.Frag) (H : Hp) : Tm → V → Prop
  | .name x, v => okName x ∧ ∃ a dx, v = .ref a ∧ H a = some (.ins (He.ga K "Name") dx [("name", .str x)])
  | .num i, v => ∃ a dx, v = .ref a ∧ H a = some (.ins (He.ga K "Number") dx [("number", .int i)])
  | .mk x b, v => okName x ∧ ∃ a dx u, v = .ref a ∧ H a = some (.ins (He.ga K "Maker") dx [("name", .str x), ("body", u)]) ∧ TermAt K H b u
  | .gv m g, v => ∃ a dx u1 u2, v = .ref a ∧ H a = some (.ins (He.ga K "Give") dx [("maker", u1), ("given", u2)]) ∧ TermAt K H m u1 ∧ TermAt K H g u2
  | .sm s m g, v => okSign s ∧ ∃ a dx u1 u2, v = .ref a ∧ H a = some (.ins (He.ga K "Sum") dx [("sign", .str s), ("one", u1), ("other", u2)]) ∧ TermAt K H m u1 ∧ TermAt K H g u2
  | .ch m n g, v => ∃ a dx u1 u2 u3, v = .ref a ∧ H a = some (.ins (He.ga K "Choice") dx [("asked", u1), ("nought", u2), ("other", u3)]) ∧ TermAt K H m u1 ∧ TermAt K H n u2 ∧ TermAt K H g u3
  | .ag x b, v => okName x ∧ ∃ a dx u, v = .ref a ∧ H a = some (.ins (He.ga K "Again") dx [("name", .str x), ("body", u)]) ∧ TermAt K H b u
theorem term_up (s : Same H H') : ∀ {t : Tm} {v : V}, TermAt K H t v → TermAt K H' t v
  | .name x, v, ⟨o, a, dx, e, h⟩ => ⟨o, a, dx, e, s _ _ h⟩
  | .num i, v, ⟨a, dx, e, h⟩ => ⟨a, dx, e, s _ _ h⟩
  | .mk x b, v, ⟨o, a, dx, u, e, h, h1⟩ => ⟨o, a, dx, u, e, s _ _ h, term_up s h1⟩
  | .gv m g, v, ⟨a, dx, u1, u2, e, h, h1, h2⟩ => ⟨a, dx, u1, u2, e, s _ _ h, term_up s h1, term_up s h2⟩
  | .sm _ m g, v, ⟨o, a, dx, u1, u2, e, h, h1, h2⟩ => ⟨o, a, dx, u1, u2, e, s _ _ h, term_up s h1, term_up s h2⟩
  | .ch m n g, v, ⟨a, dx, u1, u2, u3, e, h, h1, h2, h3⟩ => ⟨a, dx, u1, u2, u3, e, s _ _ h, term_up s h1, term_up s h2, term_up s h3⟩
  | .ag x b, v, ⟨o, a, dx, u, e, h, h1⟩ => ⟨o, a, dx, u, e, s _ _ h, term_up s h1⟩
inductive TermsAt (K : PySem.W.Frag) (H : Hp) : List Tm → List V → Prop where
  | nil : TermsAt K H [] []
  | cons {t : Tm} {ts : List Tm} {v : V} {vs : List V} (h : TermAt K H t v) (r : TermsAt K H ts vs) : TermsAt K H (t :: ts) (v :: vs)
theorem terms_up (s : Same H H') : ∀ {ts : List Tm} {vs : List V}, TermsAt K H ts vs → TermsAt K H' ts vs
  | _, _, .nil => .nil
  | _, _, .cons a b => .cons (term_up s a) (terms_up s b)
theorem terms_len : ∀ {ts : List Tm} {vs : List V}, TermsAt K H ts vs → vs.length = ts.length
  | _, _, .nil => rfl
  | _, _, .cons a b => congrArg Nat.succ (terms_len b)
theorem terms_at : ∀ {ts : List Tm} {vs : List V} {i : Nat} {v : V}, TermsAt K H ts vs → vs[i]? = some v → ∃ t, ts[i]? = some t ∧ TermAt K H t v
  | _, _, 0, _, .cons a _, e => by cases e; exact ⟨_, rfl, a⟩
  | _, _, i + 1, _, .cons _ b, e => terms_at b (i := i) (by simpa using e)
theorem terms_snoc : ∀ {ts : List Tm} {vs : List V} {t : Tm} {v : V}, TermsAt K H ts vs → TermAt K H t v → TermsAt K H (ts ++ [t]) (vs ++ [v])
  | _, _, _, _, .nil, h => .cons h .nil
  | _, _, _, _, .cons a b, h => .cons a (terms_snoc b h)
/-- its instance -/
theorem term_ins : ∀ {t : Tm} {v : V}, TermAt K H t v → ∃ a dx fs, v = .ref a ∧ H a = some (.ins (He.ga K t.tc.nm) dx fs) ∧ fs.lookup ("parts" : Str) = none ∧ fs.lookup ("binds" : Str) = none ∧ fs.lookup ("free" : Str) = none ∧ fs.lookup ("rebuilt" : Str) = none
  | .name x, v, ⟨o, a, dx, e, h⟩ => ⟨a, dx, _, e, h, rfl, rfl, rfl, rfl⟩
  | .num i, v, ⟨a, dx, e, h⟩ => ⟨a, dx, _, e, h, rfl, rfl, rfl, rfl⟩
  | .mk x b, v, ⟨o, a, dx, u, e, h, h1⟩ => ⟨a, dx, _, e, h, rfl, rfl, rfl, rfl⟩
  | .gv m g, v, ⟨a, dx, u1, u2, e, h, h1, h2⟩ => ⟨a, dx, _, e, h, rfl, rfl, rfl, rfl⟩
  | .sm _ m g, v, ⟨o, a, dx, u1, u2, e, h, h1, h2⟩ => ⟨a, dx, _, e, h, rfl, rfl, rfl, rfl⟩
  | .ch m n g, v, ⟨a, dx, u1, u2, u3, e, h, h1, h2, h3⟩ => ⟨a, dx, _, e, h, rfl, rfl, rfl, rfl⟩
  | .ag x b, v, ⟨o, a, dx, u, e, h, h1⟩ => ⟨a, dx, _, e, h, rfl, rfl, rfl, rfl⟩
theorem term_no : ∀ {t : Tm}, ¬ TermAt K H t .non
  | .name x, ⟨o, a, dx, e, h⟩ => by cases e
  | .num i, ⟨a, dx, e, h⟩ => by cases e
  | .mk x b, ⟨o, a, dx, u, e, h, h1⟩ => by cases e
  | .gv m g, ⟨a, dx, u1, u2, e, h, h1, h2⟩ => by cases e
  | .sm _ m g, ⟨o, a, dx, u1, u2, e, h, h1, h2⟩ => by cases e
  | .ch m n g, ⟨a, dx, u1, u2, u3, e, h, h1, h2, h3⟩ => by cases e
  | .ag x b, ⟨o, a, dx, u, e, h, h1⟩ => by cases e

/-! ### isinstance of terms -/
variable {w : World} {mg : Str → Option Value}
theorem ba {a b : Bool} (h : (a && b) = true) : a = true ∧ b = true := Bool.and_eq_true_iff.mp h
theorem tx_ins (T : Tx w K mg) (c : Tc) : PySem.W.findIn K (.ref (He.ga K c.nm)) "__class__" = some (some (.builtin "object.__class__")) ∧ PySem.W.mroIn K (He.ga K c.nm) (.type "object") = some true ∧
    PySem.W.kitOne K (.ref (He.ga K c.nm)) (.ref (He.ga K "Term")) = some true ∧ ∀ d : Tc, PySem.W.kitOne K (.ref (He.ga K c.nm)) (.ref (He.ga K d.nm)) = some (decide (c.nm = d.nm)) := by
  obtain ⟨_, e⟩ := ba T.s.ex
  obtain ⟨_, e⟩ := ba e
  obtain ⟨e, _⟩ := ba e
  have h1 : insB K c.nm = true := List.all_eq_true.mp e c.nm (by cases c <;> simp [clsN, Tc.nm])
  obtain ⟨a, h1⟩ := ba h1
  obtain ⟨b, h1⟩ := ba h1
  obtain ⟨d, h1⟩ := ba h1
  refine ⟨of_decide_eq_true a, of_decide_eq_true b, of_decide_eq_true d, fun d => ?_⟩
  exact of_decide_eq_true (List.all_eq_true.mp h1 d.nm (by cases d <;> simp [clsN, Tc.nm]))
theorem tx_cls (T : Tx w K mg) : ∀ c : Tc, Cls K (He.ga K c.nm)
  | .name => T.cls 92 | .num => T.cls 94 | .mk => T.cls 96 | .gv => T.cls 98 | .sm => T.cls 100 | .ch => T.cls 102 | .ag => T.cls 104
theorem ty_term (T : Tx w K mg) {t : Tm} {v : V} (h : TermAt K H t v) : TyX K H v (.ref (He.ga K t.tc.nm)) := by
  obtain ⟨a, dx, fs, rfl, ha, _⟩ := term_ins h
  obtain ⟨e1, e2, _⟩ := tx_ins T t.tc
  obtain ⟨z1, z⟩ := ba T.s.ex
  obtain ⟨z2, _⟩ := ba z
  exact .base (.ins ha (tx_cls T t.tc) e1 (of_decide_eq_true z1) (of_decide_eq_true z2) e2)
theorem isi_term (T : Tx w K mg) {t : Tm} {v : V} (h : TermAt K H t v) (c : Tc) {C : Str} (e : c.nm = C) {b : Bool} (eb : decide (t.tc.nm = C) = b) : IsI K H v (.ref (He.ga K C)) b := by
  subst e eb
  exact ⟨_, _, .own _, ty_term T h, (tx_ins T t.tc).2.2.2 c⟩
theorem isi_Term (T : Tx w K mg) {t : Tm} {v : V} (h : TermAt K H t v) : IsI K H v (.ref (He.ga K "Term")) true := ⟨_, _, .own _, ty_term T h, (tx_ins T t.tc).2.2.1⟩
end
end Ut
set_option Elab.async false
set_option linter.all false
set_option maxRecDepth 100000
set_option maxHeartbeats 4000000
namespace Ut
open PySem PySem.Spec PyProof.Rows L2
theorem ifT {c : Bool} {A B : Prop} (e : c = true) (h : A) : if c = true then A else B := by
  rw [if_pos e]
  exact h
theorem ifF {c : Bool} {A B : Prop} (e : c = false) (h : B) : if c = true then A else B := by
  rw [if_neg (by rw [e]; exact Bool.false_ne_true)]
  exact h
/-! ### comprehensions whose turns leave the heap as it was, but the new list -/
theorem fm_take {α β : Type} (φ : α → Option β) {xs : List α} {i : Nat} {x : α} (h : xs[i]? = some x) : (xs.take (i + 1)).filterMap φ = (xs.take i).filterMap φ ++ (φ x).toList := by
  rw [List.take_add_one, List.filterMap_append, h]
  cases q : φ x <;> simp [q]
theorem fm_len {α β : Type} (φ : α → Option β) (xs : List α) : (xs.filterMap φ).length ≤ xs.length := List.length_filterMap_le _ _
theorem upd_lst {H : Hp} {D : Addr} {o u : HO} : upd (upd H D o) D u = upd H D u := upd_upd
section
variable {K : PySem.W.Frag} {a D : Addr} {xs : List V} {g : TG} {tt : TT} {te : TE} {vs : List Nat} {σ : L2.St} {H1 : Hp} {Qd : Hp → Prop}
/-- a turn: N is asked at the list as it was, or with one more -/
abbrev LcTurn (g : TG) (tt : TT) (te : TE) (vs : List Nat) (σ : L2.St) (D : Addr) (x : V) (H : Hp) (N : Hp → Prop) : Prop :=
  g x (wipe σ vs) H fun σ2 H2 => wipe σ2 vs = wipe σ vs ∧ tt σ2 H2 fun b H3 => if b = true then te σ2 H3 fun y H4 => ∃ acc, H4 D = some (.lst acc) ∧ acc.length < sizeLine ∧ N (upd H4 D (.lst (acc ++ [y]))) else N H3
theorem lc_gen {J : It} {n : Nat} {G : Hp → Prop} {Y : Nat → Hp → V → Hp → Prop} (w : Walk J n G Y) (f : Nat → Option V) (hG : ∀ acc, G (upd H1 D (.lst acc))) (hn : n ≤ sizeLine)
    (hs : ∀ i x acc H' (N : Hp → Prop), i < n → acc.length < sizeLine → Y i (upd H1 D (.lst acc)) x H' → (f i = none → N (upd H1 D (.lst acc))) → (∀ y, f i = some y → N (upd H1 D (.lst (acc ++ [y])))) → LcTurn g tt te vs σ D x H' N)
    (hd : Qd (upd H1 D (.lst ((List.range n).filterMap f)))) : ∃ W : Nat → Nat → Hp → Prop, (∃ m, W 0 m (upd H1 D (.lst []))) ∧ ∀ i m H, W i m H →
      (J.stop i H ∧ Qd H) ∨ (J.go i H ∧ ∃ Nx : Hp → Prop, (∀ H', Nx H' → ∃ m', m' < m ∧ W (i + 1) m' H') ∧ ∀ x H', J.yld i H x H' → LcTurn g tt te vs σ D x H' Nx) := by
  refine lc_it w (fun i H => i ≤ n ∧ H = upd H1 D (.lst ((List.range i).filterMap f))) ⟨Nat.zero_le _, rfl⟩ (fun i H _ h => by rw [h.2]; exact hG _) (fun i x H H' hi h y => ?_) (fun H h => by rw [h.2]; exact hd)
  obtain ⟨_, rfl⟩ := h
  refine hs i x _ H' _ hi ?_ y (fun e => ⟨hi, ?_⟩) (fun z e => ⟨hi, ?_⟩)
  · refine Nat.lt_of_le_of_lt (fm_len _ _) ?_
    rw [List.length_range]
    omega
  · rw [List.range_succ, List.filterMap_append, List.filterMap_cons, e]
    simp
  · rw [List.range_succ, List.filterMap_append, List.filterMap_cons, e]
    simp
theorem lc_fm (φ : V → Option V) (hl : SqL K H1 a xs) (hD : H1 D = none) (hn : xs.length ≤ sizeLine)
    (hs : ∀ x acc (N : Hp → Prop), x ∈ xs → acc.length < sizeLine → (φ x = none → N (upd H1 D (.lst acc))) → (∀ y, φ x = some y → N (upd H1 D (.lst (acc ++ [y])))) → LcTurn g tt te vs σ D x (upd H1 D (.lst acc)) N)
    (hd : Qd (upd H1 D (.lst (xs.filterMap φ)))) : ∃ W : Nat → Nat → Hp → Prop, (∃ m, W 0 m (upd H1 D (.lst []))) ∧ ∀ i m H, W i m H →
      ((Itl K a).stop i H ∧ Qd H) ∨ ((Itl K a).go i H ∧ ∃ Nx : Hp → Prop, (∀ H', Nx H' → ∃ m', m' < m ∧ W (i + 1) m' H') ∧ ∀ x H', (Itl K a).yld i H x H' → LcTurn g tt te vs σ D x H' Nx) := by
  have sq : ∀ acc, SqL K (upd H1 D (.lst acc)) a xs := fun acc => (same_new hD _).seq hl
  refine lc_list (K := K) (a := a) (xs := xs) (fun i H => i ≤ xs.length ∧ H = upd H1 D (.lst ((xs.take i).filterMap φ))) ⟨Nat.zero_le _, by simp⟩ (fun i H _ h => by rw [h.2]; exact sq _) (fun i x H hi h => ?_) (fun H h => by rw [h.2, List.take_length]; exact hd)
  obtain ⟨hle, rfl⟩ := h
  have hlt : i < xs.length := (List.getElem?_eq_some_iff.mp hi).1
  refine hs x _ _ (List.mem_of_getElem? hi) ?_ (fun e => ⟨hlt, ?_⟩) (fun z e => ⟨hlt, ?_⟩)
  · refine Nat.lt_of_le_of_lt (fm_len _ _) ?_
    rw [List.length_take]
    omega
  · rw [fm_take φ hi, e]
    simp
  · rw [fm_take φ hi, e]
    simp
theorem lc_fmT (φ : V → Option V) (hl : SqT K H1 a xs) (hD : H1 D = none) (hn : xs.length ≤ sizeLine)
    (hs : ∀ x acc (N : Hp → Prop), x ∈ xs → acc.length < sizeLine → (φ x = none → N (upd H1 D (.lst acc))) → (∀ y, φ x = some y → N (upd H1 D (.lst (acc ++ [y])))) → LcTurn g tt te vs σ D x (upd H1 D (.lst acc)) N)
    (hd : Qd (upd H1 D (.lst (xs.filterMap φ)))) : ∃ W : Nat → Nat → Hp → Prop, (∃ m, W 0 m (upd H1 D (.lst []))) ∧ ∀ i m H, W i m H →
      ((Itt K a).stop i H ∧ Qd H) ∨ ((Itt K a).go i H ∧ ∃ Nx : Hp → Prop, (∀ H', Nx H' → ∃ m', m' < m ∧ W (i + 1) m' H') ∧ ∀ x H', (Itt K a).yld i H x H' → LcTurn g tt te vs σ D x H' Nx) := by
  have sq : ∀ acc, SqT K (upd H1 D (.lst acc)) a xs := fun acc => same_seqT (same_new hD _) hl
  refine lc_tup (K := K) (a := a) (xs := xs) (fun i H => i ≤ xs.length ∧ H = upd H1 D (.lst ((xs.take i).filterMap φ))) ⟨Nat.zero_le _, by simp⟩ (fun i H _ h => by rw [h.2]; exact sq _) (fun i x H hi h => ?_) (fun H h => by rw [h.2, List.take_length]; exact hd)
  obtain ⟨hle, rfl⟩ := h
  have hlt : i < xs.length := (List.getElem?_eq_some_iff.mp hi).1
  refine hs x _ _ (List.mem_of_getElem? hi) ?_ (fun e => ⟨hlt, ?_⟩) (fun z e => ⟨hlt, ?_⟩)
  · refine Nat.lt_of_le_of_lt (fm_len _ _) ?_
    rw [List.length_take]
    omega
  · rw [fm_take φ hi, e]
    simp
  · rw [fm_take φ hi, e]
    simp
theorem yes_turn {te : TE} {σ2 : L2.St} {H2 : Hp} {Q : VK} {N : Hp → Prop} (h : te σ2 H2 Q) : tYes σ2 H2 fun b H3 => if b = true then te σ2 H3 Q else N H3 := by
  show (if true = true then te σ2 H2 Q else N H2)
  rw [if_pos rfl]
  exact h
end
end Ut
set_option Elab.async false
set_option linter.all false
set_option maxRecDepth 100000
set_option maxHeartbeats 4000000
namespace Ut
open PySem PySem.Spec PyProof.Rows L2
section
variable {P : Program} {w : World} {K : PySem.W.Frag} {mg : Str → Option Value} {base : Heap}
/-! ### small answers -/
theorem iteS {a b : Str} {A B : Prop} (h1 : a = b → A) (h2 : a ≠ b → B) : if decide (V.str a = V.str b) = true then A else B := by
  by_cases e : a = b
  · rw [if_pos (decide_eq_true (by rw [e]))]
    exact h1 e
  · rw [if_neg (by simp [e])]
    exact h2 e

/-- int, text or tuple -/
def Pl : PyData → Prop
  | .int _ => True
  | .str _ => True
  | .tuple _ => True
  | _ => False
def isNumD : PyData → Bool
  | .int _ => true
  | _ => false
theorem pl_int {d : PyData} (h : Pl d) : kitB (tyN d) "int" = some (isNumD d) := by
  cases d with
  | int i => exact k_int_int
  | str i => exact k_str_int
  | tuple i => exact k_tuple_int
  | _ => exact h.elim
theorem pl_bool {d : PyData} (h : Pl d) : kitB (tyN d) "bool" = some false := by
  cases d with
  | int i => exact k_int_bool
  | str i => exact k_str_bool
  | tuple i => exact k_tuple_bool
  | _ => exact h.elim
theorem sc_is_number : FnScope ["thing"] ["thing"] (defScope S_is_number) := ⟨rfl, rfl, rfl, by decide +kernel, rfl, by decide +kernel, by decide +kernel⟩
def spIsNumber (K : PySem.W.Frag) : Sp := fun vs H Q _ => ∃ v d, vs = [v] ∧ Dp K H v d ∧ Pl d ∧ Q (.bl (isNumD d)) H
theorem ok_is_number (T : Tx w K mg) : Cal P w K mg base 1 "is_number" (spIsNumber K) := by
  refine cal_mk T 0 0 rfl rfl sc_is_number (fun _ _ _ _ _ _ us hl => match us, hl with | [_], _ => rfl) (fun vs H Q E h => ?_) (fun cdv A outer s H vs Q E hr h => ?_)
  · obtain ⟨v, d, rfl, _⟩ := h
    rfl
  obtain ⟨v, d, rfl, hd, nb, q⟩ := h
  refine ⟨_, (pss_one (ps_ret (pe_and (pe_isi (pv 0) (pe_bltn (v := .ty "int") (by rfl) (T.free 75 rfl) (by decide +kernel) rfl) (by rfl) (T.free 69 rfl)) (pe_one (pe_not (pe_isi (pv 0) (pe_bltn (v := .ty "bool") (by rfl) (T.free 76 rfl) (by decide +kernel) rfl) (by rfl) (T.free 69 rfl))))))), ?_⟩
  refine ⟨_, rfl, isNumD d, isi_dp hd (pl_int nb), _, rfl, ?_⟩
  refine ite2 (fun e => ?_) (fun e => ?_)
  · refine ⟨_, rfl, false, isi_dp hd (pl_bool nb), _, rfl, ?_⟩
    rw [e] at q
    exact q
  · rw [Bool.eq_false_iff.mpr e] at q
    exact q
theorem sc_is_whole : FnScope ["thing"] ["thing"] (defScope S_is_whole) := ⟨rfl, rfl, rfl, by decide +kernel, rfl, by decide +kernel, by decide +kernel⟩
theorem ok_is_whole (T : Tx w K mg) : Cal P w K mg base 1 "is_whole" (spIsNumber K) := by
  refine cal_mk T 4 4 rfl rfl sc_is_whole (fun _ _ _ _ _ _ us hl => match us, hl with | [_], _ => rfl) (fun vs H Q E h => ?_) (fun cdv A outer s H vs Q E hr h => ?_)
  · obtain ⟨v, d, rfl, _⟩ := h
    rfl
  obtain ⟨v, d, rfl, hd, nb, q⟩ := h
  refine ⟨_, (pss_one (ps_ret (pe_and (pe_isi (pv 0) (pe_bltn (v := .ty "int") (by rfl) (T.free 75 rfl) (by decide +kernel) rfl) (by rfl) (T.free 69 rfl)) (pe_one (pe_not (pe_isi (pv 0) (pe_bltn (v := .ty "bool") (by rfl) (T.free 76 rfl) (by decide +kernel) rfl) (by rfl) (T.free 69 rfl))))))), ?_⟩
  refine ⟨_, rfl, isNumD d, isi_dp hd (pl_int nb), _, rfl, ?_⟩
  refine ite2 (fun e => ?_) (fun e => ?_)
  · refine ⟨_, rfl, false, isi_dp hd (pl_bool nb), _, rfl, ?_⟩
    rw [e] at q
    exact q
  · rw [Bool.eq_false_iff.mpr e] at q
    exact q
theorem sc_is_name : FnScope ["thing", "sign"] ["thing"] (defScope S_is_name) := ⟨rfl, rfl, rfl, by decide +kernel, rfl, by decide +kernel, by decide +kernel⟩
def spIsName : Sp := fun vs H Q _ => ∃ x, vs = [.str x] ∧ okName x ∧ ∀ H', Same H H' → Q (.bl true) H'
theorem ok_is_name (T : Tx w K mg) : Cal P w K mg base 1 "is_name" spIsName := by
  refine cal_mk T 3 3 rfl rfl sc_is_name (fun _ _ _ _ _ _ us hl => match us, hl with | [_], _ => rfl) (fun vs H Q E h => ?_) (fun cdv A outer s H vs Q E hr h => ?_)
  · obtain ⟨v, rfl, _⟩ := h
    rfl
  obtain ⟨x, rfl, ⟨h1, h2, h3⟩, q⟩ := h
  refine ⟨_, (pss_cons (ps_if (PW.pt (pw_or (pt_not (pt_val (pe_isi (pv 0) (pe_bltn (v := .ty "str") (by rfl) (T.free 78 rfl) (by decide +kernel) rfl) (by rfl) (T.free 69 rfl)))) (pw_or1 (pt_not (pt_chain op_le op_le pe_int (pe_callB call_len_str (by rfl) (T.free 70 rfl) (by decide +kernel) (pa_cons (pv 0) pa_nil)) (C8.pe_gc rfl (T.int 84 rfl))))))) (pss_one (ps_ret pe_bl)) pss_nil)
      (pss_one (ps_ret (pe_callB (cr_all rfl) (by rfl) (T.free 71 rfl) (by decide +kernel) (pa_cons (pe_lc (own := [("sign", 1)]) (by rfl) sc_is_name.nd (pi_str (pv 0)) (blkOk_by (own := [("sign", 1)]) (N := ["thing", "sign"]) (sc := defScope S_is_name) (by decide +kernel)) (fun _ _ _ _ _ => (pg_name (i := 1) sc_is_name.nd rfl (by first | exact Or.inl rfl | exact Or.inr rfl))) (fun _ _ _ _ _ => pts_nil) (fun _ _ _ _ _ => (pe_cmpR op_in_sign (pv 1) (C8.pe_gc rfl (T.str 87 rfl)) (by rfl)))) pa_nil))))), ?_⟩
  have z : x.length ≤ sizeLine := Nat.le_of_lt (small1000 (by omega))
  refine ⟨_, rfl, true, isi_str k_str_str, _, rfl, iteF ?_⟩
  refine ⟨_, rfl, x, rfl, z, 1, (x.length : Int), rfl, rfl, _, rfl, ?_⟩
  refine ite2 (fun c => ?_) (fun c => absurd (decide_eq_true (by omega : (1 : Int) ≤ (x.length : Int))) c)
  refine ⟨(x.length : Int), 8, rfl, rfl, _, rfl, ?_⟩
  have e8 : decide ((x.length : Int) ≤ 8) = true := decide_eq_true (by omega)
  show if (!decide ((x.length : Int) ≤ 8)) = true then _ else _
  rw [e8]
  refine iteF ?_
  refine ⟨_, rfl, x, rfl, fun D hD => ?_⟩
  refine lc_gen walk_str (fun i => (x.cps[i]?).map fun _ => V.bl true) (fun _ => trivial) (by show x.cps.size ≤ _; exact z) ?_ ?_
  · rintro i y acc H' N hi hl ⟨rfl, c, hc, rfl⟩ n1 n2
    refine ⟨rfl, yes_turn ?_⟩
    refine ⟨_, rfl, c, letters, rfl, rfl, acc, upd_same, hl, ?_⟩
    rw [upd_lst, decide_eq_true (h3 c (by rw [Array.mem_toList_iff]; exact Array.mem_of_getElem? hc))]
    exact n2 _ (by rw [hc]; rfl)
  · refine ⟨D, (List.range x.cps.size).filterMap fun i => (x.cps[i]?).map fun _ => true, rfl, SqL.new ?_, ?_⟩
    · rw [upd_same, List.map_filterMap]
      congr 3
      funext i
      cases x.cps[i]? <;> rfl
    · have e : List.all ((List.range x.cps.size).filterMap fun i => (x.cps[i]?).map fun _ => true) id = true := by
        rw [List.all_eq_true]
        intro b hb
        obtain ⟨i, _, e⟩ := List.mem_filterMap.mp hb
        cases q : x.cps[i]? with
        | none => rw [q] at e; cases e
        | some c => rw [q] at e; cases e; rfl
      rw [e]
      exact q _ (same_new hD _)
theorem sc_need_name : FnScope ["thing"] ["thing"] (defScope S_need_name) := ⟨rfl, rfl, rfl, by decide +kernel, rfl, by decide +kernel, by decide +kernel⟩
def spNone (C : List V → Hp → Prop) : Sp := fun vs H Q _ => C vs H ∧ ∀ H', Same H H' → Q .non H'
theorem ok_need_name (T : Tx w K mg) (c_is_name : Cal P w K mg base 1 "is_name" spIsName) : Cal P w K mg base 2 "need_name" (spNone fun vs _ => ∃ x, vs = [.str x] ∧ okName x) := by
  refine cal_mk T 5 5 rfl rfl sc_need_name (fun _ _ _ _ _ _ us hl => match us, hl with | [_], _ => rfl) (fun vs H Q E h => ?_) (fun cdv A outer s H vs Q E hr h => ?_)
  · obtain ⟨⟨v, rfl, _⟩, _⟩ := h
    rfl
  obtain ⟨⟨x, rfl, hx⟩, q⟩ := h
  refine ⟨_, (pss_one (ps_if (pt_not (pt_val (pe_c c_is_name hr (by omega) (by rfl) (pa_cons (pv 0) pa_nil)))) (pss_one ps_never) pss_nil)), ?_⟩
  refine ⟨_, rfl, x, rfl, hx, fun H' s1 => ⟨true, rfl, iteF ?_⟩⟩
  exact q H' s1
theorem sc_need_terms : FnScope ["things", "thing"] ["things"] (defScope S_need_terms) := ⟨rfl, rfl, rfl, by decide +kernel, rfl, by decide +kernel, by decide +kernel⟩
theorem ok_need_terms (T : Tx w K mg) : Cal P w K mg base 1 "need_terms" (spNone fun vs H => ∃ a us ts, vs = [.ref a] ∧ SqL K H a us ∧ TermsAt K H ts us) := by
  refine cal_mk T 6 6 rfl rfl sc_need_terms (fun _ _ _ _ _ _ us hl => match us, hl with | [_], _ => rfl) (fun vs H Q E h => ?_) (fun cdv A outer s H vs Q E hr h => ?_)
  · obtain ⟨⟨a, us, ts, rfl, _⟩, _⟩ := h
    rfl
  obtain ⟨⟨a, us, ts, rfl, hl, ht⟩, q⟩ := h
  refine ⟨_, (pss_one (ps_for PassesOwn.never rfl (pi_list (pv 0)) (pg_name (i := 1) sc_need_terms.nd rfl (Or.inl rfl))
      (pss_one (ps_if (pt_not (pt_val (pe_isi (pv 1) (pe_glob (v := .ref (He.ga K "Term")) rfl (T.glo 55 rfl) rfl) (by rfl) (T.free 69 rfl)))) (pss_one ps_never) pss_nil)))), ?_⟩
  refine ⟨_, rfl, a, rfl, ⟨_, hl⟩, for_list (K := K) (a := a) (xs := us) (fun i σ H2 => H2 = H ∧ ∃ v, σ = [some (.ref a), v]) ⟨rfl, _, rfl⟩ (fun i σ H2 _ h => by rw [h.1]; exact hl) ?_ (fun σ H2 h => by rw [h.1]; exact q H (Same.refl H))⟩
  rintro i y σ H2 hi ⟨rfl, v, rfl⟩
  obtain ⟨t, _, h⟩ := terms_at ht hi
  exact ⟨_, rfl, true, isi_Term T h, _, rfl, iteF ⟨rfl, _, rfl⟩⟩
theorem sc_sum_of : FnScope ["sign", "one", "other"] ["sign", "one", "other"] (defScope S_sum_of) := ⟨rfl, rfl, rfl, by decide +kernel, rfl, by decide +kernel, by decide +kernel⟩
def spSumOf : Sp := fun vs H Q _ => ∃ x a b, vs = [.str x, .int a, .int b] ∧ okSign x ∧ Q (.int (sumOf x a b)) H
theorem ok_sum_of (T : Tx w K mg) : Cal P w K mg base 1 "sum_of" spSumOf := by
  refine cal_mk T 12 12 rfl rfl sc_sum_of (fun _ _ _ _ _ _ us hl => match us, hl with | [_, _, _], _ => rfl) (fun vs H Q E h => ?_) (fun cdv A outer s H vs Q E hr h => ?_)
  · obtain ⟨x, a, b, rfl, _⟩ := h
    rfl
  obtain ⟨x, a, b, rfl, hx, q⟩ := h
  refine ⟨_, (pss_cons (ps_if (pt_cmpR op_eq (pv 0) pe_str (nomark _)) (pss_one (ps_ret (pe_op op_add (pv 1) (pv 2)))) pss_nil)
      (pss_cons (ps_if (pt_cmpR op_eq (pv 0) pe_str (nomark _)) (pss_one (ps_ret (pe_op op_sub (pv 1) (pv 2)))) pss_nil)
      (pss_one (ps_ret (pe_callTy call_int1 (by rfl) (T.free 75 rfl) (by decide +kernel) (pa_cons (pe_cmpR op_lt (pv 1) (pv 2) (nomark _)) pa_nil)))))), ?_⟩
  refine ⟨_, rfl, rfl, _, rfl, ?_⟩
  refine iteS (fun e => ?_) (fun e => ?_)
  · refine ⟨_, rfl, _, rfl, _, _, rfl, rfl, ?_⟩
    unfold sumOf at q
    rw [if_pos e] at q
    exact q
  refine ⟨_, rfl, rfl, _, rfl, ?_⟩
  refine iteS (fun e2 => ?_) (fun e2 => ?_)
  · refine ⟨_, rfl, _, rfl, _, _, rfl, rfl, ?_⟩
    unfold sumOf at q
    rw [if_neg e, if_pos e2] at q
    exact q
  refine ⟨_, rfl, _, rfl, _, _, rfl, rfl, .inr ⟨_, rfl, ?_⟩⟩
  unfold sumOf at q
  rw [if_neg e, if_neg e2] at q
  by_cases c : a < b
  · rw [if_pos c] at q
    rw [if_pos (decide_eq_true c)]
    exact q
  · rw [if_neg c] at q
    rw [if_neg (by simp [c])]
    exact q
/-! ### the terms' classes: made -/
/-- a new instance's __init__: C the class, ok what is asked, fs the fields behind it -/
def spInit (K : PySem.W.Frag) (C : Str) (ok : List V → List (Str × V) → Hp → Prop) : Sp := fun vs H Q _ => ∃ p dx args fs, vs = .ref p :: args ∧ H p = some (.ins (He.ga K C) dx []) ∧ ok args fs H ∧ ∀ H', SameX [p] H H' → H' p = some (.ins (He.ga K C) dx fs) → Q .non H'
/-- how a class is made -/
theorem mk_use {C : Str} {ok : List V → List (Str × V) → Hp → Prop} {vs : List V} {H1 : Hp} {Q : VK} {E : XK} {fs : List (Str × V)} (mono : ∀ H', Same H1 H' → ok vs fs H') (k : ∀ x dx H', Same H1 H' → H1 x = none → H' x = some (.ins (He.ga K C) dx fs) → Q (.ref x) H') :
    ∀ x dx, H1 x = none → H1 dx = none → dx ≠ x → spInit K C ok (.ref x :: (vs ++ [])) (upd (upd H1 dx (.own x)) x (.ins (He.ga K C) dx [])) (fun v H2 => v = .non ∧ Q (.ref x) H2) E := by
  intro x dx hx hdx ne
  have s0 : Same H1 (upd (upd H1 dx (.own x)) x (.ins (He.ga K C) dx [])) := fun b o e => by
    rw [upd_ne (ne_of_none e hx), upd_ne (ne_of_none e hdx)]
    exact e
  refine ⟨x, dx, vs, fs, by rw [List.append_nil], upd_same, mono _ s0, fun H' sx hx' => ⟨rfl, ?_⟩⟩
  refine k x dx H' (fun b o e => ?_) hx hx'
  have nb : b ≠ x := ne_of_none e hx
  exact sx b o (by simpa using nb) (s0 b o e)
theorem samex_ins {H : Hp} {p C dx : Addr} {fs : List (Str × V)} : SameX [p] H (upd H p (.ins C dx fs)) := samex_upd (by simp) _
theorem sc_Name_init : FnScope ["self", "name"] ["self", "name"] (defScope S_Name_init) := ⟨rfl, rfl, rfl, by decide +kernel, rfl, by decide +kernel, by decide +kernel⟩
def okN1 : List V → List (Str × V) → Hp → Prop := fun args fs _ => ∃ x, args = [.str x] ∧ okName x ∧ fs = ([("name", .str x)] : List (Str × V))
theorem ok_Name_init (T : Tx w K mg) (c_need_name : Cal P w K mg base 2 "need_name" (spNone fun vs _ => ∃ x, vs = [.str x] ∧ okName x)) : Mak P w K mg base 3 "Name" (He.ga K "Name") (spInit K "Name" okN1) := by
  refine mak_mk T 55 93 56 rfl rfl rfl sc_Name_init (fun _ _ _ _ _ _ us hl => match us, hl with | [_, _], _ => rfl) (fun vs H Q E h => ?_) (fun cdv A outer s H vs Q E hr h => ?_)
  · obtain ⟨p, dx, args, fs, rfl, _, ⟨x, rfl, _⟩, _⟩ := h
    rfl
  obtain ⟨p, dx, args, fs, rfl, hp, ⟨x, rfl, hx, rfl⟩, q⟩ := h
  refine ⟨_, (pss_cons (ps_expr (pe_c c_need_name hr (by omega) (by rfl) (pa_cons (pv 1) pa_nil)))
      (pss_one (ps_fld (pv 0) (pv 1) rfl))), ?_⟩
  refine ⟨_, rfl, ⟨x, rfl, hx⟩, fun H1 s1 => ?_⟩
  refine ⟨_, rfl, _, rfl, p, _, dx, _, rfl, s1 _ _ hp, T.cls 92, T.noat 118, by decide, ?_⟩
  exact q _ ((same_x s1).trans samex_ins) upd_same
theorem sc_Number_init : FnScope ["self", "number"] ["self", "number"] (defScope S_Number_init) := ⟨rfl, rfl, rfl, by decide +kernel, rfl, by decide +kernel, by decide +kernel⟩
def okN2 : List V → List (Str × V) → Hp → Prop := fun args fs _ => ∃ i, args = [.int i] ∧ fs = ([("number", .int i)] : List (Str × V))
theorem ok_Number_init (T : Tx w K mg) (c_is_whole : Cal P w K mg base 1 "is_whole" (spIsNumber K)) : Mak P w K mg base 2 "Number" (He.ga K "Number") (spInit K "Number" okN2) := by
  refine mak_mk T 60 95 57 rfl rfl rfl sc_Number_init (fun _ _ _ _ _ _ us hl => match us, hl with | [_, _], _ => rfl) (fun vs H Q E h => ?_) (fun cdv A outer s H vs Q E hr h => ?_)
  · obtain ⟨p, dx, args, fs, rfl, _, ⟨x, rfl, _⟩, _⟩ := h
    rfl
  obtain ⟨p, dx, args, fs, rfl, hp, ⟨x, rfl, rfl⟩, q⟩ := h
  refine ⟨_, (pss_cons (ps_if (pt_not (pt_val (pe_c c_is_whole hr (by omega) (by rfl) (pa_cons (pv 1) pa_nil)))) (pss_one ps_never) pss_nil)
      (pss_one (ps_fld (pv 0) (pv 1) rfl))), ?_⟩
  refine ⟨_, rfl, _, .int x, rfl, .int x, trivial, true, rfl, iteF ?_⟩
  refine ⟨_, rfl, _, rfl, p, _, dx, _, rfl, hp, T.cls 94, T.noat 119, by decide, ?_⟩
  exact q _ samex_ins upd_same
abbrev spNN : Sp := spNone fun vs _ => ∃ x, vs = [.str x] ∧ okName x
abbrev spNT (K : PySem.W.Frag) : Sp := spNone fun vs H => ∃ a us ts, vs = [.ref a] ∧ SqL K H a us ∧ TermsAt K H ts us
def okNB (K : PySem.W.Frag) : List V → List (Str × V) → Hp → Prop := fun args fs H => ∃ x u b, args = [.str x, u] ∧ okName x ∧ TermAt K H b u ∧ fs = ([("name", .str x), ("body", u)] : List (Str × V))
theorem sc_Maker_init : FnScope ["self", "name", "body"] ["self", "name", "body"] (defScope S_Maker_init) := ⟨rfl, rfl, rfl, by decide +kernel, rfl, by decide +kernel, by decide +kernel⟩
theorem ok_Maker_init (T : Tx w K mg) (c_need_name : Cal P w K mg base 2 "need_name" spNN) (c_need_terms : Cal P w K mg base 1 "need_terms" (spNT K)) : Mak P w K mg base 3 "Maker" (He.ga K "Maker") (spInit K "Maker" (okNB K)) := by
  refine mak_mk T 65 97 58 rfl rfl rfl sc_Maker_init (fun _ _ _ _ _ _ us hl => match us, hl with | [_, _, _], _ => rfl) (fun vs H Q E h => ?_) (fun cdv A outer s H vs Q E hr h => ?_)
  · obtain ⟨p, dx, args, fs, rfl, _, ⟨x, u, b, rfl, _⟩, _⟩ := h
    rfl
  obtain ⟨p, dx, args, fs, rfl, hp, ⟨x, u, b, rfl, hx, hb, rfl⟩, q⟩ := h
  refine ⟨_, (pss_cons (ps_expr (pe_c c_need_name hr (by omega) (by rfl) (pa_cons (pv 1) pa_nil)))
      (pss_cons (ps_expr (pe_c c_need_terms hr (by omega) (by rfl) (pa_cons (pe_lst (pa_cons (pv 2) pa_nil)) pa_nil)))
      (pss_cons (ps_fld (pv 0) (pv 1) rfl)
      (pss_one (ps_fld (pv 0) (pv 2) rfl))))), ?_⟩
  refine ⟨_, rfl, ⟨x, rfl, hx⟩, fun H1 s1 => ?_⟩
  refine ⟨_, rfl, (by show 1 ≤ sizeLine; decide), fun l hl => ?_⟩
  have s2 := s1.trans (same_new hl (.lst [u]))
  refine ⟨⟨l, [u], [b], rfl, SqL.new upd_same, .cons (term_up s2 hb) .nil⟩, fun H3 s3 => ?_⟩
  have s4 := s2.trans s3
  refine ⟨_, rfl, _, rfl, p, _, dx, _, rfl, s4 _ _ hp, T.cls 96, T.noat 120, by decide, ?_⟩
  refine ⟨_, rfl, _, rfl, p, _, dx, _, rfl, upd_same, T.cls 96, T.noat 121, (by show 1 < 1000; decide), ?_⟩
  exact q _ (((same_x s4).trans samex_ins).trans samex_ins) upd_same
theorem sc_Again_init : FnScope ["self", "name", "body"] ["self", "name", "body"] (defScope S_Again_init) := ⟨rfl, rfl, rfl, by decide +kernel, rfl, by decide +kernel, by decide +kernel⟩
theorem ok_Again_init (T : Tx w K mg) (c_need_name : Cal P w K mg base 2 "need_name" spNN) (c_need_terms : Cal P w K mg base 1 "need_terms" (spNT K)) : Mak P w K mg base 3 "Again" (He.ga K "Again") (spInit K "Again" (okNB K)) := by
  refine mak_mk T 85 105 62 rfl rfl rfl sc_Again_init (fun _ _ _ _ _ _ us hl => match us, hl with | [_, _, _], _ => rfl) (fun vs H Q E h => ?_) (fun cdv A outer s H vs Q E hr h => ?_)
  · obtain ⟨p, dx, args, fs, rfl, _, ⟨x, u, b, rfl, _⟩, _⟩ := h
    rfl
  obtain ⟨p, dx, args, fs, rfl, hp, ⟨x, u, b, rfl, hx, hb, rfl⟩, q⟩ := h
  refine ⟨_, (pss_cons (ps_expr (pe_c c_need_name hr (by omega) (by rfl) (pa_cons (pv 1) pa_nil)))
      (pss_cons (ps_expr (pe_c c_need_terms hr (by omega) (by rfl) (pa_cons (pe_lst (pa_cons (pv 2) pa_nil)) pa_nil)))
      (pss_cons (ps_fld (pv 0) (pv 1) rfl)
      (pss_one (ps_fld (pv 0) (pv 2) rfl))))), ?_⟩
  refine ⟨_, rfl, ⟨x, rfl, hx⟩, fun H1 s1 => ?_⟩
  refine ⟨_, rfl, (by show 1 ≤ sizeLine; decide), fun l hl => ?_⟩
  have s2 := s1.trans (same_new hl (.lst [u]))
  refine ⟨⟨l, [u], [b], rfl, SqL.new upd_same, .cons (term_up s2 hb) .nil⟩, fun H3 s3 => ?_⟩
  have s4 := s2.trans s3
  refine ⟨_, rfl, _, rfl, p, _, dx, _, rfl, s4 _ _ hp, T.cls 104, T.noat 130, by decide, ?_⟩
  refine ⟨_, rfl, _, rfl, p, _, dx, _, rfl, upd_same, T.cls 104, T.noat 131, (by show 1 < 1000; decide), ?_⟩
  exact q _ (((same_x s4).trans samex_ins).trans samex_ins) upd_same
end
end Ut
set_option Elab.async false
set_option linter.all false
set_option maxRecDepth 100000
set_option maxHeartbeats 4000000
namespace Ut
open PySem PySem.Spec PyProof.Rows L2
section
variable {P : Program} {w : World} {K : PySem.W.Frag} {mg : Str → Option Value} {base : Heap}
theorem tx_sums (T : Tx w K mg) (H : Hp) : SqT K H (He.ga K "SUMS") [.str "+", .str "-", .str "<"] := by
  obtain ⟨_, e⟩ := ba T.s.ex
  obtain ⟨_, e⟩ := ba e
  obtain ⟨_, e⟩ := ba e
  obtain ⟨e, _⟩ := ba e
  exact He.tupB_ok e H
theorem tx_sorts (T : Tx w K mg) (H : Hp) : SqT K H (He.ga K "SORTS") [.str "open", .str "look", .str "take", .str "turn", .str "next", .str "sum", .str "choose"] := by
  obtain ⟨_, e⟩ := ba T.s.ex
  obtain ⟨_, e⟩ := ba e
  obtain ⟨_, e⟩ := ba e
  obtain ⟨_, e⟩ := ba e
  obtain ⟨e, _⟩ := ba e
  exact He.tupB_ok e H
def okN3 (K : PySem.W.Frag) : List V → List (Str × V) → Hp → Prop := fun args fs H => ∃ u1 u2 m g, args = [u1, u2] ∧ TermAt K H m u1 ∧ TermAt K H g u2 ∧ fs = ([("maker", u1), ("given", u2)] : List (Str × V))
def okN4 (K : PySem.W.Frag) : List V → List (Str × V) → Hp → Prop := fun args fs H => ∃ s u1 u2 m g, args = [.str s, u1, u2] ∧ okSign s ∧ TermAt K H m u1 ∧ TermAt K H g u2 ∧ fs = ([("sign", .str s), ("one", u1), ("other", u2)] : List (Str × V))
def okN5 (K : PySem.W.Frag) : List V → List (Str × V) → Hp → Prop := fun args fs H => ∃ u1 u2 u3 m n g, args = [u1, u2, u3] ∧ TermAt K H m u1 ∧ TermAt K H n u2 ∧ TermAt K H g u3 ∧ fs = ([("asked", u1), ("nought", u2), ("other", u3)] : List (Str × V))

theorem sc_Give_init : FnScope ["self", "maker", "given"] ["self", "maker", "given"] (defScope S_Give_init) := ⟨rfl, rfl, rfl, by decide +kernel, rfl, by decide +kernel, by decide +kernel⟩
theorem ok_Give_init (T : Tx w K mg) (c_need_terms : Cal P w K mg base 1 "need_terms" (spNT K)) : Mak P w K mg base 2 "Give" (He.ga K "Give") (spInit K "Give" (okN3 K)) := by
  refine mak_mk T 70 99 59 rfl rfl rfl sc_Give_init (fun _ _ _ _ _ _ us hl => match us, hl with | [_, _, _], _ => rfl) (fun vs H Q E h => ?_) (fun cdv A outer s H vs Q E hr h => ?_)
  · obtain ⟨p, dx, args, fs, rfl, _, ⟨u1, u2, m, g, rfl, _⟩, _⟩ := h
    rfl
  obtain ⟨p, dx, args, fs, rfl, hp, ⟨u1, u2, m, g, rfl, hu1, hu2, rfl⟩, q⟩ := h
  refine ⟨_, (pss_cons (ps_expr (pe_c c_need_terms hr (by omega) (by rfl) (pa_cons (pe_lst (pa_cons (pv 1) (pa_cons (pv 2) pa_nil))) pa_nil)))
      (pss_cons (ps_fld (pv 0) (pv 1) rfl)
      (pss_one (ps_fld (pv 0) (pv 2) rfl)))), ?_⟩
  refine ⟨_, rfl, _, rfl, (by show 2 ≤ sizeLine; decide), fun l hl => ?_⟩
  have s1 := same_new hl (.lst [u1, u2])
  refine ⟨⟨l, _, _, rfl, SqL.new upd_same, (.cons (term_up s1 hu1) (.cons (term_up s1 hu2) .nil))⟩, fun H3 s3 => ?_⟩
  have s4 := s1.trans s3
  refine ⟨_, rfl, _, rfl, p, _, dx, _, rfl, s4 _ _ hp, T.cls 98, T.noat 122, (by show 0 < 1000; decide), ?_⟩
  refine ⟨_, rfl, _, rfl, p, _, dx, _, rfl, upd_same, T.cls 98, T.noat 123, (by show 1 < 1000; decide), ?_⟩
  exact q _ (((same_x s4).trans samex_ins).trans samex_ins) upd_same
theorem sc_Sum_init : FnScope ["self", "sign", "one", "other"] ["self", "sign", "one", "other"] (defScope S_Sum_init) := ⟨rfl, rfl, rfl, by decide +kernel, rfl, by decide +kernel, by decide +kernel⟩
theorem ok_Sum_init (T : Tx w K mg) (c_need_terms : Cal P w K mg base 1 "need_terms" (spNT K)) : Mak P w K mg base 2 "Sum" (He.ga K "Sum") (spInit K "Sum" (okN4 K)) := by
  refine mak_mk T 75 101 60 rfl rfl rfl sc_Sum_init (fun _ _ _ _ _ _ us hl => match us, hl with | [_, _, _, _], _ => rfl) (fun vs H Q E h => ?_) (fun cdv A outer s H vs Q E hr h => ?_)
  · obtain ⟨p, dx, args, fs, rfl, _, ⟨sg, u1, u2, m, g, rfl, _⟩, _⟩ := h
    rfl
  obtain ⟨p, dx, args, fs, rfl, hp, ⟨sg, u1, u2, m, g, rfl, hs, hu1, hu2, rfl⟩, q⟩ := h
  refine ⟨_, (pss_cons (ps_if (PW.pt (pw_or (pt_not (pt_val (pe_isi (pv 1) (pe_bltn (v := .ty "str") (by rfl) (T.free 78 rfl) (by decide +kernel) rfl) (by rfl) (T.free 69 rfl)))) (pw_or1 (pt_cmpR op_notIn_seq (pv 1) (pe_glob (v := .ref (He.ga K "SUMS")) rfl (T.glo 88 rfl) rfl) (by rfl))))) (pss_one ps_never) pss_nil)
      (pss_cons (ps_expr (pe_c c_need_terms hr (by omega) (by rfl) (pa_cons (pe_lst (pa_cons (pv 2) (pa_cons (pv 3) pa_nil))) pa_nil)))
      (pss_cons (ps_fld (pv 0) (pv 1) rfl)
      (pss_cons (ps_fld (pv 0) (pv 2) rfl)
      (pss_one (ps_fld (pv 0) (pv 3) rfl)))))), ?_⟩
  refine ⟨_, rfl, true, isi_str k_str_str, _, rfl, iteF ?_⟩
  refine ⟨_, rfl, _, _, rfl, .inr (tx_sums T _), rfl, rfl, _, rfl, ?_⟩
  have es : (!inV (V.str sg) [.str "+", .str "-", .str "<"]) = false := by
    rcases hs with rfl | rfl | rfl <;> decide +kernel
  show if (!inV (V.str sg) [.str "+", .str "-", .str "<"]) = true then _ else _
  rw [es]
  refine iteF ?_
  refine ⟨_, rfl, _, rfl, (by show 2 ≤ sizeLine; decide), fun l hl => ?_⟩
  have s1 := same_new hl (.lst [u1, u2])
  refine ⟨⟨l, _, _, rfl, SqL.new upd_same, (.cons (term_up s1 hu1) (.cons (term_up s1 hu2) .nil))⟩, fun H3 s3 => ?_⟩
  have s4 := s1.trans s3
  refine ⟨_, rfl, _, rfl, p, _, dx, _, rfl, s4 _ _ hp, T.cls 100, T.noat 124, (by show 0 < 1000; decide), ?_⟩
  refine ⟨_, rfl, _, rfl, p, _, dx, _, rfl, upd_same, T.cls 100, T.noat 125, (by show 1 < 1000; decide), ?_⟩
  refine ⟨_, rfl, _, rfl, p, _, dx, _, rfl, upd_same, T.cls 100, T.noat 126, (by show 2 < 1000; decide), ?_⟩
  exact q _ ((((same_x s4).trans samex_ins).trans samex_ins).trans samex_ins) upd_same
theorem sc_Choice_init : FnScope ["self", "asked", "nought", "other"] ["self", "asked", "nought", "other"] (defScope S_Choice_init) := ⟨rfl, rfl, rfl, by decide +kernel, rfl, by decide +kernel, by decide +kernel⟩
theorem ok_Choice_init (T : Tx w K mg) (c_need_terms : Cal P w K mg base 1 "need_terms" (spNT K)) : Mak P w K mg base 2 "Choice" (He.ga K "Choice") (spInit K "Choice" (okN5 K)) := by
  refine mak_mk T 80 103 61 rfl rfl rfl sc_Choice_init (fun _ _ _ _ _ _ us hl => match us, hl with | [_, _, _, _], _ => rfl) (fun vs H Q E h => ?_) (fun cdv A outer s H vs Q E hr h => ?_)
  · obtain ⟨p, dx, args, fs, rfl, _, ⟨u1, u2, u3, m, n, g, rfl, _⟩, _⟩ := h
    rfl
  obtain ⟨p, dx, args, fs, rfl, hp, ⟨u1, u2, u3, m, n, g, rfl, hu1, hu2, hu3, rfl⟩, q⟩ := h
  refine ⟨_, (pss_cons (ps_expr (pe_c c_need_terms hr (by omega) (by rfl) (pa_cons (pe_lst (pa_cons (pv 1) (pa_cons (pv 2) (pa_cons (pv 3) pa_nil)))) pa_nil)))
      (pss_cons (ps_fld (pv 0) (pv 1) rfl)
      (pss_cons (ps_fld (pv 0) (pv 2) rfl)
      (pss_one (ps_fld (pv 0) (pv 3) rfl))))), ?_⟩
  refine ⟨_, rfl, _, rfl, _, rfl, (by show 3 ≤ sizeLine; decide), fun l hl => ?_⟩
  have s1 := same_new hl (.lst [u1, u2, u3])
  refine ⟨⟨l, _, _, rfl, SqL.new upd_same, (.cons (term_up s1 hu1) (.cons (term_up s1 hu2) (.cons (term_up s1 hu3) .nil)))⟩, fun H3 s3 => ?_⟩
  have s4 := s1.trans s3
  refine ⟨_, rfl, _, rfl, p, _, dx, _, rfl, s4 _ _ hp, T.cls 102, T.noat 127, (by show 0 < 1000; decide), ?_⟩
  refine ⟨_, rfl, _, rfl, p, _, dx, _, rfl, upd_same, T.cls 102, T.noat 128, (by show 1 < 1000; decide), ?_⟩
  refine ⟨_, rfl, _, rfl, p, _, dx, _, rfl, upd_same, T.cls 102, T.noat 129, (by show 2 < 1000; decide), ?_⟩
  exact q _ ((((same_x s4).trans samex_ins).trans samex_ins).trans samex_ins) upd_same
/-! ### parts, binds, rebuilt -/
def spParts (K : PySem.W.Frag) (c : Tc) : Sp := fun vs H Q _ => ∃ t v G, vs = [v] ∧ t.tc = c ∧ Same G H ∧ TermAt K G t v ∧ ∀ p us, H p = none → TermsAt K G t.parts us → Q (.ref p) (upd H p (.lst us))
def bindV (t : Tm) : V := match t.binds with
  | some x => .str x
  | none => .non
def spBinds (K : PySem.W.Frag) (c : Tc) : Sp := fun vs H Q _ => ∃ t v, vs = [v] ∧ t.tc = c ∧ TermAt K H t v ∧ Q (bindV t) H
theorem sc_Term_parts : FnScope ["self"] ["self"] (defScope S_Term_parts) := ⟨rfl, rfl, rfl, by decide +kernel, rfl, by decide +kernel, by decide +kernel⟩
theorem ok_Name_parts (T : Tx w K mg) : Met P w K mg base 1 (He.ga K "Name") "parts" (spParts K .name) := by
  refine met_mk T 56 148 92 rfl rfl rfl sc_Term_parts (fun _ _ _ _ _ _ us hl => match us, hl with | [_], _ => rfl) (fun vs H Q E h => ?_) (fun cdv A outer s H vs Q E hr h => ?_)
  · obtain ⟨t, v, G, rfl, _⟩ := h
    rfl
  obtain ⟨t, v, G, rfl, ht, sG, hv, q⟩ := h
  refine ⟨_, (pss_one (ps_ret (pe_lst pa_nil))), ?_⟩
  cases t with
  | name x =>
    exact ⟨Nat.zero_le _, fun l hl => q _ _ hl .nil⟩
  | _ => cases ht
theorem ok_Number_parts (T : Tx w K mg) : Met P w K mg base 1 (He.ga K "Number") "parts" (spParts K .num) := by
  refine met_mk T 61 153 94 rfl rfl rfl sc_Term_parts (fun _ _ _ _ _ _ us hl => match us, hl with | [_], _ => rfl) (fun vs H Q E h => ?_) (fun cdv A outer s H vs Q E hr h => ?_)
  · obtain ⟨t, v, G, rfl, _⟩ := h
    rfl
  obtain ⟨t, v, G, rfl, ht, sG, hv, q⟩ := h
  refine ⟨_, (pss_one (ps_ret (pe_lst pa_nil))), ?_⟩
  cases t with
  | num i =>
    exact ⟨Nat.zero_le _, fun l hl => q _ _ hl .nil⟩
  | _ => cases ht
theorem sc_Maker_parts : FnScope ["self"] ["self"] (defScope S_Maker_parts) := ⟨rfl, rfl, rfl, by decide +kernel, rfl, by decide +kernel, by decide +kernel⟩
theorem ok_Maker_parts (T : Tx w K mg) : Met P w K mg base 1 (He.ga K "Maker") "parts" (spParts K .mk) := by
  refine met_mk T 66 158 96 rfl rfl rfl sc_Maker_parts (fun _ _ _ _ _ _ us hl => match us, hl with | [_], _ => rfl) (fun vs H Q E h => ?_) (fun cdv A outer s H vs Q E hr h => ?_)
  · obtain ⟨t, v, G, rfl, _⟩ := h
    rfl
  obtain ⟨t, v, G, rfl, ht, sG, hv, q⟩ := h
  refine ⟨_, (pss_one (ps_ret (pe_lst (pa_cons (pe_fld (pv 0) rfl) pa_nil)))), ?_⟩
  cases t with
  | mk x b =>
    obtain ⟨ok, a, dx, u0, rfl, ha, h0⟩ := hv
    refine ⟨_, rfl, a, _, dx, _, _, rfl, sG _ _ ha, T.cls 96, T.noat 121, rfl, (by show 1 ≤ sizeLine; decide), fun l hl => ?_⟩
    exact q _ _ hl (.cons h0 .nil)
  | _ => cases ht
theorem sc_Give_parts : FnScope ["self"] ["self"] (defScope S_Give_parts) := ⟨rfl, rfl, rfl, by decide +kernel, rfl, by decide +kernel, by decide +kernel⟩
theorem ok_Give_parts (T : Tx w K mg) : Met P w K mg base 1 (He.ga K "Give") "parts" (spParts K .gv) := by
  refine met_mk T 71 163 98 rfl rfl rfl sc_Give_parts (fun _ _ _ _ _ _ us hl => match us, hl with | [_], _ => rfl) (fun vs H Q E h => ?_) (fun cdv A outer s H vs Q E hr h => ?_)
  · obtain ⟨t, v, G, rfl, _⟩ := h
    rfl
  obtain ⟨t, v, G, rfl, ht, sG, hv, q⟩ := h
  refine ⟨_, (pss_one (ps_ret (pe_lst (pa_cons (pe_fld (pv 0) rfl) (pa_cons (pe_fld (pv 0) rfl) pa_nil))))), ?_⟩
  cases t with
  | gv m g =>
    obtain ⟨a, dx, u0, u1, rfl, ha, h0, h1⟩ := hv
    refine ⟨_, rfl, a, _, dx, _, _, rfl, sG _ _ ha, T.cls 98, T.noat 122, rfl, _, rfl, a, _, dx, _, _, rfl, sG _ _ ha, T.cls 98, T.noat 123, rfl, (by show 2 ≤ sizeLine; decide), fun l hl => ?_⟩
    exact q _ _ hl (.cons h0 (.cons h1 .nil))
  | _ => cases ht
theorem sc_Sum_parts : FnScope ["self"] ["self"] (defScope S_Sum_parts) := ⟨rfl, rfl, rfl, by decide +kernel, rfl, by decide +kernel, by decide +kernel⟩
theorem ok_Sum_parts (T : Tx w K mg) : Met P w K mg base 1 (He.ga K "Sum") "parts" (spParts K .sm) := by
  refine met_mk T 76 168 100 rfl rfl rfl sc_Sum_parts (fun _ _ _ _ _ _ us hl => match us, hl with | [_], _ => rfl) (fun vs H Q E h => ?_) (fun cdv A outer s H vs Q E hr h => ?_)
  · obtain ⟨t, v, G, rfl, _⟩ := h
    rfl
  obtain ⟨t, v, G, rfl, ht, sG, hv, q⟩ := h
  refine ⟨_, (pss_one (ps_ret (pe_lst (pa_cons (pe_fld (pv 0) rfl) (pa_cons (pe_fld (pv 0) rfl) pa_nil))))), ?_⟩
  cases t with
  | sm sg m g =>
    obtain ⟨ok, a, dx, u0, u1, rfl, ha, h0, h1⟩ := hv
    refine ⟨_, rfl, a, _, dx, _, _, rfl, sG _ _ ha, T.cls 100, T.noat 125, rfl, _, rfl, a, _, dx, _, _, rfl, sG _ _ ha, T.cls 100, T.noat 126, rfl, (by show 2 ≤ sizeLine; decide), fun l hl => ?_⟩
    exact q _ _ hl (.cons h0 (.cons h1 .nil))
  | _ => cases ht
theorem sc_Choice_parts : FnScope ["self"] ["self"] (defScope S_Choice_parts) := ⟨rfl, rfl, rfl, by decide +kernel, rfl, by decide +kernel, by decide +kernel⟩
theorem ok_Choice_parts (T : Tx w K mg) : Met P w K mg base 1 (He.ga K "Choice") "parts" (spParts K .ch) := by
  refine met_mk T 81 173 102 rfl rfl rfl sc_Choice_parts (fun _ _ _ _ _ _ us hl => match us, hl with | [_], _ => rfl) (fun vs H Q E h => ?_) (fun cdv A outer s H vs Q E hr h => ?_)
  · obtain ⟨t, v, G, rfl, _⟩ := h
    rfl
  obtain ⟨t, v, G, rfl, ht, sG, hv, q⟩ := h
  refine ⟨_, (pss_one (ps_ret (pe_lst (pa_cons (pe_fld (pv 0) rfl) (pa_cons (pe_fld (pv 0) rfl) (pa_cons (pe_fld (pv 0) rfl) pa_nil)))))), ?_⟩
  cases t with
  | ch m n g =>
    obtain ⟨a, dx, u0, u1, u2, rfl, ha, h0, h1, h2⟩ := hv
    refine ⟨_, rfl, a, _, dx, _, _, rfl, sG _ _ ha, T.cls 102, T.noat 127, rfl, _, rfl, a, _, dx, _, _, rfl, sG _ _ ha, T.cls 102, T.noat 128, rfl, _, rfl, a, _, dx, _, _, rfl, sG _ _ ha, T.cls 102, T.noat 129, rfl, (by show 3 ≤ sizeLine; decide), fun l hl => ?_⟩
    exact q _ _ hl (.cons h0 (.cons h1 (.cons h2 .nil)))
  | _ => cases ht
theorem sc_Again_parts : FnScope ["self"] ["self"] (defScope S_Again_parts) := ⟨rfl, rfl, rfl, by decide +kernel, rfl, by decide +kernel, by decide +kernel⟩
theorem ok_Again_parts (T : Tx w K mg) : Met P w K mg base 1 (He.ga K "Again") "parts" (spParts K .ag) := by
  refine met_mk T 86 178 104 rfl rfl rfl sc_Again_parts (fun _ _ _ _ _ _ us hl => match us, hl with | [_], _ => rfl) (fun vs H Q E h => ?_) (fun cdv A outer s H vs Q E hr h => ?_)
  · obtain ⟨t, v, G, rfl, _⟩ := h
    rfl
  obtain ⟨t, v, G, rfl, ht, sG, hv, q⟩ := h
  refine ⟨_, (pss_one (ps_ret (pe_lst (pa_cons (pe_fld (pv 0) rfl) pa_nil)))), ?_⟩
  cases t with
  | ag x b =>
    obtain ⟨ok, a, dx, u0, rfl, ha, h0⟩ := hv
    refine ⟨_, rfl, a, _, dx, _, _, rfl, sG _ _ ha, T.cls 104, T.noat 131, rfl, (by show 1 ≤ sizeLine; decide), fun l hl => ?_⟩
    exact q _ _ hl (.cons h0 .nil)
  | _ => cases ht
theorem sc_Term_binds : FnScope ["self"] ["self"] (defScope S_Term_binds) := ⟨rfl, rfl, rfl, by decide +kernel, rfl, by decide +kernel, by decide +kernel⟩
theorem ok_Name_binds (T : Tx w K mg) : Met P w K mg base 1 (He.ga K "Name") "binds" (spBinds K .name) := by
  refine met_mk T 58 150 92 rfl rfl rfl sc_Term_binds (fun _ _ _ _ _ _ us hl => match us, hl with | [_], _ => rfl) (fun vs H Q E h => ?_) (fun cdv A outer s H vs Q E hr h => ?_)
  · obtain ⟨t, v, rfl, _⟩ := h
    rfl
  obtain ⟨t, v, rfl, ht, hv, q⟩ := h
  refine ⟨_, (pss_one (ps_ret pe_non)), ?_⟩
  cases t with
  | name x =>
    exact q
  | _ => cases ht
theorem ok_Number_binds (T : Tx w K mg) : Met P w K mg base 1 (He.ga K "Number") "binds" (spBinds K .num) := by
  refine met_mk T 63 155 94 rfl rfl rfl sc_Term_binds (fun _ _ _ _ _ _ us hl => match us, hl with | [_], _ => rfl) (fun vs H Q E h => ?_) (fun cdv A outer s H vs Q E hr h => ?_)
  · obtain ⟨t, v, rfl, _⟩ := h
    rfl
  obtain ⟨t, v, rfl, ht, hv, q⟩ := h
  refine ⟨_, (pss_one (ps_ret pe_non)), ?_⟩
  cases t with
  | num i =>
    exact q
  | _ => cases ht
theorem sc_Maker_binds : FnScope ["self"] ["self"] (defScope S_Maker_binds) := ⟨rfl, rfl, rfl, by decide +kernel, rfl, by decide +kernel, by decide +kernel⟩
theorem ok_Maker_binds (T : Tx w K mg) : Met P w K mg base 1 (He.ga K "Maker") "binds" (spBinds K .mk) := by
  refine met_mk T 68 160 96 rfl rfl rfl sc_Maker_binds (fun _ _ _ _ _ _ us hl => match us, hl with | [_], _ => rfl) (fun vs H Q E h => ?_) (fun cdv A outer s H vs Q E hr h => ?_)
  · obtain ⟨t, v, rfl, _⟩ := h
    rfl
  obtain ⟨t, v, rfl, ht, hv, q⟩ := h
  refine ⟨_, (pss_one (ps_ret (pe_fld (pv 0) rfl))), ?_⟩
  cases t with
  | mk x b =>
    obtain ⟨ok, a, dx, u0, rfl, ha, h0⟩ := hv
    exact ⟨_, rfl, a, _, dx, _, _, rfl, ha, T.cls 96, T.noat 120, rfl, q⟩
  | _ => cases ht
theorem ok_Give_binds (T : Tx w K mg) : Met P w K mg base 1 (He.ga K "Give") "binds" (spBinds K .gv) := by
  refine met_mk T 73 165 98 rfl rfl rfl sc_Term_binds (fun _ _ _ _ _ _ us hl => match us, hl with | [_], _ => rfl) (fun vs H Q E h => ?_) (fun cdv A outer s H vs Q E hr h => ?_)
  · obtain ⟨t, v, rfl, _⟩ := h
    rfl
  obtain ⟨t, v, rfl, ht, hv, q⟩ := h
  refine ⟨_, (pss_one (ps_ret pe_non)), ?_⟩
  cases t with
  | gv m g =>
    exact q
  | _ => cases ht
theorem ok_Sum_binds (T : Tx w K mg) : Met P w K mg base 1 (He.ga K "Sum") "binds" (spBinds K .sm) := by
  refine met_mk T 78 170 100 rfl rfl rfl sc_Term_binds (fun _ _ _ _ _ _ us hl => match us, hl with | [_], _ => rfl) (fun vs H Q E h => ?_) (fun cdv A outer s H vs Q E hr h => ?_)
  · obtain ⟨t, v, rfl, _⟩ := h
    rfl
  obtain ⟨t, v, rfl, ht, hv, q⟩ := h
  refine ⟨_, (pss_one (ps_ret pe_non)), ?_⟩
  cases t with
  | sm sg m g =>
    exact q
  | _ => cases ht
theorem ok_Choice_binds (T : Tx w K mg) : Met P w K mg base 1 (He.ga K "Choice") "binds" (spBinds K .ch) := by
  refine met_mk T 83 175 102 rfl rfl rfl sc_Term_binds (fun _ _ _ _ _ _ us hl => match us, hl with | [_], _ => rfl) (fun vs H Q E h => ?_) (fun cdv A outer s H vs Q E hr h => ?_)
  · obtain ⟨t, v, rfl, _⟩ := h
    rfl
  obtain ⟨t, v, rfl, ht, hv, q⟩ := h
  refine ⟨_, (pss_one (ps_ret pe_non)), ?_⟩
  cases t with
  | ch m n g =>
    exact q
  | _ => cases ht
theorem sc_Again_binds : FnScope ["self"] ["self"] (defScope S_Again_binds) := ⟨rfl, rfl, rfl, by decide +kernel, rfl, by decide +kernel, by decide +kernel⟩
theorem ok_Again_binds (T : Tx w K mg) : Met P w K mg base 1 (He.ga K "Again") "binds" (spBinds K .ag) := by
  refine met_mk T 88 180 104 rfl rfl rfl sc_Again_binds (fun _ _ _ _ _ _ us hl => match us, hl with | [_], _ => rfl) (fun vs H Q E h => ?_) (fun cdv A outer s H vs Q E hr h => ?_)
  · obtain ⟨t, v, rfl, _⟩ := h
    rfl
  obtain ⟨t, v, rfl, ht, hv, q⟩ := h
  refine ⟨_, (pss_one (ps_ret (pe_fld (pv 0) rfl))), ?_⟩
  cases t with
  | ag x b =>
    obtain ⟨ok, a, dx, u0, rfl, ha, h0⟩ := hv
    exact ⟨_, rfl, a, _, dx, _, _, rfl, ha, T.cls 104, T.noat 130, rfl, q⟩
  | _ => cases ht
theorem ok_parts (T : Tx w K mg) : ∀ c : Tc, Met P w K mg base 1 (He.ga K c.nm) "parts" (spParts K c)
  | .name => ok_Name_parts T | .num => ok_Number_parts T | .mk => ok_Maker_parts T | .gv => ok_Give_parts T | .sm => ok_Sum_parts T | .ch => ok_Choice_parts T | .ag => ok_Again_parts T
theorem ok_binds (T : Tx w K mg) : ∀ c : Tc, Met P w K mg base 1 (He.ga K c.nm) "binds" (spBinds K c)
  | .name => ok_Name_binds T | .num => ok_Number_binds T | .mk => ok_Maker_binds T | .gv => ok_Give_binds T | .sm => ok_Sum_binds T | .ch => ok_Choice_binds T | .ag => ok_Again_binds T

end
end Ut
set_option Elab.async false
set_option linter.all false
set_option maxRecDepth 100000
set_option maxHeartbeats 8000000
/-! sets of texts: made of a list, sorted -/
namespace Ut
open PySem PySem.Spec PyProof.Rows L2
def kS (e : Int × Value) : Str := match e.2 with | .str x _ => x | _ => Str.empty
def okS (w : World) (e : Int × Value) : Prop := ∃ x tk, e.2 = Value.str x tk ∧ e.1 = hashStr w x
/-- what stands in its table -/
structure Tab (w : World) (es : Array (Int × Value)) (t : SetTable) (L : List Str) : Prop where
  good : ∀ e ∈ es.toList, okS w e
  perm : (es.toList.map kS).Perm L
  nd : L.Nodup
  small : es.size < scanBound
  fits : t.fits es.size = true
  ris : Ris t.place.toList
  led : w.params.followText "set-order" = true ∨ t.led = true
/-- a set of texts stands at a: L its members, each once -/
def TxtSet (w : World) (h : Heap) (a : Addr) (L : List Str) : Prop :=
  ∃ (o : Obj) (es : Array (Int × Value)) (ep : Nat) (t : SetTable), h.get? a = some o ∧ o.ExactSet ∧ o.data = .set es ep t ∧ Tab w es t L
section
variable {P : Program} {w : World} {h h' : Heap} {a : Addr} {L : List Str} {es : Array (Int × Value)} {t : SetTable}
theorem TxtSet.to (R : TxtSet w h a L) (k : ∀ o, h.get? a = some o → h'.get? a = some o) : TxtSet w h' a L := by
  obtain ⟨o, es, ep, t, ho, r⟩ := R
  exact ⟨o, es, ep, t, k o ho, r⟩
theorem Tab.elems (T : Tab w es t L) : ElemsOf (PySem.strKind P w) es.toList := fun e he => by
  obtain ⟨x, tk, h1, h2⟩ := T.good e he
  rw [h1]
  exact ⟨⟨x, PySem.strKind_is P w x tk, h2⟩, rfl⟩
theorem Tab.len (T : Tab w es t L) : es.size = L.length := by
  have := T.perm.length_eq
  rw [List.length_map, Array.length_toList] at this
  exact this
theorem kS_is {e : Int × Value} (g : okS w e) (k : Str) : (PySem.strKind P w).is k e.2 = true ↔ kS e = k := by
  obtain ⟨x, tk, h1, _⟩ := g
  unfold kS
  rw [h1]
  constructor
  · intro q
    exact ((PySem.strKind P w).inj _ _ _ (PySem.strKind_is P w x tk) q)
  · rintro rfl
    exact PySem.strKind_is P w _ tk
theorem Tab.mem (T : Tab w es t L) (P : Program) (k : Str) : k ∈ L ↔ ∃ e ∈ es.toList, (PySem.strKind P w).is k e.2 = true := by
  rw [← T.perm.mem_iff, List.mem_map]
  constructor
  · rintro ⟨e, he, q⟩
    exact ⟨e, he, (kS_is (T.good e he) k).mpr q⟩
  · rintro ⟨e, he, q⟩
    exact ⟨e, he, (kS_is (T.good e he) k).mp q⟩
end
section
variable {P : Program} {w : World} {A : Around} {E : Value → Shared → Prop} {s : Shared} {a : Addr} {L : List Str}
/-- the table is laid, and laid wider where it is too full -/
theorem lay_end {g : Bool → Sem Unit} (hg : ∀ (b : Bool) (z : Shared) (J : Unit → Shared → Prop), J () z → wpAny (model P w) A (g b) J E z) {o : Obj} {es es1 : Array (Int × Value)} {ep : Nat} {t t2 : SetTable}
    (ho : s.heap.get? a = some o) (hex : o.ExactSet) (hd : o.data = .set es ep t) (T : Tab w es1 t2 L) {dm : Bool} {R : Option Bool → Shared → Prop}
    (hR : ∀ h', Heap.SameBut a s.heap h' → TxtSet w h' a L → R (some true) { s with heap := h' }) :
    wpAny (model P w) A (do
      storeSet a es1 t2
      if (!dm && t2.tooFull) = true then do
        g (relayAll t2 es1 (SetTable.grown es1.size)).2.2
        storeSet a (relayAll t2 es1 (SetTable.grown es1.size)).1 (relayAll t2 es1 (SetTable.grown es1.size)).2.1
        pure (some true)
      else pure (some true)) R E s := by
  refine wpAny_bind (wpAny_storeSet_of ho hd ?_ (fits_of_scanBound T.small))
  have q1 := store_at (es' := es1) (t' := t2) ho hd
  have b1 := Heap.SameBut.update s.heap a (Obj.putSet es1 t2)
  by_cases c : (!dm && t2.tooFull) = true
  · rw [if_pos c]
    have e1 := relayAll_perm t2 es1 (SetTable.grown es1.size)
    have e2 := relayAll_fits t2 es1 (SetTable.grown es1.size)
    have e3 := relayAll_ris t2 es1 (SetTable.grown es1.size)
    have e4 := relayAll_led t2 es1 (SetTable.grown es1.size)
    revert e1 e2 e3 e4
    generalize relayAll t2 es1 (SetTable.grown es1.size) = Z
    obtain ⟨es2, t3, gave⟩ := Z
    intro e1 e2 e3 e4
    have z : es2.size = es1.size := by rw [← Array.length_toList, e1.length_eq, Array.length_toList]
    have small : es2.size < scanBound := z ▸ T.small
    refine wpAny_bind (hg _ _ _ (wpAny_bind (wpAny_storeSet_of q1 rfl ?_ (fits_of_scanBound small))))
    have q2 := store_at (es' := es2) (t' := t3) q1 rfl
    refine wpAny_pure (hR _ (b1.trans (Heap.SameBut.update _ a _)) ⟨_, es2, _, t3, q2, hex, rfl, ?_⟩)
    exact ⟨fun e he => T.good e (e1.mem_iff.mp he), (e1.map kS).trans T.perm, T.nd, small, e2, e3, T.led.imp id fun y => by rw [e4]; exact y⟩
  · rw [if_neg c]
    exact wpAny_pure (hR _ b1 ⟨_, es1, _, t2, q1, hex, rfl, T⟩)
theorem addS {k : Str} {tk : Tok} {Q : Bool → Shared → Prop} (R : TxtSet w s.heap a L) (room : L.length + 1 < scanBound)
    (hQ : ∀ h' L' b, Heap.SameBut a s.heap h' → TxtSet w h' a L' → (k ∈ L ∧ L' = L ∨ k ∉ L ∧ L' = k :: L) → Q b { s with heap := h' }) :
    wpAny (model P w) A (setAddHashed a (.str k tk) ((PySem.strKind P w).hash k)) Q E s := by
  have R0 := R
  obtain ⟨o, es, ep, t, ho, hex, hd, T⟩ := R
  have isk := PySem.strKind_is P w k tk
  have sc : (Value.str k tk).scannable = true := rfl
  have el : ElemsOf (PySem.strKind P w) es.toList := T.elems
  have give : ∀ (b : Bool) {z : Shared} {J : Unit → Shared → Prop}, J () z → wpAny (model P w) A (match b with | true => rule "set.scan.the-table-gave-way" | false => pure ()) J E z := by
    intro b z J q
    cases b
    · exact wpAny_pure q
    · exact wpAny_rule q
  unfold setAddHashed setAddHashedIn
  refine wpAny_holding (wpAny_bind (wpAny_setState_of ho hd T.fits ?_))
  dsimp only
  rw [byScan_of sc T.small el]
  simp only [↓reduceIte]
  unfold setAddByScan
  refine wpAny_bind (wpAny_bind (wpAny_rule (wpAny_bind (wpAny_setScan_of isk ho hd T.fits el ?_))))
  cases hfi : List.findIdx? (fun e => (PySem.strKind P w).is k e.2) es.toList with
  | some j =>
    dsimp only
    obtain ⟨hj, pj, _⟩ := List.findIdx?_eq_some_iff_getElem.mp hfi
    have hk : k ∈ L := (T.mem P k).mpr ⟨_, List.getElem_mem hj, pj⟩
    exact wpAny_pure (wpAny_pure (hQ s.heap L _ (Heap.SameBut.refl a s.heap) R0 (.inl ⟨hk, rfl⟩)))
  | none =>
    dsimp only
    have hk : k ∉ L := fun m => by
      obtain ⟨e, he, q⟩ := (T.mem P k).mp m
      rw [List.findIdx?_eq_none_iff.mp hfi e he] at q
      cases q
    have e1 := layNew_perm t es ((PySem.strKind P w).hash k) (.str k tk)
    have e2 := layNew_fits t es ((PySem.strKind P w).hash k) (.str k tk)
    have e3 := layNew_ris t es ((PySem.strKind P w).hash k) (.str k tk) T.ris
    have e4 := layNew_led t es ((PySem.strKind P w).hash k) (.str k tk)
    revert e1 e2 e3 e4
    generalize layNew t es ((PySem.strKind P w).hash k) (.str k tk) = Z
    obtain ⟨es1, t1, dm, gave⟩ := Z
    intro e1 e2 e3 e4
    dsimp only at e1 e2 e3 e4 ⊢
    rw [Array.toList_push] at e1
    have pc : es1.toList.Perm (((PySem.strKind P w).hash k, Value.str k tk) :: es.toList) := e1.trans (List.perm_append_singleton _ _)
    have z : es1.size = L.length + 1 := by rw [← Array.length_toList, pc.length_eq, List.length_cons, Array.length_toList, T.len]
    have T1 : Tab w es1 t1 (k :: L) := by
      refine ⟨fun e he => ?_, (pc.map kS).trans (List.Perm.cons k T.perm), List.nodup_cons.mpr ⟨hk, T.nd⟩, by rw [z]; exact room, e2, e3, T.led.imp id fun y => by rw [e4]; exact y⟩
      rcases List.mem_cons.mp (pc.mem_iff.mp he) with y | y
      · rw [y]
        exact ⟨k, tk, rfl, rfl⟩
      · exact T.good e y
    refine wpAny_bind (give _ ?_)
    split
    · refine wpAny_bind ?_
      rw [hashByValue_scannable 8 sc]
      refine wpAny_pure ?_
      refine lay_end (L := k :: L) ?_ ho hex hd ⟨T1.good, T1.perm, T1.nd, T1.small, ?_, ?_, ?_⟩ ?_
      · intro b z J q
        cases b
        · exact wpAny_pure q
        · exact wpAny_rule q
      · have f := T1.fits
        first
          | exact f
          | (split <;> first | exact f | exact SetTable.fits_plain_off f)
      · have f := T1.ris
        first | exact f | (split <;> exact f)
      · have f := T1.led
        first | exact f | (split <;> exact f)
      · intro h' sb r
        exact wpAny_pure (hQ h' _ _ sb r (.inr ⟨hk, rfl⟩))
    · refine wpAny_bind (wpAny_pure ?_)
      simp only [↓reduceIte]
      refine lay_end (L := k :: L) ?_ ho hex hd T1 ?_
      · intro b z J q
        cases b
        · exact wpAny_pure q
        · exact wpAny_rule q
      · intro h' sb r
        exact wpAny_pure (hQ h' _ _ sb r (.inr ⟨hk, rfl⟩))
end
end Ut
set_option Elab.async false
set_option linter.all false
set_option maxRecDepth 100000
set_option maxHeartbeats 8000000
namespace Ut
open PySem PySem.Spec PyProof.Rows L2
abbrev set0 (w : World) : Obj :=
  { cls := .type "set", dict := none,
    data := .set #[] 0 (.fresh 0 0 (!w.params.followText "set-order")) }
theorem txt0 {w : World} {h : Heap} {a : Addr} (ho : h.get? a = some (set0 w)) : TxtSet w h a [] :=
  ⟨_, #[], 0, _, ho, ⟨rfl, rfl, rfl⟩, rfl, fun e he => by simp at he, .nil, List.nodup_nil, by decide, rfl, List.Pairwise.nil, by
    cases q : w.params.followText "set-order"
    · exact .inr (by show (!false) = true; rfl)
    · exact .inl rfl⟩
section
variable {P : Program} {w : World} {A : Around} {E : Value → Shared → Prop} {s : Shared}
theorem loopT {I : Addr} {fp wr : List Addr} {G : Array GenState → Array GenState → Prop} {n : Nat} {Pv : Nat → Value → Prop} {St : Nat → Shared → Prop} {R : Result → Shared → Prop}
    (W : WalksS P w A.in1 I fp wr G n Pv St) (S : Addr) (out : S ∉ fp) (ks : List Str) (hn : n = ks.length) (room : ks.length + 1 < scanBound) (val : ∀ i v, Pv i v → ∃ k t, ks[i]? = some k ∧ v = .str k t)
    (fin : ∀ s0 s' L, Moved (S :: wr) G s0 s' → s0.toks ≤ s0.toks → (∀ x, x ∈ L ↔ x ∈ ks) → TxtSet w s'.heap S L → True) :
    ∀ (d i : Nat) (s : Shared), n - i = d → i ≤ n → St i s → (∃ L, L.length ≤ i ∧ (∀ x, x ∈ L ↔ x ∈ ks.take i) ∧ TxtSet w s.heap S L) →
      (∀ s' L, Moved (S :: wr) G s s' → (∀ x, x ∈ L ↔ x ∈ ks) → TxtSet w s'.heap S L → R (.ok (.ret .none)) s') →
      codeAny (model P w) A (.builtin "set.update.loop" ⟨[.ref S, .ref I], []⟩) R s := by
  have nw : S ∉ wr := fun m => out (W.sub _ m)
  have more : ∀ b ∈ wr, b ∈ S :: wr := fun b m => List.mem_cons_of_mem _ m
  intro d
  induction d with
  | zero =>
    rintro i s hd hi st ⟨L, hl, hm, T⟩ k
    obtain rfl : i = n := by omega
    refine codeAny_builtin F.entry_set_update_loop ?_
    rw [Around.under_plainId F.plain_set_update_loop _]
    show wpAny _ A.in1 (pyNext (.ref I) >>= _) _ _ s
    refine wpAny_bind (W.done s _ _ st fun s' mv => ?_)
    show wpAny _ A.in1 (ret Value.none) _ _ s'
    rw [List.take_of_length_le (by omega)] at hm
    exact wpAny_pure (k s' L (mv.mono more) hm (T.to fun o e => mv.heap S o nw e))
  | succ d ih =>
    rintro i s hd hi st ⟨L, hl, hm, T⟩ k
    have lt : i < n := by omega
    refine codeAny_builtin F.entry_set_update_loop ?_
    rw [Around.under_plainId F.plain_set_update_loop _]
    show wpAny _ A.in1 (pyNext (.ref I) >>= _) _ _ s
    refine wpAny_bind (W.item i s _ _ lt st fun v s' pv st' mv => ?_)
    obtain ⟨z, t, hz, rfl⟩ := val i v pv
    have T' : TxtSet w s'.heap S L := T.to fun o e => mv.heap S o nw e
    show wpAny _ A.in1 (holding [Value.str z t] (setAdd S (.str z t)) >>= _) _ _ s'
    refine wpAny_bind (wpAny_holding ?_)
    unfold setAdd
    refine wpAny_holding (wpAny_bind ((PySem.strKind P w).pyHash (k := z) (PySem.strKind_is _ _ _ _) ?_))
    refine addS (s := { s' with toks := s'.toks + 1 }) T' (by omega) fun h' L' b sb T2 cs => ?_
    have here : ∀ b ∈ fp, ∀ o, s'.heap.get? b = some o → h'.get? b = some o := fun b m o e => (sb.2 b (fun q : b = S => out (q ▸ m))).trans e
    have away : ∀ b o, b ∉ S :: wr → s'.heap.get? b = some o → h'.get? b = some o := fun b o m e => (sb.2 b (fun q : b = S => m (q ▸ List.mem_cons_self))).trans e
    have nx : ∃ L, L.length ≤ i + 1 ∧ (∀ x, x ∈ L ↔ x ∈ ks.take (i + 1)) ∧ TxtSet w h' S L := by
      refine ⟨L', ?_, fun x => ?_, T2⟩
      · rcases cs with ⟨_, rfl⟩ | ⟨_, rfl⟩
        · omega
        · rw [List.length_cons]
          omega
      · rw [List.take_add_one, hz, List.mem_append, ← hm x]
        rcases cs with ⟨m, rfl⟩ | ⟨_, rfl⟩
        · constructor
          · exact .inl
          · rintro (q | q)
            · exact q
            · have q : x = z := by simpa using q
              rw [q]
              exact m
        · rw [List.mem_cons]
          constructor
          · rintro (q | q)
            · exact .inr (by simp [q])
            · exact .inl q
          · rintro (q | q)
            · exact .inr q
            · exact .inl (by simpa using q)
    refine wpAny_pure ⟨plainId_quiet F.plain_set_update_loop _, ih (i + 1) _ (by omega) lt (W.frame _ s' _ _ st' (Nat.le_succ _) here) nx fun s2 L2 mv2 m2 T3 => ?_⟩
    exact k s2 L2 (Moved.trans W.gtrans ((mv.mono more).then_heap (Nat.le_succ _) away) mv2) m2 T3
set_option maxHeartbeats 3200000 in
/-- set(xs), xs a list of texts -/
theorem call_setT {l : Addr} {items : Array Value} (ks : List Str) {Q : Value → Shared → Prop} (hh : A.handled = none) (hl : s.heap.IsList l items) (it : StrsAre items.toList ks) (room : ks.length + 1 < scanBound)
    (h : ∀ (h' : Heap) (tk : Nat) (L : List Str), TxtSet w h' s.heap.objs.size L → (∀ x, x ∈ L ↔ x ∈ ks) → (∀ b o, s.heap.get? b = some o → h'.get? b = some o) → Q (.ref s.heap.objs.size) { s with heap := h', toks := tk }) :
    wpAny (model P w) A (call (.type "set") [.ref l]) Q E s := by
  have sz : items.size = ks.length := by
    have q := StrsAre.len_eq it
    rw [Array.length_toList] at q
    exact q.symm ▸ rfl
  obtain ⟨c, tl, hmro⟩ := F.called_set.mro
  have a1 := F.called_set.made
  have a2 := F.called_set.sub
  have a3 := F.called_set.notType
  have a4 := F.called_set.canCreate
  have a5 := F.typeCall_set_1 (.ref l)
  refine wpAny_call (codeAny_of_tree ?_)
  show wpAny _ _ (callAny (.type "set") _) _ _ _
  refine wpAny_pure ⟨Code.quiet_builtin _ (by decide +kernel), codeAny_builtin F.entry_type_call ?_⟩
  rw [Around.under_plain (weight_type_call_type "set" [.ref l] []) rfl]
  repeat (any_goals (first | assumption | wp_step))
  refine codeAny_mono (code_set_led1 (.ref l) (E := E) (Q₁ := fun obj z => obj = .ref s.heap.objs.size ∧ z = { s with heap := s.heap.push (set0 w) }) ⟨rfl, rfl⟩) fun r z hr => ?_
  cases r with
  | error e => exact hr
  | ok fl =>
    cases fl with
    | ret obj =>
      obtain ⟨rfl, rfl⟩ := hr
      have b1 : (s.heap.push (set0 w)).get? s.heap.objs.size = some (set0 w) := Heap.get?_push_size _ rfl
      have b2 : Shared.TypeIs { s with heap := s.heap.push (set0 w) } (.ref s.heap.objs.size) "set" := ⟨_, b1, rfl⟩
      have a6 := F.called_set.init.lookup
      have a7 := F.called_set.init.bind (.ref s.heap.objs.size)
      repeat (any_goals (first | assumption | wp_step))
      refine codeAny_mono (codeAny_call_builtin (R := wants (fun r z => r = .none ∧ ∃ h' tk L, z = { s with heap := h', toks := tk } ∧ TxtSet w h' s.heap.objs.size L ∧ (∀ x, x ∈ L ↔ x ∈ ks) ∧
          (∀ b o, s.heap.get? b = some o → h'.get? b = some o)) E) F.called_set.init.plain F.entry_set_init (check_set_init_1 b2 ?_)) fun r2 z2 hr2 => ?_
      · obtain ⟨⟨oc, od, dt, osl⟩, o1, o2, nl, o3⟩ := hl
        simp only at o2 o3
        subst o2; subst o3
        have c1 : (s.heap.push (set0 w)).get? l = some { cls := .type "list", dict := od, data := .seq items nl, slots := osl } := Heap.get?_push_of_some _ o1
        have c2 := F.sub_list_set
        have c3 := F.sub_list_frozenset
        have c4 : (Value.type "list" == Value.type "dict") = false := by decide
        have c5 : (s.heap.push (set0 w)).IsList l items := ⟨_, c1, rfl, nl, rfl⟩
        unfold Builtin.«set.__init__» noKeywords Builtin.Frozenset.updateFrom
        generalize hPI : pyIter = PI
        wp_walk
        subst hPI
        refine wpAny_pyIter_list c5 (wpAny_bind (wpAny_runValue ?_))
        have l1 : l < s.heap.objs.size := Heap.lt_size o1
        have l2 : (s.heap.push (set0 w)).objs.size = s.heap.objs.size + 1 := Heap.size_push ..
        have d1 : A.in1.in1.in1.handled = none := by simp [hh]
        have d2 : l ≠ (s.heap.push (set0 w)).objs.size := by
          rw [l2]
          exact Nat.ne_of_lt (Nat.lt_succ_of_lt l1)
        have d3 : s.heap.objs.size ∉ [(s.heap.push (set0 w)).objs.size, l] := by
          intro m
          rcases List.mem_cons.mp m with q | q
          · rw [l2] at q
            exact absurd q (Nat.ne_of_lt (Nat.lt_succ_self _))
          · exact absurd (List.mem_singleton.mp q) (Nat.ne_of_gt l1)
        have d4 : ∀ (i : Nat) (v : Value), items[i]? = some v → ∃ k t, ks[i]? = some k ∧ v = .str k t := fun i v hv => by
          have hi : i < ks.length := sz ▸ (Array.getElem?_eq_some_iff.mp hv).1
          obtain ⟨t, e⟩ := SS.strs_at it i v (by rw [Array.getElem?_toList]; exact hv)
          refine ⟨ks[i], t, List.getElem?_eq_getElem hi, ?_⟩
          rw [e, List.getD_eq_getElem?_getD, List.getElem?_eq_getElem hi]
          rfl
        refine loopT ((Walks.list d1 _ l d2 items).toS) s.heap.objs.size d3 ks sz room d4 (fun _ _ _ _ _ _ _ => trivial) (items.size - 0) 0 _ (by omega) (Nat.zero_le _)
          ⟨⟨_, Heap.get?_push_size _ rfl, rfl, rfl⟩, (c5.push _)⟩ ⟨[], Nat.le_refl _, fun x => by simp, ?_⟩ ?_
        · exact txt0 (Heap.get?_push_of_some _ b1)
        · rintro ⟨h', g', d', tk', os'⟩ L mv mm T
          obtain rfl : g' = s.gens := mv.gens
          obtain rfl : d' = s.drawn := mv.drawn
          obtain rfl : os' = s.os := mv.os
          show wpAny _ _ _ _ _ _
          refine wpAny_pure ?_
          show wpAny _ _ (ret Value.none) _ _ _
          refine wpAny_pure ⟨rfl, h', tk', L, rfl, T, mm, fun b o e => ?_⟩
          have lb : b < s.heap.objs.size := Heap.lt_size e
          refine mv.heap b o (fun m => ?_) (Heap.get?_push_of_some _ (Heap.get?_push_of_some _ e))
          rcases List.mem_cons.mp m with q | q
          · exact absurd q (Nat.ne_of_lt lb)
          · have q := List.mem_singleton.mp q
            rw [l2] at q
            exact absurd q (Nat.ne_of_lt (Nat.lt_succ_of_lt lb))
      · cases r2 with
        | error e => exact hr2
        | ok fl2 =>
          cases fl2 with
          | ret r =>
            obtain ⟨rfl, h', tk, L, rfl, T, mm, kp⟩ := hr2
            repeat (any_goals (first | assumption | wp_step))
            exact h _ _ _ T mm kp
          | _ => exact hr2.elim
    | _ => exact hr.elim
end
end Ut
set_option Elab.async false
set_option linter.all false
set_option maxRecDepth 100000
set_option maxHeartbeats 8000000
namespace Ut
open PySem PySem.Spec PyProof.Rows L2
/-! ### the rules: set(xs), sorted(a set), of texts -/
theorem strs_back : ∀ (l : List Value), (∀ v ∈ l, ∃ x tk, v = Value.str x tk) → ∃ ks, StrsAre l ks ∧ ∀ e : Int × Value, e.2 ∈ l → True
  | [], _ => ⟨[], .nil, fun _ _ => trivial⟩
  | v :: l, h => by
    obtain ⟨x, tk, rfl⟩ := h v List.mem_cons_self
    obtain ⟨ks, r, _⟩ := strs_back l fun u m => h u (List.mem_cons_of_mem _ m)
    exact ⟨x :: ks, .cons x tk r, fun _ _ => trivial⟩
def TxtO (w : World) (a : Addr) (L : List Str) : HO := .ext fun h => TxtSet w h a L
theorem txt_new {w : World} {P : Program} {H : Hp} {h : Heap} {a : Addr} {L : List Str} (R : TxtSet w h a L) : ObjOk P w H h a (TxtO w a L) := by
  obtain ⟨o, _, _, _, ho, _⟩ := id R
  exact ⟨R, ⟨o, ho⟩, fun h1 h2 p k => TxtSet.to p k⟩
def rSetT (K : PySem.W.Frag) (w : World) : List V → Hp → VK → Prop := fun vs H Q => ∃ (l : Addr) (ks : List Str), vs = [V.ref l] ∧ SqL K H l (ks.map V.str) ∧ ks.length < 64 ∧ ∀ (a : Addr) (L : List Str), H a = none → L.Nodup → (∀ x, x ∈ L ↔ x ∈ ks) → Q (.ref a) (upd H a (TxtO w a L))
theorem strs_of_vals : ∀ {ks : List Str} {us : List Value}, Vals (ks.map V.str) us → StrsAre us ks
  | [], _, .nil => .nil
  | k :: ks, _, .cons r t => by
    obtain ⟨tk, rfl⟩ := r
    exact .cons k tk (strs_of_vals t)
theorem vals_of_strs : ∀ {ks : List Str} {us : List Value}, StrsAre us ks → Vals (ks.map V.str) us
  | _, _, .nil => .nil
  | _, _, .cons k tk t => .cons ⟨tk, rfl⟩ (vals_of_strs t)
section
variable {X : Cx}
theorem cr_setT (hc : X.calm = true) : CallR X (.type "set") (rSetT X.K X.w) := by
  intro pins s σ H vs us Q I r h
  obtain ⟨l, ks, rfl, hl, hf, q⟩ := h
  rw [Vals.ref1 r]
  obtain ⟨its, rv, pl, hz⟩ := I.list hl
  refine call_setT (w := X.w) ks (I.ok.hd hc) pl.isList (strs_of_vals rv) (by unfold scanBound; omega) fun h' tk L T mm k => ?_
  exact ⟨.ref s.heap.objs.size, upd H s.heap.objs.size (TxtO X.w s.heap.objs.size L), I.laid (t' := tk) k (Nat.le_refl _) (txt_new T), rfl, q _ L (I.hok.fresh (Nat.le_refl _)) (let ⟨_, _, _, _, _, _, _, t⟩ := T; t.nd) mm⟩
end
section
variable {P : Program} {w : World} {A : Around} {E : Value → Shared → Prop} {s : Shared} {a : Addr} {L : List Str}
theorem strs_map : ∀ (l : List Value), (∀ v ∈ l, ∃ x tk, v = Value.str x tk) → StrsAre l (l.map fun v => kS (0, v))
  | [], _ => .nil
  | v :: l, h => by
    obtain ⟨x, tk, rfl⟩ := h v List.mem_cons_self
    exact .cons x tk (strs_map l fun u m => h u (List.mem_cons_of_mem _ m))
/-- sorted(xs), xs a set of texts -/
theorem sortedT {Q : Value → Shared → Prop} (R : TxtSet w s.heap a L) (hh : A.handled = none) (few : L.length < 64)
    (k : ∀ s' p (out : Array Value) (c : Nat) (ys : List Str), (∀ b o, s.heap.get? b = some o → s'.heap.get? b = some o) → s'.gens = s.gens → s'.os = s.os → s.heap.objs.size ≤ p →
      s'.heap.get? p = some (seqObj "list" out c) → StrsAre out.toList ys → ys.Perm L → Q (.ref p) s') :
    wpAny (model P w) A (call (.builtin "sorted") [.ref a]) Q E s := by
  obtain ⟨o, es, ep, t, ho, hex, hd, T⟩ := R
  refine Calls.call_function_entry kind_sorted plain_sorted entry_sorted (args_sorted1 _) ?_
  unfold Builtin.«sorted»
  refine wpAny_bind (m := checkCount "sorted" 1 1 _) (wpAny_pure (wpAny_bind (collect_set (A := A.in1) hh ⟨o, ho, hex.1, hd⟩ T.fits T.small T.ris T.led fun s1 vs k1 hz g1 o1 pm => ?_)))
  have len : vs.length = L.length := by rw [pm.length_eq, List.length_map, Array.length_toList]; exact T.len
  have txs : ∀ v ∈ vs, ∃ x tk, v = Value.str x tk := fun v m => by
    obtain ⟨e, he, q⟩ := List.mem_map.mp (pm.mem_iff.mp m)
    obtain ⟨x, tk, e1, _⟩ := T.good e he
    exact ⟨x, tk, by rw [← q]; exact e1⟩
  have S := strs_map vs txs
  have pk : (vs.map fun v => kS (0, v)).Perm L := by
    have q := pm.map fun v => kS (0, v)
    rw [List.map_map] at q
    exact q.trans T.perm
  refine wpAny_bind (wpAny_newList ?_ (by rw [len, sizeLine_eq]; omega))
  have at0 : (s1.heap.push (seqObj "list" vs.toArray 0)).get? s1.heap.objs.size = some (seqObj "list" vs.toArray 0) := Heap.get?_push_size _ rfl
  refine wpAny_bind (wpAny_holding (wpAny_call_entry slot_list_sort ⟨_, at0, rfl⟩ entry_list_sort
    (list_sort_treeK strKind_oneLt at0 S.keysOf (fun v1 v2 rest e => keyKind_strs (by rw [← e]; exact S)) (by rw [len]; exact few) fun st' hp hs => ?_) (args_list_sort _)))
  obtain ⟨ys, r1, r2, r3⟩ := sorted_out_str S hp hs
  obtain ⟨c, hc⟩ := sortedHeap_at (vs := vs) (out := (arrOf st').map (·.2)) at0
  refine ⟨_, rfl, wpAny_pure ⟨_, rfl, k _ s1.heap.objs.size _ c ys (fun b u e => ?_) g1 o1 hz hc r1 (r2.trans pk)⟩⟩
  have q := k1 b u e
  have lt := Heap.lt_size q
  show (sortedHeap (s1.heap.push (seqObj "list" vs.toArray 0)) s1.heap.objs.size vs _).get? b = some u
  rw [sortedHeap_old (Nat.ne_of_lt lt) (by rw [size_push']; exact Nat.lt_succ_of_lt lt)]
  exact Heap.get?_push_of_some _ q
end
def rSortT (w : World) : List V → Hp → VK → Prop := fun vs H Q => ∃ (a : Addr) (L : List Str), vs = [V.ref a] ∧ H a = some (TxtO w a L) ∧ L.length < 64 ∧ ∀ (ys : List Str) (p : Addr), ys.Perm L → H p = none → Q (.ref p) (upd H p (.lst (ys.map V.str)))
section
variable {X : Cx}
theorem cr_sortT (hc : X.calm = true) : CallR X (.builtin "sorted") (rSortT X.w) := by
  intro pins s σ H vs us Q I r h
  obtain ⟨a, L, rfl, ha, few, q⟩ := h
  have R : TxtSet X.w s.heap a L := (I.hok a _ ha).1
  rw [Vals.ref1 r]
  refine sortedT R (I.ok.hd hc) few fun s' p out c ys k g o hp hg hs pm => ?_
  have hn : H p = none := I.hok.fresh hp
  have len : (ys.map V.str).length ≤ sizeLine := by rw [List.length_map, pm.length_eq, sizeLine_eq]; omega
  have J : Inv X pins σ (upd H p (.lst (ys.map V.str))) { s with heap := s'.heap, gens := s'.gens, drawn := s'.drawn, toks := s'.toks } :=
    I.call (ch := []) (Un.laid k hp hn) (I.hok.laid k hp ⟨len, out.toList, c, vals_of_strs hs, hg⟩) (by rw [g]; exact I.bare) (fun _ z => nomatch z)
  have e : s' = { s with heap := s'.heap, gens := s'.gens, drawn := s'.drawn, toks := s'.toks } := by
    obtain ⟨_, _, _, _, os'⟩ := s'
    obtain rfl : os' = s.os := o
    rfl
  rw [e]
  exact ⟨.ref p, _, J, rfl, q ys p pm hn⟩
end
end Ut
set_option Elab.async false
set_option linter.all false
set_option maxRecDepth 100000
set_option maxHeartbeats 4000000
namespace Ut
open PySem PySem.Spec PyProof.Rows L2
section
variable {P : Program} {w : World} {K : PySem.W.Frag} {mg : Str → Option Value} {base : Heap}
/-! ### free names -/
/-- the free names of a term lie in S, and there are few of them at each of its places -/
def Sc : Tm → List Str → Prop
  | .name x, S => x ∈ S
  | .num _, _ => True
  | .mk x b, S => ∃ S', S'.length ≤ 15 ∧ (∀ y ∈ S', y = x ∨ y ∈ S) ∧ Sc b S'
  | .gv m g, S => Sc m S ∧ Sc g S
  | .sm _ a b, S => Sc a S ∧ Sc b S
  | .ch a n o, S => Sc a S ∧ Sc n S ∧ Sc o S
  | .ag x b, S => ∃ S', S'.length ≤ 15 ∧ (∀ y ∈ S', y = x ∨ y ∈ S) ∧ Sc b S'
/-- of each part: its own names, less the one that is bound, are among the whole's -/
theorem sc_part : ∀ {t : Tm} {S : List Str} {u : Tm}, Sc t S → S.length ≤ 15 → u ∈ t.parts → ∃ S', S'.length ≤ 15 ∧ (∀ y ∈ S', bindV t = .str y ∨ y ∈ S) ∧ Sc u S'
  | .name _, _, _, _, _, m => by cases m
  | .num _, _, _, _, _, m => by cases m
  | .mk x b, S, u, ⟨S', h1, h2, h3⟩, _, m => by
    obtain rfl : u = b := by simpa [Tm.parts] using m
    exact ⟨S', h1, fun y hy => (h2 y hy).imp (fun e => by rw [e]; rfl) id, h3⟩
  | .ag x b, S, u, ⟨S', h1, h2, h3⟩, _, m => by
    obtain rfl : u = b := by simpa [Tm.parts] using m
    exact ⟨S', h1, fun y hy => (h2 y hy).imp (fun e => by rw [e]; rfl) id, h3⟩
  | .gv a b, S, u, h, hS, m => by
    have m : u = a ∨ u = b := by simpa [Tm.parts] using m
    rcases m with rfl | rfl
    · exact ⟨S, hS, fun _ hy => .inr hy, h.1⟩
    · exact ⟨S, hS, fun _ hy => .inr hy, h.2⟩
  | .sm _ a b, S, u, h, hS, m => by
    have m : u = a ∨ u = b := by simpa [Tm.parts] using m
    rcases m with rfl | rfl
    · exact ⟨S, hS, fun _ hy => .inr hy, h.1⟩
    · exact ⟨S, hS, fun _ hy => .inr hy, h.2⟩
  | .ch a b c, S, u, h, hS, m => by
    have m : u = a ∨ u = b ∨ u = c := by simpa [Tm.parts] using m
    rcases m with rfl | rfl | rfl
    · exact ⟨S, hS, fun _ hy => .inr hy, h.1⟩
    · exact ⟨S, hS, fun _ hy => .inr hy, h.2.1⟩
    · exact ⟨S, hS, fun _ hy => .inr hy, h.2.2⟩
theorem dep_part : ∀ {t u : Tm}, u ∈ t.parts → u.dep < t.dep
  | .name _, _, m => by cases m
  | .num _, _, m => by cases m
  | .mk x b, u, m => by
    obtain rfl : u = b := by simpa [Tm.parts] using m
    exact Nat.lt_succ_self _
  | .ag x b, u, m => by
    obtain rfl : u = b := by simpa [Tm.parts] using m
    exact Nat.lt_succ_self _
  | .gv a b, u, m => by
    have m : u = a ∨ u = b := by simpa [Tm.parts] using m
    show u.dep < max a.dep b.dep + 1
    rcases m with rfl | rfl <;> omega
  | .sm _ a b, u, m => by
    have m : u = a ∨ u = b := by simpa [Tm.parts] using m
    show u.dep < max a.dep b.dep + 1
    rcases m with rfl | rfl <;> omega
  | .ch a b c, u, m => by
    have m : u = a ∨ u = b ∨ u = c := by simpa [Tm.parts] using m
    show u.dep < max a.dep (max b.dep c.dep) + 1
    rcases m with rfl | rfl | rfl <;> omega
theorem dep_pos : ∀ t : Tm, 1 ≤ t.dep
  | .name _ => Nat.le_refl _
  | .num _ => Nat.le_refl _
  | .mk _ _ => Nat.le_add_left _ _
  | .gv _ _ => Nat.le_add_left _ _
  | .sm _ _ _ => Nat.le_add_left _ _
  | .ch _ _ _ => Nat.le_add_left _ _
  | .ag _ _ => Nat.le_add_left _ _
theorem parts_len (t : Tm) : t.parts.length ≤ 3 := by cases t <;> simp [Tm.parts]
def spFree (K : PySem.W.Frag) (c : Tc) (n : Nat) : Sp := fun vs H Q _ => ∃ t v S, vs = [v] ∧ t.tc = c ∧ TermAt K H t v ∧ Sc t S ∧ S.length ≤ 15 ∧ t.dep ≤ n ∧
  ∀ (p : Addr) (H' : Hp) (ys : List Str), Same H H' → H' p = some (.lst (ys.map V.str)) → ys.Nodup → (∀ y ∈ ys, y ∈ S) → Q (.ref p) H'
theorem nodup_len : ∀ {l S : List Str}, l.Nodup → (∀ y ∈ l, y ∈ S) → l.length ≤ S.length
  | [], _, _, _ => Nat.zero_le _
  | x :: l, S, h, m => by
    obtain ⟨h1, h2⟩ := List.nodup_cons.mp h
    have mx : x ∈ S := m x List.mem_cons_self
    have := nodup_len (S := S.erase x) h2 fun y hy => (List.mem_erase_of_ne (fun e : y = x => h1 (by rw [← e]; exact hy))).mpr (m y (List.mem_cons_of_mem _ hy))
    rw [List.length_erase_of_mem mx] at this
    have : 0 < S.length := List.length_pos_of_mem mx
    rw [List.length_cons]
    omega
theorem sc_Name_free : FnScope ["self"] ["self"] (defScope S_Name_free) := ⟨rfl, rfl, rfl, by decide +kernel, rfl, by decide +kernel, by decide +kernel⟩
theorem ok_Name_free (T : Tx w K mg) (n : Nat) : Met P w K mg base 1 (He.ga K "Name") "free" (spFree K .name n) := by
  refine met_mk T 59 151 92 rfl rfl rfl sc_Name_free (fun _ _ _ _ _ _ us hl => match us, hl with | [_], _ => rfl) (fun vs H Q E h => ?_) (fun cdv A outer s H vs Q E hr h => ?_)
  · obtain ⟨t, v, S, rfl, _⟩ := h
    rfl
  obtain ⟨t, v, S, rfl, ht, hv, hs, h15, hd, q⟩ := h
  refine ⟨_, (pss_one (ps_ret (pe_lst (pa_cons (pe_fld (pv 0) rfl) pa_nil)))), ?_⟩
  cases t with
  | name x =>
    obtain ⟨ok, a, dx, rfl, ha⟩ := hv
    refine ⟨_, rfl, a, _, dx, _, _, rfl, ha, T.cls 92, T.noat 118, rfl, (by show 1 ≤ sizeLine; decide), fun l hl => ?_⟩
    exact q l _ [x] (same_new hl _) upd_same (by simp) (by intro y hy; rw [List.mem_singleton.mp hy]; exact hs)
  | _ => cases ht
theorem fm_filter {b : V} : ∀ zs : List Str, (zs.map V.str).filterMap (fun x => if decide (x = b) = true then none else some x) = (zs.filter fun z => !decide (V.str z = b)).map V.str
  | [] => rfl
  | z :: zs => by
    by_cases e : V.str z = b
    · rw [List.map_cons, List.filterMap_cons, if_pos (decide_eq_true e), List.filter_cons, if_neg (by simp [e])]
      exact fm_filter zs
    · rw [List.map_cons, List.filterMap_cons, if_neg (by simp [e]), List.filter_cons, if_pos (by simp [e]), List.map_cons]
      exact congrArg _ (fm_filter zs)
theorem sc_Term_free : FnScope ["self", "names", "part", "name"] ["self"] (defScope S_Term_free) := ⟨rfl, rfl, rfl, by decide +kernel, rfl, by decide +kernel, by decide +kernel⟩
theorem body_free (T : Tx w K mg) (c : Tc) (n : Nat) (f : Addr) (c_free : ∀ i : Tc, Met P w K mg base (n + 1) (He.ga K i.nm) "free" (spFree K i n)) : BodyOk P w K mg base ["self", "names", "part", "name"] "Term.free" S_Term_free f (n + 1) (spFree K c (n + 1)) := by
  intro cdv A outer s H vs Q E hr h
  obtain ⟨t, v, S, rfl, ht, hv, hs, h15, hd, q⟩ := h
  refine ⟨_, (pss_cons (ps_set (i := 1) sc_Term_free.nd rfl (Or.inl rfl) (pe_lst pa_nil))
      (pss_cons (ps_for PassesOwn.never rfl (pi_list (pe_mt0 (ok_parts T c) hr (by omega) (pv 0))) (pg_name (i := 2) sc_Term_free.nd rfl (Or.inl rfl))
      (pss_one (ps_expr (pe_bm PySem.F.plainAttrs_list PySem.F.slot_list_extend PySem.F.type_list_extend mt_extend (pv 1) (pa_cons (pe_lc (own := [("name", 3)]) (by rfl) sc_Term_free.nd (pi_list (pe_any fun i => pe_mt0 (c_free i) hr (by omega) (pv 2))) (blkOk_by (own := [("name", 3)]) (N := ["self", "names", "part", "name"]) (sc := defScope S_Term_free) (by decide +kernel)) (fun _ _ _ _ _ => (pg_name (i := 3) sc_Term_free.nd rfl (by first | exact Or.inl rfl | exact Or.inr rfl))) (fun _ _ _ _ _ => pts_one (pt_cmpR op_ne (pv 3) (pe_mt0 (ok_binds T c) hr (by omega) (pv 0)) (nomark _))) (fun _ _ _ _ _ => (pv 3))) pa_nil)))))
      (pss_one (ps_ret (pe_callB (cr_sortT rfl) (by rfl) (T.free 72 rfl) (by decide +kernel) (pa_cons (pe_callTy (cr_setT rfl) (by rfl) (T.free 73 rfl) (by decide +kernel) (pa_cons (pv 1) pa_nil)) pa_nil)))))), ?_⟩
  obtain ⟨a, dx, fs, rfl, ha, l1, l2, l3, l4⟩ := term_ins hv
  subst ht
  refine ⟨by decide, fun D0 hD0 => ?_⟩
  have s1 := same_new hD0 (.lst [])
  refine ⟨_, rfl, a, dx, fs, rfl, s1 _ _ ha, l1, t, .ref a, H, rfl, rfl, s1, hv, fun p us hp hus => ?_⟩
  have n0p : D0 ≠ p := ne_of_none upd_same hp
  have s2 : Same (upd H D0 (.lst [])) (upd (upd H D0 (.lst [])) p (.lst us)) := same_new hp _
  refine ⟨p, rfl, ⟨us, SqL.new upd_same⟩, for_list (K := K) (a := p) (xs := us) (fun i σ Hi => ∃ (ys : List Str) (x : Option V), σ = [some (.ref a), some (.ref D0), x, none] ∧ Hi D0 = some (.lst (ys.map V.str)) ∧ ys.length ≤ 15 * i ∧ (∀ y ∈ ys, y ∈ S) ∧ Same H (hid [D0] Hi) ∧ Hi p = some (.lst us))
    ⟨[], none, rfl, s2 _ _ upd_same, Nat.le_refl _, fun _ h => by (cases h), fun b o e => ?_, upd_same⟩ (fun i σ Hi _ ⟨_, _, _, _, _, _, _, h⟩ => SqL.new h) ?_ ?_⟩
  · rw [hid_out (by simpa using ne_of_none e hD0)]
    exact s2 _ _ (s1 _ _ e)
  · rintro i y σ Hi hi ⟨ys, x, rfl, h0, hlen, hin, sH, hpu⟩
    obtain ⟨u, hu, htu⟩ := terms_at hus hi
    have mu : u ∈ t.parts := List.mem_of_getElem? hu
    obtain ⟨S', c1, c2, c3⟩ := sc_part hs h15 mu
    obtain ⟨a', dx', fs', rfl, ha', k1, k2, k3, k4⟩ := term_ins htu
    have sHi : Same H Hi := sH.trans hid_sub
    refine ⟨_, rfl, .inl ⟨rfl, _, SqL.of h0⟩, u.tc, _, rfl, a', dx', fs', rfl, sHi _ _ ha', k3, u, .ref a', S', rfl, rfl, term_up sHi htu, c3, c1, (by have := dep_part mu; omega), fun p2 H2 zs t2 e2 nd2 in2 => ?_⟩
    have z64 : zs.length ≤ 15 := Nat.le_trans (nodup_len nd2 in2) c1
    refine ⟨p2, rfl, ⟨_, SqL.new e2⟩, fun D1 hD1 => ?_⟩
    refine lc_fm (fun x => if decide (x = bindV t) = true then none else some x) (SqL.new e2) hD1 (by rw [List.length_map]; exact Nat.le_of_lt (small1000 (by omega))) ?_ ?_
    · rintro x acc N mx la n1 n2
      obtain ⟨z, _, rfl⟩ := List.mem_map.mp mx
      have sX : Same H (upd H2 D1 (.lst acc)) := (sHi.trans t2).trans (same_new hD1 _)
      refine ⟨rfl, _, rfl, _, rfl, a, dx, fs, rfl, sX _ _ ha, l2, t, .ref a, rfl, rfl, term_up sX hv, ?_, _, rfl, ?_⟩
      · unfold bindV
        cases t.binds <;> rfl
      · by_cases e : V.str z = bindV t
        · exact ifF (by simp [e]) (n1 (if_pos (decide_eq_true e)))
        · refine ifT (by simp [e]) ⟨_, rfl, acc, upd_same, la, ?_⟩
          rw [upd_lst]
          exact n2 _ (if_neg (by simp [e]))
    · rw [fm_filter]
      have sK : SameX [D0] Hi (upd H2 D1 (.lst ((zs.filter fun z => !decide (V.str z = bindV t)).map V.str))) := same_x (t2.trans (same_new hD1 _))
      have hX : (upd H2 D1 (.lst ((zs.filter fun z => !decide (V.str z = bindV t)).map V.str))) D0 = some (.lst (ys.map V.str)) := (t2.trans (same_new hD1 _)) _ _ h0
      have fl : (zs.filter fun z => !decide (V.str z = bindV t)).length ≤ zs.length := List.length_filter_le _ _
      refine ⟨D0, D1, ys.map V.str, _, rfl, rfl, hX, upd_same, ?_, ys ++ (zs.filter fun z => !decide (V.str z = bindV t)), some (.ref a'), rfl, ?_, ?_, ?_, ?_, ?_⟩
      · rw [List.length_map, List.length_map]
        have hlt : i < us.length := (List.getElem?_eq_some_iff.mp hi).1
        have h3 := parts_len t
        rw [← terms_len hus] at h3
        exact Nat.le_of_lt (small1000 (by omega))
      · rw [List.map_append]
        exact upd_same
      · rw [List.length_append]
        omega
      · intro y hy
        rcases List.mem_append.mp hy with m | m
        · exact hin y m
        · obtain ⟨m1, m2⟩ := List.mem_filter.mp m
          rcases c2 y (in2 y m1) with e | e
          · rw [e] at m2
            simp at m2
          · exact e
      · exact (sH.trans (samex_hid sK)).trans (samex_hid (samex_upd (by simp) _))
      · rw [upd_ne n0p.symm]
        exact (t2.trans (same_new hD1 _)) _ _ hpu
  · rintro σ Hi ⟨ys, x, rfl, h0, hlen, hin, sH, hpu⟩
    have h3 := parts_len t
    rw [← terms_len hus] at h3
    refine ⟨_, rfl, D0, ys, rfl, SqL.new h0, by omega, fun b L hb nd mem => ⟨b, L, rfl, upd_same, ?_, fun zs p3 pm hp3 => ?_⟩⟩
    · exact Nat.lt_of_le_of_lt (nodup_len (S := S) nd fun y hy => hin y ((mem y).mp hy)) (by omega)
    · exact q p3 _ zs (((sH.trans hid_sub).trans (same_new hb _)).trans (same_new hp3 _)) upd_same (pm.nodup_iff.mpr nd) fun y hy => hin y ((mem y).mp (pm.mem_iff.mp hy))
theorem ok_free0 (T : Tx w K mg) : ∀ c : Tc, Met P w K mg base 1 (He.ga K c.nm) "free" (spFree K c 0)
  | .name => ok_Name_free T 0
  | .num => by
    refine met_mk T 64 156 94 rfl rfl rfl sc_Term_free (fun _ _ _ _ _ _ us hl => match us, hl with | [_], _ => rfl) (fun vs H Q E h => ?_) (fun cdv A outer s H vs Q E hr h => ?_)
    · obtain ⟨t, v, S, rfl, _⟩ := h
      rfl
    · obtain ⟨t, v, S, _, _, _, _, _, hd, _⟩ := h
      have := dep_pos t
      omega
  | .mk => by
    refine met_mk T 69 161 96 rfl rfl rfl sc_Term_free (fun _ _ _ _ _ _ us hl => match us, hl with | [_], _ => rfl) (fun vs H Q E h => ?_) (fun cdv A outer s H vs Q E hr h => ?_)
    · obtain ⟨t, v, S, rfl, _⟩ := h
      rfl
    · obtain ⟨t, v, S, _, _, _, _, _, hd, _⟩ := h
      have := dep_pos t
      omega
  | .gv => by
    refine met_mk T 74 166 98 rfl rfl rfl sc_Term_free (fun _ _ _ _ _ _ us hl => match us, hl with | [_], _ => rfl) (fun vs H Q E h => ?_) (fun cdv A outer s H vs Q E hr h => ?_)
    · obtain ⟨t, v, S, rfl, _⟩ := h
      rfl
    · obtain ⟨t, v, S, _, _, _, _, _, hd, _⟩ := h
      have := dep_pos t
      omega
  | .sm => by
    refine met_mk T 79 171 100 rfl rfl rfl sc_Term_free (fun _ _ _ _ _ _ us hl => match us, hl with | [_], _ => rfl) (fun vs H Q E h => ?_) (fun cdv A outer s H vs Q E hr h => ?_)
    · obtain ⟨t, v, S, rfl, _⟩ := h
      rfl
    · obtain ⟨t, v, S, _, _, _, _, _, hd, _⟩ := h
      have := dep_pos t
      omega
  | .ch => by
    refine met_mk T 84 176 102 rfl rfl rfl sc_Term_free (fun _ _ _ _ _ _ us hl => match us, hl with | [_], _ => rfl) (fun vs H Q E h => ?_) (fun cdv A outer s H vs Q E hr h => ?_)
    · obtain ⟨t, v, S, rfl, _⟩ := h
      rfl
    · obtain ⟨t, v, S, _, _, _, _, _, hd, _⟩ := h
      have := dep_pos t
      omega
  | .ag => by
    refine met_mk T 89 181 104 rfl rfl rfl sc_Term_free (fun _ _ _ _ _ _ us hl => match us, hl with | [_], _ => rfl) (fun vs H Q E h => ?_) (fun cdv A outer s H vs Q E hr h => ?_)
    · obtain ⟨t, v, S, rfl, _⟩ := h
      rfl
    · obtain ⟨t, v, S, _, _, _, _, _, hd, _⟩ := h
      have := dep_pos t
      omega
theorem len_free {c : Tc} {n : Nat} {vs : List V} {H : Hp} {Q : VK} {E : XK} (h : spFree K c n vs H Q E) : vs.length = 1 := by
  obtain ⟨t, v, S, rfl, _⟩ := h
  rfl
theorem ok_free (T : Tx w K mg) : ∀ (n : Nat) (c : Tc), Met P w K mg base (n + 1) (He.ga K c.nm) "free" (spFree K c n)
  | 0, c => ok_free0 T c
  | n + 1, c => by
    have ih := ok_free T n
    cases c with
    | name => exact (ok_Name_free T (n + 1)).mono (by omega)
    | num => exact met_mk T 64 156 94 rfl rfl rfl sc_Term_free (fun _ _ _ _ _ _ us hl => match us, hl with | [_], _ => rfl) (fun vs H Q E h => len_free h) (body_free T .num n _ ih)
    | mk => exact met_mk T 69 161 96 rfl rfl rfl sc_Term_free (fun _ _ _ _ _ _ us hl => match us, hl with | [_], _ => rfl) (fun vs H Q E h => len_free h) (body_free T .mk n _ ih)
    | gv => exact met_mk T 74 166 98 rfl rfl rfl sc_Term_free (fun _ _ _ _ _ _ us hl => match us, hl with | [_], _ => rfl) (fun vs H Q E h => len_free h) (body_free T .gv n _ ih)
    | sm => exact met_mk T 79 171 100 rfl rfl rfl sc_Term_free (fun _ _ _ _ _ _ us hl => match us, hl with | [_], _ => rfl) (fun vs H Q E h => len_free h) (body_free T .sm n _ ih)
    | ch => exact met_mk T 84 176 102 rfl rfl rfl sc_Term_free (fun _ _ _ _ _ _ us hl => match us, hl with | [_], _ => rfl) (fun vs H Q E h => len_free h) (body_free T .ch n _ ih)
    | ag => exact met_mk T 89 181 104 rfl rfl rfl sc_Term_free (fun _ _ _ _ _ _ us hl => match us, hl with | [_], _ => rfl) (fun vs H Q E h => len_free h) (body_free T .ag n _ ih)
theorem sc_must_be_closed : FnScope ["term", "names"] ["term"] (defScope S_must_be_closed) := ⟨rfl, rfl, rfl, by decide +kernel, rfl, by decide +kernel, by decide +kernel⟩
def spClosed (K : PySem.W.Frag) (n : Nat) : Sp := fun vs H Q _ => ∃ t v, vs = [v] ∧ TermAt K H t v ∧ Sc t [] ∧ t.dep ≤ n ∧ ∀ H', Same H H' → Q .non H'
theorem ok_must_be_closed (T : Tx w K mg) (n : Nat) (c_free : ∀ i : Tc, Met P w K mg base (n + 1) (He.ga K i.nm) "free" (spFree K i n)) : Cal P w K mg base (n + 2) "must_be_closed" (spClosed K n) := by
  refine cal_mk T 7 7 rfl rfl sc_must_be_closed (fun _ _ _ _ _ _ us hl => match us, hl with | [_], _ => rfl) (fun vs H Q E h => ?_) (fun cdv A outer s H vs Q E hr h => ?_)
  · obtain ⟨t, v, rfl, _⟩ := h
    rfl
  obtain ⟨t, v, rfl, hv, hs, hd, q⟩ := h
  refine ⟨_, (pss_cons (ps_set (i := 1) sc_must_be_closed.nd rfl (Or.inl rfl) (pe_any fun i => pe_mt0 (c_free i) hr (by omega) (pv 0)))
      (pss_one (ps_if (pt_cmpR op_gt (pe_callB call_len_seq (by rfl) (T.free 70 rfl) (by decide +kernel) (pa_cons (pv 1) pa_nil)) pe_int (nomark _)) (pss_one ps_never) pss_nil))), ?_⟩
  obtain ⟨a, dx, fs, rfl, ha, l1, l2, l3, l4⟩ := term_ins hv
  refine ⟨t.tc, _, rfl, a, dx, fs, rfl, ha, l3, t, .ref a, [], rfl, rfl, hv, hs, Nat.zero_le _, hd, fun p H' ys s1 hp nd mem => ?_⟩
  have e : ys = [] := by
    cases ys with
    | nil => rfl
    | cons y r => exact absurd (mem y List.mem_cons_self) (by simp)
  subst e
  refine ⟨_, rfl, p, [], rfl, .inl (SqL.new hp), _, _, rfl, rfl, _, rfl, ?_⟩
  exact ifF (by simp) (q H' s1)
end
end Ut
set_option Elab.async false
set_option linter.all false
set_option maxRecDepth 100000
set_option maxHeartbeats 4000000
namespace Ut
open PySem PySem.Spec PyProof.Rows L2
abbrev tp (xs : List PyData) : PyData := .tuple xs
def Tm.told : Tm → PyData
  | .name x => tp [.str "name", .str x]
  | .num i => tp [.str "number", .int i]
  | .mk x b => tp [.str "maker", .str x, b.told]
  | .gv m g => tp [.str "give", m.told, g.told]
  | .sm s a b => tp [.str "sum", .str s, a.told, b.told]
  | .ch a n o => tp [.str "choice", a.told, n.told, o.told]
  | .ag x b => tp [.str "again", .str x, b.told]
def Tm.ok : Tm → Prop
  | .name x => okName x
  | .num _ => True
  | .mk x b => okName x ∧ b.ok
  | .gv m g => m.ok ∧ g.ok
  | .sm s a b => okSign s ∧ a.ok ∧ b.ok
  | .ch a n o => a.ok ∧ n.ok ∧ o.ok
  | .ag x b => okName x ∧ b.ok
section
variable {P : Program} {w : World} {K : PySem.W.Frag} {mg : Str → Option Value} {base : Heap}
theorem tx_len (T : Tx w K mg) {x : Str} {n : Int} (h : (x, He.Dv.int n) ∈ [(("name" : Str), He.Dv.int 2), ("number", .int 2), ("maker", .int 3), ("give", .int 3), ("sum", .int 4), ("choice", .int 4), ("again", .int 3), ("open", .int 1)]) :
    (∃ u, PySem.W.nsIn K (He.ga K "LENGTHS") x = some (some u)) ∧ KDct K w (He.ga K "LENGTHS") x (.int n) := by
  obtain ⟨_, e⟩ := ba T.s.ex
  obtain ⟨_, e⟩ := ba e
  obtain ⟨_, e⟩ := ba e
  obtain ⟨_, e⟩ := ba e
  obtain ⟨_, e⟩ := ba e
  obtain ⟨e, _⟩ := ba e
  obtain ⟨es, m, D⟩ := T.s.t.tab 0
  obtain ⟨u, h1, h2⟩ := He.valsB_ok e h
  exact ⟨⟨u, h1⟩, es, m, u, D.at_, D.lit, h1, h2⟩
/-- x not in LENGTHS -/
def rNotInLen (K : PySem.W.Frag) : R2 := fun x y H Q => ∃ (z : Str) (u : Value), x = .str z ∧ y = .ref (He.ga K "LENGTHS") ∧ PySem.W.nsIn K (He.ga K "LENGTHS") z = some (some u) ∧ Q (.bl false) H
theorem op_notin_kdT {X : Cx} (T : Tx X.w X.K X.mg) : OpR X (compareOp .NotIn) (rNotInLen X.K) := by
  obtain ⟨es, m, D⟩ := T.s.t.tab 0
  intro pins s σ H x y v u Q I rx ry h
  obtain ⟨z, u0, e1, e2, e3, q⟩ := h
  exact op_notIn_kd D pins s σ H x y v u Q I rx ry ⟨z, _, e1, e2, e3, q⟩
theorem sc_term_of : FnScope ["told", "word"] ["told"] (defScope S_term_of) := ⟨rfl, rfl, rfl, by decide +kernel, rfl, by decide +kernel, by decide +kernel⟩
def spTermOf (K : PySem.W.Frag) (n : Nat) : Sp := fun vs H Q _ => ∃ v t, vs = [v] ∧ Dp K H v t.told ∧ t.ok ∧ t.dep ≤ n ∧ ∀ v' H', Same H H' → TermAt K H' t v' → Q v' H'
theorem body_term_of (T : Tx w K mg) (n : Nat) (f : Addr) (c_term_of : Cal P w K mg base (n + 4) "term_of" (spTermOf K n)) (c_Name : Mak P w K mg base 3 "Name" (He.ga K "Name") (spInit K "Name" okN1)) (c_Number : Mak P w K mg base 2 "Number" (He.ga K "Number") (spInit K "Number" okN2))
    (c_Maker : Mak P w K mg base 3 "Maker" (He.ga K "Maker") (spInit K "Maker" (okNB K))) (c_Give : Mak P w K mg base 2 "Give" (He.ga K "Give") (spInit K "Give" (okN3 K))) (c_Sum : Mak P w K mg base 2 "Sum" (He.ga K "Sum") (spInit K "Sum" (okN4 K)))
    (c_Choice : Mak P w K mg base 2 "Choice" (He.ga K "Choice") (spInit K "Choice" (okN5 K))) (c_Again : Mak P w K mg base 3 "Again" (He.ga K "Again") (spInit K "Again" (okNB K))) : BodyOk P w K mg base ["told", "word"] "term_of" S_term_of f (n + 4) (spTermOf K (n + 1)) := by
  intro cdv A outer s H vs Q E hr h
  obtain ⟨v, t, rfl, hv, hok, hd, q⟩ := h
  refine ⟨_, (pss_cons (ps_if (PW.pt (pw_or (pt_not (pt_val (pe_isi (pv 0) (pe_bltn (v := .ty "tuple") (by rfl) (T.free 77 rfl) (by decide +kernel) rfl) (by rfl) (T.free 69 rfl)))) (pw_or (pt_cmpR op_eq (pe_callB call_len_seq (by rfl) (T.free 70 rfl) (by decide +kernel) (pa_cons (pv 0) pa_nil)) pe_int (nomark _)) (pw_or1 (pt_not (pt_val (pe_isi (pe_ix ix_tup (pv 0) pe_int (fun _ _ => rfl)) (pe_bltn (v := .ty "str") (by rfl) (T.free 78 rfl) (by decide +kernel) rfl) (by rfl) (T.free 69 rfl)))))))) (pss_one ps_never) pss_nil)
      (pss_cons (ps_set (i := 1) sc_term_of.nd rfl (Or.inl rfl) (pe_ix ix_tup (pv 0) pe_int (fun _ _ => rfl)))
      (pss_cons (ps_if (PW.pt (pw_or (pt_cmpR (op_notin_kdT T) (pv 1) (pe_glob (v := .ref (He.ga K "LENGTHS")) rfl (T.glo 90 rfl) rfl) (by rfl)) (pw_or1 (pt_cmpR op_ne (pe_callB call_len_seq (by rfl) (T.free 70 rfl) (by decide +kernel) (pa_cons (pv 0) pa_nil)) (pe_ix ix_kdict (pe_glob (v := .ref (He.ga K "LENGTHS")) rfl (T.glo 90 rfl) rfl) (pv 1) (fun _ _ => rfl)) (nomark _))))) (pss_one ps_never) pss_nil)
      (pss_cons (ps_if (pt_cmpR op_eq (pv 1) pe_str (nomark _)) (pss_one (ps_ret (pe_mk c_Name hr (by omega) (by rfl) (pa_cons (pe_ix ix_tup (pv 0) pe_int (fun _ _ => rfl)) pa_nil)))) pss_nil)
      (pss_cons (ps_if (pt_cmpR op_eq (pv 1) pe_str (nomark _)) (pss_one (ps_ret (pe_mk c_Number hr (by omega) (by rfl) (pa_cons (pe_ix ix_tup (pv 0) pe_int (fun _ _ => rfl)) pa_nil)))) pss_nil)
      (pss_cons (ps_if (pt_cmpR op_eq (pv 1) pe_str (nomark _)) (pss_one (ps_ret (pe_mk c_Maker hr (by omega) (by rfl) (pa_cons (pe_ix ix_tup (pv 0) pe_int (fun _ _ => rfl)) (pa_cons (pe_c c_term_of hr (by omega) (by rfl) (pa_cons (pe_ix ix_tup (pv 0) pe_int (fun _ _ => rfl)) pa_nil)) pa_nil))))) pss_nil)
      (pss_cons (ps_if (pt_cmpR op_eq (pv 1) pe_str (nomark _)) (pss_one (ps_ret (pe_mk c_Give hr (by omega) (by rfl) (pa_cons (pe_c c_term_of hr (by omega) (by rfl) (pa_cons (pe_ix ix_tup (pv 0) pe_int (fun _ _ => rfl)) pa_nil)) (pa_cons (pe_c c_term_of hr (by omega) (by rfl) (pa_cons (pe_ix ix_tup (pv 0) pe_int (fun _ _ => rfl)) pa_nil)) pa_nil))))) pss_nil)
      (pss_cons (ps_if (pt_cmpR op_eq (pv 1) pe_str (nomark _)) (pss_one (ps_ret (pe_mk c_Sum hr (by omega) (by rfl) (pa_cons (pe_ix ix_tup (pv 0) pe_int (fun _ _ => rfl)) (pa_cons (pe_c c_term_of hr (by omega) (by rfl) (pa_cons (pe_ix ix_tup (pv 0) pe_int (fun _ _ => rfl)) pa_nil)) (pa_cons (pe_c c_term_of hr (by omega) (by rfl) (pa_cons (pe_ix ix_tup (pv 0) pe_int (fun _ _ => rfl)) pa_nil)) pa_nil)))))) pss_nil)
      (pss_cons (ps_if (pt_cmpR op_eq (pv 1) pe_str (nomark _)) (pss_one (ps_ret (pe_mk c_Choice hr (by omega) (by rfl) (pa_cons (pe_c c_term_of hr (by omega) (by rfl) (pa_cons (pe_ix ix_tup (pv 0) pe_int (fun _ _ => rfl)) pa_nil)) (pa_cons (pe_c c_term_of hr (by omega) (by rfl) (pa_cons (pe_ix ix_tup (pv 0) pe_int (fun _ _ => rfl)) pa_nil)) (pa_cons (pe_c c_term_of hr (by omega) (by rfl) (pa_cons (pe_ix ix_tup (pv 0) pe_int (fun _ _ => rfl)) pa_nil)) pa_nil)))))) pss_nil)
      (pss_cons (ps_if (pt_cmpR op_eq (pv 1) pe_str (nomark _)) (pss_one (ps_ret (pe_mk c_Again hr (by omega) (by rfl) (pa_cons (pe_ix ix_tup (pv 0) pe_int (fun _ _ => rfl)) (pa_cons (pe_c c_term_of hr (by omega) (by rfl) (pa_cons (pe_ix ix_tup (pv 0) pe_int (fun _ _ => rfl)) pa_nil)) pa_nil))))) pss_nil)
      (pss_one ps_never))))))))))), ?_⟩
  cases t with
  | name x =>
    obtain ⟨a, xs, rfl, ha, hxs⟩ := dp_tup_of hv
    obtain ⟨v0, v1, rfl, d0, d1⟩ := dps2_of hxs
    obtain rfl := dp_str_of d0
    obtain rfl := dp_str_of d1
    obtain ⟨⟨u, l1⟩, l2⟩ := tx_len T (x := "name") (n := 2) (by simp)
    refine ⟨_, rfl, true, isi_tup ha k_tuple_tuple, _, rfl, iteF ?_⟩
    refine ⟨_, rfl, a, _, rfl, .inr ha, rfl, _, rfl, ifF (by rfl) ?_⟩
    refine ⟨_, rfl, a, _, _, _, rfl, rfl, ha, atI_nat (j := 0) rfl, true, isi_str k_str_str, _, rfl, iteF ?_⟩
    refine ⟨_, rfl, a, _, _, _, rfl, rfl, ha, atI_nat (j := 0) rfl, ?_⟩
    refine ⟨_, rfl, _, u, rfl, rfl, l1, _, rfl, iteF ?_⟩
    refine ⟨_, rfl, a, _, rfl, .inr ha, _, rfl, _, _, _, rfl, rfl, l2, rfl, _, rfl, ifF (by rfl) ?_⟩
    refine ⟨_, rfl, rfl, _, rfl, ifT (by decide +kernel) ?_⟩
    refine ⟨_, rfl, a, _, _, _, rfl, rfl, ha, atI_nat (j := 1) rfl, ?_⟩
    exact mk_use (fs := [("name", .str x)]) (fun _ _ => ⟨x, rfl, hok, rfl⟩) fun p dx H1 s1 hp hp1 => q _ _ s1 ⟨hok, p, dx, rfl, hp1⟩
  | num i =>
    obtain ⟨a, xs, rfl, ha, hxs⟩ := dp_tup_of hv
    obtain ⟨v0, v1, rfl, d0, d1⟩ := dps2_of hxs
    obtain rfl := dp_str_of d0
    obtain rfl := dp_int_of d1
    obtain ⟨⟨u, l1⟩, l2⟩ := tx_len T (x := "number") (n := 2) (by simp)
    refine ⟨_, rfl, true, isi_tup ha k_tuple_tuple, _, rfl, iteF ?_⟩
    refine ⟨_, rfl, a, _, rfl, .inr ha, rfl, _, rfl, ifF (by rfl) ?_⟩
    refine ⟨_, rfl, a, _, _, _, rfl, rfl, ha, atI_nat (j := 0) rfl, true, isi_str k_str_str, _, rfl, iteF ?_⟩
    refine ⟨_, rfl, a, _, _, _, rfl, rfl, ha, atI_nat (j := 0) rfl, ?_⟩
    refine ⟨_, rfl, _, u, rfl, rfl, l1, _, rfl, iteF ?_⟩
    refine ⟨_, rfl, a, _, rfl, .inr ha, _, rfl, _, _, _, rfl, rfl, l2, rfl, _, rfl, ifF (by rfl) ?_⟩
    refine ⟨_, rfl, rfl, _, rfl, ifF (by decide +kernel) ?_⟩
    refine ⟨_, rfl, rfl, _, rfl, ifT (by decide +kernel) ?_⟩
    refine ⟨_, rfl, a, _, _, _, rfl, rfl, ha, atI_nat (j := 1) rfl, ?_⟩
    exact mk_use (fs := [("number", .int i)]) (fun _ _ => ⟨i, rfl, rfl⟩) fun p dx H1 s1 hp hp1 => q _ _ s1 ⟨p, dx, rfl, hp1⟩
  | mk x b =>
    obtain ⟨a, xs, rfl, ha, hxs⟩ := dp_tup_of hv
    obtain ⟨v0, v1, v2, rfl, d0, d1, d2⟩ := dps3_of hxs
    obtain rfl := dp_str_of d0
    obtain rfl := dp_str_of d1
    obtain ⟨⟨u, l1⟩, l2⟩ := tx_len T (x := "maker") (n := 3) (by simp)
    refine ⟨_, rfl, true, isi_tup ha k_tuple_tuple, _, rfl, iteF ?_⟩
    refine ⟨_, rfl, a, _, rfl, .inr ha, rfl, _, rfl, ifF (by rfl) ?_⟩
    refine ⟨_, rfl, a, _, _, _, rfl, rfl, ha, atI_nat (j := 0) rfl, true, isi_str k_str_str, _, rfl, iteF ?_⟩
    refine ⟨_, rfl, a, _, _, _, rfl, rfl, ha, atI_nat (j := 0) rfl, ?_⟩
    refine ⟨_, rfl, _, u, rfl, rfl, l1, _, rfl, iteF ?_⟩
    refine ⟨_, rfl, a, _, rfl, .inr ha, _, rfl, _, _, _, rfl, rfl, l2, rfl, _, rfl, ifF (by rfl) ?_⟩
    refine ⟨_, rfl, rfl, _, rfl, ifF (by decide +kernel) ?_⟩
    refine ⟨_, rfl, rfl, _, rfl, ifF (by decide +kernel) ?_⟩
    refine ⟨_, rfl, rfl, _, rfl, ifT (by decide +kernel) ?_⟩
    obtain ⟨ok1, ok2⟩ := hok
    have hd1 : b.dep ≤ n := Nat.le_of_succ_le_succ hd
    refine ⟨_, rfl, a, _, _, _, rfl, rfl, ha, atI_nat (j := 1) rfl, _, rfl, a, _, _, _, rfl, rfl, ha, atI_nat (j := 2) rfl, v2, b, rfl, d2, ok2, hd1, fun u1 H1 s1 t1 => ?_⟩
    exact mk_use (fs := [("name", .str x), ("body", u1)]) (fun _ z => ⟨x, u1, b, rfl, ok1, term_up z t1, rfl⟩) fun p dx H2 s2 hp hp1 => q _ _ (s1.trans s2) ⟨ok1, p, dx, u1, rfl, hp1, term_up s2 t1⟩
  | gv m g =>
    obtain ⟨a, xs, rfl, ha, hxs⟩ := dp_tup_of hv
    obtain ⟨v0, v1, v2, rfl, d0, d1, d2⟩ := dps3_of hxs
    obtain rfl := dp_str_of d0
    obtain ⟨⟨u, l1⟩, l2⟩ := tx_len T (x := "give") (n := 3) (by simp)
    refine ⟨_, rfl, true, isi_tup ha k_tuple_tuple, _, rfl, iteF ?_⟩
    refine ⟨_, rfl, a, _, rfl, .inr ha, rfl, _, rfl, ifF (by rfl) ?_⟩
    refine ⟨_, rfl, a, _, _, _, rfl, rfl, ha, atI_nat (j := 0) rfl, true, isi_str k_str_str, _, rfl, iteF ?_⟩
    refine ⟨_, rfl, a, _, _, _, rfl, rfl, ha, atI_nat (j := 0) rfl, ?_⟩
    refine ⟨_, rfl, _, u, rfl, rfl, l1, _, rfl, iteF ?_⟩
    refine ⟨_, rfl, a, _, rfl, .inr ha, _, rfl, _, _, _, rfl, rfl, l2, rfl, _, rfl, ifF (by rfl) ?_⟩
    refine ⟨_, rfl, rfl, _, rfl, ifF (by decide +kernel) ?_⟩
    refine ⟨_, rfl, rfl, _, rfl, ifF (by decide +kernel) ?_⟩
    refine ⟨_, rfl, rfl, _, rfl, ifF (by decide +kernel) ?_⟩
    refine ⟨_, rfl, rfl, _, rfl, ifT (by decide +kernel) ?_⟩
    obtain ⟨ok1, ok2⟩ := hok
    have hd1 : max m.dep g.dep ≤ n := Nat.le_of_succ_le_succ hd
    refine ⟨_, rfl, a, _, _, _, rfl, rfl, ha, atI_nat (j := 1) rfl, v1, m, rfl, d1, ok1, by omega, fun u1 H1 s1 t1 => ?_⟩
    refine ⟨_, rfl, a, _, _, _, rfl, rfl, same_seqT s1 ha, atI_nat (j := 2) rfl, v2, g, rfl, dp_up s1 d2, ok2, by omega, fun u2 H2 s2 t2 => ?_⟩
    exact mk_use (fs := [("maker", u1), ("given", u2)]) (fun _ z => ⟨u1, u2, m, g, rfl, term_up (s2.trans z) t1, term_up z t2, rfl⟩) fun p dx H3 s3 hp hp1 => q _ _ (s1.trans (s2.trans s3)) ⟨p, dx, u1, u2, rfl, hp1, term_up (s2.trans s3) t1, term_up s3 t2⟩
  | sm sg m g =>
    obtain ⟨a, xs, rfl, ha, hxs⟩ := dp_tup_of hv
    obtain ⟨v0, v1, v2, v3, rfl, d0, d1, d2, d3⟩ := dps4_of hxs
    obtain rfl := dp_str_of d0
    obtain rfl := dp_str_of d1
    obtain ⟨⟨u, l1⟩, l2⟩ := tx_len T (x := "sum") (n := 4) (by simp)
    refine ⟨_, rfl, true, isi_tup ha k_tuple_tuple, _, rfl, iteF ?_⟩
    refine ⟨_, rfl, a, _, rfl, .inr ha, rfl, _, rfl, ifF (by rfl) ?_⟩
    refine ⟨_, rfl, a, _, _, _, rfl, rfl, ha, atI_nat (j := 0) rfl, true, isi_str k_str_str, _, rfl, iteF ?_⟩
    refine ⟨_, rfl, a, _, _, _, rfl, rfl, ha, atI_nat (j := 0) rfl, ?_⟩
    refine ⟨_, rfl, _, u, rfl, rfl, l1, _, rfl, iteF ?_⟩
    refine ⟨_, rfl, a, _, rfl, .inr ha, _, rfl, _, _, _, rfl, rfl, l2, rfl, _, rfl, ifF (by rfl) ?_⟩
    refine ⟨_, rfl, rfl, _, rfl, ifF (by decide +kernel) ?_⟩
    refine ⟨_, rfl, rfl, _, rfl, ifF (by decide +kernel) ?_⟩
    refine ⟨_, rfl, rfl, _, rfl, ifF (by decide +kernel) ?_⟩
    refine ⟨_, rfl, rfl, _, rfl, ifF (by decide +kernel) ?_⟩
    refine ⟨_, rfl, rfl, _, rfl, ifT (by decide +kernel) ?_⟩
    obtain ⟨ok0, ok1, ok2⟩ := hok
    have hd1 : max m.dep g.dep ≤ n := Nat.le_of_succ_le_succ hd
    refine ⟨_, rfl, a, _, _, _, rfl, rfl, ha, atI_nat (j := 1) rfl, _, rfl, a, _, _, _, rfl, rfl, ha, atI_nat (j := 2) rfl, v2, m, rfl, d2, ok1, by omega, fun u1 H1 s1 t1 => ?_⟩
    refine ⟨_, rfl, a, _, _, _, rfl, rfl, same_seqT s1 ha, atI_nat (j := 3) rfl, v3, g, rfl, dp_up s1 d3, ok2, by omega, fun u2 H2 s2 t2 => ?_⟩
    exact mk_use (fs := [("sign", .str sg), ("one", u1), ("other", u2)]) (fun _ z => ⟨sg, u1, u2, m, g, rfl, ok0, term_up (s2.trans z) t1, term_up z t2, rfl⟩) fun p dx H3 s3 hp hp1 => q _ _ (s1.trans (s2.trans s3)) ⟨ok0, p, dx, u1, u2, rfl, hp1, term_up (s2.trans s3) t1, term_up s3 t2⟩
  | ch m k g =>
    obtain ⟨a, xs, rfl, ha, hxs⟩ := dp_tup_of hv
    obtain ⟨v0, v1, v2, v3, rfl, d0, d1, d2, d3⟩ := dps4_of hxs
    obtain rfl := dp_str_of d0
    obtain ⟨⟨u, l1⟩, l2⟩ := tx_len T (x := "choice") (n := 4) (by simp)
    refine ⟨_, rfl, true, isi_tup ha k_tuple_tuple, _, rfl, iteF ?_⟩
    refine ⟨_, rfl, a, _, rfl, .inr ha, rfl, _, rfl, ifF (by rfl) ?_⟩
    refine ⟨_, rfl, a, _, _, _, rfl, rfl, ha, atI_nat (j := 0) rfl, true, isi_str k_str_str, _, rfl, iteF ?_⟩
    refine ⟨_, rfl, a, _, _, _, rfl, rfl, ha, atI_nat (j := 0) rfl, ?_⟩
    refine ⟨_, rfl, _, u, rfl, rfl, l1, _, rfl, iteF ?_⟩
    refine ⟨_, rfl, a, _, rfl, .inr ha, _, rfl, _, _, _, rfl, rfl, l2, rfl, _, rfl, ifF (by rfl) ?_⟩
    refine ⟨_, rfl, rfl, _, rfl, ifF (by decide +kernel) ?_⟩
    refine ⟨_, rfl, rfl, _, rfl, ifF (by decide +kernel) ?_⟩
    refine ⟨_, rfl, rfl, _, rfl, ifF (by decide +kernel) ?_⟩
    refine ⟨_, rfl, rfl, _, rfl, ifF (by decide +kernel) ?_⟩
    refine ⟨_, rfl, rfl, _, rfl, ifF (by decide +kernel) ?_⟩
    refine ⟨_, rfl, rfl, _, rfl, ifT (by decide +kernel) ?_⟩
    obtain ⟨ok1, ok2, ok3⟩ := hok
    have hd1 : max m.dep (max k.dep g.dep) ≤ n := Nat.le_of_succ_le_succ hd
    refine ⟨_, rfl, a, _, _, _, rfl, rfl, ha, atI_nat (j := 1) rfl, v1, m, rfl, d1, ok1, by omega, fun u1 H1 s1 t1 => ?_⟩
    refine ⟨_, rfl, a, _, _, _, rfl, rfl, same_seqT s1 ha, atI_nat (j := 2) rfl, v2, k, rfl, dp_up s1 d2, ok2, by omega, fun u2 H2 s2 t2 => ?_⟩
    refine ⟨_, rfl, a, _, _, _, rfl, rfl, same_seqT s2 (same_seqT s1 ha), atI_nat (j := 3) rfl, v3, g, rfl, dp_up s2 (dp_up s1 d3), ok3, by omega, fun u3 H3 s3 t3 => ?_⟩
    exact mk_use (fs := [("asked", u1), ("nought", u2), ("other", u3)]) (fun _ z => ⟨u1, u2, u3, m, k, g, rfl, term_up (s2.trans (s3.trans z)) t1, term_up (s3.trans z) t2, term_up z t3, rfl⟩) fun p dx H4 s4 hp hp1 => q _ _ (s1.trans (s2.trans (s3.trans s4))) ⟨p, dx, u1, u2, u3, rfl, hp1, term_up (s2.trans (s3.trans s4)) t1, term_up (s3.trans s4) t2, term_up s4 t3⟩
  | ag x b =>
    obtain ⟨a, xs, rfl, ha, hxs⟩ := dp_tup_of hv
    obtain ⟨v0, v1, v2, rfl, d0, d1, d2⟩ := dps3_of hxs
    obtain rfl := dp_str_of d0
    obtain rfl := dp_str_of d1
    obtain ⟨⟨u, l1⟩, l2⟩ := tx_len T (x := "again") (n := 3) (by simp)
    refine ⟨_, rfl, true, isi_tup ha k_tuple_tuple, _, rfl, iteF ?_⟩
    refine ⟨_, rfl, a, _, rfl, .inr ha, rfl, _, rfl, ifF (by rfl) ?_⟩
    refine ⟨_, rfl, a, _, _, _, rfl, rfl, ha, atI_nat (j := 0) rfl, true, isi_str k_str_str, _, rfl, iteF ?_⟩
    refine ⟨_, rfl, a, _, _, _, rfl, rfl, ha, atI_nat (j := 0) rfl, ?_⟩
    refine ⟨_, rfl, _, u, rfl, rfl, l1, _, rfl, iteF ?_⟩
    refine ⟨_, rfl, a, _, rfl, .inr ha, _, rfl, _, _, _, rfl, rfl, l2, rfl, _, rfl, ifF (by rfl) ?_⟩
    refine ⟨_, rfl, rfl, _, rfl, ifF (by decide +kernel) ?_⟩
    refine ⟨_, rfl, rfl, _, rfl, ifF (by decide +kernel) ?_⟩
    refine ⟨_, rfl, rfl, _, rfl, ifF (by decide +kernel) ?_⟩
    refine ⟨_, rfl, rfl, _, rfl, ifF (by decide +kernel) ?_⟩
    refine ⟨_, rfl, rfl, _, rfl, ifF (by decide +kernel) ?_⟩
    refine ⟨_, rfl, rfl, _, rfl, ifF (by decide +kernel) ?_⟩
    refine ⟨_, rfl, rfl, _, rfl, ifT (by decide +kernel) ?_⟩
    obtain ⟨ok1, ok2⟩ := hok
    have hd1 : b.dep ≤ n := Nat.le_of_succ_le_succ hd
    refine ⟨_, rfl, a, _, _, _, rfl, rfl, ha, atI_nat (j := 1) rfl, _, rfl, a, _, _, _, rfl, rfl, ha, atI_nat (j := 2) rfl, v2, b, rfl, d2, ok2, hd1, fun u1 H1 s1 t1 => ?_⟩
    exact mk_use (fs := [("name", .str x), ("body", u1)]) (fun _ z => ⟨x, u1, b, rfl, ok1, term_up z t1, rfl⟩) fun p dx H2 s2 hp hp1 => q _ _ (s1.trans s2) ⟨ok1, p, dx, u1, rfl, hp1, term_up s2 t1⟩
theorem len_term_of {n : Nat} {vs : List V} {H : Hp} {Q : VK} {E : XK} (h : spTermOf K n vs H Q E) : vs.length = 1 := by
  obtain ⟨v, t, rfl, _⟩ := h
  rfl
theorem ok_term_of (T : Tx w K mg) (c_Name : Mak P w K mg base 3 "Name" (He.ga K "Name") (spInit K "Name" okN1)) (c_Number : Mak P w K mg base 2 "Number" (He.ga K "Number") (spInit K "Number" okN2))
    (c_Maker : Mak P w K mg base 3 "Maker" (He.ga K "Maker") (spInit K "Maker" (okNB K))) (c_Give : Mak P w K mg base 2 "Give" (He.ga K "Give") (spInit K "Give" (okN3 K))) (c_Sum : Mak P w K mg base 2 "Sum" (He.ga K "Sum") (spInit K "Sum" (okN4 K)))
    (c_Choice : Mak P w K mg base 2 "Choice" (He.ga K "Choice") (spInit K "Choice" (okN5 K))) (c_Again : Mak P w K mg base 3 "Again" (He.ga K "Again") (spInit K "Again" (okNB K))) : ∀ n : Nat, Cal P w K mg base (n + 4) "term_of" (spTermOf K n)
  | 0 => by
    refine (cal_mk T 11 11 rfl rfl sc_term_of (fun _ _ _ _ _ _ us hl => match us, hl with | [_], _ => rfl) (k := 0) (fun vs H Q E h => len_term_of h) (fun cdv A outer s H vs Q E hr h => ?_)).mono (by omega)
    obtain ⟨v, t, _, _, _, hd, _⟩ := h
    have := dep_pos t
    omega
  | n + 1 => cal_mk T 11 11 rfl rfl sc_term_of (fun _ _ _ _ _ _ us hl => match us, hl with | [_], _ => rfl) (fun vs H Q E h => len_term_of h) (body_term_of T n _ (ok_term_of T c_Name c_Number c_Maker c_Give c_Sum c_Choice c_Again n) c_Name c_Number c_Maker c_Give c_Sum c_Choice c_Again)
end
end Ut
set_option Elab.async false
set_option linter.all false
set_option maxRecDepth 100000
set_option maxHeartbeats 4000000
namespace Ut
open PySem PySem.Spec PyProof.Rows L2
/-! ### sorts, tallies -/
inductive Srt where
  | op | look | take | turn | next | sum | choose
  deriving DecidableEq
def Srt.nm : Srt → Str
  | .op => "open" | .look => "look" | .take => "take" | .turn => "turn" | .next => "next" | .sum => "sum" | .choose => "choose"
def Srt.all : List Srt := [.op, .look, .take, .turn, .next, .sum, .choose]
abbrev Tal := Srt → Nat
def talK (f : Tal) : List (Key × V) := Srt.all.map fun s => (Sum.inr s.nm, V.int (f s : Nat))
def TalAt (H : Hp) (v : V) (f : Tal) : Prop := ∃ a, v = .ref a ∧ H a = some (.dK (talK f))
theorem tal_up {H H' : Hp} {v : V} {f : Tal} (s : Same H H') : TalAt H v f → TalAt H' v f := fun ⟨a, e, h⟩ => ⟨a, e, s _ _ h⟩
theorem tal_get (f : Tal) (s : Srt) : valV (talK f) (Sum.inr s.nm : Key) = some (V.int (f s : Nat)) := by cases s <;> rfl
theorem tal_put (f : Tal) (s : Srt) (n : Nat) : putK (talK f) (Sum.inr s.nm : Key) (V.int (n : Nat)) = talK (fun t => if t = s then n else f t) := by cases s <;> rfl
/-- one turn of a loop over the sorts -/
theorem sorts_at {i : Nat} {x : V} (h : ([.str "open", .str "look", .str "take", .str "turn", .str "next", .str "sum", .str "choose"] : List V)[i]? = some x) : ∃ s, Srt.all[i]? = some s ∧ x = .str s.nm := by
  match i, h with
  | 0, h => exact ⟨.op, rfl, (Option.some.inj h).symm⟩
  | 1, h => exact ⟨.look, rfl, (Option.some.inj h).symm⟩
  | 2, h => exact ⟨.take, rfl, (Option.some.inj h).symm⟩
  | 3, h => exact ⟨.turn, rfl, (Option.some.inj h).symm⟩
  | 4, h => exact ⟨.next, rfl, (Option.some.inj h).symm⟩
  | 5, h => exact ⟨.sum, rfl, (Option.some.inj h).symm⟩
  | 6, h => exact ⟨.choose, rfl, (Option.some.inj h).symm⟩
  | i + 7, h => simp at h
def talPre (f : Tal) (i : Nat) : List (Key × V) := (Srt.all.take i).map fun s => (Sum.inr s.nm, V.int (f s : Nat))
theorem tal_snoc (f : Tal) {i : Nat} {s : Srt} (h : Srt.all[i]? = some s) : putK (talPre f i) (Sum.inr s.nm : Key) (V.int (f s : Nat)) = talPre f (i + 1) := by
  match i, h with
  | 0, h => cases h; rfl
  | 1, h => cases h; rfl
  | 2, h => cases h; rfl
  | 3, h => cases h; rfl
  | 4, h => cases h; rfl
  | 5, h => cases h; rfl
  | 6, h => cases h; rfl
  | i + 7, h => simp [Srt.all] at h
theorem talPre_len (f : Tal) (i : Nat) : (talPre f i).length ≤ 7 := by
  unfold talPre
  rw [List.length_map, List.length_take]
  exact Nat.min_le_right _ _
theorem tal_pre7 (f : Tal) : talPre f 7 = talK f := rfl
/-! ### list.count of texts -/
def isTx (k : Str) (v : Value) : Bool := match v with
  | .str y _ => decide (y = k)
  | _ => false
theorem isTx_gives {k : Str} {t : Tok} {A : Around} {s : Shared} : ∀ {us : List Value} {ks : List Str}, StrsAre us ks → ∀ y ∈ us, SeqAt.EqAt A s y (.str k t) (isTx k y)
  | _, _, .nil, _, m => by cases m
  | _, _, .cons x tk r, y, m => by
    rcases List.mem_cons.mp m with e | e
    · rw [e]
      exact fun prog w E Q hq => wpAny_eqBool_str hq
    · exact isTx_gives r y e
theorem isTx_count {k : Str} : ∀ {us : List Value} {ks : List Str}, StrsAre us ks → us.countP (isTx k) = ks.count k
  | _, _, .nil => rfl
  | _, _, .cons x t r => by
    rw [List.countP_cons, List.count_cons, isTx_count (k := k) r]
    show _ + (if decide (x = k) = true then 1 else 0) = _ + (if (x == k) = true then 1 else 0)
    by_cases e : x = k
    · simp [e]
    · simp [e]
section
variable {X : Cx}
def rCntT (K : PySem.W.Frag) : V → List V → Hp → VK → Prop := fun x xs H Q => ∃ (p : Addr) (ks : List Str) (k : Str), x = .ref p ∧ xs = [.str k] ∧ SqL K H p (ks.map V.str) ∧ Q (.int (ks.count k : Nat)) H
theorem mt_scount : MtR X "list.count" (rCntT X.K) := by
  intro pins s σ H x xs v us Q I rx rxs h
  obtain ⟨p, ks, k, rfl, rfl, hs, q⟩ := h
  cases rx
  obtain ⟨u, rfl, t, rfl⟩ := rxs.one
  obtain ⟨its, rv, ⟨⟨cl, dd, dt, sl⟩, n, ho, h1, h2, h3⟩, _⟩ := I.list hs
  simp only at h1 h3
  subst h1 h3
  have S := strs_of_vals rv
  refine call_meets PySem.F.slot_list_count ⟨_, ho, rfl⟩ PySem.F.entry_list_count (PySem.F.args_list_count_2 _ _) (SeqAt.list_countAt p its.toArray n dd sl (.str k t) (isTx k)) ⟨ho, fun y hy => isTx_gives S y (by simpa using hy), ?_⟩
  refine ⟨.int (ks.count k : Nat), H, I.tok _, ⟨s.toks, ?_⟩, q⟩
  rw [← isTx_count S]
end
section
variable {P : Program} {w : World} {K : PySem.W.Frag} {mg : Str → Option Value} {base : Heap}
theorem sc_tally_with : FnScope ["sorts", "tally", "sort"] ["sorts"] (defScope S_tally_with) := ⟨rfl, rfl, rfl, by decide +kernel, rfl, by decide +kernel, by decide +kernel⟩
def spTallyWith (K : PySem.W.Frag) : Sp := fun vs H Q _ => ∃ (l : Addr) (ks : List Str) (f : Tal), vs = [.ref l] ∧ SqL K H l (ks.map V.str) ∧ (∀ s : Srt, ks.count s.nm = f s) ∧ ∀ p H', Same H H' → H p = none → H' p = some (.dK (talK f)) → Q (.ref p) H'
theorem ok_tally_with (T : Tx w K mg) : Cal P w K mg base 1 "tally_with" (spTallyWith K) := by
  refine cal_mk T 19 19 rfl rfl sc_tally_with (fun _ _ _ _ _ _ us hl => match us, hl with | [_], _ => rfl) (fun vs H Q E h => ?_) (fun cdv A outer s H vs Q E hr h => ?_)
  · obtain ⟨l, ks, f, rfl, _⟩ := h
    rfl
  obtain ⟨l, ks, f, rfl, hl, hf, q⟩ := h
  have hu := hu_of hr
  refine ⟨_, (pss_cons (ps_set (i := 1) sc_tally_with.nd rfl (Or.inl rfl) pe_dnewK)
      (pss_cons (ps_for PassesOwn.never rfl (pi_tup (pe_glob (v := .ref (He.ga K "SORTS")) rfl (T.glo 89 rfl) rfl)) (pg_name (i := 2) sc_tally_with.nd rfl (Or.inl rfl))
      (pss_one (ps_dput hu (pv 1) (pv 2) (pe_bm PySem.F.plainAttrs_list PySem.F.slot_list_count PySem.F.type_list_count mt_scount (pv 0) (pa_cons (pv 2) pa_nil)) rfl)))
      (pss_one (ps_ret (pv 1))))), ?_⟩
  refine fun p hp => ?_
  have s1 := same_new hp (.dK [])
  refine ⟨_, rfl, ⟨_, tx_sorts T _⟩, for_tup (K := K) (a := He.ga K "SORTS") (xs := [.str "open", .str "look", .str "take", .str "turn", .str "next", .str "sum", .str "choose"]) (fun i σ Hi => ∃ x, σ = [some (.ref l), some (.ref p), x] ∧ Same H (hid [p] Hi) ∧ Hi p = some (.dK (talPre f i)))
    ⟨none, rfl, same_hid_new hp, upd_same⟩ (fun i σ Hi _ _ => tx_sorts T _) ?_ ?_⟩
  · rintro i y σ Hi hi ⟨x, rfl, sH, hpi⟩
    obtain ⟨z, hz, rfl⟩ := sorts_at hi
    have hli : SqL K Hi l (ks.map V.str) := (sH.trans hid_sub).seq hl
    refine ⟨_, rfl, .inl ⟨rfl, _, hli⟩, _, rfl, l, ks, z.nm, rfl, rfl, hli, _, rfl, _, rfl, p, _, rfl, DPut.k (k := Sum.inr z.nm) hpi (small1000 (by have := talPre_len f i; omega)), some (.str z.nm), rfl, ?_, ?_⟩
    · exact sH.trans (samex_hid (samex_upd (by simp) _))
    · rw [upd_same, hf z, tal_snoc f hz]
  · rintro σ Hi ⟨x, rfl, sH, hpi⟩
    exact ⟨_, rfl, q p Hi (sH.trans hid_sub) hp hpi⟩
/-! ### tallies together -/
def talSum (fs : List Tal) : Tal := fun s => (fs.map fun f => f s).sum
inductive TalsAt (H : Hp) : List V → List Tal → Prop where
  | nil : TalsAt H [] []
  | cons {v : V} {vs : List V} {f : Tal} {fs : List Tal} (h : TalAt H v f) (r : TalsAt H vs fs) : TalsAt H (v :: vs) (f :: fs)
theorem tals_up {H H' : Hp} (s : Same H H') : ∀ {vs : List V} {fs : List Tal}, TalsAt H vs fs → TalsAt H' vs fs
  | _, _, .nil => .nil
  | _, _, .cons a b => .cons (tal_up s a) (tals_up s b)
theorem tals_len {H : Hp} : ∀ {vs : List V} {fs : List Tal}, TalsAt H vs fs → vs.length = fs.length
  | _, _, .nil => rfl
  | _, _, .cons _ b => congrArg Nat.succ (tals_len b)
theorem tals_at {H : Hp} : ∀ {vs : List V} {fs : List Tal} {i : Nat} {v : V}, TalsAt H vs fs → vs[i]? = some v → ∃ f, fs[i]? = some f ∧ TalAt H v f
  | _, _, 0, _, .cons a _, e => by cases e; exact ⟨_, rfl, a⟩
  | _, _, i + 1, _, .cons _ b, e => tals_at b (i := i) (by simpa using e)
theorem tals_app {H : Hp} : ∀ {vs ws : List V} {fs gs : List Tal}, TalsAt H vs fs → TalsAt H ws gs → TalsAt H (vs ++ ws) (fs ++ gs)
  | _, _, _, _, .nil, h => h
  | _, _, _, _, .cons a b, h => .cons a (tals_app b h)
theorem sum_nat : ∀ l : List Nat, ((l.map fun n => ((n : Nat) : Int)).sum) = ((l.sum : Nat) : Int)
  | [] => rfl
  | n :: l => by
    rw [List.map_cons, List.sum_cons, List.sum_cons, sum_nat l]
    omega
theorem tal_dget {H : Hp} {b : Addr} {f : Tal} (h : H b = some (.dK (talK f))) (z : Srt) : DGet H b (.str z.nm) (some (.int (f z : Nat))) := by
  rw [← tal_get]
  exact DGet.k (k := Sum.inr z.nm) h
theorem range_fm {α β : Type} (g : α → β) (l : List α) : ∀ n : Nat, (List.range n).filterMap (fun i => (l[i]?).map g) = (l.take n).map g
  | 0 => rfl
  | n + 1 => by
    rw [List.range_succ, List.filterMap_append, range_fm g l n, List.take_add_one, List.map_append]
    cases q : l[n]? <;> simp [q]
theorem range_join {α : Type} (l : List (Option α)) : (List.range l.length).filterMap (fun i => (l[i]?).join) = l.filterMap id := by
  have h : ∀ n : Nat, (List.range n).filterMap (fun i => (l[i]?).join) = (l.take n).filterMap id := by
    intro n
    induction n with
    | zero => rfl
    | succ n ih =>
      rw [List.range_succ, List.filterMap_append, ih, List.take_add_one, List.filterMap_append]
      cases q : l[n]? with
      | none => simp [q]
      | some o => cases o <;> simp [q]
  rw [h, List.take_length]
theorem sc_tallies_together : FnScope ["tallies", "together", "sort", "tally"] ["tallies"] (defScope S_tallies_together) := ⟨rfl, rfl, rfl, by decide +kernel, rfl, by decide +kernel, by decide +kernel⟩
def spTogether (K : PySem.W.Frag) : Sp := fun vs H Q _ => ∃ (l : Addr) (us : List V) (fs : List Tal), vs = [.ref l] ∧ SqL K H l us ∧ us.length ≤ 1000000 ∧ TalsAt H us fs ∧ ∀ p H', Same H H' → H p = none → H' p = some (.dK (talK (talSum fs))) → Q (.ref p) H'
theorem ok_tallies_together (T : Tx w K mg) : Cal P w K mg base 1 "tallies_together" (spTogether K) := by
  refine cal_mk T 20 20 rfl rfl sc_tallies_together (fun _ _ _ _ _ _ us hl => match us, hl with | [_], _ => rfl) (fun vs H Q E h => ?_) (fun cdv A outer s H vs Q E hr h => ?_)
  · obtain ⟨l, ks, f, rfl, _⟩ := h
    rfl
  obtain ⟨l, us, fs, rfl, hl, hm, hf, q⟩ := h
  have hu := hu_of hr
  refine ⟨_, (pss_cons (ps_set (i := 1) sc_tallies_together.nd rfl (Or.inl rfl) pe_dnewK)
      (pss_cons (ps_for PassesOwn.never rfl (pi_tup (pe_glob (v := .ref (He.ga K "SORTS")) rfl (T.glo 89 rfl) rfl)) (pg_name (i := 2) sc_tallies_together.nd rfl (Or.inr rfl))
      (pss_one (ps_dput hu (pv 1) (pv 2) (pe_callB (cr_sum rfl) (by rfl) (T.free 81 rfl) (by decide +kernel) (pa_cons (pe_lc (own := [("tally", 3)]) (by rfl) sc_tallies_together.nd (pi_list (pv 0)) (blkOk_by (own := [("tally", 3)]) (N := ["tallies", "together", "sort", "tally"]) (sc := defScope S_tallies_together) (by decide +kernel)) (fun _ _ _ _ _ => (pg_name (i := 3) sc_tallies_together.nd rfl (by first | exact Or.inl rfl | exact Or.inr rfl))) (fun _ _ _ _ _ => pts_nil) (fun _ _ _ _ _ => (pe_dget hu (pv 3) (pv 2) (fun _ _ => rfl)))) pa_nil)) rfl)))
      (pss_one (ps_ret (pv 1))))), ?_⟩
  refine fun p hp => ?_
  refine ⟨_, rfl, ⟨_, tx_sorts T _⟩, for_tup (K := K) (a := He.ga K "SORTS") (xs := [.str "open", .str "look", .str "take", .str "turn", .str "next", .str "sum", .str "choose"]) (fun i σ Hi => ∃ x, σ = [some (.ref l), some (.ref p), x, none] ∧ Same H (hid [p] Hi) ∧ Hi p = some (.dK (talPre (talSum fs) i)))
    ⟨none, rfl, same_hid_new hp, upd_same⟩ (fun i σ Hi _ _ => tx_sorts T _) ?_ ?_⟩
  · rintro i y σ Hi hi ⟨x, rfl, sH, hpi⟩
    obtain ⟨z, hz, rfl⟩ := sorts_at hi
    have sHi := sH.trans hid_sub
    refine ⟨_, rfl, l, rfl, ⟨us, sHi.seq hl⟩, fun D hD => ?_⟩
    refine lc_gen (walk_list (K := K) (a := l) (xs := us)) (fun i => (fs[i]?).map fun f => V.int (f z : Nat)) (fun acc => (same_new hD _).seq (sHi.seq hl)) (Nat.le_trans hm (by decide)) ?_ ?_
    · rintro i v acc H' N hi la ⟨rfl, hv⟩ n1 n2
      obtain ⟨f, ef, b, rfl, hb⟩ := tals_at hf hv
      refine ⟨rfl, yes_turn ?_⟩
      refine ⟨_, rfl, _, rfl, b, _, rfl, tal_dget (same_new hD _ _ _ (sHi _ _ hb)) z, acc, upd_same, la, ?_⟩
      rw [upd_lst]
      exact n2 _ (by rw [ef]; rfl)
    · have el : (List.range us.length).filterMap (fun i => (fs[i]?).map fun f => V.int (f z : Nat)) = (fs.map fun f => ((f z : Nat) : Int)).map V.int := by
        rw [range_fm, tals_len hf, List.take_length, List.map_map]
        rfl
      refine ⟨D, fs.map fun f => ((f z : Nat) : Int), rfl, SqL.new (by rw [el]; exact upd_same), ?_⟩
      have es : ((fs.map fun f => ((f z : Nat) : Int)).sum) = ((talSum fs z : Nat) : Int) := by
        show _ = (((fs.map fun f => f z).sum : Nat) : Int)
        rw [← sum_nat, List.map_map]
        rfl
      have npD : p ≠ D := ne_of_none hpi hD
      have hpD : ∀ o, (upd Hi D o) p = some (.dK (talPre (talSum fs) i)) := fun o => by rw [upd_ne npD]; exact hpi
      refine ⟨_, rfl, _, rfl, p, _, rfl, DPut.k (k := Sum.inr z.nm) (hpD _) (small1000 (by have := talPre_len (talSum fs) i; omega)), some (.str z.nm), rfl, ?_, ?_⟩
      · exact (sH.trans (samex_hid (same_x (same_new hD _)))).trans (samex_hid (samex_upd (by simp) _))
      · rw [upd_same, es, tal_snoc (talSum fs) hz]
  · rintro σ Hi ⟨x, rfl, sH, hpi⟩
    exact ⟨_, rfl, q p Hi (sH.trans hid_sub) hp hpi⟩
/-! ### uses -/
abbrev Use := Str × PyData
def useD (u : Use) : PyData := tp [.str u.1, u.2]
def kindsUsed (us : List Use) (x : Str) : List PyData := (us.filter fun u => decide (u.1 = x)).map (·.2)
def usesBut (us : List Use) (x : Str) : List Use := us.filter fun u => !decide (u.1 = x)
/-- a list of uses -/
def UsAt (K : PySem.W.Frag) (H : Hp) (v : V) (us : List Use) : Prop := ∃ a zs, v = .ref a ∧ H a = some (.lst zs) ∧ DpAll K H zs (us.map useD)
theorem us_up {H H' : Hp} {v : V} {us : List Use} (s : Same H H') : UsAt K H v us → UsAt K H' v us := fun ⟨a, zs, e, h, d⟩ => ⟨a, zs, e, s _ _ h, dps_up s d⟩
/-- what a comprehension over uses picks -/
theorem pick {H : Hp} (f : Use → Bool) (g : Bool) : ∀ {us : List Use} {zs : List V}, DpAll K H zs (us.map useD) →
    ∃ ys : List (Option V), ys.length = zs.length ∧ DpAll K H (ys.filterMap id) ((us.filter f).map fun u => if g = true then u.2 else useD u) ∧
      ∀ (i : Nat) (z : V), zs[i]? = some z → ∃ a x k u y, z = .ref a ∧ SqT K H a [.str x, k] ∧ us[i]? = some u ∧ u.1 = x ∧ ys[i]? = some y ∧ y = if f u = true then some (if g = true then k else z) else none
  | [], _, .nil => ⟨[], rfl, .nil, fun i z h => by simp at h⟩
  | u :: us, _, .cons (v := v) hv r => by
    obtain ⟨ys, e1, e2, e3⟩ := pick f g r
    obtain ⟨a, xs, rfl, ha, hxs⟩ := dp_tup_of hv
    obtain ⟨v0, k, rfl, d0, d1⟩ := dps2_of hxs
    obtain rfl := dp_str_of d0
    refine ⟨(if f u = true then some (if g = true then k else .ref a) else none) :: ys, congrArg Nat.succ e1, ?_, fun i z h => ?_⟩
    · by_cases c : f u = true
      · rw [if_pos c, List.filterMap_cons, List.filter_cons, if_pos c, List.map_cons]
        refine .cons ?_ e2
        cases g
        · exact hv
        · exact d1
      · rw [if_neg c, List.filterMap_cons, List.filter_cons, if_neg c]
        exact e2
    · match i, h with
      | 0, h => cases h; exact ⟨a, _, k, u, _, rfl, ha, rfl, rfl, rfl, rfl⟩
      | i + 1, h => exact e3 i z (by simpa using h)
theorem sc_kinds_used : FnScope ["uses", "name", "use"] ["uses", "name"] (defScope S_kinds_used) := ⟨rfl, rfl, rfl, by decide +kernel, rfl, by decide +kernel, by decide +kernel⟩
def spKindsUsed (K : PySem.W.Frag) : Sp := fun vs H Q _ => ∃ B v us x, vs = [v, .str x] ∧ Dom B H ∧ UsAt K (hid B H) v us ∧ us.length ≤ 1000000 ∧ ∀ v' H', Same H H' → Dp K (hid B H') v' (.tuple (kindsUsed us x)) → Q v' H'
theorem ok_kinds_used (T : Tx w K mg) : Cal P w K mg base 1 "kinds_used" (spKindsUsed K) := by
  refine cal_mk T 21 21 rfl rfl sc_kinds_used (fun _ _ _ _ _ _ us hl => match us, hl with | [_, _], _ => rfl) (fun vs H Q E h => ?_) (fun cdv A outer s H vs Q E hr h => ?_)
  · obtain ⟨B, v, us, x, rfl, _⟩ := h
    rfl
  obtain ⟨B, v, us, x, rfl, hB, ⟨a, zs, rfl, ha, hz⟩, hm, q⟩ := h
  refine ⟨_, (pss_one (ps_ret (pe_callTy call_tuple_of (by rfl) (T.free 77 rfl) (by decide +kernel) (pa_cons (pe_lc (own := [("use", 2)]) (by rfl) sc_kinds_used.nd (pi_list (pv 0)) (blkOk_by (own := [("use", 2)]) (N := ["uses", "name", "use"]) (sc := defScope S_kinds_used) (by decide +kernel)) (fun _ _ _ _ _ => (pg_name (i := 2) sc_kinds_used.nd rfl (by first | exact Or.inl rfl | exact Or.inr rfl))) (fun _ _ _ _ _ => pts_one (pt_cmpR op_eq (pe_ix (show IxR _ (rIxT K) from ix_tup) (pv 2) pe_int (fun _ _ => rfl)) (pv 1) (nomark _))) (fun _ _ _ _ _ => (pe_ix (show IxR _ (rIxT K) from ix_tup) (pv 2) pe_int (fun _ _ => rfl)))) pa_nil)))), ?_⟩
  obtain ⟨ys, y1, y2, y3⟩ := pick (fun u => decide (u.1 = x)) true hz
  have hl : SqL K H a zs := SqL.new (hid_at ha)
  have zl : zs.length = us.length := by rw [dps_len hz, List.length_map]
  refine ⟨_, rfl, a, rfl, ⟨_, hl⟩, fun D hD => ?_⟩
  refine lc_gen (walk_list (K := K) (a := a) (xs := zs)) (fun i => (ys[i]?).join) (fun acc => (same_new hD _).seq hl) (by rw [zl]; exact Nat.le_trans hm (by decide)) ?_ ?_
  · rintro i z acc H' N hi la ⟨rfl, hv⟩ n1 n2
    obtain ⟨b, x', k, u, y, rfl, hb, hu, rfl, hy, ey⟩ := y3 i z hv
    have hb' : SqT K (upd H D (.lst acc)) b [.str u.1, k] := same_seqT (hid_sub.trans (same_new hD _)) hb
    refine ⟨rfl, _, rfl, b, _, _, _, rfl, rfl, hb', atI_nat (j := 0) rfl, _, rfl, rfl, _, rfl, ?_⟩
    by_cases c : u.1 = x
    · rw [if_pos (decide_eq_true c)] at ey
      subst ey
      refine ifT (by simp [c]) ⟨_, rfl, b, _, _, _, rfl, rfl, hb', atI_nat (j := 1) rfl, acc, upd_same, la, ?_⟩
      rw [upd_lst]
      exact n2 _ (by rw [hy]; rfl)
    · rw [if_neg (by simp [c])] at ey
      subst ey
      exact ifF (by simp [c]) (n1 (by rw [hy]; rfl))
  · rw [← y1, range_join]
    refine ⟨D, _, rfl, .inl ⟨SqL.new upd_same, fun p hp => ?_⟩⟩
    have s2 := (same_new hD (.lst (ys.filterMap id))).trans (same_new hp (.tup (ys.filterMap id)))
    refine q (.ref p) _ s2 (dp_newT (hid_new (hB.up (same_new hD _)) hp) ?_)
    exact dps_up (hid_up s2) y2
theorem sc_uses_but : FnScope ["uses", "name", "use"] ["uses", "name"] (defScope S_uses_but) := ⟨rfl, rfl, rfl, by decide +kernel, rfl, by decide +kernel, by decide +kernel⟩
def spUsesBut (K : PySem.W.Frag) : Sp := fun vs H Q _ => ∃ B v us x, vs = [v, .str x] ∧ Dom B H ∧ UsAt K (hid B H) v us ∧ us.length ≤ 1000000 ∧ ∀ v' H', Same H H' → UsAt K (hid B H') v' (usesBut us x) → Q v' H'
theorem ok_uses_but (T : Tx w K mg) : Cal P w K mg base 1 "uses_but" (spUsesBut K) := by
  refine cal_mk T 22 22 rfl rfl sc_uses_but (fun _ _ _ _ _ _ us hl => match us, hl with | [_, _], _ => rfl) (fun vs H Q E h => ?_) (fun cdv A outer s H vs Q E hr h => ?_)
  · obtain ⟨B, v, us, x, rfl, _⟩ := h
    rfl
  obtain ⟨B, v, us, x, rfl, hB, ⟨a, zs, rfl, ha, hz⟩, hm, q⟩ := h
  refine ⟨_, (pss_one (ps_ret (pe_lc (own := [("use", 2)]) (by rfl) sc_uses_but.nd (pi_list (pv 0)) (blkOk_by (own := [("use", 2)]) (N := ["uses", "name", "use"]) (sc := defScope S_uses_but) (by decide +kernel)) (fun _ _ _ _ _ => (pg_name (i := 2) sc_uses_but.nd rfl (by first | exact Or.inl rfl | exact Or.inr rfl))) (fun _ _ _ _ _ => pts_one (pt_cmpR op_ne (pe_ix (show IxR _ (rIxT K) from ix_tup) (pv 2) pe_int (fun _ _ => rfl)) (pv 1) (nomark _))) (fun _ _ _ _ _ => (pv 2))))), ?_⟩
  obtain ⟨ys, y1, y2, y3⟩ := pick (fun u => !decide (u.1 = x)) false hz
  have hl : SqL K H a zs := SqL.new (hid_at ha)
  have zl : zs.length = us.length := by rw [dps_len hz, List.length_map]
  refine ⟨_, rfl, a, rfl, ⟨_, hl⟩, fun D hD => ?_⟩
  refine lc_gen (walk_list (K := K) (a := a) (xs := zs)) (fun i => (ys[i]?).join) (fun acc => (same_new hD _).seq hl) (by rw [zl]; exact Nat.le_trans hm (by decide)) ?_ ?_
  · rintro i z acc H' N hi la ⟨rfl, hv⟩ n1 n2
    obtain ⟨b, x', k, u, y, rfl, hb, hu, rfl, hy, ey⟩ := y3 i z hv
    have hb' : SqT K (upd H D (.lst acc)) b [.str u.1, k] := same_seqT (hid_sub.trans (same_new hD _)) hb
    refine ⟨rfl, _, rfl, b, _, _, _, rfl, rfl, hb', atI_nat (j := 0) rfl, _, rfl, rfl, _, rfl, ?_⟩
    by_cases c : u.1 = x
    · rw [if_neg (by simp [c])] at ey
      subst ey
      exact ifF (by simp [c]) (n1 (by rw [hy]; rfl))
    · rw [if_pos (by simp [c])] at ey
      subst ey
      refine ifT (by simp [c]) ⟨_, rfl, acc, upd_same, la, ?_⟩
      rw [upd_lst]
      exact n2 _ (by rw [hy]; rfl)
  · rw [← y1, range_join]
    have s2 := same_new hD (.lst (ys.filterMap id))
    exact q (.ref D) _ s2 ⟨D, _, rfl, hid_new hB hD, dps_up (hid_up s2) y2⟩
end
end Ut
set_option Elab.async false
set_option linter.all false
set_option maxRecDepth 100000
set_option maxHeartbeats 4000000
namespace Ut
open PySem PySem.Spec PyProof.Rows L2
/-! ### kinds -/
inductive Kd where
  | int (i : Int) | tk (ns : List Int) (i : Int)
def Kd.d : Kd → PyData
  | .int i => .int i
  | .tk ns i => tp [.str "takes", tp (ns.map .int), .int i]
def Kd.dk : Kd → Nat
  | .int _ => 1
  | .tk _ _ => 2
def IsKd (d : PyData) : Prop := ∃ k : Kd, d = k.d
theorem int_lay : ∀ ns : List Int, PyData.canLayAll0 (ns.map .int) = true
  | [] => rfl
  | n :: r => by
    show (true && PyData.canLayAll0 (r.map .int)) = true
    rw [int_lay r]; rfl
theorem int_dep : ∀ ns : List Int, PyData.depthAll (ns.map .int) ≤ 1
  | [] => by decide
  | n :: r => by
    have := int_dep r
    rw [List.map_cons]
    simp only [PyData.depthAll, PyData.depth]
    omega
theorem int_eqv : ∀ ns : List Int, PyData.eqvAll (ns.map .int) (ns.map .int) = true
  | [] => by simp [PyData.eqvAll]
  | n :: r => by
    rw [List.map_cons]
    simp [PyData.eqvAll, PyData.eqv, int_eqv r]
theorem kd_lay (k : Kd) : PyData.canLay0 k.d = true := by
  cases k with
  | int i => rfl
  | tk ns i =>
    simp only [Kd.d, PyData.canLay0, PyData.canLayAll0, int_lay, Bool.true_and, Bool.and_true]
    decide +kernel
theorem kd_dep (k : Kd) : PyData.depth k.d ≤ 10 := by
  cases k with
  | int i => simp [Kd.d, PyData.depth]
  | tk ns i =>
    have := int_dep ns
    simp only [Kd.d, PyData.depth, PyData.depthAll]
    omega
theorem kd_eqv (k : Kd) : PyData.eqv k.d k.d = true := by
  cases k with
  | int i => simp [Kd.d, PyData.eqv]
  | tk ns i => simp [Kd.d, PyData.eqv, PyData.eqvAll, int_eqv]
theorem kds_shaped {ds : List PyData} (h : ∀ d ∈ ds, IsKd d) : SeqAt.shaped (tp ds) = true := by
  have h1 : PyData.canLayAll0 ds = true := by
    induction ds with
    | nil => rfl
    | cons d r ih =>
      obtain ⟨k, rfl⟩ := h d List.mem_cons_self
      show (PyData.canLay0 k.d && PyData.canLayAll0 r) = true
      rw [kd_lay, ih fun d m => h d (List.mem_cons_of_mem _ m)]; rfl
  have h2 : PyData.depthAll ds ≤ 10 := by
    clear h1
    induction ds with
    | nil => simp [PyData.depthAll]
    | cons d r ih =>
      obtain ⟨k, rfl⟩ := h d List.mem_cons_self
      have := kd_dep k
      have := ih fun d m => h d (List.mem_cons_of_mem _ m)
      simp only [PyData.depthAll]
      omega
  show (PyData.canLayAll0 ds && decide _) = true
  rw [h1, Bool.true_and]
  refine decide_eq_true ?_
  simp only [PyData.depth]
  omega
theorem kds_eqv {ds : List PyData} (h : ∀ d ∈ ds, IsKd d) : PyData.eqv (tp ds) (tp ds) = true := by
  rw [PyData.eqv]
  induction ds with
  | nil => simp [PyData.eqvAll]
  | cons d r ih =>
    obtain ⟨k, rfl⟩ := h d List.mem_cons_self
    rw [PyData.eqvAll, kd_eqv, ih fun d m => h d (List.mem_cons_of_mem _ m)]; rfl
section
variable {P : Program} {w : World} {K : PySem.W.Frag} {mg : Str → Option Value} {base : Heap}
theorem sc_is_kind : FnScope ["thing"] ["thing"] (defScope S_is_kind) := ⟨rfl, rfl, rfl, by decide +kernel, rfl, by decide +kernel, by decide +kernel⟩
theorem sc_are_kinds : FnScope ["things", "thing"] ["things"] (defScope S_are_kinds) := ⟨rfl, rfl, rfl, by decide +kernel, rfl, by decide +kernel, by decide +kernel⟩
def spIsKind (K : PySem.W.Frag) (n : Nat) : Sp := fun vs H Q _ => ∃ v k, vs = [v] ∧ Dp K H v (Kd.d k) ∧ k.dk ≤ n ∧ Q (.bl true) H
def spAreKinds (K : PySem.W.Frag) (n : Nat) : Sp := fun vs H Q _ => ∃ v, ∃ ns : List Int, vs = [v] ∧ Dp K H v (tp (ns.map PyData.int)) ∧ 1 ≤ n ∧ Q (.bl true) H
theorem pl_kd (k : Kd) : Pl k.d := by cases k <;> trivial
theorem ok_is_kind0 (T : Tx w K mg) : Cal P w K mg base 1 "is_kind" (spIsKind K 0) := by
  refine cal_mk T 1 1 rfl rfl sc_is_kind (fun _ _ _ _ _ _ us hl => match us, hl with | [_], _ => rfl) (fun vs H Q E h => ?_) (fun cdv A outer s H vs Q E hr h => ?_)
  · obtain ⟨v, k, rfl, _⟩ := h
    rfl
  obtain ⟨v, k, rfl, hv, hd, q⟩ := h
  cases k <;> simp [Kd.dk] at hd
theorem ok_are_kinds (T : Tx w K mg) (n : Nat) (c_is_kind : Cal P w K mg base (2 * n + 1) "is_kind" (spIsKind K n)) : Cal P w K mg base (2 * n + 2) "are_kinds" (spAreKinds K n) := by
  refine cal_mk T 2 2 rfl rfl sc_are_kinds (fun _ _ _ _ _ _ us hl => match us, hl with | [_], _ => rfl) (fun vs H Q E h => ?_) (fun cdv A outer s H vs Q E hr h => ?_)
  · obtain ⟨v, k, rfl, _⟩ := h
    rfl
  obtain ⟨v, ns, rfl, hv, hn, q⟩ := h
  refine ⟨_, (pss_cons (ps_for PassesOwn.never rfl (pi_tup (pv 0)) (pg_name (i := 1) sc_are_kinds.nd rfl (Or.inl rfl))
      (pss_one (ps_if (pt_not (pt_val (pe_c c_is_kind hr (by omega) (by rfl) (pa_cons (pv 1) pa_nil)))) (pss_one (ps_ret pe_bl)) pss_nil)))
      (pss_one (ps_ret pe_bl))), ?_⟩
  obtain ⟨a, xs, rfl, ha, hxs⟩ := dp_tup_of hv
  obtain rfl := dps_ints_of hxs
  refine ⟨_, rfl, a, rfl, ⟨_, ha⟩, for_tup (K := K) (a := a) (xs := ns.map V.int) (fun i σ H2 => H2 = H ∧ ∃ v, σ = [some (.ref a), v]) ⟨rfl, _, rfl⟩ (fun i σ H2 _ h => by rw [h.1]; exact ha) ?_ (fun σ H2 h => by rw [h.1]; exact q)⟩
  rintro i y σ H2 hi ⟨rfl, v, rfl⟩
  rw [List.getElem?_map] at hi
  cases e : ns[i]? with
  | none => rw [e] at hi; cases hi
  | some z =>
    rw [e] at hi
    cases hi
    exact ⟨_, rfl, .int z, .int z, rfl, .int z, hn, _, rfl, iteF ⟨rfl, _, rfl⟩⟩
theorem ok_is_kindS (T : Tx w K mg) (n : Nat) (c_is_number : Cal P w K mg base 1 "is_number" (spIsNumber K)) (c_is_kind : Cal P w K mg base (2 * n + 1) "is_kind" (spIsKind K n)) (c_are_kinds : Cal P w K mg base (2 * n + 2) "are_kinds" (spAreKinds K n)) :
    Cal P w K mg base (2 * n + 3) "is_kind" (spIsKind K (n + 1)) := by
  refine cal_mk T 1 1 rfl rfl sc_is_kind (fun _ _ _ _ _ _ us hl => match us, hl with | [_], _ => rfl) (fun vs H Q E h => ?_) (fun cdv A outer s H vs Q E hr h => ?_)
  · obtain ⟨v, k, rfl, _⟩ := h
    rfl
  obtain ⟨v, k, rfl, hv, hd, q⟩ := h
  refine ⟨_, (pss_cons (ps_if (pt_val (pe_c c_is_number hr (by omega) (by rfl) (pa_cons (pv 0) pa_nil))) (pss_one (ps_ret pe_bl)) pss_nil)
      (pss_cons (ps_if (pt_val (pe_isi (pv 0) (pe_bltn (v := .ty "str") (by rfl) (T.free 78 rfl) (by decide +kernel) rfl) (by rfl) (T.free 69 rfl))) (pss_one (ps_ret (pe_cmpR op_eq (pv 0) pe_str (nomark _)))) pss_nil)
      (pss_cons (ps_if (PW.pt (pw_or (pt_not (pt_val (pe_isi (pv 0) (pe_bltn (v := .ty "tuple") (by rfl) (T.free 77 rfl) (by decide +kernel) rfl) (by rfl) (T.free 69 rfl)))) (pw_or1 (pt_cmpR op_ne (pe_callB call_len_seq (by rfl) (T.free 70 rfl) (by decide +kernel) (pa_cons (pv 0) pa_nil)) pe_int (nomark _))))) (pss_one (ps_ret pe_bl)) pss_nil)
      (pss_cons (ps_if (PW.pt (pw_or (pt_not (pt_val (pe_isi (pe_ix ix_tup (pv 0) pe_int (fun _ _ => rfl)) (pe_bltn (v := .ty "str") (by rfl) (T.free 78 rfl) (by decide +kernel) rfl) (by rfl) (T.free 69 rfl)))) (pw_or1 (pt_cmpR op_ne (pe_ix ix_tup (pv 0) pe_int (fun _ _ => rfl)) pe_str (nomark _))))) (pss_one (ps_ret pe_bl)) pss_nil)
      (pss_one (ps_ret (pe_and (pe_isi (pe_ix ix_tup (pv 0) pe_int (fun _ _ => rfl)) (pe_bltn (v := .ty "tuple") (by rfl) (T.free 77 rfl) (by decide +kernel) rfl) (by rfl) (T.free 69 rfl)) (pe_and (pe_c c_are_kinds hr (by omega) (by rfl) (pa_cons (pe_ix ix_tup (pv 0) pe_int (fun _ _ => rfl)) pa_nil)) (pe_one (pe_c c_is_kind hr (by omega) (by rfl) (pa_cons (pe_ix ix_tup (pv 0) pe_int (fun _ _ => rfl)) pa_nil))))))))))), ?_⟩
  cases k with
  | int i => exact ⟨_, rfl, v, _, rfl, hv, trivial, _, rfl, ifT rfl q⟩
  | tk ns i =>
    refine ⟨_, rfl, v, _, rfl, hv, trivial, _, rfl, ifF rfl ?_⟩
    obtain ⟨a, xs, rfl, ha, hxs⟩ := dp_tup_of hv
    obtain ⟨v0, v1, v2, rfl, d0, d1, d2⟩ := dps3_of hxs
    obtain rfl := dp_str_of d0
    have hn : 1 ≤ n := by simp [Kd.dk] at hd; omega
    refine ⟨_, rfl, false, isi_tup ha k_tuple_str, _, rfl, iteF ?_⟩
    refine ⟨_, rfl, true, isi_tup ha k_tuple_tuple, _, rfl, iteF ?_⟩
    refine ⟨_, rfl, a, _, rfl, .inr ha, rfl, _, rfl, ifF (by rfl) ?_⟩
    refine ⟨_, rfl, a, _, _, _, rfl, rfl, ha, atI_nat (j := 0) rfl, true, isi_str k_str_str, _, rfl, iteF ?_⟩
    refine ⟨_, rfl, a, _, _, _, rfl, rfl, ha, atI_nat (j := 0) rfl, rfl, _, rfl, ifF (by decide +kernel) ?_⟩
    obtain ⟨a1, xs1, rfl, ha1, hxs1⟩ := dp_tup_of d1
    refine ⟨_, rfl, a, _, _, _, rfl, rfl, ha, atI_nat (j := 1) rfl, true, isi_tup ha1 k_tuple_tuple, _, rfl, iteT ?_⟩
    refine ⟨_, rfl, a, _, _, _, rfl, rfl, ha, atI_nat (j := 1) rfl, .ref a1, ns, rfl, d1, hn, _, rfl, iteT ?_⟩
    exact ⟨_, rfl, a, _, _, _, rfl, rfl, ha, atI_nat (j := 2) rfl, v2, .int i, rfl, d2, hn, q⟩
theorem ok_is_kind (T : Tx w K mg) : Cal P w K mg base 5 "is_kind" (spIsKind K 2) := by
  have c0 : Cal P w K mg base 1 "is_kind" (spIsKind K 0) := ok_is_kind0 T
  have c1 := ok_is_kindS T 0 (ok_is_number T) c0 (ok_are_kinds T 0 c0)
  exact ok_is_kindS T 1 (ok_is_number T) c1 (ok_are_kinds T 1 c1)
theorem sc_has_form : FnScope ["paper", "word", "many"] ["paper", "word", "many"] (defScope S_has_form) := ⟨rfl, rfl, rfl, by decide +kernel, rfl, by decide +kernel, by decide +kernel⟩
def spHasForm (K : PySem.W.Frag) : Sp := fun vs H Q _ => ∃ v w0 ds x n, vs = [v, .str x, .int n] ∧ Dp K H v (tp (.str w0 :: ds)) ∧ Q (.bl (decide (((ds.length + 1 : Nat) : Int) = n) && decide (w0 = x))) H
theorem ok_has_form (T : Tx w K mg) : Cal P w K mg base 1 "has_form" (spHasForm K) := by
  refine cal_mk T 23 23 rfl rfl sc_has_form (fun _ _ _ _ _ _ us hl => match us, hl with | [_, _, _], _ => rfl) (fun vs H Q E h => ?_) (fun cdv A outer s H vs Q E hr h => ?_)
  · obtain ⟨v, w0, ds, x, n, rfl, _⟩ := h
    rfl
  obtain ⟨v, w0, ds, x, n, rfl, hv, q⟩ := h
  refine ⟨_, (pss_cons (ps_if (PW.pt (pw_or (pt_not (pt_val (pe_isi (pv 0) (pe_bltn (v := .ty "tuple") (by rfl) (T.free 77 rfl) (by decide +kernel) rfl) (by rfl) (T.free 69 rfl)))) (pw_or1 (pt_cmpR op_ne (pe_callB call_len_seq (by rfl) (T.free 70 rfl) (by decide +kernel) (pa_cons (pv 0) pa_nil)) (pv 2) (nomark _))))) (pss_one (ps_ret pe_bl)) pss_nil)
      (pss_one (ps_ret (pe_and (pe_isi (pe_ix ix_tup (pv 0) pe_int (fun _ _ => rfl)) (pe_bltn (v := .ty "str") (by rfl) (T.free 78 rfl) (by decide +kernel) rfl) (by rfl) (T.free 69 rfl)) (pe_one (pe_cmpR op_eq (pe_ix ix_tup (pv 0) pe_int (fun _ _ => rfl)) (pv 1) (nomark _))))))), ?_⟩
  obtain ⟨a, xs, rfl, ha, hxs⟩ := dp_tup_of hv
  cases hxs with
  | cons d0 r =>
    obtain rfl := dp_str_of d0
    rename_i us
    have hl : us.length = ds.length := dps_len r
    refine ⟨_, rfl, true, isi_tup ha k_tuple_tuple, _, rfl, iteF ?_⟩
    refine ⟨_, rfl, a, _, rfl, .inr ha, _, rfl, rfl, _, rfl, ?_⟩
    by_cases e : ((ds.length + 1 : Nat) : Int) = n
    · refine ifF (by rw [List.length_cons, hl, e]; simp) ?_
      rw [decide_eq_true e, Bool.true_and] at q
      refine ⟨_, rfl, a, _, _, _, rfl, rfl, ha, atI_nat (j := 0) rfl, true, isi_str k_str_str, _, rfl, iteT ?_⟩
      refine ⟨_, rfl, a, _, _, _, rfl, rfl, ha, atI_nat (j := 0) rfl, _, rfl, rfl, ?_⟩
      have e3 : decide (V.str w0 = V.str x) = decide (w0 = x) := by simp
      rw [e3]
      exact q
    · have e2 : ¬ ((ds.length : Int) + 1 = n) := fun h => e (by rw [← h]; rfl)
      refine ifT (by simp only [List.length_cons, hl]; simp [e2]) ?_
      rw [decide_eq_false e] at q
      exact q
end
end Ut
set_option Elab.async false
set_option linter.all false
set_option maxRecDepth 100000
set_option maxHeartbeats 4000000
namespace Ut
open PySem PySem.Spec PyProof.Rows L2
/-! ### what `judged` tells -/
structure Row where
  k : PyData
  us : List Use
  tl : Tal
def talOf (ks : List Srt) : Tal := fun s => ks.count s
inductive JE (R : PyData → Row → Prop) : List PyData → List Row → Prop where
  | nil : JE R [] []
  | cons {p : PyData} {r : Row} {ps : List PyData} {rs : List Row} (h : R p r) (t : JE R ps rs) : JE R (p :: ps) (r :: rs)
theorem JE.len {R : PyData → Row → Prop} : ∀ {ps : List PyData} {rs : List Row}, JE R ps rs → ps.length = rs.length
  | _, _, .nil => rfl
  | _, _, .cons _ t => congrArg Nat.succ t.len
theorem JE.at {R : PyData → Row → Prop} : ∀ {ps : List PyData} {rs : List Row} {i : Nat} {p : PyData}, JE R ps rs → ps[i]? = some p → ∃ r, rs[i]? = some r ∧ R p r
  | _, _, 0, _, .cons h _, e => by cases e; exact ⟨_, rfl, h⟩
  | _, _, i + 1, _, .cons _ t, e => t.at (i := i) (by simpa using e)
theorem JE.imp {R S : PyData → Row → Prop} : ∀ {ps : List PyData} {rs : List Row}, JE R ps rs → (∀ p r, r ∈ rs → R p r → S p r) → JE S ps rs
  | _, _, .nil, _ => .nil
  | _, _, .cons h t, f => .cons (f _ _ List.mem_cons_self h) (t.imp fun p r m => f p r (List.mem_cons_of_mem _ m))
def usAll (rs : List Row) : List Use := rs.flatMap (·.us)
def tlAll (rs : List Row) : List Tal := rs.map (·.tl)
def J : Nat → Tm → PyData → Row → Prop
  | 0, _, _, _ => False
  | n + 1, .name x, p, r => ∃ k : Kd, p = tp [.str "look", k.d] ∧ r = ⟨k.d, [(x, k.d)], talOf [.look]⟩
  | n + 1, .num i, p, r => p = tp [.str "number"] ∧ r = ⟨.int i, [], talOf []⟩
  | n + 1, .mk x b, p, r => ∃ p1 r1, p = tp [.str "takes", p1] ∧ J n b p1 r1 ∧ r = ⟨tp [.str "takes", tp (kindsUsed r1.us x), r1.k], usesBut r1.us x, talSum [r1.tl, talOf [.take]]⟩
  | n + 1, .gv m g, p, r => ∃ p1 r1 ps rs k, p = tp [.str "gives", p1, tp ps] ∧ J n m p1 r1 ∧ JE (J n g) ps rs ∧ r1.k = tp [.str "takes", tp (rs.map (·.k)), k] ∧ (∀ q ∈ rs, IsKd q.k) ∧ rs.length ≤ 100000 ∧
      r = ⟨k, r1.us ++ usAll rs, talSum ([r1.tl] ++ tlAll rs ++ [talOf [.op]])⟩
  | n + 1, .sm s a b, p, r => ∃ p1 r1 p2 r2 i j, p = tp [.str "sum", p1, p2] ∧ J n a p1 r1 ∧ J n b p2 r2 ∧ r1.k = .int i ∧ r2.k = .int j ∧ r = ⟨.int (sumOf s i j), r1.us ++ usAll [r2], talSum [r1.tl, r2.tl, talOf [.op, .next, .sum]]⟩
  | n + 1, .ch a m o, p, r => ∃ p1 r1 p2 r2 i, p = tp [.str "choice", p1, p2] ∧ J n a p1 r1 ∧ r1.k = .int i ∧ J n (if i = 0 then m else o) p2 r2 ∧ r = ⟨r2.k, r1.us ++ usAll [r2], talSum [r1.tl, r2.tl, talOf [.op, .choose]]⟩
  | n + 1, .ag x b, p, r => ∃ p1 r1 ps rs, p = tp [.str "turn", p1, tp ps] ∧ J n b p1 r1 ∧ JE (J n (.ag x b)) ps rs ∧ kindsUsed r1.us x = rs.map (·.k) ∧ (∀ q ∈ rs, IsKd q.k) ∧ rs.length ≤ 100000 ∧
      r = ⟨r1.k, usesBut r1.us x ++ usAll rs, talSum ([r1.tl] ++ tlAll rs ++ [talOf [.turn]])⟩
theorem usAll_len (f : Row → Nat) : ∀ (rs : List Row), (∀ q ∈ rs, q.us.length ≤ f q) → (usAll rs).length ≤ (rs.map f).sum
  | [], _ => Nat.le_refl _
  | r :: rs, h => by
    show (r.us ++ usAll rs).length ≤ (f r :: rs.map f).sum
    rw [List.length_append, List.sum_cons]
    have := h r List.mem_cons_self
    have := usAll_len f rs fun q m => h q (List.mem_cons_of_mem _ m)
    omega
theorem tal_app (fs gs : List Tal) (s : Srt) : talSum (fs ++ gs) s = talSum fs s + talSum gs s := by
  unfold talSum
  rw [List.map_append, List.sum_append]
theorem tal_one (f : Tal) (s : Srt) : talSum [f] s = f s := by simp [talSum]
theorem tlAll_sum (rs : List Row) (s : Srt) : talSum (tlAll rs) s = (rs.map fun r => r.tl s).sum := by
  unfold talSum tlAll
  rw [List.map_map]; rfl
theorem je_mem {R : PyData → Row → Prop} {ps : List PyData} {rs : List Row} (h : JE R ps rs) : ∀ q ∈ rs, ∃ p, R p q := by
  induction h with
  | nil => intro q m; cases m
  | cons a t ih =>
    intro q m
    rcases List.mem_cons.mp m with e | m
    · subst e; exact ⟨_, a⟩
    · exact ih q m
theorem j_uses : ∀ (n : Nat) (t : Tm) (p : PyData) (r : Row), J n t p r → r.us.length ≤ r.tl .look
  | 0, _, _, _, h => h.elim
  | n + 1, .name x, p, r, ⟨k, _, e⟩ => by subst e; exact Nat.le_refl 1
  | n + 1, .num i, p, r, ⟨_, e⟩ => by subst e; exact Nat.le_refl 0
  | n + 1, .mk x b, p, r, ⟨p1, r1, _, h, e⟩ => by
    subst e
    have := j_uses n b p1 r1 h
    have h2 : (usesBut r1.us x).length ≤ r1.us.length := List.length_filter_le _ _
    show (usesBut r1.us x).length ≤ talSum ([r1.tl] ++ [talOf [.take]]) .look
    rw [tal_app, tal_one]; omega
  | n + 1, .gv m g, p, r, ⟨p1, r1, ps, rs, k, _, h, hs, _, _, _, e⟩ => by
    subst e
    have := j_uses n m p1 r1 h
    have h3 := usAll_len (fun q => q.tl .look) rs fun q hq => by obtain ⟨p', hp'⟩ := je_mem hs q hq; exact j_uses n g p' q hp'
    show (r1.us ++ usAll rs).length ≤ talSum ([r1.tl] ++ tlAll rs ++ [talOf [.op]]) .look
    rw [tal_app, tal_app, tal_one, tlAll_sum, List.length_append]; omega
  | n + 1, .sm s a b, p, r, ⟨p1, r1, p2, r2, i, j, _, h1, h2, _, _, e⟩ => by
    subst e
    have := j_uses n a p1 r1 h1
    have := j_uses n b p2 r2 h2
    show (r1.us ++ usAll [r2]).length ≤ talSum ([r1.tl] ++ [r2.tl] ++ [talOf [.op, .next, .sum]]) .look
    rw [tal_app, tal_app, tal_one, tal_one, List.length_append]
    simp only [usAll, List.flatMap_cons, List.flatMap_nil, List.append_nil]; omega
  | n + 1, .ch a m o, p, r, ⟨p1, r1, p2, r2, i, _, h1, _, h2, e⟩ => by
    subst e
    have := j_uses n a p1 r1 h1
    have := j_uses n _ p2 r2 h2
    show (r1.us ++ usAll [r2]).length ≤ talSum ([r1.tl] ++ [r2.tl] ++ [talOf [.op, .choose]]) .look
    rw [tal_app, tal_app, tal_one, tal_one, List.length_append]
    simp only [usAll, List.flatMap_cons, List.flatMap_nil, List.append_nil]; omega
  | n + 1, .ag x b, p, r, ⟨p1, r1, ps, rs, _, h, hs, _, _, _, e⟩ => by
    subst e
    have := j_uses n b p1 r1 h
    have h2 : (usesBut r1.us x).length ≤ r1.us.length := List.length_filter_le _ _
    have h3 := usAll_len (fun q => q.tl .look) rs fun q hq => by obtain ⟨p', hp'⟩ := je_mem hs q hq; exact j_uses n (.ag x b) p' q hp'
    show (usesBut r1.us x ++ usAll rs).length ≤ talSum ([r1.tl] ++ tlAll rs ++ [talOf [.turn]]) .look
    rw [tal_app, tal_app, tal_one, tlAll_sum, List.length_append]; omega
section
variable {P : Program} {w : World} {K : PySem.W.Frag} {mg : Str → Option Value} {base : Heap}
/-- a row: (kind, uses, tally) -/
def RowAt (K : PySem.W.Frag) (H : Hp) (v : V) (r : Row) : Prop := ∃ a kv uv tv, v = .ref a ∧ H a = some (.tup [kv, uv, tv]) ∧ Dp K H kv r.k ∧ UsAt K H uv r.us ∧ TalAt H tv r.tl
theorem row_up {H H' : Hp} (s : Same H H') {v : V} {r : Row} : RowAt K H v r → RowAt K H' v r := fun ⟨a, kv, uv, tv, e, h, h1, h2, h3⟩ => ⟨a, kv, uv, tv, e, s _ _ h, dp_up s h1, us_up s h2, tal_up s h3⟩
inductive RowsAt (K : PySem.W.Frag) (H : Hp) : List V → List Row → Prop where
  | nil : RowsAt K H [] []
  | cons {v : V} {vs : List V} {r : Row} {rs : List Row} (h : RowAt K H v r) (t : RowsAt K H vs rs) : RowsAt K H (v :: vs) (r :: rs)
theorem rows_up {H H' : Hp} (s : Same H H') : ∀ {vs : List V} {rs : List Row}, RowsAt K H vs rs → RowsAt K H' vs rs
  | _, _, .nil => .nil
  | _, _, .cons a b => .cons (row_up s a) (rows_up s b)
theorem rows_len {H : Hp} : ∀ {vs : List V} {rs : List Row}, RowsAt K H vs rs → vs.length = rs.length
  | _, _, .nil => rfl
  | _, _, .cons a b => congrArg Nat.succ (rows_len b)
theorem rows_at {H : Hp} : ∀ {vs : List V} {rs : List Row} {i : Nat} {v : V}, RowsAt K H vs rs → vs[i]? = some v → ∃ r, rs[i]? = some r ∧ RowAt K H v r
  | _, _, 0, _, .cons a _, e => by cases e; exact ⟨_, rfl, a⟩
  | _, _, i + 1, _, .cons _ b, e => rows_at b (i := i) (by simpa using e)
theorem rows_snoc {H : Hp} : ∀ {vs : List V} {rs : List Row} {v : V} {r : Row}, RowsAt K H vs rs → RowAt K H v r → RowsAt K H (vs ++ [v]) (rs ++ [r])
  | _, _, _, _, .nil, h => .cons h .nil
  | _, _, _, _, .cons a b, h => .cons a (rows_snoc b h)
theorem row_no {H : Hp} {r : Row} : ¬ RowAt K H .non r := fun ⟨_, _, _, _, e, _⟩ => by cases e
/-! ### put_together -/
theorem sc_put_together : FnScope ["parts", "uses", "kind", "tally", "whole", "part"] ["parts", "uses", "kind", "tally"] (defScope S_put_together) := ⟨rfl, rfl, rfl, by decide +kernel, rfl, by decide +kernel, by decide +kernel⟩
def spPut (K : PySem.W.Frag) : Sp := fun vs H Q _ => ∃ B l zs uv kv tv us k tl rs, vs = [.ref l, uv, kv, tv] ∧ Dom B H ∧ H l = some (.lst zs) ∧ RowsAt K (hid B H) zs rs ∧ UsAt K (hid B H) uv us ∧ Dp K (hid B H) kv k ∧ TalAt (hid B H) tv tl ∧
  us.length + (usAll rs).length ≤ 1000000 ∧ ∀ v' H', Same H H' → RowAt K (hid B H') v' ⟨k, us ++ usAll rs, tl⟩ → Q v' H'
theorem usAll_take (rs : List Row) (i : Nat) : (usAll (rs.take i)).length ≤ (usAll rs).length := by
  have e : usAll rs = usAll (rs.take i) ++ usAll (rs.drop i) := by
    rw [← List.take_append_drop i rs]
    unfold usAll
    rw [List.flatMap_append]
    simp
  rw [e, List.length_append]
  omega
theorem ok_put_together (T : Tx w K mg) : Cal P w K mg base 1 "put_together" (spPut K) := by
  refine cal_mk T 28 28 rfl rfl sc_put_together (fun _ _ _ _ _ _ us hl => match us, hl with | [_, _, _, _], _ => rfl) (fun vs H Q E h => ?_) (fun cdv A outer s H vs Q E hr h => ?_)
  · obtain ⟨B, l, zs, uv, kv, tv, us, k, tl, rs, rfl, _⟩ := h
    rfl
  obtain ⟨B, l, zs, uv, kv, tv, us, k, tl, rs, rfl, hB, hl, hrs, ⟨ua, uz, rfl, hua, huz⟩, hk, ht, hm, q⟩ := h
  refine ⟨_, (pss_cons (ps_set (i := 4) sc_put_together.nd rfl (Or.inl rfl) (pe_callTy call_list_of (by rfl) (T.free 79 rfl) (by decide +kernel) (pa_cons (pv 1) pa_nil)))
      (pss_cons (ps_for PassesOwn.never rfl (pi_list (pv 0)) (pg_name (i := 5) sc_put_together.nd rfl (Or.inl rfl))
      (pss_one (ps_expr (pe_bm PySem.F.plainAttrs_list PySem.F.slot_list_extend PySem.F.type_list_extend mt_extend (pv 4) (pa_cons (pe_ix ix_tup (pv 5) pe_int (fun _ _ => rfl)) pa_nil)))))
      (pss_one (ps_ret (pe_tup (pa_cons (pv 2) (pa_cons (pv 4) (pa_cons (pv 3) pa_nil)))))))), ?_⟩
  have ul : SqL K H ua uz := SqL.new (hid_at hua)
  refine ⟨_, rfl, ua, uz, rfl, .inl ul, fun W hW => ?_⟩
  have nl : l ≠ W := ne_of_none hl hW
  refine ⟨_, rfl, l, rfl, ⟨zs, SqL.new (by rw [upd_ne nl]; exact hl)⟩, for_list (K := K) (a := l) (xs := zs) (fun i σ Hi => ∃ x ws, σ = [some (.ref l), some (.ref ua), some kv, some tv, some (.ref W), x] ∧ Hi = upd H W (.lst ws) ∧ DpAll K (hid B H) ws ((us ++ usAll (rs.take i)).map useD))
    ⟨none, uz, rfl, rfl, ?_⟩ (fun i σ Hi _ h => ?_) ?_ ?_⟩
  · rw [List.take_zero]
    simpa [usAll] using huz
  · obtain ⟨x, ws, _, rfl, _⟩ := h
    exact SqL.new (by rw [upd_ne nl]; exact hl)
  · rintro i y σ Hi hi ⟨x, ws, rfl, rfl, hws⟩
    obtain ⟨r, er, a, kv', uv', tv', rfl, ha, h1, ⟨ub, ux, rfl, hub, hux⟩, h3⟩ := rows_at hrs hi
    have sW := same_new hW (.lst ws)
    have nb : ub ≠ W := ne_of_none (hid_at hub) hW
    have e1 := dps_len hws
    have e2 := dps_len hux
    have e3 : usAll (rs.take (i + 1)) = usAll (rs.take i) ++ r.us := by
      rw [List.take_add_one, er]
      simp [usAll]
    have e4 := usAll_take rs (i + 1)
    rw [e3, List.length_append] at e4
    rw [List.length_map] at e1 e2
    rw [List.length_append] at e1
    refine ⟨_, rfl, .inl ⟨rfl, _, SqL.new upd_same⟩, ?_⟩
    refine ⟨_, rfl, a, _, _, _, rfl, rfl, SqT.new (sW _ _ (hid_at ha)), atI_nat (j := 1) rfl, W, ub, ws, ux, rfl, rfl, upd_same, sW _ _ (hid_at hub), ?_, some (.ref a), ws ++ ux, rfl, ?_, ?_⟩
    · show ws.length + ux.length ≤ 2 ^ 24
      omega
    · exact upd_upd
    · rw [e3, ← List.append_assoc, List.map_append]
      exact dps_app hws hux
  · rintro σ Hi ⟨x, ws, rfl, rfl, hws⟩
    have e1 : (rs.take zs.length) = rs := by rw [rows_len hrs, List.take_length]
    rw [e1] at hws
    refine ⟨_, rfl, _, rfl, _, rfl, (by show 3 ≤ sizeLine; decide), fun p hp => ?_⟩
    have sW := same_new hW (.lst ws)
    have s2 := sW.trans (same_new hp (.tup [kv, .ref W, tv]))
    have hpH : H p = none := sW.free hp
    refine q (.ref p) _ s2 ⟨p, kv, .ref W, tv, rfl, hid_new (hB.up sW) hp, dp_up (hid_up s2) hk, ⟨W, ws, rfl, ?_, dps_up (hid_up s2) hws⟩, tal_up (hid_up s2) ht⟩
    have nW : W ≠ p := fun e => by rw [← e, upd_same] at hp; cases hp
    rw [hid_out (hB.out hW), upd_ne nW, upd_same]
end
end Ut
set_option Elab.async false
set_option linter.all false
set_option maxRecDepth 100000
set_option maxHeartbeats 4000000
namespace Ut
open PySem PySem.Spec PyProof.Rows L2
section
variable {P : Program} {w : World} {K : PySem.W.Frag} {mg : Str → Option Value} {base : Heap}
theorem hid_got {B : List Addr} {H H' : Hp} {p : Addr} {o : HO} (d : Dom B H) (h : H p = none) (g : H' p = some o) : hid B H' p = some o := by
  rw [hid_out (d.out h)]
  exact g
theorem row_mk {B : List Addr} {H : Hp} {p : Addr} {kv uv tv : V} {k : PyData} {us : List Use} {tl : Tal} (hB : Dom B H) (hp : H p = none) (hk : Dp K (hid B H) kv k) (hu : UsAt K (hid B H) uv us) (ht : TalAt (hid B H) tv tl) :
    RowAt K (hid B (upd H p (.tup [kv, uv, tv]))) (.ref p) ⟨k, us, tl⟩ :=
  ⟨p, kv, uv, tv, rfl, hid_new hB hp, dp_up (hid_up (same_new hp _)) hk, us_up (hid_up (same_new hp _)) hu, tal_up (hid_up (same_new hp _)) ht⟩
def spJudged (K : PySem.W.Frag) (n : Nat) : Sp := fun vs H Q _ => ∃ B t v pp p r, vs = [v, pp] ∧ Dom B H ∧ TermAt K (hid B H) t v ∧ Dp K (hid B H) pp p ∧ J n t p r ∧ r.tl .look ≤ 100000 ∧
  ∀ v' H', Same H H' → RowAt K (hid B H') v' r → Q v' H'
def spJudgedC (K : PySem.W.Frag) (c : Tc) (n : Nat) : Sp := fun vs H Q _ => ∃ B t v pp p r, vs = [v, pp] ∧ t.tc = c ∧ Dom B H ∧ TermAt K (hid B H) t v ∧ Dp K (hid B H) pp p ∧ J n t p r ∧ r.tl .look ≤ 100000 ∧
  ∀ v' H', Same H H' → RowAt K (hid B H') v' r → Q v' H'
/-- what stands at a tally made anew -/
theorem tal_got {B : List Addr} {H H' : Hp} {p : Addr} {f : Tal} (d : Dom B H) (h : H p = none) (g : H' p = some (.dK (talK f))) : TalAt (hid B H') (.ref p) f := ⟨p, rfl, hid_got d h g⟩
theorem cnt_look (s : Srt) : (["look"] : List Str).count s.nm = talOf [.look] s := by cases s <;> decide +kernel
theorem cnt_none (s : Srt) : ([] : List Str).count s.nm = talOf [] s := rfl
theorem cnt_take (s : Srt) : (["take"] : List Str).count s.nm = talOf [.take] s := by cases s <;> decide +kernel
theorem cnt_open (s : Srt) : (["open"] : List Str).count s.nm = talOf [.op] s := by cases s <;> decide +kernel
theorem cnt_turn (s : Srt) : (["turn"] : List Str).count s.nm = talOf [.turn] s := by cases s <;> decide +kernel
theorem cnt_sum (s : Srt) : (["open", "next", "sum"] : List Str).count s.nm = talOf [.op, .next, .sum] s := by cases s <;> decide +kernel
theorem cnt_choose (s : Srt) : (["open", "choose"] : List Str).count s.nm = talOf [.op, .choose] s := by cases s <;> decide +kernel
theorem sc_judged_name : FnScope ["term", "paper"] ["term", "paper"] (defScope S_judged_name) := ⟨rfl, rfl, rfl, by decide +kernel, rfl, by decide +kernel, by decide +kernel⟩
theorem ok_judged_name (T : Tx w K mg) (n : Nat) (c_has_form : Cal P w K mg base 1 "has_form" (spHasForm K)) (c_is_kind : Cal P w K mg base 5 "is_kind" (spIsKind K 2)) (c_tally_with : Cal P w K mg base 1 "tally_with" (spTallyWith K)) : Cal P w K mg base 6 "judged_name" (spJudgedC K .name n) := by
  refine cal_mk T 25 25 rfl rfl sc_judged_name (fun _ _ _ _ _ _ us hl => match us, hl with | [_, _], _ => rfl) (fun vs H Q E h => ?_) (fun cdv A outer s H vs Q E hr h => ?_)
  · obtain ⟨B, t, v, pp, p, r, rfl, _⟩ := h
    rfl
  obtain ⟨B, t, v, pp, p, r, rfl, ht, hB, hv, hp, hJ, hm, q⟩ := h
  refine ⟨_, (pss_cons (ps_if (PW.pt (pw_or (pt_not (pt_val (pe_c c_has_form hr (by omega) (by rfl) (pa_cons (pv 1) (pa_cons pe_str (pa_cons pe_int pa_nil)))))) (pw_or1 (pt_not (pt_val (pe_c c_is_kind hr (by omega) (by rfl) (pa_cons (pe_ix ix_tup (pv 1) pe_int (fun _ _ => rfl)) pa_nil))))))) (pss_one (ps_ret pe_non)) pss_nil)
      (pss_one (ps_ret (pe_tup (pa_cons (pe_ix ix_tup (pv 1) pe_int (fun _ _ => rfl)) (pa_cons (pe_lst (pa_cons (pe_tup (pa_cons (pe_fld (pv 0) rfl) (pa_cons (pe_ix ix_tup (pv 1) pe_int (fun _ _ => rfl)) pa_nil))) pa_nil)) (pa_cons (pe_c c_tally_with hr (by omega) (by rfl) (pa_cons (pe_lst (pa_cons pe_str pa_nil)) pa_nil)) pa_nil))))))), ?_⟩
  cases t with
  | name x =>
    obtain ⟨ok, a, dx, rfl, ha⟩ := hv
    cases n with
    | zero => exact hJ.elim
    | succ n =>
    obtain ⟨k, rfl, rfl⟩ := hJ
    have hp' := dp_up hid_sub hp
    obtain ⟨b, xs, rfl, hb, hxs⟩ := dp_tup_of hp
    obtain ⟨v0, v1, rfl, d0, d1⟩ := dps2_of hxs
    obtain rfl := dp_str_of d0
    have hb' := same_seqT hid_sub hb
    refine ⟨_, rfl, .ref b, "look", _, "look", 2, rfl, hp', _, rfl, iteF ?_⟩
    refine ⟨_, rfl, b, _, _, _, rfl, rfl, hb', atI_nat (j := 1) rfl, v1, k, rfl, dp_up hid_sub d1, (by cases k; exact Nat.le_succ 1; exact Nat.le_refl 2), _, rfl, iteF ?_⟩
    refine ⟨_, rfl, b, _, _, _, rfl, rfl, hb', atI_nat (j := 1) rfl, ?_⟩
    refine ⟨_, rfl, a, _, dx, _, _, rfl, hid_at ha, T.cls 92, T.noat 118, rfl, ?_⟩
    refine ⟨_, rfl, b, _, _, _, rfl, rfl, hb', atI_nat (j := 1) rfl, ?_⟩
    refine ⟨(by show 2 ≤ sizeLine; decide), fun p1 hp1 => ⟨(by show 1 ≤ sizeLine; decide), fun l hl => ⟨(by show 1 ≤ sizeLine; decide), fun l2 hl2 => ?_⟩⟩⟩
    refine ⟨l2, ["look"], talOf [.look], rfl, SqL.new upd_same, cnt_look, fun y H4 s4 hy hy4 => ⟨(by show 3 ≤ sizeLine; decide), fun z hz => ?_⟩⟩
    have s1 := same_new hp1 (.tup [.str x, v1])
    have s2 := same_new hl (.lst [.ref p1])
    have s3 := same_new hl2 (.lst [.str "look"])
    have s34 := s3.trans s4
    have s24 := s2.trans s34
    have s14 := s1.trans s24
    refine q (.ref z) _ (s14.trans (same_new hz _)) (row_mk (hB.up s14) hz (dp_up (hid_up s14) d1) ⟨l, _, rfl, hid_up s34 _ _ (hid_new (hB.up s1) hl), .cons (dp_up (hid_up s24) (dp_newT (hid_new hB hp1) (.cons (.str x) (.cons ?_ .nil)))) .nil⟩ (tal_got (hB.up (s1.trans (s2.trans s3))) hy hy4))
    exact dp_up (hid_up s1) d1
  | _ => cases ht
theorem sc_judged_maker : FnScope ["term", "paper", "within", "kind", "uses", "tally", "taken"] ["term", "paper"] (defScope S_judged_maker) := ⟨rfl, rfl, rfl, by decide +kernel, rfl, by decide +kernel, by decide +kernel⟩
theorem ok_judged_maker (T : Tx w K mg) (n : Nat) (c_has_form : Cal P w K mg base 1 "has_form" (spHasForm K)) (c_tally_with : Cal P w K mg base 1 "tally_with" (spTallyWith K)) (c_tallies_together : Cal P w K mg base 1 "tallies_together" (spTogether K))
    (c_kinds_used : Cal P w K mg base 1 "kinds_used" (spKindsUsed K)) (c_uses_but : Cal P w K mg base 1 "uses_but" (spUsesBut K)) (c_judged : Cal P w K mg base (3 * n + 4) "judged" (spJudged K n)) : Cal P w K mg base (3 * n + 5) "judged_maker" (spJudgedC K .mk (n + 1)) := by
  refine cal_mk T 26 26 rfl rfl sc_judged_maker (fun _ _ _ _ _ _ us hl => match us, hl with | [_, _], _ => rfl) (fun vs H Q E h => ?_) (fun cdv A outer s H vs Q E hr h => ?_)
  · obtain ⟨B, t, v, pp, p, r, rfl, _⟩ := h
    rfl
  obtain ⟨B, t, v, pp, p, r, rfl, ht, hB, hv, hp, hJ, hm, q⟩ := h
  refine ⟨_, (pss_cons (ps_if (pt_val (pe_c c_has_form hr (by omega) (by rfl) (pa_cons (pv 1) (pa_cons pe_str (pa_cons pe_int pa_nil))))) (pss_one (ps_ret (pe_tup (pa_cons pe_str (pa_cons (pe_lst pa_nil) (pa_cons (pe_c c_tally_with hr (by omega) (by rfl) (pa_cons (pe_lst pa_nil) pa_nil)) pa_nil)))))) pss_nil)
      (pss_cons (ps_if (pt_not (pt_val (pe_c c_has_form hr (by omega) (by rfl) (pa_cons (pv 1) (pa_cons pe_str (pa_cons pe_int pa_nil)))))) (pss_one (ps_ret pe_non)) pss_nil)
      (pss_cons (ps_set (i := 2) sc_judged_maker.nd rfl (Or.inl rfl) (pe_c c_judged hr (by omega) (by rfl) (pa_cons (pe_fld (pv 0) rfl) (pa_cons (pe_ix ix_tup (pv 1) pe_int (fun _ _ => rfl)) pa_nil))))
      (pss_cons (ps_if (pt_cmpR op_isN (pv 2) pe_non (nomark _)) (pss_one (ps_ret pe_non)) pss_nil)
      (pss_cons (ps_asg (pv 2) (pg_tup (by rfl) (pgs_cons (pg_name (i := 3) sc_judged_maker.nd rfl (Or.inl rfl)) (pgs_cons (pg_name (i := 4) sc_judged_maker.nd rfl (Or.inl rfl)) (pgs_cons (pg_name (i := 5) sc_judged_maker.nd rfl (Or.inl rfl)) pgs_nil)))))
      (pss_cons (ps_set (i := 6) sc_judged_maker.nd rfl (Or.inl rfl) (pe_tup (pa_cons pe_str (pa_cons (pe_c c_kinds_used hr (by omega) (by rfl) (pa_cons (pv 4) (pa_cons (pe_fld (pv 0) rfl) pa_nil))) (pa_cons (pv 3) pa_nil)))))
      (pss_one (ps_ret (pe_tup (pa_cons (pv 6) (pa_cons (pe_c c_uses_but hr (by omega) (by rfl) (pa_cons (pv 4) (pa_cons (pe_fld (pv 0) rfl) pa_nil))) (pa_cons (pe_c c_tallies_together hr (by omega) (by rfl) (pa_cons (pe_lst (pa_cons (pv 5) (pa_cons (pe_c c_tally_with hr (by omega) (by rfl) (pa_cons (pe_lst (pa_cons pe_str pa_nil)) pa_nil)) pa_nil))) pa_nil)) pa_nil)))))))))))), ?_⟩
  cases t with
  | mk x b =>
    obtain ⟨ok, a, dx, u, rfl, ha, hb⟩ := hv
    obtain ⟨p1, r1, rfl, hJ1, rfl⟩ := hJ
    have hp' := dp_up hid_sub hp
    obtain ⟨c, xs, rfl, hc, hxs⟩ := dp_tup_of hp
    obtain ⟨v0, v1, rfl, d0, d1⟩ := dps2_of hxs
    obtain rfl := dp_str_of d0
    have hc' := same_seqT hid_sub hc
    have hm1 : r1.tl .look ≤ 100000 := by
      have e : talSum ([r1.tl] ++ [talOf [.take]]) .look ≤ 100000 := hm
      rw [tal_app, tal_one] at e; omega
    have hu1 := j_uses n b p1 r1 hJ1
    refine ⟨_, rfl, .ref c, "takes", _, "maker", 1, rfl, hp', _, rfl, ifF (by rfl) ?_⟩
    refine ⟨_, rfl, .ref c, "takes", _, "takes", 2, rfl, hp', _, rfl, iteF ?_⟩
    refine ⟨_, rfl, a, _, dx, _, _, rfl, hid_at ha, T.cls 96, T.noat 121, rfl, ?_⟩
    refine ⟨_, rfl, c, _, _, _, rfl, rfl, hc', atI_nat (j := 1) rfl, ?_⟩
    refine ⟨B, b, u, v1, p1, r1, rfl, hB, hb, d1, hJ1, hm1, fun y H1 s1 ry => ?_⟩
    obtain ⟨y, kv, uv, tv, rfl, hy, hk, hus, htl⟩ := ry
    refine ⟨_, rfl, rfl, _, rfl, iteF ?_⟩
    refine ⟨_, rfl, y, _, rfl, SqT.new (hid_at hy), rfl, _, _, rfl, _, _, rfl, _, _, rfl, rfl, ?_⟩
    refine ⟨_, rfl, _, rfl, a, _, dx, _, _, rfl, s1 _ _ (hid_at ha), T.cls 96, T.noat 120, rfl, ?_⟩
    have hB1 := hB.up s1
    refine ⟨B, uv, r1.us, x, rfl, hB1, hus, by omega, fun y2 H2 s2 dk => ?_⟩
    refine ⟨_, rfl, (by show 3 ≤ sizeLine; decide), fun p2 hp2 => ?_⟩
    have n2 := same_new hp2 (.tup [.str "takes", y2, kv])
    have s3 := s2.trans n2
    have s13 := s1.trans s3
    refine ⟨_, rfl, _, rfl, _, rfl, a, _, dx, _, _, rfl, s13 _ _ (hid_at ha), T.cls 96, T.noat 120, rfl, ?_⟩
    refine ⟨B, uv, r1.us, x, rfl, hB.up s13, us_up (hid_up s3) hus, by omega, fun y3 H3 s4 ub => ?_⟩
    refine ⟨_, rfl, (by show 1 ≤ sizeLine; decide), fun l1 hl1 => ?_⟩
    have n5 := same_new hl1 (.lst [.str "take"])
    refine ⟨l1, ["take"], talOf [.take], rfl, SqL.new upd_same, cnt_take, fun y4 H4 s6 hy4 hy4' => ⟨(by show 2 ≤ sizeLine; decide), fun l2 hl2 => ?_⟩⟩
    have n7 := same_new hl2 (.lst [tv, .ref y4])
    have s17 := s3.trans (s4.trans (n5.trans (s6.trans n7)))
    refine ⟨l2, [tv, .ref y4], [r1.tl, talOf [.take]], rfl, SqL.new upd_same, (by show 2 ≤ 1000000; decide), .cons (tal_up (hid_sub.trans s17) htl) (.cons ⟨y4, rfl, n7 _ _ hy4'⟩ .nil), fun y5 H5 s8 hy5 hy5' => ⟨(by show 3 ≤ sizeLine; decide), fun z hz => ?_⟩⟩
    have s48 := n5.trans (s6.trans (n7.trans s8))
    have s38 := s4.trans s48
    have s28 := n2.trans s38
    have s0 := s1.trans (s2.trans s28)
    have hB7 := hB.up (s1.trans s17)
    refine q (.ref z) _ (s0.trans (same_new hz _)) (row_mk (hB.up s0) hz (dp_up (hid_up s38) (dp_newT (hid_new (hB1.up s2) hp2) (.cons (.str _) (.cons (dp_up (hid_up n2) dk) (.cons (dp_up (hid_up s3) hk) .nil))))) (us_up (hid_up s48) ub) (tal_got hB7 hy5 hy5'))
  | _ => cases ht
theorem sc_judged_each : FnScope ["term", "papers", "told", "paper", "one"] ["term", "papers"] (defScope S_judged_each) := ⟨rfl, rfl, rfl, by decide +kernel, rfl, by decide +kernel, by decide +kernel⟩
def spEach (K : PySem.W.Frag) (n : Nat) : Sp := fun vs H Q _ => ∃ B t v pp ps rs, vs = [v, pp] ∧ Dom B H ∧ TermAt K (hid B H) t v ∧ Dp K (hid B H) pp (tp ps) ∧ JE (J n t) ps rs ∧ (∀ q ∈ rs, q.tl .look ≤ 100000) ∧ rs.length ≤ 1000000 ∧
  ∀ p us H', Same H H' → H p = none → H' p = some (.lst us) → RowsAt K (hid B H') us rs → Q (.ref p) H'
theorem ok_judged_each (T : Tx w K mg) (n : Nat) (c_judged : Cal P w K mg base (3 * n + 4) "judged" (spJudged K n)) : Cal P w K mg base (3 * n + 5) "judged_each" (spEach K n) := by
  refine cal_mk T 27 27 rfl rfl sc_judged_each (fun _ _ _ _ _ _ us hl => match us, hl with | [_, _], _ => rfl) (fun vs H Q E h => ?_) (fun cdv A outer s H vs Q E hr h => ?_)
  · obtain ⟨B, t, v, pp, p, r, rfl, _⟩ := h
    rfl
  obtain ⟨B, t, v, pp, ps, rs, rfl, hB, hv, hp, hJ, hm, hl, q⟩ := h
  refine ⟨_, (pss_cons (ps_if (pt_not (pt_val (pe_isi (pv 1) (pe_bltn (v := .ty "tuple") (by rfl) (T.free 77 rfl) (by decide +kernel) rfl) (by rfl) (T.free 69 rfl)))) (pss_one (ps_ret pe_non)) pss_nil)
      (pss_cons (ps_set (i := 2) sc_judged_each.nd rfl (Or.inl rfl) (pe_lst pa_nil))
      (pss_cons (ps_for PassesOwn.never rfl (pi_tup (pv 1)) (pg_name (i := 3) sc_judged_each.nd rfl (Or.inl rfl))
      (pss_cons (ps_set (i := 4) sc_judged_each.nd rfl (Or.inl rfl) (pe_c c_judged hr (by omega) (by rfl) (pa_cons (pv 0) (pa_cons (pv 3) pa_nil))))
      (pss_cons (ps_if (pt_cmpR op_isN (pv 4) pe_non (nomark _)) (pss_one (ps_ret pe_non)) pss_nil)
      (pss_one (ps_expr (pe_bm PySem.F.plainAttrs_list PySem.F.slot_list_append PySem.F.type_list_append mt_append (pv 2) (pa_cons (pv 4) pa_nil)))))))
      (pss_one (ps_ret (pv 2)))))), ?_⟩
  obtain ⟨a, xs, rfl, ha, hxs⟩ := dp_tup_of hp
  have ha' := same_seqT hid_sub ha
  refine ⟨_, rfl, true, isi_tup ha' k_tuple_tuple, _, rfl, iteF ?_⟩
  refine ⟨Nat.zero_le _, fun W hW => ?_⟩
  have hlen : xs.length = rs.length := by rw [dps_len hxs, hJ.len]
  refine ⟨_, rfl, a, rfl, ⟨_, same_seqT (same_new hW _) ha'⟩, for_tup (K := K) (a := a) (xs := xs) (fun i σ Hi => ∃ x y us, σ = [some v, some (.ref a), some (.ref W), x, y] ∧ Same H (hid [W] Hi) ∧ Hi W = some (.lst us) ∧ RowsAt K (hid (W :: B) Hi) us (rs.take i))
    ⟨none, none, [], rfl, same_hid_new hW, upd_same, .nil⟩ (fun i σ Hi _ h => ?_) ?_ ?_⟩
  · obtain ⟨x, y, us, _, sH, _⟩ := h
    exact same_seqT (sH.trans hid_sub) ha'
  · rintro i p σ Hi hi ⟨x, y, us, rfl, sH, hWi, hus⟩
    obtain ⟨d, ed, hd⟩ := dps_at hxs hi
    obtain ⟨r, er, hr1⟩ := hJ.at ed
    have sM := same_hid_more (B := B) (sH.trans hid_sub) hW
    have hBi : Dom (W :: B) Hi := (hB.up (sH.trans hid_sub)).cons (by rw [hWi]; exact Option.some_ne_none _)
    refine ⟨_, rfl, _, rfl, W :: B, t, v, p, d, r, rfl, hBi, term_up sM hv, dp_up sM hd, hr1, hm r (List.mem_of_getElem? er), fun z H2 s2 rz => ?_⟩
    refine ⟨_, rfl, rfl, _, rfl, ifF (decide_eq_false fun e => row_no (by rw [← e]; exact rz)) ?_⟩
    have hW2 := s2 _ _ hWi
    have hul := rows_len hus
    rw [List.length_take] at hul
    refine ⟨_, rfl, .inl ⟨rfl, _, SqL.new hW2⟩, _, rfl, W, us, z, rfl, rfl, hW2, (by show _ < 2 ^ 24; omega), some p, some z, us ++ [z], rfl, ?_, upd_same, ?_⟩
    · exact (sH.trans (hid_up s2)).trans (samex_hid (samex_upd (by simp) _))
    · have s3 : Same (hid (W :: B) H2) (hid (W :: B) (upd H2 W (.lst (us ++ [z])))) := samex_hid (samex_upd (by simp) _)
      rw [List.take_add_one, er]
      exact rows_snoc (rows_up ((hid_up s2).trans s3) hus) (row_up s3 rz)
  · rintro σ Hi ⟨x, y, us, rfl, sH, hWi, hus⟩
    rw [hlen, List.take_length] at hus
    exact ⟨_, rfl, q W us Hi (sH.trans hid_sub) hW hWi (rows_up hid_less hus)⟩
/-! ### the columns of rows -/
theorem rows_cols {G : Hp} : ∀ {vs : List V} {rs : List Row}, RowsAt K G vs rs → ∃ kvs tvs : List V, kvs.length = vs.length ∧ tvs.length = vs.length ∧ DpAll K G kvs (rs.map (·.k)) ∧ TalsAt G tvs (tlAll rs) ∧
    ∀ (i : Nat) (v : V), vs[i]? = some v → ∃ a kv uv tv, v = .ref a ∧ G a = some (.tup [kv, uv, tv]) ∧ kvs[i]? = some kv ∧ tvs[i]? = some tv
  | _, _, .nil => ⟨[], [], rfl, rfl, .nil, .nil, fun i v h => by simp at h⟩
  | _, _, .cons ⟨a, kv, uv, tv, e, h, h1, h2, h3⟩ t => by
    obtain ⟨kvs, tvs, e1, e2, e3, e4, e5⟩ := rows_cols t
    refine ⟨kv :: kvs, tv :: tvs, congrArg Nat.succ e1, congrArg Nat.succ e2, .cons h1 e3, .cons h3 e4, fun i v hv => ?_⟩
    match i, hv with
    | 0, hv => cases hv; exact ⟨a, kv, uv, tv, e, h, rfl, rfl⟩
    | i + 1, hv => exact e5 i v (by simpa using hv)
theorem range_get {α : Type} (l : List α) : (List.range l.length).filterMap (fun i => l[i]?) = l := by
  have h := range_fm (id : α → α) l l.length
  simpa using h
end
end Ut
set_option Elab.async false
set_option linter.all false
set_option maxRecDepth 100000
set_option maxHeartbeats 4000000
namespace Ut
open PySem PySem.Spec PyProof.Rows L2
section
variable {P : Program} {w : World} {K : PySem.W.Frag} {mg : Str → Option Value} {base : Heap}
theorem le_sum : ∀ (l : List Nat) (n : Nat), n ∈ l → n ≤ l.sum
  | [], _, h => by cases h
  | m :: l, n, h => by
    rw [List.sum_cons]
    rcases List.mem_cons.mp h with e | h
    · omega
    · have := le_sum l n h
      omega
theorem sc_judged_sum : FnScope ["term", "paper", "one", "other", "tally"] ["term", "paper"] (defScope S_judged_sum) := ⟨rfl, rfl, rfl, by decide +kernel, rfl, by decide +kernel, by decide +kernel⟩
theorem ok_judged_sum (T : Tx w K mg) (n : Nat) (c_has_form : Cal P w K mg base 1 "has_form" (spHasForm K)) (c_is_number : Cal P w K mg base 1 "is_number" (spIsNumber K)) (c_sum_of : Cal P w K mg base 1 "sum_of" spSumOf) (c_tally_with : Cal P w K mg base 1 "tally_with" (spTallyWith K)) (c_tallies_together : Cal P w K mg base 1 "tallies_together" (spTogether K))
    (c_put_together : Cal P w K mg base 1 "put_together" (spPut K)) (c_judged : Cal P w K mg base (3 * n + 4) "judged" (spJudged K n)) : Cal P w K mg base (3 * n + 5) "judged_sum" (spJudgedC K .sm (n + 1)) := by
  refine cal_mk T 30 30 rfl rfl sc_judged_sum (fun _ _ _ _ _ _ us hl => match us, hl with | [_, _], _ => rfl) (fun vs H Q E h => ?_) (fun cdv A outer s H vs Q E hr h => ?_)
  · obtain ⟨B, t, v, pp, p, r, rfl, _⟩ := h
    rfl
  obtain ⟨B, t, v, pp, p, r, rfl, ht, hB, hv, hp, hJ, hm, q⟩ := h
  refine ⟨_, (pss_cons (ps_if (pt_not (pt_val (pe_c c_has_form hr (by omega) (by rfl) (pa_cons (pv 1) (pa_cons pe_str (pa_cons pe_int pa_nil)))))) (pss_one (ps_ret pe_non)) pss_nil)
      (pss_cons (ps_set (i := 2) sc_judged_sum.nd rfl (Or.inl rfl) (pe_c c_judged hr (by omega) (by rfl) (pa_cons (pe_fld (pv 0) rfl) (pa_cons (pe_ix ix_tup (pv 1) pe_int (fun _ _ => rfl)) pa_nil))))
      (pss_cons (ps_set (i := 3) sc_judged_sum.nd rfl (Or.inl rfl) (pe_c c_judged hr (by omega) (by rfl) (pa_cons (pe_fld (pv 0) rfl) (pa_cons (pe_ix ix_tup (pv 1) pe_int (fun _ _ => rfl)) pa_nil))))
      (pss_cons (ps_if (PW.pt (pw_or (pt_cmpR op_isN (pv 2) pe_non (nomark _)) (pw_or (pt_cmpR op_isN (pv 3) pe_non (nomark _)) (pw_or (pt_not (pt_val (pe_c c_is_number hr (by omega) (by rfl) (pa_cons (pe_ix ix_tup (pv 2) pe_int (fun _ _ => rfl)) pa_nil)))) (pw_or1 (pt_not (pt_val (pe_c c_is_number hr (by omega) (by rfl) (pa_cons (pe_ix ix_tup (pv 3) pe_int (fun _ _ => rfl)) pa_nil))))))))) (pss_one (ps_ret pe_non)) pss_nil)
      (pss_cons (ps_set (i := 4) sc_judged_sum.nd rfl (Or.inl rfl) (pe_c c_tallies_together hr (by omega) (by rfl) (pa_cons (pe_lst (pa_cons (pe_ix ix_tup (pv 2) pe_int (fun _ _ => rfl)) (pa_cons (pe_ix ix_tup (pv 3) pe_int (fun _ _ => rfl)) (pa_cons (pe_c c_tally_with hr (by omega) (by rfl) (pa_cons (pe_lst (pa_cons pe_str (pa_cons pe_str (pa_cons pe_str pa_nil)))) pa_nil)) pa_nil)))) pa_nil)))
      (pss_one (ps_ret (pe_c c_put_together hr (by omega) (by rfl) (pa_cons (pe_lst (pa_cons (pv 3) pa_nil)) (pa_cons (pe_ix ix_tup (pv 2) pe_int (fun _ _ => rfl)) (pa_cons (pe_c c_sum_of hr (by omega) (by rfl) (pa_cons (pe_fld (pv 0) rfl) (pa_cons (pe_ix ix_tup (pv 2) pe_int (fun _ _ => rfl)) (pa_cons (pe_ix ix_tup (pv 3) pe_int (fun _ _ => rfl)) pa_nil)))) (pa_cons (pv 4) pa_nil)))))))))))), ?_⟩
  cases t with
  | sm sg m g =>
    obtain ⟨ok, a, dx, u1, u2, rfl, ha, hb1, hb2⟩ := hv
    obtain ⟨p1, r1, p2, r2, i, j, rfl, hJ1, hJ2, ek1, ek2, rfl⟩ := hJ
    have hp' := dp_up hid_sub hp
    obtain ⟨c, xs, rfl, hc, hxs⟩ := dp_tup_of hp
    obtain ⟨v0, v1, v2, rfl, d0, d1, d2⟩ := dps3_of hxs
    obtain rfl := dp_str_of d0
    have hc' := same_seqT hid_sub hc
    have hmm : talSum ([r1.tl] ++ [r2.tl] ++ [talOf [.op, .next, .sum]]) .look ≤ 100000 := hm
    rw [tal_app, tal_app, tal_one, tal_one] at hmm
    have hu1 := j_uses n m p1 r1 hJ1
    have hu2 := j_uses n g p2 r2 hJ2
    refine ⟨_, rfl, .ref c, "sum", _, "sum", 3, rfl, hp', _, rfl, iteF ?_⟩
    refine ⟨_, rfl, a, _, dx, _, _, rfl, hid_at ha, T.cls 100, T.noat 125, rfl, ?_⟩
    refine ⟨_, rfl, c, _, _, _, rfl, rfl, hc', atI_nat (j := 1) rfl, ?_⟩
    refine ⟨B, m, u1, v1, p1, r1, rfl, hB, hb1, d1, hJ1, by omega, fun y1 H1 s1 ry1 => ?_⟩
    refine ⟨_, rfl, a, _, dx, _, _, rfl, s1 _ _ (hid_at ha), T.cls 100, T.noat 126, rfl, ?_⟩
    refine ⟨_, rfl, c, _, _, _, rfl, rfl, same_seqT s1 hc', atI_nat (j := 2) rfl, ?_⟩
    refine ⟨B, g, u2, v2, p2, r2, rfl, hB.up s1, term_up (hid_up s1) hb2, dp_up (hid_up s1) d2, hJ2, by omega, fun y2 H2 s2 ry2 => ?_⟩
    obtain ⟨b1, kv1, uv1, tv1, rfl, hy1, hk1, hus1, htl1⟩ := row_up (hid_up s2) ry1
    have ry2' := ry2
    obtain ⟨b2, kv2, uv2, tv2, rfl, hy2, hk2, hus2, htl2⟩ := ry2
    rw [ek1] at hk1
    rw [ek2] at hk2
    obtain rfl := dp_int_of hk1
    obtain rfl := dp_int_of hk2
    have q1 := SqT.new (K := K) (hid_at hy1)
    have q2 := SqT.new (K := K) (hid_at hy2)
    refine ⟨_, rfl, rfl, _, rfl, iteF ?_⟩
    refine ⟨_, rfl, rfl, _, rfl, iteF ?_⟩
    refine ⟨_, rfl, b1, _, _, _, rfl, rfl, q1, atI_nat (j := 0) rfl, .int i, .int i, rfl, .int i, trivial, _, rfl, iteF ?_⟩
    refine ⟨_, rfl, b2, _, _, _, rfl, rfl, q2, atI_nat (j := 0) rfl, .int j, .int j, rfl, .int j, trivial, _, rfl, iteF ?_⟩
    refine ⟨_, rfl, b1, _, _, _, rfl, rfl, q1, atI_nat (j := 2) rfl, _, rfl, b2, _, _, _, rfl, rfl, q2, atI_nat (j := 2) rfl, ?_⟩
    refine ⟨(by show 3 ≤ sizeLine; decide), fun l1 hl1 => ?_⟩
    have n3 := same_new hl1 (.lst [.str "open", .str "next", .str "sum"])
    refine ⟨l1, ["open", "next", "sum"], talOf [.op, .next, .sum], rfl, SqL.new upd_same, cnt_sum, fun y4 H4 s4 hy4 hy4' => ⟨(by show 3 ≤ sizeLine; decide), fun l2 hl2 => ?_⟩⟩
    have n5 := same_new hl2 (.lst [tv1, tv2, .ref y4])
    have s25 := n3.trans (s4.trans n5)
    refine ⟨l2, [tv1, tv2, .ref y4], [r1.tl, r2.tl, talOf [.op, .next, .sum]], rfl, SqL.new upd_same, (by show 3 ≤ 1000000; decide), .cons (tal_up (hid_sub.trans s25) htl1) (.cons (tal_up (hid_sub.trans s25) htl2) (.cons ⟨y4, rfl, n5 _ _ hy4'⟩ .nil)), fun y5 H5 s6 hy5 hy5' => ?_⟩
    have s26 := s25.trans s6
    have q1' := same_seqT s26 q1
    have q2' := same_seqT s26 q2
    refine ⟨_, rfl, (by show 1 ≤ sizeLine; decide), fun l3 hl3 => ?_⟩
    have n7 := same_new hl3 (.lst [.ref b2])
    have s27 := s26.trans n7
    refine ⟨_, rfl, b1, _, _, _, rfl, rfl, same_seqT s27 q1, atI_nat (j := 1) rfl, ?_⟩
    refine ⟨_, rfl, a, _, dx, _, _, rfl, s27 _ _ (s2 _ _ (s1 _ _ (hid_at ha))), T.cls 100, T.noat 124, rfl, ?_⟩
    refine ⟨_, rfl, b1, _, _, _, rfl, rfl, same_seqT s27 q1, atI_nat (j := 0) rfl, ?_⟩
    refine ⟨_, rfl, b2, _, _, _, rfl, rfl, same_seqT s27 q2, atI_nat (j := 0) rfl, ?_⟩
    refine ⟨sg, i, j, rfl, ok, _, rfl, ?_⟩
    have s07 := s1.trans (s2.trans s27)
    refine ⟨B, l3, [.ref b2], uv1, .int (sumOf sg i j), .ref y5, r1.us, .int (sumOf sg i j), _, [r2], rfl, hB.up s07, upd_same, .cons (row_up (hid_up s27) ry2') .nil, us_up (hid_up s27) hus1, .int _, tal_up (hid_up n7) (tal_got (hB.up (s1.trans (s2.trans s25))) hy5 hy5'), ?_, fun v' H' s8 rw' => q v' H' (s07.trans s8) rw'⟩
    simp only [usAll, List.flatMap_cons, List.flatMap_nil, List.append_nil]
    omega
  | _ => cases ht
theorem sc_judged_choice : FnScope ["term", "paper", "asked", "part", "chosen", "tally"] ["term", "paper"] (defScope S_judged_choice) := ⟨rfl, rfl, rfl, by decide +kernel, rfl, by decide +kernel, by decide +kernel⟩
theorem ok_judged_choice (T : Tx w K mg) (n : Nat) (c_has_form : Cal P w K mg base 1 "has_form" (spHasForm K)) (c_is_number : Cal P w K mg base 1 "is_number" (spIsNumber K)) (c_tally_with : Cal P w K mg base 1 "tally_with" (spTallyWith K)) (c_tallies_together : Cal P w K mg base 1 "tallies_together" (spTogether K))
    (c_put_together : Cal P w K mg base 1 "put_together" (spPut K)) (c_judged : Cal P w K mg base (3 * n + 4) "judged" (spJudged K n)) : Cal P w K mg base (3 * n + 5) "judged_choice" (spJudgedC K .ch (n + 1)) := by
  refine cal_mk T 31 31 rfl rfl sc_judged_choice (fun _ _ _ _ _ _ us hl => match us, hl with | [_, _], _ => rfl) (fun vs H Q E h => ?_) (fun cdv A outer s H vs Q E hr h => ?_)
  · obtain ⟨B, t, v, pp, p, r, rfl, _⟩ := h
    rfl
  obtain ⟨B, t, v, pp, p, r, rfl, ht, hB, hv, hp, hJ, hm, q⟩ := h
  refine ⟨_, (pss_cons (ps_if (pt_not (pt_val (pe_c c_has_form hr (by omega) (by rfl) (pa_cons (pv 1) (pa_cons pe_str (pa_cons pe_int pa_nil)))))) (pss_one (ps_ret pe_non)) pss_nil)
      (pss_cons (ps_set (i := 2) sc_judged_choice.nd rfl (Or.inl rfl) (pe_c c_judged hr (by omega) (by rfl) (pa_cons (pe_fld (pv 0) rfl) (pa_cons (pe_ix ix_tup (pv 1) pe_int (fun _ _ => rfl)) pa_nil))))
      (pss_cons (ps_if (PW.pt (pw_or (pt_cmpR op_isN (pv 2) pe_non (nomark _)) (pw_or1 (pt_not (pt_val (pe_c c_is_number hr (by omega) (by rfl) (pa_cons (pe_ix ix_tup (pv 2) pe_int (fun _ _ => rfl)) pa_nil))))))) (pss_one (ps_ret pe_non)) pss_nil)
      (pss_cons (ps_set (i := 3) sc_judged_choice.nd rfl (Or.inl rfl) (pe_ifExp (pt_cmpR op_eq (pe_ix ix_tup (pv 2) pe_int (fun _ _ => rfl)) pe_int (nomark _)) (pe_fld (pv 0) rfl) (pe_fld (pv 0) rfl)))
      (pss_cons (ps_set (i := 4) sc_judged_choice.nd rfl (Or.inl rfl) (pe_c c_judged hr (by omega) (by rfl) (pa_cons (pv 3) (pa_cons (pe_ix ix_tup (pv 1) pe_int (fun _ _ => rfl)) pa_nil))))
      (pss_cons (ps_if (pt_cmpR op_isN (pv 4) pe_non (nomark _)) (pss_one (ps_ret pe_non)) pss_nil)
      (pss_cons (ps_set (i := 5) sc_judged_choice.nd rfl (Or.inl rfl) (pe_c c_tallies_together hr (by omega) (by rfl) (pa_cons (pe_lst (pa_cons (pe_ix ix_tup (pv 2) pe_int (fun _ _ => rfl)) (pa_cons (pe_ix ix_tup (pv 4) pe_int (fun _ _ => rfl)) (pa_cons (pe_c c_tally_with hr (by omega) (by rfl) (pa_cons (pe_lst (pa_cons pe_str (pa_cons pe_str pa_nil))) pa_nil)) pa_nil)))) pa_nil)))
      (pss_one (ps_ret (pe_c c_put_together hr (by omega) (by rfl) (pa_cons (pe_lst (pa_cons (pv 4) pa_nil)) (pa_cons (pe_ix ix_tup (pv 2) pe_int (fun _ _ => rfl)) (pa_cons (pe_ix ix_tup (pv 4) pe_int (fun _ _ => rfl)) (pa_cons (pv 5) pa_nil)))))))))))))), ?_⟩
  cases t with
  | ch m g o =>
    obtain ⟨a, dx, u1, u2, u3, rfl, ha, hb1, hb2, hb3⟩ := hv
    obtain ⟨p1, r1, p2, r2, i, rfl, hJ1, ek1, hJ2, rfl⟩ := hJ
    have hp' := dp_up hid_sub hp
    obtain ⟨c, xs, rfl, hc, hxs⟩ := dp_tup_of hp
    obtain ⟨v0, v1, v2, rfl, d0, d1, d2⟩ := dps3_of hxs
    obtain rfl := dp_str_of d0
    have hc' := same_seqT hid_sub hc
    have hmm : talSum ([r1.tl] ++ [r2.tl] ++ [talOf [.op, .choose]]) .look ≤ 100000 := hm
    rw [tal_app, tal_app, tal_one, tal_one] at hmm
    have hu1 := j_uses n m p1 r1 hJ1
    have hu2 := j_uses n _ p2 r2 hJ2
    refine ⟨_, rfl, .ref c, "choice", _, "choice", 3, rfl, hp', _, rfl, iteF ?_⟩
    refine ⟨_, rfl, a, _, dx, _, _, rfl, hid_at ha, T.cls 102, T.noat 127, rfl, ?_⟩
    refine ⟨_, rfl, c, _, _, _, rfl, rfl, hc', atI_nat (j := 1) rfl, ?_⟩
    refine ⟨B, m, u1, v1, p1, r1, rfl, hB, hb1, d1, hJ1, by omega, fun y1 H1 s1 ry1 => ?_⟩
    obtain ⟨b1, kv1, uv1, tv1, rfl, hy1, hk1, hus1, htl1⟩ := ry1
    rw [ek1] at hk1
    obtain rfl := dp_int_of hk1
    have q1 := SqT.new (K := K) (hid_at hy1)
    refine ⟨_, rfl, rfl, _, rfl, iteF ?_⟩
    refine ⟨_, rfl, b1, _, _, _, rfl, rfl, q1, atI_nat (j := 0) rfl, .int i, .int i, rfl, .int i, trivial, _, rfl, iteF ?_⟩
    refine ⟨_, rfl, b1, _, _, _, rfl, rfl, q1, atI_nat (j := 0) rfl, rfl, _, rfl, ?_⟩
    refine ite2 (fun c0 => ?_) (fun c0 => ?_)
    · have e0 : i = 0 := V.int.inj (of_decide_eq_true c0)
      rw [if_pos e0] at hJ2
      refine ⟨_, rfl, a, _, dx, _, _, rfl, s1 _ _ (hid_at ha), T.cls 102, T.noat 128, rfl, ?_⟩
      obtain ⟨G, hG, hJG⟩ : ∃ G, TermAt K (hid B H1) G u2 ∧ J n G p2 r2 := ⟨g, term_up (hid_up s1) hb2, hJ2⟩
      obtain ⟨U, eU⟩ : ∃ U, U = u2 := ⟨_, rfl⟩
      rw [← eU] at hG ⊢
      clear hb2 hb3 ha hJ2 c0
      refine ⟨_, rfl, _, rfl, c, _, _, _, rfl, rfl, same_seqT s1 hc', atI_nat (j := 2) rfl, ?_⟩
      refine ⟨B, G, U, v2, p2, r2, rfl, hB.up s1, hG, dp_up (hid_up s1) d2, hJG, by omega, fun y2 H2 s2 ry2 => ?_⟩
      have ry2' := ry2
      obtain ⟨b2, kv2, uv2, tv2, rfl, hy2, hk2, hus2, htl2⟩ := ry2
      have q2 := SqT.new (K := K) (hid_at hy2)
      have q1b := same_seqT s2 q1
      refine ⟨_, rfl, rfl, _, rfl, iteF ?_⟩
      refine ⟨_, rfl, b1, _, _, _, rfl, rfl, q1b, atI_nat (j := 2) rfl, _, rfl, b2, _, _, _, rfl, rfl, q2, atI_nat (j := 2) rfl, ?_⟩
      refine ⟨(by show 2 ≤ sizeLine; decide), fun l1 hl1 => ?_⟩
      have n3 := same_new hl1 (.lst [.str "open", .str "choose"])
      refine ⟨l1, ["open", "choose"], talOf [.op, .choose], rfl, SqL.new upd_same, cnt_choose, fun y4 H4 s4 hy4 hy4' => ⟨(by show 3 ≤ sizeLine; decide), fun l2 hl2 => ?_⟩⟩
      have n5 := same_new hl2 (.lst [tv1, tv2, .ref y4])
      have s25 := n3.trans (s4.trans n5)
      refine ⟨l2, [tv1, tv2, .ref y4], [r1.tl, r2.tl, talOf [.op, .choose]], rfl, SqL.new upd_same, (by show 3 ≤ 1000000; decide), .cons (tal_up (hid_sub.trans (s2.trans s25)) htl1) (.cons (tal_up (hid_sub.trans s25) htl2) (.cons ⟨y4, rfl, n5 _ _ hy4'⟩ .nil)), fun y5 H5 s6 hy5 hy5' => ?_⟩
      have s26 := s25.trans s6
      refine ⟨_, rfl, (by show 1 ≤ sizeLine; decide), fun l3 hl3 => ?_⟩
      have n7 := same_new hl3 (.lst [.ref b2])
      have s27 := s26.trans n7
      refine ⟨_, rfl, b1, _, _, _, rfl, rfl, same_seqT s27 q1b, atI_nat (j := 1) rfl, ?_⟩
      refine ⟨_, rfl, b2, _, _, _, rfl, rfl, same_seqT s27 q2, atI_nat (j := 0) rfl, _, rfl, ?_⟩
      have s07 := s1.trans (s2.trans s27)
      refine ⟨B, l3, [.ref b2], uv1, kv2, .ref y5, r1.us, r2.k, _, [r2], rfl, hB.up s07, upd_same, .cons (row_up (hid_up s27) ry2') .nil, us_up (hid_up (s2.trans s27)) hus1, dp_up (hid_up s27) hk2, tal_up (hid_up n7) (tal_got (hB.up (s1.trans (s2.trans s25))) hy5 hy5'), ?_, fun v' H' s8 rw' => q v' H' (s07.trans s8) rw'⟩
      simp only [usAll, List.flatMap_cons, List.flatMap_nil, List.append_nil]
      omega
    · have e0 : ¬ i = 0 := fun e => c0 (decide_eq_true (by rw [e]))
      rw [if_neg e0] at hJ2
      refine ⟨_, rfl, a, _, dx, _, _, rfl, s1 _ _ (hid_at ha), T.cls 102, T.noat 129, rfl, ?_⟩
      obtain ⟨G, hG, hJG⟩ : ∃ G, TermAt K (hid B H1) G u3 ∧ J n G p2 r2 := ⟨o, term_up (hid_up s1) hb3, hJ2⟩
      obtain ⟨U, eU⟩ : ∃ U, U = u3 := ⟨_, rfl⟩
      rw [← eU] at hG ⊢
      clear hb2 hb3 ha hJ2 c0
      refine ⟨_, rfl, _, rfl, c, _, _, _, rfl, rfl, same_seqT s1 hc', atI_nat (j := 2) rfl, ?_⟩
      refine ⟨B, G, U, v2, p2, r2, rfl, hB.up s1, hG, dp_up (hid_up s1) d2, hJG, by omega, fun y2 H2 s2 ry2 => ?_⟩
      have ry2' := ry2
      obtain ⟨b2, kv2, uv2, tv2, rfl, hy2, hk2, hus2, htl2⟩ := ry2
      have q2 := SqT.new (K := K) (hid_at hy2)
      have q1b := same_seqT s2 q1
      refine ⟨_, rfl, rfl, _, rfl, iteF ?_⟩
      refine ⟨_, rfl, b1, _, _, _, rfl, rfl, q1b, atI_nat (j := 2) rfl, _, rfl, b2, _, _, _, rfl, rfl, q2, atI_nat (j := 2) rfl, ?_⟩
      refine ⟨(by show 2 ≤ sizeLine; decide), fun l1 hl1 => ?_⟩
      have n3 := same_new hl1 (.lst [.str "open", .str "choose"])
      refine ⟨l1, ["open", "choose"], talOf [.op, .choose], rfl, SqL.new upd_same, cnt_choose, fun y4 H4 s4 hy4 hy4' => ⟨(by show 3 ≤ sizeLine; decide), fun l2 hl2 => ?_⟩⟩
      have n5 := same_new hl2 (.lst [tv1, tv2, .ref y4])
      have s25 := n3.trans (s4.trans n5)
      refine ⟨l2, [tv1, tv2, .ref y4], [r1.tl, r2.tl, talOf [.op, .choose]], rfl, SqL.new upd_same, (by show 3 ≤ 1000000; decide), .cons (tal_up (hid_sub.trans (s2.trans s25)) htl1) (.cons (tal_up (hid_sub.trans s25) htl2) (.cons ⟨y4, rfl, n5 _ _ hy4'⟩ .nil)), fun y5 H5 s6 hy5 hy5' => ?_⟩
      have s26 := s25.trans s6
      refine ⟨_, rfl, (by show 1 ≤ sizeLine; decide), fun l3 hl3 => ?_⟩
      have n7 := same_new hl3 (.lst [.ref b2])
      have s27 := s26.trans n7
      refine ⟨_, rfl, b1, _, _, _, rfl, rfl, same_seqT s27 q1b, atI_nat (j := 1) rfl, ?_⟩
      refine ⟨_, rfl, b2, _, _, _, rfl, rfl, same_seqT s27 q2, atI_nat (j := 0) rfl, _, rfl, ?_⟩
      have s07 := s1.trans (s2.trans s27)
      refine ⟨B, l3, [.ref b2], uv1, kv2, .ref y5, r1.us, r2.k, _, [r2], rfl, hB.up s07, upd_same, .cons (row_up (hid_up s27) ry2') .nil, us_up (hid_up (s2.trans s27)) hus1, dp_up (hid_up s27) hk2, tal_up (hid_up n7) (tal_got (hB.up (s1.trans (s2.trans s25))) hy5 hy5'), ?_, fun v' H' s8 rw' => q v' H' (s07.trans s8) rw'⟩
      simp only [usAll, List.flatMap_cons, List.flatMap_nil, List.append_nil]
      omega
  | _ => cases ht
theorem sc_judged_give : FnScope ["term", "paper", "head", "given", "tally", "one"] ["term", "paper"] (defScope S_judged_give) := ⟨rfl, rfl, rfl, by decide +kernel, rfl, by decide +kernel, by decide +kernel⟩
theorem ok_judged_give (T : Tx w K mg) (n : Nat) (c_has_form : Cal P w K mg base 1 "has_form" (spHasForm K)) (c_tally_with : Cal P w K mg base 1 "tally_with" (spTallyWith K)) (c_tallies_together : Cal P w K mg base 1 "tallies_together" (spTogether K))
    (c_put_together : Cal P w K mg base 1 "put_together" (spPut K)) (c_judged : Cal P w K mg base (3 * n + 4) "judged" (spJudged K n)) (c_judged_each : Cal P w K mg base (3 * n + 5) "judged_each" (spEach K n)) : Cal P w K mg base (3 * n + 6) "judged_give" (spJudgedC K .gv (n + 1)) := by
  refine cal_mk T 29 29 rfl rfl sc_judged_give (fun _ _ _ _ _ _ us hl => match us, hl with | [_, _], _ => rfl) (fun vs H Q E h => ?_) (fun cdv A outer s H vs Q E hr h => ?_)
  · obtain ⟨B, t, v, pp, p, r, rfl, _⟩ := h
    rfl
  obtain ⟨B, t, v, pp, p, r, rfl, ht, hB, hv, hp, hJ, hm, q⟩ := h
  refine ⟨_, (pss_cons (ps_if (pt_not (pt_val (pe_c c_has_form hr (by omega) (by rfl) (pa_cons (pv 1) (pa_cons pe_str (pa_cons pe_int pa_nil)))))) (pss_one (ps_ret pe_non)) pss_nil)
      (pss_cons (ps_set (i := 2) sc_judged_give.nd rfl (Or.inl rfl) (pe_c c_judged hr (by omega) (by rfl) (pa_cons (pe_fld (pv 0) rfl) (pa_cons (pe_ix ix_tup (pv 1) pe_int (fun _ _ => rfl)) pa_nil))))
      (pss_cons (ps_set (i := 3) sc_judged_give.nd rfl (Or.inl rfl) (pe_c c_judged_each hr (by omega) (by rfl) (pa_cons (pe_fld (pv 0) rfl) (pa_cons (pe_ix ix_tup (pv 1) pe_int (fun _ _ => rfl)) pa_nil))))
      (pss_cons (ps_if (PW.pt (pw_or (pt_cmpR op_isN (pv 2) pe_non (nomark _)) (pw_or (pt_cmpR op_isN (pv 3) pe_non (nomark _)) (pw_or1 (pt_not (pt_val (pe_isi (pe_ix ix_tup (pv 2) pe_int (fun _ _ => rfl)) (pe_bltn (v := .ty "tuple") (by rfl) (T.free 77 rfl) (by decide +kernel) rfl) (by rfl) (T.free 69 rfl)))))))) (pss_one (ps_ret pe_non)) pss_nil)
      (pss_cons (ps_if (pt_cmpR (op_neD hr.units) (pe_ix ix_tup (pe_ix ix_tup (pv 2) pe_int (fun _ _ => rfl)) pe_int (fun _ _ => rfl)) (pe_callTy call_tuple_of (by rfl) (T.free 77 rfl) (by decide +kernel) (pa_cons (pe_lc (own := [("one", 5)]) (by rfl) sc_judged_give.nd (pi_list (pv 3)) (blkOk_by (own := [("one", 5)]) (N := ["term", "paper", "head", "given", "tally", "one"]) (sc := defScope S_judged_give) (by decide +kernel)) (fun _ _ _ _ _ => (pg_name (i := 5) sc_judged_give.nd rfl (by first | exact Or.inl rfl | exact Or.inr rfl))) (fun _ _ _ _ _ => pts_nil) (fun _ _ _ _ _ => (pe_ix (show IxR _ (rIxT K) from ix_tup) (pv 5) pe_int (fun _ _ => rfl)))) pa_nil)) (nomark _)) (pss_one (ps_ret pe_non)) pss_nil)
      (pss_cons (ps_set (i := 4) sc_judged_give.nd rfl (Or.inl rfl) (pe_c c_tallies_together hr (by omega) (by rfl) (pa_cons (pe_op op_cat (pe_op op_cat (pe_lst (pa_cons (pe_ix ix_tup (pv 2) pe_int (fun _ _ => rfl)) pa_nil)) (pe_lc (own := [("one", 5)]) (by rfl) sc_judged_give.nd (pi_list (pv 3)) (blkOk_by (own := [("one", 5)]) (N := ["term", "paper", "head", "given", "tally", "one"]) (sc := defScope S_judged_give) (by decide +kernel)) (fun _ _ _ _ _ => (pg_name (i := 5) sc_judged_give.nd rfl (by first | exact Or.inl rfl | exact Or.inr rfl))) (fun _ _ _ _ _ => pts_nil) (fun _ _ _ _ _ => (pe_ix (show IxR _ (rIxT K) from ix_tup) (pv 5) pe_int (fun _ _ => rfl))))) (pe_lst (pa_cons (pe_c c_tally_with hr (by omega) (by rfl) (pa_cons (pe_lst (pa_cons pe_str pa_nil)) pa_nil)) pa_nil))) pa_nil)))
      (pss_one (ps_ret (pe_c c_put_together hr (by omega) (by rfl) (pa_cons (pv 3) (pa_cons (pe_ix ix_tup (pv 2) pe_int (fun _ _ => rfl)) (pa_cons (pe_ix ix_tup (pe_ix ix_tup (pv 2) pe_int (fun _ _ => rfl)) pe_int (fun _ _ => rfl)) (pa_cons (pv 4) pa_nil))))))))))))), ?_⟩
  cases t with
  | gv m g =>
    have hv0 := hv
    obtain ⟨a, dx, u1, u2, rfl, ha, hb1, hb2⟩ := hv
    obtain ⟨p1, r1, ps, rs, k, rfl, hJ1, hJE, ek, hkd, hrl, rfl⟩ := hJ
    have hp' := dp_up hid_sub hp
    obtain ⟨c, xs, rfl, hc, hxs⟩ := dp_tup_of hp
    obtain ⟨v0, v1, v2, rfl, d0, d1, d2⟩ := dps3_of hxs
    obtain rfl := dp_str_of d0
    have hc' := same_seqT hid_sub hc
    have hmm : talSum ([r1.tl] ++ tlAll rs ++ [talOf [.op]]) .look ≤ 100000 := hm
    rw [tal_app, tal_app, tal_one, tlAll_sum] at hmm
    have hu1 := j_uses n m p1 r1 hJ1
    have hu2 := usAll_len (fun q => q.tl .look) rs fun q hq => by obtain ⟨p', hp'⟩ := je_mem hJE q hq; exact j_uses n g p' q hp'
    have hea : ∀ q ∈ rs, q.tl .look ≤ 100000 := fun q hq => by
      have e : q.tl .look ≤ (rs.map fun q => q.tl .look).sum := le_sum _ _ (List.mem_map.mpr ⟨q, hq, rfl⟩)
      omega
    refine ⟨_, rfl, .ref c, "gives", _, "gives", 3, rfl, hp', _, rfl, iteF ?_⟩
    refine ⟨_, rfl, a, _, dx, _, _, rfl, hid_at ha, T.cls 98, T.noat 122, rfl, ?_⟩
    refine ⟨_, rfl, c, _, _, _, rfl, rfl, hc', atI_nat (j := 1) rfl, ?_⟩
    refine ⟨B, m, u1, v1, p1, r1, rfl, hB, hb1, d1, hJ1, by omega, fun y1 H1 s1 ry1 => ?_⟩
    refine ⟨_, rfl, a, _, dx, _, _, rfl, s1 _ _ (hid_at ha), T.cls 98, T.noat 123, rfl, ?_⟩
    refine ⟨_, rfl, c, _, _, _, rfl, rfl, same_seqT s1 hc', atI_nat (j := 2) rfl, ?_⟩
    refine ⟨B, g, u2, v2, ps, rs, rfl, hB.up s1, term_up (hid_up s1) hb2, dp_up (hid_up s1) d2, hJE, hea, by omega, fun y2 us H2 s2 hy2n hy2 hus => ?_⟩
    obtain ⟨b1, kv1, uv1, tv1, rfl, hy1, hk1, hus1, htl1⟩ := row_up (hid_up s2) ry1
    have q1 := SqT.new (K := K) (hid_at hy1)
    rw [ek] at hk1
    obtain ⟨k1, kxs, rfl, hk1a, hkxs⟩ := dp_tup_of hk1
    obtain ⟨k2, k3, k4, rfl, e0, e1, e2⟩ := dps3_of hkxs
    have hk1b := same_seqT hid_sub hk1a
    obtain ⟨kvs, tvs, len1, len2, dks, tls, cols⟩ := rows_cols hus
    have lus := rows_len hus
    refine ⟨_, rfl, rfl, _, rfl, iteF ?_⟩
    refine ⟨_, rfl, rfl, _, rfl, iteF ?_⟩
    refine ⟨_, rfl, b1, _, _, _, rfl, rfl, q1, atI_nat (j := 0) rfl, true, isi_tup hk1b k_tuple_tuple, _, rfl, iteF ?_⟩
    refine ⟨_, rfl, b1, _, _, _, rfl, rfl, q1, atI_nat (j := 0) rfl, k1, _, _, _, rfl, rfl, hk1b, atI_nat (j := 1) rfl, ?_⟩
    refine ⟨_, rfl, y2, rfl, ⟨_, SqL.new hy2⟩, fun D hD => ?_⟩
    refine lc_gen (walk_list (K := K) (a := y2) (xs := us)) (fun i => kvs[i]?) (fun acc => (same_new hD _).seq (SqL.new hy2)) (by show us.length ≤ 2 ^ 24; omega) ?_ ?_
    · rintro i z acc H' N hi la ⟨rfl, hz⟩ n1 n2
      obtain ⟨za, zk, zu, zt, rfl, hza, ezk, ezt⟩ := cols i z hz
      refine ⟨rfl, yes_turn ⟨_, rfl, za, _, _, _, rfl, rfl, SqT.new (same_new hD _ _ _ (hid_at hza)), atI_nat (j := 0) rfl, acc, upd_same, la, ?_⟩⟩
      rw [upd_lst]
      exact n2 _ ezk
    rw [← len1, range_get]
    have n3 := same_new hD (.lst kvs)
    refine ⟨D, kvs, rfl, .inl ⟨SqL.new upd_same, fun pt hpt => ?_⟩⟩
    have n4 := same_new hpt (.tup kvs)
    have s24 := n3.trans n4
    refine ⟨tp (rs.map fun z : Row => z.k), tp (rs.map fun z : Row => z.k), dp_up (hid_sub.trans s24) e1, dp_newT upd_same (dps_up (hid_sub.trans s24) dks), kds_shaped (fun d hd => ?_), kds_shaped (fun d hd => ?_), _, rfl, ?_⟩
    · obtain ⟨z, hz, rfl⟩ := List.mem_map.mp hd
      exact hkd z hz
    · obtain ⟨z, hz, rfl⟩ := List.mem_map.mp hd
      exact hkd z hz
    rw [kds_eqv (fun d hd => by obtain ⟨z, hz, rfl⟩ := List.mem_map.mp hd; exact hkd z hz)]
    refine iteF ?_
    refine ⟨_, rfl, b1, _, _, _, rfl, rfl, same_seqT s24 q1, atI_nat (j := 2) rfl, (by show 1 ≤ sizeLine; decide), fun L1 hL1 => ?_⟩
    have n5 := same_new hL1 (.lst [tv1])
    have s25 := s24.trans n5
    have hy25 := s25 _ _ hy2
    refine ⟨_, rfl, y2, rfl, ⟨_, SqL.new hy25⟩, fun D2 hD2 => ?_⟩
    refine lc_gen (walk_list (K := K) (a := y2) (xs := us)) (fun i => tvs[i]?) (fun acc => (same_new hD2 _).seq (SqL.new hy25)) (by show us.length ≤ 2 ^ 24; omega) ?_ ?_
    · rintro i z acc H' N hi la ⟨rfl, hz⟩ n1 n2
      obtain ⟨za, zk, zu, zt, rfl, hza, ezk, ezt⟩ := cols i z hz
      refine ⟨rfl, yes_turn ⟨_, rfl, za, _, _, _, rfl, rfl, SqT.new (same_new hD2 _ _ _ (s25 _ _ (hid_at hza))), atI_nat (j := 2) rfl, acc, upd_same, la, ?_⟩⟩
      rw [upd_lst]
      exact n2 _ ezt
    rw [← len2, range_get]
    have n6 := same_new hD2 (.lst tvs)
    have ltv : tvs.length = rs.length := by rw [len2, lus]
    refine ⟨L1, D2, [tv1], tvs, rfl, rfl, n6 _ _ upd_same, upd_same, (by show 1 + tvs.length ≤ 2 ^ 24; omega), fun p6 hp6 => ?_⟩
    have n7 := same_new hp6 (.lst ([tv1] ++ tvs))
    refine ⟨(by show 1 ≤ sizeLine; decide), fun l7 hl7 => ?_⟩
    have n8 := same_new hl7 (.lst [.str "open"])
    refine ⟨l7, ["open"], talOf [.op], rfl, SqL.new upd_same, cnt_open, fun y8 H9 s9 hy8 hy8' => ⟨(by show 1 ≤ sizeLine; decide), fun l9 hl9 => ?_⟩⟩
    have n10 := same_new hl9 (.lst [.ref y8])
    have s7 := n8.trans (s9.trans n10)
    refine ⟨p6, l9, [tv1] ++ tvs, [.ref y8], rfl, rfl, s7 _ _ upd_same, upd_same, (by show ([tv1] ++ tvs).length + 1 ≤ 2 ^ 24; rw [List.length_append]; show 1 + tvs.length + 1 ≤ 2 ^ 24; omega), fun p10 hp10 => ?_⟩
    have n11 := same_new hp10 (.lst ([tv1] ++ tvs ++ [.ref y8]))
    have s211 := s25.trans (n6.trans (n7.trans (s7.trans n11)))
    have tA := tals_app (tals_app (tals_up (hid_sub.trans s211) (.cons htl1 .nil)) (tals_up (hid_sub.trans s211) tls)) (.cons (f := talOf [.op]) ⟨y8, rfl, n11 _ _ (n10 _ _ hy8')⟩ .nil)
    refine ⟨p10, [tv1] ++ tvs ++ [.ref y8], [r1.tl] ++ tlAll rs ++ [talOf [.op]], rfl, SqL.new upd_same, (by rw [List.length_append, List.length_append]; show 1 + tvs.length + 1 ≤ 1000000; omega), tA, fun y11 H12 s12 hy11 hy11' => ?_⟩
    have s212 := s211.trans s12
    have s02 := s1.trans s2
    have s012 := s02.trans s212
    have tg := tal_got (hB.up (s02.trans s211)) hy11 hy11'
    refine ⟨_, rfl, _, rfl, b1, _, _, _, rfl, rfl, same_seqT s212 q1, atI_nat (j := 1) rfl, ?_⟩
    refine ⟨_, rfl, b1, _, _, _, rfl, rfl, same_seqT s212 q1, atI_nat (j := 0) rfl, k1, _, _, _, rfl, rfl, same_seqT s212 hk1b, atI_nat (j := 2) rfl, _, rfl, ?_⟩
    refine ⟨B, y2, us, uv1, k4, .ref y11, r1.us, k, _, rs, rfl, hB.up s012, s212 _ _ hy2, rows_up (hid_up s212) hus, us_up (hid_up s212) hus1, dp_up (hid_up s212) e2, tg, by omega, fun v' H' s13 rw' => q v' H' (s012.trans s13) rw'⟩
  | _ => cases ht
theorem sc_judged_again : FnScope ["term", "paper", "body", "again", "tally", "one"] ["term", "paper"] (defScope S_judged_again) := ⟨rfl, rfl, rfl, by decide +kernel, rfl, by decide +kernel, by decide +kernel⟩
theorem ok_judged_again (T : Tx w K mg) (n : Nat) (c_has_form : Cal P w K mg base 1 "has_form" (spHasForm K)) (c_kinds_used : Cal P w K mg base 1 "kinds_used" (spKindsUsed K)) (c_uses_but : Cal P w K mg base 1 "uses_but" (spUsesBut K)) (c_tally_with : Cal P w K mg base 1 "tally_with" (spTallyWith K)) (c_tallies_together : Cal P w K mg base 1 "tallies_together" (spTogether K))
    (c_put_together : Cal P w K mg base 1 "put_together" (spPut K)) (c_judged : Cal P w K mg base (3 * n + 4) "judged" (spJudged K n)) (c_judged_each : Cal P w K mg base (3 * n + 5) "judged_each" (spEach K n)) : Cal P w K mg base (3 * n + 6) "judged_again" (spJudgedC K .ag (n + 1)) := by
  refine cal_mk T 32 32 rfl rfl sc_judged_again (fun _ _ _ _ _ _ us hl => match us, hl with | [_, _], _ => rfl) (fun vs H Q E h => ?_) (fun cdv A outer s H vs Q E hr h => ?_)
  · obtain ⟨B, t, v, pp, p, r, rfl, _⟩ := h
    rfl
  obtain ⟨B, t, v, pp, p, r, rfl, ht, hB, hv, hp, hJ, hm, q⟩ := h
  refine ⟨_, (pss_cons (ps_if (pt_not (pt_val (pe_c c_has_form hr (by omega) (by rfl) (pa_cons (pv 1) (pa_cons pe_str (pa_cons pe_int pa_nil)))))) (pss_one (ps_ret pe_non)) pss_nil)
      (pss_cons (ps_set (i := 2) sc_judged_again.nd rfl (Or.inl rfl) (pe_c c_judged hr (by omega) (by rfl) (pa_cons (pe_fld (pv 0) rfl) (pa_cons (pe_ix ix_tup (pv 1) pe_int (fun _ _ => rfl)) pa_nil))))
      (pss_cons (ps_set (i := 3) sc_judged_again.nd rfl (Or.inl rfl) (pe_c c_judged_each hr (by omega) (by rfl) (pa_cons (pv 0) (pa_cons (pe_ix ix_tup (pv 1) pe_int (fun _ _ => rfl)) pa_nil))))
      (pss_cons (ps_if (PW.pt (pw_or (pt_cmpR op_isN (pv 2) pe_non (nomark _)) (pw_or1 (pt_cmpR op_isN (pv 3) pe_non (nomark _))))) (pss_one (ps_ret pe_non)) pss_nil)
      (pss_cons (ps_if (pt_cmpR (op_neD hr.units) (pe_c c_kinds_used hr (by omega) (by rfl) (pa_cons (pe_ix ix_tup (pv 2) pe_int (fun _ _ => rfl)) (pa_cons (pe_fld (pv 0) rfl) pa_nil))) (pe_callTy call_tuple_of (by rfl) (T.free 77 rfl) (by decide +kernel) (pa_cons (pe_lc (own := [("one", 5)]) (by rfl) sc_judged_again.nd (pi_list (pv 3)) (blkOk_by (own := [("one", 5)]) (N := ["term", "paper", "body", "again", "tally", "one"]) (sc := defScope S_judged_again) (by decide +kernel)) (fun _ _ _ _ _ => (pg_name (i := 5) sc_judged_again.nd rfl (by first | exact Or.inl rfl | exact Or.inr rfl))) (fun _ _ _ _ _ => pts_nil) (fun _ _ _ _ _ => (pe_ix (show IxR _ (rIxT K) from ix_tup) (pv 5) pe_int (fun _ _ => rfl)))) pa_nil)) (nomark _)) (pss_one (ps_ret pe_non)) pss_nil)
      (pss_cons (ps_set (i := 4) sc_judged_again.nd rfl (Or.inl rfl) (pe_c c_tallies_together hr (by omega) (by rfl) (pa_cons (pe_op op_cat (pe_op op_cat (pe_lst (pa_cons (pe_ix ix_tup (pv 2) pe_int (fun _ _ => rfl)) pa_nil)) (pe_lc (own := [("one", 5)]) (by rfl) sc_judged_again.nd (pi_list (pv 3)) (blkOk_by (own := [("one", 5)]) (N := ["term", "paper", "body", "again", "tally", "one"]) (sc := defScope S_judged_again) (by decide +kernel)) (fun _ _ _ _ _ => (pg_name (i := 5) sc_judged_again.nd rfl (by first | exact Or.inl rfl | exact Or.inr rfl))) (fun _ _ _ _ _ => pts_nil) (fun _ _ _ _ _ => (pe_ix (show IxR _ (rIxT K) from ix_tup) (pv 5) pe_int (fun _ _ => rfl))))) (pe_lst (pa_cons (pe_c c_tally_with hr (by omega) (by rfl) (pa_cons (pe_lst (pa_cons pe_str pa_nil)) pa_nil)) pa_nil))) pa_nil)))
      (pss_one (ps_ret (pe_c c_put_together hr (by omega) (by rfl) (pa_cons (pv 3) (pa_cons (pe_c c_uses_but hr (by omega) (by rfl) (pa_cons (pe_ix ix_tup (pv 2) pe_int (fun _ _ => rfl)) (pa_cons (pe_fld (pv 0) rfl) pa_nil))) (pa_cons (pe_ix ix_tup (pv 2) pe_int (fun _ _ => rfl)) (pa_cons (pv 4) pa_nil))))))))))))), ?_⟩
  cases t with
  | ag x g =>
    have hv0 := hv
    obtain ⟨ok, a, dx, u1, rfl, ha, hb1⟩ := hv
    obtain ⟨p1, r1, ps, rs, rfl, hJ1, hJE, ek, hkd, hrl, rfl⟩ := hJ
    have hp' := dp_up hid_sub hp
    obtain ⟨c, xs, rfl, hc, hxs⟩ := dp_tup_of hp
    obtain ⟨v0, v1, v2, rfl, d0, d1, d2⟩ := dps3_of hxs
    obtain rfl := dp_str_of d0
    have hc' := same_seqT hid_sub hc
    have hmm : talSum ([r1.tl] ++ tlAll rs ++ [talOf [.turn]]) .look ≤ 100000 := hm
    rw [tal_app, tal_app, tal_one, tlAll_sum] at hmm
    have hu1 := j_uses n g p1 r1 hJ1
    have hu2 := usAll_len (fun q => q.tl .look) rs fun q hq => by obtain ⟨p', hp'⟩ := je_mem hJE q hq; exact j_uses n (.ag x g) p' q hp'
    have hea : ∀ q ∈ rs, q.tl .look ≤ 100000 := fun q hq => by
      have e : q.tl .look ≤ (rs.map fun q => q.tl .look).sum := le_sum _ _ (List.mem_map.mpr ⟨q, hq, rfl⟩)
      omega
    refine ⟨_, rfl, .ref c, "turn", _, "turn", 3, rfl, hp', _, rfl, iteF ?_⟩
    refine ⟨_, rfl, a, _, dx, _, _, rfl, hid_at ha, T.cls 104, T.noat 131, rfl, ?_⟩
    refine ⟨_, rfl, c, _, _, _, rfl, rfl, hc', atI_nat (j := 1) rfl, ?_⟩
    refine ⟨B, g, u1, v1, p1, r1, rfl, hB, hb1, d1, hJ1, by omega, fun y1 H1 s1 ry1 => ?_⟩
    refine ⟨_, rfl, _, rfl, c, _, _, _, rfl, rfl, same_seqT s1 hc', atI_nat (j := 2) rfl, ?_⟩
    refine ⟨B, .ag x g, .ref a, v2, ps, rs, rfl, hB.up s1, term_up (hid_up s1) hv0, dp_up (hid_up s1) d2, hJE, hea, by omega, fun y2 us Ha sa hy2n hy2a husa => ?_⟩
    obtain ⟨b1, kv1, uv1, tv1, rfl, hy1a, hk1a, hus1a, htl1a⟩ := row_up (hid_up sa) ry1
    refine ⟨_, rfl, rfl, _, rfl, iteF ?_⟩
    refine ⟨_, rfl, rfl, _, rfl, iteF ?_⟩
    refine ⟨_, rfl, b1, _, _, _, rfl, rfl, SqT.new (hid_at hy1a), atI_nat (j := 1) rfl, ?_⟩
    refine ⟨_, rfl, a, _, dx, _, _, rfl, sa _ _ (s1 _ _ (hid_at ha)), T.cls 104, T.noat 130, rfl, ?_⟩
    refine ⟨B, uv1, r1.us, x, rfl, hB.up (s1.trans sa), hus1a, by omega, fun ku H2 sk dku => ?_⟩
    have s2 := sa.trans sk
    have hy1 := hid_up sk _ _ hy1a
    have hk1 := dp_up (hid_up sk) hk1a
    have hus1 := us_up (hid_up sk) hus1a
    have htl1 := tal_up (hid_up sk) htl1a
    have hy2 := sk _ _ hy2a
    have hus := rows_up (hid_up sk) husa
    have q1 := SqT.new (K := K) (hid_at hy1)
    obtain ⟨kvs, tvs, len1, len2, dks, tls, cols⟩ := rows_cols hus
    have lus := rows_len hus
    refine ⟨_, rfl, y2, rfl, ⟨_, SqL.new hy2⟩, fun D hD => ?_⟩
    refine lc_gen (walk_list (K := K) (a := y2) (xs := us)) (fun i => kvs[i]?) (fun acc => (same_new hD _).seq (SqL.new hy2)) (by show us.length ≤ 2 ^ 24; omega) ?_ ?_
    · rintro i z acc H' N hi la ⟨rfl, hz⟩ n1 n2
      obtain ⟨za, zk, zu, zt, rfl, hza, ezk, ezt⟩ := cols i z hz
      refine ⟨rfl, yes_turn ⟨_, rfl, za, _, _, _, rfl, rfl, SqT.new (same_new hD _ _ _ (hid_at hza)), atI_nat (j := 0) rfl, acc, upd_same, la, ?_⟩⟩
      rw [upd_lst]
      exact n2 _ ezk
    rw [← len1, range_get]
    have n3 := same_new hD (.lst kvs)
    refine ⟨D, kvs, rfl, .inl ⟨SqL.new upd_same, fun pt hpt => ?_⟩⟩
    have n4 := same_new hpt (.tup kvs)
    have s24 := n3.trans n4
    refine ⟨tp (rs.map fun z : Row => z.k), tp (rs.map fun z : Row => z.k), dp_up (hid_sub.trans s24) (by rw [← ek]; exact dku), dp_newT upd_same (dps_up (hid_sub.trans s24) dks), kds_shaped (fun d hd => ?_), kds_shaped (fun d hd => ?_), _, rfl, ?_⟩
    · obtain ⟨z, hz, rfl⟩ := List.mem_map.mp hd
      exact hkd z hz
    · obtain ⟨z, hz, rfl⟩ := List.mem_map.mp hd
      exact hkd z hz
    rw [kds_eqv (fun d hd => by obtain ⟨z, hz, rfl⟩ := List.mem_map.mp hd; exact hkd z hz)]
    refine iteF ?_
    refine ⟨_, rfl, b1, _, _, _, rfl, rfl, same_seqT s24 q1, atI_nat (j := 2) rfl, (by show 1 ≤ sizeLine; decide), fun L1 hL1 => ?_⟩
    have n5 := same_new hL1 (.lst [tv1])
    have s25 := s24.trans n5
    have hy25 := s25 _ _ hy2
    refine ⟨_, rfl, y2, rfl, ⟨_, SqL.new hy25⟩, fun D2 hD2 => ?_⟩
    refine lc_gen (walk_list (K := K) (a := y2) (xs := us)) (fun i => tvs[i]?) (fun acc => (same_new hD2 _).seq (SqL.new hy25)) (by show us.length ≤ 2 ^ 24; omega) ?_ ?_
    · rintro i z acc H' N hi la ⟨rfl, hz⟩ n1 n2
      obtain ⟨za, zk, zu, zt, rfl, hza, ezk, ezt⟩ := cols i z hz
      refine ⟨rfl, yes_turn ⟨_, rfl, za, _, _, _, rfl, rfl, SqT.new (same_new hD2 _ _ _ (s25 _ _ (hid_at hza))), atI_nat (j := 2) rfl, acc, upd_same, la, ?_⟩⟩
      rw [upd_lst]
      exact n2 _ ezt
    rw [← len2, range_get]
    have n6 := same_new hD2 (.lst tvs)
    have ltv : tvs.length = rs.length := by rw [len2, lus]
    refine ⟨L1, D2, [tv1], tvs, rfl, rfl, n6 _ _ upd_same, upd_same, (by show 1 + tvs.length ≤ 2 ^ 24; omega), fun p6 hp6 => ?_⟩
    have n7 := same_new hp6 (.lst ([tv1] ++ tvs))
    refine ⟨(by show 1 ≤ sizeLine; decide), fun l7 hl7 => ?_⟩
    have n8 := same_new hl7 (.lst [.str "turn"])
    refine ⟨l7, ["turn"], talOf [.turn], rfl, SqL.new upd_same, cnt_turn, fun y8 H9 s9 hy8 hy8' => ⟨(by show 1 ≤ sizeLine; decide), fun l9 hl9 => ?_⟩⟩
    have n10 := same_new hl9 (.lst [.ref y8])
    have s7 := n8.trans (s9.trans n10)
    refine ⟨p6, l9, [tv1] ++ tvs, [.ref y8], rfl, rfl, s7 _ _ upd_same, upd_same, (by show ([tv1] ++ tvs).length + 1 ≤ 2 ^ 24; rw [List.length_append]; show 1 + tvs.length + 1 ≤ 2 ^ 24; omega), fun p10 hp10 => ?_⟩
    have n11 := same_new hp10 (.lst ([tv1] ++ tvs ++ [.ref y8]))
    have s211 := s25.trans (n6.trans (n7.trans (s7.trans n11)))
    have tA := tals_app (tals_app (tals_up (hid_sub.trans s211) (.cons htl1 .nil)) (tals_up (hid_sub.trans s211) tls)) (.cons (f := talOf [.turn]) ⟨y8, rfl, n11 _ _ (n10 _ _ hy8')⟩ .nil)
    refine ⟨p10, [tv1] ++ tvs ++ [.ref y8], [r1.tl] ++ tlAll rs ++ [talOf [.turn]], rfl, SqL.new upd_same, (by rw [List.length_append, List.length_append]; show 1 + tvs.length + 1 ≤ 1000000; omega), tA, fun y11 H12 s12 hy11 hy11' => ?_⟩
    have s212 := s211.trans s12
    have s02 := s1.trans s2
    have s012 := s02.trans s212
    have tg := tal_got (hB.up (s02.trans s211)) hy11 hy11'
    refine ⟨_, rfl, _, rfl, b1, _, _, _, rfl, rfl, same_seqT s212 q1, atI_nat (j := 1) rfl, ?_⟩
    refine ⟨_, rfl, a, _, dx, _, _, rfl, s012 _ _ (hid_at ha), T.cls 104, T.noat 130, rfl, ?_⟩
    refine ⟨B, uv1, r1.us, x, rfl, hB.up s012, us_up (hid_up s212) hus1, by omega, fun y13 H13 s13 ub => ?_⟩
    have s213 := s212.trans s13
    have s013 := s02.trans s213
    have hlb : (usesBut r1.us x).length ≤ r1.us.length := List.length_filter_le _ _
    refine ⟨_, rfl, b1, _, _, _, rfl, rfl, same_seqT s213 q1, atI_nat (j := 0) rfl, _, rfl, ?_⟩
    refine ⟨B, y2, us, y13, kv1, .ref y11, usesBut r1.us x, r1.k, _, rs, rfl, hB.up s013, s213 _ _ hy2, rows_up (hid_up s213) hus, ub, dp_up (hid_up s213) hk1, tal_up (hid_up s13) tg, by omega, fun v' H' s14 rw' => q v' H' (s013.trans s14) rw'⟩
  | _ => cases ht
end
end Ut
set_option Elab.async false
set_option linter.all false
set_option maxRecDepth 100000
set_option maxHeartbeats 4000000
namespace Ut
open PySem PySem.Spec PyProof.Rows L2
section
variable {P : Program} {w : World} {K : PySem.W.Frag} {mg : Str → Option Value} {base : Heap}
theorem nmd (c d : Tc) : decide (c.nm = d.nm) = decide (c = d) := by cases c <;> cases d <;> decide +kernel
theorem sc_judged : FnScope ["term", "paper"] ["term", "paper"] (defScope S_judged) := ⟨rfl, rfl, rfl, by decide +kernel, rfl, by decide +kernel, by decide +kernel⟩
theorem body_judged (T : Tx w K mg) (n : Nat) (f : Addr) (c_has_form : Cal P w K mg base 1 "has_form" (spHasForm K)) (c_tally_with : Cal P w K mg base 1 "tally_with" (spTallyWith K)) (c_judged_name : Cal P w K mg base 6 "judged_name" (spJudgedC K .name (n + 1)))
    (c_judged_maker : Cal P w K mg base (3 * n + 5) "judged_maker" (spJudgedC K .mk (n + 1))) (c_judged_give : Cal P w K mg base (3 * n + 6) "judged_give" (spJudgedC K .gv (n + 1))) (c_judged_sum : Cal P w K mg base (3 * n + 5) "judged_sum" (spJudgedC K .sm (n + 1)))
    (c_judged_choice : Cal P w K mg base (3 * n + 5) "judged_choice" (spJudgedC K .ch (n + 1))) (c_judged_again : Cal P w K mg base (3 * n + 6) "judged_again" (spJudgedC K .ag (n + 1))) : BodyOk P w K mg base ["term", "paper"] "judged" S_judged f (3 * n + 6) (spJudged K (n + 1)) := by
  intro cdv A outer s H vs Q E hr h
  obtain ⟨B, t, v, pp, p, r, rfl, hB, hv, hp, hJ, hm, q⟩ := h
  refine ⟨_, (pss_cons (ps_if (pt_val (pe_isi (pv 0) (pe_glob (v := .ref (He.ga K "Name")) rfl (T.glo 56 rfl) rfl) (by rfl) (T.free 69 rfl))) (pss_one (ps_ret (pe_c c_judged_name hr (by omega) (by rfl) (pa_cons (pv 0) (pa_cons (pv 1) pa_nil))))) pss_nil)
      (pss_cons (ps_if (pt_val (pe_isi (pv 0) (pe_glob (v := .ref (He.ga K "Number")) rfl (T.glo 57 rfl) rfl) (by rfl) (T.free 69 rfl))) (pss_cons (ps_if (pt_val (pe_c c_has_form hr (by omega) (by rfl) (pa_cons (pv 1) (pa_cons pe_str (pa_cons pe_int pa_nil))))) (pss_one (ps_ret (pe_tup (pa_cons (pe_fld (pv 0) rfl) (pa_cons (pe_lst pa_nil) (pa_cons (pe_c c_tally_with hr (by omega) (by rfl) (pa_cons (pe_lst pa_nil) pa_nil)) pa_nil)))))) pss_nil)
      (pss_one (ps_ret pe_non))) pss_nil)
      (pss_cons (ps_if (pt_val (pe_isi (pv 0) (pe_glob (v := .ref (He.ga K "Maker")) rfl (T.glo 58 rfl) rfl) (by rfl) (T.free 69 rfl))) (pss_one (ps_ret (pe_c c_judged_maker hr (by omega) (by rfl) (pa_cons (pv 0) (pa_cons (pv 1) pa_nil))))) pss_nil)
      (pss_cons (ps_if (pt_val (pe_isi (pv 0) (pe_glob (v := .ref (He.ga K "Give")) rfl (T.glo 59 rfl) rfl) (by rfl) (T.free 69 rfl))) (pss_one (ps_ret (pe_c c_judged_give hr (by omega) (by rfl) (pa_cons (pv 0) (pa_cons (pv 1) pa_nil))))) pss_nil)
      (pss_cons (ps_if (pt_val (pe_isi (pv 0) (pe_glob (v := .ref (He.ga K "Sum")) rfl (T.glo 60 rfl) rfl) (by rfl) (T.free 69 rfl))) (pss_one (ps_ret (pe_c c_judged_sum hr (by omega) (by rfl) (pa_cons (pv 0) (pa_cons (pv 1) pa_nil))))) pss_nil)
      (pss_cons (ps_if (pt_val (pe_isi (pv 0) (pe_glob (v := .ref (He.ga K "Choice")) rfl (T.glo 61 rfl) rfl) (by rfl) (T.free 69 rfl))) (pss_one (ps_ret (pe_c c_judged_choice hr (by omega) (by rfl) (pa_cons (pv 0) (pa_cons (pv 1) pa_nil))))) pss_nil)
      (pss_cons (ps_if (pt_val (pe_isi (pv 0) (pe_glob (v := .ref (He.ga K "Again")) rfl (T.glo 62 rfl) rfl) (by rfl) (T.free 69 rfl))) (pss_one (ps_ret (pe_c c_judged_again hr (by omega) (by rfl) (pa_cons (pv 0) (pa_cons (pv 1) pa_nil))))) pss_nil)
      (pss_one (ps_ret pe_non))))))))), ?_⟩
  have hv' := term_up hid_sub hv
  cases t with
  | name x =>
    refine ⟨_, rfl, true, isi_term T hv' .name rfl (nmd .name .name), _, rfl, iteT ?_⟩
    exact ⟨_, rfl, _, rfl, B, _, v, pp, p, r, rfl, rfl, hB, hv, hp, hJ, hm, q⟩
  | num i =>
    refine ⟨_, rfl, false, isi_term T hv' .name rfl (nmd .num .name), _, rfl, iteF ?_⟩
    refine ⟨_, rfl, true, isi_term T hv' .num rfl (nmd .num .num), _, rfl, iteT ?_⟩
    obtain ⟨a, dx, rfl, ha⟩ := hv
    obtain ⟨rfl, rfl⟩ := hJ
    refine ⟨_, rfl, pp, "number", _, "number", 1, rfl, dp_up hid_sub hp, _, rfl, ifT (by decide +kernel) ?_⟩
    refine ⟨_, rfl, a, _, dx, _, _, rfl, hid_at ha, T.cls 94, T.noat 119, rfl, ?_⟩
    refine ⟨Nat.zero_le _, fun l hl => ⟨Nat.zero_le _, fun l2 hl2 => ?_⟩⟩
    have n1 := same_new hl (.lst [])
    have n2 := same_new hl2 (.lst [])
    refine ⟨l2, [], talOf [], rfl, SqL.new upd_same, cnt_none, fun y H3 s3 hy hy' => ⟨(by show 3 ≤ sizeLine; decide), fun z hz => ?_⟩⟩
    have s23 := n2.trans s3
    have s13 := n1.trans s23
    refine q (.ref z) _ (s13.trans (same_new hz _)) (row_mk (hB.up s13) hz (.int i) ⟨l, [], rfl, hid_up s23 _ _ (hid_new hB hl), .nil⟩ (tal_got (hB.up (n1.trans n2)) hy hy'))
  | mk x b =>
    refine ⟨_, rfl, false, isi_term T hv' .name rfl (nmd .mk .name), _, rfl, iteF ?_⟩
    refine ⟨_, rfl, false, isi_term T hv' .num rfl (nmd .mk .num), _, rfl, iteF ?_⟩
    refine ⟨_, rfl, true, isi_term T hv' .mk rfl (nmd .mk .mk), _, rfl, iteT ?_⟩
    exact ⟨_, rfl, _, rfl, B, _, v, pp, p, r, rfl, rfl, hB, hv, hp, hJ, hm, q⟩
  | gv m g =>
    refine ⟨_, rfl, false, isi_term T hv' .name rfl (nmd .gv .name), _, rfl, iteF ?_⟩
    refine ⟨_, rfl, false, isi_term T hv' .num rfl (nmd .gv .num), _, rfl, iteF ?_⟩
    refine ⟨_, rfl, false, isi_term T hv' .mk rfl (nmd .gv .mk), _, rfl, iteF ?_⟩
    refine ⟨_, rfl, true, isi_term T hv' .gv rfl (nmd .gv .gv), _, rfl, iteT ?_⟩
    exact ⟨_, rfl, _, rfl, B, _, v, pp, p, r, rfl, rfl, hB, hv, hp, hJ, hm, q⟩
  | sm sg a b =>
    refine ⟨_, rfl, false, isi_term T hv' .name rfl (nmd .sm .name), _, rfl, iteF ?_⟩
    refine ⟨_, rfl, false, isi_term T hv' .num rfl (nmd .sm .num), _, rfl, iteF ?_⟩
    refine ⟨_, rfl, false, isi_term T hv' .mk rfl (nmd .sm .mk), _, rfl, iteF ?_⟩
    refine ⟨_, rfl, false, isi_term T hv' .gv rfl (nmd .sm .gv), _, rfl, iteF ?_⟩
    refine ⟨_, rfl, true, isi_term T hv' .sm rfl (nmd .sm .sm), _, rfl, iteT ?_⟩
    exact ⟨_, rfl, _, rfl, B, _, v, pp, p, r, rfl, rfl, hB, hv, hp, hJ, hm, q⟩
  | ch a m o =>
    refine ⟨_, rfl, false, isi_term T hv' .name rfl (nmd .ch .name), _, rfl, iteF ?_⟩
    refine ⟨_, rfl, false, isi_term T hv' .num rfl (nmd .ch .num), _, rfl, iteF ?_⟩
    refine ⟨_, rfl, false, isi_term T hv' .mk rfl (nmd .ch .mk), _, rfl, iteF ?_⟩
    refine ⟨_, rfl, false, isi_term T hv' .gv rfl (nmd .ch .gv), _, rfl, iteF ?_⟩
    refine ⟨_, rfl, false, isi_term T hv' .sm rfl (nmd .ch .sm), _, rfl, iteF ?_⟩
    refine ⟨_, rfl, true, isi_term T hv' .ch rfl (nmd .ch .ch), _, rfl, iteT ?_⟩
    exact ⟨_, rfl, _, rfl, B, _, v, pp, p, r, rfl, rfl, hB, hv, hp, hJ, hm, q⟩
  | ag x b =>
    refine ⟨_, rfl, false, isi_term T hv' .name rfl (nmd .ag .name), _, rfl, iteF ?_⟩
    refine ⟨_, rfl, false, isi_term T hv' .num rfl (nmd .ag .num), _, rfl, iteF ?_⟩
    refine ⟨_, rfl, false, isi_term T hv' .mk rfl (nmd .ag .mk), _, rfl, iteF ?_⟩
    refine ⟨_, rfl, false, isi_term T hv' .gv rfl (nmd .ag .gv), _, rfl, iteF ?_⟩
    refine ⟨_, rfl, false, isi_term T hv' .sm rfl (nmd .ag .sm), _, rfl, iteF ?_⟩
    refine ⟨_, rfl, false, isi_term T hv' .ch rfl (nmd .ag .ch), _, rfl, iteF ?_⟩
    refine ⟨_, rfl, true, isi_term T hv' .ag rfl (nmd .ag .ag), _, rfl, iteT ?_⟩
    exact ⟨_, rfl, _, rfl, B, _, v, pp, p, r, rfl, rfl, hB, hv, hp, hJ, hm, q⟩
theorem len_judged {n : Nat} {vs : List V} {H : Hp} {Q : VK} {E : XK} (h : spJudged K n vs H Q E) : vs.length = 2 := by
  obtain ⟨B, t, v, pp, p, r, rfl, _⟩ := h
  rfl
theorem ok_judged (T : Tx w K mg) : ∀ n : Nat, Cal P w K mg base (3 * n + 4) "judged" (spJudged K n)
  | 0 => by
    refine cal_mk T 24 24 rfl rfl sc_judged (fun _ _ _ _ _ _ us hl => match us, hl with | [_, _], _ => rfl) (fun vs H Q E h => len_judged h) (fun cdv A outer s H vs Q E hr h => ?_)
    obtain ⟨B, t, v, pp, p, r, rfl, hB, hv, hp, hJ, hm, q⟩ := h
    exact hJ.elim
  | n + 1 => by
    have c_judged := ok_judged T n
    have c_has_form : Cal P w K mg base 1 "has_form" (spHasForm K) := ok_has_form T
    have c_is_number : Cal P w K mg base 1 "is_number" (spIsNumber K) := ok_is_number T
    have c_tally_with : Cal P w K mg base 1 "tally_with" (spTallyWith K) := ok_tally_with T
    have c_together : Cal P w K mg base 1 "tallies_together" (spTogether K) := ok_tallies_together T
    have c_put : Cal P w K mg base 1 "put_together" (spPut K) := ok_put_together T
    have c_ku : Cal P w K mg base 1 "kinds_used" (spKindsUsed K) := ok_kinds_used T
    have c_ub : Cal P w K mg base 1 "uses_but" (spUsesBut K) := ok_uses_but T
    have c_each := ok_judged_each T n c_judged
    exact cal_mk T 24 24 rfl rfl sc_judged (fun _ _ _ _ _ _ us hl => match us, hl with | [_, _], _ => rfl) (fun vs H Q E h => len_judged h) (body_judged T n _ c_has_form c_tally_with (ok_judged_name T (n + 1) c_has_form (ok_is_kind T) c_tally_with) (ok_judged_maker T n c_has_form c_tally_with c_together c_ku c_ub c_judged)
      (ok_judged_give T n c_has_form c_tally_with c_together c_put c_judged c_each) (ok_judged_sum T n c_has_form c_is_number (ok_sum_of T) c_tally_with c_together c_put c_judged) (ok_judged_choice T n c_has_form c_is_number c_tally_with c_together c_put c_judged)
      (ok_judged_again T n c_has_form c_ku c_ub c_tally_with c_together c_put c_judged c_each))
/-! ### lets_by, called by keywords -/
structure CalK (P : Program) (w : World) (K : PySem.W.Frag) (mg : Str → Option Value) (base : Heap) (k : Nat) (x a b : Str) (sp : Sp) : Prop where
  ex : ∃ (f : Addr) (fd : FuncData) (ps : List Str), FnOk P w K mg base CX0 k f fd ps sp ∧ mg x = some (.ref f) ∧ PySem.W.keepIn K (.ref f) = true ∧ ps.length = 2 ∧ ∀ (s : Shared) (u1 u2 : Value), BindsTo s fd ⟨[], [(a, u1), (b, u2)]⟩ (ps.zip [u1, u2])
/-- x(a = .., b = ..) -/
theorem pe_k2 {X : Cx} {k j : Nat} {x a b : Str} {sp : Sp} {p pos : Pos} {kws : List Keyword} {tk : TA} (c : CalK X.prog X.w X.K X.mg X.base k x a b sp) (hr : Room j X.A) (hk : k ≤ j) (hg : Gl X x) (hkw : PK X kws tk)
    (hall : (backToKw pos (keywordEach kws X.env)).all (·.1.isSome) = true := by rfl) (hks : (backToKw pos (keywordEach kws X.env)).filterMap (·.1) = [a, b] := by rfl) (hdb : (x == ("__debug__" : Str)) = false := by decide)
    (hpl : ((backTo pos (starEach [] X.env)).any (·.1) || (backToKw pos (keywordEach kws X.env)).any (·.1.isNone)) = false := by rfl) :
    PE X (.Call (.Name x p) [] kws pos) (fun σ H Q => tk σ H fun zs H2 => zs.length = 2 ∧ sp zs H2 Q E0) := by
  obtain ⟨f, fd, ps, F, hm, kp, hl2, hb⟩ := c.ex
  refine ⟨fun pins s σ H Q I h => ?_⟩
  refine wpAny_Call_Name_kw (ld_glob I hg hm ?_ hdb)
  refine PySem.W.callWith_KW0 (h₀ := X.base) I.ok.mod.kin kp hall (thn (hkw.run pos pins s σ H _ I h) fun ws s2 ⟨zs, H2, I2, rz, hz, q2⟩ => ⟨I2.kIn, ?_⟩) hpl
  rw [hks]
  have hw : ws.length = 2 := rz.length.symm.trans hz
  match ws, hw with
  | [u1, u2], _ =>
    refine wpAny_call (codeAny_mono (F.run X.A X.stack s2 H2 ⟨[], [(a, u1), (b, u2)]⟩ [u1, u2] zs Q E0 (hr.mono hk) I2.env0 (hb s2 u1 u2) rz q2) fun r s' hq => ?_)
    cases r with
    | error e => exact pass0 pins σ H2 s2 e s' I2 hq
    | ok fl =>
      cases fl with
      | ret u => exact I2.after hq
      | next => exact False.elim hq
      | brk => exact False.elim hq
      | cont => exact False.elim hq
theorem sc_lets_by : FnScope ["term", "paper", "told"] ["term", "paper"] (defScope S_lets_by) := ⟨rfl, rfl, rfl, by decide +kernel, rfl, by decide +kernel, by decide +kernel⟩
def spLets (K : PySem.W.Frag) (m n : Nat) : Sp := fun vs H Q _ => ∃ t v pp p r i, vs = [v, pp] ∧ TermAt K H t v ∧ Dp K H pp p ∧ Sc t [] ∧ t.dep ≤ m ∧ J n t p r ∧ r.tl .look ≤ 100000 ∧ r.k = .int i ∧
  ∀ H', Same H H' → Q (.int i) H'
theorem ok_lets_by (T : Tx w K mg) (m n : Nat) (c_must_be_closed : Cal P w K mg base (m + 2) "must_be_closed" (spClosed K m)) (c_judged : Cal P w K mg base (3 * n + 4) "judged" (spJudged K n)) :
    CalK P w K mg base (max (m + 3) (3 * n + 5)) "lets_by" "term" "paper" (spLets K m n) := by
  obtain ⟨fd, F⟩ := T.fn (33) rfl
  refine ⟨_, fd, ["term", "paper"], (?_ : FnOk P w K mg base CX0 (max (m + 2) (3 * n + 4) + 1) _ fd ["term", "paper"] (spLets K m n)).mono (by omega), T.glo (33) rfl, F.kp, rfl, fun s u1 u2 => ?_⟩
  · refine F.ok sc_lets_by (fun vs H Q E h => ?_) fun cdv A outer s H vs Q E hr h => ?_
    · obtain ⟨t, v, pp, p, r, i, rfl, _⟩ := h
      rfl
    obtain ⟨t, v, pp, p, r, i, rfl, hv, hp, hs, hd, hJ, hm, ek, q⟩ := h
    refine ⟨_, PSs.nox (pss_cons (ps_expr (pe_c c_must_be_closed hr (by omega) (by rfl) (pa_cons (pv 0) pa_nil)))
      (pss_cons (ps_set (i := 2) sc_lets_by.nd rfl (Or.inl rfl) (pe_c c_judged hr (by omega) (by rfl) (pa_cons (pv 0) (pa_cons (pv 1) pa_nil))))
      (pss_cons (ps_if (PW.pt (pw_or (pt_cmpR op_isN (pv 2) pe_non (nomark _)) (pw_or1 (pt_val (pe_isi (pe_ix ix_tup (pv 2) pe_int (fun _ _ => rfl)) (pe_bltn (v := .ty "tuple") (by rfl) (T.free 77 rfl) (by decide +kernel) rfl) (by rfl) (T.free 69 rfl)))))) (pss_one (ps_ret pe_non)) pss_nil)
      (pss_one (ps_ret (pe_ix ix_tup (pv 2) pe_int (fun _ _ => rfl))))))), ?_⟩
    refine ⟨_, rfl, t, v, rfl, hv, hs, hd, fun H1 s1 => ?_⟩
    refine ⟨_, rfl, _, rfl, [], t, v, pp, p, r, rfl, Dom.nil, by rw [hid_nil]; exact term_up s1 hv, by rw [hid_nil]; exact dp_up s1 hp, hJ, hm, fun y H2 s2 ry => ?_⟩
    rw [hid_nil] at ry
    obtain ⟨b, kv, uv, tv, rfl, hy, hk, _, _⟩ := ry
    rw [ek] at hk
    obtain rfl := dp_int_of hk
    have qb := SqT.new (K := K) hy
    refine ⟨_, rfl, rfl, _, rfl, iteF ?_⟩
    refine ⟨_, rfl, b, _, _, _, rfl, rfl, qb, atI_nat (j := 0) rfl, false, isi_int k_int_tuple, _, rfl, iteF ?_⟩
    exact ⟨_, rfl, b, _, _, _, rfl, rfl, qb, atI_nat (j := 0) rfl, q H2 (s1.trans s2)⟩
  · obtain ⟨oc, od, dV, kV, doc, pm, an, cdv, ct, osl, rfl, lk, hcd, hD, hK⟩ := F.ex
    rcases hD with ⟨_, rfl⟩ | ⟨e, _⟩
    · exact .of_eq rfl
    · exact absurd rfl e
end
end Ut
set_option Elab.async false
set_option linter.all false
set_option maxRecDepth 100000
set_option maxHeartbeats 4000000
namespace Ut
open PySem PySem.Spec PyProof.Rows L2
/-! ### closures, waits, states -/
inductive Cl where
  | mk (t : Tm) (e : Str → Option Cl)
abbrev Tie := Str → Option Cl
def Tie.nil : Tie := fun _ => none
def Tie.put (e : Tie) (x : Str) (c : Cl) : Tie := fun y => if y = x then some c else e y
def Cl.t : Cl → Tm
  | .mk t _ => t
def Cl.e : Cl → Tie
  | .mk _ e => e
inductive Wt where
  | given (c : Cl) | other (s : Str) (c : Cl) | num (s : Str) (i : Int) | choice (n o : Cl)
structure MSt where
  t : Tm
  e : Tie
  ws : List Wt
section
variable {K : PySem.W.Frag} {H H' : Hp} {D N N' : Nat}
mutual
inductive LateAt (K : PySem.W.Frag) (D N : Nat) (H : Hp) : V → Cl → Prop where
  | mk {a dx : Addr} {tv ev fv : V} {m d : Nat} {t : Tm} {e : Tie} (ha : H a = some (.ins (He.ga K "Late") dx [("what", tv), ("ties", ev), ("many", .int (m : Nat)), ("deep", .int (d : Nat)), ("full", fv)])) (ht : TermAt K H t tv) (hd : t.dep ≤ D)
      (he : TieAt K D N H ev e) (hf : m ≤ 600 → d ≤ 60 → ∃ t', TermAt K H t' fv) : LateAt K D N H (.ref a) (.mk t e)
inductive TieAt (K : PySem.W.Frag) (D N : Nat) (H : Hp) : V → Tie → Prop where
  | mk {a : Addr} {kvs : List (Key × V)} {e : Tie} (f : Str → V) (ha : H a = some (.dK kvs)) (hl : kvs.length ≤ N) (hk : ∀ x : Str, valV kvs (Sum.inr x : Key) = (e x).map fun _ => f x) (hc : ∀ x c, e x = some c → LateAt K D N H (f x) c) : TieAt K D N H (.ref a) e
end
mutual
theorem late_up (s : Same H H') (n : N ≤ N') : ∀ {v : V} {c : Cl}, LateAt K D N H v c → LateAt K D N' H' v c
  | _, _, .mk ha ht hd he hf => .mk (s _ _ ha) (term_up s ht) hd (tie_up s n he) fun h1 h2 => by obtain ⟨t', h⟩ := hf h1 h2; exact ⟨t', term_up s h⟩
theorem tie_up (s : Same H H') (n : N ≤ N') : ∀ {v : V} {e : Tie}, TieAt K D N H v e → TieAt K D N' H' v e
  | _, _, .mk f ha hl hk hc => .mk f (s _ _ ha) (Nat.le_trans hl n) hk fun x c h => late_up s n (hc x c h)
end
def WtAt (K : PySem.W.Frag) (D N : Nat) (H : Hp) (v : V) : Wt → Prop
  | .given c => ∃ a dx u, v = .ref a ∧ H a = some (.ins (He.ga K "GivenWait") dx [("late", u)]) ∧ LateAt K D N H u c
  | .other s c => okSign s ∧ ∃ a dx u, v = .ref a ∧ H a = some (.ins (He.ga K "OtherWait") dx [("sign", .str s), ("late", u)]) ∧ LateAt K D N H u c
  | .num s i => okSign s ∧ ∃ a dx, v = .ref a ∧ H a = some (.ins (He.ga K "NumberWait") dx [("sign", .str s), ("number", .int i)])
  | .choice c d => ∃ a dx u1 u2, v = .ref a ∧ H a = some (.ins (He.ga K "ChoiceWait") dx [("nought", u1), ("other", u2)]) ∧ LateAt K D N H u1 c ∧ LateAt K D N H u2 d
theorem wt_up (s : Same H H') (n : N ≤ N') {v : V} : ∀ {w : Wt}, WtAt K D N H v w → WtAt K D N' H' v w
  | .given c, ⟨a, dx, u, e, h, h1⟩ => ⟨a, dx, u, e, s _ _ h, late_up s n h1⟩
  | .other _ c, ⟨o, a, dx, u, e, h, h1⟩ => ⟨o, a, dx, u, e, s _ _ h, late_up s n h1⟩
  | .num _ _, ⟨o, a, dx, e, h⟩ => ⟨o, a, dx, e, s _ _ h⟩
  | .choice _ _, ⟨a, dx, u1, u2, e, h, h1, h2⟩ => ⟨a, dx, u1, u2, e, s _ _ h, late_up s n h1, late_up s n h2⟩
inductive WtsAt (K : PySem.W.Frag) (D N : Nat) (H : Hp) : List V → List Wt → Prop where
  | nil : WtsAt K D N H [] []
  | cons {v : V} {vs : List V} {w : Wt} {ws : List Wt} (h : WtAt K D N H v w) (r : WtsAt K D N H vs ws) : WtsAt K D N H (v :: vs) (w :: ws)
theorem wts_up (s : Same H H') (n : N ≤ N') : ∀ {vs : List V} {ws : List Wt}, WtsAt K D N H vs ws → WtsAt K D N' H' vs ws
  | _, _, .nil => .nil
  | _, _, .cons a b => .cons (wt_up s n a) (wts_up s n b)
theorem wts_len : ∀ {vs : List V} {ws : List Wt}, WtsAt K D N H vs ws → vs.length = ws.length
  | _, _, .nil => rfl
  | _, _, .cons a b => congrArg Nat.succ (wts_len b)
theorem wts_snoc : ∀ {vs : List V} {ws : List Wt} {v : V} {w : Wt}, WtsAt K D N H vs ws → WtAt K D N H v w → WtsAt K D N H (vs ++ [v]) (ws ++ [w])
  | _, _, _, _, .nil, h => .cons h .nil
  | _, _, _, _, .cons a b, h => .cons a (wts_snoc b h)
theorem wts_last : ∀ {vs : List V} {ws : List Wt} {w : Wt}, WtsAt K D N H vs (ws ++ [w]) → ∃ us v, vs = us ++ [v] ∧ WtsAt K D N H us ws ∧ WtAt K D N H v w
  | _, [], _, .cons a .nil => ⟨[], _, rfl, .nil, a⟩
  | _, x :: ws, _, .cons a b => by
    obtain ⟨us, v, rfl, h1, h2⟩ := wts_last (ws := ws) b
    exact ⟨_ :: us, v, rfl, .cons a h1, h2⟩
def PileAt (K : PySem.W.Frag) (D N : Nat) (H : Hp) (v : V) (ws : List Wt) : Prop := ∃ a xs, v = .ref a ∧ SqT K H a xs ∧ WtsAt K D N H xs ws ∧ ws.length ≤ N
theorem pile_up (s : Same H H') (n : N ≤ N') {v : V} {ws : List Wt} : PileAt K D N H v ws → PileAt K D N' H' v ws := fun ⟨a, xs, e, h, h1, h2⟩ => ⟨a, xs, e, same_seqT s h, wts_up s n h1, Nat.le_trans h2 n⟩
def StAt (K : PySem.W.Frag) (D N : Nat) (H : Hp) (v : V) (st : MSt) : Prop := ∃ a dx tv ev pp, v = .ref a ∧ H a = some (.ins (He.ga K "State") dx [("at", tv), ("ties", ev), ("pile", pp)]) ∧ TermAt K H st.t tv ∧ st.t.dep ≤ D ∧ TieAt K D N H ev st.e ∧ PileAt K D N H pp st.ws
theorem st_up (s : Same H H') (n : N ≤ N') {v : V} {st : MSt} : StAt K D N H v st → StAt K D N' H' v st := fun ⟨a, dx, tv, ev, pp, e, h, h1, h2, h3, h4⟩ => ⟨a, dx, tv, ev, pp, e, s _ _ h, term_up s h1, h2, tie_up s n h3, pile_up s n h4⟩
theorem put_len (kvs : List (Key × V)) (k : Key) (v : V) : (putK kvs k v).length ≤ kvs.length + 1 := by
  unfold putK
  by_cases c : (kvs.any fun kv => decide (kv.1 = k)) = true
  · rw [if_pos c, List.length_map]; exact Nat.le_succ _
  · rw [if_neg c, List.length_append]; exact Nat.le_refl _
/-- a dict with one tie more -/
theorem tie_put {a : Addr} {kvs : List (Key × V)} {e : Tie} {x : Str} {u : V} {c : Cl} {f : Str → V} (ha : H' a = some (.dK (putK kvs (Sum.inr x : Key) u))) (hl : kvs.length ≤ N) (hk : ∀ x : Str, valV kvs (Sum.inr x : Key) = (e x).map fun _ => f x)
    (hc : ∀ x c, e x = some c → LateAt K D N H' (f x) c) (hu : LateAt K D N H' u c) : TieAt K D (N + 1) H' (.ref a) (e.put x c) := by
  refine .mk (fun y => if y = x then u else f y) ha (Nat.le_trans (put_len _ _ _) (Nat.succ_le_succ hl)) (fun y => ?_) (fun y d h => ?_)
  · rw [valV_put]
    unfold Tie.put
    by_cases e1 : y = x
    · subst e1; simp
    · have e2 : ¬ ((Sum.inr y : Key) = Sum.inr x) := fun h => e1 (Sum.inr.inj h)
      rw [if_neg e2, hk y, if_neg e1]
      simp [e1]
  · unfold Tie.put at h
    by_cases e1 : y = x
    · rw [if_pos e1] at h
      cases h
      simp only [e1, if_true]
      exact late_up (Same.refl _) (Nat.le_succ _) hu
    · rw [if_neg e1] at h
      simp only [e1, if_false]
      exact late_up (Same.refl _) (Nat.le_succ _) (hc y d h)
end
end Ut
set_option Elab.async false
set_option linter.all false
set_option maxRecDepth 100000
set_option maxHeartbeats 4000000
namespace Ut
open PySem PySem.Spec PyProof.Rows L2
section
variable {P : Program} {w : World} {K : PySem.W.Frag} {mg : Str → Option Value} {base : Heap}
/-! ### rebuilt -/
def spRebuilt (K : PySem.W.Frag) (c : Tc) : Sp := fun vs H Q _ => ∃ B t v l us ts, vs = [v, .ref l] ∧ t.tc = c ∧ Dom B H ∧ TermAt K (hid B H) t v ∧ H l = some (.lst us) ∧ TermsAt K (hid B H) ts us ∧ ts.length = t.parts.length ∧ ∀ v' H' t', Same H H' → TermAt K (hid B H') t' v' → Q v' H'
theorem ts1 {H : Hp} {t : List Tm} {us : List V} (h : TermsAt K H t us) (e : t.length = 1) : ∃ a u, t = [a] ∧ us = [u] ∧ TermAt K H a u := by
  match t, us, h, e with
  | [a], [u], .cons h .nil, _ => exact ⟨a, u, rfl, rfl, h⟩
theorem ts2 {H : Hp} {t : List Tm} {us : List V} (h : TermsAt K H t us) (e : t.length = 2) : ∃ a b u1 u2, t = [a, b] ∧ us = [u1, u2] ∧ TermAt K H a u1 ∧ TermAt K H b u2 := by
  match t, us, h, e with
  | [a, b], [u1, u2], .cons h (.cons h2 .nil), _ => exact ⟨a, b, u1, u2, rfl, rfl, h, h2⟩
theorem ts3 {H : Hp} {t : List Tm} {us : List V} (h : TermsAt K H t us) (e : t.length = 3) : ∃ a b c u1 u2 u3, t = [a, b, c] ∧ us = [u1, u2, u3] ∧ TermAt K H a u1 ∧ TermAt K H b u2 ∧ TermAt K H c u3 := by
  match t, us, h, e with
  | [a, b, c], [u1, u2, u3], .cons h (.cons h2 (.cons h3 .nil)), _ => exact ⟨a, b, c, u1, u2, u3, rfl, rfl, h, h2, h3⟩

theorem sc_Term_rebuilt : FnScope ["self", "parts"] ["self", "parts"] (defScope S_Term_rebuilt) := ⟨rfl, rfl, rfl, by decide +kernel, rfl, by decide +kernel, by decide +kernel⟩
theorem ok_Name_rebuilt (T : Tx w K mg) : Met P w K mg base 1 (He.ga K "Name") "rebuilt" (spRebuilt K .name) := by
  refine met_mk T 57 149 92 rfl rfl rfl sc_Term_rebuilt (fun _ _ _ _ _ _ us hl => match us, hl with | [_, _], _ => rfl) (fun vs H Q E h => ?_) (fun cdv A outer s H vs Q E hr h => ?_)
  · obtain ⟨B, t, v, l, us, ts, rfl, _⟩ := h
    rfl
  obtain ⟨B, t, v, l, us, ts, rfl, ht, hB, hv, hl, hts, hn, q⟩ := h
  refine ⟨_, (pss_one (ps_ret (pv 0))), ?_⟩
  cases t with
  | name x =>
    exact ⟨_, rfl, q v H _ (Same.refl H) hv⟩
  | _ => cases ht
theorem ok_Number_rebuilt (T : Tx w K mg) : Met P w K mg base 1 (He.ga K "Number") "rebuilt" (spRebuilt K .num) := by
  refine met_mk T 62 154 94 rfl rfl rfl sc_Term_rebuilt (fun _ _ _ _ _ _ us hl => match us, hl with | [_, _], _ => rfl) (fun vs H Q E h => ?_) (fun cdv A outer s H vs Q E hr h => ?_)
  · obtain ⟨B, t, v, l, us, ts, rfl, _⟩ := h
    rfl
  obtain ⟨B, t, v, l, us, ts, rfl, ht, hB, hv, hl, hts, hn, q⟩ := h
  refine ⟨_, (pss_one (ps_ret (pv 0))), ?_⟩
  cases t with
  | num i =>
    exact ⟨_, rfl, q v H _ (Same.refl H) hv⟩
  | _ => cases ht
theorem sc_Maker_rebuilt : FnScope ["self", "parts"] ["self", "parts"] (defScope S_Maker_rebuilt) := ⟨rfl, rfl, rfl, by decide +kernel, rfl, by decide +kernel, by decide +kernel⟩
theorem ok_Maker_rebuilt (T : Tx w K mg) (c_Maker : Mak P w K mg base 3 "Maker" (He.ga K "Maker") (spInit K "Maker" (okNB K))) : Met P w K mg base 5 (He.ga K "Maker") "rebuilt" (spRebuilt K .mk) := by
  refine met_mk T 67 159 96 rfl rfl rfl sc_Maker_rebuilt (fun _ _ _ _ _ _ us hl => match us, hl with | [_, _], _ => rfl) (fun vs H Q E h => ?_) (fun cdv A outer s H vs Q E hr h => ?_)
  · obtain ⟨B, t, v, l, us, ts, rfl, _⟩ := h
    rfl
  obtain ⟨B, t, v, l, us, ts, rfl, ht, hB, hv, hl, hts, hn, q⟩ := h
  refine ⟨_, (pss_one (ps_ret (pe_mk c_Maker hr (by omega) (by rfl) (pa_cons (pe_fld (pv 0) rfl) (pa_cons (pe_ix ix_list (pv 1) pe_int (fun _ _ => rfl)) pa_nil))))), ?_⟩
  cases t with
  | mk x b =>
    obtain ⟨ok, a, dx, u0, rfl, ha, h0⟩ := hv
    obtain ⟨t1, v1, rfl, rfl, g1⟩ := ts1 hts hn
    refine ⟨_, rfl, a, _, dx, _, _, rfl, hid_at ha, T.cls 96, T.noat 120, rfl, _, rfl, l, _, _, _, rfl, rfl, SqL.new hl, atI_nat (j := 0) rfl, ?_⟩
    exact mk_use (fs := [("name", .str x), ("body", v1)]) (fun _ z => ⟨x, v1, t1, rfl, ok, term_up (hid_sub.trans z) g1, rfl⟩) fun p dx H1 s1 hp hp1 => q (.ref p) H1 (.mk x t1) s1 ⟨ok, p, dx, v1, rfl, hid_got hB hp hp1, term_up (hid_up s1) g1⟩
  | _ => cases ht
theorem sc_Give_rebuilt : FnScope ["self", "parts"] ["self", "parts"] (defScope S_Give_rebuilt) := ⟨rfl, rfl, rfl, by decide +kernel, rfl, by decide +kernel, by decide +kernel⟩
theorem ok_Give_rebuilt (T : Tx w K mg) (c_Give : Mak P w K mg base 2 "Give" (He.ga K "Give") (spInit K "Give" (okN3 K))) : Met P w K mg base 4 (He.ga K "Give") "rebuilt" (spRebuilt K .gv) := by
  refine met_mk T 72 164 98 rfl rfl rfl sc_Give_rebuilt (fun _ _ _ _ _ _ us hl => match us, hl with | [_, _], _ => rfl) (fun vs H Q E h => ?_) (fun cdv A outer s H vs Q E hr h => ?_)
  · obtain ⟨B, t, v, l, us, ts, rfl, _⟩ := h
    rfl
  obtain ⟨B, t, v, l, us, ts, rfl, ht, hB, hv, hl, hts, hn, q⟩ := h
  refine ⟨_, (pss_one (ps_ret (pe_mk c_Give hr (by omega) (by rfl) (pa_cons (pe_ix ix_list (pv 1) pe_int (fun _ _ => rfl)) (pa_cons (pe_ix ix_list (pv 1) pe_int (fun _ _ => rfl)) pa_nil))))), ?_⟩
  cases t with
  | gv m g =>
    obtain ⟨a, dx, u0, u1, rfl, ha, h0, h1⟩ := hv
    obtain ⟨t1, t2, v1, v2, rfl, rfl, g1, g2⟩ := ts2 hts hn
    refine ⟨_, rfl, l, _, _, _, rfl, rfl, SqL.new hl, atI_nat (j := 0) rfl, _, rfl, l, _, _, _, rfl, rfl, SqL.new hl, atI_nat (j := 1) rfl, ?_⟩
    exact mk_use (fs := [("maker", v1), ("given", v2)]) (fun _ z => ⟨v1, v2, t1, t2, rfl, term_up (hid_sub.trans z) g1, term_up (hid_sub.trans z) g2, rfl⟩) fun p dx H1 s1 hp hp1 => q (.ref p) H1 (.gv t1 t2) s1 ⟨p, dx, v1, v2, rfl, hid_got hB hp hp1, term_up (hid_up s1) g1, term_up (hid_up s1) g2⟩
  | _ => cases ht
theorem sc_Sum_rebuilt : FnScope ["self", "parts"] ["self", "parts"] (defScope S_Sum_rebuilt) := ⟨rfl, rfl, rfl, by decide +kernel, rfl, by decide +kernel, by decide +kernel⟩
theorem ok_Sum_rebuilt (T : Tx w K mg) (c_Sum : Mak P w K mg base 2 "Sum" (He.ga K "Sum") (spInit K "Sum" (okN4 K))) : Met P w K mg base 4 (He.ga K "Sum") "rebuilt" (spRebuilt K .sm) := by
  refine met_mk T 77 169 100 rfl rfl rfl sc_Sum_rebuilt (fun _ _ _ _ _ _ us hl => match us, hl with | [_, _], _ => rfl) (fun vs H Q E h => ?_) (fun cdv A outer s H vs Q E hr h => ?_)
  · obtain ⟨B, t, v, l, us, ts, rfl, _⟩ := h
    rfl
  obtain ⟨B, t, v, l, us, ts, rfl, ht, hB, hv, hl, hts, hn, q⟩ := h
  refine ⟨_, (pss_one (ps_ret (pe_mk c_Sum hr (by omega) (by rfl) (pa_cons (pe_fld (pv 0) rfl) (pa_cons (pe_ix ix_list (pv 1) pe_int (fun _ _ => rfl)) (pa_cons (pe_ix ix_list (pv 1) pe_int (fun _ _ => rfl)) pa_nil)))))), ?_⟩
  cases t with
  | sm s m g =>
    obtain ⟨ok, a, dx, u0, u1, rfl, ha, h0, h1⟩ := hv
    obtain ⟨t1, t2, v1, v2, rfl, rfl, g1, g2⟩ := ts2 hts hn
    refine ⟨_, rfl, a, _, dx, _, _, rfl, hid_at ha, T.cls 100, T.noat 124, rfl, _, rfl, l, _, _, _, rfl, rfl, SqL.new hl, atI_nat (j := 0) rfl, _, rfl, l, _, _, _, rfl, rfl, SqL.new hl, atI_nat (j := 1) rfl, ?_⟩
    exact mk_use (fs := [("sign", .str s), ("one", v1), ("other", v2)]) (fun _ z => ⟨s, v1, v2, t1, t2, rfl, ok, term_up (hid_sub.trans z) g1, term_up (hid_sub.trans z) g2, rfl⟩) fun p dx H1 s1 hp hp1 => q (.ref p) H1 (.sm s t1 t2) s1 ⟨ok, p, dx, v1, v2, rfl, hid_got hB hp hp1, term_up (hid_up s1) g1, term_up (hid_up s1) g2⟩
  | _ => cases ht
theorem sc_Choice_rebuilt : FnScope ["self", "parts"] ["self", "parts"] (defScope S_Choice_rebuilt) := ⟨rfl, rfl, rfl, by decide +kernel, rfl, by decide +kernel, by decide +kernel⟩
theorem ok_Choice_rebuilt (T : Tx w K mg) (c_Choice : Mak P w K mg base 2 "Choice" (He.ga K "Choice") (spInit K "Choice" (okN5 K))) : Met P w K mg base 4 (He.ga K "Choice") "rebuilt" (spRebuilt K .ch) := by
  refine met_mk T 82 174 102 rfl rfl rfl sc_Choice_rebuilt (fun _ _ _ _ _ _ us hl => match us, hl with | [_, _], _ => rfl) (fun vs H Q E h => ?_) (fun cdv A outer s H vs Q E hr h => ?_)
  · obtain ⟨B, t, v, l, us, ts, rfl, _⟩ := h
    rfl
  obtain ⟨B, t, v, l, us, ts, rfl, ht, hB, hv, hl, hts, hn, q⟩ := h
  refine ⟨_, (pss_one (ps_ret (pe_mk c_Choice hr (by omega) (by rfl) (pa_cons (pe_ix ix_list (pv 1) pe_int (fun _ _ => rfl)) (pa_cons (pe_ix ix_list (pv 1) pe_int (fun _ _ => rfl)) (pa_cons (pe_ix ix_list (pv 1) pe_int (fun _ _ => rfl)) pa_nil)))))), ?_⟩
  cases t with
  | ch m n g =>
    obtain ⟨a, dx, u0, u1, u2, rfl, ha, h0, h1, h2⟩ := hv
    obtain ⟨t1, t2, t3, v1, v2, v3, rfl, rfl, g1, g2, g3⟩ := ts3 hts hn
    refine ⟨_, rfl, l, _, _, _, rfl, rfl, SqL.new hl, atI_nat (j := 0) rfl, _, rfl, l, _, _, _, rfl, rfl, SqL.new hl, atI_nat (j := 1) rfl, _, rfl, l, _, _, _, rfl, rfl, SqL.new hl, atI_nat (j := 2) rfl, ?_⟩
    exact mk_use (fs := [("asked", v1), ("nought", v2), ("other", v3)]) (fun _ z => ⟨v1, v2, v3, t1, t2, t3, rfl, term_up (hid_sub.trans z) g1, term_up (hid_sub.trans z) g2, term_up (hid_sub.trans z) g3, rfl⟩) fun p dx H1 s1 hp hp1 => q (.ref p) H1 (.ch t1 t2 t3) s1 ⟨p, dx, v1, v2, v3, rfl, hid_got hB hp hp1, term_up (hid_up s1) g1, term_up (hid_up s1) g2, term_up (hid_up s1) g3⟩
  | _ => cases ht
theorem sc_Again_rebuilt : FnScope ["self", "parts"] ["self", "parts"] (defScope S_Again_rebuilt) := ⟨rfl, rfl, rfl, by decide +kernel, rfl, by decide +kernel, by decide +kernel⟩
theorem ok_Again_rebuilt (T : Tx w K mg) (c_Again : Mak P w K mg base 3 "Again" (He.ga K "Again") (spInit K "Again" (okNB K))) : Met P w K mg base 5 (He.ga K "Again") "rebuilt" (spRebuilt K .ag) := by
  refine met_mk T 87 179 104 rfl rfl rfl sc_Again_rebuilt (fun _ _ _ _ _ _ us hl => match us, hl with | [_, _], _ => rfl) (fun vs H Q E h => ?_) (fun cdv A outer s H vs Q E hr h => ?_)
  · obtain ⟨B, t, v, l, us, ts, rfl, _⟩ := h
    rfl
  obtain ⟨B, t, v, l, us, ts, rfl, ht, hB, hv, hl, hts, hn, q⟩ := h
  refine ⟨_, (pss_one (ps_ret (pe_mk c_Again hr (by omega) (by rfl) (pa_cons (pe_fld (pv 0) rfl) (pa_cons (pe_ix ix_list (pv 1) pe_int (fun _ _ => rfl)) pa_nil))))), ?_⟩
  cases t with
  | ag x b =>
    obtain ⟨ok, a, dx, u0, rfl, ha, h0⟩ := hv
    obtain ⟨t1, v1, rfl, rfl, g1⟩ := ts1 hts hn
    refine ⟨_, rfl, a, _, dx, _, _, rfl, hid_at ha, T.cls 104, T.noat 130, rfl, _, rfl, l, _, _, _, rfl, rfl, SqL.new hl, atI_nat (j := 0) rfl, ?_⟩
    exact mk_use (fs := [("name", .str x), ("body", v1)]) (fun _ z => ⟨x, v1, t1, rfl, ok, term_up (hid_sub.trans z) g1, rfl⟩) fun p dx H1 s1 hp hp1 => q (.ref p) H1 (.ag x t1) s1 ⟨ok, p, dx, v1, rfl, hid_got hB hp hp1, term_up (hid_up s1) g1⟩
  | _ => cases ht
theorem ok_rebuilt (T : Tx w K mg) : ∀ c : Tc, Met P w K mg base 5 (He.ga K c.nm) "rebuilt" (spRebuilt K c)
  | .name => (ok_Name_rebuilt T).mono (by decide)
  | .num => (ok_Number_rebuilt T).mono (by decide)
  | .mk => ok_Maker_rebuilt T (ok_Maker_init T (ok_need_name T (ok_is_name T)) (ok_need_terms T))
  | .gv => (ok_Give_rebuilt T (ok_Give_init T (ok_need_terms T))).mono (by decide)
  | .sm => (ok_Sum_rebuilt T (ok_Sum_init T (ok_need_terms T))).mono (by decide)
  | .ch => (ok_Choice_rebuilt T (ok_Choice_init T (ok_need_terms T))).mono (by decide)
  | .ag => ok_Again_rebuilt T (ok_Again_init T (ok_need_name T (ok_is_name T)) (ok_need_terms T))
/-! ### what may be read back -/
def LateFull (K : PySem.W.Frag) (H : Hp) (u : V) : Prop := ∃ a dx tv ev fv, ∃ m d : Nat, ∃ t', u = .ref a ∧ H a = some (.ins (He.ga K "Late") dx [("what", tv), ("ties", ev), ("many", .int (m : Nat)), ("deep", .int (d : Nat)), ("full", fv)]) ∧ TermAt K H t' fv
def hidOf (t : Tm) (hs : List Str) : List Str := match t.binds with
  | some x => hs ++ [x]
  | none => hs
def RbN (K : PySem.W.Frag) (H : Hp) (ev : V) (hs : List Str) (x : Str) : Prop := x ∈ hs ∨ ∃ a kvs, ev = .ref a ∧ H a = some (.dK kvs) ∧ ∀ u, valV kvs (Sum.inr x : Key) = some u → LateFull K H u
def RbT (K : PySem.W.Frag) (H : Hp) (ev : V) : Tm → List Str → Prop
  | .name x, hs => RbN K H ev hs x
  | .num _, _ => True
  | .mk x b, hs => RbT K H ev b (hs ++ [x])
  | .gv m g, hs => RbT K H ev m hs ∧ RbT K H ev g hs
  | .sm _ m g, hs => RbT K H ev m hs ∧ RbT K H ev g hs
  | .ch m n g, hs => RbT K H ev m hs ∧ RbT K H ev n hs ∧ RbT K H ev g hs
  | .ag x b, hs => RbT K H ev b (hs ++ [x])
theorem lf_up {H H' : Hp} (s : Same H H') {u : V} : LateFull K H u → LateFull K H' u := fun ⟨a, dx, tv, ev, fv, m, d, t', e, h, h1⟩ => ⟨a, dx, tv, ev, fv, m, d, t', e, s _ _ h, term_up s h1⟩
theorem rbn_up {H H' : Hp} (s : Same H H') {ev : V} {hs : List Str} {x : Str} : RbN K H ev hs x → RbN K H' ev hs x
  | .inl h => .inl h
  | .inr ⟨a, kvs, e, h, h1⟩ => .inr ⟨a, kvs, e, s _ _ h, fun u z => lf_up s (h1 u z)⟩
theorem rb_up {H H' : Hp} (s : Same H H') {ev : V} : ∀ {t : Tm} {hs : List Str}, RbT K H ev t hs → RbT K H' ev t hs
  | .name x, hs, h => rbn_up (x := x) (hs := hs) s h
  | .num _, _, _ => trivial
  | .mk x b, hs, h => rb_up (t := b) s h
  | .gv m g, hs, ⟨h1, h2⟩ => ⟨rb_up (t := m) s h1, rb_up (t := g) s h2⟩
  | .sm _ m g, hs, ⟨h1, h2⟩ => ⟨rb_up (t := m) s h1, rb_up (t := g) s h2⟩
  | .ch m n g, hs, ⟨h1, h2, h3⟩ => ⟨rb_up (t := m) s h1, rb_up (t := n) s h2, rb_up (t := g) s h3⟩
  | .ag x b, hs, h => rb_up (t := b) s h
theorem rb_parts {H : Hp} {ev : V} : ∀ {t : Tm} {hs : List Str}, t.tc ≠ .name → (RbT K H ev t hs ↔ ∀ p ∈ t.parts, RbT K H ev p (hidOf t hs))
  | .name x, hs, n => absurd rfl n
  | .num _, _, _ => by simp [RbT, Tm.parts]
  | .mk x b, hs, _ => by simp [RbT, Tm.parts, hidOf, Tm.binds]
  | .gv m g, hs, _ => by simp [RbT, Tm.parts, hidOf, Tm.binds]
  | .sm _ m g, hs, _ => by simp [RbT, Tm.parts, hidOf, Tm.binds]
  | .ch m n g, hs, _ => by simp [RbT, Tm.parts, hidOf, Tm.binds]
  | .ag x b, hs, _ => by simp [RbT, Tm.parts, hidOf, Tm.binds]
theorem hid_len (t : Tm) (hs : List Str) : (hidOf t hs).length ≤ hs.length + 1 := by
  unfold hidOf
  cases t.binds with
  | none => exact Nat.le_succ _
  | some x => rw [List.length_append]; exact Nat.le_refl _
/-- a tuple of texts -/
def TxsAt (K : PySem.W.Frag) (H : Hp) (v : V) (hs : List Str) : Prop := ∃ a, v = .ref a ∧ SqT K H a (hs.map V.str)
theorem txs_up {H H' : Hp} (s : Same H H') {v : V} {hs : List Str} : TxsAt K H v hs → TxsAt K H' v hs := fun ⟨a, e, h⟩ => ⟨a, e, same_seqT s h⟩
theorem inV_str (x : Str) : ∀ hs : List Str, inV (.str x) (hs.map V.str) = decide (x ∈ hs)
  | [] => rfl
  | y :: hs => by
    have ih := inV_str x hs
    unfold inV at ih ⊢
    rw [List.map_cons, List.any_cons, ih]
    by_cases e : y = x
    · subst e
      simp [eqV]
    · have e2 : ¬ x = y := fun h => e h.symm
      by_cases m : x ∈ hs
      · simp [m]
      · simp [eqV, e, e2, m]
theorem flat_strs : ∀ hs : List Str, (hs.map V.str).all flatV = true
  | [] => rfl
  | y :: hs => by rw [List.map_cons, List.all_cons, flat_strs hs]; rfl
theorem sc_measured : FnScope ["part", "ties", "hidden", "places", "deep", "inner", "more", "down"] ["part", "ties", "hidden"] (defScope S_measured) := ⟨rfl, rfl, rfl, by decide +kernel, rfl, by decide +kernel, by decide +kernel⟩
def spMeasured (K : PySem.W.Frag) (D N n : Nat) : Sp := fun vs H Q _ => ∃ B t v ev e hv hs, vs = [v, ev, hv] ∧ Dom B H ∧ TermAt K (hid B H) t v ∧ t.dep ≤ n ∧ TieAt K D N (hid B H) ev e ∧ TxsAt K (hid B H) hv hs ∧ hs.length + n ≤ 1000 ∧
  ∀ (p : Addr) (m d : Nat) (H' : Hp), Same H H' → H' p = some (.tup [.int (m : Nat), .int (d : Nat)]) → (m ≤ 600 → d ≤ 60 → RbT K (hid B H') ev t hs) → Q (.ref p) H'
theorem late_at {H : Hp} {D N : Nat} {u : V} {c : Cl} (h : LateAt K D N H u c) : ∃ a dx tv ev fv, ∃ m d : Nat, u = .ref a ∧ H a = some (.ins (He.ga K "Late") dx [("what", tv), ("ties", ev), ("many", .int (m : Nat)), ("deep", .int (d : Nat)), ("full", fv)]) ∧
    TermAt K H c.t tv ∧ c.t.dep ≤ D ∧ TieAt K D N H ev c.e ∧ (m ≤ 600 → d ≤ 60 → LateFull K H u) := by
  cases h with
  | mk ha ht hd he hf => exact ⟨_, _, _, _, _, _, _, rfl, ha, ht, hd, he, fun h1 h2 => by obtain ⟨t', h⟩ := hf h1 h2; exact ⟨_, _, _, _, _, _, _, t', rfl, ha, h⟩⟩
theorem ok_measured0 (T : Tx w K mg) (D N : Nat) : Cal P w K mg base 1 "measured" (spMeasured K D N 0) := by
  refine cal_mk T 9 9 rfl rfl sc_measured (fun _ _ _ _ _ _ us hl => match us, hl with | [_, _, _], _ => rfl) (fun vs H Q E h => ?_) (fun cdv A outer s H vs Q E hr h => ?_)
  · obtain ⟨B, t, v, ev, e, hv, hs, rfl, _⟩ := h
    rfl
  obtain ⟨B, t, v, ev, e, hv, hs, rfl, hB, ht, hd, _⟩ := h
  have := dep_pos t
  omega
theorem ok_measuredS (T : Tx w K mg) (D N n : Nat) (c_measured : Cal P w K mg base (n + 1) "measured" (spMeasured K D N n)) : Cal P w K mg base (n + 2) "measured" (spMeasured K D N (n + 1)) := by
  refine cal_mk T 9 9 rfl rfl sc_measured (fun _ _ _ _ _ _ us hl => match us, hl with | [_, _, _], _ => rfl) (fun vs H Q E h => ?_) (fun cdv A outer s H vs Q E hr h => ?_)
  · obtain ⟨B, t, v, ev, e, hv, hs, rfl, _⟩ := h
    rfl
  obtain ⟨B, t, v, ev, e, hv, hs, rfl, hB, ht, hd, he, hh, hn, q⟩ := h
  have hu := hu_of hr
  refine ⟨_, (pss_cons (ps_if (pt_val (pe_isi (pv 0) (pe_glob (v := .ref (He.ga K "Name")) rfl (T.glo 56 rfl) rfl) (by rfl) (T.free 69 rfl))) (pss_cons (ps_if (PW.pt (pw_or (pt_cmpR op_in_seq (pe_fld (pv 0) rfl) (pv 2) (by rfl)) (pw_or1 (pt_cmp (pc_dnotin hu (pe_fld (pv 0) rfl) (pv 1)))))) (pss_one (ps_ret (pe_tup (pa_cons pe_int (pa_cons pe_int pa_nil))))) pss_nil)
      (pss_one (ps_ret (pe_tup (pa_cons (pe_fld (pe_dget hu (pv 1) (pe_fld (pv 0) rfl) (fun _ _ => rfl)) rfl) (pa_cons (pe_fld (pe_dget hu (pv 1) (pe_fld (pv 0) rfl) (fun _ _ => rfl)) rfl) pa_nil)))))) pss_nil)
      (pss_cons (ps_if (pt_cmpR op_notN (pe_any fun i => pe_mt0 ((ok_binds T) i) hr (by omega) (pv 0)) pe_non (nomark _)) (pss_one (ps_set (i := 2) sc_measured.nd rfl (Or.inl rfl) (pe_op op_catA (pv 2) (pe_tup (pa_cons (pe_any fun i => pe_mt0 ((ok_binds T) i) hr (by omega) (pv 0)) pa_nil))))) pss_nil)
      (pss_cons (ps_set (i := 3) sc_measured.nd rfl (Or.inl rfl) pe_int)
      (pss_cons (ps_set (i := 4) sc_measured.nd rfl (Or.inl rfl) pe_int)
      (pss_cons (ps_for PassesOwn.never rfl (pi_list (pe_any fun i => pe_mt0 ((ok_parts T) i) hr (by omega) (pv 0))) (pg_name (i := 5) sc_measured.nd rfl (Or.inl rfl))
      (pss_cons (ps_asg (pe_c c_measured hr (by omega) (by rfl) (pa_cons (pv 5) (pa_cons (pv 1) (pa_cons (pv 2) pa_nil)))) (pg_tup (by rfl) (pgs_cons (pg_name (i := 6) sc_measured.nd rfl (Or.inl rfl)) (pgs_cons (pg_name (i := 7) sc_measured.nd rfl (Or.inl rfl)) pgs_nil))))
      (pss_cons (ps_aug (i := 3) sc_measured.nd rfl (Or.inl rfl) (pv 6) ip_add)
      (pss_one (ps_set (i := 4) sc_measured.nd rfl (Or.inl rfl) (pe_callB (call_max2 rfl) (by rfl) (T.free 74 rfl) (by decide +kernel) (pa_cons (pv 4) (pa_cons (pv 7) pa_nil))))))))
      (pss_one (ps_ret (pe_tup (pa_cons (pv 3) (pa_cons (pe_op op_add (pv 4) pe_int) pa_nil)))))))))), ?_⟩
  have ht' := term_up hid_sub ht
  by_cases c : t.tc = .name
  · cases t with
    | name x =>
      obtain ⟨ok, a, dx, rfl, ha⟩ := ht
      obtain ⟨hp, rfl, hq⟩ := hh
      cases he with
      | mk f hea hl hk hc =>
        rename_i ea kvs
        refine ⟨_, rfl, true, isi_term T ht' .name rfl (nmd .name .name), _, rfl, iteT ?_⟩
        refine ⟨_, rfl, a, _, dx, _, _, rfl, hid_at ha, T.cls 92, T.noat 118, rfl, _, rfl, hp, _, rfl, .inr (same_seqT hid_sub hq), rfl, flat_strs hs, _, rfl, ?_⟩
        by_cases c1 : x ∈ hs
        · refine ifT (by show inV (.str x) (hs.map V.str) = true; rw [inV_str]; exact decide_eq_true c1) ?_
          exact ⟨(by show 2 ≤ sizeLine; decide), fun p hp => q p 1 1 _ (same_new hp _) upd_same fun _ _ => .inl c1⟩
        refine ifF (by show inV (.str x) (hs.map V.str) = false; rw [inV_str]; exact decide_eq_false c1) ?_
        refine ⟨_, rfl, a, _, dx, _, _, rfl, hid_at ha, T.cls 92, T.noat 118, rfl, _, rfl, ea, _, rfl, DGet.k (k := Sum.inr x) (hid_at hea), _, rfl, ?_⟩
        have hkx := hk x
        cases c2 : e x with
        | none =>
          rw [c2] at hkx
          have hkx : valV kvs (Sum.inr x : Key) = none := hkx
          rw [hkx]
          refine ifT rfl ?_
          exact ⟨(by show 2 ≤ sizeLine; decide), fun p hp => q p 1 1 _ (same_new hp _) upd_same fun _ _ => .inr ⟨ea, kvs, rfl, hid_up (same_new hp _) _ _ hea, fun u z => by rw [hkx] at z; cases z⟩⟩
        | some cl =>
          rw [c2] at hkx
          have hkx : valV kvs (Sum.inr x : Key) = some (f x) := hkx
          obtain ⟨b, bx, tv, ev2, fv, m, d, eb, hb, _, _, _, hful⟩ := late_at (hc x cl c2)
          have hg : DGet H ea (.str x) (some (.ref b)) := by rw [← eb, ← hkx]; exact DGet.k (k := Sum.inr x) (hid_at hea)
          rw [hkx]
          refine ifF rfl ?_
          refine ⟨_, rfl, _, rfl, a, _, dx, _, _, rfl, hid_at ha, T.cls 92, T.noat 118, rfl, ea, _, rfl, hg, b, _, bx, _, _, rfl, hid_at hb, T.cls 106, T.noat 134, rfl, ?_⟩
          refine ⟨_, rfl, _, rfl, a, _, dx, _, _, rfl, hid_at ha, T.cls 92, T.noat 118, rfl, ea, _, rfl, hg, b, _, bx, _, _, rfl, hid_at hb, T.cls 106, T.noat 135, rfl, ?_⟩
          refine ⟨(by show 2 ≤ sizeLine; decide), fun p hp => q p m d _ (same_new hp _) upd_same fun h1 h2 => .inr ⟨ea, kvs, rfl, hid_up (same_new hp _) _ _ hea, fun u z => ?_⟩⟩
          rw [hkx] at z
          cases z
          exact lf_up (hid_up (same_new hp _)) (hful h1 h2)
    | _ => cases c
  obtain ⟨a, dx, fs, rfl, ha, l1, l2, l3, l4⟩ := term_ins ht
  refine ⟨_, rfl, false, isi_term T ht' .name rfl (by rw [nmd]; exact decide_eq_false c), _, rfl, iteF ?_⟩
  refine ⟨t.tc, _, rfl, a, dx, fs, rfl, hid_at ha, l2, t, .ref a, rfl, rfl, ht', rfl, _, rfl, ?_⟩
  have hl2 := hid_len t hs
  cases eb : t.binds with
  | none =>
    have ebv : bindV t = .non := by unfold bindV; rw [eb]
    rw [ebv]
    refine ifF rfl ?_
    obtain ⟨H1, s1, eH⟩ : ∃ H1, Same H H1 ∧ H1 = H := ⟨H, Same.refl H, rfl⟩
    rw [← eH]
    obtain ⟨W, eW⟩ : ∃ W, W = hv := ⟨_, rfl⟩
    rw [← eW]
    have hw : TxsAt K (hid B H1) W (hidOf t hs) := by
      unfold hidOf
      rw [eb, eH, eW]
      exact hh
    clear eH eW
    have hB1 := hB.up s1
    have ht1 := term_up (hid_up s1) ht
    have he1 := tie_up (hid_up s1) (Nat.le_refl N) he
    refine ⟨t.tc, _, rfl, a, dx, fs, rfl, s1 _ _ (hid_at ha), l1, t, .ref a, hid B H1, rfl, rfl, hid_sub, ht1, fun l us hl hus => ?_⟩
    have nl := same_new hl (.lst us)
    have lu := terms_len hus
    refine ⟨l, rfl, ⟨us, SqL.new upd_same⟩, for_list (K := K) (a := l) (xs := us) (fun i σ Hi => ∃ x y z, ∃ m d : Nat, σ = [some (.ref a), some ev, some W, some (.int (m : Nat)), some (.int (d : Nat)), x, y, z] ∧ Same (upd H1 l (.lst us)) Hi ∧ (m ≤ 600 → d ≤ 60 → ∀ p ∈ t.parts.take i, RbT K (hid B Hi) ev p (hidOf t hs)))
      ⟨none, none, none, 1, 0, rfl, Same.refl _, fun _ _ p hp => by simp at hp⟩ (fun i σ Hi _ h => ?_) ?_ ?_⟩
    · obtain ⟨x, y, z, m, d, _, sH, _⟩ := h
      exact sH.seq (SqL.new upd_same)
    · rintro i u σ Hi hi ⟨x, y, z, m, d, rfl, sH, hr1⟩
      obtain ⟨tp1, et, htp⟩ := terms_at hus hi
      have sX := nl.trans sH
      have hmem : tp1 ∈ t.parts := List.mem_of_getElem? et
      have hdp := dep_part hmem
      refine ⟨_, rfl, _, rfl, _, rfl, B, tp1, u, ev, e, W, hidOf t hs, rfl, hB1.up sX, term_up (hid_up sX) htp, by omega, tie_up (hid_up sX) (Nat.le_refl N) he1, txs_up (hid_up sX) hw, by omega, fun p m2 d2 H3 s3 hp3 hrb => ?_⟩
      refine ⟨p, _, rfl, SqT.new hp3, rfl, _, _, rfl, _, _, rfl, rfl, ?_⟩
      refine ⟨_, rfl, _, rfl, _, _, rfl, rfl, ?_⟩
      refine ⟨_, rfl, _, rfl, _, _, rfl, ?_⟩
      refine ⟨some u, some (.int (m2 : Nat)), some (.int (d2 : Nat)), m + m2, max d d2, ?_, sH.trans s3, fun h1 h2 p' hp' => ?_⟩
      · have e1 : ((m : Int) + (m2 : Int)) = ((m + m2 : Nat) : Int) := rfl
        have e2 : (if (d2 : Int) > (d : Int) then (d2 : Int) else (d : Int)) = ((max d d2 : Nat) : Int) := by
          by_cases g : d2 > d
          · rw [if_pos (by omega), Nat.max_eq_right (by omega)]
          · rw [if_neg (by omega), Nat.max_eq_left (by omega)]
        rw [e2]
        rfl
      · rw [List.take_add_one, et] at hp'
        rcases List.mem_append.mp hp' with hp' | hp'
        · exact rb_up (hid_up s3) (hr1 (by omega) (by omega) p' hp')
        · rw [show p' = tp1 by simpa using hp']
          exact hrb (by omega) (by omega)
    · rintro σ Hi ⟨x, y, z, m, d, rfl, sH, hr1⟩
      refine ⟨_, rfl, _, rfl, _, _, rfl, rfl, (by show 2 ≤ sizeLine; decide), fun p hp => ?_⟩
      refine q p m (d + 1) _ (s1.trans (nl.trans (sH.trans (same_new hp _)))) upd_same fun h1 h2 => (rb_parts c).mpr fun p' hp' => ?_
      rw [lu, List.take_length] at hr1
      exact rb_up (hid_up (same_new hp _)) (hr1 h1 (by omega) p' hp')
  | some x =>
    have ebv : bindV t = .str x := by unfold bindV; rw [eb]
    rw [ebv]
    refine ifT rfl ?_
    obtain ⟨hp, rfl, hq⟩ := hh
    refine ⟨_, rfl, t.tc, _, rfl, a, dx, fs, rfl, hid_at ha, l2, t, .ref a, rfl, rfl, ht', ?_⟩
    rw [ebv]
    refine ⟨(by show 1 ≤ sizeLine; decide), fun p1 hp1 => ?_⟩
    have n1 := same_new hp1 (.tup [.str x])
    refine ⟨hp, p1, _, [.str x], rfl, rfl, same_seqT (hid_sub.trans n1) hq, SqT.new upd_same, (by show (hs.map V.str).length + 1 ≤ 2 ^ 24; rw [List.length_map]; omega), fun e0 => ?_, fun _ e0 => (by cases e0), fun _ _ p2 hp2 => ?_⟩
    · obtain ⟨H1, s1, eH⟩ : ∃ H1, Same H H1 ∧ H1 = upd H p1 (.tup [.str x]) := ⟨_, n1, rfl⟩
      have hw : TxsAt K (hid B H1) (.ref p1) (hidOf t hs) := by
        unfold hidOf
        rw [eb, eH]
        rw [List.map_eq_nil_iff.mp e0]
        exact ⟨p1, rfl, SqT.new (hid_new hB hp1)⟩
      rw [← eH]
      obtain ⟨W, eW⟩ : ∃ W, W = V.ref p1 := ⟨_, rfl⟩
      rw [← eW] at hw ⊢
      clear eH eW
      have hB1 := hB.up s1
      have ht1 := term_up (hid_up s1) ht
      have he1 := tie_up (hid_up s1) (Nat.le_refl N) he
      refine ⟨t.tc, _, rfl, a, dx, fs, rfl, s1 _ _ (hid_at ha), l1, t, .ref a, hid B H1, rfl, rfl, hid_sub, ht1, fun l us hl hus => ?_⟩
      have nl := same_new hl (.lst us)
      have lu := terms_len hus
      refine ⟨l, rfl, ⟨us, SqL.new upd_same⟩, for_list (K := K) (a := l) (xs := us) (fun i σ Hi => ∃ x y z, ∃ m d : Nat, σ = [some (.ref a), some ev, some W, some (.int (m : Nat)), some (.int (d : Nat)), x, y, z] ∧ Same (upd H1 l (.lst us)) Hi ∧ (m ≤ 600 → d ≤ 60 → ∀ p ∈ t.parts.take i, RbT K (hid B Hi) ev p (hidOf t hs)))
        ⟨none, none, none, 1, 0, rfl, Same.refl _, fun _ _ p hp => by simp at hp⟩ (fun i σ Hi _ h => ?_) ?_ ?_⟩
      · obtain ⟨x, y, z, m, d, _, sH, _⟩ := h
        exact sH.seq (SqL.new upd_same)
      · rintro i u σ Hi hi ⟨x, y, z, m, d, rfl, sH, hr1⟩
        obtain ⟨tp1, et, htp⟩ := terms_at hus hi
        have sX := nl.trans sH
        have hmem : tp1 ∈ t.parts := List.mem_of_getElem? et
        have hdp := dep_part hmem
        refine ⟨_, rfl, _, rfl, _, rfl, B, tp1, u, ev, e, W, hidOf t hs, rfl, hB1.up sX, term_up (hid_up sX) htp, by omega, tie_up (hid_up sX) (Nat.le_refl N) he1, txs_up (hid_up sX) hw, by omega, fun p m2 d2 H3 s3 hp3 hrb => ?_⟩
        refine ⟨p, _, rfl, SqT.new hp3, rfl, _, _, rfl, _, _, rfl, rfl, ?_⟩
        refine ⟨_, rfl, _, rfl, _, _, rfl, rfl, ?_⟩
        refine ⟨_, rfl, _, rfl, _, _, rfl, ?_⟩
        refine ⟨some u, some (.int (m2 : Nat)), some (.int (d2 : Nat)), m + m2, max d d2, ?_, sH.trans s3, fun h1 h2 p' hp' => ?_⟩
        · have e1 : ((m : Int) + (m2 : Int)) = ((m + m2 : Nat) : Int) := rfl
          have e2 : (if (d2 : Int) > (d : Int) then (d2 : Int) else (d : Int)) = ((max d d2 : Nat) : Int) := by
            by_cases g : d2 > d
            · rw [if_pos (by omega), Nat.max_eq_right (by omega)]
            · rw [if_neg (by omega), Nat.max_eq_left (by omega)]
          rw [e2]
          rfl
        · rw [List.take_add_one, et] at hp'
          rcases List.mem_append.mp hp' with hp' | hp'
          · exact rb_up (hid_up s3) (hr1 (by omega) (by omega) p' hp')
          · rw [show p' = tp1 by simpa using hp']
            exact hrb (by omega) (by omega)
      · rintro σ Hi ⟨x, y, z, m, d, rfl, sH, hr1⟩
        refine ⟨_, rfl, _, rfl, _, _, rfl, rfl, (by show 2 ≤ sizeLine; decide), fun p hp => ?_⟩
        refine q p m (d + 1) _ (s1.trans (nl.trans (sH.trans (same_new hp _)))) upd_same fun h1 h2 => (rb_parts c).mpr fun p' hp' => ?_
        rw [lu, List.take_length] at hr1
        exact rb_up (hid_up (same_new hp _)) (hr1 h1 (by omega) p' hp')
    · have n2 := same_new hp2 (.tup (hs.map V.str ++ [.str x]))
      obtain ⟨H1, s1, eH⟩ : ∃ H1, Same H H1 ∧ H1 = upd (upd H p1 (.tup [.str x])) p2 (.tup (hs.map V.str ++ [.str x])) := ⟨_, n1.trans n2, rfl⟩
      have hw : TxsAt K (hid B H1) (.ref p2) (hidOf t hs) := by
        unfold hidOf
        rw [eb, eH]
        refine ⟨p2, rfl, SqT.new ?_⟩
        rw [hid_new (hB.up n1) hp2, List.map_append]
        rfl
      rw [← eH]
      obtain ⟨W, eW⟩ : ∃ W, W = V.ref p2 := ⟨_, rfl⟩
      rw [← eW] at hw ⊢
      clear eH eW
      have hB1 := hB.up s1
      have ht1 := term_up (hid_up s1) ht
      have he1 := tie_up (hid_up s1) (Nat.le_refl N) he
      refine ⟨t.tc, _, rfl, a, dx, fs, rfl, s1 _ _ (hid_at ha), l1, t, .ref a, hid B H1, rfl, rfl, hid_sub, ht1, fun l us hl hus => ?_⟩
      have nl := same_new hl (.lst us)
      have lu := terms_len hus
      refine ⟨l, rfl, ⟨us, SqL.new upd_same⟩, for_list (K := K) (a := l) (xs := us) (fun i σ Hi => ∃ x y z, ∃ m d : Nat, σ = [some (.ref a), some ev, some W, some (.int (m : Nat)), some (.int (d : Nat)), x, y, z] ∧ Same (upd H1 l (.lst us)) Hi ∧ (m ≤ 600 → d ≤ 60 → ∀ p ∈ t.parts.take i, RbT K (hid B Hi) ev p (hidOf t hs)))
        ⟨none, none, none, 1, 0, rfl, Same.refl _, fun _ _ p hp => by simp at hp⟩ (fun i σ Hi _ h => ?_) ?_ ?_⟩
      · obtain ⟨x, y, z, m, d, _, sH, _⟩ := h
        exact sH.seq (SqL.new upd_same)
      · rintro i u σ Hi hi ⟨x, y, z, m, d, rfl, sH, hr1⟩
        obtain ⟨tp1, et, htp⟩ := terms_at hus hi
        have sX := nl.trans sH
        have hmem : tp1 ∈ t.parts := List.mem_of_getElem? et
        have hdp := dep_part hmem
        refine ⟨_, rfl, _, rfl, _, rfl, B, tp1, u, ev, e, W, hidOf t hs, rfl, hB1.up sX, term_up (hid_up sX) htp, by omega, tie_up (hid_up sX) (Nat.le_refl N) he1, txs_up (hid_up sX) hw, by omega, fun p m2 d2 H3 s3 hp3 hrb => ?_⟩
        refine ⟨p, _, rfl, SqT.new hp3, rfl, _, _, rfl, _, _, rfl, rfl, ?_⟩
        refine ⟨_, rfl, _, rfl, _, _, rfl, rfl, ?_⟩
        refine ⟨_, rfl, _, rfl, _, _, rfl, ?_⟩
        refine ⟨some u, some (.int (m2 : Nat)), some (.int (d2 : Nat)), m + m2, max d d2, ?_, sH.trans s3, fun h1 h2 p' hp' => ?_⟩
        · have e1 : ((m : Int) + (m2 : Int)) = ((m + m2 : Nat) : Int) := rfl
          have e2 : (if (d2 : Int) > (d : Int) then (d2 : Int) else (d : Int)) = ((max d d2 : Nat) : Int) := by
            by_cases g : d2 > d
            · rw [if_pos (by omega), Nat.max_eq_right (by omega)]
            · rw [if_neg (by omega), Nat.max_eq_left (by omega)]
          rw [e2]
          rfl
        · rw [List.take_add_one, et] at hp'
          rcases List.mem_append.mp hp' with hp' | hp'
          · exact rb_up (hid_up s3) (hr1 (by omega) (by omega) p' hp')
          · rw [show p' = tp1 by simpa using hp']
            exact hrb (by omega) (by omega)
      · rintro σ Hi ⟨x, y, z, m, d, rfl, sH, hr1⟩
        refine ⟨_, rfl, _, rfl, _, _, rfl, rfl, (by show 2 ≤ sizeLine; decide), fun p hp => ?_⟩
        refine q p m (d + 1) _ (s1.trans (nl.trans (sH.trans (same_new hp _)))) upd_same fun h1 h2 => (rb_parts c).mpr fun p' hp' => ?_
        rw [lu, List.take_length] at hr1
        exact rb_up (hid_up (same_new hp _)) (hr1 h1 (by omega) p' hp')
end
end Ut
set_option Elab.async false
set_option linter.all false
set_option maxRecDepth 100000
set_option maxHeartbeats 4000000
namespace Ut
open PySem PySem.Spec PyProof.Rows L2
section
variable {P : Program} {w : World} {K : PySem.W.Frag} {mg : Str → Option Value} {base : Heap}
theorem ok_measured (T : Tx w K mg) (D N : Nat) : ∀ n : Nat, Cal P w K mg base (n + 1) "measured" (spMeasured K D N n)
  | 0 => ok_measured0 T D N
  | n + 1 => ok_measuredS T D N n (ok_measured T D N n)
theorem sc_read_back : FnScope ["part", "ties", "hidden", "parts", "inner"] ["part", "ties", "hidden"] (defScope S_read_back) := ⟨rfl, rfl, rfl, by decide +kernel, rfl, by decide +kernel, by decide +kernel⟩
def spReadBack (K : PySem.W.Frag) (D N n : Nat) : Sp := fun vs H Q _ => ∃ B t v ev e hv hs, vs = [v, ev, hv] ∧ Dom B H ∧ TermAt K (hid B H) t v ∧ t.dep ≤ n ∧ TieAt K D N (hid B H) ev e ∧ TxsAt K (hid B H) hv hs ∧ hs.length + n ≤ 1000 ∧ RbT K (hid B H) ev t hs ∧
  ∀ v' H' t', Same H H' → TermAt K (hid B H') t' v' → Q v' H'
theorem ok_read_back0 (T : Tx w K mg) (D N : Nat) : Cal P w K mg base 6 "read_back" (spReadBack K D N 0) := by
  refine cal_mk T 10 10 rfl rfl sc_read_back (fun _ _ _ _ _ _ us hl => match us, hl with | [_, _, _], _ => rfl) (k := 5) (fun vs H Q E h => ?_) (fun cdv A outer s H vs Q E hr h => ?_)
  · obtain ⟨B, t, v, ev, e, hv, hs, rfl, _⟩ := h
    rfl
  obtain ⟨B, t, v, ev, e, hv, hs, rfl, hB, ht, hd, _⟩ := h
  have := dep_pos t
  omega
theorem ok_read_backS (T : Tx w K mg) (D N n : Nat) (c_read_back : Cal P w K mg base (n + 6) "read_back" (spReadBack K D N n)) : Cal P w K mg base (n + 7) "read_back" (spReadBack K D N (n + 1)) := by
  refine cal_mk T 10 10 rfl rfl sc_read_back (fun _ _ _ _ _ _ us hl => match us, hl with | [_, _, _], _ => rfl) (fun vs H Q E h => ?_) (fun cdv A outer s H vs Q E hr h => ?_)
  · obtain ⟨B, t, v, ev, e, hv, hs, rfl, _⟩ := h
    rfl
  obtain ⟨B, t, v, ev, e, hv, hs, rfl, hB, ht, hd, he, hh, hn, hrb, q⟩ := h
  have hu := hu_of hr
  refine ⟨_, (pss_cons (ps_if (pt_val (pe_isi (pv 0) (pe_glob (v := .ref (He.ga K "Name")) rfl (T.glo 56 rfl) rfl) (by rfl) (T.free 69 rfl))) (pss_cons (ps_if (PW.pt (pw_or (pt_cmpR op_in_seq (pe_fld (pv 0) rfl) (pv 2) (by rfl)) (pw_or1 (pt_cmp (pc_dnotin hu (pe_fld (pv 0) rfl) (pv 1)))))) (pss_one (ps_ret (pv 0))) pss_nil)
      (pss_one (ps_ret (pe_fld (pe_dget hu (pv 1) (pe_fld (pv 0) rfl) (fun _ _ => rfl)) rfl)))) pss_nil)
      (pss_cons (ps_if (pt_cmpR op_notN (pe_any fun i => pe_mt0 ((ok_binds T) i) hr (by omega) (pv 0)) pe_non (nomark _)) (pss_one (ps_set (i := 2) sc_read_back.nd rfl (Or.inr rfl) (pe_op op_catA (pv 2) (pe_tup (pa_cons (pe_any fun i => pe_mt0 ((ok_binds T) i) hr (by omega) (pv 0)) pa_nil))))) pss_nil)
      (pss_cons (ps_setLc (i := 3) (own := [("inner", 4)]) (by rfl) sc_read_back.nd rfl rfl (sw_true rfl rfl rfl (by decide +kernel)) (pi_list (pe_any fun i => pe_mt0 ((ok_parts T) i) hr (by omega) (pv 0))) (blkOk_by (own := [("inner", 4)]) (N := ["part", "ties", "hidden", "parts", "inner"]) (sc := defScope S_read_back) (by decide +kernel)) (fun _ _ _ _ _ => (pg_name (i := 4) sc_read_back.nd rfl (by first | exact Or.inl rfl | exact Or.inr rfl))) (fun _ _ _ _ _ => pts_nil) (fun _ _ _ _ _ => (pe_c c_read_back hr (by omega) (by rfl) (pa_cons (pv 4) (pa_cons (pv 1) (pa_cons (pv 2) pa_nil))))))
      (pss_one (ps_ret (pe_any fun i => pe_mt ((ok_rebuilt T) i) hr (by omega) (pv 0) (pa_cons (pv 3) pa_nil))))))), ?_⟩
  have ht' := term_up hid_sub ht
  by_cases c : t.tc = .name
  · cases t with
    | name x =>
      have ht0 := ht
      obtain ⟨ok, a, dx, rfl, ha⟩ := ht
      obtain ⟨hp, rfl, hq⟩ := hh
      cases he with
      | mk f hea hl hk hc =>
        rename_i ea kvs
        refine ⟨_, rfl, true, isi_term T ht' .name rfl (nmd .name .name), _, rfl, iteT ?_⟩
        refine ⟨_, rfl, a, _, dx, _, _, rfl, hid_at ha, T.cls 92, T.noat 118, rfl, _, rfl, hp, _, rfl, .inr (same_seqT hid_sub hq), rfl, flat_strs hs, _, rfl, ?_⟩
        by_cases c1 : x ∈ hs
        · refine ifT (by show inV (.str x) (hs.map V.str) = true; rw [inV_str]; exact decide_eq_true c1) ?_
          exact ⟨_, rfl, q _ H (.name x) (Same.refl H) ht0⟩
        refine ifF (by show inV (.str x) (hs.map V.str) = false; rw [inV_str]; exact decide_eq_false c1) ?_
        refine ⟨_, rfl, a, _, dx, _, _, rfl, hid_at ha, T.cls 92, T.noat 118, rfl, _, rfl, ea, _, rfl, DGet.k (k := Sum.inr x) (hid_at hea), _, rfl, ?_⟩
        have hkx := hk x
        cases c2 : e x with
        | none =>
          rw [c2] at hkx
          have hkx : valV kvs (Sum.inr x : Key) = none := hkx
          rw [hkx]
          exact ifT rfl ⟨_, rfl, q _ H (.name x) (Same.refl H) ht0⟩
        | some cl =>
          rw [c2] at hkx
          have hkx : valV kvs (Sum.inr x : Key) = some (f x) := hkx
          obtain ⟨b, bx, tv, ev2, fv, m, d, t', eb, hb, hft⟩ : LateFull K (hid B H) (f x) := by
            rcases hrb with hrb | ⟨a2, kvs2, e2, h2, h3⟩
            · exact absurd hrb c1
            · cases e2
              rw [hea] at h2
              cases h2
              exact h3 _ hkx
          have hg : DGet H ea (.str x) (some (.ref b)) := by rw [← eb, ← hkx]; exact DGet.k (k := Sum.inr x) (hid_at hea)
          rw [hkx]
          refine ifF rfl ?_
          exact ⟨_, rfl, _, rfl, a, _, dx, _, _, rfl, hid_at ha, T.cls 92, T.noat 118, rfl, ea, _, rfl, hg, b, _, bx, _, _, rfl, hid_at hb, T.cls 106, T.noat 136, rfl, q fv H t' (Same.refl H) hft⟩
    | _ => cases c
  have hrp := (rb_parts c).mp hrb
  obtain ⟨a, dx, fs, rfl, ha, l1, l2, l3, l4⟩ := term_ins ht
  refine ⟨_, rfl, false, isi_term T ht' .name rfl (by rw [nmd]; exact decide_eq_false c), _, rfl, iteF ?_⟩
  refine ⟨t.tc, _, rfl, a, dx, fs, rfl, hid_at ha, l2, t, .ref a, rfl, rfl, ht', rfl, _, rfl, ?_⟩
  have hl2 := hid_len t hs
  cases eb : t.binds with
  | none =>
    have ebv : bindV t = .non := by unfold bindV; rw [eb]
    rw [ebv]
    refine ifF rfl ?_
    obtain ⟨H1, s1, eH⟩ : ∃ H1, Same H H1 ∧ H1 = H := ⟨H, Same.refl H, rfl⟩
    rw [← eH]
    obtain ⟨W, eW⟩ : ∃ W, W = hv := ⟨_, rfl⟩
    rw [← eW]
    have hw : TxsAt K (hid B H1) W (hidOf t hs) := by
      unfold hidOf
      rw [eb, eH, eW]
      exact hh
    clear eH eW
    have hB1 := hB.up s1
    have ht1 := term_up (hid_up s1) ht
    have he1 := tie_up (hid_up s1) (Nat.le_refl N) he
    refine ⟨t.tc, _, rfl, a, dx, fs, rfl, s1 _ _ (hid_at ha), l1, t, .ref a, hid B H1, rfl, rfl, hid_sub, ht1, fun l us hl hus => ?_⟩
    have nl := same_new hl (.lst us)
    have lu := terms_len hus
    refine ⟨l, rfl, ⟨us, SqL.new upd_same⟩, fun L hL => ?_⟩
    have neL : l ≠ L := ne_of_none upd_same hL
    refine lc_list (K := K) (a := l) (xs := us) (fun i Hi => ∃ zs ts', Same (upd H1 l (.lst us)) (hid [L] Hi) ∧ Hi L = some (.lst zs) ∧ zs.length = i ∧ ts'.length = i ∧ TermsAt K (hid (L :: B) Hi) ts' zs)
      ⟨[], [], same_hid_new hL, upd_same, rfl, rfl, .nil⟩ (fun i Hi _ h => ?_) ?_ ?_
    · obtain ⟨zs, ts', sH, _⟩ := h
      exact (sH.trans hid_sub).seq (SqL.new upd_same)
    · rintro i u Hi hi ⟨zs, ts', sH, hLi, hz1, hz2, hts⟩
      obtain ⟨tp1, et, htp⟩ := terms_at hus hi
      have hmem : tp1 ∈ t.parts := List.mem_of_getElem? et
      have hdp := dep_part hmem
      have sX := nl.trans (sH.trans hid_sub)
      have sM := same_hid_more (B := B) (sH.trans hid_sub) hL
      have sM1 := (hid_up nl).trans sM
      have hBi : Dom (L :: B) Hi := (hB1.up sX).cons (by rw [hLi]; exact Option.some_ne_none _)
      refine ⟨rfl, yes_turn ⟨_, rfl, _, rfl, _, rfl, L :: B, tp1, u, ev, e, W, hidOf t hs, rfl, hBi, term_up sM1 htp, by omega, tie_up sM1 (Nat.le_refl N) he1, txs_up sM1 hw, by omega, rb_up ((hid_up s1).trans sM1) (hrp tp1 hmem), fun v' H3 t' s3 htv => ?_⟩⟩
      have hL3 := s3 _ _ hLi
      have hlt : i < us.length := (List.getElem?_eq_some_iff.mp hi).1
      have hp3 := parts_len t
      refine ⟨zs, hL3, (by show zs.length < 2 ^ 24; omega), zs ++ [v'], ts' ++ [t'], ?_, upd_same, by rw [List.length_append, hz1]; rfl, by rw [List.length_append, hz2]; rfl, ?_⟩
      · exact (sH.trans (hid_up s3)).trans (samex_hid (samex_upd (by simp) _))
      · have s5 : Same (hid (L :: B) H3) (hid (L :: B) (upd H3 L (.lst (zs ++ [v'])))) := samex_hid (samex_upd (by simp) _)
        exact terms_snoc (terms_up ((hid_up s3).trans s5) hts) (term_up s5 htv)
    · rintro Hi ⟨zs, ts', sH, hLi, hz1, hz2, hts⟩
      have sX := nl.trans (sH.trans hid_sub)
      refine ⟨t.tc, _, rfl, a, dx, fs, rfl, sX _ _ (s1 _ _ (hid_at ha)), l4, _, rfl, ?_⟩
      refine ⟨B, t, .ref a, L, zs, ts', rfl, rfl, hB1.up sX, term_up (hid_up sX) ht1, hLi, terms_up hid_less hts, by rw [hz2, lu], fun v' H3 t' s3 htv => ?_⟩
      exact q v' H3 t' (s1.trans (sX.trans s3)) htv
  | some x =>
    have ebv : bindV t = .str x := by unfold bindV; rw [eb]
    rw [ebv]
    refine ifT rfl ?_
    obtain ⟨hp, rfl, hq⟩ := hh
    refine ⟨_, rfl, t.tc, _, rfl, a, dx, fs, rfl, hid_at ha, l2, t, .ref a, rfl, rfl, ht', ?_⟩
    rw [ebv]
    refine ⟨(by show 1 ≤ sizeLine; decide), fun p1 hp1 => ?_⟩
    have n1 := same_new hp1 (.tup [.str x])
    refine ⟨hp, p1, _, [.str x], rfl, rfl, same_seqT (hid_sub.trans n1) hq, SqT.new upd_same, (by show (hs.map V.str).length + 1 ≤ 2 ^ 24; rw [List.length_map]; omega), fun e0 => ?_, fun _ e0 => (by cases e0), fun _ _ p2 hp2 => ?_⟩
    · obtain ⟨H1, s1, eH⟩ : ∃ H1, Same H H1 ∧ H1 = upd H p1 (.tup [.str x]) := ⟨_, n1, rfl⟩
      have hw : TxsAt K (hid B H1) (.ref p1) (hidOf t hs) := by
        unfold hidOf
        rw [eb, eH]
        rw [List.map_eq_nil_iff.mp e0]
        exact ⟨p1, rfl, SqT.new (hid_new hB hp1)⟩
      rw [← eH]
      obtain ⟨W, eW⟩ : ∃ W, W = V.ref p1 := ⟨_, rfl⟩
      rw [← eW] at hw ⊢
      clear eH eW
      have hB1 := hB.up s1
      have ht1 := term_up (hid_up s1) ht
      have he1 := tie_up (hid_up s1) (Nat.le_refl N) he
      refine ⟨t.tc, _, rfl, a, dx, fs, rfl, s1 _ _ (hid_at ha), l1, t, .ref a, hid B H1, rfl, rfl, hid_sub, ht1, fun l us hl hus => ?_⟩
      have nl := same_new hl (.lst us)
      have lu := terms_len hus
      refine ⟨l, rfl, ⟨us, SqL.new upd_same⟩, fun L hL => ?_⟩
      have neL : l ≠ L := ne_of_none upd_same hL
      refine lc_list (K := K) (a := l) (xs := us) (fun i Hi => ∃ zs ts', Same (upd H1 l (.lst us)) (hid [L] Hi) ∧ Hi L = some (.lst zs) ∧ zs.length = i ∧ ts'.length = i ∧ TermsAt K (hid (L :: B) Hi) ts' zs)
        ⟨[], [], same_hid_new hL, upd_same, rfl, rfl, .nil⟩ (fun i Hi _ h => ?_) ?_ ?_
      · obtain ⟨zs, ts', sH, _⟩ := h
        exact (sH.trans hid_sub).seq (SqL.new upd_same)
      · rintro i u Hi hi ⟨zs, ts', sH, hLi, hz1, hz2, hts⟩
        obtain ⟨tp1, et, htp⟩ := terms_at hus hi
        have hmem : tp1 ∈ t.parts := List.mem_of_getElem? et
        have hdp := dep_part hmem
        have sX := nl.trans (sH.trans hid_sub)
        have sM := same_hid_more (B := B) (sH.trans hid_sub) hL
        have sM1 := (hid_up nl).trans sM
        have hBi : Dom (L :: B) Hi := (hB1.up sX).cons (by rw [hLi]; exact Option.some_ne_none _)
        refine ⟨rfl, yes_turn ⟨_, rfl, _, rfl, _, rfl, L :: B, tp1, u, ev, e, W, hidOf t hs, rfl, hBi, term_up sM1 htp, by omega, tie_up sM1 (Nat.le_refl N) he1, txs_up sM1 hw, by omega, rb_up ((hid_up s1).trans sM1) (hrp tp1 hmem), fun v' H3 t' s3 htv => ?_⟩⟩
        have hL3 := s3 _ _ hLi
        have hlt : i < us.length := (List.getElem?_eq_some_iff.mp hi).1
        have hp3 := parts_len t
        refine ⟨zs, hL3, (by show zs.length < 2 ^ 24; omega), zs ++ [v'], ts' ++ [t'], ?_, upd_same, by rw [List.length_append, hz1]; rfl, by rw [List.length_append, hz2]; rfl, ?_⟩
        · exact (sH.trans (hid_up s3)).trans (samex_hid (samex_upd (by simp) _))
        · have s5 : Same (hid (L :: B) H3) (hid (L :: B) (upd H3 L (.lst (zs ++ [v'])))) := samex_hid (samex_upd (by simp) _)
          exact terms_snoc (terms_up ((hid_up s3).trans s5) hts) (term_up s5 htv)
      · rintro Hi ⟨zs, ts', sH, hLi, hz1, hz2, hts⟩
        have sX := nl.trans (sH.trans hid_sub)
        refine ⟨t.tc, _, rfl, a, dx, fs, rfl, sX _ _ (s1 _ _ (hid_at ha)), l4, _, rfl, ?_⟩
        refine ⟨B, t, .ref a, L, zs, ts', rfl, rfl, hB1.up sX, term_up (hid_up sX) ht1, hLi, terms_up hid_less hts, by rw [hz2, lu], fun v' H3 t' s3 htv => ?_⟩
        exact q v' H3 t' (s1.trans (sX.trans s3)) htv
    · have n2 := same_new hp2 (.tup (hs.map V.str ++ [.str x]))
      obtain ⟨H1, s1, eH⟩ : ∃ H1, Same H H1 ∧ H1 = upd (upd H p1 (.tup [.str x])) p2 (.tup (hs.map V.str ++ [.str x])) := ⟨_, n1.trans n2, rfl⟩
      have hw : TxsAt K (hid B H1) (.ref p2) (hidOf t hs) := by
        unfold hidOf
        rw [eb, eH]
        refine ⟨p2, rfl, SqT.new ?_⟩
        rw [hid_new (hB.up n1) hp2, List.map_append]
        rfl
      rw [← eH]
      obtain ⟨W, eW⟩ : ∃ W, W = V.ref p2 := ⟨_, rfl⟩
      rw [← eW] at hw ⊢
      clear eH eW
      have hB1 := hB.up s1
      have ht1 := term_up (hid_up s1) ht
      have he1 := tie_up (hid_up s1) (Nat.le_refl N) he
      refine ⟨t.tc, _, rfl, a, dx, fs, rfl, s1 _ _ (hid_at ha), l1, t, .ref a, hid B H1, rfl, rfl, hid_sub, ht1, fun l us hl hus => ?_⟩
      have nl := same_new hl (.lst us)
      have lu := terms_len hus
      refine ⟨l, rfl, ⟨us, SqL.new upd_same⟩, fun L hL => ?_⟩
      have neL : l ≠ L := ne_of_none upd_same hL
      refine lc_list (K := K) (a := l) (xs := us) (fun i Hi => ∃ zs ts', Same (upd H1 l (.lst us)) (hid [L] Hi) ∧ Hi L = some (.lst zs) ∧ zs.length = i ∧ ts'.length = i ∧ TermsAt K (hid (L :: B) Hi) ts' zs)
        ⟨[], [], same_hid_new hL, upd_same, rfl, rfl, .nil⟩ (fun i Hi _ h => ?_) ?_ ?_
      · obtain ⟨zs, ts', sH, _⟩ := h
        exact (sH.trans hid_sub).seq (SqL.new upd_same)
      · rintro i u Hi hi ⟨zs, ts', sH, hLi, hz1, hz2, hts⟩
        obtain ⟨tp1, et, htp⟩ := terms_at hus hi
        have hmem : tp1 ∈ t.parts := List.mem_of_getElem? et
        have hdp := dep_part hmem
        have sX := nl.trans (sH.trans hid_sub)
        have sM := same_hid_more (B := B) (sH.trans hid_sub) hL
        have sM1 := (hid_up nl).trans sM
        have hBi : Dom (L :: B) Hi := (hB1.up sX).cons (by rw [hLi]; exact Option.some_ne_none _)
        refine ⟨rfl, yes_turn ⟨_, rfl, _, rfl, _, rfl, L :: B, tp1, u, ev, e, W, hidOf t hs, rfl, hBi, term_up sM1 htp, by omega, tie_up sM1 (Nat.le_refl N) he1, txs_up sM1 hw, by omega, rb_up ((hid_up s1).trans sM1) (hrp tp1 hmem), fun v' H3 t' s3 htv => ?_⟩⟩
        have hL3 := s3 _ _ hLi
        have hlt : i < us.length := (List.getElem?_eq_some_iff.mp hi).1
        have hp3 := parts_len t
        refine ⟨zs, hL3, (by show zs.length < 2 ^ 24; omega), zs ++ [v'], ts' ++ [t'], ?_, upd_same, by rw [List.length_append, hz1]; rfl, by rw [List.length_append, hz2]; rfl, ?_⟩
        · exact (sH.trans (hid_up s3)).trans (samex_hid (samex_upd (by simp) _))
        · have s5 : Same (hid (L :: B) H3) (hid (L :: B) (upd H3 L (.lst (zs ++ [v'])))) := samex_hid (samex_upd (by simp) _)
          exact terms_snoc (terms_up ((hid_up s3).trans s5) hts) (term_up s5 htv)
      · rintro Hi ⟨zs, ts', sH, hLi, hz1, hz2, hts⟩
        have sX := nl.trans (sH.trans hid_sub)
        refine ⟨t.tc, _, rfl, a, dx, fs, rfl, sX _ _ (s1 _ _ (hid_at ha)), l4, _, rfl, ?_⟩
        refine ⟨B, t, .ref a, L, zs, ts', rfl, rfl, hB1.up sX, term_up (hid_up sX) ht1, hLi, terms_up hid_less hts, by rw [hz2, lu], fun v' H3 t' s3 htv => ?_⟩
        exact q v' H3 t' (s1.trans (sX.trans s3)) htv
theorem ok_read_back (T : Tx w K mg) (D N : Nat) : ∀ n : Nat, Cal P w K mg base (n + 6) "read_back" (spReadBack K D N n)
  | 0 => ok_read_back0 T D N
  | n + 1 => ok_read_backS T D N n (ok_read_back T D N n)
end
end Ut
set_option Elab.async false
set_option linter.all false
set_option maxRecDepth 100000
set_option maxHeartbeats 4000000
namespace Ut
open PySem PySem.Spec PyProof.Rows L2
section
variable {P : Program} {w : World} {K : PySem.W.Frag} {mg : Str → Option Value} {base : Heap}
theorem sc_is_beyond : FnScope ["places", "deep"] ["places", "deep"] (defScope S_is_beyond) := ⟨rfl, rfl, rfl, by decide +kernel, rfl, by decide +kernel, by decide +kernel⟩
def spBeyond : Sp := fun vs H Q _ => ∃ m d : Nat, vs = [.int (m : Nat), .int (d : Nat)] ∧ Q (.bl (decide (600 < m) || decide (60 < d))) H
theorem ok_is_beyond (T : Tx w K mg) : Cal P w K mg base 1 "is_beyond" spBeyond := by
  refine cal_mk T 8 8 rfl rfl sc_is_beyond (fun _ _ _ _ _ _ us hl => match us, hl with | [_, _], _ => rfl) (fun vs H Q E h => ?_) (fun cdv A outer s H vs Q E hr h => ?_)
  · obtain ⟨m, d, rfl, _⟩ := h
    rfl
  obtain ⟨m, d, rfl, q⟩ := h
  refine ⟨_, (pss_one (ps_ret (pe_or (pe_cmpR op_gt (pv 0) (C8.pe_gc rfl (T.int 85 rfl)) (nomark _)) (pe_one (pe_cmpR op_gt (pv 1) (C8.pe_gc rfl (T.int 86 rfl)) (nomark _)))))), ?_⟩
  refine ⟨_, rfl, _, _, rfl, rfl, _, rfl, ?_⟩
  by_cases c : 600 < m
  · refine ifT (decide_eq_true (by omega)) ?_
    rw [decide_eq_true c] at q
    exact q
  · refine ifF (decide_eq_false (by omega)) ?_
    refine ⟨_, rfl, _, _, rfl, rfl, ?_⟩
    rw [decide_eq_false c, Bool.false_or] at q
    have e : decide ((d : Int) > 60) = decide (60 < d) := by
      by_cases c2 : 60 < d
      · rw [decide_eq_true c2]; exact decide_eq_true (by omega)
      · rw [decide_eq_false c2]; exact decide_eq_false (by omega)
    show Q (.bl (decide ((60 : Int) < (d : Int)))) H
    have e2 : decide ((60 : Int) < (d : Int)) = decide (60 < d) := e
    rw [e2]
    exact q
theorem samex_more {H H' : Hp} {x : Addr} {B : List Addr} (s : SameX [x] H H') : SameX (x :: B) H H' := fun b o n h => s b o (fun m => n (by rw [List.mem_singleton.mp m]; exact List.mem_cons_self)) h
theorem sc_Late_init : FnScope ["self", "what", "ties", "places", "deep"] ["self", "what", "ties"] (defScope S_Late_init) := ⟨rfl, rfl, rfl, by decide +kernel, rfl, by decide +kernel, by decide +kernel⟩
def spLate (K : PySem.W.Frag) (D N : Nat) : Sp := fun vs H Q _ => ∃ B p dx tv ev t e, vs = [.ref p, tv, ev] ∧ Dom (p :: B) H ∧ H p = some (.ins (He.ga K "Late") dx []) ∧ TermAt K (hid (p :: B) H) t tv ∧ t.dep ≤ D ∧ TieAt K D N (hid (p :: B) H) ev e ∧
  ∀ H' (m d : Nat) fv, SameX [p] H H' → H' p = some (.ins (He.ga K "Late") dx [("what", tv), ("ties", ev), ("many", .int (m : Nat)), ("deep", .int (d : Nat)), ("full", fv)]) → (m ≤ 600 → d ≤ 60 → ∃ t', TermAt K (hid (p :: B) H') t' fv) → Q .non H'
theorem ok_Late_init (T : Tx w K mg) (D N : Nat) (hD : D ≤ 900) : Mak P w K mg base (D + 7) "Late" (He.ga K "Late") (spLate K D N) := by
  have c_measured : Cal P w K mg base (D + 1) "measured" (spMeasured K D N D) := ok_measured T D N D
  have c_read_back : Cal P w K mg base (D + 6) "read_back" (spReadBack K D N D) := ok_read_back T D N D
  have c_is_beyond : Cal P w K mg base 1 "is_beyond" spBeyond := ok_is_beyond T
  refine mak_mk T 102 107 63 rfl rfl rfl sc_Late_init (fun _ _ _ _ _ _ us hl => match us, hl with | [_, _, _], _ => rfl) (fun vs H Q E h => ?_) (fun cdv A outer s H vs Q E hr h => ?_)
  · obtain ⟨B, p, dx, tv, ev, t, e, rfl, _⟩ := h
    rfl
  obtain ⟨B, p, dx, tv, ev, t, e, rfl, hB, hp, ht, hd, he, q⟩ := h
  refine ⟨_, (pss_cons (ps_fld (pv 0) (pv 1) rfl)
      (pss_cons (ps_fld (pv 0) (pv 2) rfl)
      (pss_cons (ps_asg (pe_c c_measured hr (by omega) (by rfl) (pa_cons (pv 1) (pa_cons (pv 2) (pa_cons (pe_tup pa_nil) pa_nil)))) (pg_tup (by rfl) (pgs_cons (pg_name (i := 3) sc_Late_init.nd rfl (Or.inl rfl)) (pgs_cons (pg_name (i := 4) sc_Late_init.nd rfl (Or.inl rfl)) pgs_nil))))
      (pss_cons (ps_fld (pv 0) (pv 3) rfl)
      (pss_cons (ps_fld (pv 0) (pv 4) rfl)
      (pss_one (ps_fld (pv 0) (pe_ifExp (pt_val (pe_c c_is_beyond hr (by omega) (by rfl) (pa_cons (pv 3) (pa_cons (pv 4) pa_nil)))) pe_non (pe_c c_read_back hr (by omega) (by rfl) (pa_cons (pv 1) (pa_cons (pv 2) (pa_cons (pe_tup pa_nil) pa_nil))))) rfl))))))), ?_⟩
  refine ⟨_, rfl, _, rfl, p, _, dx, _, rfl, hp, T.cls 106, T.noat 132, by decide, ?_⟩
  refine ⟨_, rfl, _, rfl, p, _, dx, _, rfl, upd_same, T.cls 106, T.noat 133, (by show 1 < 1000; decide), ?_⟩
  have x1 : SameX [p] H (upd (upd H p (.ins (He.ga K "Late") dx (putF "what" tv []))) p (.ins (He.ga K "Late") dx (putF "ties" ev (putF "what" tv [])))) := samex_ins.trans samex_ins
  have hp1 : (upd (upd H p (.ins (He.ga K "Late") dx (putF "what" tv []))) p (.ins (He.ga K "Late") dx (putF "ties" ev (putF "what" tv [])))) p = some (.ins (He.ga K "Late") dx [("what", tv), ("ties", ev)]) := upd_same
  generalize (upd (upd H p (.ins (He.ga K "Late") dx (putF "what" tv []))) p (.ins (He.ga K "Late") dx (putF "ties" ev (putF "what" tv [])))) = H1 at x1 hp1 ⊢
  have y1 : Same (hid (p :: B) H) (hid (p :: B) H1) := samex_hid (samex_more x1)
  have hB1 : Dom (p :: B) H1 := fun a m e0 => by
    by_cases ea : a = p
    · rw [ea, hp1] at e0; cases e0
    · cases z : H a with
      | none => exact hB a m z
      | some o => rw [x1 a o (by simpa using ea) z] at e0; cases e0
  refine ⟨_, rfl, _, rfl, Nat.zero_le _, fun p2 hp2 => ?_⟩
  have n2 := same_new hp2 (.tup [])
  refine ⟨p :: B, t, tv, ev, e, .ref p2, [], rfl, hB1.up n2, term_up (y1.trans (hid_up n2)) ht, hd, tie_up (y1.trans (hid_up n2)) (Nat.le_refl N) he, ⟨p2, rfl, SqT.new (hid_new hB1 hp2)⟩, (by show 0 + D ≤ 1000; omega), fun p3 m d H3 s3 hp3 hrb => ?_⟩
  refine ⟨p3, _, rfl, SqT.new hp3, rfl, _, _, rfl, _, _, rfl, rfl, ?_⟩
  have s13 := n2.trans s3
  have hpp3 := s13 _ _ hp1
  refine ⟨_, rfl, _, rfl, p, _, dx, _, rfl, hpp3, T.cls 106, T.noat 134, (by show 2 < 1000; decide), ?_⟩
  refine ⟨_, rfl, _, rfl, p, _, dx, _, rfl, upd_same, T.cls 106, T.noat 135, (by show 3 < 1000; decide), ?_⟩
  have x3 : SameX [p] H3 (upd (upd H3 p (.ins (He.ga K "Late") dx (putF "many" (.int (m : Nat)) [("what", tv), ("ties", ev)]))) p (.ins (He.ga K "Late") dx (putF "deep" (.int (d : Nat)) (putF "many" (.int (m : Nat)) [("what", tv), ("ties", ev)])))) := samex_ins.trans samex_ins
  have hp4 : (upd (upd H3 p (.ins (He.ga K "Late") dx (putF "many" (.int (m : Nat)) [("what", tv), ("ties", ev)]))) p (.ins (He.ga K "Late") dx (putF "deep" (.int (d : Nat)) (putF "many" (.int (m : Nat)) [("what", tv), ("ties", ev)])))) p = some (.ins (He.ga K "Late") dx [("what", tv), ("ties", ev), ("many", .int (m : Nat)), ("deep", .int (d : Nat))]) := upd_same
  generalize (upd (upd H3 p (.ins (He.ga K "Late") dx (putF "many" (.int (m : Nat)) [("what", tv), ("ties", ev)]))) p (.ins (He.ga K "Late") dx (putF "deep" (.int (d : Nat)) (putF "many" (.int (m : Nat)) [("what", tv), ("ties", ev)])))) = H4 at x3 hp4 ⊢
  have y4 : Same (hid (p :: B) H3) (hid (p :: B) H4) := samex_hid (samex_more x3)
  have hB3 := hB1.up s13
  have hB4 : Dom (p :: B) H4 := fun a m e0 => by
    by_cases ea : a = p
    · rw [ea, hp4] at e0; cases e0
    · cases z : H3 a with
      | none => exact hB3 a m z
      | some o => rw [x3 a o (by simpa using ea) z] at e0; cases e0
  have x04 : SameX [p] H H4 := (x1.trans (same_x s13)).trans x3
  refine ⟨_, rfl, _, rfl, m, d, rfl, _, rfl, ?_⟩
  by_cases cb : 600 < m ∨ 60 < d
  · refine ifT (by rcases cb with c | c <;> simp [c]) ?_
    refine ⟨_, rfl, p, _, dx, _, rfl, hp4, T.cls 106, T.noat 136, (by show 4 < 1000; decide), ?_⟩
    exact q _ m d .non (x04.trans samex_ins) upd_same fun h1 h2 => by omega
  · refine ifF (by simp; omega) ?_
    refine ⟨_, rfl, _, rfl, Nat.zero_le _, fun p5 hp5 => ?_⟩
    have n5 := same_new hp5 (.tup [])
    have y5 := y4.trans (hid_up n5)
    have y05 := (y1.trans (hid_up s13)).trans y5
    refine ⟨p :: B, t, tv, ev, e, .ref p5, [], rfl, hB4.up n5, term_up y05 ht, hd, tie_up y05 (Nat.le_refl N) he, ⟨p5, rfl, SqT.new (hid_new hB4 hp5)⟩, (by show 0 + D ≤ 1000; omega), rb_up y5 (hrb (by omega) (by omega)), fun fv H6 t' s6 hfv => ?_⟩
    have s46 := n5.trans s6
    refine ⟨_, rfl, p, _, dx, _, rfl, s46 _ _ hp4, T.cls 106, T.noat 136, (by show 4 < 1000; decide), ?_⟩
    exact q _ m d fv ((x04.trans (same_x s46)).trans samex_ins) upd_same fun _ _ => ⟨t', term_up (samex_hid (samex_upd List.mem_cons_self _)) hfv⟩
/-- Late(..) made -/
theorem late_use {D N : Nat} {B : List Addr} {t : Tm} {e : Tie} {tv ev : V} {H1 : Hp} {Q : VK} {E : XK} (hB : Dom B H1) (ht : TermAt K (hid B H1) t tv) (hd : t.dep ≤ D) (he : TieAt K D N (hid B H1) ev e) (k : ∀ x H', Same H1 H' → LateAt K D N (hid B H') x (.mk t e) → Q x H') :
    ∀ x dx, H1 x = none → H1 dx = none → dx ≠ x → spLate K D N (.ref x :: ([tv, ev] ++ [])) (upd (upd H1 dx (.own x)) x (.ins (He.ga K "Late") dx [])) (fun v H2 => v = .non ∧ Q (.ref x) H2) E := by
  intro x dx hx hdx ne
  have s0 : Same H1 (upd (upd H1 dx (.own x)) x (.ins (He.ga K "Late") dx [])) := fun b o e => by
    rw [upd_ne (ne_of_none e hx), upd_ne (ne_of_none e hdx)]
    exact e
  have sm := same_hid_more (B := B) s0 hx
  refine ⟨B, x, dx, tv, ev, t, e, rfl, (hB.up s0).cons (by rw [upd_same]; exact Option.some_ne_none _), upd_same, term_up sm ht, hd, tie_up sm (Nat.le_refl N) he, fun H' m d fv sx hx' hf => ⟨rfl, ?_⟩⟩
  have s1 : Same H1 H' := fun b o e => by
    have nb : b ≠ x := ne_of_none e hx
    exact sx b o (by simpa using nb) (s0 b o e)
  refine k (.ref x) H' s1 (.mk (hid_got hB hx hx') (term_up (hid_up s1) ht) hd (tie_up (hid_up s1) (Nat.le_refl N) he) fun h1 h2 => ?_)
  obtain ⟨t', h⟩ := hf h1 h2
  exact ⟨t', term_up hid_less h⟩
theorem sc_GivenWait_init : FnScope ["self", "late"] ["self", "late"] (defScope S_GivenWait_init) := ⟨rfl, rfl, rfl, by decide +kernel, rfl, by decide +kernel, by decide +kernel⟩
def okWGivenWait : List V → List (Str × V) → Hp → Prop := fun args fs _ => ∃ u, args = [u] ∧ fs = ([("late", u)] : List (Str × V))
theorem ok_GivenWait_init (T : Tx w K mg) : Mak P w K mg base 1 "GivenWait" (He.ga K "GivenWait") (spInit K "GivenWait" okWGivenWait) := by
  refine mak_mk T 90 109 64 rfl rfl rfl sc_GivenWait_init (fun _ _ _ _ _ _ us hl => match us, hl with | [_, _], _ => rfl) (fun vs H Q E h => ?_) (fun cdv A outer s0 H vs Q E hr h => ?_)
  · obtain ⟨p, dx, args, fs, rfl, _, ⟨u, rfl, _⟩, _⟩ := h
    rfl
  obtain ⟨p, dx, args, fs, rfl, hp, ⟨u, rfl, rfl⟩, q⟩ := h
  refine ⟨_, (pss_one (ps_fld (pv 0) (pv 1) rfl)), ?_⟩
  refine ⟨_, rfl, _, rfl, p, _, dx, _, rfl, hp, T.cls 108, T.noat 137, (by show 0 < 1000; decide), ?_⟩
  exact q _ (samex_ins) upd_same
theorem sc_OtherWait_init : FnScope ["self", "sign", "late"] ["self", "sign", "late"] (defScope S_OtherWait_init) := ⟨rfl, rfl, rfl, by decide +kernel, rfl, by decide +kernel, by decide +kernel⟩
def okWOtherWait : List V → List (Str × V) → Hp → Prop := fun args fs _ => ∃ s  u, args = [.str s, u] ∧ fs = ([("sign", .str s), ("late", u)] : List (Str × V))
theorem ok_OtherWait_init (T : Tx w K mg) : Mak P w K mg base 1 "OtherWait" (He.ga K "OtherWait") (spInit K "OtherWait" okWOtherWait) := by
  refine mak_mk T 93 111 65 rfl rfl rfl sc_OtherWait_init (fun _ _ _ _ _ _ us hl => match us, hl with | [_, _, _], _ => rfl) (fun vs H Q E h => ?_) (fun cdv A outer s0 H vs Q E hr h => ?_)
  · obtain ⟨p, dx, args, fs, rfl, _, ⟨s, u, rfl, _⟩, _⟩ := h
    rfl
  obtain ⟨p, dx, args, fs, rfl, hp, ⟨s, u, rfl, rfl⟩, q⟩ := h
  refine ⟨_, (pss_cons (ps_fld (pv 0) (pv 1) rfl)
      (pss_one (ps_fld (pv 0) (pv 2) rfl))), ?_⟩
  refine ⟨_, rfl, _, rfl, p, _, dx, _, rfl, hp, T.cls 110, T.noat 138, (by show 0 < 1000; decide), ?_⟩
  refine ⟨_, rfl, _, rfl, p, _, dx, _, rfl, upd_same, T.cls 110, T.noat 139, (by show 1 < 1000; decide), ?_⟩
  exact q _ ((samex_ins).trans samex_ins) upd_same
theorem sc_NumberWait_init : FnScope ["self", "sign", "number"] ["self", "sign", "number"] (defScope S_NumberWait_init) := ⟨rfl, rfl, rfl, by decide +kernel, rfl, by decide +kernel, by decide +kernel⟩
def okWNumberWait : List V → List (Str × V) → Hp → Prop := fun args fs _ => ∃ s  i, args = [.str s, .int i] ∧ fs = ([("sign", .str s), ("number", .int i)] : List (Str × V))
theorem ok_NumberWait_init (T : Tx w K mg) : Mak P w K mg base 1 "NumberWait" (He.ga K "NumberWait") (spInit K "NumberWait" okWNumberWait) := by
  refine mak_mk T 96 113 66 rfl rfl rfl sc_NumberWait_init (fun _ _ _ _ _ _ us hl => match us, hl with | [_, _, _], _ => rfl) (fun vs H Q E h => ?_) (fun cdv A outer s0 H vs Q E hr h => ?_)
  · obtain ⟨p, dx, args, fs, rfl, _, ⟨s, i, rfl, _⟩, _⟩ := h
    rfl
  obtain ⟨p, dx, args, fs, rfl, hp, ⟨s, i, rfl, rfl⟩, q⟩ := h
  refine ⟨_, (pss_cons (ps_fld (pv 0) (pv 1) rfl)
      (pss_one (ps_fld (pv 0) (pv 2) rfl))), ?_⟩
  refine ⟨_, rfl, _, rfl, p, _, dx, _, rfl, hp, T.cls 112, T.noat 140, (by show 0 < 1000; decide), ?_⟩
  refine ⟨_, rfl, _, rfl, p, _, dx, _, rfl, upd_same, T.cls 112, T.noat 141, (by show 1 < 1000; decide), ?_⟩
  exact q _ ((samex_ins).trans samex_ins) upd_same
theorem sc_ChoiceWait_init : FnScope ["self", "nought", "other"] ["self", "nought", "other"] (defScope S_ChoiceWait_init) := ⟨rfl, rfl, rfl, by decide +kernel, rfl, by decide +kernel, by decide +kernel⟩
def okWChoiceWait : List V → List (Str × V) → Hp → Prop := fun args fs _ => ∃ u1  u2, args = [u1, u2] ∧ fs = ([("nought", u1), ("other", u2)] : List (Str × V))
theorem ok_ChoiceWait_init (T : Tx w K mg) : Mak P w K mg base 1 "ChoiceWait" (He.ga K "ChoiceWait") (spInit K "ChoiceWait" okWChoiceWait) := by
  refine mak_mk T 99 115 67 rfl rfl rfl sc_ChoiceWait_init (fun _ _ _ _ _ _ us hl => match us, hl with | [_, _, _], _ => rfl) (fun vs H Q E h => ?_) (fun cdv A outer s0 H vs Q E hr h => ?_)
  · obtain ⟨p, dx, args, fs, rfl, _, ⟨u1, u2, rfl, _⟩, _⟩ := h
    rfl
  obtain ⟨p, dx, args, fs, rfl, hp, ⟨u1, u2, rfl, rfl⟩, q⟩ := h
  refine ⟨_, (pss_cons (ps_fld (pv 0) (pv 1) rfl)
      (pss_one (ps_fld (pv 0) (pv 2) rfl))), ?_⟩
  refine ⟨_, rfl, _, rfl, p, _, dx, _, rfl, hp, T.cls 114, T.noat 142, (by show 0 < 1000; decide), ?_⟩
  refine ⟨_, rfl, _, rfl, p, _, dx, _, rfl, upd_same, T.cls 114, T.noat 143, (by show 1 < 1000; decide), ?_⟩
  exact q _ ((samex_ins).trans samex_ins) upd_same
theorem sc_State_init : FnScope ["self", "at", "ties", "pile"] ["self", "at", "ties", "pile"] (defScope S_State_init) := ⟨rfl, rfl, rfl, by decide +kernel, rfl, by decide +kernel, by decide +kernel⟩
def okWState : List V → List (Str × V) → Hp → Prop := fun args fs _ => ∃ u1  u2  u3, args = [u1, u2, u3] ∧ fs = ([("at", u1), ("ties", u2), ("pile", u3)] : List (Str × V))
theorem ok_State_init (T : Tx w K mg) : Mak P w K mg base 1 "State" (He.ga K "State") (spInit K "State" okWState) := by
  refine mak_mk T 103 117 68 rfl rfl rfl sc_State_init (fun _ _ _ _ _ _ us hl => match us, hl with | [_, _, _, _], _ => rfl) (fun vs H Q E h => ?_) (fun cdv A outer s0 H vs Q E hr h => ?_)
  · obtain ⟨p, dx, args, fs, rfl, _, ⟨u1, u2, u3, rfl, _⟩, _⟩ := h
    rfl
  obtain ⟨p, dx, args, fs, rfl, hp, ⟨u1, u2, u3, rfl, rfl⟩, q⟩ := h
  refine ⟨_, (pss_cons (ps_fld (pv 0) (pv 1) rfl)
      (pss_cons (ps_fld (pv 0) (pv 2) rfl)
      (pss_one (ps_fld (pv 0) (pv 3) rfl)))), ?_⟩
  refine ⟨_, rfl, _, rfl, p, _, dx, _, rfl, hp, T.cls 116, T.noat 144, (by show 0 < 1000; decide), ?_⟩
  refine ⟨_, rfl, _, rfl, p, _, dx, _, rfl, upd_same, T.cls 116, T.noat 145, (by show 1 < 1000; decide), ?_⟩
  refine ⟨_, rfl, _, rfl, p, _, dx, _, rfl, upd_same, T.cls 116, T.noat 146, (by show 2 < 1000; decide), ?_⟩
  exact q _ (((samex_ins).trans samex_ins).trans samex_ins) upd_same
end
end Ut
set_option Elab.async false
set_option linter.all false
set_option maxRecDepth 100000
set_option maxHeartbeats 4000000
namespace Ut
open PySem PySem.Spec PyProof.Rows L2
inductive Wc where
  | given | other | num | choice
def Wc.nm : Wc → Str
  | .given => "GivenWait" | .other => "OtherWait" | .num => "NumberWait" | .choice => "ChoiceWait"
def Wt.wc : Wt → Wc
  | .given _ => .given | .other _ _ => .other | .num _ _ => .num | .choice _ _ => .choice
def Wt.sort : Wt → Tm → Option Srt
  | .given _, .mk _ _ => some .take
  | .other _ _, .num _ => some .next
  | .num _ _, .num _ => some .sum
  | .choice _ _, .num _ => some .choose
  | _, _ => none
def optV : Option Srt → V
  | some s => .str s.nm
  | none => .non
def Wt.after : Wt → Tm → Tie → Option (Tm × Tie × List Wt)
  | .given c, .mk x b, e => some (b, e.put x c, [])
  | .other s c, .num i, _ => some (c.t, c.e, [.num s i])
  | .num s i, .num j, _ => some (.num (sumOf s i j), Tie.nil, [])
  | .choice n o, .num i, _ => some ((if i = 0 then n else o).t, (if i = 0 then n else o).e, [])
  | _, _, _ => none
section
variable {P : Program} {w : World} {K : PySem.W.Frag} {mg : Str → Option Value} {base : Heap}
/-- a class made, its answer asked as it stands -/
theorem mk_useG {C : Str} {ok : List V → List (Str × V) → Hp → Prop} {vs : List V} {H1 : Hp} {G : Addr → Hp → Prop} {E : XK} {fs : List (Str × V)} (mono : ∀ H', Same H1 H' → ok vs fs H') (k : ∀ x dx H', Same H1 H' → H1 x = none → H' x = some (.ins (He.ga K C) dx fs) → G x H') :
    ∀ x dx, H1 x = none → H1 dx = none → dx ≠ x → spInit K C ok (.ref x :: (vs ++ [])) (upd (upd H1 dx (.own x)) x (.ins (He.ga K C) dx [])) (fun v H2 => v = .non ∧ G x H2) E := by
  intro x dx hx hdx ne
  obtain ⟨p, dx', args, fs', e1, h1, h2, h3⟩ := mk_use (Q := fun v H2 => v = V.ref x ∧ G x H2 ∨ v ≠ V.ref x) (E := E) mono (fun x' dx' H' s1 h h' => by
    by_cases e : x' = x
    · subst e; exact .inl ⟨rfl, k x' dx' H' s1 h h'⟩
    · exact .inr (by simpa using e)) x dx hx hdx ne
  refine ⟨p, dx', args, fs', e1, h1, h2, fun H' a b => ?_⟩
  obtain ⟨_, c⟩ := h3 H' a b
  rcases c with ⟨_, c⟩ | c
  · exact ⟨rfl, c⟩
  · exact absurd rfl c
theorem late_useG {D N : Nat} {B : List Addr} {t : Tm} {e : Tie} {tv ev : V} {H1 : Hp} {G : Addr → Hp → Prop} {E : XK} (hB : Dom B H1) (ht : TermAt K (hid B H1) t tv) (hd : t.dep ≤ D) (he : TieAt K D N (hid B H1) ev e) (k : ∀ x H', Same H1 H' → LateAt K D N (hid B H') (.ref x) (.mk t e) → G x H') :
    ∀ x dx, H1 x = none → H1 dx = none → dx ≠ x → spLate K D N (.ref x :: ([tv, ev] ++ [])) (upd (upd H1 dx (.own x)) x (.ins (He.ga K "Late") dx [])) (fun v H2 => v = .non ∧ G x H2) E := by
  intro x dx hx hdx ne
  obtain ⟨B', p, dx', tv', ev', t', e', e1, h1, h2, h3, h4, h5, h6⟩ := late_use (Q := fun v H2 => v = V.ref x ∧ G x H2 ∨ v ≠ V.ref x) (E := E) hB ht hd he (fun x' H' s1 h => by
    by_cases e : x' = V.ref x
    · subst e; exact .inl ⟨rfl, k x H' s1 h⟩
    · exact .inr e) x dx hx hdx ne
  refine ⟨B', p, dx', tv', ev', t', e', e1, h1, h2, h3, h4, h5, fun H' m d fv a b c => ?_⟩
  obtain ⟨_, c⟩ := h6 H' m d fv a b c
  rcases c with ⟨_, c⟩ | c
  · exact ⟨rfl, c⟩
  · exact absurd rfl c
def spSort (K : PySem.W.Frag) (D N : Nat) (c : Wc) : Sp := fun vs H Q _ => ∃ v tv x t, vs = [v, tv] ∧ Wt.wc x = c ∧ WtAt K D N H v x ∧ TermAt K H t tv ∧ Q (optV (x.sort t)) H
theorem tc_dec (t : Tm) (c : Tc) : (t.tc = c) ∨ t.tc ≠ c := Decidable.em _
theorem mk_of {t : Tm} (h : t.tc = .mk) : ∃ x b, t = .mk x b := by cases t <;> first | exact ⟨_, _, rfl⟩ | cases h
theorem num_of {t : Tm} (h : t.tc = .num) : ∃ i, t = .num i := by cases t <;> first | exact ⟨_, rfl⟩ | cases h
theorem sort_no {x : Wt} {t : Tm} (h1 : t.tc ≠ .mk ∨ x.wc ≠ .given) (h2 : t.tc ≠ .num ∨ x.wc = .given) : x.sort t = none := by
  cases x <;> cases t <;> first | rfl | (exfalso; simp [Tm.tc, Wt.wc] at h1 h2)
theorem sc_GivenWait_sort_for : FnScope ["self", "at"] ["self", "at"] (defScope S_GivenWait_sort_for) := ⟨rfl, rfl, rfl, by decide +kernel, rfl, by decide +kernel, by decide +kernel⟩
theorem ok_sort_given (T : Tx w K mg) (D N : Nat) : Met P w K mg base 1 (He.ga K "GivenWait") "sort_for" (spSort K D N .given) := by
  refine met_mk T 91 183 108 rfl rfl rfl sc_GivenWait_sort_for (fun _ _ _ _ _ _ us hl => match us, hl with | [_, _], _ => rfl) (fun vs H Q E h => ?_) (fun cdv A outer s H vs Q E hr h => ?_)
  · obtain ⟨v, tv, x, t, rfl, _⟩ := h
    rfl
  obtain ⟨v, tv, x, t, rfl, hx, hw, ht, q⟩ := h
  refine ⟨_, (pss_one (ps_ret (pe_ifExp (pt_val (pe_isi (pv 1) (pe_glob (v := .ref (He.ga K "Maker")) rfl (T.glo 58 rfl) rfl) (by rfl) (T.free 69 rfl))) pe_str pe_non))), ?_⟩
  rcases tc_dec t .mk with c | c
  · refine ⟨_, rfl, true, isi_term T ht .mk rfl (by rw [nmd]; exact decide_eq_true c), _, rfl, iteT ?_⟩
    obtain ⟨y, b, rfl⟩ := mk_of c
    cases x <;> first | exact q | cases hx
  · refine ⟨_, rfl, false, isi_term T ht .mk rfl (by rw [nmd]; exact decide_eq_false c), _, rfl, iteF ?_⟩
    rw [sort_no (.inl c) (.inr hx)] at q
    exact q
theorem sc_OtherWait_sort_for : FnScope ["self", "at"] ["self", "at"] (defScope S_OtherWait_sort_for) := ⟨rfl, rfl, rfl, by decide +kernel, rfl, by decide +kernel, by decide +kernel⟩
theorem ok_sort_other (T : Tx w K mg) (D N : Nat) : Met P w K mg base 1 (He.ga K "OtherWait") "sort_for" (spSort K D N .other) := by
  refine met_mk T 94 186 110 rfl rfl rfl sc_OtherWait_sort_for (fun _ _ _ _ _ _ us hl => match us, hl with | [_, _], _ => rfl) (fun vs H Q E h => ?_) (fun cdv A outer s H vs Q E hr h => ?_)
  · obtain ⟨v, tv, x, t, rfl, _⟩ := h
    rfl
  obtain ⟨v, tv, x, t, rfl, hx, hw, ht, q⟩ := h
  refine ⟨_, (pss_one (ps_ret (pe_ifExp (pt_val (pe_isi (pv 1) (pe_glob (v := .ref (He.ga K "Number")) rfl (T.glo 57 rfl) rfl) (by rfl) (T.free 69 rfl))) pe_str pe_non))), ?_⟩
  rcases tc_dec t .num with c | c
  · refine ⟨_, rfl, true, isi_term T ht .num rfl (by rw [nmd]; exact decide_eq_true c), _, rfl, iteT ?_⟩
    obtain ⟨y, rfl⟩ := num_of c
    cases x <;> first | exact q | cases hx
  · refine ⟨_, rfl, false, isi_term T ht .num rfl (by rw [nmd]; exact decide_eq_false c), _, rfl, iteF ?_⟩
    rw [sort_no (.inr (by rw [hx]; exact fun e => by cases e)) (.inl c)] at q
    exact q
theorem sc_NumberWait_sort_for : FnScope ["self", "at"] ["self", "at"] (defScope S_NumberWait_sort_for) := ⟨rfl, rfl, rfl, by decide +kernel, rfl, by decide +kernel, by decide +kernel⟩
theorem ok_sort_num (T : Tx w K mg) (D N : Nat) : Met P w K mg base 1 (He.ga K "NumberWait") "sort_for" (spSort K D N .num) := by
  refine met_mk T 97 189 112 rfl rfl rfl sc_NumberWait_sort_for (fun _ _ _ _ _ _ us hl => match us, hl with | [_, _], _ => rfl) (fun vs H Q E h => ?_) (fun cdv A outer s H vs Q E hr h => ?_)
  · obtain ⟨v, tv, x, t, rfl, _⟩ := h
    rfl
  obtain ⟨v, tv, x, t, rfl, hx, hw, ht, q⟩ := h
  refine ⟨_, (pss_one (ps_ret (pe_ifExp (pt_val (pe_isi (pv 1) (pe_glob (v := .ref (He.ga K "Number")) rfl (T.glo 57 rfl) rfl) (by rfl) (T.free 69 rfl))) pe_str pe_non))), ?_⟩
  rcases tc_dec t .num with c | c
  · refine ⟨_, rfl, true, isi_term T ht .num rfl (by rw [nmd]; exact decide_eq_true c), _, rfl, iteT ?_⟩
    obtain ⟨y, rfl⟩ := num_of c
    cases x <;> first | exact q | cases hx
  · refine ⟨_, rfl, false, isi_term T ht .num rfl (by rw [nmd]; exact decide_eq_false c), _, rfl, iteF ?_⟩
    rw [sort_no (.inr (by rw [hx]; exact fun e => by cases e)) (.inl c)] at q
    exact q
theorem sc_ChoiceWait_sort_for : FnScope ["self", "at"] ["self", "at"] (defScope S_ChoiceWait_sort_for) := ⟨rfl, rfl, rfl, by decide +kernel, rfl, by decide +kernel, by decide +kernel⟩
theorem ok_sort_choice (T : Tx w K mg) (D N : Nat) : Met P w K mg base 1 (He.ga K "ChoiceWait") "sort_for" (spSort K D N .choice) := by
  refine met_mk T 100 192 114 rfl rfl rfl sc_ChoiceWait_sort_for (fun _ _ _ _ _ _ us hl => match us, hl with | [_, _], _ => rfl) (fun vs H Q E h => ?_) (fun cdv A outer s H vs Q E hr h => ?_)
  · obtain ⟨v, tv, x, t, rfl, _⟩ := h
    rfl
  obtain ⟨v, tv, x, t, rfl, hx, hw, ht, q⟩ := h
  refine ⟨_, (pss_one (ps_ret (pe_ifExp (pt_val (pe_isi (pv 1) (pe_glob (v := .ref (He.ga K "Number")) rfl (T.glo 57 rfl) rfl) (by rfl) (T.free 69 rfl))) pe_str pe_non))), ?_⟩
  rcases tc_dec t .num with c | c
  · refine ⟨_, rfl, true, isi_term T ht .num rfl (by rw [nmd]; exact decide_eq_true c), _, rfl, iteT ?_⟩
    obtain ⟨y, rfl⟩ := num_of c
    cases x <;> first | exact q | cases hx
  · refine ⟨_, rfl, false, isi_term T ht .num rfl (by rw [nmd]; exact decide_eq_false c), _, rfl, iteF ?_⟩
    rw [sort_no (.inr (by rw [hx]; exact fun e => by cases e)) (.inl c)] at q
    exact q
theorem ok_sort_for (T : Tx w K mg) (D N : Nat) : ∀ c : Wc, Met P w K mg base 1 (He.ga K c.nm) "sort_for" (spSort K D N c)
  | .given => ok_sort_given T D N | .other => ok_sort_other T D N | .num => ok_sort_num T D N | .choice => ok_sort_choice T D N
/-! ### after -/
def AftAt (K : PySem.W.Frag) (D N : Nat) (B : List Addr) (H : Hp) (p : Addr) (r : Tm × Tie × List Wt) : Prop := ∃ tv ev wa xs, H p = some (.tup [tv, ev, .ref wa]) ∧ TermAt K (hid B H) r.1 tv ∧ r.1.dep ≤ D ∧ TieAt K D (N + 1) (hid B H) ev r.2.1 ∧
  SqT K (hid B H) wa xs ∧ WtsAt K D (N + 1) (hid B H) xs r.2.2
def spAfter (K : PySem.W.Frag) (D N : Nat) (c : Wc) : Sp := fun vs H Q _ => ∃ B v tv ev x t e r, vs = [v, tv, ev] ∧ Wt.wc x = c ∧ Dom B H ∧ WtAt K D N (hid B H) v x ∧ TermAt K (hid B H) t tv ∧ t.dep ≤ D ∧ TieAt K D N (hid B H) ev e ∧ x.after t e = some r ∧
  ∀ p H', Same H H' → AftAt K D N B H' p r → Q (.ref p) H'
theorem sc_GivenWait_after : FnScope ["self", "at", "ties"] ["self", "at", "ties"] (defScope S_GivenWait_after) := ⟨rfl, rfl, rfl, by decide +kernel, rfl, by decide +kernel, by decide +kernel⟩
theorem ok_after_given (T : Tx w K mg) (D N : Nat) (hN : N ≤ 100000) : Met P w K mg base 1 (He.ga K "GivenWait") "after" (spAfter K D N .given) := by
  refine met_mk T 92 184 108 rfl rfl rfl sc_GivenWait_after (fun _ _ _ _ _ _ us hl => match us, hl with | [_, _, _], _ => rfl) (fun vs H Q E h => ?_) (fun cdv A outer s H vs Q E hr h => ?_)
  · obtain ⟨B, v, tv, ev, x, t, e, r, rfl, _⟩ := h
    rfl
  obtain ⟨B, v, tv, ev, x, t, e, r, rfl, hx, hB, hw, ht, hd, he, ea, q⟩ := h
  have hu := hu_of hr
  refine ⟨_, (pss_cons (ps_set (i := 2) sc_GivenWait_after.nd rfl (Or.inl rfl) (pe_callTy call_dictD (by rfl) (T.free 80 rfl) (by decide +kernel) (pa_cons (pv 2) pa_nil)))
      (pss_cons (ps_dput hu (pv 2) (pe_fld (pv 1) rfl) (pe_fld (pv 0) rfl) rfl)
      (pss_one (ps_ret (pe_tup (pa_cons (pe_fld (pv 1) rfl) (pa_cons (pv 2) (pa_cons (pe_tup pa_nil) pa_nil)))))))), ?_⟩
  cases x with
  | given c =>
    cases t with
    | mk y b =>
      cases ea
      obtain ⟨a, dx, u, rfl, ha, hla⟩ := hw
      obtain ⟨ok, a2, dx2, ub, rfl, ha2, hb⟩ := ht
      cases he with
      | mk f hea hl hk hc =>
        rename_i ead kvs
        refine ⟨_, rfl, ead, kvs, rfl, .inl (hid_at hea), fun p hp => ?_⟩
        have n1 := same_new hp (.dK kvs)
        refine ⟨_, rfl, a, _, dx, _, _, rfl, n1 _ _ (hid_at ha), T.cls 108, T.noat 137, rfl, _, rfl, _, rfl, a2, _, dx2, _, _, rfl, n1 _ _ (hid_at ha2), T.cls 96, T.noat 120, rfl, p, _, rfl, DPut.k (k := Sum.inr y) upd_same (by show kvs.length < 2 ^ 24; omega), ?_⟩
        rw [upd_upd]
        have n2 := same_new hp (.dK (putK kvs (Sum.inr y : Key) u))
        refine ⟨_, rfl, a2, _, dx2, _, _, rfl, n2 _ _ (hid_at ha2), T.cls 96, T.noat 121, rfl, _, rfl, Nat.zero_le _, fun p2 hp2 => ⟨(by show 3 ≤ sizeLine; decide), fun p3 hp3 => ?_⟩⟩
        have n3 := same_new hp2 (.tup [])
        have n4 := same_new hp3 (.tup [ub, .ref p, .ref p2])
        have s24 := n3.trans n4
        have s := n2.trans s24
        have hm : b.dep ≤ D := Nat.le_trans (Nat.le_succ _) hd
        refine q p3 _ s ⟨ub, .ref p, p2, [], upd_same, term_up (hid_up s) hb, hm, ?_, SqT.new (hid_up n4 _ _ (hid_new (hB.up n2) hp2)), .nil⟩
        exact tie_put (hid_up s24 _ _ (hid_new hB hp)) hl hk (fun z d hz => late_up (hid_up s) (Nat.le_refl N) (hc z d hz)) (late_up (hid_up s) (Nat.le_refl N) hla)
    | _ => cases ea
  | _ => cases hx
theorem sc_OtherWait_after : FnScope ["self", "at", "ties"] ["self", "at", "ties"] (defScope S_OtherWait_after) := ⟨rfl, rfl, rfl, by decide +kernel, rfl, by decide +kernel, by decide +kernel⟩
theorem ok_after_other (T : Tx w K mg) (D N : Nat) (c_NumberWait : Mak P w K mg base 1 "NumberWait" (He.ga K "NumberWait") (spInit K "NumberWait" okWNumberWait)) : Met P w K mg base 3 (He.ga K "OtherWait") "after" (spAfter K D N .other) := by
  refine met_mk T 95 187 110 rfl rfl rfl sc_OtherWait_after (fun _ _ _ _ _ _ us hl => match us, hl with | [_, _, _], _ => rfl) (fun vs H Q E h => ?_) (fun cdv A outer s H vs Q E hr h => ?_)
  · obtain ⟨B, v, tv, ev, x, t, e, r, rfl, _⟩ := h
    rfl
  obtain ⟨B, v, tv, ev, x, t, e, r, rfl, hx, hB, hw, ht, hd, he, ea, q⟩ := h
  refine ⟨_, (pss_one (ps_ret (pe_tup (pa_cons (pe_fld (pe_fld (pv 0) rfl) rfl) (pa_cons (pe_fld (pe_fld (pv 0) rfl) rfl) (pa_cons (pe_tup (pa_cons (pe_mk c_NumberWait hr (by omega) (by rfl) (pa_cons (pe_fld (pv 0) rfl) (pa_cons (pe_fld (pv 1) rfl) pa_nil))) pa_nil)) pa_nil)))))), ?_⟩
  cases x with
  | other sg c =>
    cases t with
    | num i =>
      cases ea
      obtain ⟨ok, a, dx, u, rfl, ha, hla⟩ := hw
      obtain ⟨a2, dx2, rfl, ha2⟩ := ht
      obtain ⟨b, bx, tv2, ev2, fv, m, d, rfl, hb, hbt, hbd, hbe, _⟩ := late_at hla
      refine ⟨_, rfl, a, _, dx, _, _, rfl, hid_at ha, T.cls 110, T.noat 139, rfl, b, _, bx, _, _, rfl, hid_at hb, T.cls 106, T.noat 132, rfl, ?_⟩
      refine ⟨_, rfl, a, _, dx, _, _, rfl, hid_at ha, T.cls 110, T.noat 139, rfl, b, _, bx, _, _, rfl, hid_at hb, T.cls 106, T.noat 133, rfl, ?_⟩
      refine ⟨_, rfl, a, _, dx, _, _, rfl, hid_at ha, T.cls 110, T.noat 138, rfl, _, rfl, a2, _, dx2, _, _, rfl, hid_at ha2, T.cls 94, T.noat 119, rfl, ?_⟩
      refine mk_useG (fs := [("sign", .str sg), ("number", .int i)]) (fun _ _ => ⟨sg, i, rfl, rfl⟩) fun p px H1 s1 hp hp1 => ⟨(by show 1 ≤ sizeLine; decide), fun p2 hp2 => ⟨(by show 3 ≤ sizeLine; decide), fun p3 hp3 => ?_⟩⟩
      have n3 := same_new hp2 (.tup [.ref p])
      have n4 := same_new hp3 (.tup [tv2, ev2, .ref p2])
      have s24 := n3.trans n4
      have s := s1.trans s24
      refine q p3 _ s ⟨tv2, ev2, p2, [.ref p], upd_same, term_up (hid_up s) hbt, hbd, tie_up (hid_up s) (Nat.le_succ N) hbe, SqT.new (hid_up n4 _ _ (hid_new (hB.up s1) hp2)), .cons ⟨ok, p, px, rfl, hid_up s24 _ _ (hid_got hB hp hp1)⟩ .nil⟩
    | _ => cases ea
  | _ => cases hx
theorem sc_NumberWait_after : FnScope ["self", "at", "ties"] ["self", "at", "ties"] (defScope S_NumberWait_after) := ⟨rfl, rfl, rfl, by decide +kernel, rfl, by decide +kernel, by decide +kernel⟩
theorem ok_after_num (T : Tx w K mg) (D N : Nat) (hD : 1 ≤ D) (c_Number : Mak P w K mg base 2 "Number" (He.ga K "Number") (spInit K "Number" okN2)) (c_sum_of : Cal P w K mg base 1 "sum_of" spSumOf) : Met P w K mg base 4 (He.ga K "NumberWait") "after" (spAfter K D N .num) := by
  refine met_mk T 98 190 112 rfl rfl rfl sc_NumberWait_after (fun _ _ _ _ _ _ us hl => match us, hl with | [_, _, _], _ => rfl) (fun vs H Q E h => ?_) (fun cdv A outer s H vs Q E hr h => ?_)
  · obtain ⟨B, v, tv, ev, x, t, e, r, rfl, _⟩ := h
    rfl
  obtain ⟨B, v, tv, ev, x, t, e, r, rfl, hx, hB, hw, ht, hd, he, ea, q⟩ := h
  refine ⟨_, (pss_one (ps_ret (pe_tup (pa_cons (pe_mk c_Number hr (by omega) (by rfl) (pa_cons (pe_c c_sum_of hr (by omega) (by rfl) (pa_cons (pe_fld (pv 0) rfl) (pa_cons (pe_fld (pv 0) rfl) (pa_cons (pe_fld (pv 1) rfl) pa_nil)))) pa_nil)) (pa_cons pe_dnewK (pa_cons (pe_tup pa_nil) pa_nil)))))), ?_⟩
  cases x with
  | num sg i =>
    cases t with
    | num j =>
      cases ea
      obtain ⟨ok, a, dx, rfl, ha⟩ := hw
      obtain ⟨a2, dx2, rfl, ha2⟩ := ht
      refine ⟨_, rfl, a, _, dx, _, _, rfl, hid_at ha, T.cls 112, T.noat 140, rfl, ?_⟩
      refine ⟨_, rfl, a, _, dx, _, _, rfl, hid_at ha, T.cls 112, T.noat 141, rfl, ?_⟩
      refine ⟨_, rfl, a2, _, dx2, _, _, rfl, hid_at ha2, T.cls 94, T.noat 119, rfl, ?_⟩
      refine ⟨sg, i, j, rfl, ok, ?_⟩
      refine mk_useG (fs := [("number", .int (sumOf sg i j))]) (fun _ _ => ⟨_, rfl, rfl⟩) fun p px H1 s1 hp hp1 => fun p1 hp1n => ⟨Nat.zero_le _, fun p2 hp2 => ⟨(by show 3 ≤ sizeLine; decide), fun p3 hp3 => ?_⟩⟩
      have n2 := same_new hp1n (.dK [])
      have n3 := same_new hp2 (.tup [])
      have n4 := same_new hp3 (.tup [.ref p, .ref p1, .ref p2])
      have s24 := n3.trans n4
      have s14 := n2.trans s24
      have s := s1.trans s14
      refine q p3 _ s ⟨.ref p, .ref p1, p2, [], upd_same, ⟨p, px, rfl, hid_up s14 _ _ (hid_got hB hp hp1)⟩, hD, .mk (fun _ => .non) (hid_up s24 _ _ (hid_new (hB.up s1) hp1n)) (Nat.zero_le _) (fun x => rfl) (fun x c h => by cases h), SqT.new (hid_up n4 _ _ (hid_new (hB.up (s1.trans n2)) hp2)), .nil⟩
    | _ => cases ea
  | _ => cases hx
theorem sc_ChoiceWait_after : FnScope ["self", "at", "ties", "chosen"] ["self", "at", "ties"] (defScope S_ChoiceWait_after) := ⟨rfl, rfl, rfl, by decide +kernel, rfl, by decide +kernel, by decide +kernel⟩
theorem ok_after_choice (T : Tx w K mg) (D N : Nat) : Met P w K mg base 1 (He.ga K "ChoiceWait") "after" (spAfter K D N .choice) := by
  refine met_mk T 101 193 114 rfl rfl rfl sc_ChoiceWait_after (fun _ _ _ _ _ _ us hl => match us, hl with | [_, _, _], _ => rfl) (fun vs H Q E h => ?_) (fun cdv A outer s H vs Q E hr h => ?_)
  · obtain ⟨B, v, tv, ev, x, t, e, r, rfl, _⟩ := h
    rfl
  obtain ⟨B, v, tv, ev, x, t, e, r, rfl, hx, hB, hw, ht, hd, he, ea, q⟩ := h
  refine ⟨_, (pss_cons (ps_set (i := 3) sc_ChoiceWait_after.nd rfl (Or.inl rfl) (pe_ifExp (pt_cmpR op_eq (pe_fld (pv 1) rfl) pe_int (nomark _)) (pe_fld (pv 0) rfl) (pe_fld (pv 0) rfl)))
      (pss_one (ps_ret (pe_tup (pa_cons (pe_fld (pv 3) rfl) (pa_cons (pe_fld (pv 3) rfl) (pa_cons (pe_tup pa_nil) pa_nil))))))), ?_⟩
  cases x with
  | choice c1 c2 =>
    cases t with
    | num i =>
      cases ea
      obtain ⟨a, dx, u1, u2, rfl, ha, h1, h2⟩ := hw
      obtain ⟨a2, dx2, rfl, ha2⟩ := ht
      refine ⟨_, rfl, a2, _, dx2, _, _, rfl, hid_at ha2, T.cls 94, T.noat 119, rfl, rfl, _, rfl, ?_⟩
      by_cases c0 : i = 0
      · rw [if_pos c0] at q
        refine ifT (decide_eq_true (by rw [c0])) ?_
        obtain ⟨b, bx, tv2, ev2, fv, m, d, rfl, hb, hbt, hbd, hbe, _⟩ := late_at h1
        refine ⟨_, rfl, a, _, dx, _, _, rfl, hid_at ha, T.cls 114, T.noat 142, rfl, ?_⟩
        refine ⟨_, rfl, b, _, bx, _, _, rfl, hid_at hb, T.cls 106, T.noat 132, rfl, ?_⟩
        refine ⟨_, rfl, b, _, bx, _, _, rfl, hid_at hb, T.cls 106, T.noat 133, rfl, Nat.zero_le _, fun p2 hp2 => ⟨(by show 3 ≤ sizeLine; decide), fun p3 hp3 => ?_⟩⟩
        have n3 := same_new hp2 (.tup [])
        have n4 := same_new hp3 (.tup [tv2, ev2, .ref p2])
        have s := n3.trans n4
        exact q p3 _ s ⟨tv2, ev2, p2, [], upd_same, term_up (hid_up s) hbt, hbd, tie_up (hid_up s) (Nat.le_succ N) hbe, SqT.new (hid_up n4 _ _ (hid_new hB hp2)), .nil⟩
      · rw [if_neg c0] at q
        refine ifF (decide_eq_false (by simp [c0])) ?_
        obtain ⟨b, bx, tv2, ev2, fv, m, d, rfl, hb, hbt, hbd, hbe, _⟩ := late_at h2
        refine ⟨_, rfl, a, _, dx, _, _, rfl, hid_at ha, T.cls 114, T.noat 143, rfl, ?_⟩
        refine ⟨_, rfl, b, _, bx, _, _, rfl, hid_at hb, T.cls 106, T.noat 132, rfl, ?_⟩
        refine ⟨_, rfl, b, _, bx, _, _, rfl, hid_at hb, T.cls 106, T.noat 133, rfl, Nat.zero_le _, fun p2 hp2 => ⟨(by show 3 ≤ sizeLine; decide), fun p3 hp3 => ?_⟩⟩
        have n3 := same_new hp2 (.tup [])
        have n4 := same_new hp3 (.tup [tv2, ev2, .ref p2])
        have s := n3.trans n4
        exact q p3 _ s ⟨tv2, ev2, p2, [], upd_same, term_up (hid_up s) hbt, hbd, tie_up (hid_up s) (Nat.le_succ N) hbe, SqT.new (hid_up n4 _ _ (hid_new hB hp2)), .nil⟩
    | _ => cases ea
  | _ => cases hx
theorem ok_after (T : Tx w K mg) (D N : Nat) (hD : 1 ≤ D) (hN : N ≤ 100000) : ∀ c : Wc, Met P w K mg base 4 (He.ga K c.nm) "after" (spAfter K D N c)
  | .given => (ok_after_given T D N hN).mono (by decide)
  | .other => (ok_after_other T D N (ok_NumberWait_init T)).mono (by decide)
  | .num => ok_after_num T D N hD (ok_Number_init T (ok_is_whole T)) (ok_sum_of T)
  | .choice => (ok_after_choice T D N).mono (by decide)
end
end Ut
set_option Elab.async false
set_option linter.all false
set_option maxRecDepth 100000
set_option maxHeartbeats 4000000
namespace Ut
open PySem PySem.Spec PyProof.Rows L2
/-! ### the machine -/
def MSt.next (st : MSt) : Option Srt := match st.t with
  | .name _ => some .look
  | .ag _ _ => some .turn
  | .gv _ _ => some .op
  | .sm _ _ _ => some .op
  | .ch _ _ _ => some .op
  | .mk _ _ => st.ws.getLast?.bind fun x => x.sort st.t
  | .num _ => st.ws.getLast?.bind fun x => x.sort st.t
inductive MStep : MSt → Srt → MSt → Prop where
  | gv {m g : Tm} {e : Tie} {ws : List Wt} : MStep ⟨.gv m g, e, ws⟩ .op ⟨m, e, ws ++ [.given (.mk g e)]⟩
  | sm {s : Str} {m g : Tm} {e : Tie} {ws : List Wt} : MStep ⟨.sm s m g, e, ws⟩ .op ⟨m, e, ws ++ [.other s (.mk g e)]⟩
  | ch {m n g : Tm} {e : Tie} {ws : List Wt} : MStep ⟨.ch m n g, e, ws⟩ .op ⟨m, e, ws ++ [.choice (.mk n e) (.mk g e)]⟩
  | name {x : Str} {e : Tie} {ws : List Wt} {c : Cl} (h : e x = some c) : MStep ⟨.name x, e, ws⟩ .look ⟨c.t, c.e, ws⟩
  | ag {x : Str} {b : Tm} {e : Tie} {ws : List Wt} : MStep ⟨.ag x b, e, ws⟩ .turn ⟨b, e.put x (.mk (.ag x b) e), ws⟩
  | on {t : Tm} {e : Tie} {ws : List Wt} {x : Wt} {s : Srt} {r : Tm × Tie × List Wt} (ht : t.tc = .mk ∨ t.tc = .num) (hs : x.sort t = some s) (ha : x.after t e = some r) : MStep ⟨t, e, ws ++ [x]⟩ s ⟨r.1, r.2.1, ws ++ r.2.2⟩
theorem MStep.next {st st' : MSt} {s : Srt} (h : MStep st s st') : st.next = some s := by
  cases h with
  | on ht hs ha =>
    rename_i t e ws x r
    cases t with
    | mk y b => show ((ws ++ [x]).getLast?.bind fun z => z.sort (.mk y b)) = _; rw [List.getLast?_concat]; exact hs
    | num i => show ((ws ++ [x]).getLast?.bind fun z => z.sort (.num i)) = _; rw [List.getLast?_concat]; exact hs
    | _ => rcases ht with h | h <;> cases h
  | _ => rfl
section
variable {P : Program} {w : World} {K : PySem.W.Frag} {mg : Str → Option Value} {base : Heap}
theorem wt_ins {D N : Nat} {H : Hp} {v : V} : ∀ {x : Wt}, WtAt K D N H v x → ∃ a dx fs, v = .ref a ∧ H a = some (.ins (He.ga K x.wc.nm) dx fs) ∧ fs.lookup ("sort_for" : Str) = none ∧ fs.lookup ("after" : Str) = none
  | .given c, ⟨a, dx, u, e, h, h1⟩ => ⟨a, dx, _, e, h, rfl, rfl⟩
  | .other _ c, ⟨o, a, dx, u, e, h, h1⟩ => ⟨a, dx, _, e, h, rfl, rfl⟩
  | .num _ _, ⟨o, a, dx, e, h⟩ => ⟨a, dx, _, e, h, rfl, rfl⟩
  | .choice _ _, ⟨a, dx, u1, u2, e, h, h1, h2⟩ => ⟨a, dx, _, e, h, rfl, rfl⟩
theorem atI_last {us : List V} {v : V} : atI (us ++ [v]) (-1) = some v := by
  have h : ixN (us ++ [v]).length (-1) = some us.length := by
    unfold ixN
    rw [if_neg (by decide), if_pos (by rw [List.length_append]; simp; omega), List.length_append]
    congr 1
    simp
    omega
  unfold atI
  rw [h]
  simp
theorem cut_last (us : List V) (v : V) : cutV (us ++ [v]) none (some (-1)) = us := by
  have h1 : HT.sIx (us ++ [v]).length 0 none = 0 := rfl
  have h2 : HT.sIx (us ++ [v]).length (us ++ [v]).length (some (-1)) = us.length := by
    unfold HT.sIx
    simp
    omega
  unfold cutV
  rw [h1, h2]
  simp
theorem cut_not (us : List V) (v : V) : ¬ (HT.sIx (us ++ [v]).length 0 none = 0 ∧ HT.sIx (us ++ [v]).length (us ++ [v]).length (some (-1)) = (us ++ [v]).length) := by
  have h2 : HT.sIx (us ++ [v]).length (us ++ [v]).length (some (-1)) = us.length := by
    unfold HT.sIx
    simp
    omega
  rintro ⟨_, h⟩
  rw [h2, List.length_append] at h
  simp at h
/-- t + u -/
theorem cat_use {B : List Addr} {H : Hp} {a b : Addr} {xs ys : List V} {Q : VK} (hB : Dom B H) (ha : SqT K (hid B H) a xs) (hb : SqT K (hid B H) b ys) (hl : xs.length + ys.length ≤ 1000000) (k : ∀ p H', Same H H' → SqT K (hid B H') p (xs ++ ys) → Q (.ref p) H') : rCatA K (.ref a) (.ref b) H Q := by
  refine ⟨a, b, xs, ys, rfl, rfl, same_seqT hid_sub ha, same_seqT hid_sub hb, Nat.le_trans hl (by decide), fun e => ?_, fun _ e => ?_, fun _ _ p hp => ?_⟩
  · subst e
    exact k b H (Same.refl H) hb
  · subst e
    exact k a H (Same.refl H) (by rw [List.append_nil]; exact ha)
  · exact k p _ (same_new hp _) (SqT.new (hid_new hB hp))
theorem sc_State_next_sort : FnScope ["self"] ["self"] (defScope S_State_next_sort) := ⟨rfl, rfl, rfl, by decide +kernel, rfl, by decide +kernel, by decide +kernel⟩
def spNext (K : PySem.W.Frag) (D N : Nat) : Sp := fun vs H Q _ => ∃ v st, vs = [v] ∧ StAt K D N H v st ∧ Q (optV st.next) H
theorem ok_next_sort (T : Tx w K mg) (D N : Nat) : Met P w K mg base 2 (He.ga K "State") "next_sort" (spNext K D N) := by
  refine met_mk T 104 196 116 rfl rfl rfl sc_State_next_sort (fun _ _ _ _ _ _ us hl => match us, hl with | [_], _ => rfl) (fun vs H Q E h => ?_) (fun cdv A outer s H vs Q E hr h => ?_)
  · obtain ⟨v, st, rfl, _⟩ := h
    rfl
  obtain ⟨v, st, rfl, ⟨a, dx, tv, ev, pp, rfl, ha, ht, hd, he, hp⟩, q⟩ := h
  refine ⟨_, (pss_cons (ps_if (pt_val (pe_isi (pe_fld (pv 0) rfl) (pe_glob (v := .ref (He.ga K "Name")) rfl (T.glo 56 rfl) rfl) (by rfl) (T.free 69 rfl))) (pss_one (ps_ret pe_str)) pss_nil)
      (pss_cons (ps_if (pt_val (pe_isi (pe_fld (pv 0) rfl) (pe_glob (v := .ref (He.ga K "Again")) rfl (T.glo 62 rfl) rfl) (by rfl) (T.free 69 rfl))) (pss_one (ps_ret pe_str)) pss_nil)
      (pss_cons (ps_if (PW.pt (pw_or (pt_val (pe_isi (pe_fld (pv 0) rfl) (pe_glob (v := .ref (He.ga K "Give")) rfl (T.glo 59 rfl) rfl) (by rfl) (T.free 69 rfl))) (pw_or (pt_val (pe_isi (pe_fld (pv 0) rfl) (pe_glob (v := .ref (He.ga K "Sum")) rfl (T.glo 60 rfl) rfl) (by rfl) (T.free 69 rfl))) (pw_or1 (pt_val (pe_isi (pe_fld (pv 0) rfl) (pe_glob (v := .ref (He.ga K "Choice")) rfl (T.glo 61 rfl) rfl) (by rfl) (T.free 69 rfl))))))) (pss_one (ps_ret pe_str)) pss_nil)
      (pss_cons (ps_if (pt_cmpR op_eq (pe_callB call_len_seq (by rfl) (T.free 70 rfl) (by decide +kernel) (pa_cons (pe_fld (pv 0) rfl) pa_nil)) pe_int (nomark _)) (pss_one (ps_ret pe_non)) pss_nil)
      (pss_one (ps_ret (pe_any fun i => pe_mt ((ok_sort_for T D N) i) hr (by omega) (pe_ix ix_tup (pe_fld (pv 0) rfl) (pe_un un_neg pe_int) (fun _ _ => rfl)) (pa_cons (pe_fld (pv 0) rfl) pa_nil)))))))), ?_⟩
  obtain ⟨t, e, ws⟩ := st
  have pile : ∀ (h1 : t.tc ≠ .name) (h2 : t.tc ≠ .ag) (h3 : t.tc ≠ .gv) (h4 : t.tc ≠ .sm) (h5 : t.tc ≠ .ch), MSt.next ⟨t, e, ws⟩ = ws.getLast?.bind fun x => x.sort t := by
    intro h1 h2 h3 h4 h5
    cases t <;> first | rfl | exact absurd rfl h1 | exact absurd rfl h2 | exact absurd rfl h3 | exact absurd rfl h4 | exact absurd rfl h5
  by_cases c1 : t.tc = .name
  · refine ⟨_, rfl, a, _, dx, _, _, rfl, ha, T.cls 116, T.noat 144, rfl, true, isi_term T ht .name rfl (by rw [nmd]; exact decide_eq_true c1), _, rfl, iteT ?_⟩
    cases t <;> first | exact q | cases c1
  refine ⟨_, rfl, a, _, dx, _, _, rfl, ha, T.cls 116, T.noat 144, rfl, false, isi_term T ht .name rfl (by rw [nmd]; exact decide_eq_false c1), _, rfl, iteF ?_⟩
  by_cases c2 : t.tc = .ag
  · refine ⟨_, rfl, a, _, dx, _, _, rfl, ha, T.cls 116, T.noat 144, rfl, true, isi_term T ht .ag rfl (by rw [nmd]; exact decide_eq_true c2), _, rfl, iteT ?_⟩
    cases t <;> first | exact q | cases c2
  refine ⟨_, rfl, a, _, dx, _, _, rfl, ha, T.cls 116, T.noat 144, rfl, false, isi_term T ht .ag rfl (by rw [nmd]; exact decide_eq_false c2), _, rfl, iteF ?_⟩
  by_cases c3 : t.tc = .gv
  · refine ⟨_, rfl, a, _, dx, _, _, rfl, ha, T.cls 116, T.noat 144, rfl, true, isi_term T ht .gv rfl (by rw [nmd]; exact decide_eq_true c3), _, rfl, iteT ?_⟩
    cases t <;> first | exact q | cases c3
  refine ⟨_, rfl, a, _, dx, _, _, rfl, ha, T.cls 116, T.noat 144, rfl, false, isi_term T ht .gv rfl (by rw [nmd]; exact decide_eq_false c3), _, rfl, iteF ?_⟩
  by_cases c4 : t.tc = .sm
  · refine ⟨_, rfl, a, _, dx, _, _, rfl, ha, T.cls 116, T.noat 144, rfl, true, isi_term T ht .sm rfl (by rw [nmd]; exact decide_eq_true c4), _, rfl, iteT ?_⟩
    cases t <;> first | exact q | cases c4
  refine ⟨_, rfl, a, _, dx, _, _, rfl, ha, T.cls 116, T.noat 144, rfl, false, isi_term T ht .sm rfl (by rw [nmd]; exact decide_eq_false c4), _, rfl, iteF ?_⟩
  by_cases c5 : t.tc = .ch
  · refine ⟨_, rfl, a, _, dx, _, _, rfl, ha, T.cls 116, T.noat 144, rfl, true, isi_term T ht .ch rfl (by rw [nmd]; exact decide_eq_true c5), _, rfl, iteT ?_⟩
    cases t <;> first | exact q | cases c5
  refine ⟨_, rfl, a, _, dx, _, _, rfl, ha, T.cls 116, T.noat 144, rfl, false, isi_term T ht .ch rfl (by rw [nmd]; exact decide_eq_false c5), _, rfl, iteF ?_⟩
  rw [pile c1 c2 c3 c4 c5] at q
  obtain ⟨pa, xs, rfl, hpa, hws, hlen⟩ := hp
  refine ⟨_, rfl, a, _, dx, _, _, rfl, ha, T.cls 116, T.noat 146, rfl, pa, _, rfl, .inr hpa, rfl, _, rfl, ?_⟩
  rcases List.eq_nil_or_concat ws with e1 | ⟨ws0, x, e1⟩
  · subst e1
    cases hws
    exact ifT rfl q
  · have e2 : ws = ws0 ++ [x] := by simpa using e1
    subst e2
    obtain ⟨us, u, rfl, h1, h2⟩ := wts_last hws
    refine ifF (decide_eq_false (by simp; omega)) ?_
    obtain ⟨b, bx, fs, rfl, hb, l1, l2⟩ := wt_ins h2
    rw [List.getLast?_concat] at q
    refine ⟨x.wc, _, rfl, a, _, dx, _, _, rfl, ha, T.cls 116, T.noat 146, rfl, _, rfl, pa, _, _, _, rfl, rfl, hpa, atI_last, b, bx, fs, rfl, hb, l1, ?_⟩
    exact ⟨_, rfl, a, _, dx, _, _, rfl, ha, T.cls 116, T.noat 144, rfl, .ref b, tv, x, t, rfl, rfl, h2, ht, q⟩
theorem sc_State_how : FnScope ["self"] ["self"] (defScope S_State_how) := ⟨rfl, rfl, rfl, by decide +kernel, rfl, by decide +kernel, by decide +kernel⟩
def spHow (K : PySem.W.Frag) (D N : Nat) : Sp := fun vs H Q _ => ∃ v i e, vs = [v] ∧ StAt K D N H v ⟨.num i, e, []⟩ ∧ Q (.str "number") H
theorem ok_how (T : Tx w K mg) (D N : Nat) (c_next_sort : Met P w K mg base 2 (He.ga K "State") "next_sort" (spNext K D N)) : Met P w K mg base 3 (He.ga K "State") "how" (spHow K D N) := by
  refine met_mk T 105 197 116 rfl rfl rfl sc_State_how (fun _ _ _ _ _ _ us hl => match us, hl with | [_], _ => rfl) (fun vs H Q E h => ?_) (fun cdv A outer s H vs Q E hr h => ?_)
  · obtain ⟨v, st, e, rfl, _⟩ := h
    rfl
  obtain ⟨v, i, e, rfl, hst, q⟩ := h
  have hst0 := hst
  obtain ⟨a, dx, tv, ev, pp, rfl, ha, ht, hd, he, hp⟩ := hst
  refine ⟨_, (pss_cons (ps_if (pt_cmpR op_notN (pe_mt0 c_next_sort hr (by omega) (pv 0)) pe_non (nomark _)) (pss_one (ps_ret pe_str)) pss_nil)
      (pss_cons (ps_if (PW.pt (pw_and (pt_cmpR op_eq (pe_callB call_len_seq (by rfl) (T.free 70 rfl) (by decide +kernel) (pa_cons (pe_fld (pv 0) rfl) pa_nil)) pe_int (nomark _)) (pw_and1 (pt_val (pe_isi (pe_fld (pv 0) rfl) (pe_glob (v := .ref (He.ga K "Number")) rfl (T.glo 57 rfl) rfl) (by rfl) (T.free 69 rfl)))))) (pss_one (ps_ret pe_str)) pss_nil)
      (pss_cons (ps_if (PW.pt (pw_and (pt_cmpR op_eq (pe_callB call_len_seq (by rfl) (T.free 70 rfl) (by decide +kernel) (pa_cons (pe_fld (pv 0) rfl) pa_nil)) pe_int (nomark _)) (pw_and1 (pt_val (pe_isi (pe_fld (pv 0) rfl) (pe_glob (v := .ref (He.ga K "Maker")) rfl (T.glo 58 rfl) rfl) (by rfl) (T.free 69 rfl)))))) (pss_one (ps_ret pe_str)) pss_nil)
      (pss_one (ps_ret pe_str))))), ?_⟩
  obtain ⟨pa, xs, rfl, hpa, hws, hlen⟩ := hp
  cases hws
  refine ⟨_, rfl, a, dx, _, rfl, ha, rfl, .ref a, _, rfl, hst0, rfl, _, rfl, iteF ?_⟩
  refine ⟨_, rfl, a, _, dx, _, _, rfl, ha, T.cls 116, T.noat 146, rfl, pa, _, rfl, .inr hpa, rfl, _, rfl, ifT rfl ?_⟩
  exact ⟨_, rfl, a, _, dx, _, _, rfl, ha, T.cls 116, T.noat 144, rfl, true, isi_term T ht .num rfl (nmd .num .num), _, rfl, iteT q⟩
theorem sc_State_came : FnScope ["self"] ["self"] (defScope S_State_came) := ⟨rfl, rfl, rfl, by decide +kernel, rfl, by decide +kernel, by decide +kernel⟩
def spCame (K : PySem.W.Frag) (D N : Nat) : Sp := fun vs H Q _ => ∃ v i e, vs = [v] ∧ StAt K D N H v ⟨.num i, e, []⟩ ∧ Q (.int i) H
theorem ok_came (T : Tx w K mg) (D N : Nat) (c_how : Met P w K mg base 3 (He.ga K "State") "how" (spHow K D N)) : Met P w K mg base 4 (He.ga K "State") "came" (spCame K D N) := by
  refine met_mk T 107 199 116 rfl rfl rfl sc_State_came (fun _ _ _ _ _ _ us hl => match us, hl with | [_], _ => rfl) (fun vs H Q E h => ?_) (fun cdv A outer s H vs Q E hr h => ?_)
  · obtain ⟨v, st, e, rfl, _⟩ := h
    rfl
  obtain ⟨v, i, e, rfl, hst, q⟩ := h
  have hst0 := hst
  obtain ⟨a, dx, tv, ev, pp, rfl, ha, ⟨b, bx, rfl, hb⟩, hd, he, hp⟩ := hst
  refine ⟨_, (pss_cons (ps_if (pt_cmpR op_eq (pe_mt0 c_how hr (by omega) (pv 0)) pe_str (nomark _)) (pss_one (ps_ret (pe_fld (pe_fld (pv 0) rfl) rfl))) pss_nil)
      (pss_one (ps_ret pe_non))), ?_⟩
  refine ⟨_, rfl, a, dx, _, rfl, ha, rfl, .ref a, i, e, rfl, hst0, rfl, _, rfl, ifT (by decide +kernel) ?_⟩
  exact ⟨_, rfl, a, _, dx, _, _, rfl, ha, T.cls 116, T.noat 144, rfl, b, _, bx, _, _, rfl, hb, T.cls 94, T.noat 119, rfl, q⟩
end
end Ut
set_option Elab.async false
set_option linter.all false
set_option maxRecDepth 100000
set_option maxHeartbeats 4000000
namespace Ut
open PySem PySem.Spec PyProof.Rows L2
section
variable {P : Program} {w : World} {K : PySem.W.Frag} {mg : Str → Option Value} {base : Heap}
def spDeed (K : PySem.W.Frag) (D N : Nat) (S : Srt → Bool) : Sp := fun vs H Q _ => ∃ B v st s st', vs = [v] ∧ S s = true ∧ Dom B H ∧ StAt K D N (hid B H) v st ∧ MStep st s st' ∧ ∀ v' H', Same H H' → StAt K D (N + 1) (hid B H') v' st' → Q v' H'
def isOp : Srt → Bool | .op => true | _ => false
def isLook : Srt → Bool | .look => true | _ => false
def isTurn : Srt → Bool | .turn => true | _ => false
def isOn : Srt → Bool | .op => false | .look => false | .turn => false | _ => true
theorem sort_on {x : Wt} {t : Tm} {s : Srt} (h : x.sort t = some s) : isOn s = true := by
  cases x <;> cases t <;> first | (cases h; rfl) | cases h
theorem len_deed {D N : Nat} {S : Srt → Bool} {vs : List V} {H : Hp} {Q : VK} {E : XK} (h : spDeed K D N S vs H Q E) : vs.length = 1 := by
  obtain ⟨B, v, st, s, st', rfl, _⟩ := h
  rfl
theorem wts_app {D N : Nat} {H : Hp} : ∀ {vs us : List V} {ws xs : List Wt}, WtsAt K D N H vs ws → WtsAt K D N H us xs → WtsAt K D N H (vs ++ us) (ws ++ xs)
  | _, _, _, _, .nil, h => h
  | _, _, _, _, .cons a b, h => .cons a (wts_app b h)
theorem sc_opened : FnScope ["state", "at", "ties"] ["state"] (defScope S_opened) := ⟨rfl, rfl, rfl, by decide +kernel, rfl, by decide +kernel, by decide +kernel⟩
theorem ok_opened (T : Tx w K mg) (D N : Nat) (hN : N ≤ 100000) (c_Late : Mak P w K mg base (D + 7) "Late" (He.ga K "Late") (spLate K D N)) (c_GivenWait : Mak P w K mg base 1 "GivenWait" (He.ga K "GivenWait") (spInit K "GivenWait" okWGivenWait)) (c_OtherWait : Mak P w K mg base 1 "OtherWait" (He.ga K "OtherWait") (spInit K "OtherWait" okWOtherWait))
    (c_ChoiceWait : Mak P w K mg base 1 "ChoiceWait" (He.ga K "ChoiceWait") (spInit K "ChoiceWait" okWChoiceWait)) (c_State : Mak P w K mg base 1 "State" (He.ga K "State") (spInit K "State" okWState)) : Cal P w K mg base (D + 9) "opened" (spDeed K D N isOp) := by
  refine cal_mk T 13 13 rfl rfl sc_opened (fun _ _ _ _ _ _ us hl => match us, hl with | [_], _ => rfl) (fun vs H Q E h => len_deed h) (fun cdv A outer s H vs Q E hr h => ?_)
  obtain ⟨B, v, st, so, st', rfl, hS, hB, ⟨a, dx, tv, ev, pp, rfl, ha, ht, hd, he, hp⟩, hM, q⟩ := h
  refine ⟨_, (pss_cons (ps_set (i := 1) sc_opened.nd rfl (Or.inl rfl) (pe_fld (pv 0) rfl))
      (pss_cons (ps_set (i := 2) sc_opened.nd rfl (Or.inl rfl) (pe_fld (pv 0) rfl))
      (pss_cons (ps_if (pt_val (pe_isi (pv 1) (pe_glob (v := .ref (He.ga K "Give")) rfl (T.glo 59 rfl) rfl) (by rfl) (T.free 69 rfl))) (pss_one (ps_ret (pe_mk c_State hr (by omega) (by rfl) (pa_cons (pe_fld (pv 1) rfl) (pa_cons (pv 2) (pa_cons (pe_op op_catA (pe_fld (pv 0) rfl) (pe_tup (pa_cons (pe_mk c_GivenWait hr (by omega) (by rfl) (pa_cons (pe_mk c_Late hr (by omega) (by rfl) (pa_cons (pe_fld (pv 1) rfl) (pa_cons (pv 2) pa_nil))) pa_nil)) pa_nil))) pa_nil)))))) pss_nil)
      (pss_cons (ps_if (pt_val (pe_isi (pv 1) (pe_glob (v := .ref (He.ga K "Sum")) rfl (T.glo 60 rfl) rfl) (by rfl) (T.free 69 rfl))) (pss_one (ps_ret (pe_mk c_State hr (by omega) (by rfl) (pa_cons (pe_fld (pv 1) rfl) (pa_cons (pv 2) (pa_cons (pe_op op_catA (pe_fld (pv 0) rfl) (pe_tup (pa_cons (pe_mk c_OtherWait hr (by omega) (by rfl) (pa_cons (pe_fld (pv 1) rfl) (pa_cons (pe_mk c_Late hr (by omega) (by rfl) (pa_cons (pe_fld (pv 1) rfl) (pa_cons (pv 2) pa_nil))) pa_nil))) pa_nil))) pa_nil)))))) pss_nil)
      (pss_one (ps_ret (pe_mk c_State hr (by omega) (by rfl) (pa_cons (pe_fld (pv 1) rfl) (pa_cons (pv 2) (pa_cons (pe_op op_catA (pe_fld (pv 0) rfl) (pe_tup (pa_cons (pe_mk c_ChoiceWait hr (by omega) (by rfl) (pa_cons (pe_mk c_Late hr (by omega) (by rfl) (pa_cons (pe_fld (pv 1) rfl) (pa_cons (pv 2) pa_nil))) (pa_cons (pe_mk c_Late hr (by omega) (by rfl) (pa_cons (pe_fld (pv 1) rfl) (pa_cons (pv 2) pa_nil))) pa_nil))) pa_nil))) pa_nil)))))))))), ?_⟩
  have ht' := term_up hid_sub ht
  obtain ⟨pa, xs, rfl, hpa, hws, hlen⟩ := hp
  have hxl := wts_len hws
  refine ⟨_, rfl, a, _, dx, _, _, rfl, hid_at ha, T.cls 116, T.noat 144, rfl, ?_⟩
  refine ⟨_, rfl, a, _, dx, _, _, rfl, hid_at ha, T.cls 116, T.noat 145, rfl, ?_⟩
  cases hM with
  | name h => cases hS
  | ag => cases hS
  | on h1 h2 h3 => have := sort_on h2; cases so <;> first | (cases hS; done) | (cases this; done)
  | gv =>
    rename_i m g e ws
    have hd' : max m.dep g.dep + 1 ≤ D := hd
    refine ⟨_, rfl, true, isi_term T ht' .gv rfl (nmd .gv .gv), _, rfl, iteT ?_⟩
    obtain ⟨b, bx, u1, u2, rfl, hb, h1, h2⟩ := ht
    refine ⟨_, rfl, b, _, bx, _, _, rfl, hid_at hb, T.cls 98, T.noat 122, rfl, _, rfl, ?_⟩
    refine ⟨_, rfl, a, _, dx, _, _, rfl, hid_at ha, T.cls 116, T.noat 146, rfl, ?_⟩
    refine ⟨_, rfl, b, _, bx, _, _, rfl, hid_at hb, T.cls 98, T.noat 123, rfl, _, rfl, ?_⟩
    refine late_useG hB h2 (by omega) he ?_
    intro x H1 s1 hla
    refine mk_useG (fs := [("late", .ref x)]) (fun _ _ => ⟨_, rfl, rfl⟩) ?_
    intro y yx H2 s2 hy hy2
    refine ⟨(by show 1 ≤ sizeLine; decide), fun z hz => ?_⟩
    have n3 := same_new hz (.tup [.ref y])
    have s13 := s2.trans n3
    have s03 := s1.trans s13
    refine cat_use (hB.up s03) (same_seqT (hid_up s03) hpa) (SqT.new (hid_new (hB.up (s1.trans s2)) hz)) (by show xs.length + 1 ≤ _; omega) ?_
    intro p4 H4 s4 hq4
    have hq4 : SqT K (hid B H4) p4 (xs ++ [.ref y]) := hq4
    have s14 := s13.trans s4
    have s04 := s1.trans s14
    refine mk_useG (fs := [("at", u1), ("ties", ev), ("pile", .ref p4)]) (fun _ _ => ⟨_, _, _, rfl, rfl⟩) ?_
    intro k kx H5 s5 hk hk5
    have s05 := s04.trans s5
    refine q (.ref k) H5 s05 ⟨k, kx, u1, ev, .ref p4, rfl, hid_got (hB.up s04) hk hk5, term_up (hid_up s05) h1, (by show m.dep ≤ D; omega), tie_up (hid_up s05) (Nat.le_succ N) he, p4, xs ++ [.ref y], rfl, same_seqT (hid_up s5) hq4, wts_snoc (wts_up (hid_up s05) (Nat.le_succ N) hws) ?_, by rw [List.length_append]; exact Nat.succ_le_succ hlen⟩
    exact ⟨y, yx, .ref x, rfl, hid_up (n3.trans (s4.trans s5)) _ _ (hid_got (hB.up s1) hy hy2), late_up (hid_up (s14.trans s5)) (Nat.le_succ N) hla⟩
  | sm =>
    rename_i sg m g e ws
    have hd' : max m.dep g.dep + 1 ≤ D := hd
    refine ⟨_, rfl, false, isi_term T ht' .gv rfl (nmd .sm .gv), _, rfl, iteF ?_⟩
    refine ⟨_, rfl, true, isi_term T ht' .sm rfl (nmd .sm .sm), _, rfl, iteT ?_⟩
    obtain ⟨ok, b, bx, u1, u2, rfl, hb, h1, h2⟩ := ht
    refine ⟨_, rfl, b, _, bx, _, _, rfl, hid_at hb, T.cls 100, T.noat 125, rfl, _, rfl, ?_⟩
    refine ⟨_, rfl, a, _, dx, _, _, rfl, hid_at ha, T.cls 116, T.noat 146, rfl, ?_⟩
    refine ⟨_, rfl, b, _, bx, _, _, rfl, hid_at hb, T.cls 100, T.noat 124, rfl, ?_⟩
    refine ⟨_, rfl, b, _, bx, _, _, rfl, hid_at hb, T.cls 100, T.noat 126, rfl, _, rfl, ?_⟩
    refine late_useG hB h2 (by omega) he ?_
    intro x H1 s1 hla
    refine mk_useG (fs := [("sign", .str sg), ("late", .ref x)]) (fun _ _ => ⟨_, _, rfl, rfl⟩) ?_
    intro y yx H2 s2 hy hy2
    refine ⟨(by show 1 ≤ sizeLine; decide), fun z hz => ?_⟩
    have n3 := same_new hz (.tup [.ref y])
    have s13 := s2.trans n3
    have s03 := s1.trans s13
    refine cat_use (hB.up s03) (same_seqT (hid_up s03) hpa) (SqT.new (hid_new (hB.up (s1.trans s2)) hz)) (by show xs.length + 1 ≤ _; omega) ?_
    intro p4 H4 s4 hq4
    have hq4 : SqT K (hid B H4) p4 (xs ++ [.ref y]) := hq4
    have s14 := s13.trans s4
    have s04 := s1.trans s14
    refine mk_useG (fs := [("at", u1), ("ties", ev), ("pile", .ref p4)]) (fun _ _ => ⟨_, _, _, rfl, rfl⟩) ?_
    intro k kx H5 s5 hk hk5
    have s05 := s04.trans s5
    refine q (.ref k) H5 s05 ⟨k, kx, u1, ev, .ref p4, rfl, hid_got (hB.up s04) hk hk5, term_up (hid_up s05) h1, (by show m.dep ≤ D; omega), tie_up (hid_up s05) (Nat.le_succ N) he, p4, xs ++ [.ref y], rfl, same_seqT (hid_up s5) hq4, wts_snoc (wts_up (hid_up s05) (Nat.le_succ N) hws) ?_, by rw [List.length_append]; exact Nat.succ_le_succ hlen⟩
    exact ⟨ok, y, yx, .ref x, rfl, hid_up (n3.trans (s4.trans s5)) _ _ (hid_got (hB.up s1) hy hy2), late_up (hid_up (s14.trans s5)) (Nat.le_succ N) hla⟩
  | ch =>
    rename_i m n g e ws
    have hd' : max m.dep (max n.dep g.dep) + 1 ≤ D := hd
    refine ⟨_, rfl, false, isi_term T ht' .gv rfl (nmd .ch .gv), _, rfl, iteF ?_⟩
    refine ⟨_, rfl, false, isi_term T ht' .sm rfl (nmd .ch .sm), _, rfl, iteF ?_⟩
    obtain ⟨b, bx, u1, u2, u3, rfl, hb, h1, h2, h3⟩ := ht
    refine ⟨_, rfl, b, _, bx, _, _, rfl, hid_at hb, T.cls 102, T.noat 127, rfl, _, rfl, ?_⟩
    refine ⟨_, rfl, a, _, dx, _, _, rfl, hid_at ha, T.cls 116, T.noat 146, rfl, ?_⟩
    refine ⟨_, rfl, b, _, bx, _, _, rfl, hid_at hb, T.cls 102, T.noat 128, rfl, _, rfl, ?_⟩
    refine late_useG hB h2 (by omega) he ?_
    intro x H1 s1 hla
    refine ⟨_, rfl, b, _, bx, _, _, rfl, s1 _ _ (hid_at hb), T.cls 102, T.noat 129, rfl, _, rfl, ?_⟩
    refine late_useG (hB.up s1) (term_up (hid_up s1) h3) (by omega) (tie_up (hid_up s1) (Nat.le_refl N) he) ?_
    intro x' H1' s1' hla'
    refine mk_useG (fs := [("nought", .ref x), ("other", .ref x')]) (fun _ _ => ⟨_, _, rfl, rfl⟩) ?_
    intro y yx H2 s2 hy hy2
    refine ⟨(by show 1 ≤ sizeLine; decide), fun z hz => ?_⟩
    have n3 := same_new hz (.tup [.ref y])
    have s13 := s2.trans n3
    have s01 := s1.trans s1'
    have s03 := s01.trans s13
    refine cat_use (hB.up s03) (same_seqT (hid_up s03) hpa) (SqT.new (hid_new (hB.up (s01.trans s2)) hz)) (by show xs.length + 1 ≤ _; omega) ?_
    intro p4 H4 s4 hq4
    have hq4 : SqT K (hid B H4) p4 (xs ++ [.ref y]) := hq4
    have s14 := s13.trans s4
    have s04 := s01.trans s14
    refine mk_useG (fs := [("at", u1), ("ties", ev), ("pile", .ref p4)]) (fun _ _ => ⟨_, _, _, rfl, rfl⟩) ?_
    intro k kx H5 s5 hk hk5
    have s05 := s04.trans s5
    refine q (.ref k) H5 s05 ⟨k, kx, u1, ev, .ref p4, rfl, hid_got (hB.up s04) hk hk5, term_up (hid_up s05) h1, (by show m.dep ≤ D; omega), tie_up (hid_up s05) (Nat.le_succ N) he, p4, xs ++ [.ref y], rfl, same_seqT (hid_up s5) hq4, wts_snoc (wts_up (hid_up s05) (Nat.le_succ N) hws) ?_, by rw [List.length_append]; exact Nat.succ_le_succ hlen⟩
    exact ⟨y, yx, .ref x, .ref x', rfl, hid_up (n3.trans (s4.trans s5)) _ _ (hid_got (hB.up s01) hy hy2), late_up (hid_up (s1'.trans (s14.trans s5))) (Nat.le_succ N) hla, late_up (hid_up (s14.trans s5)) (Nat.le_succ N) hla'⟩
theorem sc_looked : FnScope ["state", "late"] ["state"] (defScope S_looked) := ⟨rfl, rfl, rfl, by decide +kernel, rfl, by decide +kernel, by decide +kernel⟩
theorem ok_looked (T : Tx w K mg) (D N : Nat) (c_State : Mak P w K mg base 1 "State" (He.ga K "State") (spInit K "State" okWState)) : Cal P w K mg base 3 "looked" (spDeed K D N isLook) := by
  refine cal_mk T 14 14 rfl rfl sc_looked (fun _ _ _ _ _ _ us hl => match us, hl with | [_], _ => rfl) (fun vs H Q E h => len_deed h) (fun cdv A outer s H vs Q E hr h => ?_)
  obtain ⟨B, v, st, so, st', rfl, hS, hB, ⟨a, dx, tv, ev, pp, rfl, ha, ht, hd, he, hp⟩, hM, q⟩ := h
  have hu := hu_of hr
  refine ⟨_, (pss_cons (ps_set (i := 1) sc_looked.nd rfl (Or.inl rfl) (pe_dget hu (pe_fld (pv 0) rfl) (pe_fld (pe_fld (pv 0) rfl) rfl) (fun _ _ => rfl)))
      (pss_one (ps_ret (pe_mk c_State hr (by omega) (by rfl) (pa_cons (pe_fld (pv 1) rfl) (pa_cons (pe_fld (pv 1) rfl) (pa_cons (pe_fld (pv 0) rfl) pa_nil))))))), ?_⟩
  cases hM with
  | gv => cases hS
  | sm => cases hS
  | ch => cases hS
  | ag => cases hS
  | on h1 h2 h3 => have := sort_on h2; cases so <;> first | (cases hS; done) | (cases this; done)
  | name hc0 =>
    rename_i x e ws c
    obtain ⟨ok, b, bx, rfl, hb⟩ := ht
    cases he with
    | mk f hea hl hk hc =>
      rename_i ea kvs
      have hkx : valV kvs (Sum.inr x : Key) = some (f x) := (hk x).trans (by show Option.map _ (e x) = _; rw [hc0]; rfl)
      obtain ⟨y, yx, tv2, ev2, fv, m, d, eb, hy, hyt, hyd, hye, _⟩ := late_at (hc x c hc0)
      have hg : DGet H ea (.str x) (some (.ref y)) := by rw [← eb, ← hkx]; exact DGet.k (k := Sum.inr x) (hid_at hea)
      refine ⟨_, rfl, a, _, dx, _, _, rfl, hid_at ha, T.cls 116, T.noat 145, rfl, _, rfl, a, _, dx, _, _, rfl, hid_at ha, T.cls 116, T.noat 144, rfl, b, _, bx, _, _, rfl, hid_at hb, T.cls 92, T.noat 118, rfl, ea, _, rfl, hg, ?_⟩
      refine ⟨_, rfl, y, _, yx, _, _, rfl, hid_at hy, T.cls 106, T.noat 132, rfl, _, rfl, y, _, yx, _, _, rfl, hid_at hy, T.cls 106, T.noat 133, rfl, ?_⟩
      refine ⟨_, rfl, a, _, dx, _, _, rfl, hid_at ha, T.cls 116, T.noat 146, rfl, ?_⟩
      refine mk_useG (fs := [("at", tv2), ("ties", ev2), ("pile", pp)]) (fun _ _ => ⟨_, _, _, rfl, rfl⟩) ?_
      intro k kx H5 s5 hk hk5
      exact q (.ref k) H5 s5 ⟨k, kx, tv2, ev2, pp, rfl, hid_got hB hk hk5, term_up (hid_up s5) hyt, hyd, tie_up (hid_up s5) (Nat.le_succ N) hye, pile_up (hid_up s5) (Nat.le_succ N) hp⟩
theorem sc_turned : FnScope ["state", "ties"] ["state"] (defScope S_turned) := ⟨rfl, rfl, rfl, by decide +kernel, rfl, by decide +kernel, by decide +kernel⟩
theorem ok_turned (T : Tx w K mg) (D N : Nat) (hN : N ≤ 100000) (c_Late : Mak P w K mg base (D + 7) "Late" (He.ga K "Late") (spLate K D N)) (c_State : Mak P w K mg base 1 "State" (He.ga K "State") (spInit K "State" okWState)) : Cal P w K mg base (D + 9) "turned" (spDeed K D N isTurn) := by
  refine cal_mk T 15 15 rfl rfl sc_turned (fun _ _ _ _ _ _ us hl => match us, hl with | [_], _ => rfl) (fun vs H Q E h => len_deed h) (fun cdv A outer s H vs Q E hr h => ?_)
  obtain ⟨B, v, st, so, st', rfl, hS, hB, ⟨a, dx, tv, ev, pp, rfl, ha, ht, hd, he, hp⟩, hM, q⟩ := h
  have hu := hu_of hr
  refine ⟨_, (pss_cons (ps_set (i := 1) sc_turned.nd rfl (Or.inl rfl) (pe_callTy call_dictD (by rfl) (T.free 80 rfl) (by decide +kernel) (pa_cons (pe_fld (pv 0) rfl) pa_nil)))
      (pss_cons (ps_dput hu (pv 1) (pe_fld (pe_fld (pv 0) rfl) rfl) (pe_mk c_Late hr (by omega) (by rfl) (pa_cons (pe_fld (pv 0) rfl) (pa_cons (pe_fld (pv 0) rfl) pa_nil))) rfl)
      (pss_one (ps_ret (pe_mk c_State hr (by omega) (by rfl) (pa_cons (pe_fld (pe_fld (pv 0) rfl) rfl) (pa_cons (pv 1) (pa_cons (pe_fld (pv 0) rfl) pa_nil)))))))), ?_⟩
  cases hM with
  | gv => cases hS
  | sm => cases hS
  | ch => cases hS
  | name h => cases hS
  | on h1 h2 h3 => have := sort_on h2; cases so <;> first | (cases hS; done) | (cases this; done)
  | ag =>
    rename_i x g e ws
    have ht0 := ht
    have he0 := he
    obtain ⟨ok, b, bx, u, rfl, hb, hg⟩ := ht
    cases he with
    | mk f hea hl hk hc =>
      rename_i ea kvs
      refine ⟨_, rfl, a, _, dx, _, _, rfl, hid_at ha, T.cls 116, T.noat 145, rfl, ea, kvs, rfl, .inl (hid_at hea), fun p hp0 => ?_⟩
      have n1 := same_new hp0 (.dK kvs)
      have hB1 := hB.up n1
      have hBp : Dom (p :: B) (upd H p (.dK kvs)) := hB1.cons (by rw [upd_same]; exact Option.some_ne_none _)
      have sm : Same (hid B H) (hid (p :: B) (upd H p (.dK kvs))) := same_hid_more n1 hp0
      refine ⟨_, rfl, a, _, dx, _, _, rfl, n1 _ _ (hid_at ha), T.cls 116, T.noat 144, rfl, _, rfl, a, _, dx, _, _, rfl, n1 _ _ (hid_at ha), T.cls 116, T.noat 145, rfl, ?_⟩
      refine late_useG hBp (term_up sm ht0) hd (tie_up sm (Nat.le_refl N) he0) ?_
      intro y H2 s2 hla
      have hp2 := s2 _ _ upd_same
      have s02 := n1.trans s2
      refine ⟨_, rfl, _, rfl, a, _, dx, _, _, rfl, s02 _ _ (hid_at ha), T.cls 116, T.noat 144, rfl, b, _, bx, _, _, rfl, s02 _ _ (hid_at hb), T.cls 104, T.noat 130, rfl, p, _, rfl, DPut.k (k := Sum.inr x) hp2 (by show kvs.length < 2 ^ 24; omega), ?_⟩
      have x3 : Same (hid (p :: B) H2) (hid (p :: B) (upd H2 p (.dK (putK kvs (Sum.inr x : Key) (.ref y))))) := samex_hid (samex_upd List.mem_cons_self _)
      have s3 : Same H (upd H2 p (.dK (putK kvs (Sum.inr x : Key) (.ref y)))) := fun c o hh => by
        rw [upd_ne (ne_of_none hh hp0)]
        exact s02 c o hh
      have y3 := (sm.trans (hid_up s2)).trans (x3.trans hid_less)
      have pB : p ∉ B := hB.out hp0
      refine ⟨_, rfl, a, _, dx, _, _, rfl, s3 _ _ (hid_at ha), T.cls 116, T.noat 144, rfl, b, _, bx, _, _, rfl, s3 _ _ (hid_at hb), T.cls 104, T.noat 131, rfl, _, rfl, ?_⟩
      refine ⟨_, rfl, a, _, dx, _, _, rfl, s3 _ _ (hid_at ha), T.cls 116, T.noat 146, rfl, ?_⟩
      refine mk_useG (fs := [("at", u), ("ties", .ref p), ("pile", pp)]) (fun _ _ => ⟨_, _, _, rfl, rfl⟩) ?_
      intro k kx H5 s5 hkn hk5
      have y5 := y3.trans (hid_up s5)
      refine q (.ref k) H5 (s3.trans s5) ⟨k, kx, u, .ref p, pp, rfl, hid_got (hB.up s3) hkn hk5, term_up y5 hg, Nat.le_trans (Nat.le_succ _) hd, ?_, pile_up y5 (Nat.le_succ N) hp⟩
      have hpp : hid B (upd H2 p (.dK (putK kvs (Sum.inr x : Key) (.ref y)))) p = some (.dK (putK kvs (Sum.inr x : Key) (.ref y))) := by rw [hid_out pB, upd_same]
      exact tie_put (hid_up s5 _ _ hpp) hl hk (fun z d hz => late_up y5 (Nat.le_refl N) (hc z d hz)) (late_up ((x3.trans hid_less).trans (hid_up s5)) (Nat.le_refl N) hla)
theorem sc_went_on : FnScope ["state", "at", "ties", "waits"] ["state"] (defScope S_went_on) := ⟨rfl, rfl, rfl, by decide +kernel, rfl, by decide +kernel, by decide +kernel⟩
theorem ok_went_on (T : Tx w K mg) (D N : Nat) (hD : 1 ≤ D) (hN : N ≤ 100000) (c_State : Mak P w K mg base 1 "State" (He.ga K "State") (spInit K "State" okWState)) : Cal P w K mg base 5 "went_on" (spDeed K D N isOn) := by
  refine cal_mk T 16 16 rfl rfl sc_went_on (fun _ _ _ _ _ _ us hl => match us, hl with | [_], _ => rfl) (fun vs H Q E h => len_deed h) (fun cdv A outer s H vs Q E hr h => ?_)
  obtain ⟨B, v, st, so, st', rfl, hS, hB, ⟨a, dx, tv, ev, pp, rfl, ha, ht, hd, he, hp⟩, hM, q⟩ := h
  refine ⟨_, (pss_cons (ps_asg (pe_any fun i => pe_mt ((ok_after T D N hD hN) i) hr (by omega) (pe_ix ix_tup (pe_fld (pv 0) rfl) (pe_un un_neg pe_int) (fun _ _ => rfl)) (pa_cons (pe_fld (pv 0) rfl) (pa_cons (pe_fld (pv 0) rfl) pa_nil))) (pg_tup (by rfl) (pgs_cons (pg_name (i := 1) sc_went_on.nd rfl (Or.inl rfl)) (pgs_cons (pg_name (i := 2) sc_went_on.nd rfl (Or.inl rfl)) (pgs_cons (pg_name (i := 3) sc_went_on.nd rfl (Or.inl rfl)) pgs_nil)))))
      (pss_one (ps_ret (pe_mk c_State hr (by omega) (by rfl) (pa_cons (pv 1) (pa_cons (pv 2) (pa_cons (pe_op op_catA (pe_slice sl_tupA (pe_fld (pv 0) rfl) po_none (po_some (pe_un un_neg pe_int))) (pv 3)) pa_nil))))))), ?_⟩
  cases hM with
  | gv => cases hS
  | sm => cases hS
  | ch => cases hS
  | name h => cases hS
  | ag => cases hS
  | on h1 h2 h3 =>
    rename_i t e ws x r
    obtain ⟨pa, xs, rfl, hpa, hws, hlen⟩ := hp
    obtain ⟨us, u, rfl, hw1, hw2⟩ := wts_last hws
    obtain ⟨b, bx, fs, rfl, hb, l1, l2⟩ := wt_ins hw2
    have hpa' := same_seqT hid_sub hpa
    refine ⟨x.wc, _, rfl, a, _, dx, _, _, rfl, hid_at ha, T.cls 116, T.noat 146, rfl, _, rfl, pa, _, _, _, rfl, rfl, hpa', atI_last, b, bx, fs, rfl, hid_at hb, l2, ?_⟩
    refine ⟨_, rfl, a, _, dx, _, _, rfl, hid_at ha, T.cls 116, T.noat 144, rfl, _, rfl, a, _, dx, _, _, rfl, hid_at ha, T.cls 116, T.noat 145, rfl, ?_⟩
    refine ⟨B, .ref b, tv, ev, x, t, e, r, rfl, rfl, hB, hw2, ht, hd, he, h3, fun p H1 s1 haf => ?_⟩
    obtain ⟨tv2, ev2, wa, ys, hp1, ht2, hd2, he2, hq2, hw3⟩ := haf
    refine ⟨p, _, rfl, SqT.new hp1, rfl, _, _, rfl, _, _, rfl, _, _, rfl, rfl, ?_⟩
    refine ⟨_, rfl, _, rfl, ?_⟩
    refine ⟨_, rfl, a, _, dx, _, _, rfl, s1 _ _ (hid_at ha), T.cls 116, T.noat 146, rfl, ?_⟩
    refine ⟨_, rfl, -1, rfl, pa, _, rfl, same_seqT s1 hpa', fun hc => absurd hc (cut_not us _), fun _ p2 hp2 => ?_⟩
    rw [cut_last]
    have n2 := same_new hp2 (.tup us)
    have s02 := s1.trans n2
    have hul := wts_len hw1
    rw [List.length_append] at hlen
    have hyl := wts_len hw3
    have hr2 : r.2.2.length ≤ 1 := by
      cases x <;> cases t <;> first | (cases h3; simp) | cases h3
    refine ⟨_, rfl, ?_⟩
    refine cat_use (hB.up s02) (SqT.new (hid_new (hB.up s1) hp2)) (same_seqT (hid_up n2) hq2) (by omega) ?_
    intro p4 H4 s4 hq4
    have hq4 : SqT K (hid B H4) p4 (us ++ ys) := hq4
    have s24 := n2.trans s4
    have s04 := s1.trans s24
    refine mk_useG (fs := [("at", tv2), ("ties", ev2), ("pile", .ref p4)]) (fun _ _ => ⟨_, _, _, rfl, rfl⟩) ?_
    intro k kx H5 s5 hk hk5
    have s25 := s24.trans s5
    refine q (.ref k) H5 (s04.trans s5) ⟨k, kx, tv2, ev2, .ref p4, rfl, hid_got (hB.up s04) hk hk5, term_up (hid_up s25) ht2, hd2, tie_up (hid_up s25) (Nat.le_refl _) he2, p4, us ++ ys, rfl, same_seqT (hid_up s5) hq4, ?_, ?_⟩
    · exact wts_app (wts_up (hid_up (s1.trans s25)) (Nat.le_succ N) hw1) (wts_up (hid_up s25) (Nat.le_refl _) hw3)
    · show (ws ++ r.2.2).length ≤ N + 1
      rw [List.length_append]
      simp at hlen
      omega
end
end Ut
set_option Elab.async false
set_option linter.all false
set_option maxRecDepth 100000
set_option maxHeartbeats 4000000
namespace Ut
open PySem PySem.Spec PyProof.Rows L2
def deedN : Srt → Str
  | .op => "opened" | .look => "looked" | .turn => "turned" | _ => "went_on"
def deedS : Srt → Srt → Bool
  | .op => isOp | .look => isLook | .turn => isTurn | _ => isOn
section
variable {P : Program} {w : World} {K : PySem.W.Frag} {mg : Str → Option Value} {base : Heap}
theorem deed_self (s : Srt) : deedS s s = true := by cases s <;> rfl
theorem tx_deed (T : Tx w K mg) (s : Srt) : KDct K w (He.ga K "DEEDS") s.nm (.ref (He.ga K (deedN s))) := by
  obtain ⟨_, e⟩ := ba T.s.ex
  obtain ⟨_, e⟩ := ba e
  obtain ⟨_, e⟩ := ba e
  obtain ⟨_, e⟩ := ba e
  obtain ⟨_, e⟩ := ba e
  obtain ⟨_, e⟩ := ba e
  obtain ⟨es, m, D⟩ := T.s.t.tab 1
  have h : (s.nm, He.Dv.glo (deedN s)) ∈ [(("open" : Str), He.Dv.glo "opened"), ("look", .glo "looked"), ("take", .glo "went_on"), ("turn", .glo "turned"), ("next", .glo "went_on"), ("sum", .glo "went_on"), ("choose", .glo "went_on")] := by
    cases s <;> simp [Srt.nm, deedN]
  obtain ⟨u, h1, h2⟩ := He.valsB_ok e h
  exact ⟨es, m, u, D.at_, D.lit, h1, h2⟩
theorem tx_deedg (T : Tx w K mg) : ∀ s : Srt, mg (deedN s) = some (.ref (He.ga K (deedN s)))
  | .op => T.glo 13 | .look => T.glo 14 | .turn => T.glo 15 | .take => T.glo 16 | .next => T.glo 16 | .sum => T.glo 16 | .choose => T.glo 16
/-- a local that holds a def of the module, called -/
theorem pe_cl {X : Cx} {k j i : Nat} {x y : Str} {sp : Sp} {p pos : Pos} {e : Expr} {es : List Expr} {t : TA} (c : Cal X.prog X.w X.K X.mg X.base k y sp) (hg : X.mg y = some (.ref (He.ga X.K y))) (hr : Room j X.A) (hk : k ≤ j) (hN : X.N[i]? = some x) (hv : Vis X.env.scope x) (ha : PA X (e :: es) t)
    (hdb : (x == ("__debug__" : Str)) = false := by decide) (hcd : (x == ("__classdict__" : Str)) = false := by decide) (he : starEach (e :: es) X.env = (false, eval e X.env) :: starEach es X.env := by rfl) (hpl : (backTo pos (starEach es X.env)).any (·.1) = false := by rfl) :
    PE X (.Call (.Name x p) (e :: es) [] pos) (tCallL i (He.ga X.K y) sp [] E0 t) := by
  obtain ⟨f, fd, ps, F, hm, kp, b⟩ := c.ex
  rw [hg] at hm
  cases hm
  exact pe_callL F (hr.mono hk) hN hv kp b .nil pass0 ha hdb hcd he hpl
theorem sc_State_step : FnScope ["self", "sort", "deed"] ["self"] (defScope S_State_step) := ⟨rfl, rfl, rfl, by decide +kernel, rfl, by decide +kernel, by decide +kernel⟩
def spStep (K : PySem.W.Frag) (D N : Nat) : Sp := fun vs H Q _ => ∃ B v st s st', vs = [v] ∧ Dom B H ∧ StAt K D N (hid B H) v st ∧ MStep st s st' ∧ ∀ v' H', Same H H' → StAt K D (N + 1) (hid B H') v' st' → Q v' H'
theorem ok_step (T : Tx w K mg) (D N : Nat) (c_next_sort : Met P w K mg base 2 (He.ga K "State") "next_sort" (spNext K D N)) (c_deed : ∀ s, Cal P w K mg base (D + 9) (deedN s) (spDeed K D N (deedS s))) : Met P w K mg base (D + 10) (He.ga K "State") "step" (spStep K D N) := by
  have hgl := tx_deedg T
  refine met_mk T 106 198 116 rfl rfl rfl sc_State_step (fun _ _ _ _ _ _ us hl => match us, hl with | [_], _ => rfl) (fun vs H Q E h => ?_) (fun cdv A outer s H vs Q E hr h => ?_)
  · obtain ⟨B, v, st, so, st', rfl, _⟩ := h
    rfl
  obtain ⟨B, v, st, so, st', rfl, hB, hst, hM, q⟩ := h
  refine ⟨_, (pss_cons (ps_set (i := 1) sc_State_step.nd rfl (Or.inl rfl) (pe_mt0 c_next_sort hr (by omega) (pv 0)))
      (pss_cons (ps_if (pt_cmpR op_isN (pv 1) pe_non (nomark _)) (pss_one ps_never) pss_nil)
      (pss_cons (ps_set (i := 2) sc_State_step.nd rfl (Or.inl rfl) (pe_ix ix_kdict (pe_glob (v := .ref (He.ga K "DEEDS")) rfl (T.glo 91 rfl) rfl) (pv 1) (fun _ _ => rfl)))
      (pss_one (ps_ret (pe_any fun s => pe_cl (i := 2) (c_deed s) (hgl s) hr (by omega) (by rfl) (Or.inl rfl) (pa_cons (pv 0) pa_nil))))))), ?_⟩
  have hst' := st_up hid_sub (Nat.le_refl N) hst
  have hst2 := hst'
  obtain ⟨a, dx, tv, ev, pp, rfl, ha, _⟩ := hst2
  refine ⟨_, rfl, a, dx, _, rfl, ha, rfl, .ref a, st, rfl, hst', ?_⟩
  rw [hM.next]
  refine ⟨_, rfl, rfl, _, rfl, iteF ?_⟩
  refine ⟨_, rfl, _, _, _, rfl, rfl, tx_deed T so, ?_⟩
  exact ⟨so, rfl, _, rfl, B, .ref a, st, so, st', rfl, deed_self so, hB, hst, hM, q⟩
theorem sc_first_state : FnScope ["term"] ["term"] (defScope S_first_state) := ⟨rfl, rfl, rfl, by decide +kernel, rfl, by decide +kernel, by decide +kernel⟩
def spFirst (K : PySem.W.Frag) (D : Nat) : Sp := fun vs H Q _ => ∃ t v, vs = [v] ∧ TermAt K H t v ∧ Sc t [] ∧ t.dep ≤ D ∧ ∀ v' H', Same H H' → StAt K D 0 H' v' ⟨t, Tie.nil, []⟩ → Q v' H'
theorem ok_first_state (T : Tx w K mg) (D : Nat) (c_must_be_closed : Cal P w K mg base (D + 2) "must_be_closed" (spClosed K D)) (c_State : Mak P w K mg base 1 "State" (He.ga K "State") (spInit K "State" okWState)) : Cal P w K mg base (D + 3) "first_state" (spFirst K D) := by
  refine cal_mk T 17 17 rfl rfl sc_first_state (fun _ _ _ _ _ _ us hl => match us, hl with | [_], _ => rfl) (fun vs H Q E h => ?_) (fun cdv A outer s H vs Q E hr h => ?_)
  · obtain ⟨t, v, rfl, _⟩ := h
    rfl
  obtain ⟨t, v, rfl, hv, hs, hd, q⟩ := h
  refine ⟨_, (pss_cons (ps_expr (pe_c c_must_be_closed hr (by omega) (by rfl) (pa_cons (pv 0) pa_nil)))
      (pss_one (ps_ret (pe_mk c_State hr (by omega) (by rfl) (pa_cons (pv 0) (pa_cons pe_dnewK (pa_cons (pe_tup pa_nil) pa_nil))))))), ?_⟩
  refine ⟨_, rfl, t, v, rfl, hv, hs, hd, fun H1 s1 => ?_⟩
  refine ⟨_, rfl, fun p hp => ⟨Nat.zero_le _, fun p2 hp2 => ?_⟩⟩
  have n2 := same_new hp (.dK [])
  have n3 := same_new hp2 (.tup [])
  refine mk_useG (fs := [("at", v), ("ties", .ref p), ("pile", .ref p2)]) (fun _ _ => ⟨_, _, _, rfl, rfl⟩) ?_
  intro k kx H5 s5 hk hk5
  have s35 := n3.trans s5
  have s15 := n2.trans s35
  exact q (.ref k) H5 (s1.trans s15) ⟨k, kx, v, .ref p, .ref p2, rfl, hk5, term_up (s1.trans s15) hv, hd, .mk (fun _ => .non) (s35 _ _ upd_same) (Nat.zero_le _) (fun x => rfl) (fun x c h => by cases h), p2, [], rfl, SqT.new (s5 _ _ upd_same), .nil, Nat.le_refl 0⟩
/-! ### the run -/
def Tal.one (f : Tal) (s : Srt) : Tal := fun u => if u = s then f s + 1 else f u
inductive MRun : MSt → Nat → Tal → MSt → Prop where
  | stop {st : MSt} (h : st.next = none) : MRun st 0 (fun _ => 0) st
  | go {st st' fin : MSt} {s : Srt} {n : Nat} {g : Tal} (h : MStep st s st') (r : MRun st' n g fin) : MRun st (n + 1) (g.one s) fin
theorem sc_machine_run : FnScope ["term", "most", "state", "tally", "sort", "done"] ["term", "most"] (defScope S_machine_run) := ⟨rfl, rfl, rfl, by decide +kernel, rfl, by decide +kernel, by decide +kernel⟩
def spMachine (K : PySem.W.Frag) (D : Nat) : Sp := fun vs H Q _ => ∃ t v n F fin, ∃ most : Nat, vs = [v, .int (most : Nat)] ∧ TermAt K H t v ∧ Sc t [] ∧ t.dep ≤ D ∧ MRun ⟨t, Tie.nil, []⟩ n F fin ∧ n ≤ most ∧ n ≤ 100000 ∧
  ∀ p sv ta H', Same H H' → H' p = some (.tup [sv, .ref ta, .int (n : Nat)]) → H' ta = some (.dK (talK F)) → StAt K D n H' sv fin → Q (.ref p) H'
theorem ok_machine_run (T : Tx w K mg) (D : Nat) (c_first_state : Cal P w K mg base (D + 3) "first_state" (spFirst K D)) (c_next : ∀ N, Met P w K mg base 2 (He.ga K "State") "next_sort" (spNext K D N)) (c_stp : ∀ N, N ≤ 100000 → Met P w K mg base (D + 10) (He.ga K "State") "step" (spStep K D N)) : Cal P w K mg base (D + 11) "machine_run" (spMachine K D) := by
  have c_next_sort : Met P w K mg base 2 (He.ga K "State") "next_sort" (spNext K D 100000) := c_next 100000
  have c_step : ∀ N : {N : Nat // N ≤ 100000}, Met P w K mg base (D + 10) (He.ga K "State") "step" (spStep K D N.1) := fun N => c_stp N.1 N.2
  refine cal_mk T 18 18 rfl rfl sc_machine_run (fun _ _ _ _ _ _ us hl => match us, hl with | [_, _], _ => rfl) (fun vs H Q E h => ?_) (fun cdv A outer s H vs Q E hr h => ?_)
  · obtain ⟨t, v, n, F, fin, most, rfl, _⟩ := h
    rfl
  obtain ⟨t, v, n, F, fin, most, rfl, hv, hs, hd, hR, hn, hn2, q⟩ := h
  have hu := hu_of hr
  refine ⟨_, (pss_cons (ps_set (i := 2) sc_machine_run.nd rfl (Or.inl rfl) (pe_c c_first_state hr (by omega) (by rfl) (pa_cons (pv 0) pa_nil)))
      (pss_cons (ps_set (i := 3) sc_machine_run.nd rfl (Or.inl rfl) pe_dnewK)
      (pss_cons (ps_for PassesOwn.never rfl (pi_tup (pe_glob (v := .ref (He.ga K "SORTS")) rfl (T.glo 89 rfl) rfl)) (pg_name (i := 4) sc_machine_run.nd rfl (Or.inl rfl))
      (pss_one (ps_dput hu (pv 3) (pv 4) pe_int rfl)))
      (pss_cons (ps_set (i := 5) sc_machine_run.nd rfl (Or.inl rfl) pe_int)
      (pss_cons (ps_while PassesOwn.never (PW.pt (pw_and (pt_cmpR op_lt (pv 5) (pv 1) (nomark _)) (pw_and1 (pt_cmpR op_notN (pe_mt0 c_next_sort hr (by omega) (pv 2)) pe_non (nomark _)))))
      (pss_cons (ps_daug hu (pv 3) (pe_mt0 c_next_sort hr (by omega) (pv 2)) pe_int in_add (fun _ _ _ => rfl))
      (pss_cons (ps_set (i := 2) sc_machine_run.nd rfl (Or.inl rfl) (pe_any fun i => pe_mt0 (c_step i) hr (by omega) (pv 2)))
      (pss_one (ps_aug (i := 5) sc_machine_run.nd rfl (Or.inl rfl) pe_int ip_add)))))
      (pss_one (ps_ret (pe_tup (pa_cons (pv 2) (pa_cons (pv 3) (pa_cons (pv 5) pa_nil))))))))))), ?_⟩
  refine ⟨_, rfl, t, v, rfl, hv, hs, hd, fun sv H1 s1 hst => ?_⟩
  refine fun p hp => ?_
  have n2 := same_new hp (.dK [])
  have hst1 : StAt K D 0 (hid [p] (upd H1 p (.dK []))) sv ⟨t, Tie.nil, []⟩ := st_up (same_hid_new hp) (Nat.le_refl 0) hst
  refine ⟨_, rfl, ⟨_, tx_sorts T _⟩, for_tup (K := K) (a := He.ga K "SORTS") (xs := [.str "open", .str "look", .str "take", .str "turn", .str "next", .str "sum", .str "choose"]) (fun i σ Hi => ∃ x, σ = [some v, some (.int (most : Nat)), some sv, some (.ref p), x, none] ∧ Hi = upd H1 p (.dK (talPre (fun _ => 0) i)))
    ⟨none, rfl, rfl⟩ (fun i σ Hi _ _ => tx_sorts T _) ?_ ?_⟩
  · rintro i y σ Hi hi ⟨x, rfl, rfl⟩
    obtain ⟨z, hz, rfl⟩ := sorts_at hi
    refine ⟨_, rfl, _, rfl, p, _, rfl, DPut.k (k := Sum.inr z.nm) upd_same (small1000 (by have := talPre_len (fun _ => 0) i; omega)), some (.str z.nm), rfl, ?_⟩
    rw [upd_upd, ← tal_snoc (fun _ => 0) hz]
    rfl
  · rintro σ Hi ⟨x, rfl, rfl⟩
    have hst2 : StAt K D 0 (hid [p] (upd H1 p (.dK (talPre (fun _ => 0) 7)))) sv ⟨t, Tie.nil, []⟩ := st_up (same_hid_new hp) (Nat.le_refl 0) hst
    refine ⟨fun m σ Hi => ∃ (i : Nat) (f g : Tal) (st : MSt) (u : V) (x : Option V), i + m = n ∧ σ = [some v, some (.int (most : Nat)), some u, some (.ref p), x, some (.int (i : Nat))] ∧ Same H (hid [p] Hi) ∧ Hi p = some (.dK (talK f)) ∧ (∀ s, f s + g s = F s) ∧ MRun st m g fin ∧ StAt K D i (hid [p] Hi) u st,
      ⟨n, 0, fun _ => 0, F, _, sv, x, Nat.zero_add n, rfl, s1.trans (same_hid_new hp), upd_same, fun s => Nat.zero_add _, hR, hst2⟩, ?_⟩
    rintro m σ Hi ⟨i, f, g, st, u, x, him, rfl, sH, hpi, hfg, hR1, hsti⟩
    have hst3 : StAt K D 100000 Hi u st := st_up hid_sub (by omega) hsti
    have hst4 := hst3
    obtain ⟨a, dx, tv, ev, pp, rfl, ha, _⟩ := hst3
    have sHi := sH.trans hid_sub
    cases hR1 with
    | stop hnx =>
      have fin2 : ∀ z, Hi z = none → Q (.ref z) (upd Hi z (.tup [.ref a, .ref p, .int (i : Nat)])) := fun z hz => by
        have n5 := same_new hz (.tup [.ref a, .ref p, .int (i : Nat)])
        have ein : i = n := by omega
        subst ein
        refine q z (.ref a) p _ (sHi.trans n5) upd_same ?_ (st_up (hid_sub.trans n5) (Nat.le_refl _) hsti)
        have ef : f = F := funext fun s => by have := hfg s; simpa using this
        rw [← ef]
        exact n5 _ _ hpi
      refine ⟨_, rfl, _, rfl, _, _, rfl, rfl, _, rfl, ?_⟩
      by_cases c : i < most
      · refine ifT (decide_eq_true (by omega)) ?_
        refine ⟨_, rfl, a, dx, _, rfl, ha, rfl, .ref a, _, rfl, hst4, ?_⟩
        rw [hnx]
        refine ⟨rfl, _, rfl, ifF rfl ?_⟩
        exact ⟨_, rfl, _, rfl, _, rfl, (by show 3 ≤ sizeLine; decide), fin2⟩
      · refine ifF (decide_eq_false (by omega)) ?_
        exact ⟨_, rfl, _, rfl, _, rfl, (by show 3 ≤ sizeLine; decide), fin2⟩
    | go hM hR2 =>
      rename_i st' sx m g
      refine ⟨_, rfl, _, rfl, _, _, rfl, rfl, _, rfl, ?_⟩
      refine ifT (decide_eq_true (by omega)) ?_
      refine ⟨_, rfl, a, dx, _, rfl, ha, rfl, .ref a, _, rfl, hst4, ?_⟩
      rw [hM.next]
      refine ⟨rfl, _, rfl, ifT rfl ?_⟩
      refine ⟨fun σ' H' => ∃ (i : Nat) (f g : Tal) (st : MSt) (u : V) (x : Option V), i + m = n ∧ σ' = [some v, some (.int (most : Nat)), some u, some (.ref p), x, some (.int (i : Nat))] ∧ Same H (hid [p] H') ∧ H' p = some (.dK (talK f)) ∧ (∀ s, f s + g s = F s) ∧ MRun st m g fin ∧ StAt K D i (hid [p] H') u st,
        fun σ' H' h => ⟨m, Nat.lt_succ_self m, h⟩, ?_⟩
      refine ⟨_, rfl, _, rfl, a, dx, _, rfl, ha, rfl, .ref a, _, rfl, hst4, ?_⟩
      rw [hM.next]
      refine ⟨p, _, rfl, tal_dget hpi sx, _, _, rfl, rfl, _, DPut.k (k := Sum.inr sx.nm) hpi (by show 7 < 2 ^ 24; decide), ?_⟩
      have ep : putK (talK f) (Sum.inr sx.nm : Key) (V.int ((f sx : Nat) + 1)) = talK (f.one sx) := by
        rw [show ((f sx : Nat) : Int) + 1 = ((f sx + 1 : Nat) : Int) from rfl, tal_put]
        refine congrArg talK (funext fun t => ?_)
        unfold Tal.one
        by_cases e : t = sx
        · subst e; simp
        · simp [e]
      rw [ep]
      have x5 : Same (hid [p] Hi) (hid [p] (upd Hi p (.dK (talK (f.one sx))))) := samex_hid (samex_upd (by simp) _)
      have hst5 := st_up x5 (Nat.le_refl i) hsti
      have hB5 : Dom [p] (upd Hi p (.dK (talK (f.one sx)))) := fun a m => by rw [List.mem_singleton.mp m, upd_same]; exact Option.some_ne_none _
      have hst6 := hst5
      obtain ⟨a6, dx6, tv6, ev6, pp6, e6, ha6, _⟩ := hst6
      cases e6
      refine ⟨⟨i, by omega⟩, _, rfl, a, dx6, _, rfl, hid_at ha6, rfl, [p], .ref a, _, sx, st', rfl, hB5, hst5, hM, fun v' H' s' hst' => ?_⟩
      refine ⟨_, rfl, _, _, rfl, rfl, i + 1, f.one sx, g, st', v', x, by omega, rfl, (sH.trans x5).trans (hid_up s'), s' _ _ upd_same, fun s => ?_, hR2, hst'⟩
      have := hfg s
      unfold Tal.one at this ⊢
      by_cases e : s = sx
      · simp only [e, if_true] at this ⊢; omega
      · simp only [e, if_false] at this ⊢; omega
end
end Ut
set_option Elab.async false
set_option linter.all false
set_option maxRecDepth 100000
set_option maxHeartbeats 4000000
namespace Ut
open PySem PySem.Spec PyProof.Rows L2
/-! ### the plain law of the machine: what `judged` tells is what the machine does -/
mutual
inductive CT : Tm → Tie → PyData → Tal → Prop where
  | mk {n : Nat} {t : Tm} {e : Tie} {p k : PyData} {r : Row} {T U : Tal} (h : J n t p r) (hk : k = r.k) (s : Sup e r.us U) (hT : ∀ z, T z = r.tl z + U z) : CT t e k T
inductive Sup : Tie → List Use → Tal → Prop where
  | nil {e : Tie} {T : Tal} (hT : ∀ z, T z = 0) : Sup e [] T
  | cons {e : Tie} {x : Str} {k : PyData} {c : Cl} {us : List Use} {T U W : Tal} (hc : e x = some c) (h : CT c.t c.e k U) (r : Sup e us W) (hT : ∀ z, T z = U z + W z) : Sup e ((x, k) :: us) T
end
inductive Args (c : Cl) : List PyData → Tal → Prop where
  | nil {T : Tal} (hT : ∀ z, T z = 0) : Args c [] T
  | cons {k : PyData} {ks : List PyData} {T U W : Tal} (h : CT c.t c.e k U) (r : Args c ks W) (hT : ∀ z, T z = U z + W z) : Args c (k :: ks) T
theorem sup_eq {e : Tie} {us : List Use} {T T' : Tal} (h : Sup e us T) (q : ∀ z, T' z = T z) : Sup e us T' := by
  have : T' = T := funext q
  rw [this]; exact h
theorem sup_inv {e : Tie} {x : Str} {k : PyData} {us : List Use} {T : Tal} (h : Sup e ((x, k) :: us) T) : ∃ c U W, e x = some c ∧ CT c.t c.e k U ∧ Sup e us W ∧ ∀ z, T z = U z + W z := by
  cases h with
  | cons hc h r hT => exact ⟨_, _, _, hc, h, r, hT⟩
theorem sup_nil {e : Tie} {T : Tal} (h : Sup e [] T) : ∀ z, T z = 0 := by
  cases h with
  | nil hT => exact hT
theorem sup_split {e : Tie} : ∀ {us vs : List Use} {T : Tal}, Sup e (us ++ vs) T → ∃ U W, Sup e us U ∧ Sup e vs W ∧ ∀ z, T z = U z + W z
  | [], vs, T, h => ⟨fun _ => 0, T, .nil fun _ => rfl, h, fun z => (Nat.zero_add _).symm⟩
  | (x, k) :: us, vs, T, h => by
    obtain ⟨c, U, W, hc, h1, h2, hT⟩ := sup_inv h
    obtain ⟨U', W', a, b, hT'⟩ := sup_split (us := us) h2
    exact ⟨fun z => U z + U' z, W', .cons hc h1 a fun _ => rfl, b, fun z => by rw [hT, hT']; exact (Nat.add_assoc _ _ _).symm⟩
theorem sup_put {e : Tie} {c : Cl} {x : Str} : ∀ {us : List Use} {U W : Tal}, Sup e (usesBut us x) U → Args c (kindsUsed us x) W → Sup (e.put x c) us fun z => U z + W z
  | [], U, W, h, a => by
    cases a with
    | nil hT => exact .nil fun z => by show U z + W z = 0; rw [sup_nil h z, hT z]
  | (y, k) :: us, U, W, h, a => by
    by_cases e1 : y = x
    · have e2 : usesBut ((y, k) :: us) x = usesBut us x := by simp [usesBut, e1]
      have e3 : kindsUsed ((y, k) :: us) x = k :: kindsUsed us x := by simp [kindsUsed, e1]
      rw [e2] at h
      rw [e3] at a
      cases a with
      | cons h1 r hT =>
        rename_i A B
        refine .cons (c := c) (by unfold Tie.put; rw [if_pos e1]) h1 (sup_put h r) fun z => ?_
        show U z + W z = _
        rw [hT z]
        exact Nat.add_left_comm _ _ _
    · have e2 : usesBut ((y, k) :: us) x = (y, k) :: usesBut us x := by simp [usesBut, e1]
      have e3 : kindsUsed ((y, k) :: us) x = kindsUsed us x := by simp [kindsUsed, e1]
      rw [e2] at h
      rw [e3] at a
      obtain ⟨d, A, B, hc, h1, h2, hT⟩ := sup_inv h
      refine .cons (c := d) (by unfold Tie.put; rw [if_neg e1]; exact hc) h1 (sup_put h2 a) fun z => ?_
      show U z + W z = _
      rw [hT z]
      exact Nat.add_assoc _ _ _
theorem args_je {n : Nat} {g : Tm} {e : Tie} : ∀ {ps : List PyData} {rs : List Row} {U : Tal}, JE (J n g) ps rs → Sup e (usAll rs) U → Args (.mk g e) (rs.map fun z : Row => z.k) fun z => talSum (tlAll rs) z + U z
  | _, _, U, .nil, h => .nil fun z => by show 0 + U z = 0; rw [sup_nil h z]
  | _, _, U, .cons (r := r) (rs := rs) h1 t, h => by
    have h' : Sup e (r.us ++ usAll rs) U := h
    obtain ⟨A, B, a, b, hT⟩ := sup_split h'
    refine .cons (U := fun z => r.tl z + A z) (show CT g e r.k _ from .mk h1 rfl a fun _ => rfl) (args_je t b) fun z => ?_
    show talSum ([r.tl] ++ tlAll rs) z + U z = _
    rw [tal_app, tal_one, hT z]
    omega
/-- a pile that a value of that kind comes back to, with the number at its end -/
inductive PT (N : Int) : List Wt → PyData → Tal → Prop where
  | nil {k : PyData} {T : Tal} (hk : k = .int N) (hT : ∀ z, T z = 0) : PT N [] k T
  | given {ws : List Wt} {c : Cl} {ks : List PyData} {k k' : PyData} {T U W : Tal} (hk : k' = tp [.str "takes", tp ks, k]) (h : PT N ws k U) (a : Args c ks W) (hT : ∀ z, T z = U z + W z) : PT N (ws ++ [.given c]) k' T
  | other {ws : List Wt} {s : Str} {c : Cl} {i j : Int} {k' : PyData} {T U W : Tal} (hk : k' = .int i) (h : PT N ws (.int (sumOf s i j)) U) (a : CT c.t c.e (.int j) W) (hT : ∀ z, T z = U z + W z + talOf [.next, .sum] z) : PT N (ws ++ [.other s c]) k' T
  | num {ws : List Wt} {s : Str} {i j : Int} {k' : PyData} {T U : Tal} (hk : k' = .int j) (h : PT N ws (.int (sumOf s i j)) U) (hT : ∀ z, T z = U z + talOf [.sum] z) : PT N (ws ++ [.num s i]) k' T
  | choice {ws : List Wt} {n o : Cl} {i : Int} {k k' : PyData} {T U W : Tal} (hk : k' = .int i) (h : PT N ws k U) (a : CT (if i = 0 then n else o).t (if i = 0 then n else o).e k W) (hT : ∀ z, T z = U z + W z + talOf [.choose] z) : PT N (ws ++ [.choice n o]) k' T
def STy (N : Int) (st : MSt) (T : Tal) : Prop := ∃ k U W, CT st.t st.e k U ∧ PT N st.ws k W ∧ ∀ z, T z = U z + W z
theorem one_talOf (f : Tal) (s : Srt) (z : Srt) : f.one s z = f z + talOf [s] z := by
  unfold Tal.one talOf
  by_cases e : z = s
  · subst e; simp
  · have e2 : ¬ s = z := fun h => e h.symm
    simp [e, e2]
theorem two_talOf (a b z : Srt) : talOf [a, b] z = talOf [a] z + talOf [b] z := by
  show List.count z [a, b] = List.count z [a] + List.count z [b]
  rw [show [a, b] = [a] ++ [b] from rfl, List.count_append]
theorem three_talOf (a b c z : Srt) : talOf [a, b, c] z = talOf [a] z + talOf [b, c] z := by
  show List.count z [a, b, c] = List.count z [a] + List.count z [b, c]
  rw [show [a, b, c] = [a] ++ [b, c] from rfl, List.count_append]
theorem talOf_nil (z : Srt) : talOf [] z = 0 := rfl
theorem progress {N : Int} {st : MSt} {T : Tal} (h : STy N st T) : (st.next = none ∧ st.t = .num N ∧ st.ws = [] ∧ ∀ z, T z = 0) ∨ ∃ s st' T', MStep st s st' ∧ STy N st' T' ∧ ∀ z, T z = T'.one s z := by
  obtain ⟨t, e, ws⟩ := st
  obtain ⟨k, U, W, hc, hp, hT⟩ := h
  have hT : ∀ z, T z = U z + W z := hT
  have hp : PT N ws k W := hp
  have hc : CT t e k U := hc
  cases hc with
  | mk hJ hk hs hU =>
  rename_i n p r U'
  subst hk
  cases n with
  | zero => exact hJ.elim
  | succ n =>
  cases t with
  | name x =>
    obtain ⟨kd, rfl, rfl⟩ := hJ
    obtain ⟨c, A, B, hc, h1, h2, hz⟩ := sup_inv hs
    refine .inr ⟨.look, _, fun z => A z + W z, .name hc, ⟨_, A, W, h1, hp, fun _ => rfl⟩, fun z => ?_⟩
    rw [one_talOf, hT z, hU z, hz z, sup_nil h2 z]
    show talOf [.look] z + _ + _ = _
    omega
  | gv m g =>
    obtain ⟨p1, r1, ps, rs, kk, rfl, h1, h2, h3, _, _, rfl⟩ := hJ
    obtain ⟨A, B, a, b, hz⟩ := sup_split hs
    refine .inr ⟨.op, _, fun z => (r1.tl z + A z) + (W z + (talSum (tlAll rs) z + B z)), .gv, ⟨_, fun z => r1.tl z + A z, fun z => W z + (talSum (tlAll rs) z + B z), .mk h1 rfl a fun _ => rfl, .given h3 hp (args_je h2 b) fun _ => rfl, fun _ => rfl⟩, fun z => ?_⟩
    rw [one_talOf, hT z, hU z, hz z]
    show talSum ([r1.tl] ++ tlAll rs ++ [talOf [.op]]) z + _ + _ = _
    rw [tal_app, tal_app, tal_one, tal_one]
    omega
  | sm sg m g =>
    obtain ⟨p1, r1, p2, r2, i, j, rfl, h1, h2, e1, e2, rfl⟩ := hJ
    obtain ⟨A, B, a, b, hz⟩ := sup_split hs
    have b : Sup e r2.us B := by simpa [usAll] using b
    refine .inr ⟨.op, _, fun z => (r1.tl z + A z) + (W z + (r2.tl z + B z) + talOf [.next, .sum] z), .sm, ⟨_, fun z => r1.tl z + A z, fun z => W z + (r2.tl z + B z) + talOf [.next, .sum] z, .mk h1 rfl a fun _ => rfl, .other e1 hp (.mk h2 e2.symm b fun _ => rfl) fun _ => rfl, fun _ => rfl⟩, fun z => ?_⟩
    rw [one_talOf, hT z, hU z, hz z]
    show talSum ([r1.tl] ++ [r2.tl] ++ [talOf [.op, .next, .sum]]) z + _ + _ = _
    rw [tal_app, tal_app, tal_one, tal_one, tal_one, three_talOf]
    omega
  | ch m g o =>
    obtain ⟨p1, r1, p2, r2, i, rfl, h1, e1, h2, rfl⟩ := hJ
    obtain ⟨A, B, a, b, hz⟩ := sup_split hs
    have b : Sup e r2.us B := by simpa [usAll] using b
    have hch : CT (if i = 0 then Cl.mk g e else .mk o e).t (if i = 0 then Cl.mk g e else .mk o e).e r2.k fun z => r2.tl z + B z := by
      by_cases c : i = 0
      · rw [if_pos c] at h2 ⊢
        exact .mk h2 rfl b fun _ => rfl
      · rw [if_neg c] at h2 ⊢
        exact .mk h2 rfl b fun _ => rfl
    refine .inr ⟨.op, _, fun z => (r1.tl z + A z) + (W z + (r2.tl z + B z) + talOf [.choose] z), .ch, ⟨_, fun z => r1.tl z + A z, fun z => W z + (r2.tl z + B z) + talOf [.choose] z, .mk h1 rfl a fun _ => rfl, .choice e1 hp hch fun _ => rfl, fun _ => rfl⟩, fun z => ?_⟩
    rw [one_talOf, hT z, hU z, hz z]
    show talSum ([r1.tl] ++ [r2.tl] ++ [talOf [.op, .choose]]) z + _ + _ = _
    rw [tal_app, tal_app, tal_one, tal_one, tal_one, two_talOf]
    omega
  | ag x b =>
    obtain ⟨p1, r1, ps, rs, rfl, h1, h2, h3, _, _, rfl⟩ := hJ
    obtain ⟨A, B, a, c, hz⟩ := sup_split hs
    have ha := args_je h2 c
    rw [← h3] at ha
    have hsp := sup_put a ha
    refine .inr ⟨.turn, _, fun z => (r1.tl z + (A z + (talSum (tlAll rs) z + B z))) + W z, .ag, ⟨_, fun z => r1.tl z + (A z + (talSum (tlAll rs) z + B z)), W, .mk h1 rfl hsp fun _ => rfl, hp, fun _ => rfl⟩, fun z => ?_⟩
    rw [one_talOf, hT z, hU z, hz z]
    show talSum ([r1.tl] ++ tlAll rs ++ [talOf [.turn]]) z + _ + _ = _
    rw [tal_app, tal_app, tal_one, tal_one]
    omega
  | mk x b =>
    obtain ⟨p1, r1, rfl, h1, rfl⟩ := hJ
    generalize ek : (⟨tp [.str "takes", tp (kindsUsed r1.us x), r1.k], usesBut r1.us x, talSum [r1.tl, talOf [.take]]⟩ : Row).k = k' at hp
    have ek : tp [.str "takes", tp (kindsUsed r1.us x), r1.k] = k' := ek
    cases hp with
    | nil hk hz => rw [hk] at ek; cases ek
    | other hk => rw [hk] at ek; cases ek
    | num hk => rw [hk] at ek; cases ek
    | choice hk => rw [hk] at ek; cases ek
    | given hk h a hz =>
      rename_i ws c ks kk A B
      rw [hk] at ek
      have ek := PyData.tuple.inj ek
      have e1 := (List.cons.inj (List.cons.inj ek).2).1
      have e2 := (List.cons.inj (List.cons.inj (List.cons.inj ek).2).2).1
      have e1 := PyData.tuple.inj e1
      subst e1
      have hsp := sup_put hs a
      refine .inr ⟨.take, _, fun z => (r1.tl z + (U' z + B z)) + A z, .on (.inl rfl) rfl rfl, ⟨kk, fun z => r1.tl z + (U' z + B z), A, .mk h1 e2.symm hsp fun _ => rfl, by rw [List.append_nil]; exact h, fun _ => rfl⟩, fun z => ?_⟩
      rw [one_talOf, hT z, hU z, hz z]
      show talSum ([r1.tl] ++ [talOf [.take]]) z + _ + _ = _
      rw [tal_app, tal_one, tal_one]
      omega
  | num i =>
    obtain ⟨rfl, rfl⟩ := hJ
    have hs0 := sup_nil hs
    generalize ek : (⟨PyData.int i, [], talOf []⟩ : Row).k = k' at hp
    have ek : PyData.int i = k' := ek
    have hct : ∀ m : Int, CT (.num m) Tie.nil (.int m) fun _ => 0 := fun m => .mk (n := 1) (r := ⟨.int m, [], talOf []⟩) ⟨rfl, rfl⟩ rfl (.nil fun _ => rfl) fun _ => rfl
    cases hp with
    | nil hk hz =>
      rw [hk] at ek
      cases ek
      refine .inl ⟨rfl, rfl, rfl, fun z => ?_⟩
      rw [hT z, hU z, hs0 z, hz z]
      rfl
    | given hk => rw [hk] at ek; cases ek
    | other hk h a hz =>
      rename_i ws s c i' j A B
      rw [hk] at ek
      cases ek
      refine .inr ⟨.next, _, fun z => B z + (A z + talOf [.sum] z), .on (.inr rfl) rfl rfl, ⟨.int j, B, fun z => A z + talOf [.sum] z, a, .num rfl h fun _ => rfl, fun _ => rfl⟩, fun z => ?_⟩
      rw [one_talOf, hT z, hU z, hs0 z, hz z, two_talOf]
      show talOf [] z + _ + _ = _
      rw [talOf_nil]
      omega
    | num hk h hz =>
      rename_i ws s i' j A
      rw [hk] at ek
      cases ek
      refine .inr ⟨.sum, _, fun z => 0 + A z, .on (.inr rfl) rfl rfl, ⟨_, fun _ => 0, A, hct _, by rw [List.append_nil]; exact h, fun _ => rfl⟩, fun z => ?_⟩
      rw [one_talOf, hT z, hU z, hs0 z, hz z]
      show talOf [] z + _ + _ = _
      rw [talOf_nil]
      omega
    | choice hk h a hz =>
      rename_i ws c1 c2 i' kk A B
      rw [hk] at ek
      cases ek
      refine .inr ⟨.choose, _, fun z => B z + A z, .on (.inr rfl) rfl rfl, ⟨kk, B, A, a, by rw [List.append_nil]; exact h, fun _ => rfl⟩, fun z => ?_⟩
      rw [one_talOf, hT z, hU z, hs0 z, hz z]
      show talOf [] z + _ + _ = _
      rw [talOf_nil]
      omega
def Tal.tot (f : Tal) : Nat := f .op + f .look + f .take + f .turn + f .next + f .sum + f .choose
theorem tot_one (f : Tal) (s : Srt) : (f.one s).tot = f.tot + 1 := by
  cases s <;> simp [Tal.tot, Tal.one] <;> omega
theorem runs {N : Int} : ∀ (m : Nat) {st : MSt} {T : Tal}, T.tot = m → STy N st T → ∃ e, MRun st m T ⟨.num N, e, []⟩
  | m, st, T, hm, h => by
    rcases progress h with ⟨h1, h2, h3, h4⟩ | ⟨s, st', T', h1, h2, h3⟩
    · have e0 : T = fun _ => 0 := funext h4
      subst e0
      have : m = 0 := by rw [← hm]; rfl
      subst this
      obtain ⟨t, e, ws⟩ := st
      cases h2
      cases h3
      exact ⟨e, .stop h1⟩
    · have e0 : T = T'.one s := funext h3
      subst e0
      rw [tot_one] at hm
      match m, hm with
      | m + 1, hm =>
        obtain ⟨e, h⟩ := runs m (Nat.succ.inj hm) h2
        exact ⟨e, .go h1 h⟩
/-- a closed term that `judged` lets: the machine's way -/
theorem machine_law {n : Nat} {t : Tm} {p : PyData} {N : Int} {r : Row} (h : J n t p r) (hk : r.k = .int N) (hu : r.us = []) : ∃ e, MRun ⟨t, Tie.nil, []⟩ r.tl.tot r.tl ⟨.num N, e, []⟩ :=
  runs _ rfl ⟨.int N, r.tl, fun _ => 0, .mk h hk.symm (by rw [hu]; exact .nil (T := fun _ => 0) fun _ => rfl) (fun _ => rfl), .nil rfl fun _ => rfl, fun _ => rfl⟩
end Ut
set_option Elab.async false
set_option linter.all false
set_option maxRecDepth 100000
set_option maxHeartbeats 4000000
namespace Ut
open PySem PySem.Spec PyProof.Rows L2
/-! ### tuple * int, with 0 and 1 too -/
theorem tmul_one (q : Addr) (us : Array Value) (m : Nat) (e : Option Addr) (ws : Array (Option Value)) (k : Tok) :
    Meets (Builtin.«tuple.__mul__» ⟨[.ref q, .int 1 k], []⟩) (fun _ G z => z.heap.get? q = some { cls := .type "tuple", dict := e, data := .seq us m, slots := ws } ∧ G (.ok (.ret (Value.ref q))) z) :=
  .of_wp fun prog w A G z h => by
    obtain ⟨hp, g, d, tk, os⟩ := z
    obtain ⟨ho, h⟩ := h
    have f1 := AutoSeq1.idx_int
    wp_walk using wpAny_loadPart' ho
    exact ⟨_, rfl, h⟩
theorem tmul_zero (q : Addr) (us : Array Value) (m : Nat) (e : Option Addr) (ws : Array (Option Value)) (k : Tok) (hn : us.isEmpty = false) :
    Meets (Builtin.«tuple.__mul__» ⟨[.ref q, .int 0 k], []⟩) (fun _ G z => z.heap.get? q = some { cls := .type "tuple", dict := e, data := .seq us m, slots := ws } ∧
      G (.ok (.ret (Value.ref z.heap.objs.size))) { z with heap := z.heap.push { cls := Value.type "tuple", data := Data.seq #[] }, toks := z.toks }) :=
  .of_wp fun prog w A G z h => by
    obtain ⟨hp, g, d, tk, os⟩ := z
    obtain ⟨ho, h⟩ := h
    have f1 := AutoSeq1.idx_int
    wp_walk using wpAny_loadPart' ho
    repeat (first
      | (refine wpAny_ite_false (by rw [hn]; decide) ?_; wp_walk using wpAny_loadPart' ho)
      | (refine wpAny_ite_false (by decide) ?_; wp_walk using wpAny_loadPart' ho)
      | (refine wpAny_ite_true (by decide) ?_; wp_walk using wpAny_loadPart' ho))
    exact ⟨_, rfl, h⟩
/-- t * k of a tuple that has items: the same tuple at 1 -/
def rRepK (K : PySem.W.Frag) : R2 := fun x y H Q => ∃ a k us, x = .ref a ∧ y = .int (k : Nat) ∧ SqT K H a us ∧ us ≠ [] ∧ k ≤ 1000 ∧ us.length ≤ 1000 ∧ (k = 1 → Q (.ref a) H) ∧ (k ≠ 1 → ∀ p, H p = none → Q (.ref p) (upd H p (.tup (List.replicate k us).flatten)))
section
variable {X : Cx}
theorem op_repK : OpR X (binaryOp .Mult) (rRepK X.K) := by
  intro pins st σ H x y v u Q I hx hy h
  obtain ⟨a, k, us, rfl, rfl, hus, hne, hk, hl, q1, q2⟩ := h
  by_cases big : 2 ≤ k
  · refine op_repT pins st σ H _ _ v u Q I hx hy ⟨a, (k : Int), us, rfl, rfl, hus, hne, by omega, by omega, hl, ?_⟩
    rw [Int.toNat_natCast]
    exact q2 (by omega)
  cases hx
  obtain ⟨t, rfl⟩ := hy
  obtain ⟨its, r, ⟨⟨cl, e, dt, sl⟩, ho, h1, m, h2⟩, _⟩ := I.tuple hus
  simp only at h1 h2
  subst h1 h2
  have some1 : its.toArray.isEmpty = false := by
    cases its with
    | nil => cases r; exact absurd rfl hne
    | cons b c => rfl
  have cases2 : k = 0 ∨ k = 1 := by omega
  rcases cases2 with k0 | k1
  · subst k0
    refine wpAny_binaryOp_repeat_ref (U := "int") (T := "tuple") (by decide) ⟨_, ho, rfl⟩ (fun z => typeIs_int z (0 : Nat) t) noFill_tuple_mul PySem.F.fills_int_mul PySem.F.slot_int_rmul repeat_tuple PySem.F.slot_int_index.lookup
      (call_meets PySem.F.slot_int_rmul (typeIs_int st (0 : Nat) t) PySem.F.entry_int_rmul (PySem.F.args_int_rmul_2 _ _) (int_rmul_tuple (0 : Nat) t a its.toArray m e sl)
        ⟨ho, rfl, ⟨_, ho, rfl⟩, call_meets PySem.F.slot_tuple_mul ⟨_, ho, rfl⟩ PySem.F.entry_tuple_mul (PySem.F.args_tuple_mul_2 _ _) (tmul_zero a its.toArray m e sl t some1) ⟨ho, ?_⟩⟩)
    refine ⟨.ref st.heap.objs.size, _, I.laid (o := .tup []) (t' := st.toks) (fun b ob q => Heap.get?_push_of_some _ q) (Nat.le_refl _) ?_, rfl, q2 (by decide) _ (I.hok.fresh (Nat.le_refl _))⟩
    exact ⟨by decide, [], .nil, IsTup.new _ _⟩
  · subst k1
    refine wpAny_binaryOp_repeat_ref (U := "int") (T := "tuple") (by decide) ⟨_, ho, rfl⟩ (fun z => typeIs_int z (1 : Nat) t) noFill_tuple_mul PySem.F.fills_int_mul PySem.F.slot_int_rmul repeat_tuple PySem.F.slot_int_index.lookup
      (call_meets PySem.F.slot_int_rmul (typeIs_int st (1 : Nat) t) PySem.F.entry_int_rmul (PySem.F.args_int_rmul_2 _ _) (int_rmul_tuple (1 : Nat) t a its.toArray m e sl)
        ⟨ho, rfl, ⟨_, ho, rfl⟩, call_meets PySem.F.slot_tuple_mul ⟨_, ho, rfl⟩ PySem.F.entry_tuple_mul (PySem.F.args_tuple_mul_2 _ _) (tmul_one a its.toArray m e sl t) ⟨ho, ?_⟩⟩)
    exact ⟨.ref a, H, I, rfl, q1 rfl⟩
end
end Ut
set_option Elab.async false
set_option linter.all false
set_option maxRecDepth 100000
set_option maxHeartbeats 4000000
namespace Ut
open PySem PySem.Spec PyProof.Rows L2
/-! ### the law's draws -/
def cellV (cs : List Nat) : List V := cs.map fun n => V.int (n : Nat)
/-- the drawing state at S, its cells at C -/
def GenAt (H : Hp) (S C : Addr) : Prop := ∃ (cs : List Nat) (i x : Nat), H S = some (.lst [.ref C, .int (i : Nat), .int (x : Nat)]) ∧ H C = some (.lst (cellV cs)) ∧ cs ≠ [] ∧ cs.length ≤ 100 ∧ x < 2147483647 ∧ S ≠ C
section
variable {P : Program} {w : World} {K : PySem.W.Frag} {mg : Str → Option Value} {base : Heap}
theorem GenAt.dom {H : Hp} {S C : Addr} (g : GenAt H S C) : Dom [S, C] H := by
  obtain ⟨cs, i, x, h1, h2, _⟩ := g
  intro a m
  rcases List.mem_cons.mp m with e | m
  · rw [e, h1]; exact Option.some_ne_none _
  · rw [List.mem_singleton.mp m, h2]; exact Option.some_ne_none _
theorem GenAt.up {H H' : Hp} {S C : Addr} (g : GenAt H S C) (s : Same H H') : GenAt H' S C := by
  obtain ⟨cs, i, x, h1, h2, r⟩ := g
  exact ⟨cs, i, x, s _ _ h1, s _ _ h2, r⟩
theorem GenAt.upd {H : Hp} {S C p : Addr} {o : HO} (g : GenAt H S C) (h1 : p ≠ S) (h2 : p ≠ C) : GenAt (upd H p o) S C := by
  obtain ⟨cs, i, x, e1, e2, r⟩ := g
  exact ⟨cs, i, x, by rw [upd_ne (fun e => h1 e.symm)]; exact e1, by rw [upd_ne (fun e => h2 e.symm)]; exact e2, r⟩
theorem GenAt.neS {H : Hp} {S C p : Addr} (g : GenAt H S C) (h : H p = none) : p ≠ S ∧ p ≠ C :=
  ⟨fun e => g.dom S List.mem_cons_self (by rw [← e]; exact h), fun e => g.dom C (List.mem_cons_of_mem _ List.mem_cons_self) (by rw [← e]; exact h)⟩
theorem samex_in {H H' : Hp} {B B' : List Addr} (s : SameX B H H') (m : ∀ b ∈ B, b ∈ B') : SameX B' H H' := fun b o n h => s b o (fun x => n (m b x)) h
theorem log_small {n : Nat} (k : Nat) (h : n < 2 ^ k) (hk : 0 < k) : n.log2 < k := by
  by_cases z : n = 0
  · subst z; exact hk
  · exact (Nat.log2_lt z).mpr h
theorem ixN_nat {n j : Nat} (h : j < n) : ixN n (j : Int) = some j := by
  unfold ixN
  rw [if_pos (by omega), if_pos (by omega), Int.toNat_natCast]
theorem sc_law_draw : FnScope ["_law_state_here", "_law_many", "_law_cells", "_law_at", "_law_cell"] ["_law_state_here", "_law_many"] (defScope S_law_draw) := ⟨rfl, rfl, rfl, by decide +kernel, rfl, by decide +kernel, by decide +kernel⟩
def spDraw : Sp := fun vs H Q _ => ∃ S C, ∃ m : Nat, vs = [.ref S, .int (m : Nat)] ∧ 0 < m ∧ m ≤ 10 ^ 40 ∧ GenAt H S C ∧ ∀ (r : Nat) H', r < m → SameX [S, C] H H' → GenAt H' S C → Q (.int (r : Nat)) H'
theorem ok_draw (T : Tx w K mg) : Cal P w K mg base 1 "_law_draw" spDraw := by
  refine cal_mk T 35 35 rfl rfl sc_law_draw (fun _ _ _ _ _ _ us hl => match us, hl with | [_, _], _ => rfl) (fun vs H Q E h => ?_) (fun cdv A outer s H vs Q E hr h => ?_)
  · obtain ⟨S, C, m, rfl, _⟩ := h
    rfl
  obtain ⟨S, C, m, rfl, hm, hm2, hg, q⟩ := h
  obtain ⟨cs, i, x, hS, hC, hne, hcl, hx, hSC⟩ := hg
  refine ⟨_, (pss_cons (ps_set (i := 2) sc_law_draw.nd rfl (Or.inl rfl) (pe_ix ix_list (pv 0) pe_int (fun _ _ => rfl)))
      (pss_cons (ps_set (i := 3) sc_law_draw.nd rfl (Or.inl rfl) (pe_op op_mod (pe_ix ix_list (pv 0) pe_int (fun _ _ => rfl)) (pe_callB call_len_seq (by rfl) (T.free 70 rfl) (by decide +kernel) (pa_cons (pv 2) pa_nil))))
      (pss_cons (ps_set (i := 4) sc_law_draw.nd rfl (Or.inl rfl) (pe_ix ix_list (pv 2) (pv 3) (fun _ _ => rfl)))
      (pss_cons (ps_if (pt_cmpR op_ge (pv 4) pe_int (nomark _)) (pss_cons (ps_asg (pe_op op_fdivW (pv 4) (pv 1)) (pg_sub (pv 2) (pv 3) set_list))
      (pss_one (ps_ret (pe_op op_mod (pv 4) (pv 1))))) pss_nil)
      (pss_cons (ps_asg (pe_op op_add (pe_ix ix_list (pv 0) pe_int (fun _ _ => rfl)) pe_int) (pg_sub (pv 0) pe_int set_list))
      (pss_cons (ps_asg (pe_op op_mod (pe_op op_add (pe_op op_add (pe_op op_mulW (pe_ix ix_list (pv 0) pe_int (fun _ _ => rfl)) pe_int) (pv 4)) pe_int) pe_int) (pg_sub (pv 0) pe_int set_list))
      (pss_one (ps_ret (pe_op op_mod (pe_op op_fdivW (pe_op op_mod (pe_op op_mulW (pe_ix ix_list (pv 0) pe_int (fun _ _ => rfl)) (pe_ix ix_list (pv 0) pe_int (fun _ _ => rfl))) pe_int) pe_int) (pv 1)))))))))), ?_⟩
  have hpos : 0 < cs.length := List.length_pos_iff.mpr hne
  have hcv : (cellV cs).length = cs.length := by unfold cellV; rw [List.length_map]
  have hj : i % cs.length < cs.length := Nat.mod_lt _ hpos
  have emod : (i : Int) % ((cellV cs).length : Nat) = ((i % cs.length : Nat) : Int) := by rw [hcv]; rfl
  have hcell : (cellV cs)[i % cs.length]? = some (V.int ((cs[i % cs.length]) : Nat)) := by
    unfold cellV
    rw [List.getElem?_map, List.getElem?_eq_getElem hj]; rfl
  have h40 : m.log2 < 140 := log_small 140 (Nat.lt_of_le_of_lt hm2 (by decide)) (by decide)
  refine ⟨_, rfl, S, _, _, _, rfl, rfl, SqL.new hS, atI_nat (j := 0) rfl, ?_⟩
  refine ⟨_, rfl, S, _, _, _, rfl, rfl, SqL.new hS, atI_nat (j := 1) rfl, _, rfl, C, _, rfl, .inl (SqL.new hC), _, _, rfl, rfl, (by rw [hcv]; omega), ?_⟩
  have hat : atI (cellV cs) ((i : Int) % ((cellV cs).length : Nat)) = some (V.int ((cs[i % cs.length]) : Nat)) := by
    rw [emod]; exact atI_nat hcell
  have hix : ixN (cellV cs).length ((i : Int) % ((cellV cs).length : Nat)) = some (i % cs.length) := by
    rw [emod]; exact ixN_nat (by rw [hcv]; exact hj)
  refine ⟨_, rfl, _, rfl, C, _, _, _, rfl, rfl, SqL.new hC, hat, ?_⟩
  refine ⟨_, rfl, _, _, rfl, rfl, _, rfl, ?_⟩
  refine ite2 (fun c => ?_) (fun c => ?_)
  · refine ⟨_, rfl, _, rfl, _, _, rfl, rfl, ⟨by omega, by rw [Int.natAbs_natCast]; omega⟩, _, rfl, _, rfl, C, _, _, _, rfl, rfl, hC, hix, ?_⟩
    refine ⟨_, rfl, _, rfl, _, _, rfl, rfl, (by omega), ?_⟩
    refine q (cs[i % cs.length] % m) _ (Nat.mod_lt _ hm) (samex_upd (by simp) _) ⟨cs.set (i % cs.length) (cs[i % cs.length] / m), i, x, by rw [upd_ne hSC]; exact hS, ?_, ?_, ?_, hx, hSC⟩
    · rw [upd_same]
      unfold cellV
      rw [List.map_set]; rfl
    · intro e
      have := congrArg List.length e
      rw [List.length_set] at this
      simp at this
      exact hne (by simpa using this)
    · rw [List.length_set]; exact hcl
  · refine ⟨_, rfl, S, _, _, _, rfl, rfl, SqL.new hS, atI_nat (j := 1) rfl, _, _, rfl, rfl, _, rfl, S, _, _, _, rfl, rfl, hS, ixN_nat (n := 3) (j := 1) (by decide), ?_⟩
    have hS1 : (upd H S (.lst ([V.ref C, V.int (i : Nat), V.int (x : Nat)].set 1 (V.int ((i : Int) + 1))))) S = some (.lst [.ref C, .int ((i : Int) + 1), .int (x : Nat)]) := upd_same
    have e16 : x.log2 < 31 := log_small 31 (Nat.lt_trans hx (by decide)) (by decide)
    have m1 : CMulW (x : Nat) 48271 := by
      show ((x : Nat) : Int).natAbs.log2 + (48271 : Int).natAbs.log2 < 1000000
      rw [Int.natAbs_natCast]
      have : (48271 : Int).natAbs.log2 < 16 := log_small 16 (by decide) (by decide)
      omega
    refine ⟨_, rfl, S, _, _, _, rfl, rfl, SqL.new hS1, atI_nat (j := 2) rfl, _, _, rfl, rfl, m1, _, rfl, _, _, rfl, rfl, _, _, rfl, rfl, _, _, rfl, rfl, (show (0 : Int) < 2147483647 by decide), _, rfl, S, _, _, _, rfl, rfl, hS1, ixN_nat (n := 3) (j := 2) (by decide), ?_⟩
    obtain ⟨y, ey⟩ : ∃ y : Nat, y = (x * 48271 + cs[i % cs.length] + 12345) % 2147483647 := ⟨_, rfl⟩
    have hy : y < 2147483647 := by rw [ey]; exact Nat.mod_lt _ (by decide)
    have ey2 : ((x : Int) * 48271 + ((cs[i % cs.length] : Nat) : Int) + 12345) % 2147483647 = ((y : Nat) : Int) := by
      rw [ey]
      rfl
    have hS2 : (upd (upd H S (.lst ([V.ref C, V.int (i : Nat), V.int (x : Nat)].set 1 (V.int ((i : Int) + 1))))) S (.lst ([V.ref C, V.int ((i : Int) + 1), V.int (x : Nat)].set 2 (V.int (((x : Int) * 48271 + ((cs[i % cs.length] : Nat) : Int) + 12345) % 2147483647))))) S = some (.lst [.ref C, .int ((i + 1 : Nat)), .int (y : Nat)]) := by
      rw [upd_same, ey2]
      rfl
    have e17 : y.log2 < 31 := log_small 31 (Nat.lt_trans hy (by decide)) (by decide)
    have m2 : CMulW (y : Nat) (y : Nat) := by
      show ((y : Nat) : Int).natAbs.log2 + ((y : Nat) : Int).natAbs.log2 < 1000000
      rw [Int.natAbs_natCast]
      omega
    have m3 : CDivW (((y : Nat) : Int) * ((y : Nat) : Int) % 2147483629) 16 := ⟨by decide, by
      have : (16 : Int).natAbs.log2 < 16 := log_small 16 (by decide) (by decide)
      omega⟩
    refine ⟨_, rfl, S, _, _, _, rfl, rfl, SqL.new hS2, atI_nat (j := 2) rfl, _, rfl, S, _, _, _, rfl, rfl, SqL.new hS2, atI_nat (j := 2) rfl, _, _, rfl, rfl, m2, _, _, rfl, rfl, (show (0 : Int) < 2147483629 by decide), _, _, rfl, rfl, m3, _, rfl, _, _, rfl, rfl, (show (0 : Int) < (m : Int) by omega), ?_⟩
    refine q (y * y % 2147483629 / 16 % m) _ (Nat.mod_lt _ hm) ((samex_upd (by simp) _).trans (samex_upd (by simp) _)) ⟨cs, i + 1, y, hS2, ?_, hne, hcl, hy, hSC⟩
    rw [upd_ne (fun e => hSC e.symm), upd_ne (fun e => hSC e.symm)]
    exact hC
end
end Ut
set_option Elab.async false
set_option linter.all false
set_option maxRecDepth 100000
set_option maxHeartbeats 4000000
namespace Ut
open PySem PySem.Spec PyProof.Rows L2
section
variable {P : Program} {w : World} {K : PySem.W.Frag} {mg : Str → Option Value} {base : Heap}
theorem sc_law_number : FnScope ["_law_state_here", "_law_way"] ["_law_state_here"] (defScope S_law_number) := ⟨rfl, rfl, rfl, by decide +kernel, rfl, by decide +kernel, by decide +kernel⟩
def spNumber : Sp := fun vs H Q _ => ∃ S C, vs = [.ref S] ∧ GenAt H S C ∧ ∀ (z : Int) H', SameX [S, C] H H' → GenAt H' S C → Q (.int z) H'
theorem ok_number (T : Tx w K mg) (c_law_draw : Cal P w K mg base 1 "_law_draw" spDraw) : Cal P w K mg base 2 "_law_number" spNumber := by
  refine cal_mk T 36 36 rfl rfl sc_law_number (fun _ _ _ _ _ _ us hl => match us, hl with | [_], _ => rfl) (fun vs H Q E h => ?_) (fun cdv A outer s H vs Q E hr h => ?_)
  · obtain ⟨S, C, rfl, _⟩ := h
    rfl
  obtain ⟨S, C, rfl, hg, q⟩ := h
  refine ⟨_, (pss_cons (ps_set (i := 1) sc_law_number.nd rfl (Or.inl rfl) (pe_c c_law_draw hr (by omega) (by rfl) (pa_cons (pv 0) (pa_cons pe_int pa_nil))))
      (pss_cons (ps_if (pt_cmpR op_eq (pv 1) pe_int (nomark _)) (pss_one (ps_ret pe_int)) pss_nil)
      (pss_cons (ps_if (pt_cmpR op_eq (pv 1) pe_int (nomark _)) (pss_one (ps_ret (pe_op op_sub (pe_c c_law_draw hr (by omega) (by rfl) (pa_cons (pv 0) (pa_cons (pe_op op_pow pe_int pe_int) pa_nil))) (pe_op op_pow pe_int pe_int)))) pss_nil)
      (pss_one (ps_ret (pe_op op_sub (pe_c c_law_draw hr (by omega) (by rfl) (pa_cons (pv 0) (pa_cons pe_int pa_nil))) pe_int)))))), ?_⟩
  refine ⟨_, rfl, S, C, 5, rfl, by decide, by decide, hg, fun r H1 hr1 x1 g1 => ?_⟩
  refine ⟨_, rfl, rfl, _, rfl, ?_⟩
  refine ite2 (fun c => ?_) (fun c => ?_)
  · exact q 0 H1 x1 g1
  refine ⟨_, rfl, rfl, _, rfl, ?_⟩
  refine ite2 (fun c => ?_) (fun c => ?_)
  · refine ⟨_, rfl, _, _, rfl, rfl, ⟨by decide, by decide, by decide⟩, S, C, 10 ^ 40, ?_, by decide, Nat.le_refl _, g1, fun r2 H2 hr2 x2 g2 => ?_⟩
    · have e : ((10 : Int) ^ (40 : Int).toNat) = ((10 ^ 40 : Nat) : Int) := by decide +kernel
      show [V.ref S, V.int ((10 : Int) ^ (40 : Int).toNat)] = [V.ref S, V.int ((10 ^ 40 : Nat) : Int)]
      rw [e]
    · exact ⟨_, _, rfl, rfl, ⟨by decide, by decide, by decide⟩, _, _, rfl, rfl, q _ H2 (x1.trans x2) g2⟩
  · refine ⟨_, rfl, S, C, 9, rfl, by decide, by decide, g1, fun r2 H2 hr2 x2 g2 => ?_⟩
    exact ⟨_, _, rfl, rfl, q _ H2 (x1.trans x2) g2⟩
/-! ### a word -/
theorem okN_p : okName ("p" : Str) := by unfold okName; decide +kernel
theorem okN_q : okName ("q" : Str) := by unfold okName; decide +kernel
theorem okN_pq : okName ("pq" : Str) := by unfold okName; decide +kernel
theorem joinL_nil : ∀ ps : List (List Nat), TL.joinL [] ps = ps.flatten
  | [] => rfl
  | [p] => by simp [TL.joinL]
  | p :: q :: r => by
    show p ++ ([] ++ TL.joinL [] (q :: r)) = _
    rw [joinL_nil (q :: r)]; simp
def sgn (c : Nat) : Str := ⟨#[c]⟩
theorem join_sgn (cs : List Nat) : TL.tl (Txt.join ("" : Str) (cs.map sgn)) = cs := by
  rw [TL.join_eq, TL.tl_join]
  show TL.joinL [] _ = _
  rw [joinL_nil, List.map_map]
  induction cs with
  | nil => rfl
  | cons c r ih => rw [List.map_cons, List.flatten_cons, ih]; rfl
theorem okN_join {cs : List Nat} (h1 : 1 ≤ cs.length) (h2 : cs.length ≤ 8) (h3 : ∀ c ∈ cs, c ∈ letters.cps.toList) : okName (Txt.join ("" : Str) (cs.map sgn)) := by
  have e := join_sgn cs
  have el : (Txt.join ("" : Str) (cs.map sgn)).length = cs.length := by
    have e2 := congrArg List.length e
    rw [← e2]; show Array.size _ = List.length (Array.toList _); rw [Array.length_toList]
  refine ⟨by rw [el]; exact h1, by rw [el]; exact h2, fun c hc => h3 c ?_⟩
  rw [← e]; exact hc
theorem samex_put {H H' : Hp} {B : List Addr} {D : Addr} {o : HO} (s : SameX B H H') (h : H D = none) : SameX B H (upd H' D o) := fun b u n e => by
  rw [upd_ne (ne_of_none e h)]
  exact s b u n e
theorem sc_law_word : FnScope ["_law_state_here", "_law_letters", "_law_k"] ["_law_state_here"] (defScope S_law_word) := ⟨rfl, rfl, rfl, by decide +kernel, rfl, by decide +kernel, by decide +kernel⟩
def spWord : Sp := fun vs H Q _ => ∃ S C, vs = [.ref S] ∧ GenAt H S C ∧ ∀ x H', okName x → SameX [S, C] H H' → GenAt H' S C → Q (.str x) H'
theorem ok_word (T : Tx w K mg) (c_law_draw : Cal P w K mg base 1 "_law_draw" spDraw) : Cal P w K mg base 2 "_law_word" spWord := by
  refine cal_mk T 39 39 rfl rfl sc_law_word (fun _ _ _ _ _ _ us hl => match us, hl with | [_], _ => rfl) (fun vs H Q E h => ?_) (fun cdv A outer s H vs Q E hr h => ?_)
  · obtain ⟨S, C, rfl, _⟩ := h
    rfl
  obtain ⟨S, C, rfl, hg, q⟩ := h
  refine ⟨_, (pss_cons (ps_set (i := 1) sc_law_word.nd rfl (Or.inr rfl) pe_str)
      (pss_cons (ps_if (pt_cmpR op_eq (pe_c c_law_draw hr (by omega) (by rfl) (pa_cons (pv 0) (pa_cons pe_int pa_nil))) pe_int (nomark _)) (pss_one (ps_ret (pe_ix ix_list (pe_lst (pa_cons pe_str (pa_cons pe_str (pa_cons pe_str pa_nil)))) (pe_c c_law_draw hr (by omega) (by rfl) (pa_cons (pv 0) (pa_cons pe_int pa_nil))) (fun _ _ => rfl)))) pss_nil)
      (pss_one (ps_ret (pe_join pe_str (pe_lc (own := [("_law_k", 2)]) (by rfl) sc_law_word.nd (pi_range1 (by rfl) (T.free 83 rfl) (pa_cons (pe_op op_add pe_int (pe_c c_law_draw hr (by omega) (by rfl) (pa_cons (pv 0) (pa_cons pe_int pa_nil)))) pa_nil)) (blkOk_by (own := [("_law_k", 2)]) (N := ["_law_state_here", "_law_letters", "_law_k"]) (sc := defScope S_law_word) (by decide +kernel)) (fun _ _ _ _ _ => (pg_name (i := 2) sc_law_word.nd rfl (by first | exact Or.inl rfl | exact Or.inr rfl))) (fun _ _ _ _ _ => pts_nil) (fun _ _ _ _ _ => (pe_ix ix_str (pv 1) (pe_c c_law_draw hr (by omega) (by rfl) (pa_cons (pv 0) (pa_cons pe_int pa_nil))) (fun _ _ => rfl))))))))), ?_⟩
  refine ⟨_, rfl, S, C, 2, rfl, by decide, by decide, hg, fun r H1 hr1 x1 g1 => ?_⟩
  refine ⟨rfl, _, rfl, ?_⟩
  refine ite2 (fun c => ?_) (fun c => ?_)
  · refine ⟨(by show 3 ≤ sizeLine; decide), fun l hl => ?_⟩
    have n1 := same_new hl (.lst [.str "p", .str "pq", .str "q"])
    refine ⟨_, rfl, S, C, 3, rfl, by decide, by decide, g1.up n1, fun r2 H2 hr2 x2 g2 => ?_⟩
    have hl2 : H2 l = some (.lst [.str "p", .str "pq", .str "q"]) := x2 l _ (by have := g1.neS hl; simp [this.1, this.2]) upd_same
    have x := (x1.trans (same_x n1)).trans x2
    match r2, hr2 with
    | 0, _ => exact ⟨l, _, _, _, rfl, rfl, SqL.new hl2, atI_nat (j := 0) rfl, q _ H2 okN_p x g2⟩
    | 1, _ => exact ⟨l, _, _, _, rfl, rfl, SqL.new hl2, atI_nat (j := 1) rfl, q _ H2 okN_pq x g2⟩
    | 2, _ => exact ⟨l, _, _, _, rfl, rfl, SqL.new hl2, atI_nat (j := 2) rfl, q _ H2 okN_q x g2⟩
  · refine ⟨⟨_, rfl⟩, _, rfl, S, C, 8, rfl, by decide, by decide, g1, fun r2 H2 hr2 x2 g2 => ?_⟩
    refine ⟨_, _, rfl, rfl, _, rfl, by omega, by omega, fun D hD => ?_⟩
    have eN : (1 + (r2 : Int)).toNat = 1 + r2 := by omega
    rw [eN]
    have gD := g2.neS hD
    refine lc_it walk_range (fun i Hi => ∃ cs : List Nat, Hi D = some (.lst ((cs.map sgn).map V.str)) ∧ cs.length = i ∧ (∀ c ∈ cs, c ∈ letters.cps.toList) ∧ SameX [S, C] H2 Hi ∧ GenAt Hi S C)
      ⟨[], upd_same, rfl, fun c hc => (by cases hc), same_x (same_new hD _), g2.upd gD.1 gD.2⟩ (fun i Hi _ _ => trivial) ?_ ?_
    · rintro i y Hi H' hi ⟨cs, hDi, hcl, hcs, xi, gi⟩ ⟨rfl, rfl⟩
      refine ⟨rfl, yes_turn ⟨_, rfl, _, rfl, S, C, 26, rfl, by decide, by decide, gi, fun r3 H3 hr3 x3 g3 => ?_⟩⟩
      have hlt : r3 < letters.cps.toList.length := by
        have : letters.cps.toList.length = 26 := by decide +kernel
        omega
      have hD3 : H3 D = some (.lst ((cs.map sgn).map V.str)) := x3 D _ (by simp [gD.1, gD.2]) hDi
      refine ⟨_, _, _, rfl, rfl, (by decide +kernel), atI_nat (List.getElem?_eq_getElem hlt), _, hD3, (by rw [List.length_map, List.length_map]; show cs.length < 2 ^ 24; omega), cs ++ [letters.cps.toList[r3]], ?_, by rw [List.length_append, hcl]; rfl, ?_, samex_put (xi.trans x3) hD, g3.upd gD.1 gD.2⟩
      · rw [upd_same, List.map_append, List.map_append]; rfl
      · intro c hc
        rcases List.mem_append.mp hc with hc | hc
        · exact hcs c hc
        · rw [List.mem_singleton.mp hc]; exact List.getElem_mem hlt
    · rintro Hi ⟨cs, hDi, hcl, hcs, xi, gi⟩
      refine ⟨"", D, cs.map sgn, rfl, rfl, .inl (SqL.new hDi), ?_, q _ Hi (okN_join (by omega) (by omega) hcs) (x1.trans (x2.trans xi)) gi⟩
      have e : ((cs.map sgn).map fun x : Str => x.length).sum = cs.length := by
        clear hDi hcl hcs
        induction cs with
        | nil => rfl
        | cons c r ih => rw [List.map_cons, List.map_cons, List.sum_cons, ih, List.length_cons]; show 1 + _ = _; omega
      rw [e]
      show cs.length + (cs.map sgn).length * 0 ≤ 16777216
      omega
/-! ### sums of counts -/
def talL (f : Tal) : List V := Srt.all.map fun s => V.int (f s : Nat)
def CntAt (H : Hp) (v : V) (f : Tal) : Prop := ∃ a, v = .ref a ∧ H a = some (.lst (talL f))
theorem cnt_up {H H' : Hp} {v : V} {f : Tal} (s : Same H H') : CntAt H v f → CntAt H' v f := fun ⟨a, e, h⟩ => ⟨a, e, s _ _ h⟩
inductive CntsAt (H : Hp) : List V → List Tal → Prop where
  | nil : CntsAt H [] []
  | cons {v : V} {vs : List V} {f : Tal} {fs : List Tal} (h : CntAt H v f) (r : CntsAt H vs fs) : CntsAt H (v :: vs) (f :: fs)
theorem cnts_up {H H' : Hp} (s : Same H H') : ∀ {vs : List V} {fs : List Tal}, CntsAt H vs fs → CntsAt H' vs fs
  | _, _, .nil => .nil
  | _, _, .cons a b => .cons (cnt_up s a) (cnts_up s b)
theorem cnts_len {H : Hp} : ∀ {vs : List V} {fs : List Tal}, CntsAt H vs fs → vs.length = fs.length
  | _, _, .nil => rfl
  | _, _, .cons _ b => congrArg Nat.succ (cnts_len b)
theorem cnts_at {H : Hp} : ∀ {vs : List V} {fs : List Tal} {i : Nat} {v : V}, CntsAt H vs fs → vs[i]? = some v → ∃ f, fs[i]? = some f ∧ CntAt H v f
  | _, _, 0, _, .cons a _, e => by cases e; exact ⟨_, rfl, a⟩
  | _, _, i + 1, _, .cons _ b, e => cnts_at b (i := i) (by simpa using e)
theorem cnts_app {H : Hp} : ∀ {vs ws : List V} {fs gs : List Tal}, CntsAt H vs fs → CntsAt H ws gs → CntsAt H (vs ++ ws) (fs ++ gs)
  | _, _, _, _, .nil, h => h
  | _, _, _, _, .cons a b, h => .cons a (cnts_app b h)
theorem cnts_rep {H : Hp} {v : V} {f : Tal} (h : CntAt H v f) : ∀ n : Nat, CntsAt H (List.replicate n v) (List.replicate n f)
  | 0 => .nil
  | n + 1 => .cons h (cnts_rep h n)
theorem talL_at {f : Tal} {i : Nat} {z : Srt} (h : Srt.all[i]? = some z) : (talL f)[i]? = some (V.int (f z : Nat)) := by
  unfold talL
  rw [List.getElem?_map, h]; rfl
theorem talL_take (f : Tal) {i : Nat} {z : Srt} (h : Srt.all[i]? = some z) : (talL f).take (i + 1) = (talL f).take i ++ [V.int (f z : Nat)] := by
  rw [List.take_add_one, talL_at h]; rfl
theorem srt_at {i : Nat} (h : i < 7) : ∃ z, Srt.all[i]? = some z := ⟨Srt.all[i]'(by simpa [Srt.all] using h), List.getElem?_eq_getElem _⟩
theorem pi_listK {X : Cx} {tg l : Expr} {tl : TE} {K0 : PySem.W.Frag} (e : X.K = K0) (hl : PE X l tl) : PI X tg l (iList K0 tl) := by
  rw [← e]; exact pi_list hl
theorem cr_sumK {X : Cx} {K0 : PySem.W.Frag} (e : X.K = K0) (hc : X.calm = true) : CallR X (.builtin "sum") (rSum K0) := by
  rw [← e]; exact cr_sum hc
theorem sc_law_all : FnScope ["_law_rows", "_law_k", "_law_row_here"] ["_law_rows"] (defScope S_law_all) := ⟨rfl, rfl, rfl, by decide +kernel, rfl, by decide +kernel, by decide +kernel⟩
def spAll (K : PySem.W.Frag) : Sp := fun vs H Q _ => ∃ (l : Addr) (us : List V) (fs : List Tal), vs = [.ref l] ∧ SqL K H l us ∧ us.length ≤ 1000000 ∧ CntsAt H us fs ∧ ∀ p H', Same H H' → H p = none → H' p = some (.lst (talL (talSum fs))) → Q (.ref p) H'
theorem ok_all (T : Tx w K mg) : Cal P w K mg base 1 "_law_all" (spAll K) := by
  refine cal_mk T 38 38 rfl rfl sc_law_all (fun _ _ _ _ _ _ us hl => match us, hl with | [_], _ => rfl) (fun vs H Q E h => ?_) (fun cdv A outer s H vs Q E hr h => ?_)
  · obtain ⟨S, C, fs, rfl, _⟩ := h
    rfl
  obtain ⟨l, us, fs, rfl, hl, hm, hf, q⟩ := h
  refine ⟨_, (pss_one (ps_ret (pe_lc (own := [("_law_k", 1)]) (by rfl) sc_law_all.nd (pi_range1 (by rfl) (T.free 83 rfl) (pa_cons pe_int pa_nil)) (blkOk_by (own := [("_law_k", 1)]) (N := ["_law_rows", "_law_k", "_law_row_here"]) (sc := defScope S_law_all) (by decide +kernel)) (fun _ _ _ _ _ => (pg_name (i := 1) sc_law_all.nd rfl (by first | exact Or.inl rfl | exact Or.inr rfl))) (fun _ _ _ _ _ => pts_nil) (fun _ _ _ _ _ => (pe_callB (cr_sumK (K0 := K) rfl rfl) (by rfl) (T.free 81 rfl) (by decide +kernel) (pa_cons (pe_lc (own := [("_law_row_here", 2)]) (by rfl) sc_law_all.nd (pi_listK (K0 := K) rfl (pv 0)) (blkOk_by (own := [("_law_row_here", 2)]) (N := ["_law_rows", "_law_k", "_law_row_here"]) (sc := _) (by kernel_rfl)) (fun _ _ _ _ _ => (pg_name (i := 2) sc_law_all.nd rfl (by first | exact Or.inl rfl | exact Or.inr rfl))) (fun _ _ _ _ _ => pts_nil) (fun _ _ _ _ _ => (pe_ix (show IxR _ (rIxL K) from ix_list) (pv 2) (pv 1) (fun _ _ => rfl)))) pa_nil)))))), ?_⟩
  refine ⟨7, rfl, by decide, by decide, fun D hD => ?_⟩
  refine lc_it walk_range (fun i Hi => Hi D = some (.lst ((talL (talSum fs)).take i)) ∧ Same H (hid [D] Hi)) ⟨upd_same, same_hid_new hD⟩ (fun i Hi _ _ => trivial) ?_ ?_
  · rintro i y Hi H' hi ⟨hDi, sH⟩ ⟨rfl, rfl⟩
    have hi : i < 7 := hi
    obtain ⟨z, hz⟩ := srt_at hi
    have sHi := sH.trans hid_sub
    refine ⟨rfl, yes_turn ⟨_, rfl, l, rfl, ⟨us, sHi.seq hl⟩, fun D2 hD2 => ?_⟩⟩
    refine lc_gen (walk_list (K := K) (a := l) (xs := us)) (fun i => (fs[i]?).map fun f => V.int (f z : Nat)) (fun acc => (same_new hD2 _).seq (sHi.seq hl)) (Nat.le_trans hm (by decide)) ?_ ?_
    · rintro j v acc H2 N hj la ⟨rfl, hv⟩ n1 n2
      obtain ⟨f, ef, b, rfl, hb⟩ := cnts_at hf hv
      have e0 : ((0 : Int) + (i : Nat)) = ((i : Nat) : Int) := Int.zero_add _
      refine ⟨rfl, yes_turn ⟨_, rfl, _, rfl, b, _, _, V.int (f z : Nat), rfl, rfl, SqL.new (same_new hD2 _ _ _ (sHi _ _ hb)), ?_, acc, upd_same, la, ?_⟩⟩
      · rw [e0]; exact atI_nat (talL_at hz)
      · rw [upd_lst]
        exact n2 _ (by rw [ef]; rfl)
    · have el : (List.range us.length).filterMap (fun i => (fs[i]?).map fun f => V.int (f z : Nat)) = (fs.map fun f => ((f z : Nat) : Int)).map V.int := by
        rw [range_fm, cnts_len hf, List.take_length, List.map_map]
        rfl
      have es : ((fs.map fun f => ((f z : Nat) : Int)).sum) = ((talSum fs z : Nat) : Int) := by
        show _ = (((fs.map fun f => f z).sum : Nat) : Int)
        rw [← sum_nat, List.map_map]
        rfl
      have npD : D ≠ D2 := ne_of_none hDi hD2
      refine ⟨D2, fs.map fun f => ((f z : Nat) : Int), rfl, SqL.new (by rw [el]; exact upd_same), _, by rw [upd_ne npD]; exact hDi, ?_, ?_, ?_⟩
      · refine Nat.lt_of_le_of_lt (List.length_take_le _ _) ?_
        show i < 2 ^ 24
        omega
      · rw [upd_same, es, talL_take _ hz]
      · exact (sH.trans (samex_hid (same_x (same_new hD2 _)))).trans (samex_hid (samex_upd (by simp) _))
  · rintro Hi ⟨hDi, sH⟩
    exact q D Hi (sH.trans hid_sub) hD hDi
/-! ### alike -/
def Alk : Nat → PyData → Prop
  | 0, _ => False
  | _ + 1, .int _ => True
  | _ + 1, .str _ => True
  | n + 1, .tuple ds => ds.length ≤ 1000 ∧ ∀ d ∈ ds, Alk n d
  | n + 1, .list ds => ds.length ≤ 1000 ∧ ∀ d ∈ ds, Alk n d
  | _ + 1, _ => False
theorem all_rep : ∀ n : Nat, (List.replicate n (V.bl true)).all flatV = true
  | 0 => rfl
  | n + 1 => by rw [List.replicate_succ, List.all_cons, all_rep n]; rfl
theorem in_rep : ∀ n : Nat, inV (V.bl false) (List.replicate n (V.bl true)) = false
  | 0 => rfl
  | n + 1 => by
    have ih := in_rep n
    unfold inV at ih ⊢
    rw [List.replicate_succ, List.any_cons, ih]; rfl
theorem sc_law_alike : FnScope ["_law_one", "_law_other", "_law_k"] ["_law_one", "_law_other"] (defScope S_law_alike) := ⟨rfl, rfl, rfl, by decide +kernel, rfl, by decide +kernel, by decide +kernel⟩
def spAlike (K : PySem.W.Frag) (n : Nat) : Sp := fun vs H Q _ => ∃ v u d, vs = [v, u] ∧ Dp K H v d ∧ Dp K H u d ∧ Alk n d ∧ ∀ H', Same H H' → Q (.bl true) H'
theorem ok_alike0 (T : Tx w K mg) : Cal P w K mg base 1 "_law_alike" (spAlike K 0) := by
  refine cal_mk T 37 37 rfl rfl sc_law_alike (fun _ _ _ _ _ _ us hl => match us, hl with | [_, _], _ => rfl) (fun vs H Q E h => ?_) (fun cdv A outer s H vs Q E hr h => ?_)
  · obtain ⟨v, u, d, rfl, _⟩ := h
    rfl
  obtain ⟨v, u, d, rfl, h1, h2, ha, q⟩ := h
  exact ha.elim
theorem ok_alikeS (T : Tx w K mg) (n : Nat) (c_law_alike : Cal P w K mg base (n + 1) "_law_alike" (spAlike K n)) : Cal P w K mg base (n + 2) "_law_alike" (spAlike K (n + 1)) := by
  refine cal_mk T 37 37 rfl rfl sc_law_alike (fun _ _ _ _ _ _ us hl => match us, hl with | [_, _], _ => rfl) (fun vs H Q E h => ?_) (fun cdv A outer s H vs Q E hr h => ?_)
  · obtain ⟨v, u, d, rfl, _⟩ := h
    rfl
  obtain ⟨v, u, d, rfl, h1, h2, ha, q⟩ := h
  refine ⟨_, (pss_cons (ps_if (PW.pt (pw_or (pt_val (pe_isi (pv 1) (pe_bltn (v := .ty "tuple") (by rfl) (T.free 77 rfl) (by decide +kernel) rfl) (by rfl) (T.free 69 rfl))) (pw_or1 (pt_val (pe_isi (pv 1) (pe_bltn (v := .ty "list") (by rfl) (T.free 79 rfl) (by decide +kernel) rfl) (by rfl) (T.free 69 rfl)))))) (pss_cons (ps_if (PW.pt (pw_and (pt_val (pe_isi (pv 1) (pe_bltn (v := .ty "tuple") (by rfl) (T.free 77 rfl) (by decide +kernel) rfl) (by rfl) (T.free 69 rfl))) (pw_and1 (pt_not (pt_val (pe_isi (pv 0) (pe_bltn (v := .ty "tuple") (by rfl) (T.free 77 rfl) (by decide +kernel) rfl) (by rfl) (T.free 69 rfl))))))) (pss_one (ps_ret pe_bl)) pss_nil)
      (pss_cons (ps_if (PW.pt (pw_and (pt_val (pe_isi (pv 1) (pe_bltn (v := .ty "list") (by rfl) (T.free 79 rfl) (by decide +kernel) rfl) (by rfl) (T.free 69 rfl))) (pw_and1 (pt_not (pt_val (pe_isi (pv 0) (pe_bltn (v := .ty "list") (by rfl) (T.free 79 rfl) (by decide +kernel) rfl) (by rfl) (T.free 69 rfl))))))) (pss_one (ps_ret pe_bl)) pss_nil)
      (pss_cons (ps_if (pt_cmpR op_ne (pe_callB call_len_seq (by rfl) (T.free 70 rfl) (by decide +kernel) (pa_cons (pv 0) pa_nil)) (pe_callB call_len_seq (by rfl) (T.free 70 rfl) (by decide +kernel) (pa_cons (pv 1) pa_nil)) (nomark _)) (pss_one (ps_ret pe_bl)) pss_nil)
      (pss_one (ps_ret (pe_cmpR op_notIn_seq pe_bl (pe_lc (own := [("_law_k", 2)]) (by rfl) sc_law_alike.nd (pi_range1 (by rfl) (T.free 83 rfl) (pa_cons (pe_callB call_len_seq (by rfl) (T.free 70 rfl) (by decide +kernel) (pa_cons (pv 1) pa_nil)) pa_nil)) (blkOk_by (own := [("_law_k", 2)]) (N := ["_law_one", "_law_other", "_law_k"]) (sc := defScope S_law_alike) (by decide +kernel)) (fun _ _ _ _ _ => (pg_name (i := 2) sc_law_alike.nd rfl (by first | exact Or.inl rfl | exact Or.inr rfl))) (fun _ _ _ _ _ => pts_nil) (fun _ _ _ _ _ => (pe_c c_law_alike hr (by omega) (by rfl) (pa_cons (pe_ix (show IxR _ (rIx K) from ix_seq) (pv 0) (pv 2) (fun _ _ => rfl)) (pa_cons (pe_ix (show IxR _ (rIx K) from ix_seq) (pv 1) (pv 2) (fun _ _ => rfl)) pa_nil))))) (by rfl))))))) pss_nil)
      (pss_cons (ps_if (pt_val (pe_isi (pv 1) (pe_bltn (v := .ty "str") (by rfl) (T.free 78 rfl) (by decide +kernel) rfl) (by rfl) (T.free 69 rfl))) (pss_one (ps_ret (pe_and (pe_isi (pv 0) (pe_bltn (v := .ty "str") (by rfl) (T.free 78 rfl) (by decide +kernel) rfl) (by rfl) (T.free 69 rfl)) (pe_one (pe_cmpR op_eq (pv 0) (pv 1) (nomark _)))))) pss_nil)
      (pss_cons (ps_if (PW.pt (pw_or (pt_cmpR op_ne (pe_isi (pv 0) (pe_bltn (v := .ty "bool") (by rfl) (T.free 76 rfl) (by decide +kernel) rfl) (by rfl) (T.free 69 rfl)) (pe_isi (pv 1) (pe_bltn (v := .ty "bool") (by rfl) (T.free 76 rfl) (by decide +kernel) rfl) (by rfl) (T.free 69 rfl)) (nomark _)) (pw_or1 (pt_not (pt_val (pe_isi (pv 0) (pe_bltn (v := .ty "int") (by rfl) (T.free 75 rfl) (by decide +kernel) rfl) (by rfl) (T.free 69 rfl))))))) (pss_one (ps_ret pe_bl)) pss_nil)
      (pss_one (ps_ret (pe_and (pe_isi (pv 1) (pe_bltn (v := .ty "int") (by rfl) (T.free 75 rfl) (by decide +kernel) rfl) (by rfl) (T.free 69 rfl)) (pe_one (pe_cmpR op_eq (pv 0) (pv 1) (nomark _))))))))), ?_⟩
  cases d with
  | int i =>
    obtain rfl := dp_int_of h1
    obtain rfl := dp_int_of h2
    refine ⟨_, rfl, false, isi_int k_int_tuple, _, rfl, iteF ?_⟩
    refine ⟨_, rfl, false, isi_int k_int_list, _, rfl, iteF ?_⟩
    refine ⟨_, rfl, false, isi_int k_int_str, _, rfl, iteF ?_⟩
    refine ⟨_, rfl, false, isi_int k_int_bool, _, rfl, false, isi_int k_int_bool, rfl, _, rfl, ifF rfl ?_⟩
    refine ⟨_, rfl, true, isi_int k_int_int, _, rfl, iteF ?_⟩
    refine ⟨_, rfl, true, isi_int k_int_int, _, rfl, iteT ?_⟩
    refine ⟨_, rfl, _, rfl, rfl, ?_⟩
    have e : decide (V.int i = V.int i) = true := decide_eq_true rfl
    rw [e]
    exact q H (Same.refl H)
  | str x =>
    obtain rfl := dp_str_of h1
    obtain rfl := dp_str_of h2
    refine ⟨_, rfl, false, isi_str k_str_tuple, _, rfl, iteF ?_⟩
    refine ⟨_, rfl, false, isi_str k_str_list, _, rfl, iteF ?_⟩
    refine ⟨_, rfl, true, isi_str k_str_str, _, rfl, iteT ?_⟩
    refine ⟨_, rfl, true, isi_str k_str_str, _, rfl, iteT ?_⟩
    refine ⟨_, rfl, _, rfl, rfl, ?_⟩
    have e : decide (V.str x = V.str x) = true := decide_eq_true rfl
    rw [e]
    exact q H (Same.refl H)
  | tuple ds =>
    obtain ⟨hl0, hal⟩ := ha
    obtain ⟨a, xs, rfl, ha, hxs⟩ := dp_tup_of h1
    obtain ⟨b, ys, rfl, hb, hys⟩ := dp_tup_of h2
    refine ⟨_, rfl, true, isi_tup hb k_tuple_tuple, _, rfl, iteT ?_⟩
    refine ⟨_, rfl, true, isi_tup hb k_tuple_tuple, _, rfl, iteT ?_⟩
    refine ⟨_, rfl, true, isi_tup ha k_tuple_tuple, _, rfl, iteF ?_⟩
    refine ⟨_, rfl, false, isi_tup hb k_tuple_list, _, rfl, iteF ?_⟩
    have lx := dps_len hxs
    have ly := dps_len hys
    refine ⟨_, rfl, a, _, rfl, .inr ha, _, rfl, b, _, rfl, .inr hb, rfl, _, rfl, ifF (by rw [lx, ly]; simp) ?_⟩
    refine ⟨_, rfl, b, _, rfl, .inr hb, _, rfl, by omega, by omega, fun D hD => ?_⟩
    have eN : ((ys.length : Nat) : Int).toNat = ys.length := Int.toNat_natCast _
    rw [eN]
    refine lc_it walk_range (fun i Hi => Hi D = some (.lst (List.replicate i (V.bl true))) ∧ Same H (hid [D] Hi)) ⟨upd_same, same_hid_new hD⟩ (fun i Hi _ _ => trivial) ?_ ?_
    · rintro i y Hi H' hi ⟨hDi, sH⟩ ⟨rfl, rfl⟩
      have sHi := sH.trans hid_sub
      have e0 : ((0 : Int) + (i : Nat)) = ((i : Nat) : Int) := Int.zero_add _
      have hdi : ds[i]? = some (ds[i]'(by omega)) := List.getElem?_eq_getElem (by omega)
      obtain ⟨x1, ex1, dx1⟩ := dps_at' hxs hdi
      obtain ⟨y1, ey1, dy1⟩ := dps_at' hys hdi
      refine ⟨rfl, yes_turn ⟨_, rfl, _, rfl, .inr (.inl ⟨a, _, _, x1, rfl, rfl, same_seqT sHi ha, by rw [e0]; exact atI_nat ex1, _, rfl, _, rfl, .inr (.inl ⟨b, _, _, y1, rfl, rfl, same_seqT sHi hb, by rw [e0]; exact atI_nat ey1, x1, y1, _, rfl, dp_up sHi dx1, dp_up sHi dy1, hal _ (List.getElem_mem _), fun H3 s3 => ?_⟩)⟩)⟩⟩
      refine ⟨_, s3 _ _ hDi, (by rw [List.length_replicate]; show i < 2 ^ 24; omega), ?_, (sH.trans (hid_up s3)).trans (samex_hid (samex_upd (by simp) _))⟩
      rw [upd_same, List.replicate_succ']
    · rintro Hi ⟨hDi, sH⟩
      refine ⟨D, _, rfl, .inl (SqL.new hDi), rfl, all_rep _, ?_⟩
      have e : inV (V.bl false) (List.replicate ys.length (V.bl true)) = false := in_rep _
      show Q (.bl (!inV (V.bl false) (List.replicate ys.length (V.bl true)))) Hi
      rw [e]
      exact q Hi (sH.trans hid_sub)
  | list ds =>
    obtain ⟨hl0, hal⟩ := ha
    obtain ⟨a, xs, rfl, ha, hxs⟩ := dp_lst_of h1
    obtain ⟨b, ys, rfl, hb, hys⟩ := dp_lst_of h2
    refine ⟨_, rfl, false, isi_lst hb k_list_tuple, _, rfl, iteF ?_⟩
    refine ⟨_, rfl, true, isi_lst hb k_list_list, _, rfl, iteT ?_⟩
    refine ⟨_, rfl, false, isi_lst hb k_list_tuple, _, rfl, iteF ?_⟩
    refine ⟨_, rfl, true, isi_lst hb k_list_list, _, rfl, iteT ?_⟩
    refine ⟨_, rfl, true, isi_lst ha k_list_list, _, rfl, iteF ?_⟩
    have lx := dps_len hxs
    have ly := dps_len hys
    refine ⟨_, rfl, a, _, rfl, .inl ha, _, rfl, b, _, rfl, .inl hb, rfl, _, rfl, ifF (by rw [lx, ly]; simp) ?_⟩
    refine ⟨_, rfl, b, _, rfl, .inl hb, _, rfl, by omega, by omega, fun D hD => ?_⟩
    have eN : ((ys.length : Nat) : Int).toNat = ys.length := Int.toNat_natCast _
    rw [eN]
    refine lc_it walk_range (fun i Hi => Hi D = some (.lst (List.replicate i (V.bl true))) ∧ Same H (hid [D] Hi)) ⟨upd_same, same_hid_new hD⟩ (fun i Hi _ _ => trivial) ?_ ?_
    · rintro i y Hi H' hi ⟨hDi, sH⟩ ⟨rfl, rfl⟩
      have sHi := sH.trans hid_sub
      have e0 : ((0 : Int) + (i : Nat)) = ((i : Nat) : Int) := Int.zero_add _
      have hdi : ds[i]? = some (ds[i]'(by omega)) := List.getElem?_eq_getElem (by omega)
      obtain ⟨x1, ex1, dx1⟩ := dps_at' hxs hdi
      obtain ⟨y1, ey1, dy1⟩ := dps_at' hys hdi
      refine ⟨rfl, yes_turn ⟨_, rfl, _, rfl, .inl ⟨a, _, _, x1, rfl, rfl, sHi.seq ha, by rw [e0]; exact atI_nat ex1, _, rfl, _, rfl, .inl ⟨b, _, _, y1, rfl, rfl, sHi.seq hb, by rw [e0]; exact atI_nat ey1, x1, y1, _, rfl, dp_up sHi dx1, dp_up sHi dy1, hal _ (List.getElem_mem _), fun H3 s3 => ?_⟩⟩⟩⟩
      refine ⟨_, s3 _ _ hDi, (by rw [List.length_replicate]; show i < 2 ^ 24; omega), ?_, (sH.trans (hid_up s3)).trans (samex_hid (samex_upd (by simp) _))⟩
      rw [upd_same, List.replicate_succ']
    · rintro Hi ⟨hDi, sH⟩
      refine ⟨D, _, rfl, .inl (SqL.new hDi), rfl, all_rep _, ?_⟩
      have e : inV (V.bl false) (List.replicate ys.length (V.bl true)) = false := in_rep _
      show Q (.bl (!inV (V.bl false) (List.replicate ys.length (V.bl true)))) Hi
      rw [e]
      exact q Hi (sH.trans hid_sub)
  | _ => exact ha.elim
theorem ok_alike (T : Tx w K mg) : ∀ n : Nat, Cal P w K mg base (n + 1) "_law_alike" (spAlike K n)
  | 0 => ok_alike0 T
  | n + 1 => ok_alikeS T n (ok_alike T n)
end
end Ut
set_option Elab.async false
set_option linter.all false
set_option maxRecDepth 100000
set_option maxHeartbeats 4000000
namespace Ut
open PySem PySem.Spec PyProof.Rows L2
/-! ### the plain law of what the law makes -/
theorem je_imp1 {R S : PyData → Row → Prop} (f : ∀ p r, R p r → S p r) {ps : List PyData} {rs : List Row} (h : JE R ps rs) : JE S ps rs := h.imp fun p r _ z => f p r z
theorem j_succ : ∀ (n : Nat) (t : Tm) (p : PyData) (r : Row), J n t p r → J (n + 1) t p r
  | 0, _, _, _, h => h.elim
  | n + 1, .name x, p, r, h => h
  | n + 1, .num i, p, r, h => h
  | n + 1, .mk x b, p, r, ⟨p1, r1, e, h, e2⟩ => ⟨p1, r1, e, j_succ n b p1 r1 h, e2⟩
  | n + 1, .gv m g, p, r, ⟨p1, r1, ps, rs, k, e, h, hs, e2⟩ => ⟨p1, r1, ps, rs, k, e, j_succ n m p1 r1 h, je_imp1 (fun p r z => j_succ n g p r z) hs, e2⟩
  | n + 1, .sm s a b, p, r, ⟨p1, r1, p2, r2, i, j, e, h1, h2, e2⟩ => ⟨p1, r1, p2, r2, i, j, e, j_succ n a p1 r1 h1, j_succ n b p2 r2 h2, e2⟩
  | n + 1, .ch a m o, p, r, ⟨p1, r1, p2, r2, i, e, h1, ek, h2, e2⟩ => ⟨p1, r1, p2, r2, i, e, j_succ n a p1 r1 h1, ek, j_succ n _ p2 r2 h2, e2⟩
  | n + 1, .ag x b, p, r, ⟨p1, r1, ps, rs, e, h, hs, e2⟩ => ⟨p1, r1, ps, rs, e, j_succ n b p1 r1 h, je_imp1 (fun p r z => j_succ n (.ag x b) p r z) hs, e2⟩
theorem j_mono {n m : Nat} (h : n ≤ m) {t : Tm} {p : PyData} {r : Row} (j : J n t p r) : J m t p r := by
  induction h with
  | refl => exact j
  | step _ ih => exact j_succ _ _ _ _ ih
theorem sc_mono : ∀ {t : Tm} {S S' : List Str}, Sc t S → (∀ y ∈ S, y ∈ S') → Sc t S'
  | .name x, S, S', h, m => m x h
  | .num _, _, _, _, _ => trivial
  | .mk x b, S, S', ⟨U, h1, h2, h3⟩, m => ⟨U, h1, fun y hy => (h2 y hy).imp id (m y), h3⟩
  | .ag x b, S, S', ⟨U, h1, h2, h3⟩, m => ⟨U, h1, fun y hy => (h2 y hy).imp id (m y), h3⟩
  | .gv a b, S, S', ⟨h1, h2⟩, m => ⟨sc_mono (t := a) h1 m, sc_mono (t := b) h2 m⟩
  | .sm _ a b, S, S', ⟨h1, h2⟩, m => ⟨sc_mono (t := a) h1 m, sc_mono (t := b) h2 m⟩
  | .ch a b c, S, S', ⟨h1, h2, h3⟩, m => ⟨sc_mono (t := a) h1 m, sc_mono (t := b) h2 m, sc_mono (t := c) h3 m⟩
abbrev KUse := Str × Kd
def toUse (u : KUse) : Use := (u.1, u.2.d)
inductive Wo where
  | int (i : Int) | sh (s : Nat) (c : Int)
def shapeKd (s : Nat) (c n : Int) : Kd := if s = 0 then .tk [n] (n + c) else if s = 1 then .tk [] c else if s = 2 then .tk [n, n] (n + n) else if n = 0 then .tk [0] c else .tk [n, n] n
def kdOk : Wo → Kd → Prop
  | .int i, k => k = .int i
  | .sh s c, k => ∃ n, k = shapeKd s c n
structure Mde where
  t : Tm
  p : PyData
  i : Int
  us : List KUse
  tl : Tal
def Mde.row (m : Mde) : Row := ⟨.int m.i, m.us.map toUse, m.tl⟩
abbrev Scp := List (Str × Wo)
def Ub : Nat → Nat
  | 0 => 1
  | d + 1 => 1 + Ub d + Ub d * Ub d
theorem ub_pos : ∀ d, 1 ≤ Ub d
  | 0 => Nat.le_refl 1
  | d + 1 => by show 1 ≤ 1 + Ub d + Ub d * Ub d; omega
structure MadeOk (G : Scp) (d : Nat) (m : Mde) : Prop where
  j : J (10 + 2 * d) m.t m.p m.row
  ok : m.t.ok
  dep : m.t.dep ≤ 8 + 2 * d
  sc : Sc m.t (G.map (·.1))
  us : ∀ u ∈ m.us, ∃ wo, (u.1, wo) ∈ G ∧ kdOk wo u.2
  len : m.us.length ≤ Ub d
theorem MadeOk.up {G : Scp} {d : Nat} {m : Mde} (h : MadeOk G d m) : MadeOk G (d + 1) m :=
  ⟨j_mono (by omega) h.j, h.ok, by have := h.dep; omega, h.sc, h.us, by have := h.len; show _ ≤ 1 + Ub d + Ub d * Ub d; omega⟩
theorem MadeOk.mono {G : Scp} {d e : Nat} {m : Mde} (h : MadeOk G d m) (l : d ≤ e) : MadeOk G e m := by
  induction l with
  | refl => exact h
  | step _ ih => exact ih.up
theorem okN_w : okName ("w" : Str) := by unfold okName; decide +kernel
theorem okN_f : okName ("f" : Str) := by unfold okName; decide +kernel
theorem okN_n : okName ("n" : Str) := by unfold okName; decide +kernel
abbrev wT : Tm := .ag "w" (.name "w")
theorem sc_w (S : List Str) : Sc wT S := ⟨["w"], by decide, fun y hy => .inl (List.mem_singleton.mp hy), List.mem_singleton.mpr rfl⟩
/-! leaf -/
theorem leaf_num (G : Scp) (i : Int) : MadeOk G 0 ⟨.num i, tp [.str "number"], i, [], talOf []⟩ :=
  ⟨⟨rfl, rfl⟩, trivial, (by show 1 ≤ 8; decide), trivial, fun u h => (by cases h), Nat.zero_le _⟩
theorem leaf_name {G : Scp} {x : Str} {i : Int} (hx : okName x) (h : (x, Wo.int i) ∈ G) : MadeOk G 0 ⟨.name x, tp [.str "look", .int i], i, [(x, .int i)], talOf [.look]⟩ :=
  ⟨⟨.int i, rfl, rfl⟩, hx, (by show 1 ≤ 8; decide), List.mem_map.mpr ⟨_, h, rfl⟩, fun u hu => ⟨.int i, by rw [List.mem_singleton.mp hu]; exact h, by rw [List.mem_singleton.mp hu]; exact rfl⟩, Nat.le_refl 1⟩
/-! two -/
theorem two_sum {G : Scp} {d : Nat} {a b : Mde} {s : Str} (hs : okSign s) (ha : MadeOk G d a) (hb : MadeOk G d b) :
    MadeOk G (d + 1) ⟨.sm s a.t b.t, tp [.str "sum", a.p, b.p], sumOf s a.i b.i, a.us ++ b.us, talSum [a.tl, b.tl, talOf [.op, .next, .sum]]⟩ := by
  refine ⟨j_mono (n := 10 + 2 * d + 1) (by omega) ⟨a.p, a.row, b.p, b.row, a.i, b.i, rfl, ha.j, hb.j, rfl, rfl, ?_⟩, ⟨hs, ha.ok, hb.ok⟩, ?_, ⟨ha.sc, hb.sc⟩, fun u hu => ?_, ?_⟩
  · show Row.mk _ ((a.us ++ b.us).map toUse) _ = Row.mk _ (a.us.map toUse ++ usAll [b.row]) _
    rw [List.map_append]
    simp [usAll, Mde.row]
  · show max a.t.dep b.t.dep + 1 ≤ _
    have := ha.dep; have := hb.dep; omega
  · rcases List.mem_append.mp hu with h | h
    · exact ha.us u h
    · exact hb.us u h
  · show (a.us ++ b.us).length ≤ 1 + Ub d + Ub d * Ub d
    rw [List.length_append]
    have := ha.len; have := hb.len
    have h3 : Ub d ≤ Ub d * Ub d := Nat.le_mul_of_pos_left _ (ub_pos d)
    omega
theorem two_choice {G : Scp} {d : Nat} {a b : Mde} (ha : MadeOk G d a) (hb : MadeOk G d b) :
    MadeOk G (d + 1) ⟨if a.i = 0 then .ch a.t b.t wT else .ch a.t wT b.t, tp [.str "choice", a.p, b.p], b.i, a.us ++ b.us, talSum [a.tl, b.tl, talOf [.op, .choose]]⟩ := by
  have hrow : (⟨.int b.i, (a.us ++ b.us).map toUse, talSum [a.tl, b.tl, talOf [.op, .choose]]⟩ : Row) = ⟨b.row.k, a.row.us ++ usAll [b.row], talSum [a.row.tl, b.row.tl, talOf [.op, .choose]]⟩ := by
    show Row.mk _ ((a.us ++ b.us).map toUse) _ = Row.mk _ (a.us.map toUse ++ usAll [b.row]) _
    rw [List.map_append]
    simp [usAll, Mde.row]
  have hu : ∀ u ∈ a.us ++ b.us, ∃ wo, (u.1, wo) ∈ G ∧ kdOk wo u.2 := fun u hu => by
    rcases List.mem_append.mp hu with h | h
    · exact ha.us u h
    · exact hb.us u h
  have hl : (a.us ++ b.us).length ≤ 1 + Ub d + Ub d * Ub d := by
    rw [List.length_append]
    have := ha.len; have := hb.len
    have h3 : Ub d ≤ Ub d * Ub d := Nat.le_mul_of_pos_left _ (ub_pos d)
    omega
  have h1 := ha.dep
  have h2 := hb.dep
  by_cases c : a.i = 0
  · simp only [c, if_true]
    refine ⟨j_mono (n := 10 + 2 * d + 1) (by omega) ⟨a.p, a.row, b.p, b.row, a.i, rfl, ha.j, rfl, by rw [if_pos c]; exact hb.j, hrow⟩, ⟨ha.ok, hb.ok, okN_w, okN_w⟩, ?_, ⟨ha.sc, hb.sc, sc_w _⟩, hu, hl⟩
    show max a.t.dep (max b.t.dep 2) + 1 ≤ _
    omega
  · simp only [c, if_false]
    refine ⟨j_mono (n := 10 + 2 * d + 1) (by omega) ⟨a.p, a.row, b.p, b.row, a.i, rfl, ha.j, rfl, by rw [if_neg c]; exact hb.j, hrow⟩, ⟨ha.ok, ⟨okN_w, okN_w⟩, hb.ok⟩, ?_, ⟨ha.sc, sc_w _, hb.sc⟩, hu, hl⟩
    show max a.t.dep (max 2 b.t.dep) + 1 ≤ _
    omega
/-! rows alike -/
theorem je_rep {R : PyData → Row → Prop} {p : PyData} {r : Row} (h : R p r) : ∀ n : Nat, JE R (List.replicate n p) (List.replicate n r)
  | 0 => .nil
  | n + 1 => .cons h (je_rep h n)
theorem usAll_rep (r : Row) : ∀ n : Nat, usAll (List.replicate n r) = (List.replicate n r.us).flatten
  | 0 => rfl
  | n + 1 => by
    show r.us ++ usAll (List.replicate n r) = _
    rw [usAll_rep r n, List.replicate_succ, List.flatten_cons]
theorem tlAll_rep (r : Row) (n : Nat) : tlAll (List.replicate n r) = List.replicate n r.tl := by
  unfold tlAll
  rw [List.map_replicate]
theorem flat_map {α β : Type} (f : α → β) (l : List α) : ∀ n : Nat, ((List.replicate n l).flatten).map f = (List.replicate n (l.map f)).flatten
  | 0 => rfl
  | n + 1 => by rw [List.replicate_succ, List.flatten_cons, List.map_append, flat_map f l n, List.replicate_succ, List.flatten_cons]
theorem flat_len {α : Type} (l : List α) : ∀ n : Nat, ((List.replicate n l).flatten).length = n * l.length
  | 0 => by simp
  | n + 1 => by rw [List.replicate_succ, List.flatten_cons, List.length_append, flat_len l n, Nat.succ_mul]; omega
theorem flat_mem {α : Type} {l : List α} {x : α} : ∀ {n : Nat}, x ∈ (List.replicate n l).flatten → x ∈ l
  | 0, h => by simp at h
  | n + 1, h => by
    rw [List.replicate_succ, List.flatten_cons] at h
    rcases List.mem_append.mp h with h | h
    · exact h
    · exact flat_mem h
/-! used -/
def manyOf (s : Nat) (n : Int) : Nat := if s = 0 then 1 else if s = 1 then 0 else if s = 2 then 2 else if n = 0 then 1 else 2
def numOf (s : Nat) (c n : Int) : Int := if s = 0 then n + c else if s = 1 then c else if s = 2 then n + n else if n = 0 then c else n
theorem shape_eq (s : Nat) (c n : Int) : shapeKd s c n = .tk (List.replicate (manyOf s n) n) (numOf s c n) := by
  unfold shapeKd manyOf numOf
  by_cases h0 : s = 0
  · simp [h0]
  by_cases h1 : s = 1
  · simp [h1]
  by_cases h2 : s = 2
  · simp [h2]
  by_cases h3 : n = 0
  · simp [h0, h1, h2, h3]
  · simp [h0, h1, h2, h3]
theorem many_le (s : Nat) (n : Int) : manyOf s n ≤ 2 := by
  unfold manyOf
  repeat' split
  all_goals omega
theorem used_ok {G : Scp} {d : Nat} {a : Mde} {x : Str} {s : Nat} {c : Int} (hx : okName x) (h : (x, Wo.sh s c) ∈ G) (ha : MadeOk G d a) :
    MadeOk G (d + 1) ⟨.gv (.name x) (if manyOf s a.i > 0 then a.t else wT), tp [.str "gives", tp [.str "look", (shapeKd s c a.i).d], tp (List.replicate (manyOf s a.i) a.p)], numOf s c a.i, (x, shapeKd s c a.i) :: (List.replicate (manyOf s a.i) a.us).flatten,
      talSum (List.replicate (manyOf s a.i) a.tl ++ [talOf [.op, .look]])⟩ := by
  have hm := many_le s a.i
  have hargs : JE (J (10 + 2 * d) (if manyOf s a.i > 0 then a.t else wT)) (List.replicate (manyOf s a.i) a.p) (List.replicate (manyOf s a.i) a.row) := by
    by_cases z : manyOf s a.i > 0
    · rw [if_pos z]; exact je_rep ha.j _
    · have : manyOf s a.i = 0 := by omega
      rw [this]; exact .nil
  have hd := ha.dep
  refine ⟨j_mono (n := 10 + 2 * d + 1) (by omega) ⟨tp [.str "look", (shapeKd s c a.i).d], ⟨(shapeKd s c a.i).d, [(x, (shapeKd s c a.i).d)], talOf [.look]⟩, List.replicate (manyOf s a.i) a.p, List.replicate (manyOf s a.i) a.row, .int (numOf s c a.i), rfl,
    j_mono (n := 1) (by omega) ⟨shapeKd s c a.i, rfl, rfl⟩, hargs, ?_, ?_, ?_, ?_⟩, ⟨hx, ?_⟩, ?_, ⟨List.mem_map.mpr ⟨_, h, rfl⟩, ?_⟩, fun u hu => ?_, ?_⟩
  · show (shapeKd s c a.i).d = _
    rw [shape_eq]
    simp [Kd.d, Mde.row]
  · intro q hq
    rw [List.eq_of_mem_replicate hq]
    exact ⟨.int a.i, rfl⟩
  · rw [List.length_replicate]; omega
  · show Row.mk _ (((x, shapeKd s c a.i) :: (List.replicate (manyOf s a.i) a.us).flatten).map toUse) _ = Row.mk _ ([(x, (shapeKd s c a.i).d)] ++ usAll (List.replicate (manyOf s a.i) a.row)) _
    rw [List.map_cons, flat_map, usAll_rep, tlAll_rep]
    show Row.mk _ _ _ = Row.mk _ _ _
    refine congr (congr rfl rfl) (funext fun z => ?_)
    show talSum (List.replicate (manyOf s a.i) a.tl ++ [talOf [.op, .look]]) z = talSum ([talOf [.look]] ++ List.replicate (manyOf s a.i) a.tl ++ [talOf [.op]]) z
    rw [tal_app, tal_app, tal_app, tal_one, tal_one, tal_one, two_talOf]
    omega
  · by_cases z : manyOf s a.i > 0
    · rw [if_pos z]; exact ha.ok
    · rw [if_neg z]; exact ⟨okN_w, okN_w⟩
  · show max 1 (Tm.dep (if manyOf s a.i > 0 then a.t else wT)) + 1 ≤ _
    by_cases z : manyOf s a.i > 0
    · rw [if_pos z]; omega
    · rw [if_neg z]; show max 1 2 + 1 ≤ _; omega
  · by_cases z : manyOf s a.i > 0
    · rw [if_pos z]; exact ha.sc
    · rw [if_neg z]; exact sc_w _
  · rcases List.mem_cons.mp hu with e | hu
    · subst e; exact ⟨.sh s c, h, a.i, rfl⟩
    · exact ha.us u (flat_mem hu)
  · show ((x, shapeKd s c a.i) :: (List.replicate (manyOf s a.i) a.us).flatten).length ≤ 1 + Ub d + Ub d * Ub d
    rw [List.length_cons, flat_len]
    have := ha.len
    have h3 : Ub d ≤ Ub d * Ub d := Nat.le_mul_of_pos_left _ (ub_pos d)
    have h4 : manyOf s a.i * a.us.length ≤ 2 * a.us.length := Nat.mul_le_mul_right _ hm
    omega
/-! tied -/
def shapeTm (s : Nat) (y : Str) (c : Int) : Tm := .mk y (if s = 0 then .sm "+" (.name y) (.num c) else if s = 1 then .num c else if s = 2 then .sm "+" (.name y) (.name y) else .ch (.name y) (.num c) (.name y))
def lookP (n : Int) : PyData := tp [.str "look", .int n]
def shapeP (s : Nat) (n : Int) : PyData := tp [.str "takes", if s = 0 then tp [.str "sum", lookP n, tp [.str "number"]] else if s = 1 then tp [.str "number"] else if s = 2 then tp [.str "sum", lookP n, lookP n] else if n = 0 then tp [.str "choice", lookP n, tp [.str "number"]] else tp [.str "choice", lookP n, lookP n]]
def shapeC (s : Nat) (n : Int) : Tal := if s = 0 then talOf [.op, .look, .take, .next, .sum] else if s = 1 then talOf [.take] else if s = 2 then talOf [.op, .look, .look, .take, .next, .sum] else if n = 0 then talOf [.op, .look, .take, .choose] else talOf [.op, .look, .look, .take, .choose]
theorem talOf_perm {a b : List Srt} (h : a.Perm b) : talOf a = talOf b := funext fun z => h.count_eq z
theorem tal_list2 (a b : List Srt) (z : Srt) : talOf (a ++ b) z = talOf a z + talOf b z := List.count_append
theorem shape_j (s : Nat) (y : Str) (c n : Int) : J 3 (shapeTm s y c) (shapeP s n) ⟨(shapeKd s c n).d, [], shapeC s n⟩ := by
  have lk : J 1 (.name y) (lookP n) ⟨.int n, [(y, .int n)], talOf [.look]⟩ := ⟨.int n, rfl, rfl⟩
  have nm : J 1 (.num c) (tp [.str "number"]) ⟨.int c, [], talOf []⟩ := ⟨rfl, rfl⟩
  unfold shapeTm shapeP shapeC shapeKd
  by_cases h0 : s = 0
  · simp only [h0, if_true]
    refine ⟨_, _, rfl, ⟨_, _, _, _, n, c, rfl, lk, nm, rfl, rfl, rfl⟩, ?_⟩
    have e1 : kindsUsed ([(y, PyData.int n)] ++ usAll [⟨.int c, [], talOf []⟩]) y = [.int n] := by simp [kindsUsed, usAll]
    have e2 : usesBut ([(y, PyData.int n)] ++ usAll [⟨.int c, [], talOf []⟩]) y = [] := by simp [usesBut, usAll]
    show Row.mk _ _ _ = Row.mk _ _ _
    rw [e1, e2]
    refine congr (congrArg _ rfl) (funext fun z => ?_)
    cases z <;> rfl
  by_cases h1 : s = 1
  · simp only [h1, if_true]
    refine ⟨_, _, rfl, j_succ 1 _ _ _ nm, ?_⟩
    show Row.mk _ _ _ = Row.mk _ _ _
    refine congr (congrArg _ rfl) (funext fun z => ?_)
    cases z <;> rfl
  by_cases h2 : s = 2
  · simp only [h2, if_true]
    refine ⟨_, _, rfl, ⟨_, _, _, _, n, n, rfl, lk, lk, rfl, rfl, rfl⟩, ?_⟩
    have e1 : kindsUsed ([(y, PyData.int n)] ++ usAll [⟨.int n, [(y, .int n)], talOf [.look]⟩]) y = [.int n, .int n] := by simp [kindsUsed, usAll]
    have e2 : usesBut ([(y, PyData.int n)] ++ usAll [⟨.int n, [(y, .int n)], talOf [.look]⟩]) y = [] := by simp [usesBut, usAll]
    show Row.mk _ _ _ = Row.mk _ _ _
    rw [e1, e2]
    refine congr (congrArg _ rfl) (funext fun z => ?_)
    cases z <;> rfl
  simp only [h0, h1, h2, if_false]
  by_cases h3 : n = 0
  · simp only [h3, if_true]
    have lk0 : J 1 (.name y) (lookP 0) ⟨.int 0, [(y, .int 0)], talOf [.look]⟩ := ⟨.int 0, rfl, rfl⟩
    refine ⟨_, _, rfl, ⟨_, _, _, _, 0, rfl, lk0, rfl, nm, rfl⟩, ?_⟩
    have e1 : kindsUsed ([(y, PyData.int 0)] ++ usAll [⟨.int c, [], talOf []⟩]) y = [.int 0] := by simp [kindsUsed, usAll]
    have e2 : usesBut ([(y, PyData.int 0)] ++ usAll [⟨.int c, [], talOf []⟩]) y = [] := by simp [usesBut, usAll]
    show Row.mk _ _ _ = Row.mk _ _ _
    rw [e1, e2]
    refine congr (congrArg _ rfl) (funext fun z => ?_)
    cases z <;> rfl
  · simp only [h3, if_false]
    refine ⟨_, _, rfl, ⟨_, _, _, _, n, rfl, lk, rfl, by rw [if_neg h3]; exact lk, rfl⟩, ?_⟩
    have e1 : kindsUsed ([(y, PyData.int n)] ++ usAll [⟨.int n, [(y, .int n)], talOf [.look]⟩]) y = [.int n, .int n] := by simp [kindsUsed, usAll]
    have e2 : usesBut ([(y, PyData.int n)] ++ usAll [⟨.int n, [(y, .int n)], talOf [.look]⟩]) y = [] := by simp [usesBut, usAll]
    show Row.mk _ _ _ = Row.mk _ _ _
    rw [e1, e2]
    refine congr (congrArg _ rfl) (funext fun z => ?_)
    cases z <;> rfl
theorem sg_plus : okSign ("+" : Str) := .inl rfl
theorem sg_minus : okSign ("-" : Str) := .inr (.inl rfl)
theorem shape_ok {s : Nat} {y : Str} {c : Int} (hy : okName y) : (shapeTm s y c).ok ∧ (shapeTm s y c).dep ≤ 3 ∧ ∀ S, Sc (shapeTm s y c) S := by
  unfold shapeTm
  have m1 : ∀ S : List Str, ∃ S' : List Str, S'.length ≤ 15 ∧ (∀ z ∈ S', z = y ∨ z ∈ S) ∧ y ∈ S' := fun S => ⟨[y], by show 1 ≤ 15; decide, fun z hz => .inl (List.mem_singleton.mp hz), List.mem_singleton.mpr rfl⟩
  by_cases h0 : s = 0
  · simp only [h0, if_true]
    exact ⟨⟨hy, sg_plus, hy, trivial⟩, (by show max 1 1 + 1 + 1 ≤ 3; decide), fun S => by obtain ⟨S', a, b, e⟩ := m1 S; exact ⟨S', a, b, e, trivial⟩⟩
  by_cases h1 : s = 1
  · simp only [h1, if_true]
    exact ⟨⟨hy, trivial⟩, (by show 1 + 1 ≤ 3; decide), fun S => by obtain ⟨S', a, b, e⟩ := m1 S; exact ⟨S', a, b, trivial⟩⟩
  by_cases h2 : s = 2
  · simp only [h2, if_true]
    exact ⟨⟨hy, sg_plus, hy, hy⟩, (by show max 1 1 + 1 + 1 ≤ 3; decide), fun S => by obtain ⟨S', a, b, e⟩ := m1 S; exact ⟨S', a, b, e, e⟩⟩
  simp only [h0, h1, h2, if_false]
  exact ⟨⟨hy, hy, trivial, hy⟩, (by show max 1 (max 1 1) + 1 + 1 ≤ 3; decide), fun S => by obtain ⟨S', a, b, e⟩ := m1 S; exact ⟨S', a, b, e, trivial, e⟩⟩
def Scp.tie (G : Scp) (x : Str) (wo : Wo) : Scp := (G.filter fun u => !decide (u.1 = x)) ++ [(x, wo)]
def kindsOf (us : List KUse) (x : Str) : List Kd := (us.filter fun u => decide (u.1 = x)).map (·.2)
def butOf (us : List KUse) (x : Str) : List KUse := us.filter fun u => !decide (u.1 = x)
theorem kinds_use : ∀ (us : List KUse) (x : Str), kindsUsed (us.map toUse) x = (kindsOf us x).map Kd.d
  | [], _ => rfl
  | u :: us, x => by
    have ih := kinds_use us x
    unfold kindsUsed kindsOf at ih ⊢
    rw [List.map_cons, List.filter_cons, List.filter_cons]
    by_cases c : u.1 = x
    · rw [if_pos (by simp [toUse, c]), if_pos (by simp [c]), List.map_cons, List.map_cons, List.map_cons, ih]; rfl
    · rw [if_neg (by simp [toUse, c]), if_neg (by simp [c]), ih]
theorem but_use : ∀ (us : List KUse) (x : Str), usesBut (us.map toUse) x = (butOf us x).map toUse
  | [], _ => rfl
  | u :: us, x => by
    have ih := but_use us x
    unfold usesBut butOf at ih ⊢
    rw [List.map_cons, List.filter_cons, List.filter_cons]
    by_cases c : u.1 = x
    · rw [if_neg (by simp [toUse, c]), if_neg (by simp [c]), ih]
    · rw [if_pos (by simp [toUse, c]), if_pos (by simp [c]), List.map_cons, ih]
theorem tie_in {G : Scp} {x y : Str} {wo wo' : Wo} (h : (y, wo') ∈ G.tie x wo) : (y = x ∧ wo' = wo) ∨ (y ≠ x ∧ (y, wo') ∈ G) := by
  rcases List.mem_append.mp h with h | h
  · obtain ⟨h1, h2⟩ := List.mem_filter.mp h
    exact .inr ⟨by simpa using h2, h1⟩
  · have := List.mem_singleton.mp h
    cases this
    exact .inl ⟨rfl, rfl⟩
/-- the kinds of the tied name, and the uses of the others -/
theorem tied_uses {G : Scp} {x : Str} {wo : Wo} {us : List KUse} (h : ∀ u ∈ us, ∃ wo', (u.1, wo') ∈ G.tie x wo ∧ kdOk wo' u.2) : (∀ k ∈ kindsOf us x, kdOk wo k) ∧ ∀ u ∈ butOf us x, ∃ wo', (u.1, wo') ∈ G ∧ kdOk wo' u.2 := by
  constructor
  · intro k hk
    obtain ⟨u, hu, rfl⟩ := List.mem_map.mp hk
    obtain ⟨h1, h2⟩ := List.mem_filter.mp hu
    obtain ⟨wo', a, b⟩ := h u h1
    rcases tie_in a with ⟨_, e⟩ | ⟨e, _⟩
    · rw [e] at b; exact b
    · exact absurd (of_decide_eq_true h2) e
  · intro u hu
    obtain ⟨h1, h2⟩ := List.mem_filter.mp hu
    obtain ⟨wo', a, b⟩ := h u h1
    rcases tie_in a with ⟨e, _⟩ | ⟨_, m⟩
    · exact absurd e (by simpa using h2)
    · exact ⟨wo', m, b⟩
theorem kinds_len (us : List KUse) (x : Str) : (kindsOf us x).length ≤ us.length := by
  unfold kindsOf
  rw [List.length_map]
  exact List.length_filter_le _ _
theorem but_len (us : List KUse) (x : Str) : (butOf us x).length ≤ us.length := List.length_filter_le _ _
theorem tie_sc {G : Scp} {x : Str} {wo : Wo} {t : Tm} (hl : G.length ≤ 14) (h : Sc t ((G.tie x wo).map (·.1))) : Sc (.mk x t) (G.map (·.1)) := by
  refine ⟨_, ?_, fun y hy => ?_, h⟩
  · rw [List.length_map]
    unfold Scp.tie
    rw [List.length_append]
    have := List.length_filter_le (fun u : Str × Wo => !decide (u.1 = x)) G
    show _ + 1 ≤ 15
    omega
  · obtain ⟨u, hu, rfl⟩ := List.mem_map.mp hy
    rcases tie_in (x := x) (y := u.1) (wo' := u.2) hu with ⟨e, _⟩ | ⟨_, m⟩
    · exact .inl e
    · exact .inr (List.mem_map.mpr ⟨_, m, rfl⟩)
theorem ub_big : ∀ {d : Nat}, d ≤ 3 → Ub d ≤ 183
  | 0, _ => by decide
  | 1, _ => by decide
  | 2, _ => by decide
  | 3, _ => by decide
/-- a maker of the body, given something with these papers -/
theorem tied_gen {G : Scp} {d : Nat} {x : Str} {wo : Wo} {b : Mde} {g : Tm} {ps : List PyData} {rs : List KUse} {rows : List Row} (hx : okName x) (hG : G.length ≤ 14) (hd3 : d ≤ 3) (hb : MadeOk (G.tie x wo) d b)
    (hj : JE (J (11 + 2 * d) g) ps rows) (hk : rows.map (fun z : Row => z.k) = (kindsOf b.us x).map Kd.d) (hu : usAll rows = rs.map toUse) (hru : ∀ u ∈ rs, ∃ wo, (u.1, wo) ∈ G ∧ kdOk wo u.2) (hrl : rs.length ≤ Ub d * Ub d) (gok : g.ok) (gd : g.dep ≤ 9 + 2 * d) (gs : Sc g (G.map (·.1))) :
    MadeOk G (d + 1) ⟨.gv (.mk x b.t) g, tp [.str "gives", tp [.str "takes", b.p], tp ps], b.i, butOf b.us x ++ rs, talSum ([b.tl] ++ tlAll rows ++ [talOf [.op, .take]])⟩ := by
  obtain ⟨hk1, hu1⟩ := tied_uses hb.us
  have hlen := hb.len
  have hkl := kinds_len b.us x
  have hbl := but_len b.us x
  have hub := ub_big hd3
  have hrows : rows.length = (kindsOf b.us x).length := by
    have := congrArg List.length hk
    simpa using this
  refine ⟨?_, ⟨⟨hx, hb.ok⟩, gok⟩, ?_, ⟨tie_sc hG hb.sc, gs⟩, fun u hu => ?_, ?_⟩
  · refine j_mono (n := 11 + 2 * d + 1) (by omega) ⟨tp [.str "takes", b.p], ⟨tp [.str "takes", tp (kindsUsed b.row.us x), b.row.k], usesBut b.row.us x, talSum [b.row.tl, talOf [.take]]⟩, ps, rows, .int b.i, rfl, j_mono (n := 10 + 2 * d + 1) (by omega) ⟨b.p, b.row, rfl, hb.j, rfl⟩, hj, ?_, ?_, ?_, ?_⟩
    · show tp [.str "takes", tp (kindsUsed (b.us.map toUse) x), .int b.i] = _
      rw [kinds_use, hk]
    · intro q hq
      have hm : q.k ∈ rows.map (fun z : Row => z.k) := List.mem_map.mpr ⟨q, hq, rfl⟩
      rw [hk] at hm
      obtain ⟨k, _, e⟩ := List.mem_map.mp hm
      exact ⟨k, e.symm⟩
    · omega
    · show Row.mk _ ((butOf b.us x ++ rs).map toUse) _ = Row.mk _ (usesBut (b.us.map toUse) x ++ usAll rows) _
      rw [List.map_append, but_use, hu]
      refine congr (congrArg _ rfl) (funext fun z => ?_)
      show talSum ([b.tl] ++ tlAll rows ++ [talOf [.op, .take]]) z = talSum ([talSum ([b.tl] ++ [talOf [.take]])] ++ tlAll rows ++ [talOf [.op]]) z
      rw [tal_app, tal_app, tal_app, tal_app, tal_one, tal_one, tal_one, tal_one, tal_app, tal_one, tal_one, two_talOf]
      omega
  · show max (b.t.dep + 1) g.dep + 1 ≤ _
    have := hb.dep
    omega
  · rcases List.mem_append.mp hu with h | h
    · exact hu1 u h
    · exact hru u h
  · show (butOf b.us x ++ rs).length ≤ 1 + Ub d + Ub d * Ub d
    rw [List.length_append]
    omega
theorem tied_shape {G : Scp} {d : Nat} {x y : Str} {s : Nat} {c : Int} {b : Mde} (hx : okName x) (hy : okName y) (hG : G.length ≤ 14) (hd3 : d ≤ 3) (hb : MadeOk (G.tie x (.sh s c)) d b) (ns : List Int) (hns : kindsOf b.us x = ns.map (shapeKd s c)) :
    MadeOk G (d + 1) ⟨.gv (.mk x b.t) (shapeTm s y c), tp [.str "gives", tp [.str "takes", b.p], tp (ns.map (shapeP s))], b.i, butOf b.us x ++ [], talSum ([b.tl] ++ tlAll (ns.map fun n => ⟨(shapeKd s c n).d, [], shapeC s n⟩) ++ [talOf [.op, .take]])⟩ := by
  obtain ⟨h1, h2, h3⟩ := shape_ok (s := s) (c := c) hy
  refine tied_gen (rows := ns.map fun n => ⟨(shapeKd s c n).d, [], shapeC s n⟩) (rs := []) hx hG hd3 hb ?_ ?_ ?_ (fun u h => by cases h) (Nat.zero_le _) h1 (by omega) (h3 _)
  · clear hns
    induction ns with
    | nil => exact .nil
    | cons n r ih => exact .cons (j_mono (by omega) (shape_j s y c n)) ih
  · rw [hns, List.map_map, List.map_map]; rfl
  · clear hns
    induction ns with
    | nil => rfl
    | cons n r ih => exact ih
theorem tied_given {G : Scp} {d : Nat} {x : Str} {a b : Mde} (hx : okName x) (hG : G.length ≤ 14) (hd3 : d ≤ 3) (ha : MadeOk G d a) (hb : MadeOk (G.tie x (.int a.i)) d b) (m : Nat) (hm : m = (kindsOf b.us x).length) :
    MadeOk G (d + 1) ⟨.gv (.mk x b.t) a.t, tp [.str "gives", tp [.str "takes", b.p], tp (List.replicate m a.p)], b.i, butOf b.us x ++ (List.replicate m a.us).flatten, talSum ([b.tl] ++ tlAll (List.replicate m a.row) ++ [talOf [.op, .take]])⟩ := by
  obtain ⟨hk1, _⟩ := tied_uses hb.us
  have hd := ha.dep
  refine tied_gen (rows := List.replicate m a.row) hx hG hd3 hb (je_rep (j_mono (by omega) ha.j) m) ?_ ?_ (fun u hu => ha.us u (flat_mem hu)) ?_ ha.ok (by omega) ha.sc
  · have e : kindsOf b.us x = List.replicate m (.int a.i) := by
      rw [List.eq_replicate_iff]
      exact ⟨hm.symm, fun k hk => hk1 k hk⟩
    rw [e, List.map_replicate, List.map_replicate]; rfl
  · rw [usAll_rep, flat_map]; rfl
  · rw [flat_len]
    have h1 := ha.len
    have h2 := kinds_len b.us x
    have h3 := hb.len
    exact Nat.mul_le_mul (by omega) h1
end Ut
set_option Elab.async false
set_option linter.all false
set_option maxRecDepth 100000
set_option maxHeartbeats 4000000
namespace Ut
open PySem PySem.Spec PyProof.Rows L2
theorem tal_rep (f : Tal) (z : Srt) : ∀ m : Nat, talSum (List.replicate m f) z = m * f z
  | 0 => by simp [talSum]
  | m + 1 => by
    show talSum ([f] ++ List.replicate m f) z = _
    rw [tal_app, tal_one, tal_rep f z m, Nat.succ_mul]; omega
theorem ns_of {s : Nat} {c : Int} : ∀ {ks : List Kd}, (∀ k ∈ ks, kdOk (.sh s c) k) → ∃ ns : List Int, ks = ns.map (shapeKd s c)
  | [], _ => ⟨[], rfl⟩
  | k :: ks, h => by
    obtain ⟨n, rfl⟩ := h k List.mem_cons_self
    obtain ⟨ns, rfl⟩ := ns_of (ks := ks) fun k m => h k (List.mem_cons_of_mem _ m)
    exact ⟨n :: ns, rfl⟩
/-! ### the loop -/
abbrev numP : PyData := tp [.str "number"]
def lessT : Tm := .sm "-" (.name "n") (.num 1)
def lessP (k : Int) : PyData := tp [.str "sum", lookP k, numP]
def loopB (first more : Int) : Tm := .ch (.name "n") (.num first) (.sm "+" (.gv (.name "f") lessT) (.num more))
def looT (first more : Int) : Tm := .ag "f" (.mk "n" (loopB first more))
def loopN (first more : Int) : Nat → Int
  | 0 => first
  | k + 1 => loopN first more k + more
def loopKd (first more : Int) (k : Nat) : Kd := .tk (List.replicate (k + 1) (k : Nat)) (loopN first more k)
def lastP (first more : Int) (k : Nat) : PyData := tp [.str "sum", tp [.str "gives", tp [.str "look", (loopKd first more k).d], tp (List.replicate (k + 1) (lessP ((k + 1 : Nat))))], numP]
def loopP (first more : Int) : Nat → PyData
  | 0 => tp [.str "turn", tp [.str "takes", tp [.str "choice", lookP 0, numP]], tp []]
  | k + 1 => tp [.str "turn", tp [.str "takes", tp [.str "choice", lookP ((k + 1 : Nat)), lastP first more k]], tp [loopP first more k]]
def stepC (k : Nat) : Tal
  | .op => 3 + k
  | .look => 2 + k
  | .take => 1
  | .turn => 1
  | .next => 1 + k
  | .sum => 1 + k
  | .choose => 1
def loopC : Nat → Tal
  | 0 => talOf [.op, .look, .take, .turn, .choose]
  | k + 1 => talSum [loopC k, stepC (k + 1)]
def lessR (k : Nat) : Row := ⟨.int (k : Nat), [("n", .int ((k + 1 : Nat)))], talSum [talOf [.look], talOf [], talOf [.op, .next, .sum]]⟩
theorem less_j (k : Nat) : J 2 lessT (lessP ((k + 1 : Nat))) (lessR k) := by
  refine ⟨_, _, _, _, ((k + 1 : Nat) : Int), 1, rfl, ⟨.int ((k + 1 : Nat)), rfl, rfl⟩, ⟨rfl, rfl⟩, rfl, rfl, ?_⟩
  have e : sumOf "-" ((k + 1 : Nat) : Int) 1 = ((k : Nat) : Int) := by
    unfold sumOf
    rw [if_neg (by decide +kernel), if_pos rfl]
    omega
  rw [e]
  rfl
theorem fn_ne : ¬ (("f" : Str) = "n") := by decide +kernel
theorem nf_ne : ¬ (("n" : Str) = "f") := by decide +kernel
theorem ku_cons (x : Str) (k : PyData) (us : List Use) : kindsUsed ((x, k) :: us) x = k :: kindsUsed us x := by simp [kindsUsed]
theorem ku_skip {x y : Str} (h : ¬ y = x) (k : PyData) (us : List Use) : kindsUsed ((y, k) :: us) x = kindsUsed us x := by simp [kindsUsed, h]
theorem ub_cons (x : Str) (k : PyData) (us : List Use) : usesBut ((x, k) :: us) x = usesBut us x := by simp [usesBut]
theorem ub_skip {x y : Str} (h : ¬ y = x) (k : PyData) (us : List Use) : usesBut ((y, k) :: us) x = (y, k) :: usesBut us x := by simp [usesBut, h]
theorem ku_rep (x : Str) (k : PyData) : ∀ m : Nat, kindsUsed (List.replicate m [(x, k)]).flatten x = List.replicate m k
  | 0 => rfl
  | m + 1 => by
    rw [List.replicate_succ, List.flatten_cons]
    show kindsUsed ((x, k) :: (List.replicate m [(x, k)]).flatten) x = _
    rw [ku_cons, ku_rep x k m, List.replicate_succ]
theorem ub_rep (x : Str) (k : PyData) : ∀ m : Nat, usesBut (List.replicate m [(x, k)]).flatten x = []
  | 0 => rfl
  | m + 1 => by
    rw [List.replicate_succ, List.flatten_cons]
    show usesBut ((x, k) :: (List.replicate m [(x, k)]).flatten) x = _
    rw [ub_cons, ub_rep x k m]
theorem loop_j (first more : Int) : ∀ k : Nat, k ≤ 1000 → J (6 + k) (looT first more) (loopP first more k) ⟨(loopKd first more k).d, [], loopC k⟩
  | 0, _ => by
    refine j_mono (n := 4) (by omega) ⟨_, _, [], [], rfl, ⟨_, _, rfl, ⟨_, _, _, _, 0, rfl, ⟨.int 0, rfl, rfl⟩, rfl, by rw [if_pos rfl]; exact ⟨rfl, rfl⟩, rfl⟩, rfl⟩, .nil, ?_, fun q h => (by cases h), Nat.zero_le _, ?_⟩
    · show kindsUsed (usesBut ([(("n" : Str), PyData.int 0)] ++ []) "n") "f" = []
      rw [List.append_nil, ub_cons]
      first | done | rfl
    · show Row.mk _ _ _ = Row.mk _ (usesBut (usesBut [(("n" : Str), PyData.int 0)] "n") "f" ++ []) _
      rw [ub_cons]
      have e : (loopKd first more 0).d = tp [.str "takes", tp (kindsUsed ([(("n" : Str), PyData.int 0)] ++ usAll [⟨.int first, [], talOf []⟩]) "n"), .int first] := by
        show _ = tp [.str "takes", tp (kindsUsed [(("n" : Str), PyData.int 0)] "n"), .int first]
        rw [ku_cons]; rfl
      rw [e]
      refine congr (congrArg _ rfl) (funext fun z => ?_)
      cases z <;> rfl
  | k + 1, hk => by
    have ih := loop_j first more k (by omega)
    have hne : ¬ (((k + 1 : Nat) : Int) = 0) := by omega
    have hless := je_rep (less_j k) (k + 1)
    have hg : J (3 + k) (.gv (.name "f") lessT) (tp [.str "gives", tp [.str "look", (loopKd first more k).d], tp (List.replicate (k + 1) (lessP ((k + 1 : Nat))))])
        ⟨.int (loopN first more k), [(("f" : Str), (loopKd first more k).d)] ++ usAll (List.replicate (k + 1) (lessR k)), talSum ([talOf [.look]] ++ tlAll (List.replicate (k + 1) (lessR k)) ++ [talOf [.op]])⟩ := by
      refine j_mono (n := 3) (by omega) ⟨_, _, _, List.replicate (k + 1) (lessR k), _, rfl, j_mono (n := 1) (m := 2) (by omega) ⟨loopKd first more k, rfl, rfl⟩, hless, ?_, fun q hq => ?_, ?_, rfl⟩
      · show tp [.str "takes", tp ((List.replicate (k + 1) ((k : Nat) : Int)).map PyData.int), .int (loopN first more k)] = _
        rw [List.map_replicate, List.map_replicate]
        rfl
      · rw [List.eq_of_mem_replicate hq]; exact ⟨.int (k : Nat), rfl⟩
      · rw [List.length_replicate]; omega
    have hs : J (4 + k) (.sm "+" (.gv (.name "f") lessT) (.num more)) (lastP first more k) ⟨.int (loopN first more (k + 1)), ([(("f" : Str), (loopKd first more k).d)] ++ usAll (List.replicate (k + 1) (lessR k))) ++ usAll [⟨.int more, [], talOf []⟩],
        talSum [talSum ([talOf [.look]] ++ tlAll (List.replicate (k + 1) (lessR k)) ++ [talOf [.op]]), talOf [], talOf [.op, .next, .sum]]⟩ :=
      j_mono (n := 3 + k + 1) (by omega) ⟨_, _, _, _, loopN first more k, more, rfl, hg, j_mono (n := 1) (by omega) ⟨rfl, rfl⟩, rfl, rfl, rfl⟩
    have hc : J (4 + k + 1) (loopB first more) (tp [.str "choice", lookP ((k + 1 : Nat)), lastP first more k]) _ := ⟨_, _, _, _, ((k + 1 : Nat) : Int), rfl, j_mono (n := 1) (m := 4 + k) (by omega) ⟨.int ((k + 1 : Nat)), rfl, rfl⟩, rfl, by rw [if_neg hne]; exact hs, rfl⟩
    have hm : J (4 + k + 1 + 1) (.mk "n" (loopB first more)) (tp [.str "takes", tp [.str "choice", lookP ((k + 1 : Nat)), lastP first more k]]) _ := ⟨_, _, rfl, hc, rfl⟩
    refine j_mono (n := 4 + k + 1 + 1 + 1) (m := 6 + (k + 1)) (by omega) ⟨_, _, [loopP first more k], [⟨(loopKd first more k).d, [], loopC k⟩], rfl, hm, .cons (j_mono (n := 6 + k) (m := 4 + k + 1 + 1) (by omega) ih) .nil, ?_, fun q h => by rw [List.mem_singleton.mp h]; exact ⟨loopKd first more k, rfl⟩, by show 1 ≤ 100000; decide, ?_⟩
    all_goals
      have eu : [(("n" : Str), PyData.int ((k + 1 : Nat)))] ++ usAll [⟨.int (loopN first more (k + 1)), ([(("f" : Str), (loopKd first more k).d)] ++ usAll (List.replicate (k + 1) (lessR k))) ++ usAll [⟨.int more, [], talOf []⟩],
        talSum [talSum ([talOf [.look]] ++ tlAll (List.replicate (k + 1) (lessR k)) ++ [talOf [.op]]), talOf [], talOf [.op, .next, .sum]]⟩] = (("n" : Str), PyData.int ((k + 1 : Nat))) :: (("f" : Str), (loopKd first more k).d) :: (List.replicate (k + 1) [(("n" : Str), PyData.int ((k + 1 : Nat)))]).flatten := by
        rw [usAll_rep]
        simp [usAll, lessR]
    · show kindsUsed (usesBut ([(("n" : Str), PyData.int ((k + 1 : Nat)))] ++ usAll [_]) "n") "f" = _
      rw [eu, ub_cons, ub_skip fn_ne, ub_rep, ku_cons]
      first | done | rfl
    · show Row.mk _ _ _ = Row.mk (tp [.str "takes", tp (kindsUsed ([(("n" : Str), PyData.int ((k + 1 : Nat)))] ++ usAll [_]) "n"), .int (loopN first more (k + 1))]) (usesBut (usesBut ([(("n" : Str), PyData.int ((k + 1 : Nat)))] ++ usAll [_]) "n") "f" ++ usAll [⟨(loopKd first more k).d, [], loopC k⟩]) _
      rw [eu, ub_cons, ub_skip fn_ne, ub_rep, ub_cons, ku_cons, ku_skip fn_ne, ku_rep]
      have e : (loopKd first more (k + 1)).d = tp [.str "takes", tp (PyData.int ((k + 1 : Nat)) :: List.replicate (k + 1) (.int ((k + 1 : Nat)))), .int (loopN first more (k + 1))] := by
        show tp [.str "takes", tp ((List.replicate (k + 1 + 1) ((k + 1 : Nat) : Int)).map PyData.int), _] = _
        rw [List.map_replicate, List.replicate_succ]
      rw [e]
      refine congr (congrArg _ rfl) (funext fun z => ?_)
      show talSum ([loopC k] ++ [stepC (k + 1)]) z = talSum ([talSum ([talSum ([talOf [.look]] ++ [talSum ([talSum ([talOf [.look]] ++ tlAll (List.replicate (k + 1) (lessR k)) ++ [talOf [.op]])] ++ [talOf []] ++ [talOf [.op, .next, .sum]])] ++ [talOf [.op, .choose]])] ++ [talOf [.take]])] ++ [loopC k] ++ [talOf [.turn]]) z
      rw [tlAll_rep]
      simp only [tal_app, tal_one, tal_rep]
      cases z <;> simp only [stepC, lessR, talOf, talSum, List.map_cons, List.map_nil, List.sum_cons, List.sum_nil, List.count_cons, List.count_nil] <;> simp <;> omega
theorem loop_ok (G : Scp) (first more : Int) (m : Nat) (hm : m ≤ 3) : MadeOk G 0 ⟨.gv (looT first more) (.num (m : Nat)), tp [.str "gives", loopP first more m, tp (List.replicate (m + 1) numP)], loopN first more m, [], talSum [loopC m, talOf [.op]]⟩ := by
  refine ⟨j_mono (n := 9 + 1) (by omega) ⟨_, ⟨(loopKd first more m).d, [], loopC m⟩, _, List.replicate (m + 1) ⟨.int (m : Nat), [], talOf []⟩, .int (loopN first more m), rfl, j_mono (by omega) (loop_j first more m (by omega)), je_rep (j_mono (n := 1) (m := 9) (by omega) (show J 1 (.num (m : Nat)) numP ⟨.int (m : Nat), [], talOf []⟩ from ⟨rfl, rfl⟩)) _, ?_, fun q hq => ?_, ?_, ?_⟩, ⟨⟨okN_f, okN_n, okN_n, trivial, sg_plus, ⟨okN_f, sg_minus, okN_n, trivial⟩, trivial⟩, trivial⟩, ?_, ⟨⟨["f"], by decide, fun y hy => .inl (List.mem_singleton.mp hy), ⟨["n", "f"], by decide, fun y hy => ?_, ?_⟩⟩, trivial⟩, fun u hu => (by cases hu), Nat.zero_le _⟩
  · show tp [.str "takes", tp ((List.replicate (m + 1) ((m : Nat) : Int)).map PyData.int), .int (loopN first more m)] = _
    rw [List.map_replicate, List.map_replicate]
  · rw [List.eq_of_mem_replicate hq]; exact ⟨.int (m : Nat), rfl⟩
  · rw [List.length_replicate]; omega
  · show Row.mk _ _ _ = Row.mk _ ([] ++ usAll (List.replicate (m + 1) ⟨.int (m : Nat), [], talOf []⟩)) _
    have e : ∀ n : Nat, usAll (List.replicate n ⟨.int (m : Nat), [], talOf []⟩) = [] := fun n => by
      rw [usAll_rep]
      induction n with
      | zero => rfl
      | succ n ih => rw [List.replicate_succ, List.flatten_cons]; exact ih
    rw [e]
    refine congr (congrArg _ rfl) (funext fun z => ?_)
    show talSum ([loopC m] ++ [talOf [.op]]) z = talSum ([loopC m] ++ tlAll (List.replicate (m + 1) ⟨.int (m : Nat), [], talOf []⟩) ++ [talOf [.op]]) z
    rw [tlAll_rep]
    simp only [tal_app, tal_one, tal_rep, talOf_nil]
    omega
  · exact Nat.le_refl 8
  · rcases List.mem_cons.mp hy with e | h
    · exact .inl e
    · exact .inr h
  · refine ⟨?_, trivial, ⟨?_, ?_, trivial⟩, trivial⟩
    · show ("n" : Str) ∈ [("n" : Str), "f"]; exact List.mem_cons_self
    · show ("f" : Str) ∈ [("n" : Str), "f"]; exact List.mem_cons_of_mem _ List.mem_cons_self
    · show ("n" : Str) ∈ [("n" : Str), "f"]; exact List.mem_cons_self
theorem loop_tot : ∀ (m : Nat), m ≤ 3 → (talSum [loopC m, talOf [.op]]).tot ≤ 60
  | 0, _ => by decide
  | 1, _ => by decide
  | 2, _ => by decide
  | 3, _ => by decide
end Ut
set_option Elab.async false
set_option linter.all false
set_option maxRecDepth 100000
set_option maxHeartbeats 4000000
namespace Ut
open PySem PySem.Spec PyProof.Rows L2
/-! ### what is made, in the heap -/
def scD : Str × Wo → PyData
  | (x, .int i) => tp [.str x, .int i]
  | (x, .sh s c) => tp [.str x, tp [.int (s : Nat), .int c]]
def scOk (u : Str × Wo) : Prop := okName u.1 ∧ ∀ s c, u.2 = .sh s c → s < 4
def isInt : Str × Wo → Bool
  | (_, .int _) => true
  | _ => false
section
variable {P : Program} {w : World} {K : PySem.W.Frag} {mg : Str → Option Value} {base : Heap}
def ScopeAt (K : PySem.W.Frag) (H : Hp) (v : V) (G : Scp) : Prop := ∃ a zs, v = .ref a ∧ H a = some (.lst zs) ∧ DpAll K H zs (G.map scD) ∧ ∀ u ∈ G, scOk u
theorem scope_up {H H' : Hp} {v : V} {G : Scp} (s : Same H H') : ScopeAt K H v G → ScopeAt K H' v G := fun ⟨a, zs, e, h, d, o⟩ => ⟨a, zs, e, s _ _ h, dps_up s d, o⟩
def MadeAt (K : PySem.W.Frag) (H : Hp) (v : V) (m : Mde) : Prop := ∃ a tv pp uv cv, v = .ref a ∧ H a = some (.lst [tv, pp, .int m.i, uv, cv]) ∧ Dp K H tv m.t.told ∧ Dp K H pp m.p ∧ UsAt K H uv (m.us.map toUse) ∧ CntAt H cv m.tl
theorem made_up {H H' : Hp} {v : V} {m : Mde} (s : Same H H') : MadeAt K H v m → MadeAt K H' v m := fun ⟨a, tv, pp, uv, cv, e, h, h1, h2, h3, h4⟩ => ⟨a, tv, pp, uv, cv, e, s _ _ h, dp_up s h1, dp_up s h2, us_up s h3, cnt_up s h4⟩
/-- a list of data that a test picks: what `[.. for a, b in scope if ..]` makes -/
theorem filter_snoc {α : Type} (f : α → Bool) {l : List α} {i : Nat} {u : α} (h : l[i]? = some u) : (l.take (i + 1)).filter f = (l.take i).filter f ++ (if f u = true then [u] else []) := by
  rw [List.take_add_one, h, List.filter_append]
  by_cases c : f u = true
  · simp [c]
  · simp [c]
theorem out2 {H : Hp} {S C p : Addr} (g : GenAt H S C) (h : H p = none) : p ∉ [S, C] := by
  have := g.neS h
  simp [this.1, this.2]
theorem sz2 : 2 ≤ sizeLine := by decide
theorem sz1 : 1 ≤ sizeLine := by decide
theorem sz3 : 3 ≤ sizeLine := by decide
theorem sz4 : 4 ≤ sizeLine := by decide
theorem sz5 : 5 ≤ sizeLine := by decide
theorem sz7 : 7 ≤ sizeLine := by decide
theorem pg_tupK {X : Cx} {es : List Expr} {k n : Nat} {t : TGs} {pos : Pos} {K0 : PySem.W.Frag} (e : X.K = K0) (hc : X.calm = true) (h : PGs X es t) (hn : (assignEach es X.env).length = n := by rfl) (hst : (assignEach es X.env).findIdx? (·.1) = none := by rfl) : PG X (.Tuple es k pos) (gTup K0 n t) := by
  rw [← e]
  exact pg_tup hc h hn hst
theorem pe_isiK {X : Cx} {a b : Expr} {ta tb : TE} {p pos : Pos} {K0 : PySem.W.Frag} (e : X.K = K0) (ha : PE X a ta) (hb : PE X b tb) (hg : Gl X "isinstance") (hm : X.mg "isinstance" = none)
    (h1 : starEach [a, b] X.env = (false, eval a X.env) :: starEach [b] X.env := by rfl) (h2 : starEach [b] X.env = (false, eval b X.env) :: starEach [] X.env := by rfl) (hpl : (backTo pos (starEach [b] X.env)).any (·.1) = false := by rfl) : PE X (.Call (.Name "isinstance" p) [a, b] [] pos) (tIsI K0 ta tb) := by
  rw [← e]
  exact pe_isi ha hb hg hm h1 h2 hpl
theorem sc_law_leaf : FnScope ["_law_state_here", "_law_scope", "_law_known", "_law_way", "_law_number_here", "_law_name", "_law_worth"] ["_law_state_here", "_law_scope"] (defScope S_law_leaf) := ⟨rfl, rfl, rfl, by decide +kernel, rfl, by decide +kernel, by decide +kernel⟩
def spLeaf (K : PySem.W.Frag) : Sp := fun vs H Q _ => ∃ S C sv G, vs = [.ref S, sv] ∧ GenAt H S C ∧ ScopeAt K (hid [S, C] H) sv G ∧ G.length ≤ 14 ∧ ∀ v' m H', SameX [S, C] H H' → GenAt H' S C → MadeAt K (hid [S, C] H') v' m → MadeOk G 0 m → Q v' H'
theorem ok_leaf (T : Tx w K mg) (c_law_draw : Cal P w K mg base 1 "_law_draw" spDraw) (c_law_number : Cal P w K mg base 2 "_law_number" spNumber) : Cal P w K mg base 3 "_law_leaf" (spLeaf K) := by
  refine cal_mk T 40 40 rfl rfl sc_law_leaf (fun _ _ _ _ _ _ us hl => match us, hl with | [_, _], _ => rfl) (fun vs H Q E h => ?_) (fun cdv A outer s H vs Q E hr h => ?_)
  · obtain ⟨S, C, sv, G, rfl, _⟩ := h
    rfl
  obtain ⟨S, C, sv, G, rfl, hg, ⟨a, zs, rfl, ha, hz, hok⟩, hG, q⟩ := h
  refine ⟨_, (pss_cons (ps_setLc (i := 2) (own := [("_law_name", 5), ("_law_worth", 6)]) (by rfl) sc_law_leaf.nd rfl rfl (sw_true rfl rfl rfl (by decide +kernel)) (pi_list (pv 1)) (blkOk_by (own := [("_law_name", 5), ("_law_worth", 6)]) (N := ["_law_state_here", "_law_scope", "_law_known", "_law_way", "_law_number_here", "_law_name", "_law_worth"]) (sc := defScope S_law_leaf) (by decide +kernel)) (fun _ _ _ _ _ => (pg_tupK (K0 := K) (n := 2) rfl (by rfl) (pgs_cons (pg_name (i := 5) sc_law_leaf.nd rfl (by first | exact Or.inl rfl | exact Or.inr rfl)) (pgs_cons (pg_name (i := 6) sc_law_leaf.nd rfl (by first | exact Or.inl rfl | exact Or.inr rfl)) pgs_nil)))) (fun _ _ _ _ _ => pts_one (pt_val (pe_isiK (K0 := K) rfl (pv 6) (pe_bltn (v := .ty "int") (by rfl) (T.free 75 rfl) (by decide +kernel) rfl) (by rfl) (T.free 69 rfl)))) (fun _ _ _ _ _ => (pe_tup (pa_cons (pv 5) (pa_cons (pv 6) pa_nil)))))
      (pss_cons (ps_set (i := 3) sc_law_leaf.nd rfl (Or.inl rfl) (pe_c c_law_draw hr (by omega) (by rfl) (pa_cons (pv 0) (pa_cons pe_int pa_nil))))
      (pss_cons (ps_set (i := 4) sc_law_leaf.nd rfl (Or.inl rfl) (pe_c c_law_number hr (by omega) (by rfl) (pa_cons (pv 0) pa_nil)))
      (pss_cons (ps_if (PW.pt (pw_and (pt_cmpR op_gt (pv 3) pe_int (nomark _)) (pw_and1 (pt_cmpR op_gt (pe_callB call_len_seq (by rfl) (T.free 70 rfl) (by decide +kernel) (pa_cons (pv 2) pa_nil)) pe_int (nomark _))))) (pss_cons (ps_asg (pe_ix ix_list (pv 2) (pe_c c_law_draw hr (by omega) (by rfl) (pa_cons (pv 0) (pa_cons (pe_callB call_len_seq (by rfl) (T.free 70 rfl) (by decide +kernel) (pa_cons (pv 2) pa_nil)) pa_nil))) (fun _ _ => rfl)) (pg_tup (by rfl) (pgs_cons (pg_name (i := 5) sc_law_leaf.nd rfl (Or.inl rfl)) (pgs_cons (pg_name (i := 6) sc_law_leaf.nd rfl (Or.inl rfl)) pgs_nil))))
      (pss_one (ps_ret (pe_lst (pa_cons (pe_tup (pa_cons pe_str (pa_cons (pv 5) pa_nil))) (pa_cons (pe_tup (pa_cons pe_str (pa_cons (pv 6) pa_nil))) (pa_cons (pv 6) (pa_cons (pe_lst (pa_cons (pe_tup (pa_cons (pv 5) (pa_cons (pv 6) pa_nil))) pa_nil)) (pa_cons (pe_lst (pa_cons pe_int (pa_cons pe_int (pa_cons pe_int (pa_cons pe_int (pa_cons pe_int (pa_cons pe_int (pa_cons pe_int pa_nil)))))))) pa_nil))))))))) pss_nil)
      (pss_one (ps_ret (pe_lst (pa_cons (pe_tup (pa_cons pe_str (pa_cons (pv 4) pa_nil))) (pa_cons (pe_tup (pa_cons pe_str pa_nil)) (pa_cons (pv 4) (pa_cons (pe_lst pa_nil) (pa_cons (pe_lst (pa_cons pe_int (pa_cons pe_int (pa_cons pe_int (pa_cons pe_int (pa_cons pe_int (pa_cons pe_int (pa_cons pe_int pa_nil)))))))) pa_nil)))))))))))), ?_⟩
  have hB := hg.dom
  have zl : zs.length = G.length := by rw [dps_len hz, List.length_map]
  refine ⟨_, rfl, a, rfl, ⟨_, SqL.new (hid_at ha)⟩, fun D hD => ?_⟩
  refine lc_list (K := K) (a := a) (xs := zs) (fun i Hi => ∃ acc, Hi D = some (.lst acc) ∧ Same H (hid [D] Hi) ∧ DpAll K (hid (D :: [S, C]) Hi) acc (((G.take i).filter isInt).map scD))
    ⟨[], upd_same, same_hid_new hD, .nil⟩ (fun i Hi _ h => ?_) ?_ ?_
  · obtain ⟨acc, _, sH, _⟩ := h
    exact (sH.trans hid_sub).seq (SqL.new (hid_at ha))
  · rintro i z Hi hi ⟨acc, hDi, sH, hacc⟩
    obtain ⟨d, ed, hd⟩ := dps_at hz hi
    rw [List.getElem?_map] at ed
    obtain ⟨u, eu, rfl⟩ := Option.map_eq_some_iff.mp ed
    have sM := same_hid_more (B := [S, C]) (sH.trans hid_sub) hD
    have hlt : i < zs.length := (List.getElem?_eq_some_iff.mp hi).1
    obtain ⟨x, wo⟩ := u
    have hal := dps_len hacc
    have hfl : ((G.take i).filter isInt).length ≤ G.length := Nat.le_trans (List.length_filter_le _ _) (by rw [List.length_take]; omega)
    rw [List.length_map] at hal
    cases wo with
    | int j =>
      obtain ⟨b, ys, rfl, hb, hys⟩ := dp_tup_of hd
      obtain ⟨y0, y1, rfl, d0, d1⟩ := dps2_of hys
      obtain rfl := dp_str_of d0
      obtain rfl := dp_int_of d1
      refine ⟨b, _, rfl, same_seqT (hid_sub.trans (sH.trans hid_sub)) hb, rfl, _, _, rfl, _, _, rfl, rfl, rfl, ?_⟩
      refine ⟨_, rfl, true, isi_int k_int_int, _, rfl, iteT ?_⟩
      refine ⟨_, rfl, _, rfl, sz2, fun p hp => ?_⟩
      have n1 := same_new hp (.tup [.str x, .int j])
      have neD : D ≠ p := ne_of_none hDi hp
      refine ⟨acc, by rw [upd_ne neD]; exact hDi, (by show _ < 2 ^ 24; omega), acc ++ [.ref p], upd_same, (sH.trans (hid_up n1)).trans (samex_hid (samex_upd (by simp) _)), ?_⟩
      rw [filter_snoc isInt eu, if_pos (show isInt (x, Wo.int j) = true from rfl), List.map_append]
      have s5 : Same (hid (D :: [S, C]) (upd Hi p (.tup [.str x, .int j]))) (hid (D :: [S, C]) (upd (upd Hi p (.tup [.str x, .int j])) D (.lst (acc ++ [.ref p])))) := samex_hid (samex_upd (by simp) _)
      refine dps_app (dps_up ((hid_up n1).trans s5) hacc) (.cons (dp_up s5 (dp_newT (hid_new ?_ hp) (.cons (.str x) (.cons (.int j) .nil)))) .nil)
      exact (hB.up (sH.trans hid_sub)).cons (by rw [hDi]; exact Option.some_ne_none _)
    | sh s0 c0 =>
      obtain ⟨b, ys, rfl, hb, hys⟩ := dp_tup_of hd
      obtain ⟨y0, y1, rfl, d0, d1⟩ := dps2_of hys
      obtain rfl := dp_str_of d0
      obtain ⟨b2, ys2, rfl, hb2, hys2⟩ := dp_tup_of d1
      refine ⟨b, _, rfl, same_seqT (hid_sub.trans (sH.trans hid_sub)) hb, rfl, _, _, rfl, _, _, rfl, rfl, rfl, ?_⟩
      refine ⟨_, rfl, false, isi_tup (same_seqT (hid_sub.trans (sH.trans hid_sub)) hb2) k_tuple_int, _, rfl, iteF ?_⟩
      refine ⟨acc, hDi, sH, ?_⟩
      rw [filter_snoc isInt eu, if_neg (by show ¬ (false = true); decide), List.append_nil]
      exact hacc
  rintro H1 ⟨acc, hD1, sH, hacc⟩
  rw [zl, List.take_length] at hacc
  have s01 := sH.trans hid_sub
  have g1 := hg.up s01
  have hB1 := g1.dom
  have hDo : D ∉ [S, C] := out2 hg hD
  have hacc1 : DpAll K (hid [S, C] H1) acc ((G.filter isInt).map scD) := dps_up hid_less hacc
  have hD1h : hid [S, C] H1 D = some (.lst acc) := by rw [hid_out hDo]; exact hD1
  clear hacc
  refine ⟨_, rfl, S, C, 3, rfl, by decide, by decide, g1, fun r H2 hr2 x2 g2 => ?_⟩
  refine ⟨_, rfl, S, C, rfl, g2, fun z H3 x3 g3 => ?_⟩
  have x03 := ((same_x s01).trans x2).trans x3
  have x13 := x2.trans x3
  have hD3 := samex_hid x13 _ _ hD1h
  have hacc3 := dps_up (samex_hid x13) hacc1
  have hlen : acc.length = (G.filter isInt).length := by rw [dps_len hacc1, List.length_map]
  have hfl : (G.filter isInt).length ≤ G.length := List.length_filter_le _ _
  have fin0 : ∀ (Q2 : VK), (∀ v' m H', SameX [S, C] H H' → GenAt H' S C → MadeAt K (hid [S, C] H') v' m → MadeOk G 0 m → Q2 v' H') → ∀ p1, H3 p1 = none → ∀ p2, upd H3 p1 (.tup [.str "number", .int z]) p2 = none → ∀ l, upd (upd H3 p1 (.tup [.str "number", .int z])) p2 (.tup [.str "number"]) l = none →
      ∀ l2, upd (upd (upd H3 p1 (.tup [.str "number", .int z])) p2 (.tup [.str "number"])) l (.lst []) l2 = none → ∀ l3, upd (upd (upd (upd H3 p1 (.tup [.str "number", .int z])) p2 (.tup [.str "number"])) l (.lst [])) l2 (.lst (talL (talOf []))) l3 = none →
      Q2 (.ref l3) (upd (upd (upd (upd (upd H3 p1 (.tup [.str "number", .int z])) p2 (.tup [.str "number"])) l (.lst [])) l2 (.lst (talL (talOf [])))) l3 (.lst [.ref p1, .ref p2, .int z, .ref l, .ref l2])) := by
    intro Q2 q2 p1 hp1 p2 hp2 l hl l2 hl2 l3 hl3
    have n1 := same_new hp1 (.tup [.str "number", .int z])
    have n2 := same_new hp2 (.tup [.str "number"])
    have n3 := same_new hl (.lst [])
    have n4 := same_new hl2 (.lst (talL (talOf [])))
    have n5 := same_new hl3 (.lst [.ref p1, .ref p2, .int z, .ref l, .ref l2])
    have s := n1.trans (n2.trans (n3.trans (n4.trans n5)))
    have hB3 := g3.dom
    refine q2 _ ⟨.num z, tp [.str "number"], z, [], talOf []⟩ _ (x03.trans (same_x s)) (g3.up s) ⟨l3, .ref p1, .ref p2, .ref l, .ref l2, rfl, hid_new (hB3.up (n1.trans (n2.trans (n3.trans n4)))) hl3, ?_, ?_, ⟨l, [], rfl, hid_up (n4.trans n5) _ _ (hid_new (hB3.up (n1.trans n2)) hl), .nil⟩, ⟨l2, rfl, hid_up n5 _ _ (hid_new (hB3.up (n1.trans (n2.trans n3))) hl2)⟩⟩ (leaf_num G z)
    · exact dp_up (hid_up (n2.trans (n3.trans (n4.trans n5)))) (dp_newT (hid_new hB3 hp1) (.cons (.str _) (.cons (.int _) .nil)))
    · exact dp_up (hid_up (n3.trans (n4.trans n5))) (dp_newT (hid_new (hB3.up n1) hp2) (.cons (.str _) .nil))
  refine ⟨_, rfl, _, _, rfl, rfl, _, rfl, ?_⟩
  refine ite2 (fun c => ?_) (fun c => ?_)
  · refine ⟨_, rfl, D, _, rfl, .inl (SqL.new (hid_at hD3)), _, _, rfl, rfl, _, rfl, ?_⟩
    refine ite2 (fun c2 => ?_) (fun c2 => ?_)
    · have hpos : 0 < acc.length := by have := of_decide_eq_true c2; omega
      refine ⟨_, rfl, _, rfl, _, rfl, D, _, rfl, .inl (SqL.new (hid_at hD3)), S, C, acc.length, rfl, hpos, Nat.le_trans (by omega : acc.length ≤ 14) (by decide), g3, fun r4 H4 hr4 x4 g4 => ?_⟩
      have hD4 := samex_hid x4 _ _ hD3
      have hacc4 := dps_up (samex_hid x4) hacc3
      have hr5 : r4 < ((G.filter isInt).map scD).length := by rw [List.length_map]; omega
      obtain ⟨y, ey, dy⟩ := dps_at' hacc4 (List.getElem?_eq_getElem hr5)
      rw [List.getElem_map] at dy
      have hmem : (G.filter isInt)[r4]'(by rw [List.length_map] at hr5; exact hr5) ∈ G.filter isInt := List.getElem_mem _
      generalize (G.filter isInt)[r4]'(by rw [List.length_map] at hr5; exact hr5) = u at dy hmem
      obtain ⟨hm1, hm2⟩ := List.mem_filter.mp hmem
      obtain ⟨x, wo⟩ := u
      cases wo with
      | sh s0 c0 => cases hm2
      | int j =>
        obtain ⟨b, ys, rfl, hb, hys⟩ := dp_tup_of dy
        obtain ⟨y0, y1, rfl, d0, d1⟩ := dps2_of hys
        obtain rfl := dp_str_of d0
        obtain rfl := dp_int_of d1
        refine ⟨D, _, _, _, rfl, rfl, SqL.new (hid_at hD4), atI_nat ey, ?_⟩
        refine ⟨b, _, rfl, same_seqT hid_sub hb, rfl, _, _, rfl, _, _, rfl, rfl, ?_⟩
        refine ⟨_, rfl, sz2, fun p1 hp1 => ⟨_, rfl, sz2, fun p2 hp2 => ⟨_, rfl, _, rfl, _, rfl, sz2, fun p3 hp3 => ⟨sz1, fun l hl => ⟨sz7, fun l2 hl2 => ⟨sz5, fun l3 hl3 => ?_⟩⟩⟩⟩⟩⟩
        have n1 := same_new hp1 (.tup [.str "name", .str x])
        have n2 := same_new hp2 (.tup [.str "look", .int j])
        have n3 := same_new hp3 (.tup [.str x, .int j])
        have n4 := same_new hl (.lst [.ref p3])
        have n5 := same_new hl2 (.lst (talL (talOf [.look])))
        have n6 := same_new hl3 (.lst [.ref p1, .ref p2, .int j, .ref l, .ref l2])
        have s := n1.trans (n2.trans (n3.trans (n4.trans (n5.trans n6))))
        have hB4 := g4.dom
        refine q _ ⟨.name x, tp [.str "look", .int j], j, [(x, .int j)], talOf [.look]⟩ _ ((x03.trans x4).trans (same_x s)) (g4.up s) ⟨l3, .ref p1, .ref p2, .ref l, .ref l2, rfl, hid_new (hB4.up (n1.trans (n2.trans (n3.trans (n4.trans n5))))) hl3, ?_, ?_, ⟨l, [.ref p3], rfl, hid_up (n5.trans n6) _ _ (hid_new (hB4.up (n1.trans (n2.trans n3))) hl), .cons ?_ .nil⟩, ⟨l2, rfl, hid_up n6 _ _ (hid_new (hB4.up (n1.trans (n2.trans (n3.trans n4)))) hl2)⟩⟩ (leaf_name (hok _ hm1).1 hm1)
        · exact dp_up (hid_up (n2.trans (n3.trans (n4.trans (n5.trans n6))))) (dp_newT (hid_new hB4 hp1) (.cons (.str _) (.cons (.str _) .nil)))
        · exact dp_up (hid_up (n3.trans (n4.trans (n5.trans n6)))) (dp_newT (hid_new (hB4.up n1) hp2) (.cons (.str _) (.cons (.int _) .nil)))
        · exact dp_up (hid_up (n4.trans (n5.trans n6))) (dp_newT (hid_new (hB4.up (n1.trans n2)) hp3) (.cons (.str _) (.cons (.int _) .nil)))
    · exact ⟨_, rfl, sz2, fun p1 hp1 => ⟨sz1, fun p2 hp2 => ⟨_, rfl, Nat.zero_le _, fun l hl => ⟨sz7, fun l2 hl2 => ⟨sz5, fun l3 hl3 => fin0 Q q p1 hp1 p2 hp2 l hl l2 hl2 l3 hl3⟩⟩⟩⟩⟩
  · exact ⟨_, rfl, sz2, fun p1 hp1 => ⟨sz1, fun p2 hp2 => ⟨_, rfl, Nat.zero_le _, fun l hl => ⟨sz7, fun l2 hl2 => ⟨sz5, fun l3 hl3 => fin0 Q q p1 hp1 p2 hp2 l hl l2 hl2 l3 hl3⟩⟩⟩⟩⟩
end
end Ut
set_option Elab.async false
set_option linter.all false
set_option maxRecDepth 100000
set_option maxHeartbeats 4000000
namespace Ut
open PySem PySem.Spec PyProof.Rows L2
section
variable {P : Program} {w : World} {K : PySem.W.Frag} {mg : Str → Option Value} {base : Heap}
def spMade (K : PySem.W.Frag) (n : Nat) : Sp := fun vs H Q _ => ∃ S C sv G, ∃ d : Nat, d < n ∧ vs = [.ref S, sv, .int (d : Nat)] ∧ GenAt H S C ∧ ScopeAt K (hid [S, C] H) sv G ∧ G.length + d ≤ 4 ∧ ∀ v' m H', SameX [S, C] H H' → GenAt H' S C → MadeAt K (hid [S, C] H') v' m → MadeOk G d m → Q v' H'
def spMore (K : PySem.W.Frag) (n : Nat) : Sp := fun vs H Q _ => ∃ S C sv G, ∃ d : Nat, d < n ∧ vs = [.ref S, sv, .int (d : Nat)] ∧ GenAt H S C ∧ ScopeAt K (hid [S, C] H) sv G ∧ G.length + (d + 1) ≤ 4 ∧ ∀ v' m H', SameX [S, C] H H' → GenAt H' S C → MadeAt K (hid [S, C] H') v' m → MadeOk G (d + 1) m → Q v' H'
theorem ub_s {d : Nat} (h : d ≤ 3) {m : Mde} {G : Scp} (o : MadeOk G d m) : m.us.length ≤ 183 := Nat.le_trans o.len (ub_big h)
/-- two lists of uses, one behind the other -/
theorem us_cat {H : Hp} {B : List Addr} {v u : V} {us ws : List Use} {Q : VK} (hB : Dom B H) (h1 : UsAt K (hid B H) v us) (h2 : UsAt K (hid B H) u ws) (hl : us.length + ws.length ≤ 10000000) (k : ∀ p H', Same H H' → UsAt K (hid B H') (.ref p) (us ++ ws) → Q (.ref p) H') : rCat v u H Q := by
  obtain ⟨a, xs, rfl, ha, hx⟩ := h1
  obtain ⟨b, ys, rfl, hb, hy⟩ := h2
  have l1 := dps_len hx
  have l2 := dps_len hy
  rw [List.length_map] at l1 l2
  refine ⟨a, b, xs, ys, rfl, rfl, hid_at ha, hid_at hb, (by show _ ≤ 2 ^ 24; omega), fun p hp => ?_⟩
  refine k p _ (same_new hp _) ⟨p, _, rfl, hid_new hB hp, ?_⟩
  rw [List.map_append]
  exact dps_app (dps_up (hid_up (same_new hp _)) hx) (dps_up (hid_up (same_new hp _)) hy)
theorem sumOf_plus (a b : Int) : sumOf "+" a b = a + b := if_pos rfl
theorem sumOf_minus (a b : Int) : sumOf "-" a b = a - b := by
  unfold sumOf
  rw [if_neg (by decide +kernel), if_pos rfl]
theorem sumOf_lt (a b : Int) : sumOf "<" a b = if decide (a < b) = true then 1 else 0 := by
  have e : sumOf "<" a b = if a < b then 1 else 0 := by
    unfold sumOf
    rw [if_neg (show ¬ (("<" : Str) = "+") by decide +kernel), if_neg (show ¬ (("<" : Str) = "-") by decide +kernel)]
  rw [e]
  by_cases z : a < b
  · rw [if_pos z, if_pos (decide_eq_true z)]
  · rw [if_neg z, if_neg (by simp [z])]
theorem sc_law_two : FnScope ["_law_state_here", "_law_scope", "_law_deep", "_law_way", "_law_one", "_law_other", "_law_sign", "_law_number_here", "_law_counts", "_law_parts", "_law_told"] ["_law_state_here", "_law_scope", "_law_deep"] (defScope S_law_two) := ⟨rfl, rfl, rfl, by decide +kernel, rfl, by decide +kernel, by decide +kernel⟩
theorem ok_two (T : Tx w K mg) (n : Nat) (c_law_draw : Cal P w K mg base 1 "_law_draw" spDraw) (c_law_all : Cal P w K mg base 1 "_law_all" (spAll K)) (c_law_made : Cal P w K mg base (2 * n + 4) "_law_made" (spMade K n)) : Cal P w K mg base (2 * n + 5) "_law_two" (spMore K n) := by
  refine cal_mk T 41 41 rfl rfl sc_law_two (fun _ _ _ _ _ _ us hl => match us, hl with | [_, _, _], _ => rfl) (fun vs H Q E h => ?_) (fun cdv A outer s H vs Q E hr h => ?_)
  · obtain ⟨S, C, sv, G, d, _, rfl, _⟩ := h
    rfl
  obtain ⟨S, C, sv, G, d, hdn, rfl, hg, hsc, hG, q⟩ := h
  refine ⟨_, (pss_cons (ps_set (i := 3) sc_law_two.nd rfl (Or.inl rfl) (pe_c c_law_draw hr (by omega) (by rfl) (pa_cons (pv 0) (pa_cons pe_int pa_nil))))
      (pss_cons (ps_set (i := 4) sc_law_two.nd rfl (Or.inl rfl) (pe_c c_law_made hr (by omega) (by rfl) (pa_cons (pv 0) (pa_cons (pv 1) (pa_cons (pv 2) pa_nil)))))
      (pss_cons (ps_set (i := 5) sc_law_two.nd rfl (Or.inl rfl) (pe_c c_law_made hr (by omega) (by rfl) (pa_cons (pv 0) (pa_cons (pv 1) (pa_cons (pv 2) pa_nil)))))
      (pss_cons (ps_if (pt_cmpR op_lt (pv 3) pe_int (nomark _)) (pss_cons (ps_set (i := 6) sc_law_two.nd rfl (Or.inl rfl) (pe_ix ix_str pe_str (pv 3) (fun _ _ => rfl)))
      (pss_cons (ps_set (i := 7) sc_law_two.nd rfl (Or.inl rfl) (pe_ix ix_list (pe_lst (pa_cons (pe_op op_add (pe_ix ix_list (pv 4) pe_int (fun _ _ => rfl)) (pe_ix ix_list (pv 5) pe_int (fun _ _ => rfl))) (pa_cons (pe_op op_sub (pe_ix ix_list (pv 4) pe_int (fun _ _ => rfl)) (pe_ix ix_list (pv 5) pe_int (fun _ _ => rfl))) (pa_cons (pe_callTy call_int1 (by rfl) (T.free 75 rfl) (by decide +kernel) (pa_cons (pe_cmpR op_lt (pe_ix ix_list (pv 4) pe_int (fun _ _ => rfl)) (pe_ix ix_list (pv 5) pe_int (fun _ _ => rfl)) (nomark _)) pa_nil)) pa_nil)))) (pv 3) (fun _ _ => rfl)))
      (pss_cons (ps_set (i := 8) sc_law_two.nd rfl (Or.inl rfl) (pe_c c_law_all hr (by omega) (by rfl) (pa_cons (pe_lst (pa_cons (pe_ix ix_list (pv 4) pe_int (fun _ _ => rfl)) (pa_cons (pe_ix ix_list (pv 5) pe_int (fun _ _ => rfl)) (pa_cons (pe_lst (pa_cons pe_int (pa_cons pe_int (pa_cons pe_int (pa_cons pe_int (pa_cons pe_int (pa_cons pe_int (pa_cons pe_int pa_nil)))))))) pa_nil)))) pa_nil)))
      (pss_one (ps_ret (pe_lst (pa_cons (pe_tup (pa_cons pe_str (pa_cons (pv 6) (pa_cons (pe_ix ix_list (pv 4) pe_int (fun _ _ => rfl)) (pa_cons (pe_ix ix_list (pv 5) pe_int (fun _ _ => rfl)) pa_nil))))) (pa_cons (pe_tup (pa_cons pe_str (pa_cons (pe_ix ix_list (pv 4) pe_int (fun _ _ => rfl)) (pa_cons (pe_ix ix_list (pv 5) pe_int (fun _ _ => rfl)) pa_nil)))) (pa_cons (pv 7) (pa_cons (pe_op op_cat (pe_ix ix_list (pv 4) pe_int (fun _ _ => rfl)) (pe_ix ix_list (pv 5) pe_int (fun _ _ => rfl))) (pa_cons (pv 8) pa_nil))))))))))) pss_nil)
      (pss_cons (ps_set (i := 9) sc_law_two.nd rfl (Or.inl rfl) (pe_lst (pa_cons (pe_ix ix_list (pv 5) pe_int (fun _ _ => rfl)) (pa_cons (pe_tup (pa_cons pe_str (pa_cons pe_str (pa_cons (pe_tup (pa_cons pe_str (pa_cons pe_str pa_nil))) pa_nil)))) pa_nil))))
      (pss_cons (ps_if (pt_cmpR op_ne (pe_ix ix_list (pv 4) pe_int (fun _ _ => rfl)) pe_int (nomark _)) (pss_one (ps_set (i := 9) sc_law_two.nd rfl (Or.inl rfl) (pe_revL (pv 9)))) pss_nil)
      (pss_cons (ps_set (i := 8) sc_law_two.nd rfl (Or.inl rfl) (pe_c c_law_all hr (by omega) (by rfl) (pa_cons (pe_lst (pa_cons (pe_ix ix_list (pv 4) pe_int (fun _ _ => rfl)) (pa_cons (pe_ix ix_list (pv 5) pe_int (fun _ _ => rfl)) (pa_cons (pe_lst (pa_cons pe_int (pa_cons pe_int (pa_cons pe_int (pa_cons pe_int (pa_cons pe_int (pa_cons pe_int (pa_cons pe_int pa_nil)))))))) pa_nil)))) pa_nil)))
      (pss_cons (ps_set (i := 10) sc_law_two.nd rfl (Or.inl rfl) (pe_tup (pa_cons pe_str (pa_cons (pe_ix ix_list (pv 4) pe_int (fun _ _ => rfl)) (pa_cons (pe_ix ix_list (pv 9) pe_int (fun _ _ => rfl)) (pa_cons (pe_ix ix_list (pv 9) pe_int (fun _ _ => rfl)) pa_nil))))))
      (pss_one (ps_ret (pe_lst (pa_cons (pv 10) (pa_cons (pe_tup (pa_cons pe_str (pa_cons (pe_ix ix_list (pv 4) pe_int (fun _ _ => rfl)) (pa_cons (pe_ix ix_list (pv 5) pe_int (fun _ _ => rfl)) pa_nil)))) (pa_cons (pe_ix ix_list (pv 5) pe_int (fun _ _ => rfl)) (pa_cons (pe_op op_cat (pe_ix ix_list (pv 4) pe_int (fun _ _ => rfl)) (pe_ix ix_list (pv 5) pe_int (fun _ _ => rfl))) (pa_cons (pv 8) pa_nil)))))))))))))))), ?_⟩
  refine ⟨_, rfl, S, C, 4, rfl, by decide, by decide, hg, fun r H1 hr1 x1 g1 => ?_⟩
  refine ⟨_, rfl, _, rfl, _, rfl, S, C, sv, G, d, hdn, rfl, g1, scope_up (samex_hid x1) hsc, by omega, fun v1 ma H2 x2 g2 ma2 oka => ?_⟩
  have x02 := x1.trans x2
  refine ⟨_, rfl, _, rfl, _, rfl, S, C, sv, G, d, hdn, rfl, g2, scope_up (samex_hid x02) hsc, by omega, fun v2 mb H3 x3 g3 mb3 okb => ?_⟩
  have x03 := x02.trans x3
  have ma3 := made_up (samex_hid x3) ma2
  have hB3 := g3.dom
  obtain ⟨a1, t1, p1, u1, c1, rfl, ha1, hat, hap, hau, hac⟩ := ma3
  obtain ⟨b1, t2, p2, u2, c2, rfl, hb1, hbt, hbp, hbu, hbc⟩ := mb3
  have qa := SqL.new (K := K) (hid_at ha1)
  have qb := SqL.new (K := K) (hid_at hb1)
  have la := ub_s (by omega : d ≤ 3) oka
  have lb := ub_s (by omega : d ≤ 3) okb
  refine ⟨_, rfl, _, _, rfl, rfl, _, rfl, ?_⟩
  refine ite2 (fun c => ?_) (fun c => ?_)
  · have hr3 : r < 3 := by have := of_decide_eq_true c; omega
    obtain ⟨sg, hsg, hat0, hnum⟩ : ∃ sg : Str, okSign sg ∧ (∃ cp : Nat, sg = ⟨#[cp]⟩ ∧ atI ("+-<" : Str).cps.toList ((r : Nat) : Int) = some cp) ∧ ([V.int (ma.i + mb.i), V.int (ma.i - mb.i), V.int (if decide (ma.i < mb.i) = true then 1 else 0)] : List V)[r]? = some (.int (sumOf sg ma.i mb.i)) := by
      match r, hr3 with
      | 0, _ => exact ⟨"+", .inl rfl, ⟨_, rfl, rfl⟩, by rw [sumOf_plus]; rfl⟩
      | 1, _ => exact ⟨"-", .inr (.inl rfl), ⟨_, rfl, rfl⟩, by rw [sumOf_minus]; rfl⟩
      | 2, _ => exact ⟨"<", .inr (.inr rfl), ⟨_, rfl, rfl⟩, by rw [sumOf_lt]; rfl⟩
    obtain ⟨cp, rfl, hcp⟩ := hat0
    refine ⟨_, rfl, _, _, cp, rfl, rfl, (by decide +kernel), hcp, ?_⟩
    refine ⟨_, rfl, a1, _, _, _, rfl, rfl, qa, atI_nat (j := 2) rfl, _, rfl, b1, _, _, _, rfl, rfl, qb, atI_nat (j := 2) rfl, _, _, rfl, rfl, ?_⟩
    refine ⟨_, rfl, a1, _, _, _, rfl, rfl, qa, atI_nat (j := 2) rfl, _, rfl, b1, _, _, _, rfl, rfl, qb, atI_nat (j := 2) rfl, _, _, rfl, rfl, ?_⟩
    refine ⟨_, rfl, a1, _, _, _, rfl, rfl, qa, atI_nat (j := 2) rfl, _, rfl, b1, _, _, _, rfl, rfl, qb, atI_nat (j := 2) rfl, _, _, rfl, rfl, .inr ⟨_, rfl, sz3, fun l hl => ?_⟩⟩
    have n4 := same_new hl (.lst [V.int (ma.i + mb.i), V.int (ma.i - mb.i), V.int (if decide (ma.i < mb.i) = true then 1 else 0)])
    refine ⟨_, rfl, l, _, _, _, rfl, rfl, SqL.new upd_same, atI_nat hnum, ?_⟩
    refine ⟨_, rfl, a1, _, _, _, rfl, rfl, n4.seq qa, atI_nat (j := 4) rfl, _, rfl, b1, _, _, _, rfl, rfl, n4.seq qb, atI_nat (j := 4) rfl, sz7, fun l2 hl2 => ⟨sz3, fun l3 hl3 => ?_⟩⟩
    have n5 := same_new hl2 (.lst (talL (talOf [.op, .next, .sum])))
    have n6 := same_new hl3 (.lst [c1, c2, .ref l2])
    have s46 := n4.trans (n5.trans n6)
    refine ⟨l3, [c1, c2, .ref l2], [ma.tl, mb.tl, talOf [.op, .next, .sum]], rfl, SqL.new upd_same, (by show 3 ≤ 1000000; decide), .cons (cnt_up (hid_sub.trans s46) hac) (.cons (cnt_up (hid_sub.trans s46) hbc) (.cons ⟨l2, rfl, n6 _ _ upd_same⟩ .nil)), fun p4 H4 s7 hp4 hp4' => ?_⟩
    have s47 := s46.trans s7
    have hB6 := hB3.up s46
    refine ⟨_, rfl, _, rfl, a1, _, _, _, rfl, rfl, s47.seq qa, atI_nat (j := 0) rfl, _, rfl, b1, _, _, _, rfl, rfl, s47.seq qb, atI_nat (j := 0) rfl, sz4, fun p5 hp5 => ?_⟩
    have n8 := same_new hp5 (.tup [.str "sum", .str ⟨#[cp]⟩, t1, t2])
    have s48 := s47.trans n8
    refine ⟨_, rfl, a1, _, _, _, rfl, rfl, s48.seq qa, atI_nat (j := 1) rfl, _, rfl, b1, _, _, _, rfl, rfl, s48.seq qb, atI_nat (j := 1) rfl, sz3, fun p6 hp6 => ?_⟩
    have n9 := same_new hp6 (.tup [.str "sum", p1, p2])
    have s49 := s48.trans n9
    refine ⟨_, rfl, _, rfl, a1, _, _, _, rfl, rfl, s49.seq qa, atI_nat (j := 3) rfl, _, rfl, b1, _, _, _, rfl, rfl, s49.seq qb, atI_nat (j := 3) rfl, ?_⟩
    refine us_cat (hB3.up s49) (us_up (hid_up s49) hau) (us_up (hid_up s49) hbu) (by rw [List.length_map, List.length_map]; omega) fun p7 H7 s10 hu7 => ?_
    refine ⟨_, rfl, sz5, fun p8 hp8 => ?_⟩
    have n11 := same_new hp8 (.lst [.ref p5, .ref p6, .int (sumOf ⟨#[cp]⟩ ma.i mb.i), .ref p7, .ref p4])
    have s9e := s10.trans n11
    have s8e := n9.trans s9e
    have s7e := n8.trans s8e
    have sall := s49.trans s9e
    refine q (.ref p8) ⟨.sm ⟨#[cp]⟩ ma.t mb.t, tp [.str "sum", ma.p, mb.p], sumOf ⟨#[cp]⟩ ma.i mb.i, ma.us ++ mb.us, talSum [ma.tl, mb.tl, talOf [.op, .next, .sum]]⟩ _ (x03.trans (same_x sall)) (g3.up sall) ⟨p8, .ref p5, .ref p6, .ref p7, .ref p4, rfl, hid_new (hB3.up (s49.trans s10)) hp8, ?_, ?_, ?_, ⟨p4, rfl, hid_up s7e _ _ (hid_got hB6 hp4 hp4')⟩⟩ (two_sum hsg oka okb)
    · exact dp_up (hid_up s8e) (dp_newT (hid_new (hB3.up s47) hp5) (.cons (.str _) (.cons (.str _) (.cons (dp_up (hid_up s48) hat) (.cons (dp_up (hid_up s48) hbt) .nil)))))
    · exact dp_up (hid_up s9e) (dp_newT (hid_new (hB3.up s48) hp6) (.cons (.str _) (.cons (dp_up (hid_up s49) hap) (.cons (dp_up (hid_up s49) hbp) .nil))))
    · show UsAt K _ _ ((ma.us ++ mb.us).map toUse)
      rw [List.map_append]
      exact us_up (hid_up n11) hu7
  · refine ⟨_, rfl, b1, _, _, _, rfl, rfl, qb, atI_nat (j := 0) rfl, sz2, fun w1 hw1 => ⟨sz3, fun w2 hw2 => ⟨sz2, fun w3 hw3 => ?_⟩⟩⟩
    have n4 := same_new hw1 (.tup [.str "name", .str "w"])
    have n5 := same_new hw2 (.tup [.str "again", .str "w", .ref w1])
    have n6 := same_new hw3 (.lst [t2, .ref w2])
    have s46 := n4.trans (n5.trans n6)
    have dw : Dp K (hid [S, C] (upd (upd (upd H3 w1 (.tup [.str "name", .str "w"])) w2 (.tup [.str "again", .str "w", .ref w1])) w3 (.lst [t2, .ref w2]))) (.ref w2) wT.told :=
      dp_up (hid_up n6) (dp_newT (hid_new (hB3.up n4) hw2) (.cons (.str _) (.cons (.str _) (.cons (dp_up (hid_up n5) (dp_newT (hid_new hB3 hw1) (.cons (.str _) (.cons (.str _) .nil)))) .nil))))
    have fin : ∀ (Hp0 : Hp) (pl : Addr) (z1 z2 : V) (ct : Tm), Same H3 Hp0 → hid [S, C] Hp0 pl = some (.lst [z1, z2]) → Dp K (hid [S, C] Hp0) z1 (if ma.i = 0 then mb.t else wT).told → Dp K (hid [S, C] Hp0) z2 (if ma.i = 0 then wT else mb.t).told → True := fun _ _ _ _ _ _ _ _ _ => trivial
    clear fin
    refine ⟨_, rfl, a1, _, _, _, rfl, rfl, s46.seq qa, atI_nat (j := 2) rfl, rfl, _, rfl, ?_⟩
    by_cases c0 : ma.i = 0
    · refine ifF (by rw [c0]; decide) ?_
      obtain ⟨H4, s4, eH⟩ : ∃ H4, Same H3 H4 ∧ H4 = upd (upd (upd H3 w1 (.tup [.str "name", .str "w"])) w2 (.tup [.str "again", .str "w", .ref w1])) w3 (.lst [t2, .ref w2]) := ⟨_, s46, rfl⟩
      obtain ⟨pl, z1, z2, hpl, hz1, hz2, epl⟩ : ∃ pl z1 z2, hid [S, C] H4 pl = some (.lst [z1, z2]) ∧ Dp K (hid [S, C] H4) z1 (if ma.i = 0 then mb.t else wT).told ∧ Dp K (hid [S, C] H4) z2 (if ma.i = 0 then wT else mb.t).told ∧ pl = w3 := by
        rw [eH, if_pos c0, if_pos c0]
        exact ⟨w3, t2, .ref w2, hid_new (hB3.up (n4.trans n5)) hw3, dp_up (hid_up s46) hbt, dw, rfl⟩
      rw [← eH, ← epl]
      clear eH epl
      have hpl' := SqL.new (K := K) (hid_at hpl)
      refine ⟨_, rfl, a1, _, _, _, rfl, rfl, s4.seq qa, atI_nat (j := 4) rfl, _, rfl, b1, _, _, _, rfl, rfl, s4.seq qb, atI_nat (j := 4) rfl, sz7, fun l2 hl2 => ⟨sz3, fun l3 hl3 => ?_⟩⟩
      have n5 := same_new hl2 (.lst (talL (talOf [.op, .choose])))
      have n6 := same_new hl3 (.lst [c1, c2, .ref l2])
      have s56 := n5.trans n6
      have s36 := s4.trans s56
      refine ⟨l3, [c1, c2, .ref l2], [ma.tl, mb.tl, talOf [.op, .choose]], rfl, SqL.new upd_same, (by show 3 ≤ 1000000; decide), .cons (cnt_up (hid_sub.trans s36) hac) (.cons (cnt_up (hid_sub.trans s36) hbc) (.cons ⟨l2, rfl, n6 _ _ upd_same⟩ .nil)), fun p4 H5 s7 hp4 hp4' => ?_⟩
      have s57 := s56.trans s7
      have s37 := s4.trans s57
      have hB6 := hB3.up s36
      have hpl5 := SqL.new (K := K) (hid_at (hid_up s57 _ _ hpl))
      refine ⟨_, rfl, a1, _, _, _, rfl, rfl, s37.seq qa, atI_nat (j := 0) rfl, _, rfl, pl, _, _, _, rfl, rfl, hpl5, atI_nat (j := 0) rfl, _, rfl, pl, _, _, _, rfl, rfl, hpl5, atI_nat (j := 1) rfl, sz4, fun p5 hp5 => ?_⟩
      have n8 := same_new hp5 (.tup [.str "choice", t1, z1, z2])
      have s48 := s37.trans n8
      refine ⟨_, rfl, _, rfl, a1, _, _, _, rfl, rfl, s48.seq qa, atI_nat (j := 1) rfl, _, rfl, b1, _, _, _, rfl, rfl, s48.seq qb, atI_nat (j := 1) rfl, sz3, fun p6 hp6 => ?_⟩
      have n9 := same_new hp6 (.tup [.str "choice", p1, p2])
      have s49 := s48.trans n9
      refine ⟨_, rfl, b1, _, _, _, rfl, rfl, s49.seq qb, atI_nat (j := 2) rfl, _, rfl, a1, _, _, _, rfl, rfl, s49.seq qa, atI_nat (j := 3) rfl, _, rfl, b1, _, _, _, rfl, rfl, s49.seq qb, atI_nat (j := 3) rfl, ?_⟩
      refine us_cat (hB3.up s49) (us_up (hid_up s49) hau) (us_up (hid_up s49) hbu) (by rw [List.length_map, List.length_map]; omega) fun p7 H7 s10 hu7 => ?_
      refine ⟨_, rfl, sz5, fun p8 hp8 => ?_⟩
      have n11 := same_new hp8 (.lst [.ref p5, .ref p6, .int mb.i, .ref p7, .ref p4])
      have s9e := s10.trans n11
      have s8e := n9.trans s9e
      have s7e := n8.trans s8e
      have sall := s49.trans s9e
      refine q (.ref p8) ⟨if ma.i = 0 then .ch ma.t mb.t wT else .ch ma.t wT mb.t, tp [.str "choice", ma.p, mb.p], mb.i, ma.us ++ mb.us, talSum [ma.tl, mb.tl, talOf [.op, .choose]]⟩ _ (x03.trans (same_x sall)) (g3.up sall) ⟨p8, .ref p5, .ref p6, .ref p7, .ref p4, rfl, hid_new (hB3.up (s49.trans s10)) hp8, ?_, ?_, ?_, ⟨p4, rfl, hid_up s7e _ _ (hid_got hB6 hp4 hp4')⟩⟩ (two_choice oka okb)
      · have e : (if ma.i = 0 then Tm.ch ma.t mb.t wT else .ch ma.t wT mb.t).told = tp [.str "choice", ma.t.told, (if ma.i = 0 then mb.t else wT).told, (if ma.i = 0 then wT else mb.t).told] := by
          by_cases c1 : ma.i = 0
          · rw [if_pos c1, if_pos c1, if_pos c1]; rfl
          · rw [if_neg c1, if_neg c1, if_neg c1]; rfl
        show Dp K _ _ (if ma.i = 0 then Tm.ch ma.t mb.t wT else .ch ma.t wT mb.t).told
        rw [e]
        exact dp_up (hid_up s8e) (dp_newT (hid_new (hB3.up s37) hp5) (.cons (.str _) (.cons (dp_up (hid_up s48) hat) (.cons (dp_up (hid_up (s57.trans n8)) hz1) (.cons (dp_up (hid_up (s57.trans n8)) hz2) .nil)))))
      · exact dp_up (hid_up s9e) (dp_newT (hid_new (hB3.up s48) hp6) (.cons (.str _) (.cons (dp_up (hid_up s49) hap) (.cons (dp_up (hid_up s49) hbp) .nil))))
      · show UsAt K _ _ ((ma.us ++ mb.us).map toUse)
        rw [List.map_append]
        exact us_up (hid_up n11) hu7
    · refine ifT (by simp [c0]) ?_
      refine ⟨_, rfl, w3, _, rfl, SqL.new upd_same, fun w4 hw4 => ?_⟩
      have n7 := same_new hw4 (.lst [t2, .ref w2].reverse)
      have s47 := s46.trans n7
      obtain ⟨H4, s4, eH⟩ : ∃ H4, Same H3 H4 ∧ H4 = upd (upd (upd (upd H3 w1 (.tup [.str "name", .str "w"])) w2 (.tup [.str "again", .str "w", .ref w1])) w3 (.lst [t2, .ref w2])) w4 (.lst [t2, .ref w2].reverse) := ⟨_, s47, rfl⟩
      obtain ⟨pl, z1, z2, hpl, hz1, hz2, epl⟩ : ∃ pl z1 z2, hid [S, C] H4 pl = some (.lst [z1, z2]) ∧ Dp K (hid [S, C] H4) z1 (if ma.i = 0 then mb.t else wT).told ∧ Dp K (hid [S, C] H4) z2 (if ma.i = 0 then wT else mb.t).told ∧ pl = w4 := by
        rw [eH, if_neg c0, if_neg c0]
        exact ⟨w4, .ref w2, t2, hid_new (hB3.up s46) hw4, dp_up (hid_up n7) dw, dp_up (hid_up s47) hbt, rfl⟩
      rw [← eH, ← epl]
      clear eH epl
      have hpl' := SqL.new (K := K) (hid_at hpl)
      refine ⟨_, rfl, a1, _, _, _, rfl, rfl, s4.seq qa, atI_nat (j := 4) rfl, _, rfl, b1, _, _, _, rfl, rfl, s4.seq qb, atI_nat (j := 4) rfl, sz7, fun l2 hl2 => ⟨sz3, fun l3 hl3 => ?_⟩⟩
      have n5 := same_new hl2 (.lst (talL (talOf [.op, .choose])))
      have n6 := same_new hl3 (.lst [c1, c2, .ref l2])
      have s56 := n5.trans n6
      have s36 := s4.trans s56
      refine ⟨l3, [c1, c2, .ref l2], [ma.tl, mb.tl, talOf [.op, .choose]], rfl, SqL.new upd_same, (by show 3 ≤ 1000000; decide), .cons (cnt_up (hid_sub.trans s36) hac) (.cons (cnt_up (hid_sub.trans s36) hbc) (.cons ⟨l2, rfl, n6 _ _ upd_same⟩ .nil)), fun p4 H5 s7 hp4 hp4' => ?_⟩
      have s57 := s56.trans s7
      have s37 := s4.trans s57
      have hB6 := hB3.up s36
      have hpl5 := SqL.new (K := K) (hid_at (hid_up s57 _ _ hpl))
      refine ⟨_, rfl, a1, _, _, _, rfl, rfl, s37.seq qa, atI_nat (j := 0) rfl, _, rfl, pl, _, _, _, rfl, rfl, hpl5, atI_nat (j := 0) rfl, _, rfl, pl, _, _, _, rfl, rfl, hpl5, atI_nat (j := 1) rfl, sz4, fun p5 hp5 => ?_⟩
      have n8 := same_new hp5 (.tup [.str "choice", t1, z1, z2])
      have s48 := s37.trans n8
      refine ⟨_, rfl, _, rfl, a1, _, _, _, rfl, rfl, s48.seq qa, atI_nat (j := 1) rfl, _, rfl, b1, _, _, _, rfl, rfl, s48.seq qb, atI_nat (j := 1) rfl, sz3, fun p6 hp6 => ?_⟩
      have n9 := same_new hp6 (.tup [.str "choice", p1, p2])
      have s49 := s48.trans n9
      refine ⟨_, rfl, b1, _, _, _, rfl, rfl, s49.seq qb, atI_nat (j := 2) rfl, _, rfl, a1, _, _, _, rfl, rfl, s49.seq qa, atI_nat (j := 3) rfl, _, rfl, b1, _, _, _, rfl, rfl, s49.seq qb, atI_nat (j := 3) rfl, ?_⟩
      refine us_cat (hB3.up s49) (us_up (hid_up s49) hau) (us_up (hid_up s49) hbu) (by rw [List.length_map, List.length_map]; omega) fun p7 H7 s10 hu7 => ?_
      refine ⟨_, rfl, sz5, fun p8 hp8 => ?_⟩
      have n11 := same_new hp8 (.lst [.ref p5, .ref p6, .int mb.i, .ref p7, .ref p4])
      have s9e := s10.trans n11
      have s8e := n9.trans s9e
      have s7e := n8.trans s8e
      have sall := s49.trans s9e
      refine q (.ref p8) ⟨if ma.i = 0 then .ch ma.t mb.t wT else .ch ma.t wT mb.t, tp [.str "choice", ma.p, mb.p], mb.i, ma.us ++ mb.us, talSum [ma.tl, mb.tl, talOf [.op, .choose]]⟩ _ (x03.trans (same_x sall)) (g3.up sall) ⟨p8, .ref p5, .ref p6, .ref p7, .ref p4, rfl, hid_new (hB3.up (s49.trans s10)) hp8, ?_, ?_, ?_, ⟨p4, rfl, hid_up s7e _ _ (hid_got hB6 hp4 hp4')⟩⟩ (two_choice oka okb)
      · have e : (if ma.i = 0 then Tm.ch ma.t mb.t wT else .ch ma.t wT mb.t).told = tp [.str "choice", ma.t.told, (if ma.i = 0 then mb.t else wT).told, (if ma.i = 0 then wT else mb.t).told] := by
          by_cases c1 : ma.i = 0
          · rw [if_pos c1, if_pos c1, if_pos c1]; rfl
          · rw [if_neg c1, if_neg c1, if_neg c1]; rfl
        show Dp K _ _ (if ma.i = 0 then Tm.ch ma.t mb.t wT else .ch ma.t wT mb.t).told
        rw [e]
        exact dp_up (hid_up s8e) (dp_newT (hid_new (hB3.up s37) hp5) (.cons (.str _) (.cons (dp_up (hid_up s48) hat) (.cons (dp_up (hid_up (s57.trans n8)) hz1) (.cons (dp_up (hid_up (s57.trans n8)) hz2) .nil)))))
      · exact dp_up (hid_up s9e) (dp_newT (hid_new (hB3.up s48) hp6) (.cons (.str _) (.cons (dp_up (hid_up s49) hap) (.cons (dp_up (hid_up s49) hbp) .nil))))
      · show UsAt K _ _ ((ma.us ++ mb.us).map toUse)
        rw [List.map_append]
        exact us_up (hid_up n11) hu7
end
end Ut
set_option Elab.async false
set_option linter.all false
set_option maxRecDepth 100000
set_option maxHeartbeats 4000000
namespace Ut
open PySem PySem.Spec PyProof.Rows L2
section
variable {P : Program} {w : World} {K : PySem.W.Frag} {mg : Str → Option Value} {base : Heap}
theorem four {s : Nat} (h : s < 4) : s = 0 ∨ s = 1 ∨ s = 2 ∨ s = 3 := by omega
theorem sc_law_shape : FnScope ["_law_shape_here", "_law_name", "_law_some", "_law_this", "_law_bodies"] ["_law_shape_here", "_law_name", "_law_some"] (defScope S_law_shape) := ⟨rfl, rfl, rfl, by decide +kernel, rfl, by decide +kernel, by decide +kernel⟩
def spShape (K : PySem.W.Frag) : Sp := fun vs H Q _ => ∃ B, ∃ s : Nat, ∃ x c, vs = [.int (s : Nat), .str x, .int c] ∧ s < 4 ∧ Dom B H ∧ ∀ v' H', Same H H' → Dp K (hid B H') v' (shapeTm s x c).told → Q v' H'
theorem ok_shape (T : Tx w K mg) : Cal P w K mg base 1 "_law_shape" (spShape K) := by
  refine cal_mk T 42 42 rfl rfl sc_law_shape (fun _ _ _ _ _ _ us hl => match us, hl with | [_, _, _], _ => rfl) (fun vs H Q E h => ?_) (fun cdv A outer s0 H vs Q E hr h => ?_)
  · obtain ⟨B, s, x, c, rfl, _⟩ := h
    rfl
  obtain ⟨B, s, x, c, rfl, hs, hB, q⟩ := h
  refine ⟨_, (pss_cons (ps_set (i := 3) sc_law_shape.nd rfl (Or.inl rfl) (pe_tup (pa_cons pe_str (pa_cons (pv 1) pa_nil))))
      (pss_cons (ps_set (i := 4) sc_law_shape.nd rfl (Or.inl rfl) (pe_lst (pa_cons (pe_tup (pa_cons pe_str (pa_cons pe_str (pa_cons (pv 3) (pa_cons (pe_tup (pa_cons pe_str (pa_cons (pv 2) pa_nil))) pa_nil))))) (pa_cons (pe_tup (pa_cons pe_str (pa_cons (pv 2) pa_nil))) (pa_cons (pe_tup (pa_cons pe_str (pa_cons pe_str (pa_cons (pv 3) (pa_cons (pv 3) pa_nil))))) pa_nil)))))
      (pss_one (ps_ret (pe_tup (pa_cons pe_str (pa_cons (pv 1) (pa_cons (pe_ix ix_list (pe_op op_cat (pv 4) (pe_lst (pa_cons (pe_tup (pa_cons pe_str (pa_cons (pv 3) (pa_cons (pe_tup (pa_cons pe_str (pa_cons (pv 2) pa_nil))) (pa_cons (pv 3) pa_nil))))) pa_nil))) (pv 0) (fun _ _ => rfl)) pa_nil)))))))), ?_⟩
  refine ⟨_, rfl, sz2, fun p1 hp1 => ?_⟩
  have n1 := same_new hp1 (.tup [.str "name", .str x])
  refine ⟨_, rfl, _, rfl, sz2, fun p2 hp2 => ⟨sz4, fun p3 hp3 => ⟨_, rfl, sz2, fun p4 hp4 => ⟨_, rfl, _, rfl, sz4, fun p5 hp5 => ⟨sz3, fun l1 hl1 => ?_⟩⟩⟩⟩⟩
  have n2 := same_new hp2 (.tup [.str "number", .int c])
  have n3 := same_new hp3 (.tup [.str "sum", .str "+", .ref p1, .ref p2])
  have n4 := same_new hp4 (.tup [.str "number", .int c])
  have n5 := same_new hp5 (.tup [.str "sum", .str "+", .ref p1, .ref p1])
  have n6 := same_new hl1 (.lst [.ref p3, .ref p4, .ref p5])
  refine ⟨_, rfl, _, rfl, _, rfl, _, rfl, sz2, fun p6 hp6 => ⟨_, rfl, sz4, fun p7 hp7 => ⟨sz1, fun l2 hl2 => ?_⟩⟩⟩
  have n7 := same_new hp6 (.tup [.str "number", .int c])
  have n8 := same_new hp7 (.tup [.str "choice", .ref p1, .ref p6, .ref p1])
  have n9 := same_new hl2 (.lst [.ref p7])
  have s69 := n7.trans (n8.trans n9)
  refine ⟨l1, l2, _, _, rfl, rfl, s69 _ _ upd_same, upd_same, sz4, fun l3 hl3 => ?_⟩
  have n10 := same_new hl3 (.lst ([.ref p3, .ref p4, .ref p5] ++ [.ref p7]))
  have s25 := n2.trans (n3.trans (n4.trans (n5.trans n6)))
  have s710 := n7.trans (n8.trans (n9.trans n10))
  have s05 := n1.trans s25
  have dn : Dp K (hid B (upd H p1 (.tup [.str "name", .str x]))) (.ref p1) (Tm.name x).told := dp_newT (hid_new hB hp1) (.cons (.str _) (.cons (.str _) .nil))
  have dn6 := dp_up (hid_up (n2.trans (n3.trans (n4.trans (n5.trans (n6.trans s710)))))) dn
  have d3 := dp_up (hid_up (n4.trans (n5.trans (n6.trans s710)))) (dp_newT (K := K) (hid_new (hB.up (n1.trans n2)) hp3) (.cons (.str "sum") (.cons (.str "+") (.cons (dp_up (hid_up (n2.trans n3)) dn) (.cons (dp_up (hid_up n3) (dp_newT (hid_new (hB.up n1) hp2) (.cons (.str "number") (.cons (.int c) .nil)))) .nil)))))
  have d4 := dp_up (hid_up (n5.trans (n6.trans s710))) (dp_newT (K := K) (hid_new (hB.up (n1.trans (n2.trans n3))) hp4) (.cons (.str "number") (.cons (.int c) .nil)))
  have d5 := dp_up (hid_up (n6.trans s710)) (dp_newT (K := K) (hid_new (hB.up (n1.trans (n2.trans (n3.trans n4)))) hp5) (.cons (.str "sum") (.cons (.str "+") (.cons (dp_up (hid_up (n2.trans (n3.trans (n4.trans n5)))) dn) (.cons (dp_up (hid_up (n2.trans (n3.trans (n4.trans n5)))) dn) .nil)))))
  have d7 := dp_up (hid_up (n9.trans n10)) (dp_newT (K := K) (hid_new (hB.up (s05.trans n7)) hp7) (.cons (.str "choice") (.cons (dp_up (hid_up (s25.trans (n7.trans n8))) dn) (.cons (dp_up (hid_up n8) (dp_newT (hid_new (hB.up s05) hp6) (.cons (.str "number") (.cons (.int c) .nil)))) (.cons (dp_up (hid_up (s25.trans (n7.trans n8))) dn) .nil)))))
  have hBe := hB.up (s05.trans s710)
  have fin : ∀ (v : V) (t : Tm), Dp K (hid B (upd (upd (upd (upd (upd (upd (upd (upd (upd (upd H p1 (.tup [.str "name", .str x])) p2 (.tup [.str "number", .int c])) p3 (.tup [.str "sum", .str "+", .ref p1, .ref p2])) p4 (.tup [.str "number", .int c])) p5 (.tup [.str "sum", .str "+", .ref p1, .ref p1])) l1 (.lst [.ref p3, .ref p4, .ref p5])) p6 (.tup [.str "number", .int c])) p7 (.tup [.str "choice", .ref p1, .ref p6, .ref p1])) l2 (.lst [.ref p7])) l3 (.lst ([.ref p3, .ref p4, .ref p5] ++ [.ref p7])))) v t.told → (Tm.mk x t).told = (shapeTm s x c).told →
      3 ≤ sizeLine ∧ ∀ p, (upd (upd (upd (upd (upd (upd (upd (upd (upd (upd H p1 (.tup [.str "name", .str x])) p2 (.tup [.str "number", .int c])) p3 (.tup [.str "sum", .str "+", .ref p1, .ref p2])) p4 (.tup [.str "number", .int c])) p5 (.tup [.str "sum", .str "+", .ref p1, .ref p1])) l1 (.lst [.ref p3, .ref p4, .ref p5])) p6 (.tup [.str "number", .int c])) p7 (.tup [.str "choice", .ref p1, .ref p6, .ref p1])) l2 (.lst [.ref p7])) l3 (.lst ([.ref p3, .ref p4, .ref p5] ++ [.ref p7]))) p = none → Q (.ref p) (upd (upd (upd (upd (upd (upd (upd (upd (upd (upd (upd H p1 (.tup [.str "name", .str x])) p2 (.tup [.str "number", .int c])) p3 (.tup [.str "sum", .str "+", .ref p1, .ref p2])) p4 (.tup [.str "number", .int c])) p5 (.tup [.str "sum", .str "+", .ref p1, .ref p1])) l1 (.lst [.ref p3, .ref p4, .ref p5])) p6 (.tup [.str "number", .int c])) p7 (.tup [.str "choice", .ref p1, .ref p6, .ref p1])) l2 (.lst [.ref p7])) l3 (.lst ([.ref p3, .ref p4, .ref p5] ++ [.ref p7]))) p (.tup [.str "maker", .str x, v])) := by
    intro v t hd ht
    refine ⟨sz3, fun p hp => q (.ref p) _ ((s05.trans s710).trans (same_new hp _)) ?_⟩
    rw [← ht]
    exact dp_newT (hid_new hBe hp) (.cons (.str _) (.cons (.str _) (.cons (dp_up (hid_up (same_new hp _)) hd) .nil)))
  rcases four hs with rfl | rfl | rfl | rfl
  · exact ⟨_, rfl, l3, _, _, _, rfl, rfl, SqL.new upd_same, atI_nat (j := 0) rfl, fin (.ref p3) (.sm "+" (.name x) (.num c)) d3 rfl⟩
  · exact ⟨_, rfl, l3, _, _, _, rfl, rfl, SqL.new upd_same, atI_nat (j := 1) rfl, fin (.ref p4) (.num c) d4 rfl⟩
  · exact ⟨_, rfl, l3, _, _, _, rfl, rfl, SqL.new upd_same, atI_nat (j := 2) rfl, fin (.ref p5) (.sm "+" (.name x) (.name x)) d5 rfl⟩
  · exact ⟨_, rfl, l3, _, _, _, rfl, rfl, SqL.new upd_same, atI_nat (j := 3) rfl, fin (.ref p7) (.ch (.name x) (.num c) (.name x)) d7 rfl⟩
theorem sc_law_shape_kind : FnScope ["_law_shape_here", "_law_some", "_law_number_here"] ["_law_shape_here", "_law_some", "_law_number_here"] (defScope S_law_shape_kind) := ⟨rfl, rfl, rfl, by decide +kernel, rfl, by decide +kernel, by decide +kernel⟩
def spShapeKind (K : PySem.W.Frag) : Sp := fun vs H Q _ => ∃ B, ∃ s : Nat, ∃ c n, vs = [.int (s : Nat), .int c, .int n] ∧ s < 4 ∧ Dom B H ∧ ∀ v' H', Same H H' → Dp K (hid B H') v' (shapeKd s c n).d → Q v' H'
theorem kd_new {B : List Addr} {H : Hp} {p1 p2 : Addr} {ns : List Int} {i : Int} (hB : Dom B H) (h1 : H p1 = none) (h2 : (upd H p1 (.tup (ns.map V.int))) p2 = none) : Dp K (hid B (upd (upd H p1 (.tup (ns.map V.int))) p2 (.tup [.str "takes", .ref p1, .int i]))) (.ref p2) (Kd.tk ns i).d :=
  dp_newT (hid_new (hB.up (same_new h1 _)) h2) (.cons (.str _) (.cons (dp_up (hid_up (same_new h2 _)) (dp_newT (hid_new hB h1) (dps_ints ns))) (.cons (.int _) .nil)))
theorem ok_shape_kind (T : Tx w K mg) : Cal P w K mg base 1 "_law_shape_kind" (spShapeKind K) := by
  refine cal_mk T 43 43 rfl rfl sc_law_shape_kind (fun _ _ _ _ _ _ us hl => match us, hl with | [_, _, _], _ => rfl) (fun vs H Q E h => ?_) (fun cdv A outer s0 H vs Q E hr h => ?_)
  · obtain ⟨B, s, x, c, rfl, _⟩ := h
    rfl
  obtain ⟨B, s, c, n, rfl, hs, hB, q⟩ := h
  refine ⟨_, (pss_cons (ps_if (pt_cmpR op_eq (pv 0) pe_int (nomark _)) (pss_one (ps_ret (pe_tup (pa_cons pe_str (pa_cons (pe_tup (pa_cons (pv 2) pa_nil)) (pa_cons (pe_op op_add (pv 2) (pv 1)) pa_nil)))))) pss_nil)
      (pss_cons (ps_if (pt_cmpR op_eq (pv 0) pe_int (nomark _)) (pss_one (ps_ret (pe_tup (pa_cons pe_str (pa_cons (pe_tup pa_nil) (pa_cons (pv 1) pa_nil)))))) pss_nil)
      (pss_cons (ps_if (pt_cmpR op_eq (pv 0) pe_int (nomark _)) (pss_one (ps_ret (pe_tup (pa_cons pe_str (pa_cons (pe_tup (pa_cons (pv 2) (pa_cons (pv 2) pa_nil))) (pa_cons (pe_op op_add (pv 2) (pv 2)) pa_nil)))))) pss_nil)
      (pss_one (ps_ret (pe_ifExp (pt_cmpR op_eq (pv 2) pe_int (nomark _)) (pe_tup (pa_cons pe_str (pa_cons (pe_tup (pa_cons pe_int pa_nil)) (pa_cons (pv 1) pa_nil)))) (pe_tup (pa_cons pe_str (pa_cons (pe_tup (pa_cons (pv 2) (pa_cons (pv 2) pa_nil))) (pa_cons (pv 2) pa_nil)))))))))), ?_⟩
  rcases four hs with rfl | rfl | rfl | rfl
  · refine ⟨_, rfl, rfl, _, rfl, ifT (by decide) ?_⟩
    exact ⟨_, rfl, sz1, fun p1 h1 => ⟨_, rfl, _, rfl, _, _, rfl, rfl, sz3, fun p2 h2 => q _ _ ((same_new h1 _).trans (same_new h2 _)) (kd_new (ns := [n]) hB h1 h2)⟩⟩
  · refine ⟨_, rfl, rfl, _, rfl, ifF (by decide) ?_⟩
    refine ⟨_, rfl, rfl, _, rfl, ifT (by decide) ?_⟩
    exact ⟨Nat.zero_le _, fun p1 h1 => ⟨_, rfl, sz3, fun p2 h2 => q _ _ ((same_new h1 _).trans (same_new h2 _)) (kd_new (ns := []) hB h1 h2)⟩⟩
  · refine ⟨_, rfl, rfl, _, rfl, ifF (by decide) ?_⟩
    refine ⟨_, rfl, rfl, _, rfl, ifF (by decide) ?_⟩
    refine ⟨_, rfl, rfl, _, rfl, ifT (by decide) ?_⟩
    exact ⟨_, rfl, _, rfl, sz2, fun p1 h1 => ⟨_, rfl, _, rfl, _, _, rfl, rfl, sz3, fun p2 h2 => q _ _ ((same_new h1 _).trans (same_new h2 _)) (kd_new (ns := [n, n]) hB h1 h2)⟩⟩
  · refine ⟨_, rfl, rfl, _, rfl, ifF (by decide) ?_⟩
    refine ⟨_, rfl, rfl, _, rfl, ifF (by decide) ?_⟩
    refine ⟨_, rfl, rfl, _, rfl, ifF (by decide) ?_⟩
    refine ⟨_, rfl, rfl, _, rfl, ?_⟩
    have e3 : shapeKd 3 c n = if n = 0 then .tk [0] c else .tk [n, n] n := rfl
    rw [e3] at q
    by_cases z : n = 0
    · rw [if_pos z] at q
      refine ifT (by rw [z]; decide) ?_
      exact ⟨sz1, fun p1 h1 => ⟨_, rfl, sz3, fun p2 h2 => q _ _ ((same_new h1 _).trans (same_new h2 _)) (kd_new (ns := [0]) hB h1 h2)⟩⟩
    · rw [if_neg z] at q
      refine ifF (by simp [z]) ?_
      exact ⟨_, rfl, _, rfl, sz2, fun p1 h1 => ⟨_, rfl, sz3, fun p2 h2 => q _ _ ((same_new h1 _).trans (same_new h2 _)) (kd_new (ns := [n, n]) hB h1 h2)⟩⟩
theorem sc_law_shape_paper : FnScope ["_law_shape_here", "_law_kind", "_law_look"] ["_law_shape_here", "_law_kind"] (defScope S_law_shape_paper) := ⟨rfl, rfl, rfl, by decide +kernel, rfl, by decide +kernel, by decide +kernel⟩
def PCAt (K : PySem.W.Frag) (H : Hp) (v : V) (p : PyData) (f : Tal) : Prop := ∃ a pp cv, v = .ref a ∧ H a = some (.tup [pp, cv]) ∧ Dp K H pp p ∧ CntAt H cv f
def spShapePaper (K : PySem.W.Frag) : Sp := fun vs H Q _ => ∃ B, ∃ s : Nat, ∃ kv c n, vs = [.int (s : Nat), kv] ∧ s < 4 ∧ Dom B H ∧ Dp K (hid B H) kv (shapeKd s c n).d ∧ ∀ v' H', Same H H' → PCAt K (hid B H') v' (shapeP s n) (shapeC s n) → Q v' H'
theorem ok_shape_paper (T : Tx w K mg) : Cal P w K mg base 1 "_law_shape_paper" (spShapePaper K) := by
  refine cal_mk T 44 44 rfl rfl sc_law_shape_paper (fun _ _ _ _ _ _ us hl => match us, hl with | [_, _], _ => rfl) (fun vs H Q E h => ?_) (fun cdv A outer s0 H vs Q E hr h => ?_)
  · obtain ⟨B, s, kv, c, n, rfl, _⟩ := h
    rfl
  obtain ⟨B, s, kv, c, n, rfl, hs, hB, hk, q⟩ := h
  refine ⟨_, (pss_cons (ps_if (pt_cmpR op_eq (pv 0) pe_int (nomark _)) (pss_one (ps_ret (pe_tup (pa_cons (pe_tup (pa_cons pe_str (pa_cons (pe_tup (pa_cons pe_str pa_nil)) pa_nil))) (pa_cons (pe_lst (pa_cons pe_int (pa_cons pe_int (pa_cons pe_int (pa_cons pe_int (pa_cons pe_int (pa_cons pe_int (pa_cons pe_int pa_nil)))))))) pa_nil))))) pss_nil)
      (pss_cons (ps_set (i := 2) sc_law_shape_paper.nd rfl (Or.inl rfl) (pe_tup (pa_cons pe_str (pa_cons (pe_ix ix_tup (pe_ix ix_tup (pv 1) pe_int (fun _ _ => rfl)) pe_int (fun _ _ => rfl)) pa_nil))))
      (pss_cons (ps_if (pt_cmpR op_eq (pv 0) pe_int (nomark _)) (pss_one (ps_ret (pe_tup (pa_cons (pe_tup (pa_cons pe_str (pa_cons (pe_tup (pa_cons pe_str (pa_cons (pv 2) (pa_cons (pe_tup (pa_cons pe_str pa_nil)) pa_nil)))) pa_nil))) (pa_cons (pe_lst (pa_cons pe_int (pa_cons pe_int (pa_cons pe_int (pa_cons pe_int (pa_cons pe_int (pa_cons pe_int (pa_cons pe_int pa_nil)))))))) pa_nil))))) pss_nil)
      (pss_cons (ps_if (pt_cmpR op_eq (pv 0) pe_int (nomark _)) (pss_one (ps_ret (pe_tup (pa_cons (pe_tup (pa_cons pe_str (pa_cons (pe_tup (pa_cons pe_str (pa_cons (pv 2) (pa_cons (pv 2) pa_nil)))) pa_nil))) (pa_cons (pe_lst (pa_cons pe_int (pa_cons pe_int (pa_cons pe_int (pa_cons pe_int (pa_cons pe_int (pa_cons pe_int (pa_cons pe_int pa_nil)))))))) pa_nil))))) pss_nil)
      (pss_cons (ps_if (pt_cmpR op_eq (pe_callB call_len_seq (by rfl) (T.free 70 rfl) (by decide +kernel) (pa_cons (pe_ix ix_tup (pv 1) pe_int (fun _ _ => rfl)) pa_nil)) pe_int (nomark _)) (pss_one (ps_ret (pe_tup (pa_cons (pe_tup (pa_cons pe_str (pa_cons (pe_tup (pa_cons pe_str (pa_cons (pv 2) (pa_cons (pe_tup (pa_cons pe_str pa_nil)) pa_nil)))) pa_nil))) (pa_cons (pe_lst (pa_cons pe_int (pa_cons pe_int (pa_cons pe_int (pa_cons pe_int (pa_cons pe_int (pa_cons pe_int (pa_cons pe_int pa_nil)))))))) pa_nil))))) pss_nil)
      (pss_one (ps_ret (pe_tup (pa_cons (pe_tup (pa_cons pe_str (pa_cons (pe_tup (pa_cons pe_str (pa_cons (pv 2) (pa_cons (pv 2) pa_nil)))) pa_nil))) (pa_cons (pe_lst (pa_cons pe_int (pa_cons pe_int (pa_cons pe_int (pa_cons pe_int (pa_cons pe_int (pa_cons pe_int (pa_cons pe_int pa_nil)))))))) pa_nil)))))))))), ?_⟩
  rcases four hs with rfl | rfl | rfl | rfl
  · obtain ⟨a, xs, rfl, ha, hxs⟩ := dp_tup_of hk
    obtain ⟨v0, v1, v2, rfl, d0, d1, d2⟩ := dps3_of hxs
    obtain ⟨b, ys, rfl, hb, hys⟩ := dp_tup_of d1
    obtain rfl := dps_ints_of (ns := [n]) hys
    have ha' := same_seqT hid_sub ha
    have hb' := same_seqT hid_sub hb
    refine ⟨_, rfl, rfl, _, rfl, ifF (by decide) ?_⟩
    refine ⟨_, rfl, a, _, _, _, rfl, rfl, ha', atI_nat (j := 1) rfl, b, _, _, _, rfl, rfl, hb', atI_nat (j := 0) rfl, sz2, fun p1 hp1 => ?_⟩
    have n1 := same_new hp1 (.tup [.str "look", .int n])
    have lk : Dp K (hid B (upd H p1 (.tup [.str "look", .int n]))) (.ref p1) (lookP n) := dp_newT (hid_new hB hp1) (.cons (.str _) (.cons (.int _) .nil))
    refine ⟨_, rfl, rfl, _, rfl, ifT (by decide) ?_⟩
    refine ⟨_, rfl, sz1, fun p2 hp2 => ⟨sz3, fun p3 hp3 => ⟨sz2, fun p4 hp4 => ⟨sz7, fun l hl => ⟨sz2, fun p5 hp5 => ?_⟩⟩⟩⟩⟩
    have n2 := same_new hp2 (.tup [.str "number"])
    have n3 := same_new hp3 (.tup [.str "sum", .ref p1, .ref p2])
    have n4 := same_new hp4 (.tup [.str "takes", .ref p3])
    have n5 := same_new hl (.lst (talL (shapeC 0 n)))
    have n6 := same_new hp5 (.tup [.ref p4, .ref l])
    have s15 := n1.trans (n2.trans (n3.trans (n4.trans n5)))
    refine q (.ref p5) _ (s15.trans n6) ⟨p5, .ref p4, .ref l, rfl, hid_new (hB.up s15) hp5, dp_up (hid_up (n5.trans n6)) (dp_newT (hid_new (hB.up (n1.trans (n2.trans n3))) hp4) (.cons (.str _) (.cons (dp_up (hid_up n4) (dp_newT (hid_new (hB.up (n1.trans n2)) hp3) (.cons (.str _) (.cons (dp_up (hid_up (n2.trans n3)) lk) (.cons (dp_up (hid_up n3) (dp_newT (hid_new (hB.up n1) hp2) (.cons (.str _) .nil))) .nil))))) .nil))), ⟨l, rfl, hid_up n6 _ _ (hid_new (hB.up (n1.trans (n2.trans (n3.trans n4)))) hl)⟩⟩
  · refine ⟨_, rfl, rfl, _, rfl, ifT (by decide) ?_⟩
    refine ⟨sz1, fun p1 hp1 => ⟨sz2, fun p2 hp2 => ⟨sz7, fun l hl => ⟨sz2, fun p3 hp3 => ?_⟩⟩⟩⟩
    have n1 := same_new hp1 (.tup [.str "number"])
    have n2 := same_new hp2 (.tup [.str "takes", .ref p1])
    have n3 := same_new hl (.lst (talL (shapeC 1 n)))
    have n4 := same_new hp3 (.tup [.ref p2, .ref l])
    have s13 := n1.trans (n2.trans n3)
    refine q (.ref p3) _ (s13.trans n4) ⟨p3, .ref p2, .ref l, rfl, hid_new (hB.up s13) hp3, dp_up (hid_up (n3.trans n4)) (dp_newT (hid_new (hB.up n1) hp2) (.cons (.str _) (.cons (dp_up (hid_up n2) (dp_newT (hid_new hB hp1) (.cons (.str _) .nil))) .nil))), ⟨l, rfl, hid_up n4 _ _ (hid_new (hB.up (n1.trans n2)) hl)⟩⟩
  · obtain ⟨a, xs, rfl, ha, hxs⟩ := dp_tup_of hk
    obtain ⟨v0, v1, v2, rfl, d0, d1, d2⟩ := dps3_of hxs
    obtain ⟨b, ys, rfl, hb, hys⟩ := dp_tup_of d1
    obtain rfl := dps_ints_of (ns := [n, n]) hys
    have ha' := same_seqT hid_sub ha
    have hb' := same_seqT hid_sub hb
    refine ⟨_, rfl, rfl, _, rfl, ifF (by decide) ?_⟩
    refine ⟨_, rfl, a, _, _, _, rfl, rfl, ha', atI_nat (j := 1) rfl, b, _, _, _, rfl, rfl, hb', atI_nat (j := 0) rfl, sz2, fun p1 hp1 => ?_⟩
    have n1 := same_new hp1 (.tup [.str "look", .int n])
    have lk : Dp K (hid B (upd H p1 (.tup [.str "look", .int n]))) (.ref p1) (lookP n) := dp_newT (hid_new hB hp1) (.cons (.str _) (.cons (.int _) .nil))
    refine ⟨_, rfl, rfl, _, rfl, ifF (by decide) ?_⟩
    refine ⟨_, rfl, rfl, _, rfl, ifT (by decide) ?_⟩
    refine ⟨_, rfl, _, rfl, sz3, fun p3 hp3 => ⟨sz2, fun p4 hp4 => ⟨sz7, fun l hl => ⟨sz2, fun p5 hp5 => ?_⟩⟩⟩⟩
    have n3 := same_new hp3 (.tup [.str "sum", .ref p1, .ref p1])
    have n4 := same_new hp4 (.tup [.str "takes", .ref p3])
    have n5 := same_new hl (.lst (talL (shapeC 2 n)))
    have n6 := same_new hp5 (.tup [.ref p4, .ref l])
    have s15 := n1.trans (n3.trans (n4.trans n5))
    refine q (.ref p5) _ (s15.trans n6) ⟨p5, .ref p4, .ref l, rfl, hid_new (hB.up s15) hp5, dp_up (hid_up (n5.trans n6)) (dp_newT (hid_new (hB.up (n1.trans n3)) hp4) (.cons (.str _) (.cons (dp_up (hid_up n4) (dp_newT (hid_new (hB.up n1) hp3) (.cons (.str _) (.cons (dp_up (hid_up n3) lk) (.cons (dp_up (hid_up n3) lk) .nil))))) .nil))), ⟨l, rfl, hid_up n6 _ _ (hid_new (hB.up (n1.trans (n3.trans n4))) hl)⟩⟩
  · have e3 : shapeKd 3 c n = if n = 0 then .tk [0] c else .tk [n, n] n := rfl
    by_cases z : n = 0
    · subst z
      have hk : Dp K (hid B H) kv (Kd.tk [0] c).d := hk
      obtain ⟨a, xs, rfl, ha, hxs⟩ := dp_tup_of hk
      obtain ⟨v0, v1, v2, rfl, d0, d1, d2⟩ := dps3_of hxs
      obtain ⟨b, ys, rfl, hb, hys⟩ := dp_tup_of d1
      obtain rfl := dps_ints_of (ns := [0]) hys
      have ha' := same_seqT hid_sub ha
      have hb' := same_seqT hid_sub hb
      refine ⟨_, rfl, rfl, _, rfl, ifF (by decide) ?_⟩
      refine ⟨_, rfl, a, _, _, _, rfl, rfl, ha', atI_nat (j := 1) rfl, b, _, _, _, rfl, rfl, hb', atI_nat (j := 0) rfl, sz2, fun p1 hp1 => ?_⟩
      have n1 := same_new hp1 (.tup [.str "look", .int 0])
      have lk : Dp K (hid B (upd H p1 (.tup [.str "look", .int 0]))) (.ref p1) (lookP 0) := dp_newT (hid_new hB hp1) (.cons (.str _) (.cons (.int _) .nil))
      refine ⟨_, rfl, rfl, _, rfl, ifF (by decide) ?_⟩
      refine ⟨_, rfl, rfl, _, rfl, ifF (by decide) ?_⟩
      refine ⟨_, rfl, a, _, _, _, rfl, rfl, same_seqT n1 ha', atI_nat (j := 1) rfl, b, _, rfl, .inr (same_seqT n1 hb'), rfl, _, rfl, ifT (by rfl) ?_⟩
      refine ⟨_, rfl, sz1, fun p2 hp2 => ⟨sz3, fun p3 hp3 => ⟨sz2, fun p4 hp4 => ⟨sz7, fun l hl => ⟨sz2, fun p5 hp5 => ?_⟩⟩⟩⟩⟩
      have n2 := same_new hp2 (.tup [.str "number"])
      have n3 := same_new hp3 (.tup [.str "choice", .ref p1, .ref p2])
      have n4 := same_new hp4 (.tup [.str "takes", .ref p3])
      have n5 := same_new hl (.lst (talL (shapeC 3 0)))
      have n6 := same_new hp5 (.tup [.ref p4, .ref l])
      have s15 := n1.trans (n2.trans (n3.trans (n4.trans n5)))
      refine q (.ref p5) _ (s15.trans n6) ⟨p5, .ref p4, .ref l, rfl, hid_new (hB.up s15) hp5, dp_up (hid_up (n5.trans n6)) (dp_newT (hid_new (hB.up (n1.trans (n2.trans n3))) hp4) (.cons (.str _) (.cons (dp_up (hid_up n4) (dp_newT (hid_new (hB.up (n1.trans n2)) hp3) (.cons (.str _) (.cons (dp_up (hid_up (n2.trans n3)) lk) (.cons (dp_up (hid_up n3) (dp_newT (hid_new (hB.up n1) hp2) (.cons (.str _) .nil))) .nil))))) .nil))), ⟨l, rfl, hid_up n6 _ _ (hid_new (hB.up (n1.trans (n2.trans (n3.trans n4)))) hl)⟩⟩
    · rw [e3, if_neg z] at hk
      obtain ⟨a, xs, rfl, ha, hxs⟩ := dp_tup_of hk
      obtain ⟨v0, v1, v2, rfl, d0, d1, d2⟩ := dps3_of hxs
      obtain ⟨b, ys, rfl, hb, hys⟩ := dp_tup_of d1
      obtain rfl := dps_ints_of (ns := [n, n]) hys
      have ha' := same_seqT hid_sub ha
      have hb' := same_seqT hid_sub hb
      refine ⟨_, rfl, rfl, _, rfl, ifF (by decide) ?_⟩
      refine ⟨_, rfl, a, _, _, _, rfl, rfl, ha', atI_nat (j := 1) rfl, b, _, _, _, rfl, rfl, hb', atI_nat (j := 0) rfl, sz2, fun p1 hp1 => ?_⟩
      have n1 := same_new hp1 (.tup [.str "look", .int n])
      have lk : Dp K (hid B (upd H p1 (.tup [.str "look", .int n]))) (.ref p1) (lookP n) := dp_newT (hid_new hB hp1) (.cons (.str _) (.cons (.int _) .nil))
      refine ⟨_, rfl, rfl, _, rfl, ifF (by decide) ?_⟩
      refine ⟨_, rfl, rfl, _, rfl, ifF (by decide) ?_⟩
      refine ⟨_, rfl, a, _, _, _, rfl, rfl, same_seqT n1 ha', atI_nat (j := 1) rfl, b, _, rfl, .inr (same_seqT n1 hb'), rfl, _, rfl, ifF (by rfl) ?_⟩
      refine ⟨_, rfl, _, rfl, sz3, fun p3 hp3 => ⟨sz2, fun p4 hp4 => ⟨sz7, fun l hl => ⟨sz2, fun p5 hp5 => ?_⟩⟩⟩⟩
      have eC : shapeC 3 n = talOf [.op, .look, .look, .take, .choose] := by show (if n = 0 then _ else _) = _; rw [if_neg z]
      have eP : shapeP 3 n = tp [.str "takes", tp [.str "choice", lookP n, lookP n]] := by show tp [.str "takes", if n = 0 then _ else _] = _; rw [if_neg z]
      have n3 := same_new hp3 (.tup [.str "choice", .ref p1, .ref p1])
      have n4 := same_new hp4 (.tup [.str "takes", .ref p3])
      have n5 := same_new hl (.lst (talL (talOf [.op, .look, .look, .take, .choose])))
      have n6 := same_new hp5 (.tup [.ref p4, .ref l])
      have s15 := n1.trans (n3.trans (n4.trans n5))
      rw [eC, eP] at q
      refine q (.ref p5) _ (s15.trans n6) ⟨p5, .ref p4, .ref l, rfl, hid_new (hB.up s15) hp5, dp_up (hid_up (n5.trans n6)) (dp_newT (hid_new (hB.up (n1.trans n3)) hp4) (.cons (.str _) (.cons (dp_up (hid_up n4) (dp_newT (hid_new (hB.up n1) hp3) (.cons (.str _) (.cons (dp_up (hid_up n3) lk) (.cons (dp_up (hid_up n3) lk) .nil))))) .nil))), ⟨l, rfl, hid_up n6 _ _ (hid_new (hB.up (n1.trans (n3.trans n4))) hl)⟩⟩
end
end Ut
set_option Elab.async false
set_option linter.all false
set_option maxRecDepth 100000
set_option maxHeartbeats 4000000
namespace Ut
open PySem PySem.Spec PyProof.Rows L2
def isSh : Str × Wo → Bool
  | (_, .sh _ _) => true
  | _ => false
section
variable {P : Program} {w : World} {K : PySem.W.Frag} {mg : Str → Option Value} {base : Heap}
theorem flat1 {α : Type} (x : α) : ∀ n : Nat, (List.replicate n [x]).flatten = List.replicate n x
  | 0 => rfl
  | n + 1 => by rw [List.replicate_succ, List.flatten_cons, flat1 x n, List.replicate_succ]; rfl
theorem dps_flat {H : Hp} {vs : List V} {ds : List PyData} (h : DpAll K H vs ds) : ∀ n : Nat, DpAll K H (List.replicate n vs).flatten (List.replicate n ds).flatten
  | 0 => .nil
  | n + 1 => by
    rw [List.replicate_succ, List.replicate_succ, List.flatten_cons, List.flatten_cons]
    exact dps_app h (dps_flat h n)
theorem CntAt_got {B : List Addr} {H H' : Hp} {p : Addr} {f : Tal} (d : Dom B H) (h : H p = none) (g : H' p = some (.lst (talL f))) : CntAt (hid B H') (.ref p) f := ⟨p, rfl, hid_got d h g⟩
/-- uses * n -/
theorem us_rep {H : Hp} {B : List Addr} {v : V} {us : List Use} {n : Nat} {Q : VK} (hB : Dom B H) (h : UsAt K (hid B H) v us) (hl : n * us.length ≤ 10000000) (hn : n ≤ 1000000) (k : ∀ p H', Same H H' → UsAt K (hid B H') (.ref p) (List.replicate n us).flatten → Q (.ref p) H') : rRep v (.int (n : Nat)) H Q := by
  obtain ⟨a, xs, rfl, ha, hx⟩ := h
  have lx := dps_len hx
  rw [List.length_map] at lx
  refine ⟨a, (n : Nat), xs, rfl, rfl, hid_at ha, by omega, by omega, ?_, fun p hp => ?_⟩
  · rw [Int.toNat_natCast, lx, Nat.mul_comm]; show _ ≤ 2 ^ 24; omega
  · refine k p _ (same_new hp _) ⟨p, _, rfl, hid_new hB hp, ?_⟩
    rw [Int.toNat_natCast, flat_map]
    exact dps_up (hid_up (same_new hp _)) (dps_flat hx n)
/-- (x,) * n -/
theorem rep_use {H : Hp} {B : List Addr} {a : Addr} {v : V} {d : PyData} {n : Nat} {Q : VK} (hB : Dom B H) (h : hid B H a = some (.tup [v])) (hd : Dp K (hid B H) v d) (hn : n ≤ 1000) (k : ∀ p H', Same H H' → Dp K (hid B H') (.ref p) (tp (List.replicate n d)) → Q (.ref p) H') : rRepK K (.ref a) (.int (n : Nat)) H Q := by
  refine ⟨a, n, [v], rfl, rfl, SqT.new (hid_at h), by simp, hn, by show 1 ≤ 1000; decide, fun e => ?_, fun _ p hp => ?_⟩
  · subst e
    exact k a H (Same.refl H) (dp_newT h (.cons hd .nil))
  · rw [flat1]
    exact k p _ (same_new hp _) (dp_newT (hid_new hB hp) (dps_up (hid_up (same_new hp _)) (dps_rep hd n)))
theorem sc_law_used : FnScope ["_law_state_here", "_law_scope", "_law_deep", "_law_known", "_law_name", "_law_worth", "_law_given", "_law_kind", "_law_many", "_law_told", "_law_counts"] ["_law_state_here", "_law_scope", "_law_deep"] (defScope S_law_used) := ⟨rfl, rfl, rfl, by decide +kernel, rfl, by decide +kernel, by decide +kernel⟩
theorem ok_used (T : Tx w K mg) (n : Nat) (c_law_draw : Cal P w K mg base 1 "_law_draw" spDraw) (c_law_all : Cal P w K mg base 1 "_law_all" (spAll K)) (c_law_leaf : Cal P w K mg base 3 "_law_leaf" (spLeaf K)) (c_law_shape_kind : Cal P w K mg base 1 "_law_shape_kind" (spShapeKind K))
    (c_law_made : Cal P w K mg base (2 * n + 4) "_law_made" (spMade K n)) : Cal P w K mg base (2 * n + 5) "_law_used" (spMore K n) := by
  refine cal_mk T 45 45 rfl rfl sc_law_used (fun _ _ _ _ _ _ us hl => match us, hl with | [_, _, _], _ => rfl) (fun vs H Q E h => ?_) (fun cdv A outer s0 H vs Q E hr h => ?_)
  · obtain ⟨S, C, sv, G, d, _, rfl, _⟩ := h
    rfl
  obtain ⟨S, C, sv, G, d, hdn, rfl, hg, hsc, hG, q⟩ := h
  refine ⟨_, (pss_cons (ps_setLc (i := 3) (own := [("_law_name", 4), ("_law_worth", 5)]) (by rfl) sc_law_used.nd rfl rfl (sw_true rfl rfl rfl (by decide +kernel)) (pi_list (pv 1)) (blkOk_by (own := [("_law_name", 4), ("_law_worth", 5)]) (N := ["_law_state_here", "_law_scope", "_law_deep", "_law_known", "_law_name", "_law_worth", "_law_given", "_law_kind", "_law_many", "_law_told", "_law_counts"]) (sc := defScope S_law_used) (by decide +kernel)) (fun _ _ _ _ _ => (pg_tupK (K0 := K) (n := 2) rfl (by rfl) (pgs_cons (pg_name (i := 4) sc_law_used.nd rfl (by first | exact Or.inl rfl | exact Or.inr rfl)) (pgs_cons (pg_name (i := 5) sc_law_used.nd rfl (by first | exact Or.inl rfl | exact Or.inr rfl)) pgs_nil)))) (fun _ _ _ _ _ => pts_one (pt_val (pe_isiK (K0 := K) rfl (pv 5) (pe_bltn (v := .ty "tuple") (by rfl) (T.free 77 rfl) (by decide +kernel) rfl) (by rfl) (T.free 69 rfl)))) (fun _ _ _ _ _ => (pe_tup (pa_cons (pv 4) (pa_cons (pv 5) pa_nil)))))
      (pss_cons (ps_if (pt_cmpR op_eq (pe_callB call_len_seq (by rfl) (T.free 70 rfl) (by decide +kernel) (pa_cons (pv 3) pa_nil)) pe_int (nomark _)) (pss_one (ps_ret (pe_c c_law_leaf hr (by omega) (by rfl) (pa_cons (pv 0) (pa_cons (pv 1) pa_nil))))) pss_nil)
      (pss_cons (ps_asg (pe_ix ix_list (pv 3) (pe_c c_law_draw hr (by omega) (by rfl) (pa_cons (pv 0) (pa_cons (pe_callB call_len_seq (by rfl) (T.free 70 rfl) (by decide +kernel) (pa_cons (pv 3) pa_nil)) pa_nil))) (fun _ _ => rfl)) (pg_tup (by rfl) (pgs_cons (pg_name (i := 4) sc_law_used.nd rfl (Or.inl rfl)) (pgs_cons (pg_name (i := 5) sc_law_used.nd rfl (Or.inl rfl)) pgs_nil))))
      (pss_cons (ps_set (i := 6) sc_law_used.nd rfl (Or.inl rfl) (pe_c c_law_made hr (by omega) (by rfl) (pa_cons (pv 0) (pa_cons (pv 1) (pa_cons (pv 2) pa_nil)))))
      (pss_cons (ps_set (i := 7) sc_law_used.nd rfl (Or.inl rfl) (pe_c c_law_shape_kind hr (by omega) (by rfl) (pa_cons (pe_ix ix_tup (pv 5) pe_int (fun _ _ => rfl)) (pa_cons (pe_ix ix_tup (pv 5) pe_int (fun _ _ => rfl)) (pa_cons (pe_ix ix_list (pv 6) pe_int (fun _ _ => rfl)) pa_nil)))))
      (pss_cons (ps_set (i := 8) sc_law_used.nd rfl (Or.inl rfl) (pe_callB call_len_seq (by rfl) (T.free 70 rfl) (by decide +kernel) (pa_cons (pe_ix ix_tup (pv 7) pe_int (fun _ _ => rfl)) pa_nil)))
      (pss_cons (ps_set (i := 9) sc_law_used.nd rfl (Or.inl rfl) (pe_tup (pa_cons pe_str (pa_cons (pe_tup (pa_cons pe_str (pa_cons (pv 4) pa_nil))) (pa_cons (pe_ifExp (pt_cmpR op_gt (pv 8) pe_int (nomark _)) (pe_ix ix_list (pv 6) pe_int (fun _ _ => rfl)) (pe_tup (pa_cons pe_str (pa_cons pe_str (pa_cons (pe_tup (pa_cons pe_str (pa_cons pe_str pa_nil))) pa_nil))))) pa_nil)))))
      (pss_cons (ps_set (i := 10) sc_law_used.nd rfl (Or.inl rfl) (pe_c c_law_all hr (by omega) (by rfl) (pa_cons (pe_op op_cat (pe_op op_rep (pe_lst (pa_cons (pe_ix ix_list (pv 6) pe_int (fun _ _ => rfl)) pa_nil)) (pv 8)) (pe_lst (pa_cons (pe_lst (pa_cons pe_int (pa_cons pe_int (pa_cons pe_int (pa_cons pe_int (pa_cons pe_int (pa_cons pe_int (pa_cons pe_int pa_nil)))))))) pa_nil))) pa_nil)))
      (pss_one (ps_ret (pe_lst (pa_cons (pv 9) (pa_cons (pe_tup (pa_cons pe_str (pa_cons (pe_tup (pa_cons pe_str (pa_cons (pv 7) pa_nil))) (pa_cons (pe_op op_repK (pe_tup (pa_cons (pe_ix ix_list (pv 6) pe_int (fun _ _ => rfl)) pa_nil)) (pv 8)) pa_nil)))) (pa_cons (pe_ix ix_tup (pv 7) pe_int (fun _ _ => rfl)) (pa_cons (pe_op op_cat (pe_lst (pa_cons (pe_tup (pa_cons (pv 4) (pa_cons (pv 7) pa_nil))) pa_nil)) (pe_op op_rep (pe_ix ix_list (pv 6) pe_int (fun _ _ => rfl)) (pv 8))) (pa_cons (pv 10) pa_nil)))))))))))))))), ?_⟩
  have hsc0 := hsc
  obtain ⟨a, zs, rfl, ha, hz, hok⟩ := hsc
  have hB := hg.dom
  have zl : zs.length = G.length := by rw [dps_len hz, List.length_map]
  refine ⟨_, rfl, a, rfl, ⟨_, SqL.new (hid_at ha)⟩, fun D hD => ?_⟩
  refine lc_list (K := K) (a := a) (xs := zs) (fun i Hi => ∃ acc, Hi D = some (.lst acc) ∧ Same H (hid [D] Hi) ∧ DpAll K (hid (D :: [S, C]) Hi) acc (((G.take i).filter isSh).map scD))
    ⟨[], upd_same, same_hid_new hD, .nil⟩ (fun i Hi _ h => ?_) ?_ ?_
  · obtain ⟨acc, _, sH, _⟩ := h
    exact (sH.trans hid_sub).seq (SqL.new (hid_at ha))
  · rintro i z Hi hi ⟨acc, hDi, sH, hacc⟩
    obtain ⟨d0', ed, hd⟩ := dps_at hz hi
    rw [List.getElem?_map] at ed
    obtain ⟨u, eu, rfl⟩ := Option.map_eq_some_iff.mp ed
    have sM := same_hid_more (B := [S, C]) (sH.trans hid_sub) hD
    have hlt : i < zs.length := (List.getElem?_eq_some_iff.mp hi).1
    obtain ⟨x, wo⟩ := u
    have hal := dps_len hacc
    have hfl : ((G.take i).filter isSh).length ≤ G.length := Nat.le_trans (List.length_filter_le _ _) (by rw [List.length_take]; omega)
    rw [List.length_map] at hal
    cases wo with
    | int j =>
      obtain ⟨b, ys, rfl, hb, hys⟩ := dp_tup_of hd
      obtain ⟨y0, y1, rfl, d0, d1⟩ := dps2_of hys
      obtain rfl := dp_str_of d0
      obtain rfl := dp_int_of d1
      refine ⟨b, _, rfl, same_seqT (hid_sub.trans (sH.trans hid_sub)) hb, rfl, _, _, rfl, _, _, rfl, rfl, rfl, ?_⟩
      refine ⟨_, rfl, false, isi_int k_int_tuple, _, rfl, iteF ?_⟩
      refine ⟨acc, hDi, sH, ?_⟩
      rw [filter_snoc isSh eu, if_neg (by show ¬ (false = true); decide), List.append_nil]
      exact hacc
    | sh s0 c0 =>
      obtain ⟨b, ys, rfl, hb, hys⟩ := dp_tup_of hd
      obtain ⟨y0, y1, rfl, d0, d1⟩ := dps2_of hys
      obtain rfl := dp_str_of d0
      have d1' := d1
      obtain ⟨b2, ys2, rfl, hb2, hys2⟩ := dp_tup_of d1
      refine ⟨b, _, rfl, same_seqT (hid_sub.trans (sH.trans hid_sub)) hb, rfl, _, _, rfl, _, _, rfl, rfl, rfl, ?_⟩
      refine ⟨_, rfl, true, isi_tup (same_seqT (hid_sub.trans (sH.trans hid_sub)) hb2) k_tuple_tuple, _, rfl, iteT ?_⟩
      refine ⟨_, rfl, _, rfl, sz2, fun p hp => ?_⟩
      have n1 := same_new hp (.tup [.str x, .ref b2])
      have neD : D ≠ p := ne_of_none hDi hp
      refine ⟨acc, by rw [upd_ne neD]; exact hDi, (by show _ < 2 ^ 24; omega), acc ++ [.ref p], upd_same, (sH.trans (hid_up n1)).trans (samex_hid (samex_upd (by simp) _)), ?_⟩
      rw [filter_snoc isSh eu, if_pos (show isSh (x, Wo.sh s0 c0) = true from rfl), List.map_append]
      have s5 : Same (hid (D :: [S, C]) (upd Hi p (.tup [.str x, .ref b2]))) (hid (D :: [S, C]) (upd (upd Hi p (.tup [.str x, .ref b2])) D (.lst (acc ++ [.ref p])))) := samex_hid (samex_upd (by simp) _)
      refine dps_app (dps_up ((hid_up n1).trans s5) hacc) (.cons (dp_up s5 (dp_newT (hid_new ?_ hp) (.cons (.str x) (.cons (dp_up (sM.trans (hid_up n1)) d1') .nil)))) .nil)
      exact (hB.up (sH.trans hid_sub)).cons (by rw [hDi]; exact Option.some_ne_none _)
  rintro H1 ⟨acc, hD1, sH, hacc⟩
  rw [zl, List.take_length] at hacc
  have s01 := sH.trans hid_sub
  have g1 := hg.up s01
  have hB1 := g1.dom
  have hDo : D ∉ [S, C] := out2 hg hD
  have hacc1 : DpAll K (hid [S, C] H1) acc ((G.filter isSh).map scD) := dps_up hid_less hacc
  have hD1h : hid [S, C] H1 D = some (.lst acc) := by rw [hid_out hDo]; exact hD1
  clear hacc
  have hlen : acc.length = (G.filter isSh).length := by rw [dps_len hacc1, List.length_map]
  have hfl : (G.filter isSh).length ≤ G.length := List.length_filter_le _ _
  refine ⟨_, rfl, D, _, rfl, .inl (SqL.new (hid_at hD1h)), rfl, _, rfl, ?_⟩
  by_cases c0 : acc.length = 0
  · refine ifT (by rw [c0]; rfl) ?_
    refine ⟨_, rfl, _, rfl, S, C, .ref a, G, rfl, g1, scope_up (hid_up s01) hsc0, by omega, fun v' m H' x' g' m' o' => ?_⟩
    exact q v' m H' ((same_x s01).trans x') g' m' (o'.mono (Nat.zero_le _))
  refine ifF (decide_eq_false (by simp; exact fun e => c0 (by rw [e]; rfl))) ?_
  refine ⟨_, rfl, _, rfl, _, rfl, D, _, rfl, .inl (SqL.new (hid_at hD1h)), S, C, acc.length, rfl, by omega, Nat.le_trans (by omega : acc.length ≤ 14) (by decide), g1, fun r2 H2 hr2 x2 g2 => ?_⟩
  have hD2 := samex_hid x2 _ _ hD1h
  have hacc2 := dps_up (samex_hid x2) hacc1
  have hr5 : r2 < ((G.filter isSh).map scD).length := by rw [List.length_map]; omega
  obtain ⟨y, ey, dy⟩ := dps_at' hacc2 (List.getElem?_eq_getElem hr5)
  rw [List.getElem_map] at dy
  have hmem : (G.filter isSh)[r2]'(by rw [List.length_map] at hr5; exact hr5) ∈ G.filter isSh := List.getElem_mem _
  generalize (G.filter isSh)[r2]'(by rw [List.length_map] at hr5; exact hr5) = u at dy hmem
  obtain ⟨hm1, hm2⟩ := List.mem_filter.mp hmem
  obtain ⟨x, wo⟩ := u
  cases wo with
  | int j => cases hm2
  | sh s c =>
  obtain ⟨b, ys, rfl, hb, hys⟩ := dp_tup_of dy
  obtain ⟨y0, y1, rfl, d0, d1⟩ := dps2_of hys
  obtain rfl := dp_str_of d0
  obtain ⟨wa, ws, rfl, hwa, hws⟩ := dp_tup_of d1
  obtain ⟨w0, w1, rfl, dw0, dw1⟩ := dps2_of hws
  obtain rfl := dp_int_of dw0
  obtain rfl := dp_int_of dw1
  have hs4 : s < 4 := (hok _ hm1).2 s c rfl
  refine ⟨D, _, _, _, rfl, rfl, SqL.new (hid_at hD2), atI_nat ey, ?_⟩
  refine ⟨b, _, rfl, same_seqT hid_sub hb, rfl, _, _, rfl, _, _, rfl, rfl, ?_⟩
  have x02 := (same_x s01).trans x2
  refine ⟨_, rfl, _, rfl, _, rfl, S, C, .ref a, G, d, hdn, rfl, g2, scope_up (samex_hid x02) hsc0, by omega, fun v3 ma H3 x3 g3 ma3 oka => ?_⟩
  have x03 := x02.trans x3
  obtain ⟨a1, t1, pa, u1, c1, rfl, ha1, hat, hap, hau, hac⟩ := ma3
  have la := ub_s (by omega : d ≤ 3) oka
  have hwa3 := same_seqT (samex_hid x3) hwa
  refine ⟨_, rfl, wa, _, _, _, rfl, rfl, same_seqT hid_sub hwa3, atI_nat (j := 0) rfl, _, rfl, wa, _, _, _, rfl, rfl, same_seqT hid_sub hwa3, atI_nat (j := 1) rfl, _, rfl, a1, _, _, _, rfl, rfl, SqL.new (hid_at ha1), atI_nat (j := 2) rfl, ?_⟩
  refine ⟨[S, C], s, c, ma.i, rfl, hs4, g3.dom, fun kv H4 s4 hkd => ?_⟩
  have g4 := g3.up s4
  have hB4 := g4.dom
  have x04 := x03.trans (same_x s4)
  have qa := SqL.new (K := K) (hid_at (hid_up s4 _ _ ha1))
  have hat := dp_up (hid_up s4) hat
  have hap := dp_up (hid_up s4) hap
  have hau := us_up (hid_up s4) hau
  have hac := cnt_up (hid_up s4) hac
  have hkd0 := hkd
  rw [shape_eq] at hkd
  obtain ⟨ka, kx, rfl, hka, hkx⟩ := dp_tup_of hkd
  obtain ⟨k0, k1, k2, rfl, e0, e1, e2⟩ := dps3_of hkx
  obtain ⟨kb, ky, rfl, hkb, hky⟩ := dp_tup_of e1
  obtain rfl := dps_ints_of hky
  obtain rfl := dp_int_of e2
  have hkd := hkd0
  clear hkd0
  have hmany := many_le s ma.i
  have hrl : ((((List.replicate (manyOf s ma.i) ma.i).map V.int).length : Nat) : Int) = ((manyOf s ma.i : Nat) : Int) := by rw [List.length_map, List.length_replicate]
  refine ⟨_, rfl, ka, _, _, _, rfl, rfl, same_seqT hid_sub hka, atI_nat (j := 1) rfl, kb, _, rfl, .inr (same_seqT hid_sub hkb), ?_⟩
  refine ⟨_, rfl, sz2, fun p1 hp1 => ?_⟩
  have n1 := same_new hp1 (.tup [.str "name", .str x])
  have dn0 : Dp K (hid [S, C] (upd H4 p1 (.tup [.str "name", .str x]))) (.ref p1) (Tm.name x).told := dp_newT (hid_new hB4 hp1) (.cons (.str _) (.cons (.str _) .nil))
  refine ⟨_, rfl, _, _, rfl, rfl, _, rfl, ?_⟩
  by_cases c0 : manyOf s ma.i > 0
  · refine ifT (decide_eq_true (by rw [hrl]; omega)) ?_
    refine ⟨_, rfl, a1, _, _, _, rfl, rfl, n1.seq qa, atI_nat (j := 0) rfl, ?_⟩
    obtain ⟨H5, s5, dn5, eH⟩ : ∃ H5, Same H4 H5 ∧ Dp K (hid [S, C] H5) (.ref p1) (Tm.name x).told ∧ H5 = upd H4 p1 (.tup [.str "name", .str x]) := ⟨_, n1, dn0, rfl⟩
    obtain ⟨tw, htw, etw⟩ : ∃ tw, Dp K (hid [S, C] H5) tw (if manyOf s ma.i > 0 then ma.t else wT).told ∧ tw = t1 := ⟨t1, by rw [if_pos c0]; exact dp_up (hid_up s5) hat, rfl⟩
    rw [← eH, ← etw]
    clear eH etw dn0 n1 hp1
    have hB5 := hB4.up s5
    have hp15 := dn5
    refine ⟨sz3, fun p2 hp2 => ?_⟩
    have n6 := same_new hp2 (.tup [.str "give", .ref p1, tw])
    have s6 := s5.trans n6
    have dtold := dp_newT (K := K) (hid_new hB5 hp2) (.cons (.str "give") (.cons (dp_up (hid_up n6) hp15) (.cons (dp_up (hid_up n6) htw) .nil)))
    refine ⟨_, rfl, a1, _, _, _, rfl, rfl, s6.seq qa, atI_nat (j := 4) rfl, sz1, fun l1 hl1 => ?_⟩
    have n7 := same_new hl1 (.lst [c1])
    refine ⟨_, rfl, l1, _, _, rfl, rfl, upd_same, by omega, by omega, ?_, fun l2 hl2 => ?_⟩
    · rw [hrl, Int.toNat_natCast]; show 1 * manyOf s ma.i ≤ 2 ^ 24; omega
    rw [hrl, Int.toNat_natCast, flat1]
    have n8 := same_new hl2 (.lst (List.replicate (manyOf s ma.i) c1))
    refine ⟨sz7, fun l3 hl3 => ⟨sz1, fun l4 hl4 => ?_⟩⟩
    have n9 := same_new hl3 (.lst (talL (talOf [.op, .look])))
    have n10 := same_new hl4 (.lst [.ref l3])
    refine ⟨l2, l4, _, _, rfl, rfl, (n9.trans n10) _ _ upd_same, upd_same, (by rw [List.length_replicate]; show manyOf s ma.i + 1 ≤ 2 ^ 24; omega), fun l5 hl5 => ?_⟩
    have n11 := same_new hl5 (.lst (List.replicate (manyOf s ma.i) c1 ++ [.ref l3]))
    have s711 := n7.trans (n8.trans (n9.trans (n10.trans n11)))
    have s11 := s6.trans s711
    refine ⟨l5, _, List.replicate (manyOf s ma.i) ma.tl ++ [talOf [.op, .look]], rfl, SqL.new upd_same, (by rw [List.length_append, List.length_replicate]; show manyOf s ma.i + 1 ≤ 1000000; omega), cnts_app (cnts_rep (cnt_up (hid_sub.trans s11) hac) _) (.cons ⟨l3, rfl, (n10.trans n11) _ _ upd_same⟩ .nil), fun l6 H6 s12 hl6 hl6' => ?_⟩
    have s6e := s711.trans s12
    have s12e := s6.trans s6e
    have hB12 := hB4.up s12e
    have hcnt := CntAt_got (hB4.up s11) hl6 hl6'
    refine ⟨_, rfl, _, rfl, sz2, fun p3 hp3 => ?_⟩
    have n13 := same_new hp3 (.tup [.str "look", .ref ka])
    have s13 := s12e.trans n13
    refine ⟨_, rfl, a1, _, _, _, rfl, rfl, s13.seq qa, atI_nat (j := 1) rfl, sz1, fun p4 hp4 => ?_⟩
    have n14 := same_new hp4 (.tup [pa])
    have s14 := s13.trans n14
    refine ⟨_, rfl, ?_⟩
    refine rep_use (hB4.up s14) (hid_new (hB4.up s13) hp4) (dp_up (hid_up s14) hap) (by omega) fun p5 H7 s15 hdp5 => ?_
    have s15e := s14.trans s15
    refine ⟨sz3, fun p6 hp6 => ?_⟩
    have n16 := same_new hp6 (.tup [.str "gives", .ref p3, .ref p5])
    have s16 := s15e.trans n16
    refine ⟨_, rfl, ka, _, _, _, rfl, rfl, same_seqT (hid_sub.trans s16) hka, atI_nat (j := 2) rfl, ?_⟩
    refine ⟨_, rfl, _, rfl, sz2, fun p7 hp7 => ⟨sz1, fun l8 hl8 => ?_⟩⟩
    have n17 := same_new hp7 (.tup [.str x, .ref ka])
    have n18 := same_new hl8 (.lst [.ref p7])
    have s18 := s16.trans (n17.trans n18)
    refine ⟨_, rfl, a1, _, _, _, rfl, rfl, s18.seq qa, atI_nat (j := 3) rfl, _, rfl, ?_⟩
    refine us_rep (n := manyOf s ma.i) (hB4.up s18) (us_up (hid_up s18) hau) (by rw [List.length_map]; have := Nat.mul_le_mul_right ma.us.length hmany; omega) (by omega) fun l9 H8 s19 hu9 => ?_
    have s19e := s18.trans s19
    have hu8 : UsAt K (hid [S, C] H8) (.ref l8) [(x, (shapeKd s c ma.i).d)] := ⟨l8, [.ref p7], rfl, hid_up s19 _ _ (hid_new (hB4.up (s16.trans n17)) hl8), .cons (dp_up (hid_up (n18.trans s19)) (dp_newT (hid_new (hB4.up s16) hp7) (.cons (.str _) (.cons (dp_up (hid_up (s16.trans n17)) hkd) .nil)))) .nil⟩
    refine us_cat (hB4.up s19e) hu8 hu9 (by rw [flat_len, List.length_map]; have := Nat.mul_le_mul_right ma.us.length hmany; show 1 + _ ≤ _; omega) fun l10 H9 s20 hu10 => ?_
    have s20e := s19e.trans s20
    refine ⟨_, rfl, sz5, fun l11 hl11 => ?_⟩
    have n21 := same_new hl11 (.lst [.ref p2, .ref p6, .int (numOf s c ma.i), .ref l10, .ref l6])
    have s21 := s20e.trans n21
    have e18 := n18.trans (s19.trans (s20.trans n21))
    have e16 := n17.trans e18
    have e12 := n13.trans (n14.trans (s15.trans (n16.trans e16)))
    refine q (.ref l11) ⟨.gv (.name x) (if manyOf s ma.i > 0 then ma.t else wT), tp [.str "gives", tp [.str "look", (shapeKd s c ma.i).d], tp (List.replicate (manyOf s ma.i) ma.p)], numOf s c ma.i, (x, shapeKd s c ma.i) :: (List.replicate (manyOf s ma.i) ma.us).flatten, talSum (List.replicate (manyOf s ma.i) ma.tl ++ [talOf [.op, .look]])⟩ _ (x04.trans (same_x s21)) (g4.up s21)
      ⟨l11, .ref p2, .ref p6, .ref l10, .ref l6, rfl, hid_new (hB4.up s20e) hl11, dp_up (hid_up (s6e.trans e12)) dtold, ?_, ?_, cnt_up (hid_up e12) hcnt⟩ (used_ok (hok _ hm1).1 hm1 oka)
    · exact dp_up (hid_up e16) (dp_newT (hid_new (hB4.up s15e) hp6) (.cons (.str _) (.cons (dp_up (hid_up (n14.trans (s15.trans n16))) (dp_newT (hid_new hB12 hp3) (.cons (.str _) (.cons (dp_up (hid_up s13) hkd) .nil)))) (.cons (dp_up (hid_up n16) hdp5) .nil))))
    · show UsAt K _ _ (((x, shapeKd s c ma.i) :: (List.replicate (manyOf s ma.i) ma.us).flatten).map toUse)
      rw [List.map_cons, flat_map]
      exact us_up (hid_up n21) hu10
  · refine ifF (decide_eq_false (by rw [hrl]; omega)) ?_
    refine ⟨sz2, fun w1 hw1 => ⟨sz3, fun w2 hw2 => ?_⟩⟩
    have n2 := same_new hw1 (.tup [.str "name", .str "w"])
    have n3 := same_new hw2 (.tup [.str "again", .str "w", .ref w1])
    obtain ⟨H5, s5, dn5, eH⟩ : ∃ H5, Same H4 H5 ∧ Dp K (hid [S, C] H5) (.ref p1) (Tm.name x).told ∧ H5 = upd (upd (upd H4 p1 (.tup [.str "name", .str x])) w1 (.tup [.str "name", .str "w"])) w2 (.tup [.str "again", .str "w", .ref w1]) := ⟨_, n1.trans (n2.trans n3), dp_up (hid_up (n2.trans n3)) dn0, rfl⟩
    obtain ⟨tw, htw, etw⟩ : ∃ tw, Dp K (hid [S, C] H5) tw (if manyOf s ma.i > 0 then ma.t else wT).told ∧ tw = .ref w2 := by
      refine ⟨.ref w2, ?_, rfl⟩
      rw [if_neg c0, eH]
      exact dp_newT (hid_new (hB4.up (n1.trans n2)) hw2) (.cons (.str _) (.cons (.str _) (.cons (dp_up (hid_up n3) (dp_newT (hid_new (hB4.up n1) hw1) (.cons (.str _) (.cons (.str _) .nil)))) .nil)))
    rw [← eH, ← etw]
    clear eH etw dn0 n1 hp1
    have hB5 := hB4.up s5
    have hp15 := dn5
    refine ⟨sz3, fun p2 hp2 => ?_⟩
    have n6 := same_new hp2 (.tup [.str "give", .ref p1, tw])
    have s6 := s5.trans n6
    have dtold := dp_newT (K := K) (hid_new hB5 hp2) (.cons (.str "give") (.cons (dp_up (hid_up n6) hp15) (.cons (dp_up (hid_up n6) htw) .nil)))
    refine ⟨_, rfl, a1, _, _, _, rfl, rfl, s6.seq qa, atI_nat (j := 4) rfl, sz1, fun l1 hl1 => ?_⟩
    have n7 := same_new hl1 (.lst [c1])
    refine ⟨_, rfl, l1, _, _, rfl, rfl, upd_same, by omega, by omega, ?_, fun l2 hl2 => ?_⟩
    · rw [hrl, Int.toNat_natCast]; show 1 * manyOf s ma.i ≤ 2 ^ 24; omega
    rw [hrl, Int.toNat_natCast, flat1]
    have n8 := same_new hl2 (.lst (List.replicate (manyOf s ma.i) c1))
    refine ⟨sz7, fun l3 hl3 => ⟨sz1, fun l4 hl4 => ?_⟩⟩
    have n9 := same_new hl3 (.lst (talL (talOf [.op, .look])))
    have n10 := same_new hl4 (.lst [.ref l3])
    refine ⟨l2, l4, _, _, rfl, rfl, (n9.trans n10) _ _ upd_same, upd_same, (by rw [List.length_replicate]; show manyOf s ma.i + 1 ≤ 2 ^ 24; omega), fun l5 hl5 => ?_⟩
    have n11 := same_new hl5 (.lst (List.replicate (manyOf s ma.i) c1 ++ [.ref l3]))
    have s711 := n7.trans (n8.trans (n9.trans (n10.trans n11)))
    have s11 := s6.trans s711
    refine ⟨l5, _, List.replicate (manyOf s ma.i) ma.tl ++ [talOf [.op, .look]], rfl, SqL.new upd_same, (by rw [List.length_append, List.length_replicate]; show manyOf s ma.i + 1 ≤ 1000000; omega), cnts_app (cnts_rep (cnt_up (hid_sub.trans s11) hac) _) (.cons ⟨l3, rfl, (n10.trans n11) _ _ upd_same⟩ .nil), fun l6 H6 s12 hl6 hl6' => ?_⟩
    have s6e := s711.trans s12
    have s12e := s6.trans s6e
    have hB12 := hB4.up s12e
    have hcnt := CntAt_got (hB4.up s11) hl6 hl6'
    refine ⟨_, rfl, _, rfl, sz2, fun p3 hp3 => ?_⟩
    have n13 := same_new hp3 (.tup [.str "look", .ref ka])
    have s13 := s12e.trans n13
    refine ⟨_, rfl, a1, _, _, _, rfl, rfl, s13.seq qa, atI_nat (j := 1) rfl, sz1, fun p4 hp4 => ?_⟩
    have n14 := same_new hp4 (.tup [pa])
    have s14 := s13.trans n14
    refine ⟨_, rfl, ?_⟩
    refine rep_use (hB4.up s14) (hid_new (hB4.up s13) hp4) (dp_up (hid_up s14) hap) (by omega) fun p5 H7 s15 hdp5 => ?_
    have s15e := s14.trans s15
    refine ⟨sz3, fun p6 hp6 => ?_⟩
    have n16 := same_new hp6 (.tup [.str "gives", .ref p3, .ref p5])
    have s16 := s15e.trans n16
    refine ⟨_, rfl, ka, _, _, _, rfl, rfl, same_seqT (hid_sub.trans s16) hka, atI_nat (j := 2) rfl, ?_⟩
    refine ⟨_, rfl, _, rfl, sz2, fun p7 hp7 => ⟨sz1, fun l8 hl8 => ?_⟩⟩
    have n17 := same_new hp7 (.tup [.str x, .ref ka])
    have n18 := same_new hl8 (.lst [.ref p7])
    have s18 := s16.trans (n17.trans n18)
    refine ⟨_, rfl, a1, _, _, _, rfl, rfl, s18.seq qa, atI_nat (j := 3) rfl, _, rfl, ?_⟩
    refine us_rep (n := manyOf s ma.i) (hB4.up s18) (us_up (hid_up s18) hau) (by rw [List.length_map]; have := Nat.mul_le_mul_right ma.us.length hmany; omega) (by omega) fun l9 H8 s19 hu9 => ?_
    have s19e := s18.trans s19
    have hu8 : UsAt K (hid [S, C] H8) (.ref l8) [(x, (shapeKd s c ma.i).d)] := ⟨l8, [.ref p7], rfl, hid_up s19 _ _ (hid_new (hB4.up (s16.trans n17)) hl8), .cons (dp_up (hid_up (n18.trans s19)) (dp_newT (hid_new (hB4.up s16) hp7) (.cons (.str _) (.cons (dp_up (hid_up (s16.trans n17)) hkd) .nil)))) .nil⟩
    refine us_cat (hB4.up s19e) hu8 hu9 (by rw [flat_len, List.length_map]; have := Nat.mul_le_mul_right ma.us.length hmany; show 1 + _ ≤ _; omega) fun l10 H9 s20 hu10 => ?_
    have s20e := s19e.trans s20
    refine ⟨_, rfl, sz5, fun l11 hl11 => ?_⟩
    have n21 := same_new hl11 (.lst [.ref p2, .ref p6, .int (numOf s c ma.i), .ref l10, .ref l6])
    have s21 := s20e.trans n21
    have e18 := n18.trans (s19.trans (s20.trans n21))
    have e16 := n17.trans e18
    have e12 := n13.trans (n14.trans (s15.trans (n16.trans e16)))
    refine q (.ref l11) ⟨.gv (.name x) (if manyOf s ma.i > 0 then ma.t else wT), tp [.str "gives", tp [.str "look", (shapeKd s c ma.i).d], tp (List.replicate (manyOf s ma.i) ma.p)], numOf s c ma.i, (x, shapeKd s c ma.i) :: (List.replicate (manyOf s ma.i) ma.us).flatten, talSum (List.replicate (manyOf s ma.i) ma.tl ++ [talOf [.op, .look]])⟩ _ (x04.trans (same_x s21)) (g4.up s21)
      ⟨l11, .ref p2, .ref p6, .ref l10, .ref l6, rfl, hid_new (hB4.up s20e) hl11, dp_up (hid_up (s6e.trans e12)) dtold, ?_, ?_, cnt_up (hid_up e12) hcnt⟩ (used_ok (hok _ hm1).1 hm1 oka)
    · exact dp_up (hid_up e16) (dp_newT (hid_new (hB4.up s15e) hp6) (.cons (.str _) (.cons (dp_up (hid_up (n14.trans (s15.trans n16))) (dp_newT (hid_new hB12 hp3) (.cons (.str _) (.cons (dp_up (hid_up s13) hkd) .nil)))) (.cons (dp_up (hid_up n16) hdp5) .nil))))
    · show UsAt K _ _ (((x, shapeKd s c ma.i) :: (List.replicate (manyOf s ma.i) ma.us).flatten).map toUse)
      rw [List.map_cons, flat_map]
      exact us_up (hid_up n21) hu10
end
end Ut
set_option Elab.async false
set_option linter.all false
set_option maxRecDepth 100000
set_option maxHeartbeats 0
namespace Ut
open PySem PySem.Spec PyProof.Rows L2
section
variable {P : Program} {w : World} {K : PySem.W.Frag} {mg : Str → Option Value} {base : Heap}
theorem sc_law_loop : FnScope ["_law_state_here", "_law_many", "_law_first", "_law_more", "_law_less", "_law_body", "_law_page", "_law_kind", "_law_counts", "_law_k", "_law_given", "_law_last", "_law_told"] ["_law_state_here"] (defScope S_law_loop) := ⟨rfl, rfl, rfl, by decide +kernel, rfl, by decide +kernel, by decide +kernel⟩
def spLoop (K : PySem.W.Frag) : Sp := fun vs H Q _ => ∃ S C, vs = [.ref S] ∧ GenAt H S C ∧ ∀ v' m H', SameX [S, C] H H' → GenAt H' S C → MadeAt K (hid [S, C] H') v' m → (∀ G, MadeOk G 0 m) → m.us = [] → m.tl.tot ≤ 60 → Q v' H'
theorem ok_loop (T : Tx w K mg) (c_law_draw : Cal P w K mg base 1 "_law_draw" spDraw) (c_law_all : Cal P w K mg base 1 "_law_all" (spAll K)) (c_law_number : Cal P w K mg base 2 "_law_number" spNumber) : Cal P w K mg base 3 "_law_loop" (spLoop K) := by
  refine cal_mk T 47 47 rfl rfl sc_law_loop (fun _ _ _ _ _ _ us hl => match us, hl with | [_], _ => rfl) (fun vs H Q E h => ?_) (fun cdv A outer s0 H vs Q E hr h => ?_)
  · obtain ⟨S, C, rfl, _⟩ := h
    rfl
  obtain ⟨S, C, rfl, hg, q⟩ := h
  refine ⟨_, (pss_cons (ps_set (i := 1) sc_law_loop.nd rfl (Or.inl rfl) (pe_c c_law_draw hr (by omega) (by rfl) (pa_cons (pv 0) (pa_cons pe_int pa_nil))))
      (pss_cons (ps_set (i := 2) sc_law_loop.nd rfl (Or.inl rfl) (pe_c c_law_number hr (by omega) (by rfl) (pa_cons (pv 0) pa_nil)))
      (pss_cons (ps_set (i := 3) sc_law_loop.nd rfl (Or.inl rfl) (pe_c c_law_number hr (by omega) (by rfl) (pa_cons (pv 0) pa_nil)))
      (pss_cons (ps_set (i := 4) sc_law_loop.nd rfl (Or.inl rfl) (pe_tup (pa_cons pe_str (pa_cons pe_str (pa_cons (pe_tup (pa_cons pe_str (pa_cons pe_str pa_nil))) (pa_cons (pe_tup (pa_cons pe_str (pa_cons pe_int pa_nil))) pa_nil))))))
      (pss_cons (ps_set (i := 5) sc_law_loop.nd rfl (Or.inl rfl) (pe_tup (pa_cons pe_str (pa_cons (pe_tup (pa_cons pe_str (pa_cons pe_str pa_nil))) (pa_cons (pe_tup (pa_cons pe_str (pa_cons (pv 2) pa_nil))) (pa_cons (pe_tup (pa_cons pe_str (pa_cons pe_str (pa_cons (pe_tup (pa_cons pe_str (pa_cons (pe_tup (pa_cons pe_str (pa_cons pe_str pa_nil))) (pa_cons (pv 4) pa_nil)))) (pa_cons (pe_tup (pa_cons pe_str (pa_cons (pv 3) pa_nil))) pa_nil))))) pa_nil))))))
      (pss_cons (ps_set (i := 6) sc_law_loop.nd rfl (Or.inl rfl) (pe_tup (pa_cons pe_str (pa_cons (pe_tup (pa_cons pe_str (pa_cons (pe_tup (pa_cons pe_str (pa_cons (pe_tup (pa_cons pe_str (pa_cons pe_int pa_nil))) (pa_cons (pe_tup (pa_cons pe_str pa_nil)) pa_nil)))) pa_nil))) (pa_cons (pe_tup pa_nil) pa_nil)))))
      (pss_cons (ps_set (i := 7) sc_law_loop.nd rfl (Or.inl rfl) (pe_tup (pa_cons pe_str (pa_cons (pe_tup (pa_cons pe_int pa_nil)) (pa_cons (pv 2) pa_nil)))))
      (pss_cons (ps_set (i := 8) sc_law_loop.nd rfl (Or.inl rfl) (pe_lst (pa_cons pe_int (pa_cons pe_int (pa_cons pe_int (pa_cons pe_int (pa_cons pe_int (pa_cons pe_int (pa_cons pe_int pa_nil)))))))))
      (pss_cons (ps_for PassesOwn.never rfl (pi_range2 (by rfl) (T.free 83 rfl) (pa_cons pe_int (pa_cons (pe_op op_add (pv 1) pe_int) pa_nil))) (pg_name (i := 9) sc_law_loop.nd rfl (Or.inl rfl))
      (pss_cons (ps_set (i := 10) sc_law_loop.nd rfl (Or.inl rfl) (pe_op op_repK (pe_tup (pa_cons (pe_tup (pa_cons pe_str (pa_cons (pe_tup (pa_cons pe_str (pa_cons (pv 9) pa_nil))) (pa_cons (pe_tup (pa_cons pe_str pa_nil)) pa_nil)))) pa_nil)) (pv 9)))
      (pss_cons (ps_set (i := 11) sc_law_loop.nd rfl (Or.inl rfl) (pe_tup (pa_cons pe_str (pa_cons (pe_tup (pa_cons pe_str (pa_cons (pe_tup (pa_cons pe_str (pa_cons (pv 7) pa_nil))) (pa_cons (pv 10) pa_nil)))) (pa_cons (pe_tup (pa_cons pe_str pa_nil)) pa_nil)))))
      (pss_cons (ps_set (i := 6) sc_law_loop.nd rfl (Or.inl rfl) (pe_tup (pa_cons pe_str (pa_cons (pe_tup (pa_cons pe_str (pa_cons (pe_tup (pa_cons pe_str (pa_cons (pe_tup (pa_cons pe_str (pa_cons (pv 9) pa_nil))) (pa_cons (pv 11) pa_nil)))) pa_nil))) (pa_cons (pe_tup (pa_cons (pv 6) pa_nil)) pa_nil)))))
      (pss_cons (ps_set (i := 7) sc_law_loop.nd rfl (Or.inl rfl) (pe_tup (pa_cons pe_str (pa_cons (pe_op op_repK (pe_tup (pa_cons (pv 9) pa_nil)) (pe_op op_add (pv 9) pe_int)) (pa_cons (pe_op op_add (pe_ix ix_tup (pv 7) pe_int (fun _ _ => rfl)) (pv 3)) pa_nil)))))
      (pss_one (ps_set (i := 8) sc_law_loop.nd rfl (Or.inl rfl) (pe_c c_law_all hr (by omega) (by rfl) (pa_cons (pe_lst (pa_cons (pv 8) (pa_cons (pe_lst (pa_cons (pe_op op_add pe_int (pv 9)) (pa_cons (pe_op op_add pe_int (pv 9)) (pa_cons pe_int (pa_cons pe_int (pa_cons (pe_op op_add pe_int (pv 9)) (pa_cons (pe_op op_add pe_int (pv 9)) (pa_cons pe_int pa_nil)))))))) pa_nil))) pa_nil)))))))))
      (pss_cons (ps_set (i := 12) sc_law_loop.nd rfl (Or.inl rfl) (pe_tup (pa_cons pe_str (pa_cons (pe_tup (pa_cons pe_str (pa_cons pe_str (pa_cons (pe_tup (pa_cons pe_str (pa_cons pe_str (pa_cons (pv 5) pa_nil)))) pa_nil)))) (pa_cons (pe_tup (pa_cons pe_str (pa_cons (pv 1) pa_nil))) pa_nil)))))
      (pss_cons (ps_set (i := 8) sc_law_loop.nd rfl (Or.inl rfl) (pe_c c_law_all hr (by omega) (by rfl) (pa_cons (pe_lst (pa_cons (pv 8) (pa_cons (pe_lst (pa_cons pe_int (pa_cons pe_int (pa_cons pe_int (pa_cons pe_int (pa_cons pe_int (pa_cons pe_int (pa_cons pe_int pa_nil)))))))) pa_nil))) pa_nil)))
      (pss_one (ps_ret (pe_lst (pa_cons (pv 12) (pa_cons (pe_tup (pa_cons pe_str (pa_cons (pv 6) (pa_cons (pe_op op_repK (pe_tup (pa_cons (pe_tup (pa_cons pe_str pa_nil)) pa_nil)) (pe_op op_add (pv 1) pe_int)) pa_nil)))) (pa_cons (pe_ix ix_tup (pv 7) pe_int (fun _ _ => rfl)) (pa_cons (pe_lst pa_nil) (pa_cons (pv 8) pa_nil))))))))))))))))))), ?_⟩
  refine ⟨_, rfl, S, C, 4, rfl, by decide, by decide, hg, fun m H1 hm4 x1 g1 => ?_⟩
  refine ⟨_, rfl, S, C, rfl, g1, fun first H2 x2 g2 => ?_⟩
  refine ⟨_, rfl, S, C, rfl, g2, fun more H3 x3 g3 => ?_⟩
  have x03 := (x1.trans x2).trans x3
  have hB := g3.dom
  refine ⟨sz2, fun a1 ha1 => ⟨sz2, fun a2 ha2 => ⟨sz4, fun a3 ha3 => ?_⟩⟩⟩
  have n1 := same_new ha1 (.tup [.str "name", .str "n"])
  have n2 := same_new ha2 (.tup [.str "number", .int 1])
  have n3 := same_new ha3 (.tup [.str "sum", .str "-", .ref a1, .ref a2])
  have d1 : Dp K (hid [S, C] (upd (upd (upd H3 a1 (.tup [.str "name", .str "n"])) a2 (.tup [.str "number", .int 1])) a3 (.tup [.str "sum", .str "-", .ref a1, .ref a2]))) (.ref a3) lessT.told :=
    dp_newT (hid_new (hB.up (n1.trans n2)) ha3) (.cons (.str _) (.cons (.str _) (.cons (dp_up (hid_up (n2.trans n3)) (dp_newT (hid_new hB ha1) (.cons (.str _) (.cons (.str _) .nil)))) (.cons (dp_up (hid_up n3) (dp_newT (hid_new (hB.up n1) ha2) (.cons (.str _) (.cons (.int _) .nil)))) .nil))))
  have s03 := n1.trans (n2.trans n3)
  generalize (upd (upd (upd H3 a1 (.tup [.str "name", .str "n"])) a2 (.tup [.str "number", .int 1])) a3 (.tup [.str "sum", .str "-", .ref a1, .ref a2])) = H4 at d1 s03 ⊢
  clear n1 n2 n3
  have g4 := g3.up s03
  have hB4 := g4.dom
  refine ⟨sz2, fun b1 hb1 => ⟨_, rfl, sz2, fun b2 hb2 => ⟨sz2, fun b3 hb3 => ⟨_, rfl, sz3, fun b4 hb4 => ⟨_, rfl, sz2, fun b5 hb5 => ⟨sz4, fun b6 hb6 => ⟨sz4, fun b7 hb7 => ?_⟩⟩⟩⟩⟩⟩⟩
  have n1 := same_new hb1 (.tup [.str "name", .str "n"])
  have n2 := same_new hb2 (.tup [.str "number", .int first])
  have n3 := same_new hb3 (.tup [.str "name", .str "f"])
  have n4 := same_new hb4 (.tup [.str "give", .ref b3, .ref a3])
  have n5 := same_new hb5 (.tup [.str "number", .int more])
  have n6 := same_new hb6 (.tup [.str "sum", .str "+", .ref b4, .ref b5])
  have n7 := same_new hb7 (.tup [.str "choice", .ref b1, .ref b2, .ref b6])
  have s47 := n1.trans (n2.trans (n3.trans (n4.trans (n5.trans (n6.trans n7)))))
  have d2 := dp_newT (K := K) (ds := [.str "choice", (Tm.name "n").told, (Tm.num first).told, (Tm.sm "+" (.gv (.name "f") lessT) (.num more)).told]) (hid_new (hB4.up (n1.trans (n2.trans (n3.trans (n4.trans (n5.trans n6)))))) hb7) (.cons (.str _) (.cons
    (dp_up (hid_up (n2.trans (n3.trans (n4.trans (n5.trans (n6.trans n7)))))) (dp_newT (hid_new hB4 hb1) (.cons (.str _) (.cons (.str _) .nil)))) (.cons
    (dp_up (hid_up (n3.trans (n4.trans (n5.trans (n6.trans n7))))) (dp_newT (hid_new (hB4.up n1) hb2) (.cons (.str _) (.cons (.int _) .nil)))) (.cons
    (dp_up (hid_up n7) (dp_newT (ds := [.str "sum", .str "+", (Tm.gv (.name "f") lessT).told, (Tm.num more).told]) (hid_new (hB4.up (n1.trans (n2.trans (n3.trans (n4.trans n5))))) hb6) (.cons (.str _) (.cons (.str _) (.cons
      (dp_up (hid_up (n5.trans n6)) (dp_newT (ds := [.str "give", (Tm.name "f").told, lessT.told]) (hid_new (hB4.up (n1.trans (n2.trans n3))) hb4) (.cons (.str _) (.cons (dp_up (hid_up n4) (dp_newT (hid_new (hB4.up (n1.trans n2)) hb3) (.cons (.str _) (.cons (.str _) .nil)))) (.cons (dp_up (hid_up (n1.trans (n2.trans (n3.trans n4)))) d1) .nil))))) (.cons
      (dp_up (hid_up n6) (dp_newT (hid_new (hB4.up (n1.trans (n2.trans (n3.trans n4)))) hb5) (.cons (.str _) (.cons (.int _) .nil)))) .nil)))))) .nil))))
  have d2 : Dp K _ _ (loopB first more).told := d2
  have s07 := s03.trans s47
  generalize (upd (upd (upd (upd (upd (upd (upd H4 b1 (.tup [.str "name", .str "n"])) b2 (.tup [.str "number", .int first])) b3 (.tup [.str "name", .str "f"])) b4 (.tup [.str "give", .ref b3, .ref a3])) b5 (.tup [.str "number", .int more])) b6 (.tup [.str "sum", .str "+", .ref b4, .ref b5])) b7 (.tup [.str "choice", .ref b1, .ref b2, .ref b6])) = H5 at d2 s07 ⊢
  clear n1 n2 n3 n4 n5 n6 n7 s47 d1
  have g5 := g3.up s07
  have hB5 := g5.dom
  refine ⟨sz2, fun c1 hc1 => ⟨sz1, fun c2 hc2 => ⟨sz3, fun c3 hc3 => ⟨sz2, fun c4 hc4 => ⟨Nat.zero_le _, fun c5 hc5 => ⟨sz3, fun c6 hc6 => ?_⟩⟩⟩⟩⟩⟩
  have n1 := same_new hc1 (.tup [.str "look", .int 0])
  have n2 := same_new hc2 (.tup [.str "number"])
  have n3 := same_new hc3 (.tup [.str "choice", .ref c1, .ref c2])
  have n4 := same_new hc4 (.tup [.str "takes", .ref c3])
  have n5 := same_new hc5 (.tup [])
  have n6 := same_new hc6 (.tup [.str "turn", .ref c4, .ref c5])
  have s56 := n1.trans (n2.trans (n3.trans (n4.trans (n5.trans n6))))
  have d3 := dp_newT (K := K) (hid_new (hB5.up (n1.trans (n2.trans (n3.trans (n4.trans n5))))) hc6) (.cons (.str "turn") (.cons
    (dp_up (hid_up (n5.trans n6)) (dp_newT (hid_new (hB5.up (n1.trans (n2.trans n3))) hc4) (.cons (.str "takes") (.cons
      (dp_up (hid_up n4) (dp_newT (hid_new (hB5.up (n1.trans n2)) hc3) (.cons (.str "choice") (.cons (dp_up (hid_up (n2.trans n3)) (dp_newT (hid_new hB5 hc1) (.cons (.str "look") (.cons (.int 0) .nil)))) (.cons (dp_up (hid_up n3) (dp_newT (hid_new (hB5.up n1) hc2) (.cons (.str "number") .nil))) .nil))))) .nil)))) (.cons
    (dp_up (hid_up n6) (dp_newT (hid_new (hB5.up (n1.trans (n2.trans (n3.trans n4)))) hc5) .nil)) .nil)))
  have d3 : Dp K _ _ (loopP first more 0) := d3
  have d2 := dp_up (hid_up s56) d2
  have s08 := s07.trans s56
  generalize (upd (upd (upd (upd (upd (upd H5 c1 (.tup [.str "look", .int 0])) c2 (.tup [.str "number"])) c3 (.tup [.str "choice", .ref c1, .ref c2])) c4 (.tup [.str "takes", .ref c3])) c5 (.tup [])) c6 (.tup [.str "turn", .ref c4, .ref c5])) = H6 at d2 d3 s08 ⊢
  clear n1 n2 n3 n4 n5 n6 s56
  have g6 := g3.up s08
  have hB6 := g6.dom
  refine ⟨sz1, fun e1 he1 => ⟨_, rfl, sz3, fun e2 he2 => ⟨sz7, fun e3 he3 => ?_⟩⟩⟩
  have n1 := same_new he1 (.tup [.int 0])
  have n2 := same_new he2 (.tup [.str "takes", .ref e1, .int first])
  have n3 := same_new he3 (.lst (talL (loopC 0)))
  have s69 := n1.trans (n2.trans n3)
  have dk : Dp K (hid [S, C] (upd (upd (upd H6 e1 (.tup [.int 0])) e2 (.tup [.str "takes", .ref e1, .int first])) e3 (.lst (talL (loopC 0))))) (.ref e2) (loopKd first more 0).d := dp_up (hid_up n3) (kd_new (ns := [0]) hB6 he1 he2)
  have dc : CntAt (hid [S, C] (upd (upd (upd H6 e1 (.tup [.int 0])) e2 (.tup [.str "takes", .ref e1, .int first])) e3 (.lst (talL (loopC 0))))) (.ref e3) (loopC 0) := ⟨e3, rfl, hid_new (hB6.up (n1.trans n2)) he3⟩
  refine ⟨_, rfl, _, _, rfl, rfl, _, _, rfl, ⟨by omega, by omega, by omega, by omega⟩, ?_⟩
  have eN : ((m : Int) + 1 - 1).toNat = m := by omega
  rw [eN]
  refine for_range (fun i σ Hi => ∃ pg kd cn x y z, σ = [some (.ref S), some (.int (m : Nat)), some (.int first), some (.int more), some (.ref a3), some (.ref b7), some pg, some kd, some cn, x, y, z, none] ∧ Same H3 Hi ∧ Dp K (hid [S, C] Hi) (.ref b7) (loopB first more).told ∧ Dp K (hid [S, C] Hi) pg (loopP first more i) ∧ Dp K (hid [S, C] Hi) kd (loopKd first more i).d ∧ CntAt (hid [S, C] Hi) cn (loopC i))
    ⟨_, _, _, none, none, none, rfl, s08.trans s69, dp_up (hid_up s69) d2, dp_up (hid_up s69) d3, dk, dc⟩ ?_ ?_
  · rintro i σ Hi him ⟨pg, kd, cn, x, y, z, rfl, sH, dbo, dpg, dkd, dcn⟩
    have gi := g3.up sH
    have hBi := gi.dom
    have e1k : ((1 : Int) + (i : Nat)) = ((i + 1 : Nat) : Int) := by omega
    rw [e1k]
    refine ⟨_, rfl, sz2, fun p1 hp1 => ⟨sz1, fun p2 hp2 => ⟨sz3, fun p3 hp3 => ⟨sz1, fun p4 hp4 => ?_⟩⟩⟩⟩
    have n1 := same_new hp1 (.tup [.str "look", .int ((i + 1 : Nat))])
    have n2 := same_new hp2 (.tup [.str "number"])
    have n3 := same_new hp3 (.tup [.str "sum", .ref p1, .ref p2])
    have n4 := same_new hp4 (.tup [.ref p3])
    have da : Dp K (hid [S, C] (upd (upd (upd Hi p1 (.tup [.str "look", .int ((i + 1 : Nat))])) p2 (.tup [.str "number"])) p3 (.tup [.str "sum", .ref p1, .ref p2]))) (.ref p3) (lessP ((i + 1 : Nat))) :=
      dp_newT (hid_new (hBi.up (n1.trans n2)) hp3) (.cons (.str "sum") (.cons (dp_up (hid_up (n2.trans n3)) (dp_newT (hid_new hBi hp1) (.cons (.str "look") (.cons (.int _) .nil)))) (.cons (dp_up (hid_up n3) (dp_newT (hid_new (hBi.up n1) hp2) (.cons (.str "number") .nil))) .nil)))
    have s14 := n1.trans (n2.trans (n3.trans n4))
    have hp4h := hid_new (o := .tup [.ref p3]) (hBi.up (n1.trans (n2.trans n3))) hp4
    have da := dp_up (hid_up n4) da
    generalize (upd (upd (upd (upd Hi p1 (.tup [.str "look", .int ((i + 1 : Nat))])) p2 (.tup [.str "number"])) p3 (.tup [.str "sum", .ref p1, .ref p2])) p4 (.tup [.ref p3])) = H7 at da s14 hp4h ⊢
    clear n1 n2 n3 n4
    refine ⟨_, rfl, ?_⟩
    refine rep_use (n := i + 1) (hBi.up s14) hp4h da (by omega) fun p5 H8 s8 dgv => ?_
    have s18 := s14.trans s8
    have hB8 := hBi.up s18
    refine ⟨_, rfl, sz2, fun q1 hq1 => ⟨_, rfl, sz3, fun q2 hq2 => ⟨sz1, fun q3 hq3 => ⟨sz3, fun q4 hq4 => ?_⟩⟩⟩⟩
    have n1 := same_new hq1 (.tup [.str "look", kd])
    have n2 := same_new hq2 (.tup [.str "gives", .ref q1, .ref p5])
    have n3 := same_new hq3 (.tup [.str "number"])
    have n4 := same_new hq4 (.tup [.str "sum", .ref q2, .ref q3])
    have dl := dp_newT (K := K) (hid_new (hB8.up (n1.trans (n2.trans n3))) hq4) (.cons (.str "sum") (.cons (dp_up (hid_up (n3.trans n4)) (dp_newT (hid_new (hB8.up n1) hq2) (.cons (.str "gives") (.cons (dp_up (hid_up n2) (dp_newT (hid_new hB8 hq1) (.cons (.str "look") (.cons (dp_up (hid_up (s18.trans n1)) dkd) .nil)))) (.cons (dp_up (hid_up (n1.trans n2)) dgv) .nil))))) (.cons (dp_up (hid_up n4) (dp_newT (hid_new (hB8.up (n1.trans n2)) hq3) (.cons (.str "number") .nil))) .nil)))
    have dl : Dp K _ _ (lastP first more i) := dl
    have s19 := s18.trans (n1.trans (n2.trans (n3.trans n4)))
    generalize (upd (upd (upd (upd H8 q1 (.tup [.str "look", kd])) q2 (.tup [.str "gives", .ref q1, .ref p5])) q3 (.tup [.str "number"])) q4 (.tup [.str "sum", .ref q2, .ref q3])) = H9 at dl s19 ⊢
    clear n1 n2 n3 n4
    have hB9 := hBi.up s19
    refine ⟨_, rfl, sz2, fun r1 hr1 => ⟨_, rfl, sz3, fun r2 hr2 => ⟨sz2, fun r3 hr3 => ⟨_, rfl, sz1, fun r4 hr4 => ⟨sz3, fun r5 hr5 => ?_⟩⟩⟩⟩⟩
    have n1 := same_new hr1 (.tup [.str "look", .int ((i + 1 : Nat))])
    have n2 := same_new hr2 (.tup [.str "choice", .ref r1, .ref q4])
    have n3 := same_new hr3 (.tup [.str "takes", .ref r2])
    have n4 := same_new hr4 (.tup [pg])
    have n5 := same_new hr5 (.tup [.str "turn", .ref r3, .ref r4])
    have dp2 := dp_newT (K := K) (hid_new (hB9.up (n1.trans (n2.trans (n3.trans n4)))) hr5) (.cons (.str "turn") (.cons (dp_up (hid_up (n4.trans n5)) (dp_newT (hid_new (hB9.up (n1.trans n2)) hr3) (.cons (.str "takes") (.cons (dp_up (hid_up n3) (dp_newT (hid_new (hB9.up n1) hr2) (.cons (.str "choice") (.cons (dp_up (hid_up n2) (dp_newT (hid_new hB9 hr1) (.cons (.str "look") (.cons (.int ((i + 1 : Nat))) .nil)))) (.cons (dp_up (hid_up (n1.trans n2)) dl) .nil))))) .nil)))) (.cons (dp_up (hid_up n5) (dp_newT (hid_new (hB9.up (n1.trans (n2.trans n3))) hr4) (.cons (dp_up (hid_up (s19.trans (n1.trans (n2.trans (n3.trans n4))))) dpg) .nil))) .nil)))
    have dp2 : Dp K _ _ (loopP first more (i + 1)) := dp2
    have s110 := s19.trans (n1.trans (n2.trans (n3.trans (n4.trans n5))))
    generalize (upd (upd (upd (upd (upd H9 r1 (.tup [.str "look", .int ((i + 1 : Nat))])) r2 (.tup [.str "choice", .ref r1, .ref q4])) r3 (.tup [.str "takes", .ref r2])) r4 (.tup [pg])) r5 (.tup [.str "turn", .ref r3, .ref r4])) = H10 at dp2 s110 ⊢
    clear n1 n2 n3 n4 n5
    have hB10 := hBi.up s110
    refine ⟨_, rfl, sz1, fun t1 ht1 => ?_⟩
    have n1 := same_new ht1 (.tup [.int ((i + 1 : Nat))])
    refine ⟨_, rfl, _, _, rfl, rfl, ?_⟩
    refine rep_use (n := i + 2) (d := .int ((i + 1 : Nat))) (hB10.up n1) (hid_new hB10 ht1) (.int _) (by omega) fun t2 H11 s11 dks => ?_
    have s111 := s110.trans (n1.trans s11)
    have hB11 := hBi.up s111
    obtain ⟨ka, kx, rfl, hka, hkx⟩ := dp_tup_of dkd
    obtain ⟨k0, k1, k2, rfl, f0, f1, f2⟩ := dps3_of hkx
    obtain rfl := dp_int_of f2
    refine ⟨_, rfl, ka, _, _, _, rfl, rfl, same_seqT (hid_sub.trans s111) hka, atI_nat (j := 2) rfl, _, rfl, _, _, rfl, rfl, sz3, fun t3 ht3 => ?_⟩
    have n2 := same_new ht3 (.tup [.str "takes", .ref t2, .int (loopN first more i + more)])
    have dk2 : Dp K (hid [S, C] (upd H11 t3 (.tup [.str "takes", .ref t2, .int (loopN first more i + more)]))) (.ref t3) (loopKd first more (i + 1)).d := by
      have e : (loopKd first more (i + 1)).d = tp [.str "takes", tp (List.replicate (i + 2) (.int ((i + 1 : Nat)))), .int (loopN first more i + more)] := by
        show tp [.str "takes", tp ((List.replicate (i + 2) ((i + 1 : Nat) : Int)).map PyData.int), _] = _
        rw [List.map_replicate]
        rfl
      rw [e]
      exact dp_newT (hid_new hB11 ht3) (.cons (.str _) (.cons (dp_up (hid_up n2) dks) (.cons (.int _) .nil)))
    have s112 := s111.trans n2
    have dp3 := dp_up (hid_up (n1.trans (s11.trans n2))) dp2
    generalize (upd H11 t3 (.tup [.str "takes", .ref t2, .int (loopN first more i + more)])) = H12 at dk2 s112 dp3 ⊢
    clear n1 n2
    have hB12 := hBi.up s112
    refine ⟨_, rfl, _, rfl, _, _, rfl, rfl, _, rfl, _, _, rfl, rfl, _, rfl, _, _, rfl, rfl, _, rfl, _, _, rfl, rfl, sz7, fun v1 hv1 => ⟨sz2, fun v2 hv2 => ?_⟩⟩
    have n1 := same_new hv1 (.lst (talL (stepC (i + 1))))
    have n2 := same_new hv2 (.lst [cn, .ref v1])
    refine ⟨v2, [cn, .ref v1], [loopC i, stepC (i + 1)], rfl, SqL.new upd_same, (by show 2 ≤ 1000000; decide), .cons (cnt_up (hid_sub.trans (s112.trans (n1.trans n2))) dcn) (.cons ⟨v1, rfl, n2 _ _ upd_same⟩ .nil), fun v3 H13 s13 hv3 hv3' => ?_⟩
    have s1213 := n1.trans (n2.trans s13)
    refine ⟨.ref r5, .ref t3, .ref v3, some (.int ((i + 1 : Nat))), some (.ref p5), some (.ref q4), rfl, sH.trans (s112.trans s1213), dp_up (hid_up (s112.trans s1213)) dbo, dp_up (hid_up s1213) dp3, dp_up (hid_up s1213) dk2, CntAt_got (hB12.up (n1.trans n2)) hv3 hv3'⟩
  · rintro σ Hi ⟨pg, kd, cn, x, y, z, rfl, sH, dbo, dpg, dkd, dcn⟩
    have gi := g3.up sH
    have hBi := gi.dom
    refine ⟨_, rfl, sz3, fun p1 hp1 => ⟨sz3, fun p2 hp2 => ⟨_, rfl, sz2, fun p3 hp3 => ⟨sz3, fun p4 hp4 => ?_⟩⟩⟩⟩
    have n1 := same_new hp1 (.tup [.str "maker", .str "n", .ref b7])
    have n2 := same_new hp2 (.tup [.str "again", .str "f", .ref p1])
    have n3 := same_new hp3 (.tup [.str "number", .int (m : Nat)])
    have n4 := same_new hp4 (.tup [.str "give", .ref p2, .ref p3])
    have dt := dp_newT (K := K) (hid_new (hBi.up (n1.trans (n2.trans n3))) hp4) (.cons (.str "give") (.cons (dp_up (hid_up (n3.trans n4)) (dp_newT (hid_new (hBi.up n1) hp2) (.cons (.str "again") (.cons (.str "f") (.cons (dp_up (hid_up n2) (dp_newT (hid_new hBi hp1) (.cons (.str "maker") (.cons (.str "n") (.cons (dp_up (hid_up n1) dbo) .nil))))) .nil))))) (.cons (dp_up (hid_up n4) (dp_newT (hid_new (hBi.up (n1.trans n2)) hp3) (.cons (.str "number") (.cons (.int (m : Nat)) .nil)))) .nil)))
    have dt : Dp K _ _ (Tm.gv (looT first more) (.num (m : Nat))).told := dt
    have s14 := n1.trans (n2.trans (n3.trans n4))
    generalize (upd (upd (upd (upd Hi p1 (.tup [.str "maker", .str "n", .ref b7])) p2 (.tup [.str "again", .str "f", .ref p1])) p3 (.tup [.str "number", .int (m : Nat)])) p4 (.tup [.str "give", .ref p2, .ref p3])) = H7 at dt s14 ⊢
    clear n1 n2 n3 n4
    have hB7 := hBi.up s14
    refine ⟨_, rfl, sz7, fun v1 hv1 => ⟨sz2, fun v2 hv2 => ?_⟩⟩
    have n1 := same_new hv1 (.lst (talL (talOf [.op])))
    have n2 := same_new hv2 (.lst [cn, .ref v1])
    refine ⟨v2, [cn, .ref v1], [loopC m, talOf [.op]], rfl, SqL.new upd_same, (by show 2 ≤ 1000000; decide), .cons (cnt_up (hid_sub.trans (s14.trans (n1.trans n2))) dcn) (.cons ⟨v1, rfl, n2 _ _ upd_same⟩ .nil), fun v3 H8 s8 hv3 hv3' => ?_⟩
    have dcc := CntAt_got (hB7.up (n1.trans n2)) hv3 hv3'
    have s78 := n1.trans (n2.trans s8)
    have s18 := s14.trans s78
    have hB8 := hBi.up s18
    refine ⟨_, rfl, _, rfl, sz1, fun w1 hw1 => ⟨sz1, fun w2 hw2 => ?_⟩⟩
    have m1 := same_new hw1 (.tup [.str "number"])
    have m2 := same_new hw2 (.tup [.ref w1])
    refine ⟨_, rfl, _, _, rfl, rfl, ?_⟩
    refine rep_use (n := m + 1) (d := numP) (hB8.up (m1.trans m2)) (hid_new (hB8.up m1) hw2) (dp_up (hid_up m2) (dp_newT (hid_new hB8 hw1) (.cons (.str _) .nil))) (by omega) fun w3 H9 s9 dnm => ?_
    have s89 := m1.trans (m2.trans s9)
    have hB9 := hB8.up s89
    have s19 := s18.trans s89
    refine ⟨sz3, fun w4 hw4 => ?_⟩
    have m4 := same_new hw4 (.tup [.str "gives", pg, .ref w3])
    obtain ⟨ka, kx, rfl, hka, hkx⟩ := dp_tup_of dkd
    obtain ⟨k0, k1, k2, rfl, f0, f1, f2⟩ := dps3_of hkx
    obtain rfl := dp_int_of f2
    refine ⟨_, rfl, ka, _, _, _, rfl, rfl, same_seqT (hid_sub.trans (s19.trans m4)) hka, atI_nat (j := 2) rfl, Nat.zero_le _, fun w5 hw5 => ⟨_, rfl, sz5, fun w6 hw6 => ?_⟩⟩
    have m5 := same_new hw5 (.lst [])
    have m6 := same_new hw6 (.lst [.ref p4, .ref w4, .int (loopN first more m), .ref w5, .ref v3])
    have m46 := m4.trans (m5.trans m6)
    refine q (.ref w6) ⟨.gv (looT first more) (.num (m : Nat)), tp [.str "gives", loopP first more m, tp (List.replicate (m + 1) numP)], loopN first more m, [], talSum [loopC m, talOf [.op]]⟩ _ (x03.trans (same_x (sH.trans (s19.trans m46)))) (gi.up (s19.trans m46))
      ⟨w6, .ref p4, .ref w4, .ref w5, .ref v3, rfl, hid_new (hB9.up (m4.trans m5)) hw6, dp_up (hid_up (s78.trans (s89.trans m46))) dt, ?_, ⟨w5, [], rfl, hid_up m6 _ _ (hid_new (hB9.up m4) hw5), .nil⟩, cnt_up (hid_up (s89.trans m46)) dcc⟩ (fun G => loop_ok G first more m (by omega)) rfl (loop_tot m (by omega))
    exact dp_up (hid_up (m5.trans m6)) (dp_newT (hid_new hB9 hw4) (.cons (.str _) (.cons (dp_up (hid_up (s19.trans m4)) dpg) (.cons (dp_up (hid_up m4) dnm) .nil))))
end
end Ut
set_option Elab.async false
set_option linter.all false
set_option maxRecDepth 100000
set_option maxHeartbeats 0
namespace Ut
open PySem PySem.Spec PyProof.Rows L2
structure RightOk (m : Mde) : Prop where
  j : J 60 m.t m.p m.row
  ok : m.t.ok
  dep : m.t.dep ≤ 60
  sc : Sc m.t []
  us : m.us = []
  tot : m.tl.tot ≤ 300
theorem right_of {d : Nat} {m : Mde} (h : MadeOk [] d m) (hd : d ≤ 4) (ht : m.tl.tot ≤ 300) : RightOk m := by
  refine ⟨j_mono (by omega) h.j, h.ok, by have := h.dep; omega, h.sc, ?_, ht⟩
  cases e : m.us with
  | nil => rfl
  | cons u r =>
    obtain ⟨wo, hw, _⟩ := h.us u (by rw [e]; exact List.mem_cons_self)
    cases hw
theorem talL_int (f : Tal) : talL f = (Srt.all.map fun s => ((f s : Nat) : Int)).map V.int := by
  unfold talL
  rw [List.map_map]; rfl
theorem talL_sum (f : Tal) : (Srt.all.map fun s => ((f s : Nat) : Int)).sum = ((f.tot : Nat) : Int) := by
  show ((f .op : Nat) : Int) + (((f .look : Nat) : Int) + (((f .take : Nat) : Int) + (((f .turn : Nat) : Int) + (((f .next : Nat) : Int) + (((f .sum : Nat) : Int) + (((f .choose : Nat) : Int) + 0)))))) = _
  unfold Tal.tot
  omega
section
variable {P : Program} {w : World} {K : PySem.W.Frag} {mg : Str → Option Value} {base : Heap}
theorem sc_law_made : FnScope ["_law_state_here", "_law_scope", "_law_deep", "_law_way"] ["_law_state_here", "_law_scope", "_law_deep"] (defScope S_law_made) := ⟨rfl, rfl, rfl, by decide +kernel, rfl, by decide +kernel, by decide +kernel⟩
theorem len_made {n : Nat} {vs : List V} {H : Hp} {Q : VK} {E : XK} (h : spMade K n vs H Q E) : vs.length = 3 := by
  obtain ⟨S, C, sv, G, d, _, rfl, _⟩ := h
  rfl
theorem ok_made0 (T : Tx w K mg) : Cal P w K mg base 4 "_law_made" (spMade K 0) := by
  refine cal_mk T 48 48 rfl rfl sc_law_made (fun _ _ _ _ _ _ us hl => match us, hl with | [_, _, _], _ => rfl) (k := 3) (fun vs H Q E h => len_made h) (fun cdv A outer s0 H vs Q E hr h => ?_)
  obtain ⟨S, C, sv, G, d, hd, _⟩ := h
  omega
theorem ok_madeS (T : Tx w K mg) (n : Nat) (c_law_draw : Cal P w K mg base 1 "_law_draw" spDraw) (c_law_leaf : Cal P w K mg base 3 "_law_leaf" (spLeaf K)) (c_law_loop : Cal P w K mg base 3 "_law_loop" (spLoop K)) (c_law_two : Cal P w K mg base (2 * n + 5) "_law_two" (spMore K n))
    (c_law_used : Cal P w K mg base (2 * n + 5) "_law_used" (spMore K n)) (c_law_tied : Cal P w K mg base (2 * n + 5) "_law_tied" (spMore K n)) : Cal P w K mg base (2 * n + 6) "_law_made" (spMade K (n + 1)) := by
  refine cal_mk T 48 48 rfl rfl sc_law_made (fun _ _ _ _ _ _ us hl => match us, hl with | [_, _, _], _ => rfl) (fun vs H Q E h => len_made h) (fun cdv A outer s0 H vs Q E hr h => ?_)
  obtain ⟨S, C, sv, G, d, hd, rfl, hg, hsc, hG, q⟩ := h
  refine ⟨_, (pss_cons (ps_set (i := 3) sc_law_made.nd rfl (Or.inl rfl) (pe_c c_law_draw hr (by omega) (by rfl) (pa_cons (pv 0) (pa_cons pe_int pa_nil))))
      (pss_cons (ps_if (PW.pt (pw_or (pt_cmpR op_eq (pv 2) pe_int (nomark _)) (pw_or1 (pt_cmpR op_eq (pv 3) pe_int (nomark _))))) (pss_one (ps_ret (pe_c c_law_leaf hr (by omega) (by rfl) (pa_cons (pv 0) (pa_cons (pv 1) pa_nil))))) pss_nil)
      (pss_cons (ps_if (pt_cmpR op_lt (pv 3) pe_int (nomark _)) (pss_one (ps_ret (pe_c c_law_two hr (by omega) (by rfl) (pa_cons (pv 0) (pa_cons (pv 1) (pa_cons (pe_op op_sub (pv 2) pe_int) pa_nil)))))) pss_nil)
      (pss_cons (ps_if (pt_cmpR op_lt (pv 3) pe_int (nomark _)) (pss_one (ps_ret (pe_c c_law_used hr (by omega) (by rfl) (pa_cons (pv 0) (pa_cons (pv 1) (pa_cons (pe_op op_sub (pv 2) pe_int) pa_nil)))))) pss_nil)
      (pss_cons (ps_if (pt_cmpR op_eq (pv 3) pe_int (nomark _)) (pss_one (ps_ret (pe_c c_law_loop hr (by omega) (by rfl) (pa_cons (pv 0) pa_nil)))) pss_nil)
      (pss_one (ps_ret (pe_c c_law_tied hr (by omega) (by rfl) (pa_cons (pv 0) (pa_cons (pv 1) (pa_cons (pe_op op_sub (pv 2) pe_int) pa_nil))))))))))), ?_⟩
  refine ⟨_, rfl, S, C, 8, rfl, by decide, by decide, hg, fun r H1 hr8 x1 g1 => ?_⟩
  have hsc1 := scope_up (samex_hid x1) hsc
  have leaf : spLeaf K ([.ref S, sv] ++ []) H1 Q E0 := ⟨S, C, sv, G, rfl, g1, hsc1, by omega, fun v' m H' x' g' m' o' => q v' m H' (x1.trans x') g' m' (o'.mono (Nat.zero_le _))⟩
  refine ⟨_, rfl, rfl, _, rfl, ?_⟩
  match d, hd with
  | 0, _ =>
    refine ifT (by decide) ?_
    exact ⟨_, rfl, _, rfl, leaf⟩
  | d + 1, hd =>
  have hd : d < n := Nat.lt_of_succ_lt_succ hd
  have em : (((d + 1 : Nat) : Int) - 1) = ((d : Nat) : Int) := by omega
  have more : spMore K n ([.ref S, sv, .int ((d + 1 : Nat) - 1)] ++ []) H1 Q E0 := ⟨S, C, sv, G, d, hd, by rw [← em]; rfl, g1, hsc1, hG, fun v' m H' x' g' m' o' => q v' m H' (x1.trans x') g' m' o'⟩
  refine ifF (decide_eq_false (by simp; omega)) ?_
  refine ⟨_, rfl, rfl, _, rfl, ?_⟩
  refine ite2 (fun c0 => ?_) (fun c0 => ?_)
  · exact ⟨_, rfl, _, rfl, leaf⟩
  refine ⟨_, rfl, _, _, rfl, rfl, _, rfl, ?_⟩
  refine ite2 (fun c1 => ?_) (fun c1 => ?_)
  · exact ⟨_, rfl, _, rfl, _, rfl, _, _, rfl, rfl, more⟩
  refine ⟨_, rfl, _, _, rfl, rfl, _, rfl, ?_⟩
  refine ite2 (fun c2 => ?_) (fun c2 => ?_)
  · exact ⟨_, rfl, _, rfl, _, rfl, _, _, rfl, rfl, more⟩
  refine ⟨_, rfl, rfl, _, rfl, ?_⟩
  refine ite2 (fun c3 => ?_) (fun c3 => ?_)
  · exact ⟨_, rfl, S, C, rfl, g1, fun v' m H' x' g' m' o' _ _ => q v' m H' (x1.trans x') g' m' ((o' G).mono (Nat.zero_le _))⟩
  · exact ⟨_, rfl, _, rfl, _, rfl, _, _, rfl, rfl, more⟩
theorem sc_law_short : FnScope ["_law_state_here", "_law_made_here"] ["_law_state_here"] (defScope S_law_short) := ⟨rfl, rfl, rfl, by decide +kernel, rfl, by decide +kernel, by decide +kernel⟩
def spShort (K : PySem.W.Frag) : Sp := fun vs H Q _ => ∃ S C, vs = [.ref S] ∧ GenAt H S C ∧ ∀ v' m H', SameX [S, C] H H' → GenAt H' S C → MadeAt K (hid [S, C] H') v' m → RightOk m → Q v' H'
theorem ok_short (T : Tx w K mg) (c_law_made : Cal P w K mg base 14 "_law_made" (spMade K 5)) (c_law_loop : Cal P w K mg base 3 "_law_loop" (spLoop K)) : Cal P w K mg base 15 "_law_short" (spShort K) := by
  refine cal_mk T 49 49 rfl rfl sc_law_short (fun _ _ _ _ _ _ us hl => match us, hl with | [_], _ => rfl) (fun vs H Q E h => ?_) (fun cdv A outer s0 H vs Q E hr h => ?_)
  · obtain ⟨S, C, rfl, _⟩ := h
    rfl
  obtain ⟨S, C, rfl, hg, q⟩ := h
  refine ⟨_, (pss_cons (ps_set (i := 1) sc_law_short.nd rfl (Or.inl rfl) (pe_c c_law_made hr (by omega) (by rfl) (pa_cons (pv 0) (pa_cons (pe_lst pa_nil) (pa_cons pe_int pa_nil)))))
      (pss_cons (ps_if (pt_cmpR op_gt (pe_callB (cr_sum rfl) (by rfl) (T.free 81 rfl) (by decide +kernel) (pa_cons (pe_ix ix_list (pv 1) pe_int (fun _ _ => rfl)) pa_nil)) pe_int (nomark _)) (pss_one (ps_ret (pe_c c_law_loop hr (by omega) (by rfl) (pa_cons (pv 0) pa_nil)))) pss_nil)
      (pss_one (ps_ret (pv 1))))), ?_⟩
  refine ⟨_, rfl, Nat.zero_le _, fun l hl => ?_⟩
  have n1 := same_new hl (.lst [])
  have g0 := hg.up n1
  refine ⟨S, C, .ref l, [], 4, by decide, rfl, g0, ⟨l, [], rfl, hid_new hg.dom hl, .nil, fun u h => (by cases h)⟩, by decide, fun v1 m H1 x1 g1 m1 o1 => ?_⟩
  have m1' := m1
  obtain ⟨a, tv, pp, uv, cv, rfl, ha, _, _, _, ⟨ca, rfl, hca⟩⟩ := m1
  refine ⟨_, rfl, a, _, _, _, rfl, rfl, SqL.new (hid_at ha), atI_nat (j := 4) rfl, ca, (Srt.all.map fun s => ((m.tl s : Nat) : Int)), rfl, SqL.new (by rw [← talL_int]; exact hid_at hca), ?_⟩
  rw [talL_sum]
  refine ⟨_, _, rfl, rfl, _, rfl, ?_⟩
  refine ite2 (fun c0 => ?_) (fun c0 => ?_)
  · exact ⟨_, rfl, S, C, rfl, g1, fun v' m H' x' g' m' o' _ t' => q v' m H' ((same_x n1).trans (x1.trans x')) g' m' (right_of (o' []) (by decide) (Nat.le_trans t' (by decide)))⟩
  · have ht : m.tl.tot ≤ 300 := by
      have h : ¬ ((300 : Int) < (m.tl.tot : Nat)) := fun e => c0 (decide_eq_true e)
      omega
    exact ⟨_, rfl, q _ m H1 ((same_x n1).trans x1) g1 m1' (right_of o1 (by decide) ht)⟩
end
end Ut
set_option Elab.async false
set_option linter.all false
set_option maxRecDepth 100000
set_option maxHeartbeats 4000000
namespace Ut
open PySem PySem.Spec PyProof.Rows L2
/-! ### the row's plain law -/
structure RowOk (k : Nat) (m : Mde) : Prop where
  k1 : 1 ≤ k
  j : J k m.t m.p m.row
  ok : m.t.ok
  dep : m.t.dep ≤ k + 1
  sc : Sc m.t []
  us : m.us = []
  tot : m.tl.tot ≤ 3 * k
theorem tot_add {f g h : Tal} (e : ∀ z, f z = g z + h z) : f.tot = g.tot + h.tot := by
  unfold Tal.tot
  rw [e, e, e, e, e, e, e]
  omega
theorem tot_two (g h : Tal) : (talSum [g, h]).tot = g.tot + h.tot := tot_add fun z => by
  show talSum ([g] ++ [h]) z = _
  rw [tal_app, tal_one, tal_one]
theorem row_num (i : Int) : RowOk 1 ⟨.num i, numP, i, [], talOf []⟩ := ⟨Nat.le_refl 1, ⟨rfl, rfl⟩, trivial, by show 1 ≤ 2; decide, trivial, rfl, by show 0 ≤ 3; decide⟩
theorem row_minus {k : Nat} {m : Mde} (c : Int) (h : RowOk k m) : RowOk (k + 1) ⟨.sm "-" m.t (.num c), tp [.str "sum", m.p, numP], m.i - c, [], talSum [m.tl, talOf [.op, .next, .sum]]⟩ := by
  have h1 := h.k1
  refine ⟨by omega, ⟨m.p, m.row, numP, ⟨.int c, [], talOf []⟩, m.i, c, rfl, h.j, j_mono (n := 1) (m := k) h1 ⟨rfl, rfl⟩, rfl, rfl, ?_⟩, ⟨sg_minus, h.ok, trivial⟩, ?_, ⟨h.sc, trivial⟩, rfl, ?_⟩
  · show Row.mk _ _ _ = Row.mk _ (m.us.map toUse ++ usAll [⟨.int c, [], talOf []⟩]) _
    rw [h.us, sumOf_minus]
    refine congr (congrArg _ rfl) (funext fun z => ?_)
    show talSum ([m.tl] ++ [talOf [.op, .next, .sum]]) z = talSum ([m.tl] ++ [talOf []] ++ [talOf [.op, .next, .sum]]) z
    simp only [tal_app, tal_one, talOf_nil]
    omega
  · show max m.t.dep 1 + 1 ≤ _
    have := h.dep; omega
  · rw [tot_two]
    have := h.tot
    have e : (talOf [.op, .next, .sum]).tot = 3 := rfl
    omega
theorem row_plus {k : Nat} {m : Mde} (c : Int) (h : RowOk k m) : RowOk (k + 1) ⟨.sm "+" (.num c) m.t, tp [.str "sum", numP, m.p], c + m.i, [], talSum [m.tl, talOf [.op, .next, .sum]]⟩ := by
  have h1 := h.k1
  refine ⟨by omega, ⟨numP, ⟨.int c, [], talOf []⟩, m.p, m.row, c, m.i, rfl, j_mono (n := 1) (m := k) h1 ⟨rfl, rfl⟩, h.j, rfl, rfl, ?_⟩, ⟨sg_plus, trivial, h.ok⟩, ?_, ⟨trivial, h.sc⟩, rfl, ?_⟩
  · show Row.mk _ _ _ = Row.mk _ ([] ++ usAll [m.row]) _
    have e : usAll [m.row] = [] := by show m.us.map toUse ++ [] = []; rw [h.us]; rfl
    rw [e, sumOf_plus]
    refine congr (congrArg _ rfl) (funext fun z => ?_)
    show talSum ([m.tl] ++ [talOf [.op, .next, .sum]]) z = talSum ([talOf []] ++ [m.tl] ++ [talOf [.op, .next, .sum]]) z
    simp only [tal_app, tal_one, talOf_nil]
    omega
  · show max 1 m.t.dep + 1 ≤ _
    have := h.dep; omega
  · rw [tot_two]
    have := h.tot
    have e : (talOf [.op, .next, .sum]).tot = 3 := rfl
    omega
theorem row_maker {k : Nat} {m : Mde} {x : Str} (hx : okName x) (h : RowOk k m) : RowOk (k + 2) ⟨.gv (.mk x m.t) wT, tp [.str "gives", tp [.str "takes", m.p], tp []], m.i, [], talSum [m.tl, talOf [.op, .take]]⟩ := by
  have h1 := h.k1
  refine ⟨by omega, ⟨tp [.str "takes", m.p], ⟨tp [.str "takes", tp (kindsUsed m.row.us x), m.row.k], usesBut m.row.us x, talSum [m.row.tl, talOf [.take]]⟩, [], [], .int m.i, rfl, ⟨m.p, m.row, rfl, h.j, rfl⟩, .nil, ?_, fun q hq => (by cases hq), Nat.zero_le _, ?_⟩, ⟨⟨hx, h.ok⟩, okN_w, okN_w⟩, ?_, ⟨⟨[], by decide, fun y hy => (by cases hy), h.sc⟩, sc_w []⟩, rfl, ?_⟩
  · show tp [.str "takes", tp (kindsUsed (m.us.map toUse) x), .int m.i] = _
    rw [h.us]; rfl
  · show Row.mk _ _ _ = Row.mk _ (usesBut (m.us.map toUse) x ++ []) _
    rw [h.us]
    refine congr (congrArg _ rfl) (funext fun z => ?_)
    show talSum ([m.tl] ++ [talOf [.op, .take]]) z = talSum ([talSum ([m.tl] ++ [talOf [.take]])] ++ [talOf [.op]]) z
    simp only [tal_app, tal_one, two_talOf]
    omega
  · show max (m.t.dep + 1) 2 + 1 ≤ _
    have := h.dep; omega
  · rw [tot_two]
    have := h.tot
    have e : (talOf [.op, .take]).tot = 2 := rfl
    omega
theorem row_choice {k : Nat} {m : Mde} (v : Int) (h : RowOk k m) : RowOk (k + 1) ⟨if v = 0 then .ch (.num v) m.t wT else .ch (.num v) wT m.t, tp [.str "choice", numP, m.p], m.i, [], talSum [m.tl, talOf [.op, .choose]]⟩ := by
  have h1 := h.k1
  have h2 := h.dep
  have hrow : (⟨.int m.i, [], talSum [m.tl, talOf [.op, .choose]]⟩ : Row) = ⟨m.row.k, [] ++ usAll [m.row], talSum [talOf [], m.row.tl, talOf [.op, .choose]]⟩ := by
    have e : usAll [m.row] = [] := by show m.us.map toUse ++ [] = []; rw [h.us]; rfl
    rw [e]
    refine congr (congrArg _ rfl) (funext fun z => ?_)
    show talSum ([m.tl] ++ [talOf [.op, .choose]]) z = talSum ([talOf []] ++ [m.tl] ++ [talOf [.op, .choose]]) z
    simp only [tal_app, tal_one, talOf_nil]
    omega
  have ht : (talSum [m.tl, talOf [.op, .choose]]).tot ≤ 3 * (k + 1) := by
    rw [tot_two]
    have := h.tot
    have e : (talOf [.op, .choose]).tot = 2 := rfl
    omega
  by_cases c : v = 0
  · simp only [c, if_true]
    refine ⟨by omega, ⟨numP, ⟨.int 0, [], talOf []⟩, m.p, m.row, 0, rfl, j_mono (n := 1) (m := k) h1 ⟨rfl, rfl⟩, rfl, by rw [if_pos rfl]; exact h.j, hrow⟩, ⟨trivial, h.ok, okN_w, okN_w⟩, ?_, ⟨trivial, h.sc, sc_w []⟩, rfl, ht⟩
    show max 1 (max m.t.dep 2) + 1 ≤ _
    omega
  · simp only [c, if_false]
    refine ⟨by omega, ⟨numP, ⟨.int v, [], talOf []⟩, m.p, m.row, v, rfl, j_mono (n := 1) (m := k) h1 ⟨rfl, rfl⟩, rfl, by rw [if_neg c]; exact h.j, hrow⟩, ⟨trivial, ⟨okN_w, okN_w⟩, h.ok⟩, ?_, ⟨trivial, sc_w [], h.sc⟩, rfl, ht⟩
    show max 1 (max 2 m.t.dep) + 1 ≤ _
    omega
theorem row_right {k : Nat} {m : Mde} (h : RowOk k m) (hk : k ≤ 58) : RightOk m :=
  ⟨j_mono (by omega) h.j, h.ok, by have := h.dep; omega, h.sc, h.us, by have := h.tot; omega⟩
/-! ### the great looks' plain law -/
def gT (x : Str) : Nat → Tm
  | 0 => .name x
  | k + 1 => .sm "+" (gT x k) (.name x)
def gP (v : Int) : Nat → PyData
  | 0 => lookP v
  | k + 1 => tp [.str "sum", gP v k, lookP v]
theorem g_j (x : Str) (v : Int) : ∀ k : Nat, J (k + 1) (gT x k) (gP v k) ⟨.int (((k + 1 : Nat) : Int) * v), (List.replicate (k + 1) [(x, PyData.int v)]).flatten, fun z => (k + 1) * talOf [.look] z + k * talOf [.op, .next, .sum] z⟩
  | 0 => ⟨.int v, rfl, by
    have e : ((0 + 1 : Nat) : Int) * v = v := by simp
    rw [e]
    refine congr (congrArg _ rfl) (funext fun z => ?_)
    simp⟩
  | k + 1 => by
    refine ⟨_, _, _, _, _, _, rfl, g_j x v k, j_mono (n := 1) (m := k + 1) (by omega) ⟨.int v, rfl, rfl⟩, rfl, rfl, ?_⟩
    have e : ((k + 1 + 1 : Nat) : Int) * v = sumOf "+" (((k + 1 : Nat) : Int) * v) v := by
      rw [sumOf_plus]
      have : ((k + 1 + 1 : Nat) : Int) = ((k + 1 : Nat) : Int) + 1 := rfl
      rw [this, Int.add_mul, Int.one_mul]
    rw [e]
    have eu : (List.replicate (k + 1 + 1) [(x, PyData.int v)]).flatten = (List.replicate (k + 1) [(x, PyData.int v)]).flatten ++ usAll [⟨Kd.d (.int v), [(x, Kd.d (.int v))], talOf [.look]⟩] := by
      rw [List.replicate_succ', List.flatten_append]
      rfl
    rw [eu]
    refine congr (congrArg _ rfl) (funext fun z => ?_)
    show (k + 1 + 1) * talOf [.look] z + (k + 1) * talOf [.op, .next, .sum] z = talSum ([fun z => (k + 1) * talOf [.look] z + k * talOf [.op, .next, .sum] z] ++ [talOf [.look]] ++ [talOf [.op, .next, .sum]]) z
    rw [tal_app, tal_app, tal_one, tal_one, tal_one]
    simp only [Nat.add_mul, Nat.one_mul]
    omega
theorem g_ok {x : Str} (hx : okName x) : ∀ k : Nat, (gT x k).ok ∧ (gT x k).dep ≤ k + 1 ∧ Sc (gT x k) [x]
  | 0 => ⟨hx, Nat.le_refl 1, List.mem_singleton.mpr rfl⟩
  | k + 1 => by
    obtain ⟨h1, h2, h3⟩ := g_ok hx k
    refine ⟨⟨sg_plus, h1, hx⟩, ?_, ⟨h3, List.mem_singleton.mpr rfl⟩⟩
    show max (gT x k).dep 1 + 1 ≤ _
    omega
def gC (m : Nat) : Tal
  | .op => 2 * m
  | .look => m
  | .take => 1
  | .turn => 0
  | .next => 2 * m - 1
  | .sum => 2 * m - 1
  | .choose => 0
abbrev addP : PyData := tp [.str "sum", numP, numP]
theorem add_j (a b : Int) : J 2 (.sm "+" (.num a) (.num b)) addP ⟨.int (a + b), [], talOf [.op, .next, .sum]⟩ := by
  refine ⟨_, _, _, _, a, b, rfl, ⟨rfl, rfl⟩, ⟨rfl, rfl⟩, rfl, rfl, ?_⟩
  rw [sumOf_plus]
  refine congr (congrArg _ rfl) (funext fun z => ?_)
  cases z <;> rfl
theorem great_right {x : Str} {a b : Int} (hx : okName x) (k : Nat) (hk : k ≤ 3) :
    RightOk ⟨.gv (.mk x (gT x k)) (.sm "+" (.num a) (.num b)), tp [.str "gives", tp [.str "takes", gP (a + b) k], tp (List.replicate (k + 1) addP)], ((k + 1 : Nat) : Int) * (a + b), [], gC (k + 1)⟩ := by
  obtain ⟨h1, h2, h3⟩ := g_ok hx k
  refine ⟨j_mono (n := k + 2 + 1) (by omega) ⟨_, _, _, List.replicate (k + 1) ⟨.int (a + b), [], talOf [.op, .next, .sum]⟩, .int (((k + 1 : Nat) : Int) * (a + b)), rfl, ⟨_, _, rfl, g_j x (a + b) k, rfl⟩, je_rep (j_mono (by omega) (add_j a b)) _, ?_, fun q hq => ?_, ?_, ?_⟩, ⟨⟨hx, h1⟩, sg_plus, trivial, trivial⟩, ?_, ⟨⟨[x], by show 1 ≤ 15; decide, fun y hy => .inl (List.mem_singleton.mp hy), h3⟩, trivial, trivial⟩, rfl, ?_⟩
  · show tp [.str "takes", tp (kindsUsed (List.replicate (k + 1) [(x, PyData.int (a + b))]).flatten x), _] = _
    rw [ku_rep, List.map_replicate]
  · rw [List.eq_of_mem_replicate hq]; exact ⟨.int (a + b), rfl⟩
  · rw [List.length_replicate]; omega
  · show Row.mk _ _ _ = Row.mk _ (usesBut (List.replicate (k + 1) [(x, PyData.int (a + b))]).flatten x ++ usAll (List.replicate (k + 1) ⟨.int (a + b), [], talOf [.op, .next, .sum]⟩)) _
    have e : ∀ n : Nat, usAll (List.replicate n ⟨.int (a + b), [], talOf [.op, .next, .sum]⟩) = [] := fun n => by
      rw [usAll_rep]
      induction n with
      | zero => rfl
      | succ n ih => rw [List.replicate_succ, List.flatten_cons]; exact ih
    rw [e, ub_rep]
    refine congr (congrArg _ rfl) (funext fun z => ?_)
    show gC (k + 1) z = talSum ([talSum ([fun z => (k + 1) * talOf [.look] z + k * talOf [.op, .next, .sum] z] ++ [talOf [.take]])] ++ tlAll (List.replicate (k + 1) ⟨.int (a + b), [], talOf [.op, .next, .sum]⟩) ++ [talOf [.op]]) z
    rw [tlAll_rep]
    simp only [tal_app, tal_one, tal_rep]
    cases z <;> simp [gC, talOf, List.count_cons] <;> omega
  · show max ((gT x k).dep + 1) (max 1 1 + 1) + 1 ≤ 60
    omega
  · show (gC (k + 1)).tot ≤ 300
    simp only [Tal.tot, gC]
    omega
end Ut
set_option Elab.async false
set_option linter.all false
set_option maxRecDepth 100000
set_option maxHeartbeats 4000000
namespace Ut
open PySem PySem.Spec PyProof.Rows L2
/-! ### list(d.values()) -/
def tListVals (te : TE) : TE := fun σ H Q => te σ H fun x H1 => ∃ d kvs, x = .ref d ∧ H1 d = some (.dK kvs) ∧ ∀ q, H1 q = none → Q (.ref q) (upd H1 q (.lst (kvs.map (·.2))))
section
variable {X : Cx} {e : Expr} {te : TE} {p apos cpos pos : Pos}
theorem pe_listVals (hc : X.calm = true) (he : PE X e te) (hg : Gl X "list") (hm : X.mg "list" = none) (hv : bootBuiltins "list" = some (.type "list") := by decide +kernel) (hbase : attributeBase e "values" X.env (eval e X.env) = eval e X.env := by rfl) (hline : (apos.endLine == cpos.line) = true := by rfl)
    (hs : starEach [.Call (.Attribute e "values" apos) [] [] cpos] X.env = (false, eval (.Call (.Attribute e "values" apos) [] [] cpos) X.env) :: starEach [] X.env := by rfl) :
    PE X (.Call (.Name "list" p) [.Call (.Attribute e "values" apos) [] [] cpos] [] pos) (tListVals te) := by
  refine ⟨fun pins s σ H Q I hq => ?_⟩
  refine wpAny_Call_Name_kw (ld_blt I hg hm hv ?_)
  refine PyProof.Rows.callWith_type1 ?_ hs rfl
  rw [hs]
  show wpAny _ _ (spliced ((false, eval (.Call (.Attribute e "values" apos) [] [] cpos) X.env) :: backTo pos (starEach [] X.env))) _ _ s
  refine Calls.spliced_cons ?_
  refine wpAny_Call_method (T := "dict") (id := "dict.values") hbase rfl hline F.plainAttrs_dict F.slot_dict_values F.type_dict_values (thn (he.run pins s σ H _ I hq) fun u s1 ⟨x, H1, I1, rx, d, kvs, ex, hd, q⟩ => ?_)
  subst ex
  obtain rfl : u = Value.ref d := rx
  obtain ⟨hz, hs0, vs, kv, hdo⟩ := I1.hok d _ hd
  obtain ⟨ep, hat⟩ := hdo.dictAt
  have lk : kvs.length = vs.length := Paired.length kv
  have I2 : Inv X pins σ H1 { s1 with heap := s1.heap.push { cls := .type "dict_values", data := .fields #[.ref d] } } := I1.kept (t' := s1.toks) fun b ob q => Heap.get?_push_of_some _ q
  refine ⟨hdo.typeIs, hdo.mapOf.noDict, ?_⟩
  show wpAny _ _ (callWith cpos (.builtin "dict.values") [.ref d] [] []) _ X.xe s1
  refine method_meetsIn F.slot_dict_values F.entry_dict_values rfl (PySem.evalArgs_none ⟨rfl, hdo.typeIs, F.args_dict_values_1 _, _, meets_dict_values (mixKind X.prog X.w) d hs0, ⟨vs, hdo⟩, ?_⟩)
  refine Calls.spliced_nil ?_
  refine PySem.W.kdl_call (PySem.W.kdl_values (knd := mixKind X.prog X.w) (kvs := vs) (ep := ep)) (I1.ok.hd hc) ⟨⟨_, Heap.get?_push_size _ rfl, rfl, rfl⟩, hat.push _⟩ (by rw [← lk]; exact hz) fun h' tk acc' c' hk hS hacc => ?_
  refine ⟨.ref _, upd H1 _ (.lst (kvs.map (·.2))), I2.laid hk (Nat.le_refl _) (show ObjOk X.prog X.w _ _ _ (.lst (kvs.map (·.2))) from ⟨?_, acc'.toList, c', ?_, ?_⟩), rfl, q _ (I2.hok.fresh (Nat.le_refl _))⟩
  · rw [List.length_map]; exact hz
  · have el : acc'.toList.length = acc'.size := by simp
    refine vals_of_at (by rw [List.length_map, el, hacc.1, lk]) fun j x u h1 h2 => ?_
    obtain ⟨k, hky⟩ := hacc.2 j u (by rw [← Array.getElem?_toList]; exact h2)
    rw [List.getElem?_map] at h1
    obtain ⟨y, ey, rfl⟩ := Option.map_eq_some_iff.mp h1
    obtain ⟨z, g1, g2, g3⟩ := LiI.paired_get kv ey
    rw [hky] at g1
    cases g1
    exact g3
  · rw [Array.toArray_toList]; exact hS
end
section
variable {P : Program} {w : World} {K : PySem.W.Frag} {mg : Str → Option Value} {base : Heap}
theorem dps_strs {H : Hp} : ∀ (ks : List Str), DpAll K H (ks.map V.str) (ks.map PyData.str)
  | [] => .nil
  | k :: r => .cons (.str k) (dps_strs r)
def sortS : List Str := ["open", "look", "take", "turn", "next", "sum", "choose"]
theorem talK_keys (f : Tal) : ((talK f).map fun kv => kV kv.1) = sortS.map V.str := rfl
theorem talK_vals (f : Tal) : ((talK f).map (·.2)) = talL f := rfl
theorem alk_strs (ks : List Str) (h : ks.length ≤ 1000) : Alk 2 (.list (ks.map PyData.str)) := by
  refine ⟨by rw [List.length_map]; exact h, fun d hd => ?_⟩
  obtain ⟨k, _, rfl⟩ := List.mem_map.mp hd
  exact trivial
theorem alk_ints (ks : List Int) (h : ks.length ≤ 1000) : Alk 2 (.list (ks.map PyData.int)) := by
  refine ⟨by rw [List.length_map]; exact h, fun d hd => ?_⟩
  obtain ⟨k, _, rfl⟩ := List.mem_map.mp hd
  exact trivial
theorem sc_law_tally_right : FnScope ["_law_found", "_law_counts", "_law_sorts"] ["_law_found", "_law_counts"] (defScope S_law_tally_right) := ⟨rfl, rfl, rfl, by decide +kernel, rfl, by decide +kernel, by decide +kernel⟩
def spTally (K : PySem.W.Frag) : Sp := fun vs H Q _ => ∃ v u f, vs = [v, u] ∧ TalAt H v f ∧ CntAt H u f ∧ ∀ H', Same H H' → Q (.bl true) H'
theorem ok_tally_right (T : Tx w K mg) (c_law_alike : Cal P w K mg base 3 "_law_alike" (spAlike K 2)) : Cal P w K mg base 4 "_law_tally_right" (spTally K) := by
  refine cal_mk T 50 50 rfl rfl sc_law_tally_right (fun _ _ _ _ _ _ us hl => match us, hl with | [_, _], _ => rfl) (fun vs H Q E h => ?_) (fun cdv A outer s0 H vs Q E hr h => ?_)
  · obtain ⟨v, u, f, rfl, _⟩ := h
    rfl
  obtain ⟨v, u, f, rfl, ⟨a, rfl, ha⟩, ⟨b, rfl, hb⟩, q⟩ := h
  refine ⟨_, (pss_cons (ps_set (i := 2) sc_law_tally_right.nd rfl (Or.inl rfl) (pe_lst (pa_cons pe_str (pa_cons pe_str (pa_cons pe_str (pa_cons pe_str (pa_cons pe_str (pa_cons pe_str (pa_cons pe_str pa_nil)))))))))
      (pss_one (ps_ret (pe_and (pe_isi (pv 0) (pe_bltn (v := .ty "dict") (by rfl) (T.free 80 rfl) (by decide +kernel) rfl) (by rfl) (T.free 69 rfl)) (pe_and (pe_c c_law_alike hr (by omega) (by rfl) (pa_cons (pe_callTy (call_list_dK rfl) (by rfl) (T.free 79 rfl) (by decide +kernel) (pa_cons (pv 0) pa_nil)) (pa_cons (pv 2) pa_nil))) (pe_one (pe_c c_law_alike hr (by omega) (by rfl) (pa_cons (pe_listVals rfl (pv 0) (by rfl) (T.free 79 rfl)) (pa_cons (pv 1) pa_nil))))))))), ?_⟩
  refine ⟨sz7, fun l hl => ?_⟩
  have n1 := same_new hl (.lst (sortS.map V.str))
  refine ⟨_, rfl, true, isi_dK (n1 _ _ ha) k_dict_dict, _, rfl, iteT ?_⟩
  refine ⟨_, rfl, a, talK f, rfl, n1 _ _ ha, fun p hp => ?_⟩
  rw [talK_keys]
  have n2 := same_new hp (.lst (sortS.map V.str))
  refine ⟨_, rfl, .ref p, .ref l, .list (sortS.map PyData.str), rfl, dp_newL upd_same (dps_strs _), dp_newL (xs := sortS.map V.str) (n2 _ _ upd_same) (dps_strs _), alk_strs _ (by decide), fun H3 s3 => ?_⟩
  have s03 := n1.trans (n2.trans s3)
  refine ⟨_, rfl, iteT ?_⟩
  refine ⟨_, rfl, a, talK f, rfl, s03 _ _ ha, fun p2 hp2 => ?_⟩
  rw [talK_vals, talL_int]
  have n4 := same_new hp2 (.lst ((Srt.all.map fun s => ((f s : Nat) : Int)).map V.int))
  refine ⟨_, rfl, .ref p2, .ref b, .list ((Srt.all.map fun s => ((f s : Nat) : Int)).map PyData.int), rfl, dp_newL upd_same (dps_ints _), ?_, alk_ints _ (by simp [Srt.all]), fun H5 s5 => q H5 (s03.trans (n4.trans s5))⟩
  exact dp_newL ((s03.trans n4) _ _ hb) (by rw [talL_int]; exact dps_ints _)
end
end Ut
set_option Elab.async false
set_option linter.all false
set_option maxRecDepth 100000
set_option maxHeartbeats 0
namespace Ut
open PySem PySem.Spec PyProof.Rows L2
section
variable {P : Program} {w : World} {K : PySem.W.Frag} {mg : Str → Option Value} {base : Heap}
def RowW (K : PySem.W.Frag) (S C : Addr) (H0 : Hp) (M : Nat) (Mi : Int) : Nat → L2.St → Hp → Prop := fun n σ H => ∃ (k : Nat) (ki : Int) (m : Mde) (nh mv : V) (x5 x6 x7 x8 x9 x10 x11 x12 x13 x14 x15 x16 : Option V),
  σ = [some (.ref S), some (.int Mi), some nh, some mv, some (.int ki), x5, x6, x7, x8, x9, x10, x11, x12, x13, x14, x15, x16] ∧ ki = (k : Nat) ∧ n + k = M + 2 ∧ k ≤ M + 1 ∧ SameX [S, C] H0 H ∧ GenAt H S C ∧ MadeAt K (hid [S, C] H) mv m ∧ RowOk k m
theorem five {r : Nat} (h : r < 5) : r = 0 ∨ r = 1 ∨ r = 2 ∨ r = 3 ∨ r = 4 := by omega
theorem ask_pos (sm : Int) : (1 + (if sm < 0 then -sm else sm) % 1000) ≠ 0 := by
  have := Int.emod_nonneg (if sm < 0 then -sm else sm) (show (1000 : Int) ≠ 0 by decide)
  omega
theorem sc_law_row : FnScope ["_law_state_here", "_law_most", "_law_number_here", "_law_made_here", "_law_deep", "_law_way", "_law_told", "_law_page", "_law_uses", "_law_counts", "_law_some", "_law_endless", "_law_sums", "_law_takes", "_law_asked", "_law_parts", "_law_chooses"] ["_law_state_here"] (defScope S_law_row) := ⟨rfl, rfl, rfl, by decide +kernel, rfl, by decide +kernel, by decide +kernel⟩
theorem ok_row (T : Tx w K mg) (c_law_draw : Cal P w K mg base 1 "_law_draw" spDraw) (c_law_number : Cal P w K mg base 2 "_law_number" spNumber) (c_law_word : Cal P w K mg base 2 "_law_word" spWord) (c_law_all : Cal P w K mg base 1 "_law_all" (spAll K)) : Cal P w K mg base 3 "_law_row" (spShort K) := by
  refine cal_mk T 51 51 rfl rfl sc_law_row (fun _ _ _ _ _ _ us hl => match us, hl with | [_], _ => rfl) (fun vs H Q E h => ?_) (fun cdv A outer s0 H vs Q E hr h => ?_)
  · obtain ⟨S, C, rfl, _⟩ := h
    rfl
  obtain ⟨S, C, rfl, hg, q⟩ := h
  refine ⟨_, (pss_cons (ps_set (i := 1) sc_law_row.nd rfl (Or.inl rfl) (pe_op op_add pe_int (pe_c c_law_draw hr (by omega) (by rfl) (pa_cons (pv 0) (pa_cons pe_int pa_nil)))))
      (pss_cons (ps_set (i := 2) sc_law_row.nd rfl (Or.inl rfl) (pe_c c_law_number hr (by omega) (by rfl) (pa_cons (pv 0) pa_nil)))
      (pss_cons (ps_set (i := 3) sc_law_row.nd rfl (Or.inl rfl) (pe_lst (pa_cons (pe_tup (pa_cons pe_str (pa_cons (pv 2) pa_nil))) (pa_cons (pe_tup (pa_cons pe_str pa_nil)) (pa_cons (pv 2) (pa_cons (pe_lst pa_nil) (pa_cons (pe_lst (pa_cons pe_int (pa_cons pe_int (pa_cons pe_int (pa_cons pe_int (pa_cons pe_int (pa_cons pe_int (pa_cons pe_int pa_nil)))))))) pa_nil)))))))
      (pss_cons (ps_set (i := 4) sc_law_row.nd rfl (Or.inl rfl) pe_int)
      (pss_cons (ps_while PassesOwn.never (pt_cmpR op_lt (pv 4) (pv 1) (nomark _))
      (pss_cons (ps_set (i := 5) sc_law_row.nd rfl (Or.inl rfl) (pe_c c_law_draw hr (by omega) (by rfl) (pa_cons (pv 0) (pa_cons pe_int pa_nil))))
      (pss_cons (ps_asg (pv 3) (pg_lst (by rfl) (pgs_cons (pg_name (i := 6) sc_law_row.nd rfl (Or.inl rfl)) (pgs_cons (pg_name (i := 7) sc_law_row.nd rfl (Or.inl rfl)) (pgs_cons (pg_name (i := 2) sc_law_row.nd rfl (Or.inl rfl)) (pgs_cons (pg_name (i := 8) sc_law_row.nd rfl (Or.inl rfl)) (pgs_cons (pg_name (i := 9) sc_law_row.nd rfl (Or.inl rfl)) pgs_nil)))))))
      (pss_cons (ps_set (i := 10) sc_law_row.nd rfl (Or.inl rfl) (pe_c c_law_number hr (by omega) (by rfl) (pa_cons (pv 0) pa_nil)))
      (pss_cons (ps_set (i := 11) sc_law_row.nd rfl (Or.inl rfl) (pe_tup (pa_cons pe_str (pa_cons pe_str (pa_cons (pe_tup (pa_cons pe_str (pa_cons pe_str pa_nil))) pa_nil)))))
      (pss_cons (ps_aug (i := 4) sc_law_row.nd rfl (Or.inl rfl) pe_int ip_add)
      (pss_one (ps_if (pt_cmpR op_eq (pv 5) pe_int (nomark _)) (pss_cons (ps_set (i := 12) sc_law_row.nd rfl (Or.inl rfl) (pe_c c_law_all hr (by omega) (by rfl) (pa_cons (pe_lst (pa_cons (pv 9) (pa_cons (pe_lst (pa_cons pe_int (pa_cons pe_int (pa_cons pe_int (pa_cons pe_int (pa_cons pe_int (pa_cons pe_int (pa_cons pe_int pa_nil)))))))) pa_nil))) pa_nil)))
      (pss_one (ps_set (i := 3) sc_law_row.nd rfl (Or.inl rfl) (pe_lst (pa_cons (pe_tup (pa_cons pe_str (pa_cons pe_str (pa_cons (pv 6) (pa_cons (pe_tup (pa_cons pe_str (pa_cons (pv 10) pa_nil))) pa_nil))))) (pa_cons (pe_tup (pa_cons pe_str (pa_cons (pv 7) (pa_cons (pe_tup (pa_cons pe_str pa_nil)) pa_nil)))) (pa_cons (pe_op op_sub (pv 2) (pv 10)) (pa_cons (pe_lst pa_nil) (pa_cons (pv 12) pa_nil))))))))) (pss_one (ps_if (pt_cmpR op_eq (pv 5) pe_int (nomark _)) (pss_cons (ps_set (i := 12) sc_law_row.nd rfl (Or.inl rfl) (pe_c c_law_all hr (by omega) (by rfl) (pa_cons (pe_lst (pa_cons (pv 9) (pa_cons (pe_lst (pa_cons pe_int (pa_cons pe_int (pa_cons pe_int (pa_cons pe_int (pa_cons pe_int (pa_cons pe_int (pa_cons pe_int pa_nil)))))))) pa_nil))) pa_nil)))
      (pss_one (ps_set (i := 3) sc_law_row.nd rfl (Or.inl rfl) (pe_lst (pa_cons (pe_tup (pa_cons pe_str (pa_cons pe_str (pa_cons (pe_tup (pa_cons pe_str (pa_cons (pv 10) pa_nil))) (pa_cons (pv 6) pa_nil))))) (pa_cons (pe_tup (pa_cons pe_str (pa_cons (pe_tup (pa_cons pe_str pa_nil)) (pa_cons (pv 7) pa_nil)))) (pa_cons (pe_op op_add (pv 10) (pv 2)) (pa_cons (pe_lst pa_nil) (pa_cons (pv 12) pa_nil))))))))) (pss_one (ps_if (pt_cmpR op_eq (pv 5) pe_int (nomark _)) (pss_cons (ps_aug (i := 4) sc_law_row.nd rfl (Or.inl rfl) pe_int ip_add)
      (pss_cons (ps_set (i := 13) sc_law_row.nd rfl (Or.inl rfl) (pe_c c_law_all hr (by omega) (by rfl) (pa_cons (pe_lst (pa_cons (pv 9) (pa_cons (pe_lst (pa_cons pe_int (pa_cons pe_int (pa_cons pe_int (pa_cons pe_int (pa_cons pe_int (pa_cons pe_int (pa_cons pe_int pa_nil)))))))) pa_nil))) pa_nil)))
      (pss_cons (ps_set (i := 6) sc_law_row.nd rfl (Or.inl rfl) (pe_tup (pa_cons pe_str (pa_cons (pe_tup (pa_cons pe_str (pa_cons (pe_c c_law_word hr (by omega) (by rfl) (pa_cons (pv 0) pa_nil)) (pa_cons (pv 6) pa_nil)))) (pa_cons (pv 11) pa_nil)))))
      (pss_one (ps_set (i := 3) sc_law_row.nd rfl (Or.inl rfl) (pe_lst (pa_cons (pv 6) (pa_cons (pe_tup (pa_cons pe_str (pa_cons (pe_tup (pa_cons pe_str (pa_cons (pv 7) pa_nil))) (pa_cons (pe_tup pa_nil) pa_nil)))) (pa_cons (pv 2) (pa_cons (pe_lst pa_nil) (pa_cons (pv 13) pa_nil))))))))))) (pss_cons (ps_set (i := 14) sc_law_row.nd rfl (Or.inl rfl) (pe_tup (pa_cons pe_str (pa_cons (pe_ix ix_list (pe_lst (pa_cons pe_int (pa_cons (pe_op op_add pe_int (pe_op op_mod (pe_callB call_abs (by rfl) (T.free 82 rfl) (by decide +kernel) (pa_cons (pv 10) pa_nil)) pe_int)) pa_nil))) (pe_op op_sub (pv 5) pe_int) (fun _ _ => rfl)) pa_nil))))
      (pss_cons (ps_set (i := 15) sc_law_row.nd rfl (Or.inl rfl) (pe_ix ix_list (pe_lst (pa_cons (pe_lst (pa_cons (pv 6) (pa_cons (pv 11) pa_nil))) (pa_cons (pe_lst (pa_cons (pv 11) (pa_cons (pv 6) pa_nil))) pa_nil))) (pe_op op_sub (pv 5) pe_int) (fun _ _ => rfl)))
      (pss_cons (ps_set (i := 16) sc_law_row.nd rfl (Or.inl rfl) (pe_c c_law_all hr (by omega) (by rfl) (pa_cons (pe_lst (pa_cons (pv 9) (pa_cons (pe_lst (pa_cons pe_int (pa_cons pe_int (pa_cons pe_int (pa_cons pe_int (pa_cons pe_int (pa_cons pe_int (pa_cons pe_int pa_nil)))))))) pa_nil))) pa_nil)))
      (pss_cons (ps_set (i := 6) sc_law_row.nd rfl (Or.inl rfl) (pe_tup (pa_cons pe_str (pa_cons (pv 14) (pa_cons (pe_ix ix_list (pv 15) pe_int (fun _ _ => rfl)) (pa_cons (pe_ix ix_list (pv 15) pe_int (fun _ _ => rfl)) pa_nil))))))
      (pss_one (ps_set (i := 3) sc_law_row.nd rfl (Or.inl rfl) (pe_lst (pa_cons (pv 6) (pa_cons (pe_tup (pa_cons pe_str (pa_cons (pe_tup (pa_cons pe_str pa_nil)) (pa_cons (pv 7) pa_nil)))) (pa_cons (pv 2) (pa_cons (pe_lst pa_nil) (pa_cons (pv 16) pa_nil))))))))))))))))))))))))
      (pss_one (ps_ret (pv 3)))))))), ?_⟩
  refine ⟨_, rfl, S, C, 54, rfl, by decide, by decide, hg, fun r0 H1 hr0 x1 g1 => ?_⟩
  refine ⟨_, _, rfl, rfl, ?_⟩
  obtain ⟨M, hM⟩ : ∃ M, M = r0 + 2 := ⟨_, rfl⟩
  have hM2 : M ≤ 55 := by omega
  refine ⟨_, rfl, S, C, rfl, g1, fun z0 H2 x2 g2 => ?_⟩
  have hB := g2.dom
  refine ⟨_, rfl, sz2, fun p1 hp1 => ⟨sz1, fun p2 hp2 => ⟨_, rfl, Nat.zero_le _, fun l1 hl1 => ⟨sz7, fun l2 hl2 => ⟨sz5, fun l3 hl3 => ?_⟩⟩⟩⟩⟩
  have n1 := same_new hp1 (.tup [.str "number", .int z0])
  have n2 := same_new hp2 (.tup [.str "number"])
  have n3 := same_new hl1 (.lst [])
  have n4 := same_new hl2 (.lst (talL (talOf [])))
  have n5 := same_new hl3 (.lst [.ref p1, .ref p2, .int z0, .ref l1, .ref l2])
  have s15 := n1.trans (n2.trans (n3.trans (n4.trans n5)))
  have mv0 : MadeAt K (hid [S, C] (upd (upd (upd (upd (upd H2 p1 (.tup [.str "number", .int z0])) p2 (.tup [.str "number"])) l1 (.lst [])) l2 (.lst (talL (talOf [])))) l3 (.lst [.ref p1, .ref p2, .int z0, .ref l1, .ref l2]))) (.ref l3) ⟨.num z0, numP, z0, [], talOf []⟩ :=
    ⟨l3, .ref p1, .ref p2, .ref l1, .ref l2, rfl, hid_new (hB.up (n1.trans (n2.trans (n3.trans n4)))) hl3, dp_up (hid_up (n2.trans (n3.trans (n4.trans n5)))) (dp_newT (hid_new hB hp1) (.cons (.str _) (.cons (.int _) .nil))), dp_up (hid_up (n3.trans (n4.trans n5))) (dp_newT (hid_new (hB.up n1) hp2) (.cons (.str _) .nil)),
      ⟨l1, [], rfl, hid_up (n4.trans n5) _ _ (hid_new (hB.up (n1.trans n2)) hl1), .nil⟩, ⟨l2, rfl, hid_up n5 _ _ (hid_new (hB.up (n1.trans (n2.trans n3))) hl2)⟩⟩
  have x0 := (x1.trans x2).trans (same_x s15)
  have g0 := g2.up s15
  refine ⟨RowW K S C H M (2 + (r0 : Nat)), ⟨M + 1, 1, 1, _, _, .ref l3, none, none, none, none, none, none, none, none, none, none, none, none, rfl, rfl, by omega, by omega, x0, g0, mv0, row_num z0⟩, ?_⟩
  clear x0 g0 mv0 s15 n1 n2 n3 n4 n5 hl3 hl2 hl1 hp2 hp1 hB g2 x2 g1 x1
  rintro n σ Hi ⟨k, ki, m, nh, mv, x5, x6, x7, x8, x9, x10, x11, x12, x13, x14, x15, x16, rfl, hki, hn, hk, xi, gi, hm, hok⟩
  refine ⟨_, rfl, _, rfl, _, _, rfl, rfl, _, rfl, ?_⟩
  by_cases hlt : k < M
  rotate_left
  · refine ifF (decide_eq_false (by omega)) ?_
    exact ⟨_, rfl, q mv m Hi xi gi hm (row_right hok (by omega))⟩
  refine ifT (decide_eq_true (by omega)) ?_
  refine ⟨fun σ' H' => ∃ m', m' < n ∧ RowW K S C H M (2 + (r0 : Nat)) m' σ' H', fun _ _ h => h, ?_⟩
  refine ⟨_, rfl, S, C, 5, rfl, by decide, by decide, gi, fun r H1 hr5 x1 g1 => ?_⟩
  have hm1 := made_up (samex_hid x1) hm
  clear hm
  obtain ⟨a, tv, pp, uv, cv, rfl, ha, dt, dp, du, dc⟩ := hm1
  refine ⟨_, rfl, a, _, rfl, SqL.new (hid_at ha), rfl, _, _, rfl, _, _, rfl, _, _, rfl, _, _, rfl, _, _, rfl, rfl, ?_⟩
  refine ⟨_, rfl, S, C, rfl, g1, fun sm H2 x2 g2 => ?_⟩
  have y2 := samex_hid x2
  refine ⟨sz2, fun w1 hw1 => ⟨sz3, fun w2 hw2 => ?_⟩⟩
  have n1 := same_new hw1 (.tup [.str "name", .str "w"])
  have n2 := same_new hw2 (.tup [.str "again", .str "w", .ref w1])
  have n12 := n1.trans n2
  have dw : Dp K (hid [S, C] (upd (upd H2 w1 (.tup [.str "name", .str "w"])) w2 (.tup [.str "again", .str "w", .ref w1]))) (.ref w2) wT.told :=
    dp_newT (hid_new (g2.dom.up n1) hw2) (.cons (.str _) (.cons (.str _) (.cons (dp_up (hid_up n2) (dp_newT (hid_new g2.dom hw1) (.cons (.str _) (.cons (.str _) .nil)))) .nil)))
  have dt := dp_up (y2.trans (hid_up n12)) dt
  have dp := dp_up (y2.trans (hid_up n12)) dp
  have dc := cnt_up (y2.trans (hid_up n12)) dc
  have g3 := g2.up n12
  have x3 := ((xi.trans x1).trans x2).trans (same_x n12)
  generalize (upd (upd H2 w1 (.tup [.str "name", .str "w"])) w2 (.tup [.str "again", .str "w", .ref w1])) = H3 at dw dt dp dc g3 x3 ⊢
  clear n1 n2 n12 hw1 hw2 y2 x2 g2 x1 g1 du ha
  have hB := g3.dom
  refine ⟨_, rfl, _, _, rfl, rfl, ?_⟩
  rcases five hr5 with rfl | rfl | rfl | rfl | rfl
  · refine ⟨_, rfl, rfl, _, rfl, ifT (by decide) ?_⟩
    refine ⟨_, rfl, sz7, fun l1 hl1 => ⟨sz2, fun l2 hl2 => ?_⟩⟩
    have n1 := same_new hl1 (.lst (talL (talOf [.op, .next, .sum])))
    have n2 := same_new hl2 (.lst [cv, .ref l1])
    have n12 := n1.trans n2
    refine ⟨l2, [cv, .ref l1], [m.tl, talOf [.op, .next, .sum]], rfl, SqL.new upd_same, (by show 2 ≤ 1000000; decide), .cons (cnt_up (hid_sub.trans n12) dc) (.cons ⟨l1, rfl, n2 _ _ upd_same⟩ .nil), fun l3 H4 s4 hl3 hl3' => ?_⟩
    have s34 := n12.trans s4
    have hc4 := CntAt_got (hB.up n12) hl3 hl3'
    have hB4 := hB.up s34
    refine ⟨_, rfl, _, rfl, sz2, fun p1 hp1 => ⟨sz4, fun p2 hp2 => ?_⟩⟩
    have m1 := same_new hp1 (.tup [.str "number", .int sm])
    have m2 := same_new hp2 (.tup [.str "sum", .str "-", tv, .ref p1])
    have m12 := m1.trans m2
    refine ⟨_, rfl, sz1, fun p3 hp3 => ⟨sz3, fun p4 hp4 => ?_⟩⟩
    have m3 := same_new hp3 (.tup [.str "number"])
    have m4 := same_new hp4 (.tup [.str "sum", pp, .ref p3])
    have m34 := m3.trans m4
    refine ⟨_, rfl, _, rfl, _, _, rfl, rfl, Nat.zero_le _, fun l5 hl5 => ⟨_, rfl, sz5, fun l6 hl6 => ?_⟩⟩
    have m5 := same_new hl5 (.lst [])
    have m6 := same_new hl6 (.lst [.ref p2, .ref p4, .int (m.i - sm), .ref l5, .ref l3])
    have m56 := m5.trans m6
    have m36 := m34.trans m56
    have m16 := m12.trans m36
    have sx := s34.trans m16
    refine ⟨n - 1, by omega, k + 1, ki + 1, ⟨.sm "-" m.t (.num sm), tp [.str "sum", m.p, numP], m.i - sm, [], talSum [m.tl, talOf [.op, .next, .sum]]⟩, _, .ref l6, _, _, _, _, _, _, _, _, _, _, _, _, rfl, by omega, by omega, by omega, x3.trans (same_x sx), g3.up sx,
      ⟨l6, .ref p2, .ref p4, .ref l5, .ref l3, rfl, hid_new (hB4.up (m12.trans (m34.trans m5))) hl6, ?_, ?_, ⟨l5, [], rfl, hid_up m6 _ _ (hid_new (hB4.up (m12.trans m34)) hl5), .nil⟩, cnt_up (hid_up m16) hc4⟩, row_minus sm hok⟩
    · exact dp_up (hid_up m36) (dp_newT (hid_new (hB4.up m1) hp2) (.cons (.str _) (.cons (.str _) (.cons (dp_up (hid_up (s34.trans m12)) dt) (.cons (dp_up (hid_up m2) (dp_newT (hid_new hB4 hp1) (.cons (.str _) (.cons (.int _) .nil)))) .nil)))))
    · exact dp_up (hid_up m56) (dp_newT (hid_new (hB4.up (m12.trans m3)) hp4) (.cons (.str _) (.cons (dp_up (hid_up (s34.trans (m12.trans m34))) dp) (.cons (dp_up (hid_up m4) (dp_newT (hid_new (hB4.up m12) hp3) (.cons (.str _) .nil))) .nil))))
  · refine ⟨_, rfl, rfl, _, rfl, ifF (by decide) ?_⟩
    refine ⟨_, rfl, rfl, _, rfl, ifT (by decide) ?_⟩
    refine ⟨_, rfl, sz7, fun l1 hl1 => ⟨sz2, fun l2 hl2 => ?_⟩⟩
    have n1 := same_new hl1 (.lst (talL (talOf [.op, .next, .sum])))
    have n2 := same_new hl2 (.lst [cv, .ref l1])
    have n12 := n1.trans n2
    refine ⟨l2, [cv, .ref l1], [m.tl, talOf [.op, .next, .sum]], rfl, SqL.new upd_same, (by show 2 ≤ 1000000; decide), .cons (cnt_up (hid_sub.trans n12) dc) (.cons ⟨l1, rfl, n2 _ _ upd_same⟩ .nil), fun l3 H4 s4 hl3 hl3' => ?_⟩
    have s34 := n12.trans s4
    have hc4 := CntAt_got (hB.up n12) hl3 hl3'
    have hB4 := hB.up s34
    refine ⟨_, rfl, sz2, fun p1 hp1 => ⟨_, rfl, sz4, fun p2 hp2 => ?_⟩⟩
    have m1 := same_new hp1 (.tup [.str "number", .int sm])
    have m2 := same_new hp2 (.tup [.str "sum", .str "+", .ref p1, tv])
    have m12 := m1.trans m2
    refine ⟨sz1, fun p3 hp3 => ⟨_, rfl, sz3, fun p4 hp4 => ?_⟩⟩
    have m3 := same_new hp3 (.tup [.str "number"])
    have m4 := same_new hp4 (.tup [.str "sum", .ref p3, pp])
    have m34 := m3.trans m4
    refine ⟨_, rfl, _, rfl, _, _, rfl, rfl, Nat.zero_le _, fun l5 hl5 => ⟨_, rfl, sz5, fun l6 hl6 => ?_⟩⟩
    have m5 := same_new hl5 (.lst [])
    have m6 := same_new hl6 (.lst [.ref p2, .ref p4, .int (sm + m.i), .ref l5, .ref l3])
    have m56 := m5.trans m6
    have m36 := m34.trans m56
    have m16 := m12.trans m36
    have sx := s34.trans m16
    refine ⟨n - 1, by omega, k + 1, ki + 1, ⟨.sm "+" (.num sm) m.t, tp [.str "sum", numP, m.p], sm + m.i, [], talSum [m.tl, talOf [.op, .next, .sum]]⟩, _, .ref l6, _, _, _, _, _, _, _, _, _, _, _, _, rfl, by omega, by omega, by omega, x3.trans (same_x sx), g3.up sx,
      ⟨l6, .ref p2, .ref p4, .ref l5, .ref l3, rfl, hid_new (hB4.up (m12.trans (m34.trans m5))) hl6, ?_, ?_, ⟨l5, [], rfl, hid_up m6 _ _ (hid_new (hB4.up (m12.trans m34)) hl5), .nil⟩, cnt_up (hid_up m16) hc4⟩, row_plus sm hok⟩
    · exact dp_up (hid_up m36) (dp_newT (hid_new (hB4.up m1) hp2) (.cons (.str _) (.cons (.str _) (.cons (dp_up (hid_up m2) (dp_newT (hid_new hB4 hp1) (.cons (.str _) (.cons (.int _) .nil)))) (.cons (dp_up (hid_up (s34.trans m12)) dt) .nil)))))
    · exact dp_up (hid_up m56) (dp_newT (hid_new (hB4.up (m12.trans m3)) hp4) (.cons (.str _) (.cons (dp_up (hid_up m4) (dp_newT (hid_new (hB4.up m12) hp3) (.cons (.str _) .nil))) (.cons (dp_up (hid_up (s34.trans (m12.trans m34))) dp) .nil))))
  · refine ⟨_, rfl, rfl, _, rfl, ifF (by decide) ?_⟩
    refine ⟨_, rfl, rfl, _, rfl, ifF (by decide) ?_⟩
    refine ⟨_, rfl, rfl, _, rfl, ifF (by decide) ?_⟩
    refine ⟨_, rfl, _, rfl, _, _, rfl, rfl, (show (0 : Int) < 1000 by decide), _, _, rfl, rfl, sz2, fun q1 hq1 => ?_⟩
    have m1 := same_new hq1 (.lst [.int 0, .int (1 + (if sm < 0 then -sm else sm) % 1000)])
    refine ⟨_, rfl, _, _, rfl, rfl, q1, _, _, _, rfl, rfl, SqL.new upd_same, atI_nat (j := 0) rfl, sz2, fun p1 hp1 => ?_⟩
    have m2 := same_new hp1 (.tup [.str "number", .int 0])
    have dn : Dp K (hid [S, C] (upd (upd H3 q1 (.lst [.int 0, .int (1 + (if sm < 0 then -sm else sm) % 1000)])) p1 (.tup [.str "number", .int 0]))) (.ref p1) (Tm.num 0).told := dp_newT (hid_new (hB.up m1) hp1) (.cons (.str _) (.cons (.int _) .nil))
    have s02 := m1.trans m2
    generalize (upd (upd H3 q1 (.lst [.int 0, .int (1 + (if sm < 0 then -sm else sm) % 1000)])) p1 (.tup [.str "number", .int 0])) = H5 at dn s02 ⊢
    clear m1 m2 hq1 hp1
    refine ⟨_, rfl, _, rfl, sz2, fun q2 hq2 => ⟨_, rfl, _, rfl, sz2, fun q3 hq3 => ⟨sz2, fun q4 hq4 => ?_⟩⟩⟩
    have m1 := same_new hq2 (.lst [tv, .ref w2])
    have m2 := same_new hq3 (.lst [.ref w2, tv])
    have m3 := same_new hq4 (.lst [.ref q2, .ref q3])
    refine ⟨_, rfl, _, _, rfl, rfl, q4, _, _, _, rfl, rfl, SqL.new upd_same, atI_nat (j := 0) rfl, ?_⟩
    have hpq := (m2.trans m3) _ _ (upd_same : upd H5 q2 (.lst [tv, .ref w2]) q2 = _)
    have m13 := m1.trans (m2.trans m3)
    have dn := dp_up (hid_up m13) dn
    have s03 := s02.trans m13
    generalize (upd (upd (upd H5 q2 (.lst [tv, .ref w2])) q3 (.lst [.ref w2, tv])) q4 (.lst [.ref q2, .ref q3])) = H6 at dn s03 hpq ⊢
    clear m1 m2 m3 m13 hq2 hq3 hq4
    have hB6 := hB.up s03
    refine ⟨_, rfl, sz7, fun l1 hl1 => ⟨sz2, fun l2 hl2 => ?_⟩⟩
    have n1 := same_new hl1 (.lst (talL (talOf [.op, .choose])))
    have n2 := same_new hl2 (.lst [cv, .ref l1])
    have n12 := n1.trans n2
    refine ⟨l2, [cv, .ref l1], [m.tl, talOf [.op, .choose]], rfl, SqL.new upd_same, (by show 2 ≤ 1000000; decide), .cons (cnt_up (hid_sub.trans (s03.trans n12)) dc) (.cons ⟨l1, rfl, n2 _ _ upd_same⟩ .nil), fun l3 H7 s7 hl3 hl3' => ?_⟩
    have s67 := n12.trans s7
    have hc4 := CntAt_got (hB6.up n12) hl3 hl3'
    have hB7 := hB6.up s67
    have hpq7 := SqL.new (K := K) (s67 _ _ hpq)
    refine ⟨_, rfl, _, rfl, q2, _, _, _, rfl, rfl, hpq7, atI_nat (j := 0) rfl, _, rfl, q2, _, _, _, rfl, rfl, hpq7, atI_nat (j := 1) rfl, sz4, fun p2 hp2 => ?_⟩
    have m1 := same_new hp2 (.tup [.str "choice", .ref p1, tv, .ref w2])
    have s31 := s03.trans (s67.trans m1)
    have dtt := dp_newT (K := K) (hid_new hB7 hp2) (.cons (.str "choice") (.cons (dp_up (hid_up (s67.trans m1)) dn) (.cons (dp_up (hid_up s31) dt) (.cons (dp_up (hid_up s31) dw) .nil))))
    refine ⟨_, rfl, sz1, fun p3 hp3 => ⟨_, rfl, sz3, fun p4 hp4 => ?_⟩⟩
    have m2 := same_new hp3 (.tup [.str "number"])
    have m3 := same_new hp4 (.tup [.str "choice", .ref p3, pp])
    have s33 := s31.trans (m2.trans m3)
    refine ⟨_, rfl, Nat.zero_le _, fun l5 hl5 => ⟨_, rfl, sz5, fun l6 hl6 => ?_⟩⟩
    have m4 := same_new hl5 (.lst [])
    have m5 := same_new hl6 (.lst [.ref p2, .ref p4, .int m.i, .ref l5, .ref l3])
    have m45 := m4.trans m5
    have m25 := (m2.trans m3).trans m45
    have sx := s31.trans m25
    have hB8 := hB7.up m1
    have hrow := row_choice 0 hok
    rw [if_pos rfl] at hrow
    refine ⟨n - 1, by omega, k + 1, ki + 1, ⟨.ch (.num 0) m.t wT, tp [.str "choice", numP, m.p], m.i, [], talSum [m.tl, talOf [.op, .choose]]⟩, _, .ref l6, _, _, _, _, _, _, _, _, _, _, _, _, rfl, by omega, by omega, by omega, x3.trans (same_x sx), g3.up sx,
      ⟨l6, .ref p2, .ref p4, .ref l5, .ref l3, rfl, hid_new (hB8.up ((m2.trans m3).trans m4)) hl6, ?_, ?_, ⟨l5, [], rfl, hid_up m5 _ _ (hid_new (hB8.up (m2.trans m3)) hl5), .nil⟩, cnt_up (hid_up (m1.trans m25)) hc4⟩, hrow⟩
    · exact dp_up (hid_up m25) dtt
    · exact dp_up (hid_up m45) (dp_newT (hid_new (hB8.up m2) hp4) (.cons (.str _) (.cons (dp_up (hid_up m3) (dp_newT (hid_new hB8 hp3) (.cons (.str _) .nil))) (.cons (dp_up (hid_up s33) dp) .nil))))
  · refine ⟨_, rfl, rfl, _, rfl, ifF (by decide) ?_⟩
    refine ⟨_, rfl, rfl, _, rfl, ifF (by decide) ?_⟩
    refine ⟨_, rfl, rfl, _, rfl, ifF (by decide) ?_⟩
    refine ⟨_, rfl, _, rfl, _, _, rfl, rfl, (show (0 : Int) < 1000 by decide), _, _, rfl, rfl, sz2, fun q1 hq1 => ?_⟩
    have m1 := same_new hq1 (.lst [.int 0, .int (1 + (if sm < 0 then -sm else sm) % 1000)])
    refine ⟨_, rfl, _, _, rfl, rfl, q1, _, _, _, rfl, rfl, SqL.new upd_same, atI_nat (j := 1) rfl, sz2, fun p1 hp1 => ?_⟩
    have m2 := same_new hp1 (.tup [.str "number", .int (1 + (if sm < 0 then -sm else sm) % 1000)])
    have dn : Dp K (hid [S, C] (upd (upd H3 q1 (.lst [.int 0, .int (1 + (if sm < 0 then -sm else sm) % 1000)])) p1 (.tup [.str "number", .int (1 + (if sm < 0 then -sm else sm) % 1000)]))) (.ref p1) (Tm.num (1 + (if sm < 0 then -sm else sm) % 1000)).told := dp_newT (hid_new (hB.up m1) hp1) (.cons (.str _) (.cons (.int _) .nil))
    have s02 := m1.trans m2
    generalize (upd (upd H3 q1 (.lst [.int 0, .int (1 + (if sm < 0 then -sm else sm) % 1000)])) p1 (.tup [.str "number", .int (1 + (if sm < 0 then -sm else sm) % 1000)])) = H5 at dn s02 ⊢
    clear m1 m2 hq1 hp1
    refine ⟨_, rfl, _, rfl, sz2, fun q2 hq2 => ⟨_, rfl, _, rfl, sz2, fun q3 hq3 => ⟨sz2, fun q4 hq4 => ?_⟩⟩⟩
    have m1 := same_new hq2 (.lst [tv, .ref w2])
    have m2 := same_new hq3 (.lst [.ref w2, tv])
    have m3 := same_new hq4 (.lst [.ref q2, .ref q3])
    refine ⟨_, rfl, _, _, rfl, rfl, q4, _, _, _, rfl, rfl, SqL.new upd_same, atI_nat (j := 1) rfl, ?_⟩
    have hpq := m3 _ _ (upd_same : upd (upd H5 q2 (.lst [tv, .ref w2])) q3 (.lst [.ref w2, tv]) q3 = _)
    have m13 := m1.trans (m2.trans m3)
    have dn := dp_up (hid_up m13) dn
    have s03 := s02.trans m13
    generalize (upd (upd (upd H5 q2 (.lst [tv, .ref w2])) q3 (.lst [.ref w2, tv])) q4 (.lst [.ref q2, .ref q3])) = H6 at dn s03 hpq ⊢
    clear m1 m2 m3 m13 hq2 hq3 hq4
    have hB6 := hB.up s03
    refine ⟨_, rfl, sz7, fun l1 hl1 => ⟨sz2, fun l2 hl2 => ?_⟩⟩
    have n1 := same_new hl1 (.lst (talL (talOf [.op, .choose])))
    have n2 := same_new hl2 (.lst [cv, .ref l1])
    have n12 := n1.trans n2
    refine ⟨l2, [cv, .ref l1], [m.tl, talOf [.op, .choose]], rfl, SqL.new upd_same, (by show 2 ≤ 1000000; decide), .cons (cnt_up (hid_sub.trans (s03.trans n12)) dc) (.cons ⟨l1, rfl, n2 _ _ upd_same⟩ .nil), fun l3 H7 s7 hl3 hl3' => ?_⟩
    have s67 := n12.trans s7
    have hc4 := CntAt_got (hB6.up n12) hl3 hl3'
    have hB7 := hB6.up s67
    have hpq7 := SqL.new (K := K) (s67 _ _ hpq)
    refine ⟨_, rfl, _, rfl, q3, _, _, _, rfl, rfl, hpq7, atI_nat (j := 0) rfl, _, rfl, q3, _, _, _, rfl, rfl, hpq7, atI_nat (j := 1) rfl, sz4, fun p2 hp2 => ?_⟩
    have m1 := same_new hp2 (.tup [.str "choice", .ref p1, .ref w2, tv])
    have s31 := s03.trans (s67.trans m1)
    have dtt := dp_newT (K := K) (hid_new hB7 hp2) (.cons (.str "choice") (.cons (dp_up (hid_up (s67.trans m1)) dn) (.cons (dp_up (hid_up s31) dw) (.cons (dp_up (hid_up s31) dt) .nil))))
    refine ⟨_, rfl, sz1, fun p3 hp3 => ⟨_, rfl, sz3, fun p4 hp4 => ?_⟩⟩
    have m2 := same_new hp3 (.tup [.str "number"])
    have m3 := same_new hp4 (.tup [.str "choice", .ref p3, pp])
    have s33 := s31.trans (m2.trans m3)
    refine ⟨_, rfl, Nat.zero_le _, fun l5 hl5 => ⟨_, rfl, sz5, fun l6 hl6 => ?_⟩⟩
    have m4 := same_new hl5 (.lst [])
    have m5 := same_new hl6 (.lst [.ref p2, .ref p4, .int m.i, .ref l5, .ref l3])
    have m45 := m4.trans m5
    have m25 := (m2.trans m3).trans m45
    have sx := s31.trans m25
    have hB8 := hB7.up m1
    have hrow := row_choice (1 + (if sm < 0 then -sm else sm) % 1000) hok
    rw [if_neg (ask_pos sm)] at hrow
    refine ⟨n - 1, by omega, k + 1, ki + 1, ⟨.ch (.num (1 + (if sm < 0 then -sm else sm) % 1000)) wT m.t, tp [.str "choice", numP, m.p], m.i, [], talSum [m.tl, talOf [.op, .choose]]⟩, _, .ref l6, _, _, _, _, _, _, _, _, _, _, _, _, rfl, by omega, by omega, by omega, x3.trans (same_x sx), g3.up sx,
      ⟨l6, .ref p2, .ref p4, .ref l5, .ref l3, rfl, hid_new (hB8.up ((m2.trans m3).trans m4)) hl6, ?_, ?_, ⟨l5, [], rfl, hid_up m5 _ _ (hid_new (hB8.up (m2.trans m3)) hl5), .nil⟩, cnt_up (hid_up (m1.trans m25)) hc4⟩, hrow⟩
    · exact dp_up (hid_up m25) dtt
    · exact dp_up (hid_up m45) (dp_newT (hid_new (hB8.up m2) hp4) (.cons (.str _) (.cons (dp_up (hid_up m3) (dp_newT (hid_new hB8 hp3) (.cons (.str _) .nil))) (.cons (dp_up (hid_up s33) dp) .nil))))
  · refine ⟨_, rfl, rfl, _, rfl, ifF (by decide) ?_⟩
    refine ⟨_, rfl, rfl, _, rfl, ifF (by decide) ?_⟩
    refine ⟨_, rfl, rfl, _, rfl, ifT (by decide) ?_⟩
    refine ⟨_, rfl, _, _, rfl, rfl, ?_⟩
    refine ⟨_, rfl, sz7, fun l1 hl1 => ⟨sz2, fun l2 hl2 => ?_⟩⟩
    have n1 := same_new hl1 (.lst (talL (talOf [.op, .take])))
    have n2 := same_new hl2 (.lst [cv, .ref l1])
    have n12 := n1.trans n2
    refine ⟨l2, [cv, .ref l1], [m.tl, talOf [.op, .take]], rfl, SqL.new upd_same, (by show 2 ≤ 1000000; decide), .cons (cnt_up (hid_sub.trans n12) dc) (.cons ⟨l1, rfl, n2 _ _ upd_same⟩ .nil), fun l3 H4 s4 hl3 hl3' => ?_⟩
    have s34 := n12.trans s4
    have hc4 := CntAt_got (hB.up n12) hl3 hl3'
    have hB4 := hB.up s34
    have g4 := g3.up s34
    refine ⟨_, rfl, S, C, rfl, g4, fun y H5 hy x5 g5 => ?_⟩
    have z35 : Same (hid [S, C] H3) (hid [S, C] H5) := (hid_up s34).trans (samex_hid x5)
    have hB5 := g5.dom
    have dt := dp_up z35 dt
    have dp := dp_up z35 dp
    have dw := dp_up z35 dw
    have hc5 := cnt_up (samex_hid x5) hc4
    refine ⟨_, rfl, sz3, fun p1 hp1 => ⟨_, rfl, sz3, fun p2 hp2 => ?_⟩⟩
    have m1 := same_new hp1 (.tup [.str "maker", .str y, tv])
    have m2 := same_new hp2 (.tup [.str "give", .ref p1, .ref w2])
    have m12 := m1.trans m2
    have dtt := dp_newT (K := K) (hid_new (hB5.up m1) hp2) (.cons (.str "give") (.cons (dp_up (hid_up m2) (dp_newT (hid_new hB5 hp1) (.cons (.str "maker") (.cons (.str y) (.cons (dp_up (hid_up m1) dt) .nil))))) (.cons (dp_up (hid_up m12) dw) .nil)))
    refine ⟨_, rfl, _, rfl, sz2, fun p3 hp3 => ⟨Nat.zero_le _, fun p4 hp4 => ⟨sz3, fun p5 hp5 => ?_⟩⟩⟩
    have m3 := same_new hp3 (.tup [.str "takes", pp])
    have m4 := same_new hp4 (.tup [])
    have m5 := same_new hp5 (.tup [.str "gives", .ref p3, .ref p4])
    have m35 := m3.trans (m4.trans m5)
    refine ⟨_, rfl, Nat.zero_le _, fun l5 hl5 => ⟨_, rfl, sz5, fun l6 hl6 => ?_⟩⟩
    have m6 := same_new hl5 (.lst [])
    have m7 := same_new hl6 (.lst [.ref p2, .ref p5, .int m.i, .ref l5, .ref l3])
    have m67 := m6.trans m7
    have m37 := m35.trans m67
    have m17 := m12.trans m37
    refine ⟨n - 2, by omega, k + 2, ki + 1 + 1, ⟨.gv (.mk y m.t) wT, tp [.str "gives", tp [.str "takes", m.p], tp []], m.i, [], talSum [m.tl, talOf [.op, .take]]⟩, _, .ref l6, _, _, _, _, _, _, _, _, _, _, _, _, rfl, by omega, by omega, by omega, ((x3.trans (same_x s34)).trans x5).trans (same_x m17), g5.up m17,
      ⟨l6, .ref p2, .ref p5, .ref l5, .ref l3, rfl, hid_new (hB5.up (m12.trans (m35.trans m6))) hl6, dp_up (hid_up m37) dtt, ?_, ⟨l5, [], rfl, hid_up m7 _ _ (hid_new (hB5.up (m12.trans m35)) hl5), .nil⟩, cnt_up (hid_up m17) hc5⟩, row_maker hy hok⟩
    exact dp_up (hid_up m67) (dp_newT (hid_new (hB5.up (m12.trans (m3.trans m4))) hp5) (.cons (.str _) (.cons (dp_up (hid_up (m4.trans m5)) (dp_newT (hid_new (hB5.up m12) hp3) (.cons (.str _) (.cons (dp_up (hid_up (m12.trans m3)) dp) .nil)))) (.cons (dp_up (hid_up m5) (dp_newT (hid_new (hB5.up (m12.trans m3)) hp4) .nil)) .nil))))
end
end Ut
set_option Elab.async false
set_option linter.all false
set_option maxRecDepth 100000
set_option maxHeartbeats 0
namespace Ut
open PySem PySem.Spec PyProof.Rows L2
section
variable {P : Program} {w : World} {K : PySem.W.Frag} {mg : Str → Option Value} {base : Heap}
theorem cm_small {a b : Int} (ha : a.natAbs < 2 ^ 200) (hb : b.natAbs < 2 ^ 200) : CMulW a b := by
  show a.natAbs.log2 + b.natAbs.log2 < 1000000
  have h1 := log_small 200 ha (by decide)
  have h2 := log_small 200 hb (by decide)
  omega
theorem rep_useI {H : Hp} {B : List Addr} {a : Addr} {v : V} {d : PyData} {n : Nat} {i : Int} {Q : VK} (hi : i = (n : Nat)) (hB : Dom B H) (h : hid B H a = some (.tup [v])) (hd : Dp K (hid B H) v d) (hn : n ≤ 1000) (k : ∀ p H', Same H H' → Dp K (hid B H') (.ref p) (tp (List.replicate n d)) → Q (.ref p) H') : rRepK K (.ref a) (.int i) H Q := by
  rw [hi]
  exact rep_use hB h hd hn k
theorem great_counts (r : Nat) (h : r < 4) : ([.int (2 * (1 + ((r : Nat) : Int))), .int (1 + ((r : Nat) : Int)), .int 1, .int 0, .int (2 * (1 + ((r : Nat) : Int)) - 1), .int (2 * (1 + ((r : Nat) : Int)) - 1), .int 0] : List V) = talL (gC (r + 1)) := by
  match r, h with
  | 0, _ => rfl
  | 1, _ => rfl
  | 2, _ => rfl
  | 3, _ => rfl
theorem sc_law_great_looks : FnScope ["_law_state_here", "_law_many", "_law_word_here", "_law_one", "_law_other", "_law_told", "_law_page", "_law_turn", "_law_given", "_law_counts"] ["_law_state_here"] (defScope S_law_great_looks) := ⟨rfl, rfl, rfl, by decide +kernel, rfl, by decide +kernel, by decide +kernel⟩
theorem ok_great (T : Tx w K mg) (c_law_draw : Cal P w K mg base 1 "_law_draw" spDraw) (c_law_word : Cal P w K mg base 2 "_law_word" spWord) : Cal P w K mg base 3 "_law_great_looks" (spShort K) := by
  refine cal_mk T 52 52 rfl rfl sc_law_great_looks (fun _ _ _ _ _ _ us hl => match us, hl with | [_], _ => rfl) (fun vs H Q E h => ?_) (fun cdv A outer s0 H vs Q E hr h => ?_)
  · obtain ⟨S, C, rfl, _⟩ := h
    rfl
  obtain ⟨S, C, rfl, hg, q⟩ := h
  refine ⟨_, (pss_cons (ps_set (i := 1) sc_law_great_looks.nd rfl (Or.inl rfl) (pe_op op_add pe_int (pe_c c_law_draw hr (by omega) (by rfl) (pa_cons (pv 0) (pa_cons pe_int pa_nil)))))
      (pss_cons (ps_set (i := 2) sc_law_great_looks.nd rfl (Or.inl rfl) (pe_c c_law_word hr (by omega) (by rfl) (pa_cons (pv 0) pa_nil)))
      (pss_cons (ps_set (i := 3) sc_law_great_looks.nd rfl (Or.inl rfl) (pe_c c_law_draw hr (by omega) (by rfl) (pa_cons (pv 0) (pa_cons (pe_op op_pow pe_int pe_int) pa_nil))))
      (pss_cons (ps_set (i := 4) sc_law_great_looks.nd rfl (Or.inl rfl) (pe_op op_sub (pe_op op_sub (pe_op op_pow pe_int pe_int) pe_int) (pe_c c_law_draw hr (by omega) (by rfl) (pa_cons (pv 0) (pa_cons (pe_op op_pow pe_int pe_int) pa_nil)))))
      (pss_cons (ps_set (i := 5) sc_law_great_looks.nd rfl (Or.inl rfl) (pe_tup (pa_cons pe_str (pa_cons (pv 2) pa_nil))))
      (pss_cons (ps_set (i := 6) sc_law_great_looks.nd rfl (Or.inl rfl) (pe_tup (pa_cons pe_str (pa_cons (pe_op op_add (pv 3) (pv 4)) pa_nil))))
      (pss_cons (ps_for PassesOwn.never rfl (pi_range1 (by rfl) (T.free 83 rfl) (pa_cons (pe_op op_sub (pv 1) pe_int) pa_nil)) (pg_name (i := 7) sc_law_great_looks.nd rfl (Or.inl rfl))
      (pss_cons (ps_set (i := 5) sc_law_great_looks.nd rfl (Or.inl rfl) (pe_tup (pa_cons pe_str (pa_cons pe_str (pa_cons (pv 5) (pa_cons (pe_tup (pa_cons pe_str (pa_cons (pv 2) pa_nil))) pa_nil))))))
      (pss_one (ps_set (i := 6) sc_law_great_looks.nd rfl (Or.inl rfl) (pe_tup (pa_cons pe_str (pa_cons (pv 6) (pa_cons (pe_tup (pa_cons pe_str (pa_cons (pe_op op_add (pv 3) (pv 4)) pa_nil))) pa_nil))))))))
      (pss_cons (ps_set (i := 8) sc_law_great_looks.nd rfl (Or.inl rfl) (pe_tup (pa_cons pe_str (pa_cons (pe_tup (pa_cons pe_str pa_nil)) (pa_cons (pe_tup (pa_cons pe_str pa_nil)) pa_nil)))))
      (pss_cons (ps_set (i := 9) sc_law_great_looks.nd rfl (Or.inl rfl) (pe_lst (pa_cons (pe_op op_mulW pe_int (pv 1)) (pa_cons (pv 1) (pa_cons pe_int (pa_cons pe_int (pa_cons (pe_op op_sub (pe_op op_mulW pe_int (pv 1)) pe_int) (pa_cons (pe_op op_sub (pe_op op_mulW pe_int (pv 1)) pe_int) (pa_cons pe_int pa_nil)))))))))
      (pss_cons (ps_set (i := 5) sc_law_great_looks.nd rfl (Or.inl rfl) (pe_tup (pa_cons pe_str (pa_cons (pe_tup (pa_cons pe_str (pa_cons (pv 2) (pa_cons (pv 5) pa_nil)))) (pa_cons (pe_tup (pa_cons pe_str (pa_cons pe_str (pa_cons (pe_tup (pa_cons pe_str (pa_cons (pv 3) pa_nil))) (pa_cons (pe_tup (pa_cons pe_str (pa_cons (pv 4) pa_nil))) pa_nil))))) pa_nil)))))
      (pss_one (ps_ret (pe_lst (pa_cons (pv 5) (pa_cons (pe_tup (pa_cons pe_str (pa_cons (pe_tup (pa_cons pe_str (pa_cons (pv 6) pa_nil))) (pa_cons (pe_op op_repK (pe_tup (pa_cons (pv 8) pa_nil)) (pv 1)) pa_nil)))) (pa_cons (pe_op op_mulW (pv 1) (pe_op op_add (pv 3) (pv 4))) (pa_cons (pe_lst pa_nil) (pa_cons (pv 9) pa_nil)))))))))))))))))), ?_⟩
  refine ⟨_, rfl, S, C, 4, rfl, by decide, by decide, hg, fun r H1 hr4 x1 g1 => ?_⟩
  refine ⟨_, _, rfl, rfl, ?_⟩
  refine ⟨_, rfl, S, C, rfl, g1, fun x H2 hx x2 g2 => ?_⟩
  have e40 : ((10 : Int) ^ (40 : Int).toNat) = ((10 ^ 40 : Nat) : Int) := by decide +kernel
  have e9 : ((10 : Int) ^ (9 : Int).toNat) = ((10 ^ 9 : Nat) : Int) := by decide +kernel
  refine ⟨_, rfl, _, _, rfl, rfl, ⟨by decide, by decide, by decide⟩, S, C, 10 ^ 40, ?_, by decide, Nat.le_refl _, g2, fun a H3 ha x3 g3 => ?_⟩
  · show [V.ref S, V.int ((10 : Int) ^ (40 : Int).toNat)] = [V.ref S, V.int ((10 ^ 40 : Nat) : Int)]
    rw [e40]
  refine ⟨_, _, rfl, rfl, ⟨by decide, by decide, by decide⟩, _, _, rfl, rfl, _, rfl, _, _, rfl, rfl, ⟨by decide, by decide, by decide⟩, S, C, 10 ^ 9, ?_, by decide, by decide, g3, fun b H4 hb x4 g4 => ?_⟩
  · show [V.ref S, V.int ((10 : Int) ^ (9 : Int).toNat)] = [V.ref S, V.int ((10 ^ 9 : Nat) : Int)]
    rw [e9]
  refine ⟨_, _, rfl, rfl, ?_⟩
  have x04 := ((x1.trans x2).trans x3).trans x4
  have hot : ((10 : Int) ^ (40 : Int).toNat - 1 - ((b : Nat) : Int)).natAbs ≤ 10 ^ 40 := by
    rw [e40]
    omega
  let ot : Int := (10 : Int) ^ (40 : Int).toNat - 1 - ((b : Nat) : Int)
  have hot : ot.natAbs ≤ 10 ^ 40 := hot
  have hB := g4.dom
  have hao : (((a : Nat) : Int) + ot).natAbs < 2 ^ 200 := by
    have h1 : (((a : Nat) : Int) + ot).natAbs ≤ ((a : Nat) : Int).natAbs + ot.natAbs := Int.natAbs_add_le _ _
    rw [Int.natAbs_natCast] at h1
    have h2 : (10 : Nat) ^ 40 + 10 ^ 40 < 2 ^ 200 := by decide
    omega
  refine ⟨_, rfl, sz2, fun p1 hp1 => ⟨_, rfl, _, rfl, _, _, rfl, rfl, sz2, fun p2 hp2 => ?_⟩⟩
  have n1 := same_new hp1 (.tup [.str "name", .str x])
  have n2 := same_new hp2 (.tup [.str "look", .int (((a : Nat) : Int) + ot)])
  have d1 : Dp K (hid [S, C] (upd (upd H4 p1 (.tup [.str "name", .str x])) p2 (.tup [.str "look", .int (((a : Nat) : Int) + ot)]))) (.ref p1) (gT x 0).told := dp_up (hid_up n2) (dp_newT (hid_new hB hp1) (.cons (.str _) (.cons (.str _) .nil)))
  have d2 : Dp K (hid [S, C] (upd (upd H4 p1 (.tup [.str "name", .str x])) p2 (.tup [.str "look", .int (((a : Nat) : Int) + ot)]))) (.ref p2) (gP (((a : Nat) : Int) + ot) 0) := dp_newT (hid_new (hB.up n1) hp2) (.cons (.str _) (.cons (.int _) .nil))
  refine ⟨_, rfl, _, _, rfl, rfl, _, rfl, by omega, by omega, ?_⟩
  have eN : ((1 : Int) + ((r : Nat) : Int) - 1).toNat = r := by omega
  rw [eN]
  refine for_range (fun i σ Hi => ∃ tv pv x7, σ = [some (.ref S), some (.int (1 + (r : Nat))), some (.str x), some (.int ((a : Nat) : Int)), some (.int ot), some tv, some pv, x7, none, none] ∧ Same H4 Hi ∧ Dp K (hid [S, C] Hi) tv (gT x i).told ∧ Dp K (hid [S, C] Hi) pv (gP (((a : Nat) : Int) + ot) i))
    ⟨_, _, none, rfl, n1.trans n2, d1, d2⟩ ?_ ?_
  · rintro i σ Hi hi ⟨tv, pv, x7, rfl, sH, dt, dp⟩
    have hBi := hB.up sH
    refine ⟨_, rfl, _, rfl, sz2, fun q1 hq1 => ⟨sz4, fun q2 hq2 => ?_⟩⟩
    have m1 := same_new hq1 (.tup [.str "name", .str x])
    have m2 := same_new hq2 (.tup [.str "sum", .str "+", tv, .ref q1])
    refine ⟨_, rfl, _, rfl, _, rfl, _, _, rfl, rfl, sz2, fun q3 hq3 => ⟨sz3, fun q4 hq4 => ?_⟩⟩
    have m3 := same_new hq3 (.tup [.str "look", .int (((a : Nat) : Int) + ot)])
    have m4 := same_new hq4 (.tup [.str "sum", pv, .ref q3])
    have m34 := m3.trans m4
    have m12 := m1.trans m2
    refine ⟨.ref q2, .ref q4, _, rfl, sH.trans (m12.trans m34), ?_, ?_⟩
    · exact dp_up (hid_up m34) (dp_newT (hid_new (hBi.up m1) hq2) (.cons (.str "sum") (.cons (.str "+") (.cons (dp_up (hid_up m12) dt) (.cons (dp_up (hid_up m2) (dp_newT (hid_new hBi hq1) (.cons (.str "name") (.cons (.str x) .nil)))) .nil)))))
    · exact dp_newT (hid_new (hBi.up (m12.trans m3)) hq4) (.cons (.str "sum") (.cons (dp_up (hid_up (m12.trans m34)) dp) (.cons (dp_up (hid_up m4) (dp_newT (hid_new (hBi.up m12) hq3) (.cons (.str "look") (.cons (.int _) .nil)))) .nil)))
  · rintro σ Hi ⟨tv, pv, x7, rfl, sH, dt, dp⟩
    have gi := g4.up sH
    have hBi := gi.dom
    have x0i := x04.trans (same_x sH)
    clear d1 d2 n1 n2 hp1 hp2
    refine ⟨sz1, fun q1 hq1 => ⟨sz1, fun q2 hq2 => ⟨sz3, fun q3 hq3 => ?_⟩⟩⟩
    have m1 := same_new hq1 (.tup [.str "number"])
    have m2 := same_new hq2 (.tup [.str "number"])
    have m3 := same_new hq3 (.tup [.str "sum", .ref q1, .ref q2])
    have m13 := m1.trans (m2.trans m3)
    have dg : Dp K (hid [S, C] (upd (upd (upd Hi q1 (.tup [.str "number"])) q2 (.tup [.str "number"])) q3 (.tup [.str "sum", .ref q1, .ref q2]))) (.ref q3) addP :=
      dp_newT (hid_new (hBi.up (m1.trans m2)) hq3) (.cons (.str "sum") (.cons (dp_up (hid_up (m2.trans m3)) (dp_newT (hid_new hBi hq1) (.cons (.str "number") .nil))) (.cons (dp_up (hid_up m3) (dp_newT (hid_new (hBi.up m1) hq2) (.cons (.str "number") .nil))) .nil)))
    have dt1 := dp_up (hid_up m13) dt
    have dp1 := dp_up (hid_up m13) dp
    have s1 := m13
    generalize (upd (upd (upd Hi q1 (.tup [.str "number"])) q2 (.tup [.str "number"])) q3 (.tup [.str "sum", .ref q1, .ref q2])) = H5 at dg dt1 dp1 s1 ⊢
    clear m1 m2 m3 m13
    have hB5 := hBi.up s1
    have hc2 : CMulW 2 (1 + ((r : Nat) : Int)) := cm_small (by decide) (Nat.lt_of_lt_of_le (by omega : ((1 : Int) + ((r : Nat) : Int)).natAbs < 5) (by decide))
    refine ⟨_, rfl, _, _, rfl, rfl, hc2, _, rfl, _, rfl, _, _, rfl, rfl, hc2, _, _, rfl, rfl, _, rfl, _, _, rfl, rfl, hc2, _, _, rfl, rfl, sz7, fun l1 hl1 => ?_⟩
    have m1 := same_new hl1 (.lst [.int (2 * (1 + ((r : Nat) : Int))), .int (1 + ((r : Nat) : Int)), .int 1, .int 0, .int (2 * (1 + ((r : Nat) : Int)) - 1), .int (2 * (1 + ((r : Nat) : Int)) - 1), .int 0])
    have hcn : CntAt (hid [S, C] (upd H5 l1 (.lst [.int (2 * (1 + ((r : Nat) : Int))), .int (1 + ((r : Nat) : Int)), .int 1, .int 0, .int (2 * (1 + ((r : Nat) : Int)) - 1), .int (2 * (1 + ((r : Nat) : Int)) - 1), .int 0]))) (.ref l1) (gC (r + 1)) := ⟨l1, rfl, by rw [← great_counts r hr4]; exact hid_new hB5 hl1⟩
    have dg := dp_up (hid_up m1) dg
    have dt1 := dp_up (hid_up m1) dt1
    have dp1 := dp_up (hid_up m1) dp1
    have s2 := s1.trans m1
    generalize upd H5 l1 (.lst [.int (2 * (1 + ((r : Nat) : Int))), .int (1 + ((r : Nat) : Int)), .int 1, .int 0, .int (2 * (1 + ((r : Nat) : Int)) - 1), .int (2 * (1 + ((r : Nat) : Int)) - 1), .int 0]) = H6 at hcn dg dt1 dp1 s2 ⊢
    clear m1 hl1 s1 hB5
    have hB6 := hBi.up s2
    refine ⟨_, rfl, _, rfl, sz3, fun m1 hm1 => ⟨_, rfl, sz2, fun m2 hm2 => ⟨_, rfl, sz2, fun m3 hm3 => ⟨sz4, fun m4 hm4 => ⟨sz3, fun m5 hm5 => ?_⟩⟩⟩⟩⟩
    have n1 := same_new hm1 (.tup [.str "maker", .str x, tv])
    have n2 := same_new hm2 (.tup [.str "number", .int ((a : Nat) : Int)])
    have n3 := same_new hm3 (.tup [.str "number", .int ot])
    have n4 := same_new hm4 (.tup [.str "sum", .str "+", .ref m2, .ref m3])
    have n5 := same_new hm5 (.tup [.str "give", .ref m1, .ref m4])
    have n34 := n3.trans n4
    have n24 := n2.trans n34
    have n14 := n1.trans n24
    have n15 := n14.trans n5
    have dtold := dp_newT (K := K) (ds := [.str "give", (Tm.mk x (gT x r)).told, (Tm.sm "+" (.num ((a : Nat) : Int)) (.num ot)).told]) (hid_new (hB6.up n14) hm5) (.cons (.str "give") (.cons
      (dp_up (hid_up (n24.trans n5)) (dp_newT (hid_new hB6 hm1) (.cons (.str "maker") (.cons (.str x) (.cons (dp_up (hid_up n1) dt1) .nil))))) (.cons
      (dp_up (hid_up n5) (dp_newT (hid_new (hB6.up (n1.trans (n2.trans n3))) hm4) (.cons (.str "sum") (.cons (.str "+") (.cons (dp_up (hid_up n34) (dp_newT (hid_new (hB6.up n1) hm2) (.cons (.str "number") (.cons (.int _) .nil)))) (.cons (dp_up (hid_up n4) (dp_newT (hid_new (hB6.up (n1.trans n2)) hm3) (.cons (.str "number") (.cons (.int _) .nil)))) .nil)))))) .nil)))
    have dtold : Dp K _ _ (Tm.gv (.mk x (gT x r)) (.sm "+" (.num ((a : Nat) : Int)) (.num ot))).told := dtold
    have dg := dp_up (hid_up n15) dg
    have dp1 := dp_up (hid_up n15) dp1
    have hcn := cnt_up (hid_up n15) hcn
    have s3 := s2.trans n15
    generalize (upd (upd (upd (upd (upd H6 m1 (.tup [.str "maker", .str x, tv])) m2 (.tup [.str "number", .int ((a : Nat) : Int)])) m3 (.tup [.str "number", .int ot])) m4 (.tup [.str "sum", .str "+", .ref m2, .ref m3])) m5 (.tup [.str "give", .ref m1, .ref m4])) = H7 at dtold dg dp1 hcn s3 ⊢
    clear n1 n2 n3 n4 n5 n34 n24 n14 n15 hm1 hm2 hm3 hm4 hm5 dt1 s2 hB6
    have hB7 := hBi.up s3
    refine ⟨_, rfl, _, rfl, sz2, fun t1 ht1 => ⟨_, rfl, sz1, fun t2 ht2 => ?_⟩⟩
    have n1 := same_new ht1 (.tup [.str "takes", pv])
    have n2 := same_new ht2 (.tup [.ref q3])
    have n12 := n1.trans n2
    refine ⟨_, rfl, ?_⟩
    refine rep_useI (n := r + 1) (by omega) (hB7.up n12) (hid_new (hB7.up n1) ht2) (dp_up (hid_up n12) dg) (by omega) fun t3 H8 s8 dgs => ?_
    have s18 := n12.trans s8
    refine ⟨sz3, fun t4 ht4 => ?_⟩
    have n4 := same_new ht4 (.tup [.str "gives", .ref t1, .ref t3])
    have hB8 := hB7.up s18
    have dpp := dp_newT (K := K) (hid_new hB8 ht4) (.cons (.str "gives") (.cons (dp_up (hid_up (n2.trans (s8.trans n4))) (dp_newT (hid_new hB7 ht1) (.cons (.str "takes") (.cons (dp_up (hid_up n1) dp1) .nil)))) (.cons (dp_up (hid_up n4) dgs) .nil)))
    have hcm : CMulW (1 + ((r : Nat) : Int)) (((a : Nat) : Int) + ot) := cm_small (Nat.lt_of_lt_of_le (by omega : ((1 : Int) + ((r : Nat) : Int)).natAbs < 5) (by decide)) hao
    refine ⟨_, rfl, _, rfl, _, rfl, _, _, rfl, rfl, _, _, rfl, rfl, hcm, Nat.zero_le _, fun t5 ht5 => ⟨_, rfl, sz5, fun t6 ht6 => ?_⟩⟩
    have n5 := same_new ht5 (.lst [])
    have n6 := same_new ht6 (.lst [.ref m5, .ref t4, .int ((1 + ((r : Nat) : Int)) * (((a : Nat) : Int) + ot)), .ref t5, .ref l1])
    have n56 := n5.trans n6
    have n46 := n4.trans n56
    have s16 := s18.trans n46
    have hri := great_right (x := x) (a := ((a : Nat) : Int)) (b := ot) hx r (by omega)
    have em : ((r + 1 : Nat) : Int) = 1 + ((r : Nat) : Int) := by omega
    rw [em] at hri
    refine q (.ref t6) _ _ (x0i.trans (same_x (s3.trans s16))) (gi.up (s3.trans s16))
      ⟨t6, .ref m5, .ref t4, .ref t5, .ref l1, rfl, hid_new (hB8.up (n4.trans n5)) ht6, dp_up (hid_up s16) dtold, dp_up (hid_up n56) dpp, ⟨t5, [], rfl, hid_up n6 _ _ (hid_new (hB8.up n4) ht5), .nil⟩, cnt_up (hid_up s16) hcn⟩ hri
end
end Ut
set_option Elab.async false
set_option linter.all false
set_option maxRecDepth 100000
set_option maxHeartbeats 0
namespace Ut
open PySem PySem.Spec PyProof.Rows L2
section
variable {P : Program} {w : World} {K : PySem.W.Frag} {mg : Str → Option Value} {base : Heap}
theorem tot_look (f : Tal) : f .look ≤ f.tot := by
  unfold Tal.tot
  omega
theorem cut2 {a b c : V} : cutV [a, b, c] none (some 2) = [a, b] := rfl
theorem sc_law_right : FnScope ["_law_made_here", "_law_told", "_law_page", "_law_number_here", "_law_uses", "_law_counts", "_law_tree", "_law_kind", "_law_found", "_law_end"] ["_law_made_here"] (defScope S_law_right) := ⟨rfl, rfl, rfl, by decide +kernel, rfl, by decide +kernel, by decide +kernel⟩
def spRight (K : PySem.W.Frag) : Sp := fun vs H Q _ => ∃ v m, vs = [v] ∧ MadeAt K H v m ∧ RightOk m ∧ ∀ H', Same H H' → Q (.bl true) H'
theorem ok_right (T : Tx w K mg) (c_term_of : Cal P w K mg base 64 "term_of" (spTermOf K 60)) (c_lets_by : CalK P w K mg base 185 "lets_by" "term" "paper" (spLets K 60 60)) (c_judged : Cal P w K mg base 184 "judged" (spJudged K 60))
    (c_law_alike : Cal P w K mg base 3 "_law_alike" (spAlike K 2)) (c_law_tally_right : Cal P w K mg base 4 "_law_tally_right" (spTally K)) (c_machine_run : Cal P w K mg base 71 "machine_run" (spMachine K 60))
    (c_how : Met P w K mg base 3 (He.ga K "State") "how" (spHow K 60 100000)) (c_came : Met P w K mg base 4 (He.ga K "State") "came" (spCame K 60 100000)) : Cal P w K mg base 186 "_law_right" (spRight K) := by
  refine cal_mk T 53 53 rfl rfl sc_law_right (fun _ _ _ _ _ _ us hl => match us, hl with | [_], _ => rfl) (fun vs H Q E h => ?_) (fun cdv A outer s0 H vs Q E hr h => ?_)
  · obtain ⟨v, m, rfl, _⟩ := h
    rfl
  obtain ⟨v, m, rfl, ⟨a, tv, pp, uv, cv, rfl, ha, dt, dp, du, ⟨ca, rfl, hca⟩⟩, ⟨hj, hok, hdep, hsc, hus, htot⟩, q⟩ := h
  refine ⟨_, (pss_cons (ps_asg (pv 0) (pg_lst (by rfl) (pgs_cons (pg_name (i := 1) sc_law_right.nd rfl (Or.inl rfl)) (pgs_cons (pg_name (i := 2) sc_law_right.nd rfl (Or.inl rfl)) (pgs_cons (pg_name (i := 3) sc_law_right.nd rfl (Or.inl rfl)) (pgs_cons (pg_name (i := 4) sc_law_right.nd rfl (Or.inl rfl)) (pgs_cons (pg_name (i := 5) sc_law_right.nd rfl (Or.inl rfl)) pgs_nil)))))))
      (pss_cons (ps_set (i := 6) sc_law_right.nd rfl (Or.inl rfl) (pe_c c_term_of hr (by omega) (by rfl) (pa_cons (pv 1) pa_nil)))
      (pss_cons (ps_set (i := 7) sc_law_right.nd rfl (Or.inl rfl) (pe_k2 c_lets_by hr (by omega) (by rfl) (pk_cons (pv 6) (pk_cons (pv 2) pk_nil))))
      (pss_cons (ps_set (i := 8) sc_law_right.nd rfl (Or.inl rfl) (pe_c c_judged hr (by omega) (by rfl) (pa_cons (pv 6) (pa_cons (pv 2) pa_nil))))
      (pss_cons (ps_if (PW.pt (pw_or (pt_cmpR op_isN (pv 7) pe_non (nomark _)) (pw_or (pt_cmpR op_isN (pv 8) pe_non (nomark _)) (pw_or1 (pt_not (pt_val (pe_c c_law_alike hr (by omega) (by rfl) (pa_cons (pv 7) (pa_cons (pv 3) pa_nil))))))))) (pss_one (ps_ret pe_bl)) pss_nil)
      (pss_cons (ps_if (PW.pt (pw_or (pt_not (pt_val (pe_isi (pv 8) (pe_bltn (v := .ty "tuple") (by rfl) (T.free 77 rfl) (by decide +kernel) rfl) (by rfl) (T.free 69 rfl)))) (pw_or (pt_cmpR op_ne (pe_callB call_len_seq (by rfl) (T.free 70 rfl) (by decide +kernel) (pa_cons (pv 8) pa_nil)) pe_int (nomark _)) (pw_or1 (pt_not (pt_val (pe_c c_law_alike hr (by omega) (by rfl) (pa_cons (pe_slice sl_tupA (pv 8) po_none (po_some pe_int)) (pa_cons (pe_tup (pa_cons (pv 3) (pa_cons (pe_lst pa_nil) pa_nil))) pa_nil))))))))) (pss_one (ps_ret pe_bl)) pss_nil)
      (pss_cons (ps_if (pt_not (pt_val (pe_c c_law_tally_right hr (by omega) (by rfl) (pa_cons (pe_ix ix_tup (pv 8) pe_int (fun _ _ => rfl)) (pa_cons (pv 5) pa_nil))))) (pss_one (ps_ret pe_bl)) pss_nil)
      (pss_cons (ps_set (i := 9) sc_law_right.nd rfl (Or.inl rfl) (pe_c c_machine_run hr (by omega) (by rfl) (pa_cons (pv 6) (pa_cons pe_int pa_nil))))
      (pss_cons (ps_if (PW.pt (pw_or (pt_not (pt_val (pe_isi (pv 9) (pe_bltn (v := .ty "tuple") (by rfl) (T.free 77 rfl) (by decide +kernel) rfl) (by rfl) (T.free 69 rfl)))) (pw_or (pt_cmpR op_ne (pe_callB call_len_seq (by rfl) (T.free 70 rfl) (by decide +kernel) (pa_cons (pv 9) pa_nil)) pe_int (nomark _)) (pw_or1 (pt_not (pt_val (pe_c c_law_tally_right hr (by omega) (by rfl) (pa_cons (pe_ix ix_tup (pv 9) pe_int (fun _ _ => rfl)) (pa_cons (pv 5) pa_nil))))))))) (pss_one (ps_ret pe_bl)) pss_nil)
      (pss_cons (ps_if (PW.pt (pw_or (pt_not (pt_val (pe_c c_law_alike hr (by omega) (by rfl) (pa_cons (pe_mt0 c_how hr (by omega) (pe_ix ix_tup (pv 9) pe_int (fun _ _ => rfl))) (pa_cons pe_str pa_nil))))) (pw_or1 (pt_not (pt_val (pe_c c_law_alike hr (by omega) (by rfl) (pa_cons (pe_mt0 c_came hr (by omega) (pe_ix ix_tup (pv 9) pe_int (fun _ _ => rfl))) (pa_cons (pv 3) pa_nil)))))))) (pss_one (ps_ret pe_bl)) pss_nil)
      (pss_one (ps_ret (pe_c c_law_alike hr (by omega) (by rfl) (pa_cons (pe_ix ix_tup (pv 9) pe_int (fun _ _ => rfl)) (pa_cons (pe_callB (cr_sum rfl) (by rfl) (T.free 81 rfl) (by decide +kernel) (pa_cons (pv 5) pa_nil)) pa_nil))))))))))))))), ?_⟩
  have hlk : m.row.tl .look ≤ 100000 := Nat.le_trans (tot_look m.tl) (by omega)
  refine ⟨_, rfl, a, _, rfl, SqL.new ha, rfl, _, _, rfl, _, _, rfl, _, _, rfl, _, _, rfl, _, _, rfl, rfl, ?_⟩
  refine ⟨_, rfl, tv, m.t, rfl, dt, hok, hdep, fun v' H1 s1 ht => ?_⟩
  refine ⟨_, rfl, _, rfl, rfl, m.t, v', pp, m.p, m.row, m.i, rfl, ht, dp_up s1 dp, hsc, hdep, hj, hlk, rfl, fun H2 s2 => ?_⟩
  have s02 := s1.trans s2
  refine ⟨_, rfl, _, rfl, [], m.t, v', pp, m.p, m.row, rfl, Dom.nil, by rw [hid_nil]; exact term_up s2 ht, by rw [hid_nil]; exact dp_up s02 dp, hj, hlk, fun y H3 s3 ry => ?_⟩
  rw [hid_nil] at ry
  have s03 := s02.trans s3
  have hca3 := s03 _ _ hca
  have ht3 := term_up (s2.trans s3) ht
  obtain ⟨b, kv, uv3, tlv, rfl, hb, hk, hu, htl⟩ := ry
  have hk : Dp K H3 kv (.int m.i) := hk
  obtain rfl := dp_int_of hk
  have hu : UsAt K H3 uv3 (m.us.map toUse) := hu
  rw [hus] at hu
  obtain ⟨ub, uz, rfl, hub, huz⟩ := hu
  have qb := SqT.new (K := K) hb
  clear dt dp du ha hk
  refine ⟨_, rfl, rfl, _, rfl, iteF ?_⟩
  refine ⟨_, rfl, rfl, _, rfl, iteF ?_⟩
  refine ⟨_, rfl, _, rfl, .int m.i, .int m.i, .int m.i, rfl, .int _, .int _, trivial, fun H4 s4 => ⟨_, rfl, iteF ?_⟩⟩
  have qb4 := same_seqT s4 qb
  refine ⟨_, rfl, true, isi_tup qb4 k_tuple_tuple, _, rfl, iteF ?_⟩
  refine ⟨_, rfl, b, _, rfl, .inr qb4, rfl, _, rfl, ifF (by rfl) ?_⟩
  refine ⟨_, rfl, 2, rfl, b, _, rfl, qb4, fun hc => absurd hc.2 (show ¬ (HT.sIx 3 3 (some 2) = 3) by decide), fun _ p1 hp1 => ?_⟩
  have n5 := same_new hp1 (.tup [.int m.i, .ref ub])
  refine ⟨_, rfl, Nat.zero_le _, fun l1 hl1 => ⟨sz2, fun p2 hp2 => ?_⟩⟩
  have n6 := same_new hl1 (.lst [])
  have n7 := same_new hp2 (.tup [.int m.i, .ref l1])
  have n57 := n5.trans (n6.trans n7)
  refine ⟨.ref p1, .ref p2, .tuple [.int m.i, .list []], rfl, dp_newT ((n6.trans n7) _ _ upd_same) (.cons (.int _) (.cons (dp_newL (n57 _ _ (s4 _ _ hub)) (dps_up (s4.trans n57) huz)) .nil)), dp_newT upd_same (.cons (.int _) (.cons (dp_newL (n7 _ _ upd_same) .nil) .nil)), ?_, fun H5 s5 => ⟨_, rfl, iteF ?_⟩⟩
  · refine ⟨by show 2 ≤ 1000; decide, fun d hd => ?_⟩
    rcases List.mem_cons.mp hd with e | hd
    · subst e; exact trivial
    · rw [List.mem_singleton.mp hd]
      exact ⟨Nat.zero_le _, fun d hd => by cases hd⟩
  have s35 := s4.trans (n57.trans s5)
  clear n5 n6 n7 n57 hl1 hp1 hp2
  refine ⟨_, rfl, b, _, _, _, rfl, rfl, same_seqT s35 qb, atI_nat (j := 2) rfl, _, rfl, tlv, .ref ca, m.tl, rfl, tal_up s35 htl, ⟨ca, rfl, s35 _ _ hca3⟩, fun H6 s6 => ⟨_, rfl, iteF ?_⟩⟩
  have s36 := s35.trans s6
  have hus' : m.row.us = [] := by show m.us.map toUse = []; rw [hus]; rfl
  obtain ⟨e, hrun⟩ := machine_law hj (N := m.i) rfl hus'
  refine ⟨_, rfl, m.t, v', m.tl.tot, m.tl, ⟨.num m.i, e, []⟩, 300, rfl, term_up s36 ht3, hsc, hdep, hrun, htot, by omega, fun p sv ta H7 s7 hp hta hst => ?_⟩
  have s37 := s36.trans s7
  have qe := SqT.new (K := K) hp
  refine ⟨_, rfl, true, isi_tup qe k_tuple_tuple, _, rfl, iteF ?_⟩
  refine ⟨_, rfl, p, _, rfl, .inr qe, rfl, _, rfl, ifF (by rfl) ?_⟩
  refine ⟨_, rfl, p, _, _, _, rfl, rfl, qe, atI_nat (j := 1) rfl, _, rfl, .ref ta, .ref ca, m.tl, rfl, ⟨ta, rfl, hta⟩, ⟨ca, rfl, s37 _ _ hca3⟩, fun H8 s8 => ⟨_, rfl, iteF ?_⟩⟩
  have hst8 : StAt K 60 100000 H8 sv ⟨.num m.i, e, []⟩ := st_up s8 (by omega) hst
  have hst8' := hst8
  obtain ⟨sa, sdx, stv, sev, spp, rfl, hsa, _⟩ := hst8'
  refine ⟨_, rfl, p, _, _, _, rfl, rfl, same_seqT s8 qe, atI_nat (j := 0) rfl, sa, sdx, _, rfl, hsa, rfl, .ref sa, m.i, e, rfl, hst8, ?_⟩
  refine ⟨.str "number", .str "number", .str "number", rfl, .str _, .str _, trivial, fun H9 s9 => ⟨_, rfl, iteF ?_⟩⟩
  have hst9 : StAt K 60 100000 H9 (.ref sa) ⟨.num m.i, e, []⟩ := st_up s9 (Nat.le_refl _) hst8
  have hst9' := hst9
  obtain ⟨sb, sdy, stw, sew, spq, e1, hsb, _⟩ := hst9'
  cases e1
  have s89 := s8.trans s9
  refine ⟨_, rfl, p, _, _, _, rfl, rfl, same_seqT s89 qe, atI_nat (j := 0) rfl, sa, sdy, _, rfl, hsb, rfl, .ref sa, m.i, e, rfl, hst9, ?_⟩
  refine ⟨_, rfl, .int m.i, .int m.i, .int m.i, rfl, .int _, .int _, trivial, fun H10 s10 => ⟨_, rfl, iteF ?_⟩⟩
  have s710 := s89.trans s10
  have s310 := s37.trans s710
  refine ⟨_, rfl, p, _, _, _, rfl, rfl, same_seqT s710 qe, atI_nat (j := 2) rfl, _, rfl, ca, (Srt.all.map fun s => ((m.tl s : Nat) : Int)), rfl, SqL.new (by rw [← talL_int]; exact s310 _ _ hca3), ?_⟩
  rw [talL_sum]
  exact ⟨.int _, .int _, .int (m.tl.tot : Nat), rfl, .int _, .int _, trivial, fun H11 s11 => q H11 (s03.trans (s310.trans s11))⟩
end
end Ut
set_option Elab.async false
set_option linter.all false
namespace Ut
open PySem PySem.Spec PyProof.Rows L2
theorem wipe_at (σ : L2.St) (k : Nat) : ∀ vs : List Nat, (wipe σ vs)[k]? = if k ∈ vs then (σ[k]?).map (fun _ => none) else σ[k]?
  | [] => by simp [wipe]
  | v :: vs => by
    have ih := wipe_at σ k vs
    unfold wipe
    rw [List.getElem?_set]
    by_cases e : v = k
    · subst e
      simp only [if_true, List.mem_cons, true_or, wipe_length]
      by_cases l : v < σ.length
      · rw [if_pos l, List.getElem?_eq_getElem l]; rfl
      · rw [if_neg l, List.getElem?_eq_none (by omega)]; rfl
    · rw [if_neg e, ih]
      have e2 : ¬ k = v := fun h => e h.symm
      simp [e2]
theorem wipe2 {σ : L2.St} {vs : List Nat} {i j : Nat} {a b : Option V} (hi : i ∈ vs) (hj : j ∈ vs) : wipe (((wipe σ vs).set i a).set j b) vs = wipe σ vs := by
  refine List.ext_getElem? fun k => ?_
  rw [wipe_at, wipe_at]
  by_cases m : k ∈ vs
  · rw [if_pos m, if_pos m, List.getElem?_set, List.getElem?_set, wipe_at, if_pos m]
    simp only [List.length_set, wipe_length]
    by_cases l : k < σ.length
    · rw [List.getElem?_eq_getElem l]
      by_cases c1 : j = k
      · subst c1; simp [l]
      · by_cases c2 : i = k
        · subst c2; simp [c1, l]
        · simp [c1, c2]
    · rw [List.getElem?_eq_none (by omega)]
      by_cases c1 : j = k
      · subst c1; simp [l]
      · by_cases c2 : i = k
        · subst c2; simp [c1, l]
        · simp [c1, c2]
  · rw [if_neg m, if_neg m, List.getElem?_set, List.getElem?_set, wipe_at, if_neg m]
    have c1 : ¬ j = k := fun e => m (by rw [← e]; exact hj)
    have c2 : ¬ i = k := fun e => m (by rw [← e]; exact hi)
    rw [if_neg c1, if_neg c2]
theorem wipe1 {σ : L2.St} {vs : List Nat} {i : Nat} {a : Option V} (hi : i ∈ vs) : wipe ((wipe σ vs).set i a) vs = wipe σ vs := by
  have h := wipe2 (σ := σ) (vs := vs) (a := a) (b := a) hi hi
  rw [List.set_set] at h
  exact h
end Ut
set_option Elab.async false
set_option linter.all false
set_option maxRecDepth 100000
set_option maxHeartbeats 0
namespace Ut
open PySem PySem.Spec PyProof.Rows L2
section
variable {P : Program} {w : World} {K : PySem.W.Frag} {mg : Str → Option Value} {base : Heap}
def absV : V → Option V
  | .int i => some (.int (if i < 0 then -i else i))
  | _ => none
theorem abs_cells : ∀ ms : List Int, (ms.map V.int).filterMap absV = cellV (ms.map Int.natAbs)
  | [] => rfl
  | m :: ms => by
    have ih := abs_cells ms
    have e : (if m < 0 then -m else m) = ((m.natAbs : Nat) : Int) := by
      by_cases c : m < 0
      · rw [if_pos c]; omega
      · rw [if_neg c]; omega
    show V.int (if m < 0 then -m else m) :: (ms.map V.int).filterMap absV = V.int (m.natAbs : Nat) :: cellV (ms.map Int.natAbs)
    rw [ih, e]
theorem cut_ints (ns : List Int) (lo hi : Option Int) : ∃ ms : List Int, cutV (ns.map V.int) lo hi = ms.map V.int ∧ ms.length ≤ ns.length := by
  refine ⟨(ns.drop (HT.sIx (ns.map V.int).length 0 lo)).take (HT.sIx (ns.map V.int).length (ns.map V.int).length hi - HT.sIx (ns.map V.int).length 0 lo), ?_, ?_⟩
  · unfold cutV
    rw [List.map_take, List.map_drop]
  · rw [List.length_take, List.length_drop]
    omega
theorem sc_law_state : FnScope ["_law_script", "_law_cells", "_law_cell"] ["_law_script"] (defScope S_law_state) := ⟨rfl, rfl, rfl, by decide +kernel, rfl, by decide +kernel, by decide +kernel⟩
def spState (K : PySem.W.Frag) : Sp := fun vs H Q _ => ∃ (a : Addr) (ns : List Int), vs = [.ref a] ∧ SqL K H a (ns.map V.int) ∧ ns.length ≤ 63 ∧ ∀ S C H', Same H H' → GenAt H' S C → Q (.ref S) H'
theorem ok_state (T : Tx w K mg) : Cal P w K mg base 1 "_law_state" (spState K) := by
  refine cal_mk T 34 34 rfl rfl sc_law_state (fun _ _ _ _ _ _ us hl => match us, hl with | [_], _ => rfl) (fun vs H Q E h => ?_) (fun cdv A outer s0 H vs Q E hr h => ?_)
  · obtain ⟨a, ns, rfl, _⟩ := h
    rfl
  obtain ⟨a, ns, rfl, ha, hl, q⟩ := h
  refine ⟨_, (pss_cons (ps_setLc (i := 1) (own := [("_law_cell", 2)]) (by rfl) sc_law_state.nd rfl rfl (sw_true rfl rfl rfl (by decide +kernel)) (pi_list (pe_slice sl_list (pv 0) po_none (po_some pe_int))) (blkOk_by (own := [("_law_cell", 2)]) (N := ["_law_script", "_law_cells", "_law_cell"]) (sc := defScope S_law_state) (by decide +kernel)) (fun _ _ _ _ _ => (pg_name (i := 2) sc_law_state.nd rfl (by first | exact Or.inl rfl | exact Or.inr rfl))) (fun _ _ _ _ _ => pts_nil) (fun _ _ _ _ _ => (pe_callB call_abs (by rfl) (T.free 82 rfl) (by decide +kernel) (pa_cons (pv 2) pa_nil))))
      (pss_cons (ps_if (pt_cmpR op_eq (pe_callB call_len_seq (by rfl) (T.free 70 rfl) (by decide +kernel) (pa_cons (pv 1) pa_nil)) pe_int (nomark _)) (pss_one (ps_set (i := 1) sc_law_state.nd rfl (Or.inl rfl) (pe_lst (pa_cons pe_int pa_nil)))) pss_nil)
      (pss_one (ps_ret (pe_lst (pa_cons (pv 1) (pa_cons pe_int (pa_cons pe_int pa_nil)))))))), ?_⟩
  refine ⟨_, rfl, 63, rfl, a, _, rfl, ha, fun p hp => ?_⟩
  obtain ⟨ms, ems, hms⟩ := cut_ints ns none (some 63)
  have n1 := same_new hp (.lst (cutV (ns.map V.int) none (some 63)))
  have hpl : SqL K (upd H p (.lst (cutV (ns.map V.int) none (some 63)))) p (ms.map V.int) := by
    rw [ems]
    exact SqL.new upd_same
  refine ⟨p, rfl, ⟨_, SqL.new upd_same⟩, fun D hD => ?_⟩
  refine lc_fm (K := K) (a := p) (xs := ms.map V.int) absV hpl hD (by rw [List.length_map]; show ms.length ≤ 2 ^ 24; omega) ?_ ?_
  · intro x acc N hx la n0 n1
    obtain ⟨i, _, rfl⟩ := List.mem_map.mp hx
    refine ⟨wipe1 (by simp), yes_turn ⟨_, rfl, i, rfl, acc, upd_same, la, ?_⟩⟩
    rw [upd_lst]
    exact n1 _ rfl
  rw [abs_cells]
  have n2 := same_new hD (.lst (cellV (ms.map Int.natAbs)))
  have s2 := n1.trans n2
  have hcl : (cellV (ms.map Int.natAbs)).length = ms.length := by unfold cellV; rw [List.length_map, List.length_map]
  refine ⟨_, rfl, D, _, rfl, .inl (SqL.new upd_same), rfl, _, rfl, ?_⟩
  have hDa : upd (upd H p (.lst (cutV (ns.map V.int) none (some 63)))) D (.lst (cellV (ms.map Int.natAbs))) D = some (.lst (cellV (ms.map Int.natAbs))) := upd_same
  generalize upd (upd H p (.lst (cutV (ns.map V.int) none (some 63)))) D (.lst (cellV (ms.map Int.natAbs))) = H2 at s2 hDa ⊢
  by_cases c : ms.length = 0
  · refine ifT (decide_eq_true (by rw [hcl, c]; rfl)) ?_
    refine ⟨sz1, fun l hl2 => ?_⟩
    have n3 := same_new hl2 (.lst [.int 5])
    refine ⟨_, rfl, sz3, fun S hS => ?_⟩
    have n4 := same_new hS (.lst [.ref l, .int 0, .int 1])
    have ne : S ≠ l := fun e => by rw [e, upd_same] at hS; cases hS
    exact q S l _ (s2.trans (n3.trans n4)) ⟨[5], 0, 1, upd_same, n4 _ _ upd_same, by simp, by show 1 ≤ 100; decide, by decide, ne⟩
  · refine ifF (decide_eq_false (by rw [hcl]; simp; exact fun e => c (by rw [e]; rfl))) ?_
    refine ⟨_, rfl, sz3, fun S hS => ?_⟩
    have n4 := same_new hS (.lst [.ref D, .int 0, .int 1])
    have ne : S ≠ D := fun e => by rw [e, hDa] at hS; cases hS
    refine q S D _ (s2.trans n4) ⟨ms.map Int.natAbs, 0, 1, upd_same, n4 _ _ hDa, fun e => c ?_, by rw [List.length_map]; omega, by decide, ne⟩
    have := congrArg List.length e
    simpa using this
end
end Ut
set_option Elab.async false
set_option linter.all false
set_option maxRecDepth 100000
set_option maxHeartbeats 0
namespace Ut
open PySem PySem.Spec PyProof.Rows L2
def woD : Wo → PyData
  | .int i => .int i
  | .sh s c => tp [.int (s : Nat), .int c]
def scU (u : Str × Wo) : Use := (u.1, woD u.2)
theorem scD_eq (u : Str × Wo) : scD u = useD (scU u) := by
  obtain ⟨x, wo⟩ := u
  cases wo <;> rfl
theorem scD_map (G : Scp) : G.map scD = (G.map scU).map useD := by
  rw [List.map_map]
  exact List.map_congr_left fun u _ => scD_eq u
theorem asg_norm {i : Nat} {σ : L2.St} (σ' : L2.St) {Q : L2.St → Hp → Prop} {v : V} {H : Hp} (e : σ.set i (some v) = σ') (h : Q σ' H) : gName i v σ H Q := by
  subst e
  exact h
theorem nx_norm {σ : L2.St} (σ' : L2.St) {D : Ends} {H : Hp} (e : σ = σ') (h : D.nx σ' H) : tNext D σ H := by
  subst e
  exact h
section
variable {P : Program} {w : World} {K : PySem.W.Frag} {mg : Str → Option Value} {base : Heap}
theorem scope_but (G : Scp) (x : Str) : (((G.map scU).filter fun u => !decide (u.1 = x)).map fun u => if (false : Bool) = true then u.2 else useD u) = ((G.filter fun u => !decide (u.1 = x)).map scD) := by
  rw [List.filter_map, List.map_map]
  exact List.map_congr_left fun u _ => (scD_eq u).symm
theorem use_but (us : List KUse) (x : Str) : (((us.map toUse).filter fun u => !decide (u.1 = x)).map fun u => if (false : Bool) = true then u.2 else useD u) = ((butOf us x).map toUse).map useD := by
  rw [← but_use]; rfl
theorem use_kinds (us : List KUse) (x : Str) : (((us.map toUse).filter fun u => decide (u.1 = x)).map fun u => if (true : Bool) = true then u.2 else useD u) = (kindsOf us x).map Kd.d := by
  rw [← kinds_use]; rfl
theorem tie_len (G : Scp) (x : Str) (wo : Wo) : (G.tie x wo).length ≤ G.length + 1 := by
  unfold Scp.tie
  rw [List.length_append]
  have := List.length_filter_le (fun u : Str × Wo => !decide (u.1 = x)) G
  show _ + 1 ≤ _
  omega
/-- a list of refs to counts, one more -/
theorem talSum_perm (f : Tal) (fs : List Tal) (z : Srt) : talSum ([f] ++ fs) z = f z + talSum fs z := by rw [tal_app, tal_one]
theorem sc_law_tied : FnScope ["_law_state_here", "_law_scope", "_law_deep", "_law_shape_here", "_law_name", "_law_some", "_law_given", "_law_worth", "_law_body", "_law_kinds", "_law_uses", "_law_counts", "_law_papers", "_law_told", "_law_row_here", "_law_word_here", "_law_kind", "_law_use"] ["_law_state_here", "_law_scope", "_law_deep"] (defScope S_law_tied) := ⟨rfl, rfl, rfl, by decide +kernel, rfl, by decide +kernel, by decide +kernel⟩
theorem ok_tied (T : Tx w K mg) (n : Nat) (hn5 : n ≤ 5) (c_law_draw : Cal P w K mg base 1 "_law_draw" spDraw) (c_law_all : Cal P w K mg base 1 "_law_all" (spAll K)) (c_law_number : Cal P w K mg base 2 "_law_number" spNumber) (c_law_word : Cal P w K mg base 2 "_law_word" spWord)
    (c_law_shape : Cal P w K mg base 1 "_law_shape" (spShape K)) (c_law_shape_paper : Cal P w K mg base 1 "_law_shape_paper" (spShapePaper K)) (c_law_made : Cal P w K mg base (2 * n + 4) "_law_made" (spMade K n)) : Cal P w K mg base (2 * n + 5) "_law_tied" (spMore K n) := by
  refine cal_mk T 46 46 rfl rfl sc_law_tied (fun _ _ _ _ _ _ us hl => match us, hl with | [_, _, _], _ => rfl) (fun vs H Q E h => ?_) (fun cdv A outer s0 H vs Q E hr h => ?_)
  · obtain ⟨S, C, sv, G, d, _, rfl, _⟩ := h
    rfl
  obtain ⟨S, C, sv, G, d, hdn, rfl, hg, hsc, hG, q⟩ := h
  refine ⟨_, (pss_cons (ps_set (i := 3) sc_law_tied.nd rfl (Or.inr rfl) (pe_c c_law_draw hr (by omega) (by rfl) (pa_cons (pv 0) (pa_cons pe_int pa_nil))))
      (pss_cons (ps_set (i := 4) sc_law_tied.nd rfl (Or.inr rfl) (pe_c c_law_word hr (by omega) (by rfl) (pa_cons (pv 0) pa_nil)))
      (pss_cons (ps_set (i := 5) sc_law_tied.nd rfl (Or.inl rfl) (pe_c c_law_number hr (by omega) (by rfl) (pa_cons (pv 0) pa_nil)))
      (pss_cons (ps_set (i := 6) sc_law_tied.nd rfl (Or.inl rfl) (pe_c c_law_made hr (by omega) (by rfl) (pa_cons (pv 0) (pa_cons (pv 1) (pa_cons (pv 2) pa_nil)))))
      (pss_cons (ps_set (i := 7) sc_law_tied.nd rfl (Or.inl rfl) (pe_ix ix_list (pv 6) pe_int (fun _ _ => rfl)))
      (pss_cons (ps_if (pt_cmpR op_lt (pv 3) pe_int (nomark _)) (pss_one (ps_set (i := 7) sc_law_tied.nd rfl (Or.inl rfl) (pe_tup (pa_cons (pv 3) (pa_cons (pv 5) pa_nil))))) pss_nil)
      (pss_cons (ps_set (i := 8) sc_law_tied.nd rfl (Or.inl rfl) (pe_c c_law_made hr (by omega) (by rfl) (pa_cons (pv 0) (pa_cons (pe_op op_cat (pe_lc (own := [("_law_row_here", 14)]) (by rfl) sc_law_tied.nd (pi_list (pv 1)) (blkOk_by (own := [("_law_row_here", 14)]) (N := ["_law_state_here", "_law_scope", "_law_deep", "_law_shape_here", "_law_name", "_law_some", "_law_given", "_law_worth", "_law_body", "_law_kinds", "_law_uses", "_law_counts", "_law_papers", "_law_told", "_law_row_here", "_law_word_here", "_law_kind", "_law_use"]) (sc := defScope S_law_tied) (by decide +kernel)) (fun _ _ _ _ _ => (pg_name (i := 14) sc_law_tied.nd rfl (by first | exact Or.inl rfl | exact Or.inr rfl))) (fun _ _ _ _ _ => pts_one (pt_cmpR op_ne (pe_ix (show IxR _ (rIxT K) from ix_tup) (pv 14) pe_int (fun _ _ => rfl)) (pv 4) (nomark _))) (fun _ _ _ _ _ => (pv 14))) (pe_lst (pa_cons (pe_tup (pa_cons (pv 4) (pa_cons (pv 7) pa_nil))) pa_nil))) (pa_cons (pv 2) pa_nil)))))
      (pss_cons (ps_setLc (i := 9) (own := [("_law_word_here", 15), ("_law_kind", 16)]) (by rfl) sc_law_tied.nd rfl rfl (sw_true rfl rfl rfl (by decide +kernel)) (pi_list (pe_ix ix_list (pv 8) pe_int (fun _ _ => rfl))) (blkOk_by (own := [("_law_word_here", 15), ("_law_kind", 16)]) (N := ["_law_state_here", "_law_scope", "_law_deep", "_law_shape_here", "_law_name", "_law_some", "_law_given", "_law_worth", "_law_body", "_law_kinds", "_law_uses", "_law_counts", "_law_papers", "_law_told", "_law_row_here", "_law_word_here", "_law_kind", "_law_use"]) (sc := defScope S_law_tied) (by decide +kernel)) (fun _ _ _ _ _ => (pg_tupK (K0 := K) (n := 2) rfl (by rfl) (pgs_cons (pg_name (i := 15) sc_law_tied.nd rfl (by first | exact Or.inl rfl | exact Or.inr rfl)) (pgs_cons (pg_name (i := 16) sc_law_tied.nd rfl (by first | exact Or.inl rfl | exact Or.inr rfl)) pgs_nil)))) (fun _ _ _ _ _ => pts_one (pt_cmpR op_eq (pv 15) (pv 4) (nomark _))) (fun _ _ _ _ _ => (pv 16)))
      (pss_cons (ps_setLc (i := 10) (own := [("_law_use", 17)]) (by rfl) sc_law_tied.nd rfl rfl (sw_true rfl rfl rfl (by decide +kernel)) (pi_list (pe_ix ix_list (pv 8) pe_int (fun _ _ => rfl))) (blkOk_by (own := [("_law_use", 17)]) (N := ["_law_state_here", "_law_scope", "_law_deep", "_law_shape_here", "_law_name", "_law_some", "_law_given", "_law_worth", "_law_body", "_law_kinds", "_law_uses", "_law_counts", "_law_papers", "_law_told", "_law_row_here", "_law_word_here", "_law_kind", "_law_use"]) (sc := defScope S_law_tied) (by decide +kernel)) (fun _ _ _ _ _ => (pg_name (i := 17) sc_law_tied.nd rfl (by first | exact Or.inl rfl | exact Or.inr rfl))) (fun _ _ _ _ _ => pts_one (pt_cmpR op_ne (pe_ix (show IxR _ (rIxT K) from ix_tup) (pv 17) pe_int (fun _ _ => rfl)) (pv 4) (nomark _))) (fun _ _ _ _ _ => (pv 17)))
      (pss_cons (ps_set (i := 11) sc_law_tied.nd rfl (Or.inl rfl) (pe_c c_law_all hr (by omega) (by rfl) (pa_cons (pe_lst (pa_cons (pe_ix ix_list (pv 8) pe_int (fun _ _ => rfl)) (pa_cons (pe_lst (pa_cons pe_int (pa_cons pe_int (pa_cons pe_int (pa_cons pe_int (pa_cons pe_int (pa_cons pe_int (pa_cons pe_int pa_nil)))))))) pa_nil))) pa_nil)))
      (pss_cons (ps_if (pt_cmpR op_lt (pv 3) pe_int (nomark _)) (pss_cons (ps_set (i := 12) sc_law_tied.nd rfl (Or.inl rfl) (pe_callTy call_tuple_of (by rfl) (T.free 77 rfl) (by decide +kernel) (pa_cons (pe_lc (own := [("_law_kind", 16)]) (by rfl) sc_law_tied.nd (pi_list (pv 9)) (blkOk_by (own := [("_law_kind", 16)]) (N := ["_law_state_here", "_law_scope", "_law_deep", "_law_shape_here", "_law_name", "_law_some", "_law_given", "_law_worth", "_law_body", "_law_kinds", "_law_uses", "_law_counts", "_law_papers", "_law_told", "_law_row_here", "_law_word_here", "_law_kind", "_law_use"]) (sc := defScope S_law_tied) (by decide +kernel)) (fun _ _ _ _ _ => (pg_name (i := 16) sc_law_tied.nd rfl (by first | exact Or.inl rfl | exact Or.inr rfl))) (fun _ _ _ _ _ => pts_nil) (fun _ _ _ _ _ => (pe_ix (show IxR _ (rIxT K) from ix_tup) (pe_c c_law_shape_paper hr (by omega) (by rfl) (pa_cons (pv 3) (pa_cons (pv 16) pa_nil))) pe_int (fun _ _ => rfl)))) pa_nil)))
      (pss_cons (ps_set (i := 11) sc_law_tied.nd rfl (Or.inl rfl) (pe_c c_law_all hr (by omega) (by rfl) (pa_cons (pe_op op_cat (pe_lst (pa_cons (pv 11) pa_nil)) (pe_lc (own := [("_law_kind", 16)]) (by rfl) sc_law_tied.nd (pi_list (pv 9)) (blkOk_by (own := [("_law_kind", 16)]) (N := ["_law_state_here", "_law_scope", "_law_deep", "_law_shape_here", "_law_name", "_law_some", "_law_given", "_law_worth", "_law_body", "_law_kinds", "_law_uses", "_law_counts", "_law_papers", "_law_told", "_law_row_here", "_law_word_here", "_law_kind", "_law_use"]) (sc := defScope S_law_tied) (by decide +kernel)) (fun _ _ _ _ _ => (pg_name (i := 16) sc_law_tied.nd rfl (by first | exact Or.inl rfl | exact Or.inr rfl))) (fun _ _ _ _ _ => pts_nil) (fun _ _ _ _ _ => (pe_ix (show IxR _ (rIxT K) from ix_tup) (pe_c c_law_shape_paper hr (by omega) (by rfl) (pa_cons (pv 3) (pa_cons (pv 16) pa_nil))) pe_int (fun _ _ => rfl))))) pa_nil)))
      (pss_one (ps_set (i := 13) sc_law_tied.nd rfl (Or.inl rfl) (pe_tup (pa_cons pe_str (pa_cons (pe_tup (pa_cons pe_str (pa_cons (pv 4) (pa_cons (pe_ix ix_list (pv 8) pe_int (fun _ _ => rfl)) pa_nil)))) (pa_cons (pe_c c_law_shape hr (by omega) (by rfl) (pa_cons (pv 3) (pa_cons (pe_c c_law_word hr (by omega) (by rfl) (pa_cons (pv 0) pa_nil)) (pa_cons (pv 5) pa_nil)))) pa_nil)))))))) (pss_cons (ps_set (i := 12) sc_law_tied.nd rfl (Or.inl rfl) (pe_op op_repK (pe_tup (pa_cons (pe_ix ix_list (pv 6) pe_int (fun _ _ => rfl)) pa_nil)) (pe_callB call_len_seq (by rfl) (T.free 70 rfl) (by decide +kernel) (pa_cons (pv 9) pa_nil))))
      (pss_cons (ps_set (i := 10) sc_law_tied.nd rfl (Or.inl rfl) (pe_op op_cat (pv 10) (pe_op op_rep (pe_ix ix_list (pv 6) pe_int (fun _ _ => rfl)) (pe_callB call_len_seq (by rfl) (T.free 70 rfl) (by decide +kernel) (pa_cons (pv 9) pa_nil)))))
      (pss_cons (ps_set (i := 11) sc_law_tied.nd rfl (Or.inl rfl) (pe_c c_law_all hr (by omega) (by rfl) (pa_cons (pe_op op_cat (pe_lst (pa_cons (pv 11) pa_nil)) (pe_op op_rep (pe_lst (pa_cons (pe_ix ix_list (pv 6) pe_int (fun _ _ => rfl)) pa_nil)) (pe_callB call_len_seq (by rfl) (T.free 70 rfl) (by decide +kernel) (pa_cons (pv 9) pa_nil)))) pa_nil)))
      (pss_one (ps_set (i := 13) sc_law_tied.nd rfl (Or.inl rfl) (pe_tup (pa_cons pe_str (pa_cons (pe_tup (pa_cons pe_str (pa_cons (pv 4) (pa_cons (pe_ix ix_list (pv 8) pe_int (fun _ _ => rfl)) pa_nil)))) (pa_cons (pe_ix ix_list (pv 6) pe_int (fun _ _ => rfl)) pa_nil))))))))))
      (pss_one (ps_ret (pe_lst (pa_cons (pv 13) (pa_cons (pe_tup (pa_cons pe_str (pa_cons (pe_tup (pa_cons pe_str (pa_cons (pe_ix ix_list (pv 8) pe_int (fun _ _ => rfl)) pa_nil))) (pa_cons (pv 12) pa_nil)))) (pa_cons (pe_ix ix_list (pv 8) pe_int (fun _ _ => rfl)) (pa_cons (pv 10) (pa_cons (pv 11) pa_nil))))))))))))))))))), ?_⟩
  refine ⟨_, rfl, S, C, 8, rfl, by decide, by decide, hg, fun s H1 hs8 x1 g1 => ?_⟩
  refine ⟨_, rfl, S, C, rfl, g1, fun x H2 hx x2 g2 => ?_⟩
  refine ⟨_, rfl, S, C, rfl, g2, fun c H3 x3 g3 => ?_⟩
  have x03 := (x1.trans x2).trans x3
  refine ⟨_, rfl, _, rfl, _, rfl, S, C, sv, G, d, hdn, rfl, g3, scope_up (samex_hid x03) hsc, by omega, fun v1 ma H4 x4 g4 ma4 oka => ?_⟩
  obtain ⟨a1, t1, pa, u1, c1, rfl, ha1, hat, hap, hau, hac⟩ := ma4
  have x04 := x03.trans x4
  refine ⟨_, rfl, a1, _, _, _, rfl, rfl, SqL.new (hid_at ha1), atI_nat (j := 2) rfl, ?_⟩
  refine ⟨_, rfl, _, _, rfl, rfl, _, rfl, ?_⟩
  by_cases hs : s < 4
  · refine ifT (decide_eq_true (by omega)) ?_
    refine ⟨_, rfl, _, rfl, sz2, fun pw hpw => ?_⟩
    have nw := same_new hpw (.tup [.int (s : Nat), .int c])
    obtain ⟨Hc, sc, eH⟩ : ∃ Hc, Same H4 Hc ∧ Hc = upd H4 pw (.tup [.int (s : Nat), .int c]) := ⟨_, nw, rfl⟩
    obtain ⟨wv, hwv, ewv⟩ : ∃ wv, Dp K (hid [S, C] Hc) wv (woD (.sh s c)) ∧ wv = .ref pw := by
      refine ⟨.ref pw, ?_, rfl⟩
      rw [eH]
      exact dp_newT (hid_new g4.dom hpw) (.cons (.int _) (.cons (.int _) .nil))
    rw [← eH, ← ewv]
    clear eH ewv
    obtain ⟨wo, ewo⟩ : ∃ wo, wo = Wo.sh s c := ⟨_, rfl⟩
    rw [← ewo] at hwv
    have hwo4 : ∀ s' c', wo = .sh s' c' → s' < 4 := fun s' c' e => by
      rw [ewo] at e
      cases e
      exact hs
    refine asg_norm [some (.ref S), some (sv), some (.int (d : Nat)), some (.int (s : Nat)), some (.str x), some (.int c), some (.ref a1), some (wv), none, none, none, none, none, none, none, none, none, none] (by rfl) ?_
    have gc := g4.up sc
    have hBc := gc.dom
    have x0c := x04.trans (same_x sc)
    have hscc := scope_up (samex_hid x0c) hsc
    obtain ⟨sa, zs, esv, hsa, hz, hok⟩ := hscc
    have zl : zs.length = G.length := by rw [dps_len hz, List.length_map]
    rw [scD_map] at hz
    obtain ⟨ys, y1, y2, y3⟩ := pick (fun u => !decide (u.1 = x)) false hz
    rw [scope_but] at y2
    refine ⟨_, rfl, _, rfl, sa, esv, ⟨_, SqL.new (hid_at hsa)⟩, fun D hD => ?_⟩
    refine lc_gen (walk_list (K := K) (a := sa) (xs := zs)) (fun i => (ys[i]?).join) (fun acc => (same_new hD _).seq (SqL.new (hid_at hsa))) (by show zs.length ≤ 2 ^ 24; omega) ?_ ?_
    · rintro i z acc H' N hi la ⟨rfl, hv⟩ n1 n2
      obtain ⟨b, x', k, u, y, rfl, hb, hu, rfl, hy, ey⟩ := y3 i z hv
      have hb' := same_seqT (hid_sub.trans (same_new hD (.lst acc))) hb
      refine ⟨wipe1 (by simp), _, rfl, b, _, _, _, rfl, rfl, hb', atI_nat (j := 0) rfl, _, rfl, rfl, _, rfl, ?_⟩
      by_cases cc : u.1 = x
      · rw [if_neg (by simp [cc])] at ey
        subst ey
        exact ifF (by simp [cc]) (n1 (by rw [hy]; rfl))
      · rw [if_pos (by simp [cc])] at ey
        subst ey
        refine ifT (by simp [cc]) ⟨_, rfl, acc, upd_same, la, ?_⟩
        rw [upd_lst]
        exact n2 _ (by rw [hy]; rfl)
    rw [← y1, range_join]
    have nD := same_new hD (.lst (ys.filterMap id))
    refine ⟨_, rfl, _, rfl, sz2, fun p1 hp1 => ⟨sz1, fun l1 hl1 => ?_⟩⟩
    have n1 := same_new hp1 (.tup [.str x, wv])
    have n2 := same_new hl1 (.lst [.ref p1])
    have yl : (ys.filterMap id).length ≤ G.length := by rw [← zl, ← y1]; exact List.length_filterMap_le _ _
    refine ⟨D, l1, _, _, rfl, rfl, (n1.trans n2) _ _ upd_same, upd_same, (by show (ys.filterMap id).length + 1 ≤ 2 ^ 24; omega), fun l2 hl2 => ?_⟩
    have n3 := same_new hl2 (.lst (ys.filterMap id ++ [.ref p1]))
    have s13 := n1.trans (n2.trans n3)
    have sc3 := nD.trans s13
    have dpair : Dp K (hid [S, C] (upd (upd Hc D (.lst (ys.filterMap id))) p1 (.tup [.str x, wv]))) (.ref p1) (scD (x, wo)) := by
      rw [scD_eq]
      exact dp_newT (hid_new (hBc.up nD) hp1) (.cons (.str _) (.cons (dp_up (hid_up (nD.trans n1)) hwv) .nil))
    have gl2 := gc.up sc3
    have hsc2 : ScopeAt K (hid [S, C] (upd (upd (upd (upd Hc D (.lst (ys.filterMap id))) p1 (.tup [.str x, wv])) l1 (.lst [.ref p1])) l2 (.lst (ys.filterMap id ++ [.ref p1])))) (.ref l2) (G.tie x wo) := by
      refine ⟨l2, _, rfl, hid_new (hBc.up (nD.trans (n1.trans n2))) hl2, ?_, fun u hu => ?_⟩
      · unfold Scp.tie
        rw [List.map_append]
        exact dps_app (dps_up (hid_up sc3) y2) (.cons (dp_up (hid_up (n2.trans n3)) dpair) .nil)
      · rcases tie_in (x := x) (y := u.1) (wo' := u.2) hu with ⟨e1, e2⟩ | ⟨_, hm⟩
        · exact ⟨by rw [e1]; exact hx, fun s' c' e => hwo4 s' c' (by rw [← e2]; exact e)⟩
        · exact hok _ hm
    generalize (upd (upd (upd (upd Hc D (.lst (ys.filterMap id))) p1 (.tup [.str x, wv])) l1 (.lst [.ref p1])) l2 (.lst (ys.filterMap id ++ [.ref p1]))) = Hg at hsc2 gl2 sc3 ⊢
    clear n1 n2 n3 s13 nD dpair hl2 hl1 hp1 y3 y2 y1
    have htl := tie_len G x wo
    refine ⟨_, rfl, S, C, .ref l2, G.tie x wo, d, hdn, rfl, gl2, hsc2, by omega, fun v5 mb H5 x5 g5 mb5 okb => ?_⟩
    refine asg_norm [some (.ref S), some (sv), some (.int (d : Nat)), some (.int (s : Nat)), some (.str x), some (.int c), some (.ref a1), some (wv), some (v5), none, none, none, none, none, none, none, none, none] (by rfl) ?_
    have hB5 := g5.dom
    have xc5 := (same_x sc3).trans x5
    have x05 := x0c.trans xc5
    have y45 : Same (hid [S, C] H4) (hid [S, C] H5) := samex_hid ((same_x sc).trans xc5)
    have ha1 := y45 _ _ ha1
    have hat := dp_up y45 hat
    have hap := dp_up y45 hap
    have hau := us_up y45 hau
    have hac := cnt_up y45 hac
    obtain ⟨b1, t2, pb, u2, c2, rfl, hb1, hbt, hbp, hbu, hbc⟩ := mb5
    obtain ⟨ua, uz, rfl, hua, huz⟩ := hbu
    have lb := ub_s (by omega : d ≤ 3) okb
    have la := ub_s (by omega : d ≤ 3) oka
    have ul : uz.length = mb.us.length := by rw [dps_len huz, List.length_map, List.length_map]
    have qb := SqL.new (K := K) (hid_at hb1)
    have qu := SqL.new (K := K) (hid_at hua)
    obtain ⟨ks, k1, k2, k3⟩ := pick (fun u => decide (u.1 = x)) true huz
    rw [use_kinds] at k2
    refine ⟨_, rfl, b1, _, _, _, rfl, rfl, qb, atI_nat (j := 3) rfl, ua, rfl, ⟨_, qu⟩, fun Dk hDk => ?_⟩
    refine lc_gen (walk_list (K := K) (a := ua) (xs := uz)) (fun i => (ks[i]?).join) (fun acc => (same_new hDk _).seq qu) (by show uz.length ≤ 2 ^ 24; omega) ?_ ?_
    · rintro i z acc H' N hi la ⟨rfl, hv⟩ n1 n2
      obtain ⟨b, x', k, u, y, rfl, hb, hu, rfl, hy, ey⟩ := k3 i z hv
      have hb' := same_seqT (hid_sub.trans (same_new hDk (.lst acc))) hb
      refine ⟨b, _, rfl, hb', rfl, _, _, rfl, _, _, rfl, rfl, wipe2 (by simp) (by simp), _, rfl, _, rfl, rfl, _, rfl, ?_⟩
      by_cases cc : u.1 = x
      · rw [if_pos (decide_eq_true cc)] at ey
        subst ey
        refine ifT (by simp [cc]) ⟨_, rfl, acc, upd_same, la, ?_⟩
        rw [upd_lst]
        exact n2 _ (by rw [hy]; rfl)
      · rw [if_neg (by simp [cc])] at ey
        subst ey
        exact ifF (by simp [cc]) (n1 (by rw [hy]; rfl))
    rw [← k1, range_join]
    have nK := same_new hDk (.lst (ks.filterMap id))
    have hkl0 := hid_new (o := .lst (ks.filterMap id)) hB5 hDk
    generalize upd H5 Dk (.lst (ks.filterMap id)) = Hk at nK hkl0 ⊢
    refine asg_norm [some (.ref S), some (sv), some (.int (d : Nat)), some (.int (s : Nat)), some (.str x), some (.int c), some (.ref a1), some (wv), some (.ref b1), some (.ref Dk), none, none, none, none, none, none, none, none] (by rfl) ?_
    clear k3
    obtain ⟨bs, b1', b2', b3'⟩ := pick (fun u => !decide (u.1 = x)) false huz
    rw [use_but] at b2'
    refine ⟨_, rfl, b1, _, _, _, rfl, rfl, nK.seq qb, atI_nat (j := 3) rfl, ua, rfl, ⟨_, nK.seq qu⟩, fun Du hDu => ?_⟩
    refine lc_gen (walk_list (K := K) (a := ua) (xs := uz)) (fun i => (bs[i]?).join) (fun acc => (same_new hDu _).seq (nK.seq qu)) (by show uz.length ≤ 2 ^ 24; omega) ?_ ?_
    · rintro i z acc H' N hi la ⟨rfl, hv⟩ n1 n2
      obtain ⟨b, x', k, u, y, rfl, hb, hu, rfl, hy, ey⟩ := b3' i z hv
      have hb' := same_seqT (hid_sub.trans (nK.trans (same_new hDu (.lst acc)))) hb
      refine ⟨wipe1 (by simp), _, rfl, b, _, _, _, rfl, rfl, hb', atI_nat (j := 0) rfl, _, rfl, rfl, _, rfl, ?_⟩
      by_cases cc : u.1 = x
      · rw [if_neg (by simp [cc])] at ey
        subst ey
        exact ifF (by simp [cc]) (n1 (by rw [hy]; rfl))
      · rw [if_pos (by simp [cc])] at ey
        subst ey
        refine ifT (by simp [cc]) ⟨_, rfl, acc, upd_same, la, ?_⟩
        rw [upd_lst]
        exact n2 _ (by rw [hy]; rfl)
    rw [← b1', range_join]
    have nU := same_new hDu (.lst (bs.filterMap id))
    have hul0 := hid_new (o := .lst (bs.filterMap id)) (hB5.up nK) hDu
    have s5u := nK.trans nU
    generalize upd Hk Du (.lst (bs.filterMap id)) = Hu at nU s5u hul0 ⊢
    refine asg_norm [some (.ref S), some (sv), some (.int (d : Nat)), some (.int (s : Nat)), some (.str x), some (.int c), some (.ref a1), some (wv), some (.ref b1), some (.ref Dk), some (.ref Du), none, none, none, none, none, none, none] (by rfl) ?_
    clear b3'
    refine ⟨_, rfl, b1, _, _, _, rfl, rfl, s5u.seq qb, atI_nat (j := 4) rfl, sz7, fun l3 hl3 => ⟨sz2, fun l4 hl4 => ?_⟩⟩
    have n4 := same_new hl3 (.lst (talL (talOf [.op, .take])))
    have n5 := same_new hl4 (.lst [c2, .ref l3])
    have s5e := s5u.trans (n4.trans n5)
    refine ⟨l4, [c2, .ref l3], [mb.tl, talOf [.op, .take]], rfl, SqL.new upd_same, (by show 2 ≤ 1000000; decide), .cons (cnt_up (hid_sub.trans s5e) hbc) (.cons ⟨l3, rfl, n5 _ _ upd_same⟩ .nil), fun l6 H6 s6 hl6 hl6' => ?_⟩
    refine asg_norm [some (.ref S), some (sv), some (.int (d : Nat)), some (.int (s : Nat)), some (.str x), some (.int c), some (.ref a1), some (wv), some (.ref b1), some (.ref Dk), some (.ref Du), some (.ref l6), none, none, none, none, none, none] (by rfl) ?_
    have s56 := s5e.trans s6
    have g6 := g5.up s56
    have hB6 := g6.dom
    have hcnt := CntAt_got (hB5.up s5e) hl6 hl6'
    have hkl : hid [S, C] H6 Dk = some (.lst (ks.filterMap id)) := hid_up (nU.trans (n4.trans (n5.trans s6))) _ _ hkl0
    have hkd := dps_up (hid_up s56) k2
    have hul : UsAt K (hid [S, C] H6) (.ref Du) ((butOf mb.us x).map toUse) := ⟨Du, _, rfl, hid_up (n4.trans (n5.trans s6)) _ _ hul0, dps_up (hid_up s56) b2'⟩
    have qb6 := s56.seq qb
    have hbt6 := dp_up (hid_up s56) hbt
    have hbp6 := dp_up (hid_up s56) hbp
    have x06 := x05.trans (same_x s56)
    have klen : (ks.filterMap id).length = (kindsOf mb.us x).length := by rw [dps_len k2, List.length_map]
    have kle := kinds_len mb.us x
    refine ⟨_, rfl, _, _, rfl, rfl, _, rfl, ?_⟩
    refine ifT (decide_eq_true (by omega)) ?_
    rw [ewo] at okb
    obtain ⟨ns, hns⟩ := ns_of (tied_uses okb.us).1
    rw [hns] at hkd
    have kl2 : (ks.filterMap id).length = ns.length := by rw [klen, hns, List.length_map]
    have hnl : ns.length ≤ 183 := by omega
    refine ⟨_, rfl, Dk, rfl, ⟨_, SqL.new (hid_at hkl)⟩, fun D1 hD1 => ?_⟩
    refine lc_list (K := K) (a := Dk) (xs := ks.filterMap id) (fun i Hi => ∃ acc, Hi D1 = some (.lst acc) ∧ Same H6 (hid [D1] Hi) ∧ DpAll K (hid (D1 :: [S, C]) Hi) acc ((ns.take i).map (shapeP s)))
      ⟨[], upd_same, same_hid_new hD1, .nil⟩ (fun i Hi _ h => ?_) ?_ ?_
    · obtain ⟨acc, _, sH, _⟩ := h
      exact (sH.trans hid_sub).seq (SqL.new (hid_at hkl))
    · rintro i z Hi hi ⟨acc, hDi, sH, hacc⟩
      obtain ⟨d', ed, hd⟩ := dps_at hkd hi
      rw [List.getElem?_map, List.getElem?_map] at ed
      obtain ⟨k', ek, rfl⟩ := Option.map_eq_some_iff.mp ed
      obtain ⟨n', en, rfl⟩ := Option.map_eq_some_iff.mp ek
      have sM := same_hid_more (B := [S, C]) (sH.trans hid_sub) hD1
      have hBi : Dom (D1 :: [S, C]) Hi := (hB6.up (sH.trans hid_sub)).cons (by rw [hDi]; exact Option.some_ne_none _)
      have al := dps_len hacc
      rw [List.length_map, List.length_take] at al
      refine ⟨wipe1 (by simp), yes_turn ⟨_, rfl, _, rfl, D1 :: [S, C], s, z, c, n', rfl, hs, hBi, dp_up sM hd, fun v' H' s' hv' => ?_⟩⟩
      obtain ⟨a', pp, cv, rfl, ha', hpp, _⟩ := hv'
      have s5 : Same (hid (D1 :: [S, C]) H') (hid (D1 :: [S, C]) (upd H' D1 (.lst (acc ++ [pp])))) := samex_hid (samex_upd (by simp) _)
      refine ⟨a', _, _, _, rfl, rfl, SqT.new (hid_at ha'), atI_nat (j := 0) rfl, acc, s' _ _ hDi, (by show _ < 2 ^ 24; omega), acc ++ [pp], upd_same, (sH.trans (hid_up s')).trans (samex_hid (samex_upd (by simp) _)), ?_⟩
      rw [List.take_add_one, en, List.map_append]
      exact dps_app (dps_up ((hid_up s').trans s5) hacc) (.cons (dp_up s5 hpp) .nil)
    rintro H7 ⟨acc1, hD7, sH7, hacc1⟩
    rw [kl2, List.take_length] at hacc1
    have s67 := sH7.trans hid_sub
    have hB7 := hB6.up s67
    have hacc1' := dps_up (hid_less (B := [S, C]) (p := D1)) hacc1
    refine ⟨D1, acc1, rfl, .inl ⟨SqL.new hD7, fun p5 hp5 => ?_⟩⟩
    have n8 := same_new hp5 (.tup acc1)
    have dpap0 : Dp K (hid [S, C] (upd H7 p5 (.tup acc1))) (.ref p5) (tp (ns.map (shapeP s))) := dp_newT (hid_new hB7 hp5) (dps_up (hid_up n8) hacc1')
    have s68 := s67.trans n8
    generalize upd H7 p5 (.tup acc1) = H8 at dpap0 s68 ⊢
    refine asg_norm [some (.ref S), some (sv), some (.int (d : Nat)), some (.int (s : Nat)), some (.str x), some (.int c), some (.ref a1), some (wv), some (.ref b1), some (.ref Dk), some (.ref Du), some (.ref l6), some (.ref p5), none, none, none, none, none] (by rfl) ?_
    clear n8 hacc1 hacc1' hp5 sH7 hD7 s67 hB7
    have hB8 := hB6.up s68
    refine ⟨_, rfl, sz1, fun l9 hl9 => ?_⟩
    have n9 := same_new hl9 (.lst [.ref l6])
    have s69 := s68.trans n9
    have hl9' : upd H8 l9 (.lst [.ref l6]) l9 = some (.lst [.ref l6]) := upd_same
    have dpap0 := dp_up (hid_up n9) dpap0
    generalize upd H8 l9 (.lst [.ref l6]) = H9 at dpap0 s69 hl9' ⊢
    clear n9 hl9
    have hB9 := hB6.up s69
    have hkl9 := hid_up s69 _ _ hkl
    have hkd9 := dps_up (hid_up s69) hkd
    refine ⟨_, rfl, Dk, rfl, ⟨_, SqL.new (hid_at hkl9)⟩, fun D2 hD2 => ?_⟩
    refine lc_list (K := K) (a := Dk) (xs := ks.filterMap id) (fun i Hi => ∃ acc, Hi D2 = some (.lst acc) ∧ Same H9 (hid [D2] Hi) ∧ CntsAt (hid (D2 :: [S, C]) Hi) acc ((ns.take i).map (shapeC s)))
      ⟨[], upd_same, same_hid_new hD2, .nil⟩ (fun i Hi _ h => ?_) ?_ ?_
    · obtain ⟨acc, _, sH, _⟩ := h
      exact (sH.trans hid_sub).seq (SqL.new (hid_at hkl9))
    · rintro i z Hi hi ⟨acc, hDi, sH, hacc⟩
      obtain ⟨d', ed, hd⟩ := dps_at hkd9 hi
      rw [List.getElem?_map, List.getElem?_map] at ed
      obtain ⟨k', ek, rfl⟩ := Option.map_eq_some_iff.mp ed
      obtain ⟨n', en, rfl⟩ := Option.map_eq_some_iff.mp ek
      have sM := same_hid_more (B := [S, C]) (sH.trans hid_sub) hD2
      have hBi : Dom (D2 :: [S, C]) Hi := (hB9.up (sH.trans hid_sub)).cons (by rw [hDi]; exact Option.some_ne_none _)
      have al := cnts_len hacc
      rw [List.length_map, List.length_take] at al
      refine ⟨wipe1 (by simp), yes_turn ⟨_, rfl, _, rfl, D2 :: [S, C], s, z, c, n', rfl, hs, hBi, dp_up sM hd, fun v' H' s' hv' => ?_⟩⟩
      obtain ⟨a', pp, cv, rfl, ha', _, hcc⟩ := hv'
      have s5 : Same (hid (D2 :: [S, C]) H') (hid (D2 :: [S, C]) (upd H' D2 (.lst (acc ++ [cv])))) := samex_hid (samex_upd (by simp) _)
      refine ⟨a', _, _, _, rfl, rfl, SqT.new (hid_at ha'), atI_nat (j := 1) rfl, acc, s' _ _ hDi, (by show _ < 2 ^ 24; omega), acc ++ [cv], upd_same, (sH.trans (hid_up s')).trans (samex_hid (samex_upd (by simp) _)), ?_⟩
      rw [List.take_add_one, en, List.map_append]
      exact cnts_app (cnts_up ((hid_up s').trans s5) hacc) (.cons (cnt_up s5 hcc) .nil)
    rintro H10 ⟨acc2, hD10, sH10, hacc2⟩
    rw [kl2, List.take_length] at hacc2
    have s910 := sH10.trans hid_sub
    have hacc2' := cnts_up hid_sub hacc2
    have al2 := cnts_len hacc2
    rw [List.length_map] at al2
    refine ⟨l9, D2, _, _, rfl, rfl, s910 _ _ hl9', hD10, (by show 1 + acc2.length ≤ 2 ^ 24; omega), fun l12 hl12 => ?_⟩
    have n12 := same_new hl12 (.lst ([.ref l6] ++ acc2))
    have s912 := s910.trans n12
    have s612 := s69.trans s912
    refine ⟨l12, _, [talSum [mb.tl, talOf [.op, .take]]] ++ ns.map (shapeC s), rfl, SqL.new upd_same, (by rw [List.length_append]; show 1 + acc2.length ≤ 1000000; omega), cnts_app (.cons (cnt_up (hid_sub.trans s612) hcnt) .nil) (cnts_up n12 hacc2'), fun l13 H14 s14 hl13 hl13' => ?_⟩
    refine asg_norm [some (.ref S), some (sv), some (.int (d : Nat)), some (.int (s : Nat)), some (.str x), some (.int c), some (.ref a1), some (wv), some (.ref b1), some (.ref Dk), some (.ref Du), some (.ref l13), some (.ref p5), none, none, none, none, none] (by rfl) ?_
    have s614 := s612.trans s14
    have hB14 := hB6.up s614
    have hcnt2 := CntAt_got (hB6.up s612) hl13 hl13'
    have dpap1 := dp_up (hid_up (s912.trans s14)) dpap0
    clear n12 s912 s612 hl13 hl13' hcnt dpap0 hacc2 hacc2' sH10 s910
    refine ⟨_, rfl, _, rfl, b1, _, _, _, rfl, rfl, s614.seq qb6, atI_nat (j := 0) rfl, sz3, fun p6 hp6 => ?_⟩
    have n15 := same_new hp6 (.tup [.str "maker", .str x, t2])
    have s615 := s614.trans n15
    have dmk := dp_newT (K := K) (hid_new hB14 hp6) (.cons (.str "maker") (.cons (.str x) (.cons (dp_up (hid_up s615) hbt6) .nil)))
    have hcnt3 := cnt_up (hid_up n15) hcnt2
    have dpap2 := dp_up (hid_up n15) dpap1
    generalize upd H14 p6 (.tup [.str "maker", .str x, t2]) = H15 at s615 dmk hcnt3 dpap2 ⊢
    clear n15 hp6 hcnt2 dpap1
    have g15 := g6.up s615
    refine ⟨_, rfl, _, rfl, S, C, rfl, g15, fun y H16 hy x16 g16 => ?_⟩
    refine ⟨_, rfl, [S, C], s, y, c, rfl, hs, g16.dom, fun v' H17 s17 hv' => ?_⟩
    refine ⟨sz3, fun p7 hp7 => ?_⟩
    have hB17 := g16.dom.up s17
    have n18 := same_new hp7 (.tup [.str "give", .ref p6, v'])
    have z1518 : Same (hid [S, C] H15) (hid [S, C] (upd H17 p7 (.tup [.str "give", .ref p6, v']))) := (samex_hid x16).trans (hid_up (s17.trans n18))
    have dtold := dp_newT (K := K) (hid_new hB17 hp7) (.cons (.str "give") (.cons (dp_up z1518 dmk) (.cons (dp_up (hid_up n18) hv') .nil)))
    have g18 := g16.up (s17.trans n18)
    have x18 := (same_x s615).trans (x16.trans (same_x (s17.trans n18)))
    have z618 := samex_hid x18
    generalize upd H17 p7 (.tup [.str "give", .ref p6, v']) = H18 at z1518 dtold g18 x18 z618 ⊢
    refine asg_norm [some (.ref S), some (sv), some (.int (d : Nat)), some (.int (s : Nat)), some (.str x), some (.int c), some (.ref a1), some (wv), some (.ref b1), some (.ref Dk), some (.ref Du), some (.ref l13), some (.ref p5), some (.ref p7), none, none, none, none] (by rfl) ?_
    clear n18 hp7
    have hB18 := g18.dom
    have hcnt4 := cnt_up z1518 hcnt3
    have dpap3 := dp_up z1518 dpap2
    have hb18 := z618 _ _ (hid_up s56 _ _ hb1)
    have qb18 := SqL.new (K := K) (hid_at hb18)
    have hbp18 := dp_up z618 hbp6
    have hul18 := us_up z618 hul
    clear hcnt3 dpap2 z1518
    refine ⟨_, rfl, _, rfl, b1, _, _, _, rfl, rfl, qb18, atI_nat (j := 1) rfl, sz2, fun p8 hp8 => ?_⟩
    have n19 := same_new hp8 (.tup [.str "takes", pb])
    refine ⟨_, rfl, sz3, fun p9 hp9 => ?_⟩
    have n20 := same_new hp9 (.tup [.str "gives", .ref p8, .ref p5])
    have s20 := n19.trans n20
    have dpap := dp_newT (K := K) (hid_new (hB18.up n19) hp9) (.cons (.str "gives") (.cons (dp_up (hid_up n20) (dp_newT (hid_new hB18 hp8) (.cons (.str "takes") (.cons (dp_up (hid_up n19) hbp18) .nil)))) (.cons (dp_up (hid_up s20) dpap3) .nil)))
    have dtold2 := dp_up (hid_up s20) dtold
    have hcnt5 := cnt_up (hid_up s20) hcnt4
    have hul20 := us_up (hid_up s20) hul18
    have qb20 := s20.seq qb18
    generalize (upd (upd H18 p8 (.tup [.str "takes", pb])) p9 (.tup [.str "gives", .ref p8, .ref p5])) = H20 at s20 dpap dtold2 hcnt5 hul20 qb20 ⊢
    clear n19 n20
    refine ⟨_, rfl, b1, _, _, _, rfl, rfl, qb20, atI_nat (j := 2) rfl, _, rfl, _, rfl, sz5, fun p10 hp10 => ?_⟩
    have n21 := same_new hp10 (.lst [.ref p7, .ref p9, .int mb.i, .ref Du, .ref l13])
    have et : talSum ([talSum [mb.tl, talOf [.op, .take]]] ++ ns.map (shapeC s)) = talSum ([mb.tl] ++ tlAll (ns.map fun n => ⟨(shapeKd s c n).d, [], shapeC s n⟩) ++ [talOf [.op, .take]]) := funext fun z => by
      have e1 : tlAll (ns.map fun n => (⟨(shapeKd s c n).d, [], shapeC s n⟩ : Row)) = ns.map (shapeC s) := by
        unfold tlAll
        rw [List.map_map]; rfl
      rw [e1, tal_app, tal_one, tal_app, tal_app, tal_one, tal_one]
      show talSum ([mb.tl] ++ [talOf [.op, .take]]) z + _ = _
      rw [tal_app, tal_one, tal_one]
      omega
    rw [et] at hcnt5
    refine q (.ref p10) ⟨.gv (.mk x mb.t) (shapeTm s y c), tp [.str "gives", tp [.str "takes", mb.p], tp (ns.map (shapeP s))], mb.i, butOf mb.us x ++ [], talSum ([mb.tl] ++ tlAll (ns.map fun n => ⟨(shapeKd s c n).d, [], shapeC s n⟩) ++ [talOf [.op, .take]])⟩ _ (x06.trans (x18.trans (same_x (s20.trans n21)))) (g18.up (s20.trans n21))
      ⟨p10, .ref p7, .ref p9, .ref Du, .ref l13, rfl, hid_new (hB18.up s20) hp10, dp_up (hid_up n21) dtold2, dp_up (hid_up n21) dpap, ?_, cnt_up (hid_up n21) hcnt5⟩ (tied_shape hx hy (by omega) (by omega) okb ns hns)
    show UsAt K _ _ ((butOf mb.us x ++ []).map toUse)
    rw [List.append_nil]
    exact us_up (hid_up n21) hul20
  · refine ifF (decide_eq_false (by omega)) ?_
    obtain ⟨Hc, sc, eH⟩ : ∃ Hc, Same H4 Hc ∧ Hc = H4 := ⟨_, Same.refl H4, rfl⟩
    obtain ⟨wv, hwv, ewv⟩ : ∃ wv, Dp K (hid [S, C] Hc) wv (woD (.int ma.i)) ∧ wv = .int ma.i := ⟨.int ma.i, .int _, rfl⟩
    rw [← eH, ← ewv]
    clear eH ewv
    obtain ⟨wo, ewo⟩ : ∃ wo, wo = Wo.int ma.i := ⟨_, rfl⟩
    rw [← ewo] at hwv
    have hwo4 : ∀ s' c', wo = .sh s' c' → s' < 4 := fun s' c' e => by
      rw [ewo] at e
      cases e
    refine nx_norm [some (.ref S), some (sv), some (.int (d : Nat)), some (.int (s : Nat)), some (.str x), some (.int c), some (.ref a1), some (wv), none, none, none, none, none, none, none, none, none, none] (by rfl) ?_
    have gc := g4.up sc
    have hBc := gc.dom
    have x0c := x04.trans (same_x sc)
    have hscc := scope_up (samex_hid x0c) hsc
    obtain ⟨sa, zs, esv, hsa, hz, hok⟩ := hscc
    have zl : zs.length = G.length := by rw [dps_len hz, List.length_map]
    rw [scD_map] at hz
    obtain ⟨ys, y1, y2, y3⟩ := pick (fun u => !decide (u.1 = x)) false hz
    rw [scope_but] at y2
    refine ⟨_, rfl, _, rfl, sa, esv, ⟨_, SqL.new (hid_at hsa)⟩, fun D hD => ?_⟩
    refine lc_gen (walk_list (K := K) (a := sa) (xs := zs)) (fun i => (ys[i]?).join) (fun acc => (same_new hD _).seq (SqL.new (hid_at hsa))) (by show zs.length ≤ 2 ^ 24; omega) ?_ ?_
    · rintro i z acc H' N hi la ⟨rfl, hv⟩ n1 n2
      obtain ⟨b, x', k, u, y, rfl, hb, hu, rfl, hy, ey⟩ := y3 i z hv
      have hb' := same_seqT (hid_sub.trans (same_new hD (.lst acc))) hb
      refine ⟨wipe1 (by simp), _, rfl, b, _, _, _, rfl, rfl, hb', atI_nat (j := 0) rfl, _, rfl, rfl, _, rfl, ?_⟩
      by_cases cc : u.1 = x
      · rw [if_neg (by simp [cc])] at ey
        subst ey
        exact ifF (by simp [cc]) (n1 (by rw [hy]; rfl))
      · rw [if_pos (by simp [cc])] at ey
        subst ey
        refine ifT (by simp [cc]) ⟨_, rfl, acc, upd_same, la, ?_⟩
        rw [upd_lst]
        exact n2 _ (by rw [hy]; rfl)
    rw [← y1, range_join]
    have nD := same_new hD (.lst (ys.filterMap id))
    refine ⟨_, rfl, _, rfl, sz2, fun p1 hp1 => ⟨sz1, fun l1 hl1 => ?_⟩⟩
    have n1 := same_new hp1 (.tup [.str x, wv])
    have n2 := same_new hl1 (.lst [.ref p1])
    have yl : (ys.filterMap id).length ≤ G.length := by rw [← zl, ← y1]; exact List.length_filterMap_le _ _
    refine ⟨D, l1, _, _, rfl, rfl, (n1.trans n2) _ _ upd_same, upd_same, (by show (ys.filterMap id).length + 1 ≤ 2 ^ 24; omega), fun l2 hl2 => ?_⟩
    have n3 := same_new hl2 (.lst (ys.filterMap id ++ [.ref p1]))
    have s13 := n1.trans (n2.trans n3)
    have sc3 := nD.trans s13
    have dpair : Dp K (hid [S, C] (upd (upd Hc D (.lst (ys.filterMap id))) p1 (.tup [.str x, wv]))) (.ref p1) (scD (x, wo)) := by
      rw [scD_eq]
      exact dp_newT (hid_new (hBc.up nD) hp1) (.cons (.str _) (.cons (dp_up (hid_up (nD.trans n1)) hwv) .nil))
    have gl2 := gc.up sc3
    have hsc2 : ScopeAt K (hid [S, C] (upd (upd (upd (upd Hc D (.lst (ys.filterMap id))) p1 (.tup [.str x, wv])) l1 (.lst [.ref p1])) l2 (.lst (ys.filterMap id ++ [.ref p1])))) (.ref l2) (G.tie x wo) := by
      refine ⟨l2, _, rfl, hid_new (hBc.up (nD.trans (n1.trans n2))) hl2, ?_, fun u hu => ?_⟩
      · unfold Scp.tie
        rw [List.map_append]
        exact dps_app (dps_up (hid_up sc3) y2) (.cons (dp_up (hid_up (n2.trans n3)) dpair) .nil)
      · rcases tie_in (x := x) (y := u.1) (wo' := u.2) hu with ⟨e1, e2⟩ | ⟨_, hm⟩
        · exact ⟨by rw [e1]; exact hx, fun s' c' e => hwo4 s' c' (by rw [← e2]; exact e)⟩
        · exact hok _ hm
    generalize (upd (upd (upd (upd Hc D (.lst (ys.filterMap id))) p1 (.tup [.str x, wv])) l1 (.lst [.ref p1])) l2 (.lst (ys.filterMap id ++ [.ref p1]))) = Hg at hsc2 gl2 sc3 ⊢
    clear n1 n2 n3 s13 nD dpair hl2 hl1 hp1 y3 y2 y1
    have htl := tie_len G x wo
    refine ⟨_, rfl, S, C, .ref l2, G.tie x wo, d, hdn, rfl, gl2, hsc2, by omega, fun v5 mb H5 x5 g5 mb5 okb => ?_⟩
    refine asg_norm [some (.ref S), some (sv), some (.int (d : Nat)), some (.int (s : Nat)), some (.str x), some (.int c), some (.ref a1), some (wv), some (v5), none, none, none, none, none, none, none, none, none] (by rfl) ?_
    have hB5 := g5.dom
    have xc5 := (same_x sc3).trans x5
    have x05 := x0c.trans xc5
    have y45 : Same (hid [S, C] H4) (hid [S, C] H5) := samex_hid ((same_x sc).trans xc5)
    have ha1 := y45 _ _ ha1
    have hat := dp_up y45 hat
    have hap := dp_up y45 hap
    have hau := us_up y45 hau
    have hac := cnt_up y45 hac
    obtain ⟨b1, t2, pb, u2, c2, rfl, hb1, hbt, hbp, hbu, hbc⟩ := mb5
    obtain ⟨ua, uz, rfl, hua, huz⟩ := hbu
    have lb := ub_s (by omega : d ≤ 3) okb
    have la := ub_s (by omega : d ≤ 3) oka
    have ul : uz.length = mb.us.length := by rw [dps_len huz, List.length_map, List.length_map]
    have qb := SqL.new (K := K) (hid_at hb1)
    have qu := SqL.new (K := K) (hid_at hua)
    obtain ⟨ks, k1, k2, k3⟩ := pick (fun u => decide (u.1 = x)) true huz
    rw [use_kinds] at k2
    refine ⟨_, rfl, b1, _, _, _, rfl, rfl, qb, atI_nat (j := 3) rfl, ua, rfl, ⟨_, qu⟩, fun Dk hDk => ?_⟩
    refine lc_gen (walk_list (K := K) (a := ua) (xs := uz)) (fun i => (ks[i]?).join) (fun acc => (same_new hDk _).seq qu) (by show uz.length ≤ 2 ^ 24; omega) ?_ ?_
    · rintro i z acc H' N hi la ⟨rfl, hv⟩ n1 n2
      obtain ⟨b, x', k, u, y, rfl, hb, hu, rfl, hy, ey⟩ := k3 i z hv
      have hb' := same_seqT (hid_sub.trans (same_new hDk (.lst acc))) hb
      refine ⟨b, _, rfl, hb', rfl, _, _, rfl, _, _, rfl, rfl, wipe2 (by simp) (by simp), _, rfl, _, rfl, rfl, _, rfl, ?_⟩
      by_cases cc : u.1 = x
      · rw [if_pos (decide_eq_true cc)] at ey
        subst ey
        refine ifT (by simp [cc]) ⟨_, rfl, acc, upd_same, la, ?_⟩
        rw [upd_lst]
        exact n2 _ (by rw [hy]; rfl)
      · rw [if_neg (by simp [cc])] at ey
        subst ey
        exact ifF (by simp [cc]) (n1 (by rw [hy]; rfl))
    rw [← k1, range_join]
    have nK := same_new hDk (.lst (ks.filterMap id))
    have hkl0 := hid_new (o := .lst (ks.filterMap id)) hB5 hDk
    generalize upd H5 Dk (.lst (ks.filterMap id)) = Hk at nK hkl0 ⊢
    refine asg_norm [some (.ref S), some (sv), some (.int (d : Nat)), some (.int (s : Nat)), some (.str x), some (.int c), some (.ref a1), some (wv), some (.ref b1), some (.ref Dk), none, none, none, none, none, none, none, none] (by rfl) ?_
    clear k3
    obtain ⟨bs, b1', b2', b3'⟩ := pick (fun u => !decide (u.1 = x)) false huz
    rw [use_but] at b2'
    refine ⟨_, rfl, b1, _, _, _, rfl, rfl, nK.seq qb, atI_nat (j := 3) rfl, ua, rfl, ⟨_, nK.seq qu⟩, fun Du hDu => ?_⟩
    refine lc_gen (walk_list (K := K) (a := ua) (xs := uz)) (fun i => (bs[i]?).join) (fun acc => (same_new hDu _).seq (nK.seq qu)) (by show uz.length ≤ 2 ^ 24; omega) ?_ ?_
    · rintro i z acc H' N hi la ⟨rfl, hv⟩ n1 n2
      obtain ⟨b, x', k, u, y, rfl, hb, hu, rfl, hy, ey⟩ := b3' i z hv
      have hb' := same_seqT (hid_sub.trans (nK.trans (same_new hDu (.lst acc)))) hb
      refine ⟨wipe1 (by simp), _, rfl, b, _, _, _, rfl, rfl, hb', atI_nat (j := 0) rfl, _, rfl, rfl, _, rfl, ?_⟩
      by_cases cc : u.1 = x
      · rw [if_neg (by simp [cc])] at ey
        subst ey
        exact ifF (by simp [cc]) (n1 (by rw [hy]; rfl))
      · rw [if_pos (by simp [cc])] at ey
        subst ey
        refine ifT (by simp [cc]) ⟨_, rfl, acc, upd_same, la, ?_⟩
        rw [upd_lst]
        exact n2 _ (by rw [hy]; rfl)
    rw [← b1', range_join]
    have nU := same_new hDu (.lst (bs.filterMap id))
    have hul0 := hid_new (o := .lst (bs.filterMap id)) (hB5.up nK) hDu
    have s5u := nK.trans nU
    generalize upd Hk Du (.lst (bs.filterMap id)) = Hu at nU s5u hul0 ⊢
    refine asg_norm [some (.ref S), some (sv), some (.int (d : Nat)), some (.int (s : Nat)), some (.str x), some (.int c), some (.ref a1), some (wv), some (.ref b1), some (.ref Dk), some (.ref Du), none, none, none, none, none, none, none] (by rfl) ?_
    clear b3'
    refine ⟨_, rfl, b1, _, _, _, rfl, rfl, s5u.seq qb, atI_nat (j := 4) rfl, sz7, fun l3 hl3 => ⟨sz2, fun l4 hl4 => ?_⟩⟩
    have n4 := same_new hl3 (.lst (talL (talOf [.op, .take])))
    have n5 := same_new hl4 (.lst [c2, .ref l3])
    have s5e := s5u.trans (n4.trans n5)
    refine ⟨l4, [c2, .ref l3], [mb.tl, talOf [.op, .take]], rfl, SqL.new upd_same, (by show 2 ≤ 1000000; decide), .cons (cnt_up (hid_sub.trans s5e) hbc) (.cons ⟨l3, rfl, n5 _ _ upd_same⟩ .nil), fun l6 H6 s6 hl6 hl6' => ?_⟩
    refine asg_norm [some (.ref S), some (sv), some (.int (d : Nat)), some (.int (s : Nat)), some (.str x), some (.int c), some (.ref a1), some (wv), some (.ref b1), some (.ref Dk), some (.ref Du), some (.ref l6), none, none, none, none, none, none] (by rfl) ?_
    have s56 := s5e.trans s6
    have g6 := g5.up s56
    have hB6 := g6.dom
    have hcnt := CntAt_got (hB5.up s5e) hl6 hl6'
    have hkl : hid [S, C] H6 Dk = some (.lst (ks.filterMap id)) := hid_up (nU.trans (n4.trans (n5.trans s6))) _ _ hkl0
    have hkd := dps_up (hid_up s56) k2
    have hul : UsAt K (hid [S, C] H6) (.ref Du) ((butOf mb.us x).map toUse) := ⟨Du, _, rfl, hid_up (n4.trans (n5.trans s6)) _ _ hul0, dps_up (hid_up s56) b2'⟩
    have qb6 := s56.seq qb
    have hbt6 := dp_up (hid_up s56) hbt
    have hbp6 := dp_up (hid_up s56) hbp
    have x06 := x05.trans (same_x s56)
    have klen : (ks.filterMap id).length = (kindsOf mb.us x).length := by rw [dps_len k2, List.length_map]
    have kle := kinds_len mb.us x
    refine ⟨_, rfl, _, _, rfl, rfl, _, rfl, ?_⟩
    refine ifF (decide_eq_false (by omega)) ?_
    have ha6 := hid_up s56 _ _ ha1
    have qa := SqL.new (K := K) (hid_at ha6)
    have hat := dp_up (hid_up s56) hat
    have hap := dp_up (hid_up s56) hap
    have hau := us_up (hid_up s56) hau
    have hac := cnt_up (hid_up s56) hac
    obtain ⟨m, em⟩ : ∃ m, m = (kindsOf mb.us x).length := ⟨_, rfl⟩
    have hml : (((ks.filterMap id).length : Nat) : Int) = ((m : Nat) : Int) := by rw [klen, em]
    have hm183 : m ≤ 183 := by omega
    refine ⟨_, rfl, a1, _, _, _, rfl, rfl, qa, atI_nat (j := 1) rfl, sz1, fun p4 hp4 => ?_⟩
    have n14 := same_new hp4 (.tup [pa])
    refine ⟨_, rfl, Dk, _, rfl, .inl (SqL.new (hid_at (hid_up n14 _ _ hkl))), ?_⟩
    rw [hml]
    refine rep_use (hB6.up n14) (hid_new hB6 hp4) (dp_up (hid_up n14) hap) (by omega) fun p5 H7 s15 hdp5 => ?_
    refine asg_norm [some (.ref S), some (sv), some (.int (d : Nat)), some (.int (s : Nat)), some (.str x), some (.int c), some (.ref a1), some (wv), some (.ref b1), some (.ref Dk), some (.ref Du), some (.ref l6), some (.ref p5), none, none, none, none, none] (by rfl) ?_
    have s67 := n14.trans s15
    refine ⟨_, rfl, _, rfl, a1, _, _, _, rfl, rfl, s67.seq qa, atI_nat (j := 3) rfl, _, rfl, Dk, _, rfl, .inl (SqL.new (hid_at (hid_up s67 _ _ hkl))), ?_⟩
    rw [hml]
    have hmm : m * ma.us.length ≤ 183 * 183 := Nat.mul_le_mul hm183 la
    refine us_rep (n := m) (hB6.up s67) (us_up (hid_up s67) hau) (by rw [List.length_map]; omega) (by omega) fun l7 H8 s8 hu8 => ?_
    have s68 := s67.trans s8
    have hbl := but_len mb.us x
    refine us_cat (hB6.up s68) (us_up (hid_up s68) hul) hu8 (by rw [flat_len, List.length_map, List.length_map]; omega) fun l8 H9 s9 hu9 => ?_
    refine asg_norm [some (.ref S), some (sv), some (.int (d : Nat)), some (.int (s : Nat)), some (.str x), some (.int c), some (.ref a1), some (wv), some (.ref b1), some (.ref Dk), some (.ref l8), some (.ref l6), some (.ref p5), none, none, none, none, none] (by rfl) ?_
    have s69 := s68.trans s9
    refine ⟨_, rfl, sz1, fun l9 hl9 => ?_⟩
    have n10 := same_new hl9 (.lst [.ref l6])
    have s610 := s69.trans n10
    refine ⟨_, rfl, a1, _, _, _, rfl, rfl, s610.seq qa, atI_nat (j := 4) rfl, sz1, fun l10 hl10 => ?_⟩
    have n11 := same_new hl10 (.lst [c1])
    have s611 := s610.trans n11
    refine ⟨_, rfl, Dk, _, rfl, .inl (SqL.new (hid_at (hid_up s611 _ _ hkl))), ?_⟩
    rw [hml]
    refine ⟨l10, _, _, rfl, rfl, upd_same, by omega, by omega, (by rw [Int.toNat_natCast]; show 1 * m ≤ 2 ^ 24; omega), fun l11 hl11 => ?_⟩
    rw [Int.toNat_natCast, flat1]
    have n12 := same_new hl11 (.lst (List.replicate m c1))
    refine ⟨l9, l11, _, _, rfl, rfl, (n11.trans n12) _ _ upd_same, upd_same, (by rw [List.length_replicate]; show 1 + m ≤ 2 ^ 24; omega), fun l12 hl12 => ?_⟩
    have n13 := same_new hl12 (.lst ([.ref l6] ++ List.replicate m c1))
    have s1013 := n11.trans (n12.trans n13)
    have s613 := s610.trans s1013
    refine ⟨l12, _, [talSum [mb.tl, talOf [.op, .take]]] ++ List.replicate m ma.tl, rfl, SqL.new upd_same, (by rw [List.length_append, List.length_replicate]; show 1 + m ≤ 1000000; omega), cnts_app (.cons (cnt_up (hid_sub.trans s613) hcnt) .nil) (cnts_rep (cnt_up (hid_sub.trans s613) hac) _), fun l13 H14 s14 hl13 hl13' => ?_⟩
    refine asg_norm [some (.ref S), some (sv), some (.int (d : Nat)), some (.int (s : Nat)), some (.str x), some (.int c), some (.ref a1), some (wv), some (.ref b1), some (.ref Dk), some (.ref l8), some (.ref l13), some (.ref p5), none, none, none, none, none] (by rfl) ?_
    have s614 := s613.trans s14
    have hcnt2 := CntAt_got (hB6.up s613) hl13 hl13'
    refine ⟨_, rfl, _, rfl, b1, _, _, _, rfl, rfl, s614.seq qb6, atI_nat (j := 0) rfl, sz3, fun p6 hp6 => ?_⟩
    have n15 := same_new hp6 (.tup [.str "maker", .str x, t2])
    have s615 := s614.trans n15
    refine ⟨_, rfl, a1, _, _, _, rfl, rfl, s615.seq qa, atI_nat (j := 0) rfl, sz3, fun p7 hp7 => ?_⟩
    have n16 := same_new hp7 (.tup [.str "give", .ref p6, t1])
    have s616 := s615.trans n16
    have dtold := dp_newT (K := K) (hid_new (hB6.up s615) hp7) (.cons (.str "give") (.cons (dp_up (hid_up n16) (dp_newT (hid_new (hB6.up s614) hp6) (.cons (.str "maker") (.cons (.str x) (.cons (dp_up (hid_up s615) hbt6) .nil))))) (.cons (dp_up (hid_up s616) hat) .nil)))
    have hcnt3 := cnt_up (hid_up (n15.trans n16)) hcnt2
    have hu10 := us_up (hid_up (n10.trans (s1013.trans (s14.trans (n15.trans n16))))) hu9
    have hdp10 := dp_up (hid_up (s8.trans (s9.trans (n10.trans (s1013.trans (s14.trans (n15.trans n16))))))) hdp5
    generalize (upd (upd H14 p6 (.tup [.str "maker", .str x, t2])) p7 (.tup [.str "give", .ref p6, t1])) = H16 at s616 dtold hcnt3 hu10 hdp10 ⊢
    refine asg_norm [some (.ref S), some (sv), some (.int (d : Nat)), some (.int (s : Nat)), some (.str x), some (.int c), some (.ref a1), some (wv), some (.ref b1), some (.ref Dk), some (.ref l8), some (.ref l13), some (.ref p5), some (.ref p7), none, none, none, none] (by rfl) ?_
    clear n15 n16 s615 s614 n10 n11 n12 n13 s1013 s613 s611 s610
    refine ⟨_, rfl, _, rfl, b1, _, _, _, rfl, rfl, s616.seq qb6, atI_nat (j := 1) rfl, sz2, fun p8 hp8 => ?_⟩
    have n17 := same_new hp8 (.tup [.str "takes", pb])
    refine ⟨_, rfl, sz3, fun p9 hp9 => ?_⟩
    have n18 := same_new hp9 (.tup [.str "gives", .ref p8, .ref p5])
    have s618 := s616.trans (n17.trans n18)
    have dpap := dp_newT (K := K) (hid_new (hB6.up (s616.trans n17)) hp9) (.cons (.str "gives") (.cons (dp_up (hid_up n18) (dp_newT (hid_new (hB6.up s616) hp8) (.cons (.str "takes") (.cons (dp_up (hid_up (s616.trans n17)) hbp6) .nil)))) (.cons (dp_up (hid_up (n17.trans n18)) hdp10) .nil)))
    have dtold2 := dp_up (hid_up (n17.trans n18)) dtold
    have hcnt4 := cnt_up (hid_up (n17.trans n18)) hcnt3
    have hu11 := us_up (hid_up (n17.trans n18)) hu10
    generalize (upd (upd H16 p8 (.tup [.str "takes", pb])) p9 (.tup [.str "gives", .ref p8, .ref p5])) = H18 at s618 dpap dtold2 hcnt4 hu11 ⊢
    clear n17 n18 dtold hcnt3 hu10 hdp10
    refine ⟨_, rfl, b1, _, _, _, rfl, rfl, s618.seq qb6, atI_nat (j := 2) rfl, _, rfl, _, rfl, sz5, fun p10 hp10 => ?_⟩
    have n19 := same_new hp10 (.lst [.ref p7, .ref p9, .int mb.i, .ref l8, .ref l13])
    have s619 := s618.trans n19
    have et : talSum ([talSum [mb.tl, talOf [.op, .take]]] ++ List.replicate m ma.tl) = talSum ([mb.tl] ++ tlAll (List.replicate m ma.row) ++ [talOf [.op, .take]]) := funext fun z => by
      rw [tlAll_rep, tal_app, tal_one, tal_app, tal_app, tal_one, tal_one]
      show talSum ([mb.tl] ++ [talOf [.op, .take]]) z + talSum (List.replicate m ma.tl) z = mb.tl z + talSum (List.replicate m ma.tl) z + _
      rw [tal_app, tal_one, tal_one]
      omega
    rw [et] at hcnt4
    rw [ewo] at okb
    refine q (.ref p10) ⟨.gv (.mk x mb.t) ma.t, tp [.str "gives", tp [.str "takes", mb.p], tp (List.replicate m ma.p)], mb.i, butOf mb.us x ++ (List.replicate m ma.us).flatten, talSum ([mb.tl] ++ tlAll (List.replicate m ma.row) ++ [talOf [.op, .take]])⟩ _ (x06.trans (same_x s619)) (g6.up s619)
      ⟨p10, .ref p7, .ref p9, .ref l8, .ref l13, rfl, hid_new (hB6.up s618) hp10, dp_up (hid_up n19) dtold2, dp_up (hid_up n19) dpap, ?_, cnt_up (hid_up n19) hcnt4⟩ (tied_given hx (by omega) (by omega) oka okb m em)
    show UsAt K _ _ ((butOf mb.us x ++ (List.replicate m ma.us).flatten).map toUse)
    rw [List.map_append, flat_map]
    exact us_up (hid_up n19) hu11
end
end Ut
set_option Elab.async false
set_option linter.all false
set_option maxRecDepth 100000
set_option maxHeartbeats 0
namespace Ut
open PySem PySem.Spec PyProof.Rows L2
section
variable {P : Program} {w : World} {K : PySem.W.Frag} {mg : Str → Option Value} {base : Heap}
/-! ### all together -/
theorem all_short (T : Tx w K mg) : Cal P w K mg base 15 "_law_short" (spShort K) := by
  have draw : Cal P w K mg base 1 "_law_draw" spDraw := ok_draw T
  have number := ok_number T draw
  have word := ok_word T draw
  have all : Cal P w K mg base 1 "_law_all" (spAll K) := ok_all T
  have leaf := ok_leaf T draw number
  have loop := ok_loop T draw all number
  have step : ∀ n, n ≤ 5 → Cal P w K mg base (2 * n + 4) "_law_made" (spMade K n) → Cal P w K mg base (2 * n + 6) "_law_made" (spMade K (n + 1)) := fun n hn made =>
    ok_madeS T n draw leaf loop (ok_two T n draw all made) (ok_used T n draw all leaf (ok_shape_kind T) made) (ok_tied T n hn draw all number word (ok_shape T) (ok_shape_paper T) made)
  have m0 : Cal P w K mg base 4 "_law_made" (spMade K 0) := ok_made0 T
  exact ok_short T (step 4 (by decide) (step 3 (by decide) (step 2 (by decide) (step 1 (by decide) (step 0 (by decide) m0))))) loop
theorem all_row (T : Tx w K mg) : Cal P w K mg base 3 "_law_row" (spShort K) := by
  have draw : Cal P w K mg base 1 "_law_draw" spDraw := ok_draw T
  exact ok_row T draw (ok_number T draw) (ok_word T draw) (ok_all T)
theorem all_great (T : Tx w K mg) : Cal P w K mg base 3 "_law_great_looks" (spShort K) := by
  have draw : Cal P w K mg base 1 "_law_draw" spDraw := ok_draw T
  exact ok_great T draw (ok_word T draw)
theorem all_machine (T : Tx w K mg) (hclosed : Cal P w K mg base 62 "must_be_closed" (spClosed K 60)) : Cal P w K mg base 71 "machine_run" (spMachine K 60) := by
  have st : Mak P w K mg base 1 "State" (He.ga K "State") (spInit K "State" okWState) := ok_State_init T
  refine ok_machine_run T 60 (ok_first_state T 60 hclosed st) (fun N => ok_next_sort T 60 N) fun N hN => ?_
  have late : Mak P w K mg base 67 "Late" (He.ga K "Late") (spLate K 60 N) := ok_Late_init T 60 N (by decide)
  have gw : Mak P w K mg base 1 "GivenWait" (He.ga K "GivenWait") (spInit K "GivenWait" okWGivenWait) := ok_GivenWait_init T
  have ow : Mak P w K mg base 1 "OtherWait" (He.ga K "OtherWait") (spInit K "OtherWait" okWOtherWait) := ok_OtherWait_init T
  have cw : Mak P w K mg base 1 "ChoiceWait" (He.ga K "ChoiceWait") (spInit K "ChoiceWait" okWChoiceWait) := ok_ChoiceWait_init T
  have on : Cal P w K mg base 69 "went_on" (spDeed K 60 N isOn) := (ok_went_on T 60 N (by decide) hN st).mono (by decide)
  refine ok_step T 60 N (ok_next_sort T 60 N) fun s => ?_
  cases s with
  | op => exact ok_opened T 60 N hN late gw ow cw st
  | look => exact (ok_looked T 60 N st).mono (by decide)
  | turn => exact ok_turned T 60 N hN late st
  | take => exact on
  | next => exact on
  | sum => exact on
  | choose => exact on
theorem all_right (T : Tx w K mg) : Cal P w K mg base 186 "_law_right" (spRight K) := by
  have nn : Cal P w K mg base 2 "need_name" spNN := ok_need_name T (ok_is_name T)
  have nt : Cal P w K mg base 1 "need_terms" (spNT K) := ok_need_terms T
  have hclosed : Cal P w K mg base 62 "must_be_closed" (spClosed K 60) := ok_must_be_closed T 60 fun i => ok_free T 60 i
  have term := ok_term_of (P := P) (base := base) T (ok_Name_init T nn) (ok_Number_init T (ok_is_whole T)) (ok_Maker_init T nn nt) (ok_Give_init T nt) (ok_Sum_init T nt) (ok_Choice_init T nt) (ok_Again_init T nn nt) 60
  have jd : Cal P w K mg base 184 "judged" (spJudged K 60) := ok_judged T 60
  have lets : CalK P w K mg base 185 "lets_by" "term" "paper" (spLets K 60 60) := ok_lets_by T 60 60 hclosed jd
  have alike : Cal P w K mg base 3 "_law_alike" (spAlike K 2) := ok_alike T 2
  have how : Met P w K mg base 3 (He.ga K "State") "how" (spHow K 60 100000) := ok_how T 60 100000 (ok_next_sort T 60 100000)
  exact ok_right T term lets jd alike (ok_tally_right T alike) (all_machine T hclosed) how (ok_came T 60 100000 how)
theorem sc_law : FnScope ["_law_script", "_law_state_here"] ["_law_script"] (defScope S_law) := ⟨rfl, rfl, rfl, by decide +kernel, rfl, by decide +kernel, by decide +kernel⟩
def spLaw (K : PySem.W.Frag) : Sp := fun vs H Q _ => ∃ (a : Addr) (ns : List Int), vs = [.ref a] ∧ SqL K H a (ns.map V.int) ∧ ns.length ≤ 63 ∧ ∀ H', Q (.bl true) H'
theorem body_law (T : Tx w K mg) : BodyOk P w K mg base ["_law_script", "_law_state_here"] "law" S_law (He.fAd K ("law", none)) 186 (spLaw K) := by
  intro cdv A outer s0 H vs Q E hr h
  have c_law_state : Cal P w K mg base 1 "_law_state" (spState K) := ok_state T
  have c_law_short : Cal P w K mg base 15 "_law_short" (spShort K) := all_short T
  have c_law_row : Cal P w K mg base 3 "_law_row" (spShort K) := all_row T
  have c_law_great_looks : Cal P w K mg base 3 "_law_great_looks" (spShort K) := all_great T
  have c_law_right : Cal P w K mg base 186 "_law_right" (spRight K) := all_right T
  obtain ⟨a, ns, rfl, ha, hl, q⟩ := h
  refine ⟨_, (pss_cons (ps_set (i := 1) sc_law.nd rfl (Or.inl rfl) (pe_c c_law_state hr (by omega) (by rfl) (pa_cons (pv 0) pa_nil)))
      (pss_one (ps_ret (pe_and (pe_c c_law_right hr (by omega) (by rfl) (pa_cons (pe_c c_law_short hr (by omega) (by rfl) (pa_cons (pv 1) pa_nil)) pa_nil)) (pe_and (pe_c c_law_right hr (by omega) (by rfl) (pa_cons (pe_c c_law_row hr (by omega) (by rfl) (pa_cons (pv 1) pa_nil)) pa_nil)) (pe_one (pe_c c_law_right hr (by omega) (by rfl) (pa_cons (pe_c c_law_great_looks hr (by omega) (by rfl) (pa_cons (pv 1) pa_nil)) pa_nil)))))))), ?_⟩
  refine ⟨_, rfl, a, ns, rfl, ha, hl, fun S C H1 s1 g1 => ?_⟩
  refine ⟨_, rfl, S, C, rfl, g1, fun v1 m1 H2 x2 g2 d1 o1 => ⟨v1, m1, rfl, made_up hid_sub d1, o1, fun H3 s3 => ⟨_, rfl, iteT ?_⟩⟩⟩
  refine ⟨_, rfl, S, C, rfl, g2.up s3, fun v2 m2 H4 x4 g4 d2 o2 => ⟨v2, m2, rfl, made_up hid_sub d2, o2, fun H5 s5 => ⟨_, rfl, iteT ?_⟩⟩⟩
  exact ⟨_, rfl, S, C, rfl, g4.up s5, fun v3 m3 H6 x6 g6 d3 o3 => ⟨v3, m3, rfl, made_up hid_sub d3, o3, fun H7 s7 => q H7⟩⟩
end
theorem len_law {K : PySem.W.Frag} {vs : List V} {H : Hp} {Q : VK} {E : XK} (h : spLaw K vs H Q E) : vs.length = 1 := by
  obtain ⟨a, ns, rfl, _⟩ := h
  rfl
theorem facts {P : Program} {w : World} {K : PySem.W.Frag} {h : Heap} {mg : Str → Option Value} {f : Addr} (X : K.In h) (G : h.Ns mainGlobals mg) (hfa : mg ("law" : Str) = some (.ref f)) (c : Says w K) :
    ∃ fd : FuncData, (∀ (s : Shared) (v : Value), BindsTo s fd ⟨[v], []⟩ [("_law_script", v)]) ∧ ∀ base : Heap, K.In base → base.Ns mainGlobals mg → FnOk P w K mg base CX0 187 f fd ["_law_script"] (spLaw K) := by
  have T : Tx w K mg := ⟨c, h, X, G⟩
  obtain ⟨fd, F⟩ := T.fn 54 (d := dFn "law" S_law) rfl
  have e := hfa.symm.trans (T.glo 54 (x := "law") rfl)
  cases e
  have b := FunD.bindsA (ps := ["_law_script"]) F fun _ _ _ _ _ _ us hl => match us, hl with | [_], _ => rfl
  refine ⟨fd, fun s v => b s [v] rfl, fun base _ _ => ?_⟩
  refine F.ok sc_law (fun vs H Q E h => len_law h) fun cdv A outer s H vs Q E hr hsp => ?_
  obtain ⟨t, h1, q⟩ := body_law (P := P) (base := base) T cdv A outer s H vs Q E hr hsp
  exact ⟨t, h1.nox, q⟩
end Ut
set_option Elab.async false
set_option linter.all false
set_option maxRecDepth 100000
set_option maxHeartbeats 0
open PySem PySem.W PySem.Calls PyProof.Rows
theorem PySem.Challenge.cw_usetally_k33_whole_paper_tells_the_run_holds : PySem.Challenge.rw_usetally_k33_whole_paper_tells_the_run.Holds := by
  w_on; o_law
  refine HandSHeadRun.head_any (r := OpenLaw.row PySem.Challenge.rw_usetally_k33_whole_paper_tells_the_run) (q := Ut.qv) (H := Ut.hk) (ob := Ut.ob) (M := 9000) (loose := Ut.names) (d := HandSHeadRun.topDef (OpenLaw.row PySem.Challenge.rw_usetally_k33_whole_paper_tells_the_run).prog 93) (kwd := []) Ut.ob_eq
    (by kernel_rfl) (fun s => by kernel_rfl) Ut.run (by kernel_rfl) (by kernel_rfl) (by kernel_rfl) (by rfl) (by first | assumption | decide +kernel) (by decide +kernel) ⟨rfl, rfl, rfl, rfl, rfl, by decide +kernel⟩ ?hw ?hc
  case hw => w_witness2
  case hc =>
    refine L2.walk_ofE (l := PySem.Challenge.rw_usetally_k33_whole_paper_tells_the_run) (n := 63) (k := 187) (x := "_law_script") (CX := L2.CX0) rfl (by decide) (by kernel_rfl) ⟨rfl, by decide, by decide⟩ ?F (fun _ _ _ _ z => z)
    intro w mg fa h Y G hmg0
    obtain ⟨K, KX, c⟩ := Y
    have hmg : mg ("law" : PySem.Str) = some (.ref fa) := by
      have e : (HandSHeadRun.topDef (OpenLaw.row PySem.Challenge.rw_usetally_k33_whole_paper_tells_the_run).prog 93).name = ("law" : PySem.Str) := by kernel_rfl
      rw [← e]
      exact hmg0
    obtain ⟨fd, hb, hF⟩ := Ut.facts (P := (PySem.Challenge.rw_usetally_k33_whole_paper_tells_the_run).prog) (w := w) KX G hmg c
    exact ⟨K, fd, Ut.spLaw K, KX, hb, fun H a ns hl _ hS => ⟨a, ns, rfl, hS, hl, fun _ => rfl⟩, hF⟩

import PyProof.Rows.All
import Wide.All
import OpenK.AllK
import Wide.FinOn
import HandS.ForMost
import HandS.Comp
import HandS.Property
import HandS.Words
import PySem.Challenge.RW_pairsayings_k64_whole_known_followings
import KE.KStateDown
import HandS.Base
import HandS.Call
import HandS.Ends
import HandS.More
import HandS.Defaults
import HandS.Head0
import HandS.Head1
import HandS.Head2
import HandS.HeadEnd
import HandS.HeadHook1
import HandS.HeadHook2
import HandS.HeadHook3
import PySem.Table
import PyProof.TableCode
import HandS.Walk
import KE.KDictCopyH
import HandS.TupAny
import HandS.Strs
import HandS.Conv
import HandS.IsInst
import HandS.SortInts
import HandS.SetFor
import HandS.SetKeys
import HandS.ListItems
import HandS.ReCall
import HandS.DictSubView
import KE.KDictWalk
import KE.KDictList
import HandS.DictComp
import KE.GoesMore
import KE.KTupTabMore
import PyProof.DictFindH
import HandS.Style
import HandS.HeadHook4
import HandS.WordsExc
section
set_option Elab.async false
set_option linter.all false
set_option maxRecDepth 100000
set_option maxHeartbeats 0

/-! Pt (printed by gen2.py): the program by places. -/
namespace Sd
open PySem PySem.Spec PyProof.Rows L2
def top (i : Nat) : Stmt := PySem.Challenge.pw_pairsayings_k64_whole_known_followings.main.body.getD i (.Pass ⟨0, 0, 0, 0⟩)
def npT (i : Nat) : Option Nat := [none, some 3, some 1, some 2, some 3, some 2, some 1, some 2, some 2, some 2, some 1, some 1, some 1, some 2, some 2, some 4, some 2, some 2, some 4, some 4, some 4, some 4, some 2, some 2, some 2, some 2, some 2, some 3, some 3, some 5, some 3, some 4, some 2, some 2, some 1, some 2, some 5, some 4, some 5, some 1, some 3, some 3, some 5, some 1, some 1, some 4, some 2, some 1, some 1, some 6, some 3, some 6, some 4, some 1, some 4, some 1, some 5, some 2, some 5, some 3, some 2, some 1, some 5, some 3, some 5, some 3, some 3, some 5, some 4, some 3, some 6, some 4, some 4, some 3, some 2, some 6, some 3, some 1, some 2, some 1, some 2, some 2, some 4, some 1, some 3, some 1, some 2, some 1, some 3, some 3, some 1, some 1, some 4, some 1, some 3, some 3, some 2, some 5, some 4, some 5, some 2, some 2, some 3, some 3, some 3, some 3, some 2, some 2, some 2, some 1, some 1, some 3, some 2, some 4].getD i none
def st_1 : Stmt := top 13
def nm_1 : List Str := ["value", "least", "most"]
def st_2 : Stmt := top 14
def nm_2 : List Str := ["value"]
def st_3 : Stmt := top 16
def nm_3 : List Str := ["value", "size"]
def st_4 : Stmt := top 17
def nm_4 : List Str := ["value", "word", "size"]
def st_5 : Stmt := top 18
def nm_5 : List Str := ["value", "table"]
def st_6 : Stmt := top 25
def nm_6 : List Str := ["value"]
def st_7 : Stmt := top 26
def nm_7 : List Str := ["tongue", "value"]
def st_8 : Stmt := top 27
def nm_8 : List Str := ["tongue", "value"]
def st_9 : Stmt := top 28
def nm_9 : List Str := ["tongue", "value", "waiting", "seen", "part", "depth", "parts", "inner"]
def st_10 : Stmt := top 29
def nm_10 : List Str := ["saying"]
def st_11 : Stmt := top 30
def nm_11 : List Str := ["saying"]
def st_12 : Stmt := top 31
def nm_12 : List Str := ["saying", "found", "name", "inner"]
def st_13 : Stmt := top 32
def nm_13 : List Str := ["tongue", "saying"]
def st_14 : Stmt := top 33
def nm_14 : List Str := ["tongue", "saying"]
def st_15 : Stmt := inClass (top 35) 0
def nm_15 : List Str := ["self", "saying", "parts", "number", "item"]
def st_16 : Stmt := top 36
def nm_16 : List Str := ["saying", "bound", "parts", "number", "node", "inner"]
def st_17 : Stmt := inClass (top 38) 0
def nm_17 : List Str := ["self", "world"]
def st_18 : Stmt := inClass (top 38) 1
def nm_18 : List Str := ["self", "node", "x", "y", "word"]
def st_19 : Stmt := inClass (top 38) 2
def nm_19 : List Str := ["self", "node", "x", "y", "things", "name"]
def st_20 : Stmt := inClass (top 38) 3
def nm_20 : List Str := ["self", "node", "x", "y", "spot", "key"]
def st_21 : Stmt := inClass (top 38) 4
def nm_21 : List Str := ["self", "node", "x", "y", "wished", "thing", "first", "second"]
def st_22 : Stmt := top 41
def nm_22 : List Str := ["value", "things"]
def st_23 : Stmt := top 42
def nm_23 : List Str := ["value", "things"]
def st_24 : Stmt := top 43
def nm_24 : List Str := ["value", "names", "name"]
def st_25 : Stmt := top 44
def nm_25 : List Str := ["value", "things", "seen", "thing"]
def st_26 : Stmt := top 45
def nm_26 : List Str := ["value", "things", "seen", "pair"]
def st_27 : Stmt := top 47
def nm_27 : List Str := ["tongue", "things", "marks", "name"]
def st_28 : Stmt := top 48
def nm_28 : List Str := ["tongue", "things", "ties", "name"]
def st_29 : Stmt := inClass (top 49) 0
def nm_29 : List Str := ["self", "tongue", "things", "marks", "ties", "name", "thing", "pair"]
def st_30 : Stmt := inClass (top 49) 3
def nm_30 : List Str := ["self", "mark", "thing"]
def st_31 : Stmt := inClass (top 49) 4
def nm_31 : List Str := ["self", "tie", "first", "second"]
def st_32 : Stmt := top 50
def nm_32 : List Str := ["world", "saying"]
def st_33 : Stmt := top 51
def nm_33 : List Str := ["world", "saying"]
def st_34 : Stmt := top 53
def nm_34 : List Str := ["tongue"]
def st_35 : Stmt := top 55
def nm_35 : List Str := ["sorts_left", "sorts", "found"]
def st_36 : Stmt := top 56
def nm_36 : List Str := ["chosen", "left", "done", "sorts", "found", "rest", "gone", "sort", "near", "seen", "other"]
def st_37 : Stmt := inClass (top 58) 0
def nm_37 : List Str := ["self", "flags", "needs", "sign"]
def st_38 : Stmt := inClass (top 58) 1
def nm_38 : List Str := ["self", "node", "flag", "asked", "sign", "flags"]
def st_39 : Stmt := top 59
def nm_39 : List Str := ["bound", "cases", "node", "common", "case", "flag"]
def st_40 : Stmt := top 60
def nm_40 : List Str := ["judge", "kind", "needs", "node"]
def st_41 : Stmt := inClass (top 62) 0
def nm_41 : List Str := ["self", "marks", "loops"]
def st_42 : Stmt := inClass (top 62) 1
def nm_42 : List Str := ["self", "number", "flag", "barred", "sign", "other"]
def st_43 : Stmt := top 63
def nm_43 : List Str := ["many", "rows", "turn", "row", "flag"]
def st_44 : Stmt := top 64
def nm_44 : List Str := ["tongue", "found", "marks", "loops"]
def st_45 : Stmt := top 65
def nm_45 : List Str := ["tongue", "judge", "kind", "inner", "node", "place", "name"]
def st_46 : Stmt := inClass (top 67) 0
def nm_46 : List Str := ["self", "forth"]
def st_47 : Stmt := top 68
def nm_47 : List Str := ["tongue", "found", "flags", "ways", "place", "name"]
def st_48 : Stmt := top 69
def nm_48 : List Str := ["ways", "found", "name", "first", "second"]
def st_49 : Stmt := top 70
def nm_49 : List Str := ["judge", "inner", "one", "other", "ways", "back", "node", "flag"]
def st_50 : Stmt := top 71
def nm_50 : List Str := ["tongue", "one", "ways", "place", "name"]
def st_51 : Stmt := top 72
def nm_51 : List Str := ["tongue", "judge", "inner", "one", "other", "way", "ways", "back"]
def st_52 : Stmt := top 74
def nm_52 : List Str := ["tongue", "judge", "inner", "needs", "kinds", "node", "common", "kind", "flag"]
def st_53 : Stmt := top 75
def nm_53 : List Str := ["many", "found", "bit", "turn"]
def st_54 : Stmt := inClass (top 76) 0
def nm_54 : List Str := ["self", "ways", "first", "second"]
def st_55 : Stmt := inClass (top 76) 1
def nm_55 : List Str := ["self"]
def st_56 : Stmt := inClass (top 77) 0
def nm_56 : List Str := ["self", "tongue", "judge", "inner", "needs", "kind"]
def st_57 : Stmt := inClass (top 77) 1
def nm_57 : List Str := ["self", "kind", "found", "node", "bit"]
def st_58 : Stmt := inClass (top 77) 2
def nm_58 : List Str := ["self", "one", "other", "ways", "back", "found", "node", "bit", "flag"]
def st_59 : Stmt := inClass (top 77) 3
def nm_59 : List Str := ["self", "first", "second", "key", "one", "other", "found", "way", "first_met"]
def st_60 : Stmt := top 78
def nm_60 : List Str := ["one", "other"]
def st_61 : Stmt := top 79
def nm_61 : List Str := ["options", "found", "option", "kept", "other"]
def st_62 : Stmt := inClass (top 81) 0
def nm_62 : List Str := ["self", "sorts", "kings", "commons", "chosen"]
def st_63 : Stmt := top 82
def nm_63 : List Str := ["sorts", "commons", "sort", "found", "other", "option"]
def st_64 : Stmt := top 83
def nm_64 : List Str := ["sorts", "kings", "sort", "wishes", "fixed", "found", "place", "king", "options", "later", "met", "chosen", "option"]
def st_65 : Stmt := top 84
def nm_65 : List Str := ["sorts", "commons", "sort", "wishes"]
def st_66 : Stmt := top 85
def nm_66 : List Str := ["sorts", "kings", "commons", "now", "later", "sort"]
def st_67 : Stmt := top 86
def nm_67 : List Str := ["sorts", "plan_kings", "commons", "place", "bit", "sort", "option", "chosen"]
def st_68 : Stmt := top 87
def nm_68 : List Str := ["sorts", "kings", "commons", "place", "found", "bit"]
def st_69 : Stmt := top 88
def nm_69 : List Str := ["sorts", "kings", "wishes", "pairs", "second", "first"]
def st_70 : Stmt := top 89
def nm_70 : List Str := ["sorts", "kings", "pairs", "at", "wishes", "chosen", "first", "second", "option", "left", "found", "wish"]
def st_71 : Stmt := top 90
def nm_71 : List Str := ["sorts", "kings", "commons", "wanted", "sorts_wanted", "sort"]
def st_72 : Stmt := top 91
def nm_72 : List Str := ["sorts", "kings", "commons", "wanted", "wishes", "place", "king", "known", "chosen"]
def st_73 : Stmt := top 92
def nm_73 : List Str := ["sorts", "first", "second"]
def st_74 : Stmt := top 93
def nm_74 : List Str := ["sorts", "lone", "found", "at", "known", "sort", "other"]
def st_75 : Stmt := inClass (top 94) 0
def nm_75 : List Str := ["self", "tongue", "judge", "inner", "case", "bound", "numbers", "node", "sort"]
def st_76 : Stmt := inClass (top 94) 1
def nm_76 : List Str := ["self", "judge", "node", "wish", "sort", "kind"]
def st_77 : Stmt := inClass (top 94) 2
def nm_77 : List Str := ["self", "kings", "free", "clique", "commons", "found", "sort", "king"]
def st_78 : Stmt := inClass (top 94) 3
def nm_78 : List Str := ["self", "plan", "sort", "commons", "found", "other"]
def st_79 : Stmt := inClass (top 94) 4
def nm_79 : List Str := ["self", "found", "kings", "plan"]
def st_80 : Stmt := inClass (top 97) 0
def nm_80 : List Str := ["self", "plan"]
def st_81 : Stmt := inClass (top 97) 1
def nm_81 : List Str := ["self", "sort"]
def st_82 : Stmt := inClass (top 97) 2
def nm_82 : List Str := ["self", "one", "other", "option"]
def st_83 : Stmt := inClass (top 97) 3
def nm_83 : List Str := ["self", "king", "first", "second"]
def st_84 : Stmt := inClass (top 97) 4
def nm_84 : List Str := ["self", "sort", "options", "thing", "king", "option"]
def st_85 : Stmt := inClass (top 97) 5
def nm_85 : List Str := ["self", "found", "place", "bit", "sort", "options"]
def st_86 : Stmt := inClass (top 97) 6
def nm_86 : List Str := ["self", "place", "left", "first", "second", "option"]
def st_87 : Stmt := inClass (top 97) 7
def nm_87 : List Str := ["self", "many", "group", "sort", "wishes", "options", "turn"]
def st_88 : Stmt := inClass (top 97) 8
def nm_88 : List Str := ["self", "thing", "group", "sort", "place", "bit", "found"]
def st_89 : Stmt := inClass (top 97) 9
def nm_89 : List Str := ["self", "sort", "bit", "other", "option"]
def st_90 : Stmt := inClass (top 97) 10
def nm_90 : List Str := ["self", "courts", "thing", "group", "sort"]
def st_91 : Stmt := inClass (top 97) 11
def nm_91 : List Str := ["self", "tongue", "marks", "ties", "thing", "sort", "kind", "place", "name", "other"]
def st_92 : Stmt := inClass (top 97) 12
def nm_92 : List Str := ["self", "ties", "first", "second", "ways", "name", "one", "other"]
def st_93 : Stmt := top 98
def nm_93 : List Str := ["plan", "builder"]
def st_94 : Stmt := inClass (top 100) 0
def nm_94 : List Str := ["self", "tongue", "cases"]
def st_95 : Stmt := inClass (top 100) 1
def nm_95 : List Str := ["self", "node", "kind"]
def st_96 : Stmt := inClass (top 100) 2
def nm_96 : List Str := ["self", "node"]
def st_97 : Stmt := inClass (top 100) 3
def nm_97 : List Str := ["self", "node", "first", "second", "ways", "word"]
def st_98 : Stmt := inClass (top 100) 4
def nm_98 : List Str := ["self", "node", "first", "second", "kind"]
def st_99 : Stmt := inClass (top 100) 5
def nm_99 : List Str := ["self", "node", "first", "second", "ways", "kind", "one", "other"]
def st_100 : Stmt := top 102
def nm_100 : List Str := ["tongue", "saying", "bound", "root", "inner", "found", "case", "judge", "node"]
def st_101 : Stmt := top 103
def nm_101 : List Str := ["tongue", "saying", "cases", "search", "plan"]
def st_102 : Stmt := top 106
def nm_102 : List Str := ["tongue", "given", "saying", "whole", "one"]
def st_103 : Stmt := top 107
def nm_103 : List Str := ["tongue", "one", "other", "world"]
def st_104 : Stmt := top 108
def nm_104 : List Str := ["tongue", "given", "saying", "one"]
def st_105 : Stmt := top 109
def nm_105 : List Str := ["tongue", "given", "saying"]
def st_106 : Stmt := top 121
def nm_106 : List Str := ["_law_mark", "_law_tie", "_law_to", "_law_back", "_law_red", "_law_each_some", "_law_some_each", "_law_each_each", "_law_some_some", "_law_both", "_law_turned", "_law_loops", "_law_rows"]
def st_107 : Stmt := top 122
def nm_107 : List Str := ["_law_world", "_law_saying"]
def st_108 : Stmt := top 46
def nm_108 : List Str := ["pairs", "things", "firsts", "pair"]
def st_109 : Stmt := top 12
def nm_109 : List Str := ["value"]
def st_110 : Stmt := top 15
def nm_110 : List Str := ["value", "letter"]
def st_111 : Stmt := top 114
def nm_111 : List Str := ["value", "most", "taken", "seen", "name"]
def st_112 : Stmt := top 115
def nm_112 : List Str := ["value", "ties", "name"]
def st_113 : Stmt := inClass (top 116) 0
def nm_113 : List Str := ["self", "marks", "ties", "functions"]
end Sd
end

section
set_option Elab.async false
set_option linter.all false
set_option maxRecDepth 100000
set_option maxHeartbeats 0
/-! Hd (printed by gen3.py): the head: what is looked at, the run. -/
namespace Sd
open PySem PySem.Spec PyProof.Rows L2
def st_114 : Stmt := top 118
def st_115 : Stmt := top 119
def st_116 : Stmt := top 120
def st_117 : Stmt := top 123
def st_marks : Stmt := inClass (top 116) 1
def st_ties : Stmt := inClass (top 116) 2
def pl (i : Nat) : Str × Option Str := ([(("" : Str), (none : Option Str)), (("is_within" : Str), (none : Option Str)), (("is_sequence" : Str), (none : Option Str)), (("is_tuple" : Str), (none : Option Str)), (("is_headed" : Str), (none : Option Str)), (("is_key" : Str), (none : Option Str)), (("is_name" : Str), (none : Option Str)), (("is_test" : Str), (none : Option Str)), (("parts_of" : Str), (none : Option Str)), (("is_saying" : Str), (none : Option Str)), (("sayings_in" : Str), (none : Option Str)), (("own_names" : Str), (none : Option Str)), (("free_names" : Str), (none : Option Str)), (("check_saying" : Str), (none : Option Str)), (("check_closed" : Str), (none : Option Str)), (("Node" : Str), some ("__init__" : Str)), (("node_of" : Str), (none : Option Str)), (("Reading" : Str), some ("__init__" : Str)), (("Reading" : Str), some ("flag" : Str)), (("Reading" : Str), some ("test" : Str)), (("Reading" : Str), some ("bound_flag" : Str)), (("Reading" : Str), some ("searched" : Str)), (("is_thing" : Str), (none : Option Str)), (("is_pair" : Str), (none : Option Str)), (("is_dict_of" : Str), (none : Option Str)), (("are_things" : Str), (none : Option Str)), (("are_pairs" : Str), (none : Option Str)), (("check_marks" : Str), (none : Option Str)), (("check_ties" : Str), (none : Option Str)), (("World" : Str), some ("__init__" : Str)), (("World" : Str), some ("has" : Str)), (("World" : Str), some ("leads" : Str)), (("is_held" : Str), (none : Option Str)), (("holds" : Str), (none : Option Str)), (("check_plain" : Str), (none : Option Str)), (("cliques" : Str), (none : Option Str)), (("grow" : Str), (none : Option Str)), (("Case" : Str), some ("__init__" : Str)), (("Case" : Str), some ("more" : Str)), (("plain_cases" : Str), (none : Option Str)), (("meets" : Str), (none : Option Str)), (("Kind" : Str), some ("__init__" : Str)), (("Kind" : Str), some ("with_part" : Str)), (("rows_of_flags" : Str), (none : Option Str)), (("plain_kinds" : Str), (none : Option Str)), (("is_let" : Str), (none : Option Str)), (("Way" : Str), some ("__init__" : Str)), (("both_ways" : Str), (none : Option Str)), (("turned_ways" : Str), (none : Option Str)), (("meets_bars" : Str), (none : Option Str)), (("meets_shut" : Str), (none : Option Str)), (("are_let" : Str), (none : Option Str)), (("sort_list" : Str), (none : Option Str)), (("bit_list" : Str), (none : Option Str)), (("Option" : Str), some ("__init__" : Str)), (("Option" : Str), some ("turned" : Str)), (("Sorts" : Str), some ("__init__" : Str)), (("Sorts" : Str), some ("own_wishes" : Str)), (("Sorts" : Str), some ("met" : Str)), (("Sorts" : Str), some ("options" : Str)), (("is_less" : Str), (none : Option Str)), (("best_options" : Str), (none : Option Str)), (("Plan" : Str), some ("__init__" : Str)), (("common_wishes" : Str), (none : Option Str)), (("covers" : Str), (none : Option Str)), (("left_wishes" : Str), (none : Option Str)), (("lasting" : Str), (none : Option Str)), (("court_option" : Str), (none : Option Str)), (("court_wishes" : Str), (none : Option Str)), (("chosen_ways" : Str), (none : Option Str)), (("chosen_from" : Str), (none : Option Str)), (("has_all" : Str), (none : Option Str)), (("plan_with" : Str), (none : Option Str)), (("is_let_pair" : Str), (none : Option Str)), (("king_lots" : Str), (none : Option Str)), (("Search" : Str), some ("__init__" : Str)), (("Search" : Str), some ("sorts_with" : Str)), (("Search" : Str), some ("first_plan" : Str)), (("Search" : Str), some ("smaller" : Str)), (("Search" : Str), some ("lone_plans" : Str)), (("Builder" : Str), some ("__init__" : Str)), (("Builder" : Str), some ("put" : Str)), (("Builder" : Str), some ("link" : Str)), (("Builder" : Str), some ("put_kings" : Str)), (("Builder" : Str), some ("put_common" : Str)), (("Builder" : Str), some ("put_courts" : Str)), (("Builder" : Str), some ("king_left" : Str)), (("Builder" : Str), some ("put_groups" : Str)), (("Builder" : Str), some ("meet" : Str)), (("Builder" : Str), some ("helper" : Str)), (("Builder" : Str), some ("run" : Str)), (("Builder" : Str), some ("made_world" : Str)), (("Builder" : Str), some ("tell_ways" : Str)), (("built" : Str), (none : Option Str)), (("Judge" : Str), some ("__init__" : Str)), (("Judge" : Str), some ("alone" : Str)), (("Judge" : Str), some ("closed" : Str)), (("Judge" : Str), some ("flag" : Str)), (("Judge" : Str), some ("bound_flag" : Str)), (("Judge" : Str), some ("test" : Str)), (("searches" : Str), (none : Option Str)), (("some_world" : Str), (none : Option Str)), (("one_without" : Str), (none : Option Str)), (("parting" : Str), (none : Option Str)), (("check_given" : Str), (none : Option Str)), (("follows" : Str), (none : Option Str)), (("_law_pairs" : Str), (none : Option Str)), (("_law_reads" : Str), (none : Option Str)), (("is_function" : Str), (none : Option Str)), (("is_integer" : Str), (none : Option Str)), (("is_word" : Str), (none : Option Str)), (("are_names" : Str), (none : Option Str)), (("are_functions" : Str), (none : Option Str)), (("Tongue" : Str), some ("__init__" : Str)), (("_law_pool" : Str), (none : Option Str)), (("_law_draw" : Str), (none : Option Str)), (("_law_names" : Str), (none : Option Str)), (("law" : Str), (none : Option Str))] : List (Str × Option Str)).getD i ("", none)
def cnm (j : Nat) : Str := ([("Node" : Str), ("Reading" : Str), ("World" : Str), ("Case" : Str), ("Kind" : Str), ("Way" : Str), ("Option" : Str), ("Sorts" : Str), ("Plan" : Str), ("Search" : Str), ("Builder" : Str), ("Judge" : Str), ("Tongue" : Str)] : List Str).getD j ""
def fnm (j : Nat) : Str := ([("kept_ties" : Str), ("kept_marks" : Str), ("number" : Str), ("free" : Str), ("parts" : Str), ("names" : Str), ("word" : Str), ("told" : Str), ("world" : Str), ("things" : Str), ("functions" : Str), ("tied" : Str), ("marked" : Str), ("tongue" : Str), ("sign" : Str), ("needs" : Str), ("flags" : Str), ("shut" : Str), ("bars" : Str), ("loops" : Str), ("back" : Str), ("forth" : Str), ("second" : Str), ("first" : Str), ("ways" : Str), ("known" : Str), ("wishes" : Str), ("kinds" : Str), ("bits" : Str), ("inner" : Str), ("judge" : Str), ("chosen" : Str), ("commons" : Str), ("kings" : Str), ("sorts" : Str), ("wanted" : Str), ("many" : Str), ("lone" : Str), ("spots" : Str), ("sorts_of" : Str), ("plan" : Str), ("cases" : Str)] : List Str).getD j ""
def fn0 : List He.DefD := [⟨pl 1, "is_within", "is_within", defArgs st_1, defBody st_1, defScope st_1, [], []⟩,
  ⟨pl 2, "is_sequence", "is_sequence", defArgs st_2, defBody st_2, defScope st_2, [], []⟩,
  ⟨pl 3, "is_tuple", "is_tuple", defArgs st_3, defBody st_3, defScope st_3, [], []⟩,
  ⟨pl 4, "is_headed", "is_headed", defArgs st_4, defBody st_4, defScope st_4, [], []⟩,
  ⟨pl 5, "is_key", "is_key", defArgs st_5, defBody st_5, defScope st_5, [], []⟩,
  ⟨pl 6, "is_name", "is_name", defArgs st_6, defBody st_6, defScope st_6, [], []⟩,
  ⟨pl 7, "is_test", "is_test", defArgs st_7, defBody st_7, defScope st_7, [], []⟩,
  ⟨pl 8, "parts_of", "parts_of", defArgs st_8, defBody st_8, defScope st_8, [], []⟩,
  ⟨pl 9, "is_saying", "is_saying", defArgs st_9, defBody st_9, defScope st_9, [], []⟩,
  ⟨pl 10, "sayings_in", "sayings_in", defArgs st_10, defBody st_10, defScope st_10, [], []⟩,
  ⟨pl 11, "own_names", "own_names", defArgs st_11, defBody st_11, defScope st_11, [], []⟩,
  ⟨pl 12, "free_names", "free_names", defArgs st_12, defBody st_12, defScope st_12, [], []⟩,
  ⟨pl 13, "check_saying", "check_saying", defArgs st_13, defBody st_13, defScope st_13, [], []⟩,
  ⟨pl 14, "check_closed", "check_closed", defArgs st_14, defBody st_14, defScope st_14, [], []⟩,
  ⟨pl 15, "__init__", "Node.__init__", defArgs st_15, defBody st_15, defScope st_15, [], []⟩,
  ⟨pl 16, "node_of", "node_of", defArgs st_16, defBody st_16, defScope st_16, [], []⟩,
  ⟨pl 17, "__init__", "Reading.__init__", defArgs st_17, defBody st_17, defScope st_17, [], []⟩,
  ⟨pl 18, "flag", "Reading.flag", defArgs st_18, defBody st_18, defScope st_18, [], []⟩,
  ⟨pl 19, "test", "Reading.test", defArgs st_19, defBody st_19, defScope st_19, [], []⟩,
  ⟨pl 20, "bound_flag", "Reading.bound_flag", defArgs st_20, defBody st_20, defScope st_20, [], []⟩,
  ⟨pl 21, "searched", "Reading.searched", defArgs st_21, defBody st_21, defScope st_21, [], []⟩,
  ⟨pl 22, "is_thing", "is_thing", defArgs st_22, defBody st_22, defScope st_22, [], []⟩,
  ⟨pl 23, "is_pair", "is_pair", defArgs st_23, defBody st_23, defScope st_23, [], []⟩,
  ⟨pl 24, "is_dict_of", "is_dict_of", defArgs st_24, defBody st_24, defScope st_24, [], []⟩,
  ⟨pl 25, "are_things", "are_things", defArgs st_25, defBody st_25, defScope st_25, [], []⟩,
  ⟨pl 26, "are_pairs", "are_pairs", defArgs st_26, defBody st_26, defScope st_26, [], []⟩,
  ⟨pl 27, "check_marks", "check_marks", defArgs st_27, defBody st_27, defScope st_27, [], []⟩,
  ⟨pl 28, "check_ties", "check_ties", defArgs st_28, defBody st_28, defScope st_28, [], []⟩,
  ⟨pl 29, "__init__", "World.__init__", defArgs st_29, defBody st_29, defScope st_29, [], []⟩,
  ⟨pl 30, "has", "World.has", defArgs st_30, defBody st_30, defScope st_30, [], []⟩]
def fn1 : List He.DefD := [⟨pl 31, "leads", "World.leads", defArgs st_31, defBody st_31, defScope st_31, [], []⟩,
  ⟨pl 32, "is_held", "is_held", defArgs st_32, defBody st_32, defScope st_32, [], []⟩,
  ⟨pl 33, "holds", "holds", defArgs st_33, defBody st_33, defScope st_33, [], []⟩,
  ⟨pl 34, "check_plain", "check_plain", defArgs st_34, defBody st_34, defScope st_34, [], []⟩,
  ⟨pl 35, "cliques", "cliques", defArgs st_35, defBody st_35, defScope st_35, [], []⟩,
  ⟨pl 36, "grow", "grow", defArgs st_36, defBody st_36, defScope st_36, [], []⟩,
  ⟨pl 37, "__init__", "Case.__init__", defArgs st_37, defBody st_37, defScope st_37, [], []⟩,
  ⟨pl 38, "more", "Case.more", defArgs st_38, defBody st_38, defScope st_38, [], []⟩,
  ⟨pl 39, "plain_cases", "plain_cases", defArgs st_39, defBody st_39, defScope st_39, [], []⟩,
  ⟨pl 40, "meets", "meets", defArgs st_40, defBody st_40, defScope st_40, [], []⟩,
  ⟨pl 41, "__init__", "Kind.__init__", defArgs st_41, defBody st_41, defScope st_41, [], []⟩,
  ⟨pl 42, "with_part", "Kind.with_part", defArgs st_42, defBody st_42, defScope st_42, [], []⟩,
  ⟨pl 43, "rows_of_flags", "rows_of_flags", defArgs st_43, defBody st_43, defScope st_43, [], []⟩,
  ⟨pl 44, "plain_kinds", "plain_kinds", defArgs st_44, defBody st_44, defScope st_44, [], []⟩,
  ⟨pl 45, "is_let", "is_let", defArgs st_45, defBody st_45, defScope st_45, [], []⟩,
  ⟨pl 46, "__init__", "Way.__init__", defArgs st_46, defBody st_46, defScope st_46, [], []⟩,
  ⟨pl 47, "both_ways", "both_ways", defArgs st_47, defBody st_47, defScope st_47, [], []⟩,
  ⟨pl 48, "turned_ways", "turned_ways", defArgs st_48, defBody st_48, defScope st_48, [], []⟩,
  ⟨pl 49, "meets_bars", "meets_bars", defArgs st_49, defBody st_49, defScope st_49, [], []⟩,
  ⟨pl 50, "meets_shut", "meets_shut", defArgs st_50, defBody st_50, defScope st_50, [], []⟩,
  ⟨pl 51, "are_let", "are_let", defArgs st_51, defBody st_51, defScope st_51, [], []⟩,
  ⟨pl 52, "sort_list", "sort_list", defArgs st_52, defBody st_52, defScope st_52, [], []⟩,
  ⟨pl 53, "bit_list", "bit_list", defArgs st_53, defBody st_53, defScope st_53, [], []⟩,
  ⟨pl 54, "__init__", "Option.__init__", defArgs st_54, defBody st_54, defScope st_54, [], []⟩,
  ⟨pl 55, "turned", "Option.turned", defArgs st_55, defBody st_55, defScope st_55, [], []⟩,
  ⟨pl 56, "__init__", "Sorts.__init__", defArgs st_56, defBody st_56, defScope st_56, [], []⟩,
  ⟨pl 57, "own_wishes", "Sorts.own_wishes", defArgs st_57, defBody st_57, defScope st_57, [], []⟩,
  ⟨pl 58, "met", "Sorts.met", defArgs st_58, defBody st_58, defScope st_58, [], []⟩,
  ⟨pl 59, "options", "Sorts.options", defArgs st_59, defBody st_59, defScope st_59, [], []⟩,
  ⟨pl 60, "is_less", "is_less", defArgs st_60, defBody st_60, defScope st_60, [], []⟩]
def fn2 : List He.DefD := [⟨pl 61, "best_options", "best_options", defArgs st_61, defBody st_61, defScope st_61, [], []⟩,
  ⟨pl 62, "__init__", "Plan.__init__", defArgs st_62, defBody st_62, defScope st_62, [], []⟩,
  ⟨pl 63, "common_wishes", "common_wishes", defArgs st_63, defBody st_63, defScope st_63, [], []⟩,
  ⟨pl 64, "covers", "covers", defArgs st_64, defBody st_64, defScope st_64, [], []⟩,
  ⟨pl 65, "left_wishes", "left_wishes", defArgs st_65, defBody st_65, defScope st_65, [], []⟩,
  ⟨pl 66, "lasting", "lasting", defArgs st_66, defBody st_66, defScope st_66, [], []⟩,
  ⟨pl 67, "court_option", "court_option", defArgs st_67, defBody st_67, defScope st_67, [], []⟩,
  ⟨pl 68, "court_wishes", "court_wishes", defArgs st_68, defBody st_68, defScope st_68, [], []⟩,
  ⟨pl 69, "chosen_ways", "chosen_ways", defArgs st_69, defBody st_69, defScope st_69, [], []⟩,
  ⟨pl 70, "chosen_from", "chosen_from", defArgs st_70, defBody st_70, defScope st_70, [], []⟩,
  ⟨pl 71, "has_all", "has_all", defArgs st_71, defBody st_71, defScope st_71, [], []⟩,
  ⟨pl 72, "plan_with", "plan_with", defArgs st_72, defBody st_72, defScope st_72, [], []⟩,
  ⟨pl 73, "is_let_pair", "is_let_pair", defArgs st_73, defBody st_73, defScope st_73, [], []⟩,
  ⟨pl 74, "king_lots", "king_lots", defArgs st_74, defBody st_74, defScope st_74, [], []⟩,
  ⟨pl 75, "__init__", "Search.__init__", defArgs st_75, defBody st_75, defScope st_75, [], []⟩,
  ⟨pl 76, "sorts_with", "Search.sorts_with", defArgs st_76, defBody st_76, defScope st_76, [], []⟩,
  ⟨pl 77, "first_plan", "Search.first_plan", defArgs st_77, defBody st_77, defScope st_77, [], []⟩,
  ⟨pl 78, "smaller", "Search.smaller", defArgs st_78, defBody st_78, defScope st_78, [], []⟩,
  ⟨pl 79, "lone_plans", "Search.lone_plans", defArgs st_79, defBody st_79, defScope st_79, [], []⟩,
  ⟨pl 80, "__init__", "Builder.__init__", defArgs st_80, defBody st_80, defScope st_80, [], []⟩,
  ⟨pl 81, "put", "Builder.put", defArgs st_81, defBody st_81, defScope st_81, [], []⟩,
  ⟨pl 82, "link", "Builder.link", defArgs st_82, defBody st_82, defScope st_82, [], []⟩,
  ⟨pl 83, "put_kings", "Builder.put_kings", defArgs st_83, defBody st_83, defScope st_83, [], []⟩,
  ⟨pl 84, "put_common", "Builder.put_common", defArgs st_84, defBody st_84, defScope st_84, [], []⟩,
  ⟨pl 85, "put_courts", "Builder.put_courts", defArgs st_85, defBody st_85, defScope st_85, [], []⟩,
  ⟨pl 86, "king_left", "Builder.king_left", defArgs st_86, defBody st_86, defScope st_86, [], []⟩,
  ⟨pl 87, "put_groups", "Builder.put_groups", defArgs st_87, defBody st_87, defScope st_87, [], []⟩,
  ⟨pl 88, "meet", "Builder.meet", defArgs st_88, defBody st_88, defScope st_88, [], []⟩,
  ⟨pl 89, "helper", "Builder.helper", defArgs st_89, defBody st_89, defScope st_89, [], []⟩,
  ⟨pl 90, "run", "Builder.run", defArgs st_90, defBody st_90, defScope st_90, [], []⟩]
def fn3 : List He.DefD := [⟨pl 91, "made_world", "Builder.made_world", defArgs st_91, defBody st_91, defScope st_91, [], []⟩,
  ⟨pl 92, "tell_ways", "Builder.tell_ways", defArgs st_92, defBody st_92, defScope st_92, [], []⟩,
  ⟨pl 93, "built", "built", defArgs st_93, defBody st_93, defScope st_93, [], []⟩,
  ⟨pl 94, "__init__", "Judge.__init__", defArgs st_94, defBody st_94, defScope st_94, [], []⟩,
  ⟨pl 95, "alone", "Judge.alone", defArgs st_95, defBody st_95, defScope st_95, [], []⟩,
  ⟨pl 96, "closed", "Judge.closed", defArgs st_96, defBody st_96, defScope st_96, [], []⟩,
  ⟨pl 97, "flag", "Judge.flag", defArgs st_97, defBody st_97, defScope st_97, [], []⟩,
  ⟨pl 98, "bound_flag", "Judge.bound_flag", defArgs st_98, defBody st_98, defScope st_98, [], []⟩,
  ⟨pl 99, "test", "Judge.test", defArgs st_99, defBody st_99, defScope st_99, [], []⟩,
  ⟨pl 100, "searches", "searches", defArgs st_100, defBody st_100, defScope st_100, [], []⟩,
  ⟨pl 101, "some_world", "some_world", defArgs st_101, defBody st_101, defScope st_101, [], []⟩,
  ⟨pl 102, "one_without", "one_without", defArgs st_102, defBody st_102, defScope st_102, [], []⟩,
  ⟨pl 103, "parting", "parting", defArgs st_103, defBody st_103, defScope st_103, [], []⟩,
  ⟨pl 104, "check_given", "check_given", defArgs st_104, defBody st_104, defScope st_104, [], []⟩,
  ⟨pl 105, "follows", "follows", defArgs st_105, defBody st_105, defScope st_105, [], []⟩,
  ⟨pl 106, "_law_pairs", "_law_pairs", defArgs st_106, defBody st_106, defScope st_106, [], []⟩,
  ⟨pl 107, "_law_reads", "_law_reads", defArgs st_107, defBody st_107, defScope st_107, [], []⟩,
  ⟨pl 108, "is_function", "is_function", defArgs st_108, defBody st_108, defScope st_108, [], []⟩,
  ⟨pl 109, "is_integer", "is_integer", defArgs st_109, defBody st_109, defScope st_109, [], []⟩,
  ⟨pl 110, "is_word", "is_word", defArgs st_110, defBody st_110, defScope st_110, [], []⟩,
  ⟨pl 111, "are_names", "are_names", defArgs st_111, defBody st_111, defScope st_111, [], []⟩,
  ⟨pl 112, "are_functions", "are_functions", defArgs st_112, defBody st_112, defScope st_112, [], []⟩,
  ⟨pl 113, "__init__", "Tongue.__init__", defArgs st_113, defBody st_113, defScope st_113, [], []⟩,
  ⟨pl 114, "_law_pool", "_law_pool", defArgs st_114, defBody st_114, defScope st_114, [], []⟩,
  ⟨pl 115, "_law_draw", "_law_draw", defArgs st_115, defBody st_115, defScope st_115, [], []⟩,
  ⟨pl 116, "_law_names", "_law_names", defArgs st_116, defBody st_116, defScope st_116, [], []⟩,
  ⟨pl 117, "law", "law", defArgs st_117, defBody st_117, defScope st_117, [], []⟩]
def fn : List He.DefD := fn0 ++ fn1 ++ fn2 ++ fn3
def faG : List He.Fa := ([("is_within" : Str), ("is_sequence" : Str), ("is_tuple" : Str), ("is_headed" : Str), ("is_key" : Str), ("is_name" : Str), ("is_test" : Str), ("parts_of" : Str), ("is_saying" : Str), ("sayings_in" : Str), ("own_names" : Str), ("free_names" : Str), ("check_saying" : Str), ("check_closed" : Str), ("node_of" : Str), ("is_thing" : Str), ("is_pair" : Str), ("is_dict_of" : Str), ("are_things" : Str), ("are_pairs" : Str), ("check_marks" : Str), ("check_ties" : Str), ("is_held" : Str), ("holds" : Str), ("check_plain" : Str), ("cliques" : Str), ("grow" : Str), ("plain_cases" : Str), ("meets" : Str), ("rows_of_flags" : Str), ("plain_kinds" : Str), ("is_let" : Str), ("both_ways" : Str), ("turned_ways" : Str), ("meets_bars" : Str), ("meets_shut" : Str), ("are_let" : Str), ("sort_list" : Str), ("bit_list" : Str), ("is_less" : Str), ("best_options" : Str), ("common_wishes" : Str), ("covers" : Str), ("left_wishes" : Str), ("lasting" : Str), ("court_option" : Str), ("court_wishes" : Str), ("chosen_ways" : Str), ("chosen_from" : Str), ("has_all" : Str), ("plan_with" : Str), ("is_let_pair" : Str), ("king_lots" : Str), ("built" : Str), ("searches" : Str), ("some_world" : Str), ("one_without" : Str), ("parting" : Str), ("check_given" : Str), ("follows" : Str)] : List Str).map .glo
def faG2 : List He.Fa := ([("_law_pairs" : Str), ("_law_reads" : Str), ("is_function" : Str), ("is_integer" : Str), ("is_word" : Str), ("are_names" : Str), ("are_functions" : Str), ("_law_pool" : Str), ("_law_draw" : Str), ("_law_names" : Str), ("law" : Str), ("Node" : Str), ("Reading" : Str), ("World" : Str), ("Case" : Str), ("Kind" : Str), ("Way" : Str), ("Option" : Str), ("Sorts" : Str), ("Plan" : Str), ("Search" : Str), ("Builder" : Str), ("Judge" : Str), ("Tongue" : Str), ("NAMES" : Str), ("BINDING" : Str), ("JOINING" : Str), ("KEPT_WORDS" : Str)] : List Str).map .glo
def faF : List He.Fa := ([("abs" : Str), ("all" : Str), ("any" : Str), ("bool" : Str), ("dict" : Str), ("enumerate" : Str), ("int" : Str), ("isinstance" : Str), ("len" : Str), ("list" : Str), ("max" : Str), ("range" : Str), ("sorted" : Str), ("str" : Str), ("sum" : Str), ("tuple" : Str), ("zip" : Str)] : List Str).map .free
def faM : List He.Fa := ([("Node" : Str), ("Reading" : Str), ("World" : Str), ("Case" : Str), ("Kind" : Str), ("Way" : Str), ("Option" : Str), ("Sorts" : Str), ("Plan" : Str), ("Search" : Str), ("Builder" : Str), ("Judge" : Str), ("Tongue" : Str)] : List Str).map .mkr
def faC : List He.Fa := (List.range 13).map fun j => .cls (cnm j)
def faN : List He.Fa := (List.range 13).flatMap fun j => (List.range 42).map fun f => .noat (cnm j) (fnm f)
def faT : List He.Fa := ([(("Reading" : Str), ("flag" : Str)), (("Reading" : Str), ("test" : Str)), (("Reading" : Str), ("bound_flag" : Str)), (("Reading" : Str), ("searched" : Str)), (("World" : Str), ("has" : Str)), (("World" : Str), ("leads" : Str)), (("Case" : Str), ("more" : Str)), (("Kind" : Str), ("with_part" : Str)), (("Option" : Str), ("turned" : Str)), (("Sorts" : Str), ("own_wishes" : Str)), (("Sorts" : Str), ("met" : Str)), (("Sorts" : Str), ("options" : Str)), (("Search" : Str), ("sorts_with" : Str)), (("Search" : Str), ("first_plan" : Str)), (("Search" : Str), ("smaller" : Str)), (("Search" : Str), ("lone_plans" : Str)), (("Builder" : Str), ("put" : Str)), (("Builder" : Str), ("link" : Str)), (("Builder" : Str), ("put_kings" : Str)), (("Builder" : Str), ("put_common" : Str)), (("Builder" : Str), ("put_courts" : Str)), (("Builder" : Str), ("king_left" : Str)), (("Builder" : Str), ("put_groups" : Str)), (("Builder" : Str), ("meet" : Str)), (("Builder" : Str), ("helper" : Str)), (("Builder" : Str), ("run" : Str)), (("Builder" : Str), ("made_world" : Str)), (("Builder" : Str), ("tell_ways" : Str)), (("Judge" : Str), ("alone" : Str)), (("Judge" : Str), ("closed" : Str)), (("Judge" : Str), ("flag" : Str)), (("Judge" : Str), ("bound_flag" : Str)), (("Judge" : Str), ("test" : Str))] : List (Str × Str)).map fun p => .meth p.1 p.2
def faI : List He.Fa := ([(("MOST_LETTERS" : Str), (6 : Int)), (("MOST_TUPLES" : Str), (100 : Int)), (("MOST_DEEP" : Str), (20 : Int)), (("MOST_THINGS" : Str), (300 : Int)), (("GROUPS" : Str), (3 : Int)), (("MOST_GIVEN" : Str), (5 : Int)), (("MOST_MARKS" : Str), (3 : Int)), (("MOST_TIES" : Str), (2 : Int))] : List (Str × Int)).map fun p => .int p.1 p.2
def faS : List He.Fa := [.str "LETTERS" ⟨#[97, 98, 99, 100, 101, 102, 103, 104, 105, 106, 107, 108, 109, 110, 111, 112, 113, 114, 115, 116, 117, 118, 119, 120, 121, 122]⟩]
def fa : List He.Fa := faG ++ (faG2 ++ (faF ++ (faM ++ (faC ++ (faN ++ (faT ++ (faI ++ faS)))))))
def tabs : List He.Tab := [(fun K => He.ga K "KEPT_WORDS", [("x" : Str), ("y" : Str), ("true" : Str), ("not" : Str), ("and" : Str), ("or" : Str), ("each" : Str), ("some" : Str)])]
abbrev R : PySem.W.OpenRow := PySem.W.OpenLaw.row PySem.Challenge.rw_pairsayings_k64_whole_known_followings
def loose0 : List Str := [("_wall" : Str), ("SayingError" : Str), ("NoSaying" : Str), ("NotClosed" : Str), ("HasFunctions" : Str), ("NoGiven" : Str), ("NoTongue" : Str), ("NoWorld" : Str), ("LETTERS" : Str), ("MOST_LETTERS" : Str), ("is_integer" : Str), ("is_within" : Str), ("is_sequence" : Str), ("is_word" : Str), ("is_tuple" : Str), ("is_headed" : Str), ("is_key" : Str), ("NAMES" : Str), ("BINDING" : Str), ("JOINING" : Str), ("MOST_TUPLES" : Str), ("MOST_DEEP" : Str), ("is_name" : Str), ("is_test" : Str), ("parts_of" : Str), ("is_saying" : Str), ("sayings_in" : Str), ("own_names" : Str), ("free_names" : Str), ("check_saying" : Str), ("check_closed" : Str), ("Node" : Str), ("node_of" : Str), ("Reading" : Str), ("MOST_THINGS" : Str)]
def loose1 : List Str := [("is_thing" : Str), ("is_pair" : Str), ("is_dict_of" : Str), ("are_things" : Str), ("are_pairs" : Str), ("is_function" : Str), ("check_marks" : Str), ("check_ties" : Str), ("World" : Str), ("is_held" : Str), ("holds" : Str), ("check_plain" : Str), ("cliques" : Str), ("grow" : Str), ("Case" : Str), ("plain_cases" : Str), ("meets" : Str), ("Kind" : Str), ("rows_of_flags" : Str), ("plain_kinds" : Str), ("is_let" : Str), ("Way" : Str), ("both_ways" : Str), ("turned_ways" : Str), ("meets_bars" : Str), ("meets_shut" : Str), ("are_let" : Str), ("sort_list" : Str), ("bit_list" : Str), ("Option" : Str), ("Sorts" : Str), ("is_less" : Str), ("best_options" : Str), ("Plan" : Str), ("common_wishes" : Str)]
def loose2 : List Str := [("covers" : Str), ("left_wishes" : Str), ("lasting" : Str), ("court_option" : Str), ("court_wishes" : Str), ("chosen_ways" : Str), ("chosen_from" : Str), ("has_all" : Str), ("plan_with" : Str), ("is_let_pair" : Str), ("king_lots" : Str), ("Search" : Str), ("GROUPS" : Str), ("Builder" : Str), ("built" : Str), ("Judge" : Str), ("searches" : Str), ("some_world" : Str), ("MOST_GIVEN" : Str), ("one_without" : Str), ("parting" : Str), ("check_given" : Str), ("follows" : Str), ("KEPT_WORDS" : Str), ("MOST_MARKS" : Str), ("MOST_TIES" : Str), ("are_names" : Str), ("are_functions" : Str), ("Tongue" : Str), ("_law_pool" : Str), ("_law_draw" : Str), ("_law_names" : Str), ("_law_pairs" : Str), ("_law_reads" : Str)]
def loose : List Str := loose0 ++ loose1 ++ loose2
def vw : Program := PySem.W.view R.prog [123]
abbrev lawAt : Nat := 123
/-- a written tuple of texts, of no dict -/
def tupT (K : PySem.W.Frag) (x : Str) (vs : List Str) : Bool := match K.lookup (He.ga K x) with
  | some ⟨.type c, none, .seq its _, _⟩ => decide (c = "tuple") && (decide (its.size ≤ sizeLine) && He.relAll (vs.map V.str) its.toList)
  | _ => false
theorem tupT_ok {K : PySem.W.Frag} {x : Str} {vs : List Str} (h : tupT K x vs = true) : (∀ H, SqT K H (He.ga K x) (vs.map V.str)) ∧ ∃ o, K.lookup (He.ga K x) = some o ∧ o.cls = .type "tuple" ∧ o.dict = none := by
  unfold tupT at h
  cases q : K.lookup (He.ga K x) with
  | none => rw [q] at h; cases h
  | some o =>
    obtain ⟨oc, od, dt, osl⟩ := o
    rw [q] at h
    cases oc with
    | type c =>
      cases od with
      | none =>
        cases dt with
        | seq its n =>
          obtain ⟨h1, h2⟩ := He.ba (show (decide (c = "tuple") && (decide (its.size ≤ sizeLine) && He.relAll (vs.map V.str) its.toList)) = true from h)
          obtain ⟨h3, h4⟩ := He.ba h2
          have ec : c = "tuple" := of_decide_eq_true h1
          subst ec
          exact ⟨fun H => .inr ⟨_, its, n, q, rfl, rfl, of_decide_eq_true h3, He.relAll_ok h4⟩, _, rfl, rfl, rfl⟩
        | _ => cases h
      | some a => cases dt <;> cases h
    | _ => cases od <;> cases dt <;> cases h
/-- a property of a class: the property's object, its getter -/
def propAt (K : PySem.W.Frag) (C m : Str) : Addr := match PySem.W.findIn K (.ref (He.ga K C)) m with
  | some (some (.ref p)) => p
  | _ => 0
def getAt (K : PySem.W.Frag) (C m : Str) : Addr := match PySem.W.recIn K (propAt K C m) "property" with
  | some (.ref q :: _) => q
  | _ => 0
def propB (K : PySem.W.Frag) (C m : Str) : Bool := He.eqO (PySem.W.findIn K (.ref (He.ga K C)) m) (some (some (.ref (propAt K C m)))) && (He.eqO (PySem.W.specialIn K (.ref (propAt K C m)) "__get__") (some (some (.builtin "property.__get__"))) &&
  (decide (PySem.W.takesIn K (.ref (propAt K C m)) = some true) && (match PySem.W.recIn K (propAt K C m) "property" with | some (.ref _ :: _) => true | _ => false)))
theorem propB_ok {K : PySem.W.Frag} {C m : Str} (h : propB K C m = true) : PropOf K (He.ga K C) m (propAt K C m) (getAt K C m) := by
  obtain ⟨h1, h⟩ := He.ba h
  obtain ⟨h2, h⟩ := He.ba h
  obtain ⟨h3, h4⟩ := He.ba h
  refine ⟨He.eqO_ok h1, He.eqO_ok h2, of_decide_eq_true h3, ?_⟩
  cases q : PySem.W.recIn K (propAt K C m) "property" with
  | none => rw [q] at h4; cases h4
  | some l =>
    rw [q] at h4
    cases l with
    | nil => cases h4
    | cons v r =>
      cases v with
      | ref b =>
        refine ⟨r, ?_⟩
        unfold getAt
        rw [q]
      | _ => cases h4
/-- a def by its address -/
def fnA (K : PySem.W.Frag) (a : Addr) : He.FnW := match K.lookup a with
  | some ⟨_, _, .func fd, _⟩ => some (fd.name, fd.qualname, fd.params, fd.body, fd.scope, fd.globals, fd.closure, fd.builtins)
  | _ => none
def okA (K : PySem.W.Frag) (a : Addr) (qual : Str) : Bool := PySem.W.keepIn K (.ref a) && (match K.lookup a with
  | some ⟨_, _, .func fd, _⟩ => PySem.W.codeIn K fd.code qual && (He.dflB K fd.defaults [] && He.kwdB K fd.kwdefaults [])
  | _ => false)
theorem funA {K : PySem.W.Frag} {a : Addr} {name qual : Str} {params : Arguments} {body : List Stmt} {scope : Scope} (e : fnA K a = some (name, qual, params, .stmts body, scope, mainGlobals, [], builtinsNs)) (c : okA K a qual = true) : ∃ fd, FunD K name qual params body scope [] [] a fd := by
  obtain ⟨kp, c2⟩ := He.ba c
  unfold fnA at e
  cases q : K.lookup a with
  | none => rw [q] at c2; cases c2
  | some o =>
    obtain ⟨oc, od, dt, osl⟩ := o
    rw [q] at c2 e
    cases dt with
    | func fd =>
      obtain ⟨n1, n2, n3, n4, n5, n6, n7, n8, n9, n10, n11, n12, n13, n14, n15⟩ := fd
      have e2 : (some (n1, n2, n3, n4, n5, n6, n7, n15) : He.FnW) = some (name, qual, params, .stmts body, scope, mainGlobals, [], builtinsNs) := e
      simp only [Option.some.injEq, Prod.mk.injEq] at e2
      obtain ⟨h1, h2, h3, h4, h5, h6, h7, h8⟩ := e2
      subst h1 h2 h3 h4 h5 h6 h7 h8
      obtain ⟨k1, k2⟩ := He.ba (show (PySem.W.codeIn K n13 n2 && (He.dflB K n8 [] && He.kwdB K n9 [])) = true from c2)
      obtain ⟨k3, k4⟩ := He.ba k2
      exact ⟨_, ⟨oc, od, n8, n9, n10, n11, n12, n13, n14, osl, rfl, q, k1, He.dflB_ok k3, He.kwdB_ok k4⟩, kp⟩
    | _ => cases c2
def ex (K : PySem.W.Frag) : Bool := tupT K "NAMES" ["x", "y"] && tupT K "BINDING" ["each", "some"] && tupT K "JOINING" ["and", "or"] && (propB K "Tongue" "marks" && (propB K "Tongue" "ties" && (okA K (getAt K "Tongue" "marks") "Tongue.marks" && okA K (getAt K "Tongue" "ties") "Tongue.ties")))
abbrev Al2 : Type := Bool × (List He.FnW × (List (Option (List (Option (Str × Int)))) × (He.FnW × He.FnW)))
abbrev AlP : Type := Bool × Al2
def obs1 (K : PySem.W.Frag) : Bool := (fa.all fun f => f.ok K) && ex K
def obs2 (K : PySem.W.Frag) : Al2 := ((fn.all fun d => d.ok K), (fn.map fun d => He.fnW K d.at_), (tabs.map fun t => He.dicW K (t.1 K)), fnA K (getAt K "Tongue" "marks"), fnA K (getAt K "Tongue" "ties"))
def val2 (w : World) : Al2 := (true, (fn.map He.DefD.val), (tabs.map fun t => some (He.keysIn w.params t.2)), some ("marks", "Tongue.marks", defArgs st_marks, .stmts (defBody st_marks), defScope st_marks, mainGlobals, [], builtinsNs), some ("ties", "Tongue.ties", defArgs st_ties, .stmts (defBody st_ties), defScope st_ties, mainGlobals, [], builtinsNs))
def obsP (K : PySem.W.Frag) : AlP := (obs1 K, obs2 K)
def valP (w : World) : AlP := (true, val2 w)
def SaysP (w : World) (K : PySem.W.Frag) : Prop := obsP K = valP w
/-- what is looked at: the globals, the classes' namespaces, the defs, their codes, the properties -/
def refsR (o : Obj) : List Addr := match o.data with
  | .dict es _ => es.toList.flatMap fun e => He.refV e.val
  | .func fd => He.refV fd.code
  | .cls cd => [cd.ns]
  | .fields vs => (match o.cls with
    | .type c => (match decide (c = "property") with | true => vs.toList.flatMap He.refV | false => [])
    | _ => [])
  | _ => []
def stepR (g : Addr → Option Obj) (as : List Addr) : List Addr := as.flatMap fun a => match g a with
  | some o => refsR o
  | none => []
def isCls (g : Addr → Option Obj) (a : Addr) : Bool := match g a with
  | some o => (match o.data with | .cls _ => true | _ => false)
  | none => false
def asR (g : Addr → Option Obj) : List Addr :=
  (fun l1 => (fun cs => (fun ns => (fun l3 => (fun l4 => mainGlobals :: (cs ++ (ns ++ (l1.filter (fun a => !isCls g a) ++ (l3 ++ (stepR g (l1.filter fun a => !isCls g a) ++ (l4 ++ stepR g l4)))))))
    (stepR g l3)) (stepR g ns)) (stepR g cs)) (l1.filter (isCls g))) (stepR g [mainGlobals])
def obsPG (n : Nat) (g : Addr → Option Obj) : AlP := obsP (He.frG g (asR g))
def hookP (n : Nat) : PySem.W.Hook where
  α := AlP
  obs := fun s => obsPG n s.heap.get?
  val := fun w => valP w
  says := fun w h => ∃ K : PySem.W.Frag, K.In h ∧ SaysP w K
  of := fun _ _ e => ⟨_, He.frG_in, e⟩
  keeps := fun _ _ _ ⟨K, hK, c⟩ k => ⟨K, PySem.W.Frag.In.keeps hK k, c⟩
theorem obsPG_eq {n : Nat} {g : Addr → Option Obj} {s : Shared} (h : ∀ a, g a = s.heap.get? a) : obsPG n g = (hookP n).obs s := by
  have e : g = s.heap.get? := funext h
  rw [e] <;> rfl
abbrev hk : PySem.W.Hook := hookP 6
def ob (s : PySem.W.SharedT) : AlP := obsPG 6 (HandSHeadRun.getT s)
theorem ob_eq (s : PySem.W.SharedT) : ob s = hk.obs s.abs := obsPG_eq (HandSHeadRun.getT_eq s)
def frT (s : PySem.W.SharedT) : PySem.W.Frag := He.frG (HandSHeadRun.getT s) (asR (HandSHeadRun.getT s))
def ob1 (s : PySem.W.SharedT) : Bool := obs1 (frT s)
def ob2 (s : PySem.W.SharedT) : Al2 := obs2 (frT s)
abbrev mods : List Str := importedModules R.prog.main.body
noncomputable def endS (w : World) (os : OsState) : Option PySem.W.SharedT := HandSHeadRun.endF (HandSHeadRun.stepQ (HandSHeadRun.denQ HandSHeadRun.tabQ) R.prog w) 40000 R.prog w os
noncomputable def see1 (w : World) (s : PySem.W.SharedT) := (HandSHeadRun.looksF R.prog (PySem.W.boot_heap w.params) s.abs, HandSHeadRun.seenQ vw loose mods (fun s => PySem.W.xlAt vw [] s && PySem.W.recOk R.toRowW.records s) s.abs, ob1 s)
def Run1 (w : World) : Prop := ∀ os : OsState, (endS w os).map (see1 w) = some (true, PySem.W.openGood vw loose, true)
def Run2 (w : World) : Prop := ∀ os : OsState, (endS w os).map ob2 = some (val2 w)
theorem run_of (w : World) (h1 : Run1 w) (h2 : Run2 w) : HandSHeadRun.RunEq R vw hk ob 40000 loose w := by
  intro os
  have e1 := h1 os
  have e2 := h2 os
  unfold endS at e1 e2
  cases e : HandSHeadRun.endF (HandSHeadRun.stepQ (HandSHeadRun.denQ HandSHeadRun.tabQ) R.prog w) 40000 R.prog w os with
  | none => rw [e] at e1; cases e1
  | some s =>
    rw [e] at e1 e2
    have q1 := Option.some.inj e1
    have q2 := Option.some.inj e2
    have a1 : HandSHeadRun.looksF R.prog (PySem.W.boot_heap w.params) s.abs = true := congrArg (fun z => z.1) q1
    have a2 := congrArg (fun z => z.2.1) q1
    have a3 : ob1 s = true := congrArg (fun z => z.2.2) q1
    have a4 : ob s = hk.val w := by
      show (ob1 s, ob2 s) = (true, val2 w)
      rw [a3, q2]
    exact congrArg some (Prod.ext a1 (Prod.ext a2 a4))
end Sd
end

section
set_option Elab.async false
set_option linter.all false
set_option maxRecDepth 100000
set_option maxHeartbeats 0

/-! Hr1f: the top's run, false. -/
namespace Sd
open PySem PySem.Spec PyProof.Rows L2
theorem run1f (w : World) : Run1 (w.withFollow "special-get-raises" false) := by
  intro os
  kernel_rfl
end Sd
end

section
set_option Elab.async false
set_option linter.all false
set_option maxRecDepth 100000
set_option maxHeartbeats 0

/-! Hr2f: the top's run, false. -/
namespace Sd
open PySem PySem.Spec PyProof.Rows L2
theorem run2f (w : World) : Run2 (w.withFollow "special-get-raises" false) := by
  intro os
  kernel_rfl
end Sd
end

section
set_option Elab.async false
set_option linter.all false
set_option maxRecDepth 100000
set_option maxHeartbeats 0

/-! Hr1t: the top's run, true. -/
namespace Sd
open PySem PySem.Spec PyProof.Rows L2
theorem run1t (w : World) : Run1 (w.withFollow "special-get-raises" true) := by
  intro os
  kernel_rfl
end Sd
end

section
set_option Elab.async false
set_option linter.all false
set_option maxRecDepth 100000
set_option maxHeartbeats 0

/-! Hr2t: the top's run, true. -/
namespace Sd
open PySem PySem.Spec PyProof.Rows L2
theorem run2t (w : World) : Run2 (w.withFollow "special-get-raises" true) := by
  intro os
  kernel_rfl
end Sd
end

section
/-! Ev: a small machine for the program's own constructs, in a style that the kernel reduces quickly (explicit recursors, continuations).
Values: what never changes any more is held by value (tuples, frozen lists, dicts and instances); what may still change is held in a small heap by number. -/
set_option autoImplicit false
namespace Ev
inductive W where
  | un | non | bl (b : Bool) | nat (n : Nat) | str (s : Nat) | tup (l : List W) | wtup (l : List W) | lst (l : List W)
  | dct (t : Bool) (ks vs : List W) | obj (c : Nat) (ids : List Nat) (vs : List W) | ref (i : Nat) | rng (k : Nat)
inductive Tr where
  | nil | node (v : W) (a b : Tr)
inductive O where
  | lst (l : List W) | dct (t : Bool) (ks vs : List W) | map (k : Nat) (m : Tr) | told (k : Nat) (m : Tr) | ins (c : Nat) (ids : List Nat) (vs : List W)
inductive Hl where
  | nil | cons (i : Nat) (o : O) (t : Hl)
inductive Rs where
  | err | ok (w : W) (n : Nat) (l : Hl)
inductive Rb where
  | err | ok (b : Bool) (n : Nat) (l : Hl)
inductive Ra where
  | err | ok (ws : List W) (n : Nat) (l : Hl)
inductive So where
  | err | nx (s : List W) (n : Nat) (l : Hl) | rt (w : W) (n : Nat) (l : Hl) | bk (s : List W) (n : Nat) (l : Hl) | ct (s : List W) (n : Nat) (l : Hl)
abbrev CallT := Nat → List W → Nat → Hl → Rs
abbrev D := CallT → List W → Nat → Hl → Rs
abbrev T := CallT → List W → Nat → Hl → Rb
abbrev A := CallT → List W → Nat → Hl → Ra
abbrev S := CallT → List W → Nat → Hl → So
noncomputable section
/-! ### by kinds -/
/-- by the kind of a value; R: the answer's type, e: the answer for all other kinds -/
def natK {R : Type} (e : R) (k : Nat → R) (w : W) : R :=
  W.rec (motive_1 := fun _ => R) (motive_2 := fun _ => Unit) e e (fun _ => e) k (fun _ => e) (fun _ _ => e) (fun _ _ => e) (fun _ _ => e) (fun _ _ _ _ _ => e) (fun _ _ _ _ => e) (fun _ => e) (fun _ => e) () (fun _ _ _ _ => ()) w
def blK {R : Type} (e : R) (k : Bool → R) (w : W) : R :=
  W.rec (motive_1 := fun _ => R) (motive_2 := fun _ => Unit) e e k (fun _ => e) (fun _ => e) (fun _ _ => e) (fun _ _ => e) (fun _ _ => e) (fun _ _ _ _ _ => e) (fun _ _ _ _ => e) (fun _ => e) (fun _ => e) () (fun _ _ _ _ => ()) w
def tupK {R : Type} (e : R) (k : List W → R) (w : W) : R :=
  W.rec (motive_1 := fun _ => R) (motive_2 := fun _ => Unit) e e (fun _ => e) (fun _ => e) (fun _ => e) (fun l _ => k l) (fun _ _ => e) (fun _ _ => e) (fun _ _ _ _ _ => e) (fun _ _ _ _ => e) (fun _ => e) (fun _ => e) () (fun _ _ _ _ => ()) w
def refK {R : Type} (e : R) (k : Nat → R) (w : W) : R :=
  W.rec (motive_1 := fun _ => R) (motive_2 := fun _ => Unit) e e (fun _ => e) (fun _ => e) (fun _ => e) (fun _ _ => e) (fun _ _ => e) (fun _ _ => e) (fun _ _ _ _ _ => e) (fun _ _ _ _ => e) k (fun _ => e) () (fun _ _ _ _ => ()) w
/-- not undefined -/
def defK {R : Type} (e : R) (k : R) (w : W) : R :=
  W.rec (motive_1 := fun _ => R) (motive_2 := fun _ => Unit) e k (fun _ => k) (fun _ => k) (fun _ => k) (fun _ _ => k) (fun _ _ => k) (fun _ _ => k) (fun _ _ _ _ _ => k) (fun _ _ _ _ => k) (fun _ => k) (fun _ => k) () (fun _ _ _ _ => ()) w
def isNon (w : W) : Bool :=
  W.rec (motive_1 := fun _ => Bool) (motive_2 := fun _ => Unit) false true (fun _ => false) (fun _ => false) (fun _ => false) (fun _ _ => false) (fun _ _ => false) (fun _ _ => false) (fun _ _ _ _ _ => false) (fun _ _ _ _ => false) (fun _ => false) (fun _ => false) () (fun _ _ _ _ => ()) w
def Rs.b (r : Rs) (k : W → Nat → Hl → Rs) : Rs := Rs.rec (motive := fun _ => Rs) .err k r
def Rs.bb (r : Rs) (k : W → Nat → Hl → Rb) : Rb := Rs.rec (motive := fun _ => Rb) .err k r
def Rs.ba (r : Rs) (k : W → Nat → Hl → Ra) : Ra := Rs.rec (motive := fun _ => Ra) .err k r
def Rs.bs (r : Rs) (k : W → Nat → Hl → So) : So := Rs.rec (motive := fun _ => So) .err k r
def Rb.b (r : Rb) (k : Bool → Nat → Hl → Rs) : Rs := Rb.rec (motive := fun _ => Rs) .err k r
def Rb.bb (r : Rb) (k : Bool → Nat → Hl → Rb) : Rb := Rb.rec (motive := fun _ => Rb) .err k r
def Rb.ba (r : Rb) (k : Bool → Nat → Hl → Ra) : Ra := Rb.rec (motive := fun _ => Ra) .err k r
def Rb.bs (r : Rb) (k : Bool → Nat → Hl → So) : So := Rb.rec (motive := fun _ => So) .err k r
def Ra.b (r : Ra) (k : List W → Nat → Hl → Rs) : Rs := Ra.rec (motive := fun _ => Rs) .err k r
def Ra.ba (r : Ra) (k : List W → Nat → Hl → Ra) : Ra := Ra.rec (motive := fun _ => Ra) .err k r
def Ra.bs (r : Ra) (k : List W → Nat → Hl → So) : So := Ra.rec (motive := fun _ => So) .err k r
/-! ### slots, lists -/
def sget (i : Nat) (s : List W) : W :=
  Nat.rec (motive := fun _ => List W → W) (fun s => List.rec (motive := fun _ => W) .un (fun a _ _ => a) s) (fun _ ih s => List.rec (motive := fun _ => W) .un (fun _ r _ => ih r) s) i s
def sset (i : Nat) (w : W) (s : List W) : List W :=
  Nat.rec (motive := fun _ => List W → List W) (fun s => List.rec (motive := fun _ => List W) [] (fun _ r _ => w :: r) s) (fun _ ih s => List.rec (motive := fun _ => List W) [] (fun a r _ => a :: ih r) s) i s
def app (a b : List W) : List W := List.rec (motive := fun _ => List W) b (fun x _ ih => x :: ih) a
def len (a : List W) : Nat := List.rec (motive := fun _ => Nat) 0 (fun _ _ ih => Nat.succ ih) a
/-- the length by counting up, for the kernel's sake -/
def lenG (a : List W) (k : Nat) : Nat := List.rec (motive := fun _ => Nat → Nat) (fun k => k) (fun _ _ ih k => ih (Nat.add k 1)) a k
def isNil (a : List W) : Bool := List.rec (motive := fun _ => Bool) true (fun _ _ _ => false) a
/-! ### keys -/
def kStr (s : Nat) (b : W) : Bool :=
  W.rec (motive_1 := fun _ => Bool) (motive_2 := fun _ => Unit) false false (fun _ => false) (fun _ => false) (fun t => Nat.beq s t) (fun _ _ => false) (fun _ _ => false) (fun _ _ => false) (fun _ _ _ _ _ => false) (fun _ _ _ _ => false) (fun _ => false) (fun _ => false) () (fun _ _ _ _ => ()) b
def keq (a b : W) : Bool :=
  W.rec (motive_1 := fun _ => W → Bool) (motive_2 := fun _ => List W → Bool) (fun _ => false) (fun _ => false) (fun _ _ => false) (fun i b => natK false (fun j => Nat.beq i j) b) (fun s b => kStr s b)
    (fun _ ih b => tupK false ih b) (fun _ _ _ => false) (fun _ _ _ => false) (fun _ _ _ _ _ _ => false) (fun _ _ _ _ _ => false) (fun _ _ => false) (fun _ _ => false)
    (fun l => isNil l) (fun _ _ ih ihs l => List.rec (motive := fun _ => Bool) false (fun y r _ => Bool.rec (motive := fun _ => Bool) false (ihs r) (ih y)) l) a b
/-- the value at a key; e where there is none -/
def dlook {R : Type} (e : R) (k : W → R) (x : W) (ks vs : List W) : R :=
  List.rec (motive := fun _ => List W → R) (fun _ => e) (fun y _ ih vs => List.rec (motive := fun _ => R) e (fun v r _ => Bool.rec (motive := fun _ => R) (ih r) (k v) (keq x y)) vs) ks vs
def mem (x : W) (ks : List W) : Bool := List.rec (motive := fun _ => Bool) false (fun y _ ih => Bool.rec (motive := fun _ => Bool) ih true (keq x y)) ks
/-- the values with v at the place of the key x -/
def vput (x v : W) (ks vs : List W) : List W :=
  List.rec (motive := fun _ => List W → List W) (fun vs => vs) (fun y _ ih vs => List.rec (motive := fun _ => List W) [] (fun u r _ => Bool.rec (motive := fun _ => List W) (u :: ih r) (v :: ih r) (keq x y)) vs) ks vs
/-! ### tables by number -/
def tget (t : Tr) (f i : Nat) : W :=
  Nat.rec (motive := fun _ => Tr → Nat → W) (fun _ _ => .un) (fun _ ih t i => Tr.rec (motive := fun _ => W) .un (fun v a b _ _ => Bool.rec (motive := fun _ => W) (Bool.rec (motive := fun _ => W) (ih a (Nat.shiftRight i 1)) (ih b (Nat.shiftRight i 1)) (Nat.testBit i 0)) v (Nat.beq i 1)) t) f t i
def tput (t : Tr) (f i : Nat) (w : W) : Tr :=
  Nat.rec (motive := fun _ => Tr → Nat → Tr) (fun t _ => t) (fun _ ih t i => Tr.rec (motive := fun _ => Tr)
    (Bool.rec (motive := fun _ => Tr) (Bool.rec (motive := fun _ => Tr) (.node .un (ih .nil (Nat.shiftRight i 1)) .nil) (.node .un .nil (ih .nil (Nat.shiftRight i 1))) (Nat.testBit i 0)) (.node w .nil .nil) (Nat.beq i 1))
    (fun v a b _ _ => Bool.rec (motive := fun _ => Tr) (Bool.rec (motive := fun _ => Tr) (.node v (ih a (Nat.shiftRight i 1)) b) (.node v a (ih b (Nat.shiftRight i 1))) (Nat.testBit i 0)) (.node w a b) (Nat.beq i 1)) t) f t i
/-! ### the heap -/
def hget {R : Type} (e : R) (k : O → R) (l : Hl) (i : Nat) : R := Hl.rec (motive := fun _ => R) e (fun j o _ ih => Bool.rec (motive := fun _ => R) ih (k o) (Nat.beq i j)) l
def hset (l : Hl) (i : Nat) (o : O) : Hl := Hl.rec (motive := fun _ => Hl) .nil (fun j u t ih => Bool.rec (motive := fun _ => Hl) (.cons j u ih) (.cons j o t) (Nat.beq i j)) l
def hdel (l : Hl) (i : Nat) : Hl := Hl.rec (motive := fun _ => Hl) .nil (fun j u t ih => Bool.rec (motive := fun _ => Hl) (.cons j u ih) t (Nat.beq i j)) l
/-- what was laid before n -/
def hdrop (l : Hl) (n : Nat) : Hl := Hl.rec (motive := fun _ => Hl) .nil (fun j o t ih => Bool.rec (motive := fun _ => Hl) (.cons j o t) ih (Nat.ble n j)) l
def oLst {R : Type} (e : R) (k : List W → R) (o : O) : R := O.rec (motive := fun _ => R) k (fun _ _ _ => e) (fun _ _ => e) (fun _ _ => e) (fun _ _ _ => e) o
def oDct {R : Type} (e : R) (k : Bool → List W → List W → R) (o : O) : R := O.rec (motive := fun _ => R) (fun _ => e) k (fun _ _ => e) (fun _ _ => e) (fun _ _ _ => e) o
def oIns {R : Type} (e : R) (k : Nat → List Nat → List W → R) (o : O) : R := O.rec (motive := fun _ => R) (fun _ => e) (fun _ _ _ => e) (fun _ _ => e) (fun _ _ => e) k o
/-- the items of a list or a tuple -/
def seqK {R : Type} (e : R) (k : List W → R) (w : W) (l : Hl) : R :=
  W.rec (motive_1 := fun _ => R) (motive_2 := fun _ => Unit) e e (fun _ => e) (fun _ => e) (fun _ => e) (fun ws _ => k ws) (fun ws _ => k ws) (fun ws _ => k ws) (fun _ _ _ _ _ => e) (fun _ _ _ _ => e) (fun i => hget e (oLst e k) l i) (fun _ => e) () (fun _ _ _ _ => ()) w
/-- the items of a list -/
def lstK {R : Type} (e : R) (k : List W → R) (w : W) (l : Hl) : R :=
  W.rec (motive_1 := fun _ => R) (motive_2 := fun _ => Unit) e e (fun _ => e) (fun _ => e) (fun _ => e) (fun _ _ => e) (fun _ _ => e) (fun ws _ => k ws) (fun _ _ _ _ _ => e) (fun _ _ _ _ => e) (fun i => hget e (oLst e k) l i) (fun _ => e) () (fun _ _ _ _ => ()) w
/-- an instance -/
def insK {R : Type} (e : R) (k : Nat → List Nat → List W → R) (w : W) (l : Hl) : R :=
  W.rec (motive_1 := fun _ => R) (motive_2 := fun _ => Unit) e e (fun _ => e) (fun _ => e) (fun _ => e) (fun _ _ => e) (fun _ _ => e) (fun _ _ => e) (fun _ _ _ _ _ => e) (fun c ids vs _ => k c ids vs) (fun i => hget e (oIns e k) l i) (fun _ => e) () (fun _ _ _ _ => ()) w
/-- a dict in order -/
def dctK {R : Type} (e : R) (k : Bool → List W → List W → R) (w : W) (l : Hl) : R :=
  W.rec (motive_1 := fun _ => R) (motive_2 := fun _ => Unit) e e (fun _ => e) (fun _ => e) (fun _ => e) (fun _ _ => e) (fun _ _ => e) (fun _ _ => e) (fun t ks vs _ _ => k t ks vs) (fun _ _ _ _ => e) (fun i => hget e (oDct e k) l i) (fun _ => e) () (fun _ _ _ _ => ()) w
def fget {R : Type} (e : R) (k : W → R) (f : Nat) (ids : List Nat) (vs : List W) : R :=
  List.rec (motive := fun _ => List W → R) (fun _ => e) (fun j _ ih vs => List.rec (motive := fun _ => R) e (fun v r _ => Bool.rec (motive := fun _ => R) (ih r) (k v) (Nat.beq f j)) vs) ids vs
def fhas (f : Nat) (ids : List Nat) : Bool := List.rec (motive := fun _ => Bool) false (fun j _ ih => Bool.rec (motive := fun _ => Bool) ih true (Nat.beq f j)) ids
def fput (f : Nat) (w : W) (ids : List Nat) (vs : List W) : List W :=
  List.rec (motive := fun _ => List W → List W) (fun vs => vs) (fun j _ ih vs => List.rec (motive := fun _ => List W) [] (fun u r _ => Bool.rec (motive := fun _ => List W) (u :: ih r) (w :: r) (Nat.beq f j)) vs) ids vs
def snocN (ids : List Nat) (f : Nat) : List Nat := List.rec (motive := fun _ => List Nat) [f] (fun j _ ih => j :: ih) ids
/-! ### expressions -/
def eVar (i : Nat) : D := fun _ s n l => (fun w => defK .err (.ok w n l) w) (sget i s)
def eC (w : W) : D := fun _ _ n l => .ok w n l
def eNat2 (f : Nat → Nat → W) (a b : D) : D := fun c s n l => (a c s n l).b fun x n1 l1 => (b c s n1 l1).b fun y n2 l2 => natK .err (fun i => natK .err (fun j => .ok (f i j) n2 l2) y) x
abbrev eAdd : D → D → D := eNat2 fun i j => .nat (Nat.add i j)
def eMul (a b : D) : D := fun c s n l => (a c s n l).b fun x n1 l1 => (b c s n1 l1).b fun y n2 l2 => natK .err (fun i => natK .err (fun j => Bool.rec (motive := fun _ => Rs) .err (.ok (.nat (Nat.mul i j)) n2 l2) (Nat.blt i 1000000)) y) x
abbrev eBand : D → D → D := eNat2 fun i j => .nat (Nat.land i j)
abbrev eBor : D → D → D := eNat2 fun i j => .nat (Nat.lor i j)
abbrev eLt : D → D → D := eNat2 fun i j => .bl (Nat.blt i j)
abbrev eLe : D → D → D := eNat2 fun i j => .bl (Nat.ble i j)
abbrev eGt : D → D → D := eNat2 fun i j => .bl (Nat.blt j i)
abbrev eGe : D → D → D := eNat2 fun i j => .bl (Nat.ble j i)
def eSub (a b : D) : D := fun c s n l => (a c s n l).b fun x n1 l1 => (b c s n1 l1).b fun y n2 l2 => natK .err (fun i => natK .err (fun j => Bool.rec (motive := fun _ => Rs) .err (.ok (.nat (Nat.sub i j)) n2 l2) (Nat.ble j i)) y) x
def eMod (a b : D) : D := fun c s n l => (a c s n l).b fun x n1 l1 => (b c s n1 l1).b fun y n2 l2 => natK .err (fun i => natK .err (fun j => Bool.rec (motive := fun _ => Rs) (.ok (.nat (Nat.mod i j)) n2 l2) .err (Nat.beq j 0)) y) x
/-- a text that may be a key (2 and 3 may be the same texts as 0 and 1, the drawn names); two texts that are the same just where their numbers are -/
def plainS (s : Nat) : Bool := Bool.rec (motive := fun _ => Bool) true false (Nat.beq (Nat.div s 2) 1)
def sep (i j : Nat) : Bool := Bool.rec (motive := fun _ => Bool) (Bool.rec (motive := fun _ => Bool) (Nat.beq (Nat.div i 2) (Nat.div j 2)) true (Nat.ble 4 j)) true (Nat.ble 4 i)
/-- == of two ints, two texts, two bools -/
def weq {R : Type} (e : R) (k : Bool → R) (x y : W) : R :=
  W.rec (motive_1 := fun _ => R) (motive_2 := fun _ => Unit) e e (fun b => blK e (fun d => k (Bool.rec (motive := fun _ => Bool) (Bool.rec (motive := fun _ => Bool) true false d) d b)) y) (fun i => natK e (fun j => k (Nat.beq i j)) y)
    (fun i => W.rec (motive_1 := fun _ => R) (motive_2 := fun _ => Unit) e e (fun _ => e) (fun _ => e) (fun j => Bool.rec (motive := fun _ => R) e (k (Nat.beq i j)) (sep i j)) (fun _ _ => e) (fun _ _ => e) (fun _ _ => e) (fun _ _ _ _ _ => e) (fun _ _ _ _ => e) (fun _ => e) (fun _ => e) () (fun _ _ _ _ => ()) y)
    (fun _ _ => e) (fun _ _ => e) (fun _ _ => e) (fun _ _ _ _ _ => e) (fun _ _ _ _ => e) (fun _ => e) (fun _ => e) () (fun _ _ _ _ => ()) x
def neg (b : Bool) : Bool := Bool.rec (motive := fun _ => Bool) true false b
def eEq (a b : D) : D := fun c s n l => (a c s n l).b fun x n1 l1 => (b c s n1 l1).b fun y n2 l2 => weq .err (fun d => .ok (.bl d) n2 l2) x y
def eNe (a b : D) : D := fun c s n l => (a c s n l).b fun x n1 l1 => (b c s n1 l1).b fun y n2 l2 => weq .err (fun d => .ok (.bl (neg d)) n2 l2) x y
/-- == of two tuples of ints -/
def allNat (l : List W) : Bool := List.rec (motive := fun _ => Bool) true (fun w _ ih => natK false (fun _ => ih) w) l
def eEqT (a b : D) : D := fun c s n l => (a c s n l).b fun x n1 l1 => (b c s n1 l1).b fun y n2 l2 => tupK .err (fun p => tupK .err (fun q => Bool.rec (motive := fun _ => Rs) .err (Bool.rec (motive := fun _ => Rs) .err (.ok (.bl (keq x y)) n2 l2) (allNat q)) (allNat p)) y) x
def eIsN (a : D) : D := fun c s n l => (a c s n l).b fun x n1 l1 => .ok (.bl (isNon x)) n1 l1
def eNotN (a : D) : D := fun c s n l => (a c s n l).b fun x n1 l1 => .ok (.bl (neg (isNon x))) n1 l1
def flat (w : W) : Bool :=
  W.rec (motive_1 := fun _ => Bool) (motive_2 := fun _ => Unit) false false (fun _ => false) (fun _ => true) (fun s => plainS s) (fun _ _ => false) (fun _ _ => false) (fun _ _ => false) (fun _ _ _ _ _ => false) (fun _ _ _ _ => false) (fun _ => false) (fun _ => false) () (fun _ _ _ _ => ()) w
def flat0 (w : W) : Bool :=
  W.rec (motive_1 := fun _ => Bool) (motive_2 := fun _ => Unit) false false (fun _ => false) (fun _ => true) (fun _ => true) (fun _ _ => false) (fun _ _ => false) (fun _ _ => false) (fun _ _ _ _ _ => false) (fun _ _ _ _ => false) (fun _ => false) (fun _ => false) () (fun _ _ _ _ => ()) w
def strOr {R : Type} (e : R) (k : Nat → R) (w : W) : R :=
  W.rec (motive_1 := fun _ => R) (motive_2 := fun _ => Unit) e e (fun _ => e) (fun _ => e) k (fun _ _ => e) (fun _ _ => e) (fun _ _ => e) (fun _ _ _ _ _ => e) (fun _ _ _ _ => e) (fun _ => e) (fun _ => e) () (fun _ _ _ _ => ()) w
/-- two ints or texts that may be told apart by their numbers -/
def sepW (x y : W) : Bool := strOr true (fun i => strOr true (fun j => sep i j) y) x
def inOk (x : W) (l : List W) : Bool := Bool.rec (motive := fun _ => Bool) false (List.rec (motive := fun _ => Bool) true (fun w _ ih => Bool.rec (motive := fun _ => Bool) false (Bool.rec (motive := fun _ => Bool) false ih (sepW x w)) (flat0 w)) l) (flat0 x)
def allFlat (l : List W) : Bool := List.rec (motive := fun _ => Bool) true (fun w _ ih => Bool.rec (motive := fun _ => Bool) false ih (flat w)) l
/-- the number of a pair of small ints; of a number and an int or None -/
def pairK {R : Type} (e : R) (k : Nat → R) (w : W) : R :=
  tupK e (fun l => List.rec (motive := fun _ => R) e (fun x r _ => List.rec (motive := fun _ => R) e (fun y q _ => List.rec (motive := fun _ => R) (natK e (fun i => natK e (fun j => Bool.rec (motive := fun _ => R) e (Bool.rec (motive := fun _ => R) e (k (Nat.add 4096 (Nat.add (Nat.mul 64 i) j))) (Nat.blt i 64)) (Nat.blt j 64)) y) x) (fun _ _ _ => e) q) r) l) w
def spotK {R : Type} (e : R) (k : Nat → R) (w : W) : R :=
  tupK e (fun l => List.rec (motive := fun _ => R) e (fun x r _ => List.rec (motive := fun _ => R) e (fun y q _ => List.rec (motive := fun _ => R) (natK e (fun i => Bool.rec (motive := fun _ => R) e (Bool.rec (motive := fun _ => R) (natK e (fun j => Bool.rec (motive := fun _ => R) e (k (Nat.add 16384 (Nat.add (Nat.mul 512 i) (Nat.add j 1)))) (Nat.blt j 511)) y) (k (Nat.add 16384 (Nat.mul 512 i))) (isNon y)) (Nat.blt i 32)) x) (fun _ _ _ => e) q) r) l) w
def isKey (t : Bool) (w : W) : Bool := Bool.rec (motive := fun _ => Bool) (flat w) (tupK false allFlat w) t
/-- x in y, as a bool -/
def inW {R : Type} (e : R) (k : Bool → R) (x y : W) (l : Hl) : R :=
  W.rec (motive_1 := fun _ => R) (motive_2 := fun _ => Unit) e e (fun _ => e) (fun _ => e) (fun _ => e) (fun ws _ => Bool.rec (motive := fun _ => R) e (k (mem x ws)) (inOk x ws)) (fun ws _ => Bool.rec (motive := fun _ => R) e (k (mem x ws)) (inOk x ws))
    (fun ws _ => Bool.rec (motive := fun _ => R) e (k (mem x ws)) (inOk x ws)) (fun t ks _ _ _ => Bool.rec (motive := fun _ => R) e (k (mem x ks)) (isKey t x)) (fun _ _ _ _ => e)
    (fun i => hget e (fun o => O.rec (motive := fun _ => R) (fun ws => Bool.rec (motive := fun _ => R) e (k (mem x ws)) (inOk x ws)) (fun t ks _ => Bool.rec (motive := fun _ => R) e (k (mem x ks)) (isKey t x))
      (fun _ m => pairK e (fun i => k (defK false true (tget m 20 i))) x) (fun _ _ => e) (fun _ _ _ => e) o) l i) (fun _ => e) () (fun _ _ _ _ => ()) y
def eIn (a b : D) : D := fun c s n l => (a c s n l).b fun x n1 l1 => (b c s n1 l1).b fun y n2 l2 => inW .err (fun d => .ok (.bl d) n2 l2) x y l2
def eNotIn (a b : D) : D := fun c s n l => (a c s n l).b fun x n1 l1 => (b c s n1 l1).b fun y n2 l2 => inW .err (fun d => .ok (.bl (neg d)) n2 l2) x y l2
def oTold {R : Type} (e : R) (k : Nat → Tr → R) (o : O) : R := O.rec (motive := fun _ => R) (fun _ => e) (fun _ _ _ => e) (fun _ _ => e) k (fun _ _ _ => e) o
/-- k not in d, d[k] of a dict of spots -/
def eNotInS (a b : D) : D := fun c s n l => (a c s n l).b fun x n1 l1 => (b c s n1 l1).b fun y n2 l2 => refK .err (fun i => hget .err (oTold .err fun _ m => spotK .err (fun j => .ok (.bl (neg (defK false true (tget m 20 j)))) n2 l2) x) l2 i) y
def eIdxS (a b : D) : D := fun c s n l => (a c s n l).b fun x n1 l1 => (b c s n1 l1).b fun y n2 l2 => refK .err (fun i => hget .err (oTold .err fun _ m => spotK .err (fun j => blK .err (fun v => .ok (.bl v) n2 l2) (tget m 20 j)) y) l2 i) x
/-- a <= b <= c -/
def eLeLe (a b d : D) : D := fun c s n l => (a c s n l).b fun x n1 l1 => (b c s n1 l1).b fun y n2 l2 => natK .err (fun i => natK .err (fun j => Bool.rec (motive := fun _ => Rs) (.ok (.bl false) n2 l2) ((d c s n2 l2).b fun z n3 l3 => natK .err (fun k => .ok (.bl (Nat.ble j k)) n3 l3) z) (Nat.ble i j)) y) x
def eAnd (a b : D) : D := fun c s n l => (a c s n l).b fun x n1 l1 => blK .err (fun d => Bool.rec (motive := fun _ => Rs) (.ok (.bl false) n1 l1) (b c s n1 l1) d) x
def eOr (a b : D) : D := fun c s n l => (a c s n l).b fun x n1 l1 => blK .err (fun d => Bool.rec (motive := fun _ => Rs) (b c s n1 l1) (.ok (.bl true) n1 l1) d) x
def eNot (a : D) : D := fun c s n l => (a c s n l).b fun x n1 l1 => blK .err (fun d => .ok (.bl (neg d)) n1 l1) x
def eIf (t : T) (a b : D) : D := fun c s n l => (t c s n l).b fun d n1 l1 => Bool.rec (motive := fun _ => Rs) (b c s n1 l1) (a c s n1 l1) d
/-! tests -/
def tB (a : D) : T := fun c s n l => (a c s n l).bb fun x n1 l1 => blK .err (fun d => .ok d n1 l1) x
/-- truth of a list, a tuple, a bool -/
def tTr (a : D) : T := fun c s n l => (a c s n l).bb fun x n1 l1 => blK (seqK .err (fun ws => .ok (neg (isNil ws)) n1 l1) x l1) (fun d => .ok d n1 l1) x
def tAnd (a b : T) : T := fun c s n l => (a c s n l).bb fun d n1 l1 => Bool.rec (motive := fun _ => Rb) (.ok false n1 l1) (b c s n1 l1) d
def tOr (a b : T) : T := fun c s n l => (a c s n l).bb fun d n1 l1 => Bool.rec (motive := fun _ => Rb) (b c s n1 l1) (.ok true n1 l1) d
def tNot (a : T) : T := fun c s n l => (a c s n l).bb fun d n1 l1 => .ok (neg d) n1 l1
def tYes : T := fun _ _ n l => .ok true n l
/-! arguments, displays, calls -/
def aNil : A := fun _ _ n l => .ok [] n l
def aCons (a : D) (r : A) : A := fun c s n l => (a c s n l).ba fun x n1 l1 => (r c s n1 l1).ba fun xs n2 l2 => .ok (x :: xs) n2 l2
def few {R : Type} (e k : R) (ws : List W) : R := Bool.rec (motive := fun _ => R) e k (Nat.ble (lenG ws 0) 100000)
def eTup (a : A) : D := fun c s n l => (a c s n l).b fun xs n1 l1 => few .err (.ok (.tup xs) n1 l1) xs
def eLst (a : A) : D := fun c s n l => (a c s n l).b fun xs n1 l1 => few .err (.ok (.ref n1) (Nat.add n1 1) (.cons n1 (.lst xs) l1)) xs
/-- a written list that is never changed -/
def eLstF (a : A) : D := fun c s n l => (a c s n l).b fun xs n1 l1 => few .err (.ok (.lst xs) n1 l1) xs
def eDct (t : Bool) : D := fun _ _ n l => .ok (.ref n) (Nat.add n 1) (.cons n (.dct t [] []) l)
def eMap : D := fun _ _ n l => .ok (.ref n) (Nat.add n 1) (.cons n (.map 0 .nil) l)
def eTold : D := fun _ _ n l => .ok (.ref n) (Nat.add n 1) (.cons n (.told 0 .nil) l)
/-- {k: v}, the key an int -/
def eDct1 (i j : Nat) : D := fun _ s n l => natK .err (fun k => defK .err (.ok (.dct false [.nat k] [sget j s]) n l) (sget j s)) (sget i s)
def eCall (f : Nat) (a : A) : D := fun c s n l => (a c s n l).b fun xs n1 l1 => c f xs n1 l1
/-- a method: by the class of what it is called of -/
def look (e : Nat) (t : List (Nat × Nat)) (i : Nat) : Nat := List.rec (motive := fun _ => Nat) e (fun p _ ih => Bool.rec (motive := fun _ => Nat) ih p.2 (Nat.beq i p.1)) t
def eMeth (t : List (Nat × Nat)) (o : D) (a : A) : D := fun c s n l => (o c s n l).b fun x n1 l1 => insK .err (fun k _ _ => (a c s n1 l1).b fun xs n2 l2 => c (look 0 t k) (x :: xs) n2 l2) x l1
def eAttr (f : Nat) (o : D) : D := fun c s n l => (o c s n l).b fun x n1 l1 => insK .err (fun _ ids vs => fget .err (fun v => .ok v n1 l1) f ids vs) x l1
/-- a property that hands back an attribute, of one class -/
def eProp (k0 f : Nat) (o : D) : D := fun c s n l => (o c s n l).b fun x n1 l1 => insK .err (fun k ids vs => Bool.rec (motive := fun _ => Rs) .err (fget .err (fun v => .ok v n1 l1) f ids vs) (Nat.beq k k0)) x l1
/-- items -/
def nthK {R : Type} (e : R) (k : W → R) (i : Nat) (ws : List W) : R := (fun w => defK e (k w) w) (sget i ws)
def idxW {R : Type} (e : R) (k : W → R) (x y : W) (l : Hl) : R :=
  W.rec (motive_1 := fun _ => R) (motive_2 := fun _ => Unit) e e (fun _ => e) (fun _ => e) (fun _ => e) (fun ws _ => natK e (fun i => nthK e k i ws) y) (fun _ _ => e) (fun ws _ => natK e (fun i => nthK e k i ws) y)
    (fun _ ks vs _ _ => dlook e k y ks vs) (fun _ _ _ _ => e)
    (fun i => hget e (fun o => O.rec (motive := fun _ => R) (fun ws => natK e (fun i => nthK e k i ws) y) (fun _ ks vs => dlook e k y ks vs) (fun _ m => pairK e (fun i => nthK e k 0 [tget m 20 i]) y) (fun _ _ => e) (fun _ _ _ => e) o) l i) (fun _ => e) () (fun _ _ _ _ => ()) x
def eIdx (a b : D) : D := fun c s n l => (a c s n l).b fun x n1 l1 => (b c s n1 l1).b fun y n2 l2 => idxW .err (fun v => .ok v n2 l2) x y l2
def tl (ws : List W) : List W := List.rec (motive := fun _ => List W) [] (fun _ r _ => r) ws
def dropB (i : Nat) (ws : List W) : List W := Nat.rec (motive := fun _ => List W → List W) (fun ws => ws) (fun _ ih ws => ih (tl ws)) i ws
/-- t[1:] of a tuple; t[-2:] of a tuple of two or more; xs[:1] of a list -/
def eFrom1 (a : D) : D := fun c s n l => (a c s n l).b fun x n1 l1 => tupK .err (fun ws => List.rec (motive := fun _ => Rs) .err (fun _ r _ => .ok (.tup r) n1 l1) ws) x
def eLast2 (a : D) : D := fun c s n l => (a c s n l).b fun x n1 l1 => tupK .err (fun ws => Bool.rec (motive := fun _ => Rs) .err (.ok (.tup (dropB (Nat.sub (lenG ws 0) 2) ws)) n1 l1) (Nat.ble 2 (lenG ws 0))) x
def eTo1 (a : D) : D := fun c s n l => (a c s n l).b fun x n1 l1 => lstK .err (fun ws => .ok (.lst (List.rec (motive := fun _ => List W) [] (fun w _ _ => [w]) ws)) n1 l1) x l1
/-- xs + ys of lists, of tuples -/
def eCatL (a b : D) : D := fun c s n l => (a c s n l).b fun x n1 l1 => (b c s n1 l1).b fun y n2 l2 => lstK .err (fun p => lstK .err (fun q => few .err (.ok (.lst (app p q)) n2 l2) (app p q)) y l2) x l2
/-- .. that will be changed -/
def eCatM (a b : D) : D := fun c s n l => (a c s n l).b fun x n1 l1 => (b c s n1 l1).b fun y n2 l2 => lstK .err (fun p => lstK .err (fun q => few .err (.ok (.ref n2) (Nat.add n2 1) (.cons n2 (.lst (app p q)) l2)) (app p q)) y l2) x l2
def eCatT (a b : D) : D := fun c s n l => (a c s n l).b fun x n1 l1 => (b c s n1 l1).b fun y n2 l2 => tupK .err (fun p => tupK .err (fun q => few .err (.ok (.tup (app p q)) n2 l2) (app p q)) y) x
/-! built-ins -/
def eLen (a : D) : D := fun c s n l => (a c s n l).b fun x n1 l1 => seqK (dctK .err (fun t ks _ => Bool.rec (motive := fun _ => Rs) (.ok (.nat (lenG ks 0)) n1 l1) .err t) x l1) (fun ws => .ok (.nat (lenG ws 0)) n1 l1) x l1
def wtupK {R : Type} (e : R) (k : List W → R) (w : W) : R :=
  W.rec (motive_1 := fun _ => R) (motive_2 := fun _ => Unit) e e (fun _ => e) (fun _ => e) (fun _ => e) (fun _ _ => e) (fun l _ => k l) (fun _ _ => e) (fun _ _ _ _ _ => e) (fun _ _ _ _ => e) (fun _ => e) (fun _ => e) () (fun _ _ _ _ => ()) w
/-- tuple(..), list(..) -/
def eTuple (a : D) : D := fun c s n l => (a c s n l).b fun x n1 l1 => lstK (tupK (wtupK .err (fun ws => .ok (.wtup ws) n1 l1) x) (fun ws => .ok (.tup ws) n1 l1) x) (fun ws => .ok (.tup ws) n1 l1) x l1
def eList (a : D) : D := fun c s n l => (a c s n l).b fun x n1 l1 => seqK .err (fun ws => .ok (.ref n1) (Nat.add n1 1) (.cons n1 (.lst ws) l1)) x l1
/-- list(d) of a dict whose keys are tuples; list(d.values()), list(d.items()) -/
def eKeys (a : D) : D := fun c s n l => (a c s n l).b fun x n1 l1 => dctK .err (fun t ks _ => Bool.rec (motive := fun _ => Rs) .err (.ok (.lst ks) n1 l1) t) x l1
def eValues (a : D) : D := fun c s n l => (a c s n l).b fun x n1 l1 => refK .err (fun i => hget .err (oDct .err fun t _ vs => Bool.rec (motive := fun _ => Rs) .err (.ok (.lst vs) n1 l1) t) l1 i) x
def zipW (a b : List W) : List W := List.rec (motive := fun _ => List W → List W) (fun _ => []) (fun x _ ih b => List.rec (motive := fun _ => List W) [] (fun y r _ => .tup [x, y] :: ih r) b) a b
def eItems (a : D) : D := fun c s n l => (a c s n l).b fun x n1 l1 => refK .err (fun i => hget .err (oDct .err fun t ks vs => Bool.rec (motive := fun _ => Rs) (.ok (.lst (zipW ks vs)) n1 l1) .err t) l1 i) x
def anyB {R : Type} (e : R) (k : Bool → R) (ws : List W) : R := List.rec (motive := fun _ => Bool → R) k (fun w _ ih d => blK e (fun b => ih (Bool.rec (motive := fun _ => Bool) d true b)) w) ws false
def allB {R : Type} (e : R) (k : Bool → R) (ws : List W) : R := List.rec (motive := fun _ => Bool → R) k (fun w _ ih d => blK e (fun b => ih (Bool.rec (motive := fun _ => Bool) false d b)) w) ws true
def eAny (a : D) : D := fun c s n l => (a c s n l).b fun x n1 l1 => lstK .err (fun ws => anyB .err (fun b => .ok (.bl b) n1 l1) ws) x l1
def eAll (a : D) : D := fun c s n l => (a c s n l).b fun x n1 l1 => lstK .err (fun ws => allB .err (fun b => .ok (.bl b) n1 l1) ws) x l1
def eMax (a b : D) : D := eNat2 (fun i j => .nat (Bool.rec (motive := fun _ => Nat) i j (Nat.blt i j))) a b
def eInt (a : D) : D := fun c s n l => (a c s n l).b fun x n1 l1 => natK .err (fun i => .ok (.nat i) n1 l1) x
def ins (i : Nat) (ws : List W) : List W := List.rec (motive := fun _ => List W) [.nat i] (fun w r ih => natK [] (fun j => Bool.rec (motive := fun _ => List W) (w :: ih) (.nat i :: w :: r) (Nat.ble i j)) w) ws
def srt (ws : List W) : List W := List.rec (motive := fun _ => List W) [] (fun w _ ih => natK [] (fun i => ins i ih) w) ws
def eSorted (a : D) : D := fun c s n l => (a c s n l).b fun x n1 l1 => lstK .err (fun ws => Bool.rec (motive := fun _ => Rs) .err (.ok (.lst (srt ws)) n1 l1) (allNat ws)) x l1
/-- the built-in class of a value: 0 None 1 bool 2 int 3 str 4 tuple 5 list 6 dict -/
def kind (w : W) (l : Hl) : Nat :=
  W.rec (motive_1 := fun _ => Nat) (motive_2 := fun _ => Unit) 9 0 (fun _ => 1) (fun _ => 2) (fun _ => 3) (fun _ _ => 4) (fun _ _ => 4) (fun _ _ => 5) (fun t _ _ _ _ => Bool.rec (motive := fun _ => Nat) 6 9 t) (fun _ _ _ _ => 9)
    (fun i => hget 9 (fun o => O.rec (motive := fun _ => Nat) (fun _ => 5) (fun _ _ _ => 6) (fun _ _ => 6) (fun _ _ => 9) (fun _ _ _ => 9) o) l i) (fun _ => 9) () (fun _ _ _ _ => ()) w
/-- isinstance: of which of the kinds 0 to 6 it is true is told by the bits of m -/
def eIsi (m : Nat) (a : D) : D := fun c s n l => (a c s n l).b fun x n1 l1 => Bool.rec (motive := fun _ => Rs) .err (.ok (.bl (Nat.testBit m (kind x l1))) n1 l1) (Nat.ble (kind x l1) 6)
/-! methods of built-in things -/
def initL (ws : List W) : List W := List.rec (motive := fun _ => List W) [] (fun w r ih => List.rec (motive := fun _ => List W) [] (fun _ _ _ => w :: ih) r) ws
def lastK {R : Type} (e : R) (k : W → R) (ws : List W) : R := List.rec (motive := fun _ => R) e (fun w r ih => List.rec (motive := fun _ => R) (k w) (fun _ _ _ => ih) r) ws
/-- xs[-1] of a list -/
def eLastI (a : D) : D := fun c s n l => (a c s n l).b fun x n1 l1 => lstK .err (fun ws => lastK .err (fun v => .ok v n1 l1) ws) x l1
/-- a live list -/
def liveL {R : Type} (e : R) (k : Nat → List W → R) (w : W) (l : Hl) : R := refK e (fun i => hget e (oLst e (k i)) l i) w
def ePop (a : D) : D := fun c s n l => (a c s n l).b fun x n1 l1 => liveL .err (fun i ws => lastK .err (fun v => .ok v n1 (hset l1 i (.lst (initL ws)))) ws) x l1
def eAppend (a b : D) : D := fun c s n l => (a c s n l).b fun x n1 l1 => liveL .err (fun _ _ => (b c s n1 l1).b fun y n2 l2 => liveL .err (fun i ws => few .err (.ok .non n2 (hset l2 i (.lst (app ws [y])))) ws) x l2) x l1
def rmv {R : Type} (e : R) (k : List W → R) (x : Nat) (ws : List W) : R := List.rec (motive := fun _ => (List W → R) → R) (fun _ => e) (fun w r ih k => natK e (fun i => Bool.rec (motive := fun _ => R) (ih fun q => k (w :: q)) (k r) (Nat.beq x i)) w) ws k
def eRemove (a b : D) : D := fun c s n l => (a c s n l).b fun x n1 l1 => liveL .err (fun _ _ => (b c s n1 l1).b fun y n2 l2 => liveL .err (fun i ws => Bool.rec (motive := fun _ => Rs) .err (natK .err (fun j => rmv .err (fun q => .ok .non n2 (hset l2 i (.lst q))) j ws) y) (allNat ws)) x l2) x l1
/-- tuple.index of texts -/
def allStr (l : List W) : Bool := List.rec (motive := fun _ => Bool) true (fun w _ ih => Bool.rec (motive := fun _ => Bool) false ih (W.rec (motive_1 := fun _ => Bool) (motive_2 := fun _ => Unit) false false (fun _ => false) (fun _ => false) (fun s => plainS s) (fun _ _ => false) (fun _ _ => false) (fun _ _ => false) (fun _ _ _ _ _ => false) (fun _ _ _ _ => false) (fun _ => false) (fun _ => false) () (fun _ _ _ _ => ()) w)) l
def placeK {R : Type} (e : R) (k : Nat → R) (x : W) (ws : List W) (i : Nat) : R := List.rec (motive := fun _ => Nat → R) (fun _ => e) (fun w _ ih i => Bool.rec (motive := fun _ => R) (ih (Nat.add i 1)) (k i) (keq x w)) ws i
def eIndex (a b : D) : D := fun c s n l => (a c s n l).b fun x n1 l1 => (b c s n1 l1).b fun y n2 l2 => wtupK .err (fun ws => Bool.rec (motive := fun _ => Rs) .err (placeK .err (fun i => .ok (.nat i) n2 l2) y ws 0) (allStr (y :: ws))) x
/-- d.get(k, None), d.copy(), d.setdefault(k, v) of a live dict -/
def eGet (a b : D) : D := fun c s n l => (a c s n l).b fun x n1 l1 => dctK .err (fun _ _ _ => (b c s n1 l1).b fun y n2 l2 => dctK .err (fun t ks vs => Bool.rec (motive := fun _ => Rs) .err (dlook (.ok .non n2 l2) (fun v => .ok v n2 l2) y ks vs) (isKey t y)) x l2) x l1
/-- a dict with tuple keys is copied only while it is empty -/
def eCopy (a : D) : D := fun c s n l => (a c s n l).b fun x n1 l1 => dctK .err (fun t ks vs => Bool.rec (motive := fun _ => Rs) (.ok (.ref n1) (Nat.add n1 1) (.cons n1 (.dct t ks vs) l1)) (Bool.rec (motive := fun _ => Rs) .err (.ok (.ref n1) (Nat.add n1 1) (.cons n1 (.dct t ks vs) l1)) (isNil ks)) t) x l1
def liveD {R : Type} (e : R) (k : Nat → Bool → List W → List W → R) (w : W) (l : Hl) : R := refK e (fun i => hget e (oDct e (k i)) l i) w
def eSetdef (a b d : D) : D := fun c s n l => (a c s n l).b fun x n1 l1 => dctK .err (fun _ _ _ => (b c s n1 l1).b fun y n2 l2 => (d c s n2 l2).b fun z n3 l3 => liveD .err (fun i t ks vs => Bool.rec (motive := fun _ => Rs) (Bool.rec (motive := fun _ => Rs) .err
  (few .err (dlook (.ok z n3 (hset l3 i (.dct t (app ks [y]) (app vs [z])))) (fun v => .ok v n3 l3) y ks vs) ks) (isKey t y)) .err t) x l3) x l1
/-! ### what is walked -/
inductive Sr where
  | err | lst (ws : List W) (n : Nat) (l : Hl) | ref (en : Bool) (i : Nat) (n : Nat) (l : Hl)
abbrev G := CallT → List W → Nat → Hl → Sr
def Rs.bg (r : Rs) (k : W → Nat → Hl → Sr) : Sr := Rs.rec (motive := fun _ => Sr) .err k r
/-- a tuple, a list; a live list is read anew at each turn -/
def rng (i k : Nat) : List W := Nat.rec (motive := fun _ => Nat → List W) (fun _ => []) (fun _ ih i => .nat i :: ih (Nat.add i 1)) k i
def rngK {R : Type} (e : R) (k : Nat → R) (w : W) : R :=
  W.rec (motive_1 := fun _ => R) (motive_2 := fun _ => Unit) e e (fun _ => e) (fun _ => e) (fun _ => e) (fun _ _ => e) (fun _ _ => e) (fun _ _ => e) (fun _ _ _ _ _ => e) (fun _ _ _ _ => e) (fun _ => e) k () (fun _ _ _ _ => ()) w
def gSeq (a : D) : G := fun c s n l => (a c s n l).bg fun x n1 l1 => refK (seqK (rngK .err (fun k => Bool.rec (motive := fun _ => Sr) .err (.lst (rng 0 k) n1 l1) (Nat.blt k 1000000)) x) (fun ws => .lst ws n1 l1) x l1) (fun i => hget .err (oLst .err fun _ => .ref false i n1 l1) l1 i) x
/-- range(k) as a value -/
def eRange (a : D) : D := fun c s n l => (a c s n l).b fun x n1 l1 => natK .err (fun k => .ok (.rng k) n1 l1) x
def gRange (a : D) : G := fun c s n l => (a c s n l).bg fun x n1 l1 => natK .err (fun k => Bool.rec (motive := fun _ => Sr) .err (.lst (rng 0 k) n1 l1) (Nat.blt k 1000000)) x
def enu (i : Nat) (ws : List W) : List W := List.rec (motive := fun _ => Nat → List W) (fun _ => []) (fun w _ ih i => .tup [.nat i, w] :: ih (Nat.add i 1)) ws i
def gEnum (a : D) : G := fun c s n l => (a c s n l).bg fun x n1 l1 => refK (seqK .err (fun ws => .lst (enu 0 ws) n1 l1) x l1) (fun i => hget .err (oLst .err fun _ => .ref true i n1 l1) l1 i) x
/-- zip of two frozen lists -/
def gZip (a b : D) : G := fun c s n l => (a c s n l).bg fun x n1 l1 => (b c s n1 l1).bg fun y n2 l2 => refK (refK (lstK .err (fun p => lstK .err (fun q => .lst (zipW p q) n2 l2) y l2) x l2) (fun _ => .err) y) (fun _ => .err) x
/-- the keys of a frozen dict -/
def gKeys (a : D) : G := fun c s n l => (a c s n l).bg fun x n1 l1 => refK (dctK .err (fun _ ks _ => .lst ks n1 l1) x .nil) (fun _ => .err) x
/-- targets -/
def g1 {R : Type} (i : Nat) (e : R) (w : W) (s : List W) (k : List W → R) : R := k (sset i w s)
def g2 {R : Type} (i j : Nat) (e : R) (w : W) (s : List W) (k : List W → R) : R :=
  tupK e (fun l => List.rec (motive := fun _ => R) e (fun x r _ => List.rec (motive := fun _ => R) e (fun y q _ => List.rec (motive := fun _ => R) (k (sset j y (sset i x s))) (fun _ _ _ => e) q) r) l) w
def g3 {R : Type} (i j h : Nat) (e : R) (w : W) (s : List W) (k : List W → R) : R :=
  tupK e (fun l => List.rec (motive := fun _ => R) e (fun x r _ => List.rec (motive := fun _ => R) e (fun y q _ => List.rec (motive := fun _ => R) e (fun z p _ => List.rec (motive := fun _ => R) (k (sset h z (sset j y (sset i x s)))) (fun _ _ _ => e) p) q) r) l) w
abbrev Tg := {R : Type} → R → W → List W → (List W → R) → R
/-- the item of a live list at a place, with its place if it is enumerated -/
def itemK {R : Type} (e z : R) (k : W → R) (en : Bool) (i j : Nat) (l : Hl) : R :=
  hget e (oLst e fun ws => List.rec (motive := fun _ => R) z (fun w _ _ => k (Bool.rec (motive := fun _ => W) w (.tup [.nat j, w]) en)) (dropB j ws)) l i
/-! ### comprehensions -/
def lcL (g : List W → W → (List W → Ra) → Ra) (t : T) (a : D) (c : CallT) (s : List W) (ws : List W) (n : Nat) (l : Hl) : Ra :=
  List.rec (motive := fun _ => Nat → Hl → Ra) (fun n l => .ok [] n l)
    (fun w _ ih n l => g s w fun s1 => (t c s1 n l).ba fun d n1 l1 => Bool.rec (motive := fun _ => Ra) (ih n1 l1) ((a c s1 n1 l1).ba fun x n2 l2 => (ih n2 l2).ba fun r n3 l3 => .ok (x :: r) n3 l3) d) ws n l
def lcR (g : List W → W → (List W → Ra) → Ra) (t : T) (a : D) (c : CallT) (s : List W) (en : Bool) (i : Nat) (f j : Nat) (n : Nat) (l : Hl) : Ra :=
  Nat.rec (motive := fun _ => Nat → Nat → Hl → Ra) (fun _ _ _ => .err)
    (fun _ ih j n l => itemK .err (.ok [] n l) (fun w => g s w fun s1 => (t c s1 n l).ba fun d n1 l1 => Bool.rec (motive := fun _ => Ra) (ih (Nat.add j 1) n1 l1) ((a c s1 n1 l1).ba fun x n2 l2 => (ih (Nat.add j 1) n2 l2).ba fun r n3 l3 => .ok (x :: r) n3 l3) d) en i j l) f j n l
def lcG (src : G) (g : List W → W → (List W → Ra) → Ra) (t : T) (a : D) : A := fun c s n l =>
  Sr.rec (motive := fun _ => Ra) .err (fun ws n1 l1 => lcL g t a c s ws n1 l1) (fun en i n1 l1 => lcR g t a c s en i 4096 0 n1 l1) (src c s n l)
def eLc (src : G) (g : List W → W → (List W → Ra) → Ra) (t : T) (a : D) : D := fun c s n l => (lcG src g t a c s n l).b fun ws n1 l1 => few .err (.ok (.lst ws) n1 l1) ws
/-- two clauses; v: the slot of the second one's name -/
def lc2L (g : List W → W → (List W → Ra) → Ra) (r : A) (v : Nat) (c : CallT) (s : List W) (ws : List W) (n : Nat) (l : Hl) : Ra :=
  List.rec (motive := fun _ => Nat → Hl → Ra) (fun n l => .ok [] n l)
    (fun w _ ih n l => g (sset v .un s) w fun s1 => (r c s1 n l).ba fun xs n1 l1 => (ih n1 l1).ba fun r n3 l3 => .ok (app xs r) n3 l3) ws n l
def eLc2 (src : G) (g : List W → W → (List W → Ra) → Ra) (src1 : G) (g1 : List W → W → (List W → Ra) → Ra) (v : Nat) (a : D) : D := fun c s n l =>
  (Sr.rec (motive := fun _ => Ra) .err (fun ws n1 l1 => lc2L g (lcG src1 g1 tYes a) v c s ws n1 l1) (fun _ _ _ _ => .err) (src c s n l)).b fun ws n1 l1 => few .err (.ok (.lst ws) n1 l1) ws
/-- a dict comprehension with unlike keys -/
def dcL (g : List W → W → (List W → Ra) → Ra) (kx vx : D) (c : CallT) (s : List W) (ws : List W) (n : Nat) (l : Hl) : Ra :=
  List.rec (motive := fun _ => Nat → Hl → Ra) (fun n l => .ok [] n l)
    (fun w _ ih n l => g s w fun s1 => (kx c s1 n l).ba fun k n1 l1 => (vx c s1 n1 l1).ba fun x n2 l2 => (ih n2 l2).ba fun r n3 l3 => .ok (k :: x :: r) n3 l3) ws n l
def evens (ws : List W) : List W := List.rec (motive := fun _ => Bool → List W) (fun _ => []) (fun w _ ih b => Bool.rec (motive := fun _ => List W) (w :: ih true) (ih false) b) ws false
def odds (ws : List W) : List W := List.rec (motive := fun _ => Bool → List W) (fun _ => []) (fun w _ ih b => Bool.rec (motive := fun _ => List W) (w :: ih true) (ih false) b) ws true
def nodup (ws : List W) : Bool := List.rec (motive := fun _ => Bool) true (fun w r ih => Bool.rec (motive := fun _ => Bool) ih false (mem w r)) ws
def allKey (t : Bool) (ws : List W) : Bool := List.rec (motive := fun _ => Bool) true (fun w _ ih => Bool.rec (motive := fun _ => Bool) false ih (isKey t w)) ws
def eDc (t : Bool) (src : G) (g : List W → W → (List W → Ra) → Ra) (kx vx : D) : D := fun c s n l =>
  (Sr.rec (motive := fun _ => Ra) .err (fun ws n1 l1 => dcL g kx vx c s ws n1 l1) (fun _ _ _ _ => .err) (src c s n l)).b fun ws n1 l1 =>
    few .err (Bool.rec (motive := fun _ => Rs) .err (Bool.rec (motive := fun _ => Rs) .err (.ok (.dct t (evens ws) (odds ws)) n1 l1) (nodup (evens ws))) (allKey t (evens ws))) ws
/-! ### statements -/
def sNil : S := fun _ s n l => .nx s n l
def sSeq (a b : S) : S := fun c s n l => So.rec (motive := fun _ => So) .err (fun s1 n1 l1 => b c s1 n1 l1) .rt .bk .ct (a c s n l)
def sAsg (g : List W → W → (List W → So) → So) (a : D) : S := fun c s n l => (a c s n l).bs fun x n1 l1 => g s x fun s1 => .nx s1 n1 l1
/-- x, y = a, b (both written) -/
def sPar (i j : Nat) (a b : D) : S := fun c s n l => (a c s n l).bs fun x n1 l1 => (b c s n1 l1).bs fun y n2 l2 => .nx (sset j y (sset i x s)) n2 l2
def sExpr (a : D) : S := fun c s n l => (a c s n l).bs fun _ n1 l1 => .nx s n1 l1
/-- o.f = e, o a live instance -/
def sAttr (f : Nat) (o a : D) : S := fun c s n l => (a c s n l).bs fun x n1 l1 => (o c s n1 l1).bs fun y n2 l2 => refK .err (fun i => hget .err (oIns .err fun k ids vs =>
  Bool.rec (motive := fun _ => So) .err (.nx s n2 (hset l2 i (Bool.rec (motive := fun _ => O) (.ins k (snocN ids f) (app vs [x])) (.ins k ids (fput f x ids vs)) (fhas f ids)))) (Nat.blt (lenG vs 0) 900)) l2 i) y
/-- d[k] = e, xs[i] = e -/
def lset {R : Type} (e : R) (k : List W → R) (i : Nat) (w : W) (ws : List W) : R := Bool.rec (motive := fun _ => R) e (k (sset i w ws)) (Nat.blt i (lenG ws 0))
def putW (l : Hl) (o k v : W) (done : Hl → So) : So :=
  refK .err (fun i => hget .err (fun ob => O.rec (motive := fun _ => So) (fun ws => natK .err (fun j => lset .err (fun q => done (hset l i (.lst q))) j v ws) k)
    (fun t ks vs => Bool.rec (motive := fun _ => So) .err (few .err (done (hset l i (Bool.rec (motive := fun _ => O) (.dct t (app ks [k]) (app vs [v])) (.dct t ks (vput k v ks vs)) (mem k ks)))) ks) (isKey t k))
    (fun h m => pairK .err (fun j => defK .err (Bool.rec (motive := fun _ => So) .err (done (hset l i (.map (Nat.add h 1) (tput m 20 j v)))) (Nat.blt h 1000000)) v) k) (fun _ _ => .err) (fun _ _ _ => .err) ob) l i) o
def sSub (o k a : D) : S := fun c s n l => (a c s n l).bs fun v n1 l1 => (o c s n1 l1).bs fun x n2 l2 => (k c s n2 l2).bs fun y n3 l3 => putW l3 x y v fun q => .nx s n3 q
def sAug (i : Nat) (f : D → D → D) (a : D) : S := fun c s n l => (f (eVar i) a c s n l).bs fun x n1 l1 => .nx (sset i x s) n1 l1
/-- o[k] = e of a dict of spots; the values bools -/
def sSubS (o k a : D) : S := fun c s n l => (a c s n l).bs fun v n1 l1 => (o c s n1 l1).bs fun x n2 l2 => (k c s n2 l2).bs fun y n3 l3 => refK .err (fun i => hget .err (oTold .err fun h m => spotK .err (fun j => blK .err (fun _ =>
  Bool.rec (motive := fun _ => So) .err (.nx s n3 (hset l3 i (.told (Nat.add h 1) (tput m 20 j v)))) (Nat.blt h 1000000)) v) y) l3 i) x
/-- xs[i] -= e -/
def sAugL (o k a : D) : S := fun c s n l => (o c s n l).bs fun x n1 l1 => (k c s n1 l1).bs fun y n2 l2 => refK .err (fun i => hget .err (oLst .err fun ws => natK .err (fun j => nthK .err (fun u => (a c s n2 l2).bs fun v n3 l3 =>
  natK .err (fun p => natK .err (fun q => Bool.rec (motive := fun _ => So) .err (hget .err (oLst .err fun w2 => lset .err (fun r => .nx s n3 (hset l3 i (.lst r))) j (.nat (Nat.sub p q)) w2) l3 i) (Nat.ble q p)) v) u) j ws) y) l2 i) x
def sIf (t : T) (a b : S) : S := fun c s n l => (t c s n l).bs fun d n1 l1 => Bool.rec (motive := fun _ => So) (b c s n1 l1) (a c s n1 l1) d
def sRet (a : D) : S := fun c s n l => (a c s n l).bs fun x n1 l1 => .rt x n1 l1
def sNever : S := fun _ _ _ _ => .err
def sBreak : S := fun _ s n l => .bk s n l
def forL (g : List W → W → (List W → So) → So) (b : S) (c : CallT) (ws : List W) (s : List W) (n : Nat) (l : Hl) : So :=
  List.rec (motive := fun _ => List W → Nat → Hl → So) (fun s n l => .nx s n l)
    (fun w _ ih s n l => g s w fun s1 => So.rec (motive := fun _ => So) .err (fun s2 n2 l2 => ih s2 n2 l2) .rt .nx (fun s2 n2 l2 => ih s2 n2 l2) (b c s1 n l)) ws s n l
def forR (g : List W → W → (List W → So) → So) (b : S) (c : CallT) (en : Bool) (i f j : Nat) (s : List W) (n : Nat) (l : Hl) : So :=
  Nat.rec (motive := fun _ => Nat → List W → Nat → Hl → So) (fun _ _ _ _ => .err)
    (fun _ ih j s n l => itemK .err (.nx s n l) (fun w => g s w fun s1 => So.rec (motive := fun _ => So) .err (fun s2 n2 l2 => ih (Nat.add j 1) s2 n2 l2) .rt .nx (fun s2 n2 l2 => ih (Nat.add j 1) s2 n2 l2) (b c s1 n l)) en i j l) f j s n l
def sFor (src : G) (g : List W → W → (List W → So) → So) (b : S) : S := fun c s n l =>
  Sr.rec (motive := fun _ => So) .err (fun ws n1 l1 => forL g b c ws s n1 l1) (fun en i n1 l1 => forR g b c en i 4096 0 s n1 l1) (src c s n l)
def sWhile (t : T) (b : S) : S := fun c s n l =>
  Nat.rec (motive := fun _ => List W → Nat → Hl → So) (fun _ _ _ => .err)
    (fun _ ih s n l => (t c s n l).bs fun d n1 l1 => Bool.rec (motive := fun _ => So) (.nx s n1 l1) (So.rec (motive := fun _ => So) .err (fun s2 n2 l2 => ih s2 n2 l2) .rt .nx (fun s2 n2 l2 => ih s2 n2 l2) (b c s n1 l1)) d) 4096 s n l
/-! ### freezing -/
inductive Fz where
  | err | ok (w : W) (l : Hl)
inductive Fzs where
  | err | ok (ws : List W) (l : Hl)
def Fz.b {R : Type} (e : R) (k : W → Hl → R) (r : Fz) : R := Fz.rec (motive := fun _ => R) e k r
def Fzs.b {R : Type} (e : R) (k : List W → Hl → R) (r : Fzs) : R := Fzs.rec (motive := fun _ => R) e k r
/-- a value, what it holds of the heap from n on held by value from now on -/
def fzs (z : W → Hl → Fz) (ws : List W) (l : Hl) : Fzs := List.rec (motive := fun _ => Hl → Fzs) (fun l => .ok [] l) (fun w _ ih l => (z w l).b .err fun x l1 => (ih l1).b .err fun r l2 => .ok (x :: r) l2) ws l
def fz (f : Nat) (w : W) (l : Hl) : Fz :=
  Nat.rec (motive := fun _ => W → Hl → Fz) (fun _ _ => .err)
    (fun _ ih w l => W.rec (motive_1 := fun _ => Fz) (motive_2 := fun _ => Unit) .err (.ok w l) (fun _ => .ok w l) (fun _ => .ok w l) (fun _ => .ok w l) (fun ws _ => (fzs ih ws l).b .err fun r l1 => .ok (.tup r) l1) (fun _ _ => .ok w l) (fun _ _ => .ok w l) (fun t ks vs _ _ => (fzs ih vs l).b .err fun r l1 => .ok (.dct t ks r) l1) (fun _ _ _ _ => .ok w l)
      (fun i => hget .err (fun o => O.rec (motive := fun _ => Fz) (fun ws => (fzs ih ws (hdel l i)).b .err fun r l1 => .ok (.lst r) l1) (fun t ks vs => (fzs ih vs (hdel l i)).b .err fun r l1 => .ok (.dct t ks r) l1) (fun _ _ => .ok w l) (fun _ _ => .ok w l)
        (fun c ids vs => (fzs ih vs (hdel l i)).b .err fun r l1 => .ok (.obj c ids r) l1) o) l i) (fun _ => .ok w l) () (fun _ _ _ _ => ()) w) f w l
/-! ### defs -/
/-- a def: how many slots beside its parameters, how it hands back (0 as it is, 1 what was laid is forgotten, 2 frozen and forgotten), its body -/
inductive Fn where
  | fn (pad : List W) (mode : Nat) (b : S)
  | mk (c : Nat) (init : Nat) (pre frz : Bool)
def handed (mode n0 : Nat) (w : W) (n : Nat) (l : Hl) : Rs :=
  Nat.rec (motive := fun _ => Rs) (.ok w n l) (fun m _ => Nat.rec (motive := fun _ => Rs) (.ok w n (hdrop l n0)) (fun _ _ => (fz 8 w l).b .err fun x l1 => .ok x n (hdrop l1 n0)) m) mode
def run (fns : Nat → Fn) (k : Nat) : CallT :=
  Nat.rec (motive := fun _ => CallT) (fun _ _ _ _ => .err)
    (fun _ ih f ws n l => Fn.rec (motive := fun _ => Rs)
      (fun pad mode b => So.rec (motive := fun _ => Rs) .err (fun _ n1 l1 => handed mode n .non n1 l1) (fun w n1 l1 => handed mode n w n1 l1) (fun _ _ _ => .err) (fun _ _ _ => .err) (b ih (app ws pad) n l))
      (fun c init pre frz => (Bool.rec (motive := fun _ => Fzs) (.ok ws l) (fzs (fz 8) ws l) pre).b .err fun ws l =>
        (ih init (.ref n :: ws) (Nat.add n 1) (.cons n (.ins c [] []) l)).b fun v n1 l1 => Bool.rec (motive := fun _ => Rs) .err (Bool.rec (motive := fun _ => Rs) (.ok (.ref n) n1 l1) ((fz 8 (.ref n) l1).b .err fun x l2 => .ok x n1 l2) frz) (isNon v))
      (fns f)) k
end
end Ev
end

section
/-! Ev2: two more terms of the small machine, of the drawn names alone (the texts 0 and 1). -/
set_option autoImplicit false
namespace Ev
noncomputable section
/-- name in KEPT_WORDS: no drawn name is one -/
def eInKept (a : D) : D := fun c s n l => (a c s n l).b fun x n1 l1 => strOr .err (fun i => Bool.rec (motive := fun _ => Rs) .err (.ok (.bl false) n1 l1) (Nat.blt i 2)) x
/-- a tuple that is locked where it is made: it has no dict -/
def eTupW (a : A) : D := fun c s n l => (a c s n l).b fun xs n1 l1 => few .err (.ok (.wtup xs) n1 l1) xs
/-- is_word: each drawn name is one -/
def sWord : S := fun _ s n l => strOr .err (fun i => Bool.rec (motive := fun _ => So) .err (.rt (.bl true) n l) (Nat.blt i 2)) (sget 0 s)
end
end Ev
end

section
set_option maxRecDepth 100000
set_option linter.all false
namespace Ev
noncomputable section
def b_is_within : S := (sRet (eAnd (eCall 109 (aCons (eVar 0) aNil)) (eLeLe (eVar 1) (eVar 0) (eVar 2))))
def b_is_sequence : S := (sRet (eIsi 48 (eVar 0)))
def b_is_tuple : S := (sRet (eAnd (eIsi 16 (eVar 0)) (eEq (eLen (eVar 0)) (eVar 1))))
def b_is_headed : S := (sRet (eAnd (eCall 3 (aCons (eVar 0) (aCons (eVar 2) aNil))) (eAnd (eIsi 8 (eIdx (eVar 0) (eC (.nat 0)))) (eEq (eIdx (eVar 0) (eC (.nat 0))) (eVar 1)))))
def b_is_key : S := (sRet (eAnd (eIsi 8 (eVar 0)) (eIn (eVar 0) (eVar 1))))
def b_is_name : S := (sRet (eCall 5 (aCons (eVar 0) (aCons (eC (.wtup [.str 4, .str 5])) aNil))))
def b_is_test : S := (sSeq (sIf (tTr (eCall 4 (aCons (eVar 1) (aCons (eC (.str 8)) (aCons (eC (.nat 1)) aNil))))) (sRet (eC (.bl true))) sNil) (sSeq (sIf (tTr (eCall 4 (aCons (eVar 1) (aCons (eC (.str 7)) (aCons (eC (.nat 3)) aNil))))) (sRet (eAnd (eCall 5 (aCons (eIdx (eVar 1) (eC (.nat 1))) (aCons (eProp 12 1 (eVar 0)) aNil))) (eCall 6 (aCons (eIdx (eVar 1) (eC (.nat 2))) aNil)))) sNil) (sSeq (sIf (tTr (eCall 4 (aCons (eVar 1) (aCons (eC (.str 2)) (aCons (eC (.nat 4)) aNil))))) (sRet (eAnd (eCall 5 (aCons (eIdx (eVar 1) (eC (.nat 1))) (aCons (eProp 12 0 (eVar 0)) aNil))) (eAnd (eCall 6 (aCons (eIdx (eVar 1) (eC (.nat 2))) aNil)) (eCall 6 (aCons (eIdx (eVar 1) (eC (.nat 3))) aNil))))) sNil) (sRet (eAnd (eCall 4 (aCons (eVar 1) (aCons (eC (.str 6)) (aCons (eC (.nat 3)) aNil)))) (eAnd (eCall 6 (aCons (eIdx (eVar 1) (eC (.nat 1))) aNil)) (eCall 6 (aCons (eIdx (eVar 1) (eC (.nat 2))) aNil))))))))
def b_parts_of : S := (sSeq (sIf (tTr (eCall 7 (aCons (eVar 0) (aCons (eVar 1) aNil)))) (sRet (eLstF aNil)) sNil) (sSeq (sIf (tTr (eCall 4 (aCons (eVar 1) (aCons (eC (.str 13)) (aCons (eC (.nat 2)) aNil))))) (sRet (eLstF (aCons (eIdx (eVar 1) (eC (.nat 1))) aNil))) sNil) (sSeq (sIf (tOr (tNot (tTr (eCall 3 (aCons (eVar 1) (aCons (eC (.nat 3)) aNil))))) (tNot (tTr (eIsi 8 (eIdx (eVar 1) (eC (.nat 0))))))) (sRet (eC .non)) sNil) (sSeq (sIf (tB (eIn (eIdx (eVar 1) (eC (.nat 0))) (eC (.wtup [.str 11, .str 12])))) (sRet (eLstF (aCons (eIdx (eVar 1) (eC (.nat 1))) (aCons (eIdx (eVar 1) (eC (.nat 2))) aNil)))) sNil) (sSeq (sIf (tAnd (tB (eIn (eIdx (eVar 1) (eC (.nat 0))) (eC (.wtup [.str 9, .str 10])))) (tTr (eCall 6 (aCons (eIdx (eVar 1) (eC (.nat 1))) aNil)))) (sRet (eLstF (aCons (eIdx (eVar 1) (eC (.nat 2))) aNil))) sNil) (sRet (eC .non)))))))
def b_is_saying : S := (sSeq (sAsg (fun s w => g1 2 So.err w s) (eLst (aCons (eTup (aCons (eVar 1) (aCons (eC (.nat 1)) aNil))) aNil))) (sSeq (sAsg (fun s w => g1 3 So.err w s) (eC (.nat 0))) (sSeq (sWhile (tTr (eVar 2)) (sSeq (sAsg (fun s w => g2 4 5 So.err w s) (ePop (eVar 2))) (sSeq (sAug 3 eAdd (eC (.nat 1))) (sSeq (sAsg (fun s w => g1 6 So.err w s) (eCall 8 (aCons (eVar 0) (aCons (eVar 4) aNil)))) (sSeq (sIf (tOr (tB (eIsN (eVar 6))) (tOr (tB (eGt (eVar 3) (eC (.nat 100)))) (tB (eGt (eVar 5) (eC (.nat 20)))))) (sRet (eC (.bl false))) sNil) (sFor (gSeq (eVar 6)) (fun s w => g1 7 So.err w s) (sExpr (eAppend (eVar 2) (eTup (aCons (eVar 7) (aCons (eAdd (eVar 5) (eC (.nat 1))) aNil))))))))))) (sRet (eC (.bl true))))))
def b_sayings_in : S := (sSeq (sIf (tB (eEq (eIdx (eVar 0) (eC (.nat 0))) (eC (.str 13)))) (sRet (eTup (aCons (eIdx (eVar 0) (eC (.nat 1))) aNil))) sNil) (sSeq (sIf (tB (eIn (eIdx (eVar 0) (eC (.nat 0))) (eC (.wtup [.str 11, .str 12])))) (sRet (eTup (aCons (eIdx (eVar 0) (eC (.nat 1))) (aCons (eIdx (eVar 0) (eC (.nat 2))) aNil)))) sNil) (sSeq (sIf (tB (eIn (eIdx (eVar 0) (eC (.nat 0))) (eC (.wtup [.str 9, .str 10])))) (sRet (eTup (aCons (eIdx (eVar 0) (eC (.nat 2))) aNil))) sNil) (sRet (eTup aNil)))))
def b_own_names : S := (sSeq (sIf (tB (eEq (eIdx (eVar 0) (eC (.nat 0))) (eC (.str 7)))) (sRet (eTup (aCons (eIdx (eVar 0) (eC (.nat 2))) aNil))) sNil) (sSeq (sIf (tB (eEq (eIdx (eVar 0) (eC (.nat 0))) (eC (.str 2)))) (sRet (eTup (aCons (eIdx (eVar 0) (eC (.nat 2))) (aCons (eIdx (eVar 0) (eC (.nat 3))) aNil)))) sNil) (sSeq (sIf (tB (eEq (eIdx (eVar 0) (eC (.nat 0))) (eC (.str 6)))) (sRet (eTup (aCons (eIdx (eVar 0) (eC (.nat 1))) (aCons (eIdx (eVar 0) (eC (.nat 2))) aNil)))) sNil) (sRet (eTup aNil)))))
def b_free_names : S := (sSeq (sAsg (fun s w => g1 1 So.err w s) (eDct false)) (sSeq (sFor (gSeq (eCall 11 (aCons (eVar 0) aNil))) (fun s w => g1 2 So.err w s) (sSub (eVar 1) (eVar 2) (eC (.bl true)))) (sSeq (sFor (gSeq (eCall 10 (aCons (eVar 0) aNil))) (fun s w => g1 3 So.err w s) (sFor (gSeq (eCall 12 (aCons (eVar 3) aNil))) (fun s w => g1 2 So.err w s) (sIf (tOr (tB (eNotIn (eIdx (eVar 0) (eC (.nat 0))) (eC (.wtup [.str 9, .str 10])))) (tB (eNe (eVar 2) (eIdx (eVar 0) (eC (.nat 1)))))) (sSub (eVar 1) (eVar 2) (eC (.bl true))) sNil))) (sRet (eTuple (eLc (gSeq (eC (.wtup [.str 4, .str 5]))) (fun s w => g1 2 Ra.err w s) (tB (eIn (eVar 2) (eVar 1))) (eVar 2)))))))
def b_check_saying : S := (sIf (tNot (tTr (eCall 9 (aCons (eVar 0) (aCons (eVar 1) aNil))))) sNever sNil)
def b_check_closed : S := (sSeq (sExpr (eCall 13 (aCons (eVar 0) (aCons (eVar 1) aNil)))) (sIf (tTr (eCall 12 (aCons (eVar 1) aNil))) sNever sNil))
def b_Node___init__ : S := (sSeq (sAttr 6 (eVar 0) (eIdx (eVar 1) (eC (.nat 0)))) (sSeq (sAttr 5 (eVar 0) (eTuple (eLc (gSeq (eFrom1 (eVar 1))) (fun s w => g1 4 Ra.err w s) (tTr (eIsi 8 (eVar 4))) (eVar 4)))) (sSeq (sAttr 4 (eVar 0) (eVar 2)) (sSeq (sAttr 3 (eVar 0) (eCall 12 (aCons (eVar 1) aNil))) (sAttr 2 (eVar 0) (eVar 3))))))
def b_node_of : S := (sSeq (sAsg (fun s w => g1 2 So.err w s) (eLc (gSeq (eCall 10 (aCons (eVar 0) aNil))) (fun s w => g1 5 Ra.err w s) tYes (eCall 16 (aCons (eVar 5) (aCons (eVar 1) aNil))))) (sSeq (sAsg (fun s w => g1 3 So.err w s) (eIf (tB (eIn (eIdx (eVar 0) (eC (.nat 0))) (eC (.wtup [.str 9, .str 10])))) (eLen (eVar 1)) (eC .non))) (sSeq (sAsg (fun s w => g1 4 So.err w s) (eCall 114 (aCons (eVar 0) (aCons (eVar 2) (aCons (eVar 3) aNil))))) (sSeq (sIf (tB (eNotN (eVar 3))) (sExpr (eAppend (eVar 1) (eVar 4))) sNil) (sRet (eVar 4))))))
def b_Reading___init__ : S := (sSeq (sAttr 8 (eVar 0) (eVar 1)) (sAttr 7 (eVar 0) eTold))
def b_Reading_flag : S := (sSeq (sAsg (fun s w => g1 4 So.err w s) (eAttr 6 (eVar 1))) (sSeq (sIf (tB (eEq (eVar 4) (eC (.str 13)))) (sRet (eNot (eMeth [(1, 18)] (eVar 0) (aCons (eIdx (eAttr 4 (eVar 1)) (eC (.nat 0))) (aCons (eVar 2) (aCons (eVar 3) aNil)))))) sNil) (sSeq (sIf (tB (eEq (eVar 4) (eC (.str 11)))) (sRet (eAnd (eMeth [(1, 18)] (eVar 0) (aCons (eIdx (eAttr 4 (eVar 1)) (eC (.nat 0))) (aCons (eVar 2) (aCons (eVar 3) aNil)))) (eMeth [(1, 18)] (eVar 0) (aCons (eIdx (eAttr 4 (eVar 1)) (eC (.nat 1))) (aCons (eVar 2) (aCons (eVar 3) aNil)))))) sNil) (sSeq (sIf (tB (eEq (eVar 4) (eC (.str 12)))) (sRet (eOr (eMeth [(1, 18)] (eVar 0) (aCons (eIdx (eAttr 4 (eVar 1)) (eC (.nat 0))) (aCons (eVar 2) (aCons (eVar 3) aNil)))) (eMeth [(1, 18)] (eVar 0) (aCons (eIdx (eAttr 4 (eVar 1)) (eC (.nat 1))) (aCons (eVar 2) (aCons (eVar 3) aNil)))))) sNil) (sSeq (sIf (tB (eIn (eVar 4) (eTup (aCons (eC (.str 9)) (aCons (eC (.str 10)) aNil))))) (sRet (eMeth [(1, 20), (11, 98)] (eVar 0) (aCons (eVar 1) (aCons (eVar 2) (aCons (eVar 3) aNil))))) sNil) (sRet (eMeth [(1, 19)] (eVar 0) (aCons (eVar 1) (aCons (eVar 2) (aCons (eVar 3) aNil))))))))))
def b_Reading_test : S := (sSeq (sIf (tB (eEq (eAttr 6 (eVar 1)) (eC (.str 8)))) (sRet (eC (.bl true))) sNil) (sSeq (sAsg (fun s w => g1 4 So.err w s) (eLc (gSeq (eAttr 5 (eVar 1))) (fun s w => g1 5 Ra.err w s) (tB (eIn (eVar 5) (eTup (aCons (eC (.str 4)) (aCons (eC (.str 5)) aNil))))) (eIf (tB (eEq (eVar 5) (eC (.str 4)))) (eVar 2) (eVar 3)))) (sSeq (sIf (tB (eEq (eAttr 6 (eVar 1)) (eC (.str 7)))) (sRet (eMeth [(2, 30)] (eAttr 8 (eVar 0)) (aCons (eIdx (eAttr 5 (eVar 1)) (eC (.nat 0))) (aCons (eIdx (eVar 4) (eC (.nat 0))) aNil)))) sNil) (sSeq (sIf (tB (eEq (eAttr 6 (eVar 1)) (eC (.str 2)))) (sRet (eMeth [(2, 31)] (eAttr 8 (eVar 0)) (aCons (eIdx (eAttr 5 (eVar 1)) (eC (.nat 0))) (aCons (eIdx (eVar 4) (eC (.nat 0))) (aCons (eIdx (eVar 4) (eC (.nat 1))) aNil))))) sNil) (sRet (eEq (eIdx (eVar 4) (eC (.nat 0))) (eIdx (eVar 4) (eC (.nat 1)))))))))
def b_Reading_bound_flag : S := (sSeq (sAsg (fun s w => g1 4 So.err w s) (eC .non)) (sSeq (sIf (tTr (eAttr 3 (eVar 1))) (sAsg (fun s w => g1 4 So.err w s) (eIf (tB (eEq (eIdx (eAttr 3 (eVar 1)) (eC (.nat 0))) (eC (.str 4)))) (eVar 2) (eVar 3))) sNil) (sSeq (sAsg (fun s w => g1 5 So.err w s) (eTup (aCons (eAttr 2 (eVar 1)) (aCons (eVar 4) aNil)))) (sSeq (sIf (tB (eNotInS (eVar 5) (eAttr 7 (eVar 0)))) (sSubS (eAttr 7 (eVar 0)) (eVar 5) (eMeth [(1, 21)] (eVar 0) (aCons (eVar 1) (aCons (eVar 2) (aCons (eVar 3) aNil))))) sNil) (sRet (eIdxS (eAttr 7 (eVar 0)) (eVar 5)))))))
def b_Reading_searched : S := (sSeq (sAsg (fun s w => g1 4 So.err w s) (eEq (eAttr 6 (eVar 1)) (eC (.str 10)))) (sSeq (sFor (gRange (eAttr 9 (eAttr 8 (eVar 0)))) (fun s w => g1 5 So.err w s) (sSeq (sAsg (fun s w => g2 6 7 So.err w s) (eIf (tB (eEq (eIdx (eAttr 5 (eVar 1)) (eC (.nat 0))) (eC (.str 4)))) (eTup (aCons (eVar 5) (aCons (eVar 3) aNil))) (eTup (aCons (eVar 2) (aCons (eVar 5) aNil))))) (sIf (tB (eEq (eMeth [(1, 18)] (eVar 0) (aCons (eIdx (eAttr 4 (eVar 1)) (eC (.nat 0))) (aCons (eVar 6) (aCons (eVar 7) aNil)))) (eVar 4))) (sRet (eVar 4)) sNil))) (sRet (eNot (eVar 4)))))
def b_is_thing : S := (sRet (eCall 1 (aCons (eVar 0) (aCons (eC (.nat 0)) (aCons (eSub (eVar 1) (eC (.nat 1))) aNil)))))
def b_is_pair : S := (sRet (eAnd (eCall 3 (aCons (eVar 0) (aCons (eC (.nat 2)) aNil))) (eAnd (eCall 22 (aCons (eIdx (eVar 0) (eC (.nat 0))) (aCons (eVar 1) aNil))) (eCall 22 (aCons (eIdx (eVar 0) (eC (.nat 1))) (aCons (eVar 1) aNil))))))
def b_is_dict_of : S := (sSeq (sIf (tOr (tNot (tTr (eIsi 64 (eVar 0)))) (tB (eNe (eLen (eVar 0)) (eLen (eVar 1))))) (sRet (eC (.bl false))) sNil) (sSeq (sFor (gKeys (eVar 0)) (fun s w => g1 2 So.err w s) (sIf (tNot (tTr (eCall 5 (aCons (eVar 2) (aCons (eVar 1) aNil))))) (sRet (eC (.bl false))) sNil)) (sRet (eC (.bl true)))))
def b_are_things : S := (sSeq (sIf (tNot (tTr (eCall 2 (aCons (eVar 0) aNil)))) (sRet (eC (.bl false))) sNil) (sSeq (sAsg (fun s w => g1 2 So.err w s) (eDct false)) (sSeq (sFor (gSeq (eVar 0)) (fun s w => g1 3 So.err w s) (sSeq (sIf (tOr (tNot (tTr (eCall 22 (aCons (eVar 3) (aCons (eVar 1) aNil))))) (tB (eIn (eVar 3) (eVar 2)))) (sRet (eC (.bl false))) sNil) (sSub (eVar 2) (eVar 3) (eC (.bl true))))) (sRet (eC (.bl true))))))
def b_are_pairs : S := (sSeq (sIf (tNot (tTr (eCall 2 (aCons (eVar 0) aNil)))) (sRet (eC (.bl false))) sNil) (sSeq (sAsg (fun s w => g1 2 So.err w s) (eDct true)) (sSeq (sFor (gSeq (eVar 0)) (fun s w => g1 3 So.err w s) (sSeq (sIf (tOr (tNot (tTr (eCall 23 (aCons (eVar 3) (aCons (eVar 1) aNil))))) (tB (eIn (eVar 3) (eVar 2)))) (sRet (eC (.bl false))) sNil) (sSub (eVar 2) (eVar 3) (eC (.bl true))))) (sRet (eC (.bl true))))))
def b_check_marks : S := (sSeq (sIf (tNot (tTr (eCall 24 (aCons (eVar 2) (aCons (eProp 12 1 (eVar 0)) aNil))))) sNever sNil) (sFor (gKeys (eVar 2)) (fun s w => g1 3 So.err w s) (sIf (tNot (tTr (eCall 25 (aCons (eIdx (eVar 2) (eVar 3)) (aCons (eVar 1) aNil))))) sNever sNil)))
def b_check_ties : S := (sSeq (sIf (tNot (tTr (eCall 24 (aCons (eVar 2) (aCons (eProp 12 0 (eVar 0)) aNil))))) sNever sNil) (sFor (gKeys (eVar 2)) (fun s w => g1 3 So.err w s) (sSeq (sIf (tNot (tTr (eCall 26 (aCons (eIdx (eVar 2) (eVar 3)) (aCons (eVar 1) aNil))))) sNever sNil) (sIf (tAnd (tB (eIn (eVar 3) (eAttr 10 (eVar 0)))) (tNot (tTr (eCall 108 (aCons (eIdx (eVar 2) (eVar 3)) (aCons (eVar 1) aNil)))))) sNever sNil))))
def b_World___init__ : S := (sSeq (sIf (tNot (tTr (eCall 1 (aCons (eVar 2) (aCons (eC (.nat 1)) (aCons (eC (.nat 300)) aNil)))))) sNever sNil) (sSeq (sExpr (eCall 27 (aCons (eVar 1) (aCons (eVar 2) (aCons (eVar 3) aNil))))) (sSeq (sExpr (eCall 28 (aCons (eVar 1) (aCons (eVar 2) (aCons (eVar 4) aNil))))) (sSeq (sAttr 13 (eVar 0) (eVar 1)) (sSeq (sAttr 9 (eVar 0) (eVar 2)) (sSeq (sAttr 12 (eVar 0) (eDc false (gSeq (eProp 12 1 (eVar 1))) (fun s w => g1 5 Ra.err w s) (eVar 5) (eDc false (gSeq (eIdx (eVar 3) (eVar 5))) (fun s w => g1 6 Ra.err w s) (eVar 6) (eC (.bl true))))) (sAttr 11 (eVar 0) (eDc false (gSeq (eProp 12 0 (eVar 1))) (fun s w => g1 5 Ra.err w s) (eVar 5) (eDc true (gSeq (eIdx (eVar 4) (eVar 5))) (fun s w => g1 7 Ra.err w s) (eVar 7) (eC (.bl true)))))))))))
def b_World_has : S := (sRet (eIn (eVar 2) (eIdx (eAttr 12 (eVar 0)) (eVar 1))))
def b_World_leads : S := (sRet (eIn (eTup (aCons (eVar 2) (aCons (eVar 3) aNil))) (eIdx (eAttr 11 (eVar 0)) (eVar 1))))
def b_is_held : S := (sRet (eMeth [(1, 18)] (eCall 115 (aCons (eVar 0) aNil)) (aCons (eCall 16 (aCons (eVar 1) (aCons (eLst aNil) aNil))) (aCons (eC .non) (aCons (eC .non) aNil)))))
def b_holds : S := (sSeq (sExpr (eCall 14 (aCons (eAttr 13 (eVar 0)) (aCons (eVar 1) aNil)))) (sRet (eCall 32 (aCons (eVar 0) (aCons (eVar 1) aNil)))))
def b_check_plain : S := (sIf (tTr (eAttr 10 (eVar 0))) sNever sNil)
def b_cliques : S := (sSeq (sAsg (fun s w => g1 2 So.err w s) (eLst aNil)) (sSeq (sExpr (eCall 36 (aCons (eLstF aNil) (aCons (eList (eVar 0)) (aCons (eLstF aNil) (aCons (eVar 1) (aCons (eVar 2) aNil))))))) (sRet (eVar 2))))
def b_grow : S := (sSeq (sIf (tAnd (tNot (tTr (eVar 1))) (tNot (tTr (eVar 2)))) (sSeq (sExpr (eAppend (eVar 4) (eSorted (eVar 0)))) (sRet (eC .non))) sNil) (sSeq (sAsg (fun s w => g1 5 So.err w s) (eList (eVar 1))) (sSeq (sAsg (fun s w => g1 6 So.err w s) (eList (eVar 2))) (sFor (gSeq (eVar 1)) (fun s w => g1 7 So.err w s) (sSeq (sAsg (fun s w => g1 8 So.err w s) (eLc (gSeq (eVar 5)) (fun s w => g1 10 Ra.err w s) (tAnd (tB (eNe (eVar 10) (eVar 7))) (tB (eGt (eLen (eMeth [(7, 59)] (eVar 3) (aCons (eVar 7) (aCons (eVar 10) aNil)))) (eC (.nat 0))))) (eVar 10))) (sSeq (sAsg (fun s w => g1 9 So.err w s) (eLc (gSeq (eVar 6)) (fun s w => g1 10 Ra.err w s) (tB (eGt (eLen (eMeth [(7, 59)] (eVar 3) (aCons (eVar 7) (aCons (eVar 10) aNil)))) (eC (.nat 0)))) (eVar 10))) (sSeq (sExpr (eCall 36 (aCons (eCatL (eVar 0) (eLstF (aCons (eVar 7) aNil))) (aCons (eVar 8) (aCons (eVar 9) (aCons (eVar 3) (aCons (eVar 4) aNil))))))) (sSeq (sExpr (eRemove (eVar 5) (eVar 7))) (sExpr (eAppend (eVar 6) (eVar 7)))))))))))
def b_Case___init__ : S := (sSeq (sAttr 16 (eVar 0) (eVar 1)) (sSeq (sAttr 15 (eVar 0) (eVar 2)) (sAttr 14 (eVar 0) (eVar 3))))
def b_Case_more : S := (sSeq (sAsg (fun s w => g1 5 So.err w s) (eCopy (eAttr 16 (eVar 0)))) (sSeq (sSub (eVar 5) (eAttr 2 (eVar 1)) (eVar 2)) (sRet (eCall 117 (aCons (eVar 5) (aCons (eIf (tTr (eVar 3)) (eCatL (eAttr 15 (eVar 0)) (eLstF (aCons (eVar 1) aNil))) (eAttr 15 (eVar 0))) (aCons (eMul (eAttr 14 (eVar 0)) (eVar 4)) aNil)))))))
def b_plain_cases : S := (sSeq (sAsg (fun s w => g1 1 So.err w s) (eLstF (aCons (eCall 117 (aCons (eDct false) (aCons (eLstF aNil) (aCons (eC (.nat 1)) aNil)))) aNil))) (sSeq (sFor (gSeq (eVar 0)) (fun s w => g1 2 So.err w s) (sIf (tNot (tTr (eAttr 3 (eVar 2)))) (sSeq (sAsg (fun s w => g1 3 So.err w s) (eEq (eAttr 6 (eVar 2)) (eC (.str 9)))) (sAsg (fun s w => g1 1 So.err w s) (eLc2 (gSeq (eVar 1)) (fun s w => g1 4 Ra.err w s) (gSeq (eTup (aCons (eC (.bl false)) (aCons (eC (.bl true)) aNil)))) (fun s w => g1 5 Ra.err w s) 5 (eMeth [(3, 38)] (eVar 4) (aCons (eVar 2) (aCons (eVar 5) (aCons (eEq (eVar 5) (eVar 3)) (aCons (eC (.nat 1)) aNil)))))))) sNil)) (sRet (eVar 1))))
def b_meets : S := (sSeq (sFor (gSeq (eVar 2)) (fun s w => g1 3 So.err w s) (sIf (tB (eNe (eMeth [(11, 95)] (eVar 0) (aCons (eIdx (eAttr 4 (eVar 3)) (eC (.nat 0))) (aCons (eVar 1) aNil))) (eEq (eAttr 6 (eVar 3)) (eC (.str 9))))) (sRet (eC (.bl false))) sNil)) (sRet (eC (.bl true))))
def b_Kind___init__ : S := (sSeq (sAttr 12 (eVar 0) (eVar 1)) (sSeq (sAttr 19 (eVar 0) (eVar 2)) (sSeq (sAttr 16 (eVar 0) (eDct false)) (sSeq (sAttr 18 (eVar 0) (eDct false)) (sSeq (sAttr 17 (eVar 0) (eTup aNil)) (sSeq (sAttr 14 (eVar 0) (eC (.nat 1))) (sAttr 2 (eVar 0) (eC .non))))))))
def b_Kind_with_part : S := (sSeq (sAsg (fun s w => g1 5 So.err w s) (eCall 118 (aCons (eAttr 12 (eVar 0)) (aCons (eAttr 19 (eVar 0)) aNil)))) (sSeq (sAttr 16 (eVar 5) (eCopy (eAttr 16 (eVar 0)))) (sSeq (sAttr 18 (eVar 5) (eCopy (eAttr 18 (eVar 0)))) (sSeq (sSub (eAttr 16 (eVar 5)) (eVar 1) (eVar 2)) (sSeq (sSub (eAttr 18 (eVar 5)) (eVar 1) (eVar 3)) (sSeq (sAttr 17 (eVar 5) (eAttr 17 (eVar 0))) (sSeq (sAttr 14 (eVar 5) (eMul (eAttr 14 (eVar 0)) (eVar 4))) (sRet (eVar 5)))))))))
def b_rows_of_flags : S := (sSeq (sAsg (fun s w => g1 1 So.err w s) (eLstF (aCons (eTup aNil) aNil))) (sSeq (sFor (gRange (eVar 0)) (fun s w => g1 2 So.err w s) (sAsg (fun s w => g1 1 So.err w s) (eLc2 (gSeq (eVar 1)) (fun s w => g1 3 Ra.err w s) (gSeq (eTup (aCons (eC (.bl false)) (aCons (eC (.bl true)) aNil)))) (fun s w => g1 4 Ra.err w s) 4 (eCatT (eVar 3) (eTup (aCons (eVar 4) aNil)))))) (sRet (eVar 1))))
def b_plain_kinds : S := (sSeq (sAsg (fun s w => g1 1 So.err w s) (eLst aNil)) (sSeq (sFor (gSeq (eCall 43 (aCons (eLen (eProp 12 1 (eVar 0))) aNil))) (fun s w => g1 2 So.err w s) (sFor (gSeq (eCall 43 (aCons (eLen (eProp 12 0 (eVar 0))) aNil))) (fun s w => g1 3 So.err w s) (sExpr (eAppend (eVar 1) (eCall 118 (aCons (eVar 2) (aCons (eVar 3) aNil))))))) (sRet (eVar 1))))
def b_is_let : S := (sSeq (sFor (gSeq (eVar 3)) (fun s w => g1 4 So.err w s) (sIf (tAnd (tTr (eIdx (eAttr 18 (eVar 2)) (eAttr 2 (eVar 4)))) (tB (eNe (eMeth [(11, 95)] (eVar 1) (aCons (eIdx (eAttr 4 (eVar 4)) (eC (.nat 0))) (aCons (eVar 2) aNil))) (eEq (eAttr 6 (eVar 4)) (eC (.str 9)))))) (sRet (eC (.bl false))) sNil)) (sSeq (sFor (gEnum (eAttr 10 (eVar 0))) (fun s w => g2 5 6 So.err w s) (sIf (tAnd (tTr (eIdx (eAttr 17 (eVar 2)) (eVar 5))) (tTr (eIdx (eAttr 19 (eVar 2)) (eIndex (eProp 12 0 (eVar 0)) (eVar 6))))) (sRet (eC (.bl false))) sNil)) (sRet (eC (.bl true)))))
def b_Way___init__ : S := (sSeq (sAttr 21 (eVar 0) (eVar 1)) (sAttr 20 (eVar 0) (eCall 48 (aCons (eVar 1) aNil))))
def b_both_ways : S := (sSeq (sAsg (fun s w => g1 1 So.err w s) (eLst aNil)) (sSeq (sFor (gSeq (eCall 43 (aCons (eMul (eC (.nat 2)) (eLen (eProp 12 0 (eVar 0)))) aNil))) (fun s w => g1 2 So.err w s) (sSeq (sAsg (fun s w => g1 3 So.err w s) (eDct true)) (sSeq (sFor (gEnum (eProp 12 0 (eVar 0))) (fun s w => g2 4 5 So.err w s) (sSeq (sSub (eVar 3) (eTup (aCons (eVar 5) (aCons (eC (.str 4)) (aCons (eC (.str 5)) aNil)))) (eIdx (eVar 2) (eMul (eC (.nat 2)) (eVar 4)))) (sSub (eVar 3) (eTup (aCons (eVar 5) (aCons (eC (.str 5)) (aCons (eC (.str 4)) aNil)))) (eIdx (eVar 2) (eAdd (eMul (eC (.nat 2)) (eVar 4)) (eC (.nat 1))))))) (sExpr (eAppend (eVar 1) (eCall 119 (aCons (eVar 3) aNil))))))) (sRet (eVar 1))))
def b_turned_ways : S := (sSeq (sAsg (fun s w => g1 1 So.err w s) (eDct true)) (sSeq (sFor (gKeys (eVar 0)) (fun s w => g3 2 3 4 So.err w s) (sSub (eVar 1) (eTup (aCons (eVar 2) (aCons (eVar 4) (aCons (eVar 3) aNil)))) (eIdx (eVar 0) (eTup (aCons (eVar 2) (aCons (eVar 3) (aCons (eVar 4) aNil))))))) (sRet (eVar 1))))
def b_meets_bars : S := (sSeq (sFor (gSeq (eVar 1)) (fun s w => g1 6 So.err w s) (sIf (tTr (eIdx (eAttr 18 (eVar 2)) (eAttr 2 (eVar 6)))) (sSeq (sIf (tB (eEq (eIdx (eAttr 3 (eVar 6)) (eC (.nat 0))) (eC (.str 4)))) (sAsg (fun s w => g1 7 So.err w s) (eMeth [(11, 97)] (eVar 0) (aCons (eIdx (eAttr 4 (eVar 6)) (eC (.nat 0))) (aCons (eVar 2) (aCons (eVar 3) (aCons (eVar 4) aNil)))))) (sAsg (fun s w => g1 7 So.err w s) (eMeth [(11, 97)] (eVar 0) (aCons (eIdx (eAttr 4 (eVar 6)) (eC (.nat 0))) (aCons (eVar 3) (aCons (eVar 2) (aCons (eVar 5) aNil))))))) (sIf (tB (eNe (eVar 7) (eEq (eAttr 6 (eVar 6)) (eC (.str 9))))) (sRet (eC (.bl false))) sNil)) sNil)) (sRet (eC (.bl true))))
def b_meets_shut : S := (sSeq (sFor (gEnum (eAttr 10 (eVar 0))) (fun s w => g2 3 4 So.err w s) (sIf (tAnd (tTr (eIdx (eAttr 17 (eVar 1)) (eVar 3))) (tTr (eIdx (eVar 2) (eTup (aCons (eVar 4) (aCons (eC (.str 4)) (aCons (eC (.str 5)) aNil))))))) (sRet (eC (.bl false))) sNil)) (sRet (eC (.bl true))))
def b_are_let : S := (sSeq (sPar 6 7 (eAttr 21 (eVar 5)) (eAttr 20 (eVar 5))) (sSeq (sIf (tOr (tNot (tTr (eCall 50 (aCons (eVar 0) (aCons (eVar 3) (aCons (eVar 6) aNil)))))) (tNot (tTr (eCall 50 (aCons (eVar 0) (aCons (eVar 4) (aCons (eVar 7) aNil))))))) (sRet (eC (.bl false))) sNil) (sRet (eAnd (eCall 49 (aCons (eVar 1) (aCons (eVar 2) (aCons (eVar 3) (aCons (eVar 4) (aCons (eVar 6) (aCons (eVar 7) aNil))))))) (eCall 49 (aCons (eVar 1) (aCons (eVar 2) (aCons (eVar 4) (aCons (eVar 3) (aCons (eVar 7) (aCons (eVar 6) aNil)))))))))))
def b_sort_list : S := (sSeq (sAsg (fun s w => g1 4 So.err w s) (eCall 44 (aCons (eVar 0) aNil))) (sSeq (sFor (gSeq (eVar 2)) (fun s w => g1 5 So.err w s) (sSeq (sAsg (fun s w => g1 6 So.err w s) (eEq (eAttr 6 (eVar 5)) (eC (.str 9)))) (sAsg (fun s w => g1 4 So.err w s) (eLc2 (gSeq (eVar 4)) (fun s w => g1 7 Ra.err w s) (gSeq (eTup (aCons (eC (.bl false)) (aCons (eC (.bl true)) aNil)))) (fun s w => g1 8 Ra.err w s) 8 (eMeth [(4, 42)] (eVar 7) (aCons (eAttr 2 (eVar 5)) (aCons (eVar 8) (aCons (eEq (eVar 8) (eVar 6)) (aCons (eC (.nat 1)) aNil))))))))) (sSeq (sAsg (fun s w => g1 4 So.err w s) (eLc (gSeq (eVar 4)) (fun s w => g1 7 Ra.err w s) (tTr (eCall 45 (aCons (eVar 0) (aCons (eVar 1) (aCons (eVar 7) (aCons (eVar 2) aNil)))))) (eVar 7))) (sRet (eLc (gSeq (eVar 4)) (fun s w => g1 7 Ra.err w s) (tTr (eCall 40 (aCons (eVar 1) (aCons (eVar 7) (aCons (eVar 3) aNil))))) (eVar 7))))))
def b_bit_list : S := (sSeq (sAsg (fun s w => g1 1 So.err w s) (eLst aNil)) (sSeq (sAsg (fun s w => g1 2 So.err w s) (eC (.nat 1))) (sSeq (sFor (gRange (eVar 0)) (fun s w => g1 3 So.err w s) (sSeq (sExpr (eAppend (eVar 1) (eVar 2))) (sAsg (fun s w => g1 2 So.err w s) (eMul (eC (.nat 2)) (eVar 2))))) (sRet (eVar 1)))))
def b_Option___init__ : S := (sSeq (sAttr 24 (eVar 0) (eVar 1)) (sSeq (sAttr 23 (eVar 0) (eVar 2)) (sAttr 22 (eVar 0) (eVar 3))))
def b_Option_turned : S := (sRet (eCall 120 (aCons (eCall 48 (aCons (eAttr 24 (eVar 0)) aNil)) (aCons (eAttr 22 (eVar 0)) (aCons (eAttr 23 (eVar 0)) aNil)))))
def b_Sorts___init__ : S := (sSeq (sAttr 13 (eVar 0) (eVar 1)) (sSeq (sAttr 30 (eVar 0) (eVar 2)) (sSeq (sAttr 29 (eVar 0) (eVar 3)) (sSeq (sAttr 27 (eVar 0) (eCall 52 (aCons (eVar 1) (aCons (eVar 2) (aCons (eVar 3) (aCons (eVar 4) aNil)))))) (sSeq (sAttr 28 (eVar 0) (eCall 53 (aCons (eLen (eVar 3)) aNil))) (sSeq (sAttr 26 (eVar 0) (eLc (gSeq (eAttr 27 (eVar 0))) (fun s w => g1 5 Ra.err w s) tYes (eMeth [(7, 57)] (eVar 0) (aCons (eVar 5) aNil)))) (sSeq (sAttr 25 (eVar 0) eMap) (sAttr 24 (eVar 0) (eCall 47 (aCons (eVar 1) aNil))))))))))
def b_Sorts_own_wishes : S := (sSeq (sAsg (fun s w => g1 2 So.err w s) (eC (.nat 0))) (sSeq (sFor (gZip (eAttr 29 (eVar 0)) (eAttr 28 (eVar 0))) (fun s w => g2 3 4 So.err w s) (sIf (tAnd (tNot (tTr (eIdx (eAttr 18 (eVar 1)) (eAttr 2 (eVar 3))))) (tB (eNe (eMeth [(11, 95)] (eAttr 30 (eVar 0)) (aCons (eIdx (eAttr 4 (eVar 3)) (eC (.nat 0))) (aCons (eVar 1) aNil))) (eEq (eAttr 6 (eVar 3)) (eC (.str 10)))))) (sAug 2 eAdd (eVar 4)) sNil)) (sRet (eVar 2))))
def b_Sorts_met : S := (sSeq (sAsg (fun s w => g1 5 So.err w s) (eC (.nat 0))) (sSeq (sFor (gZip (eAttr 29 (eVar 0)) (eAttr 28 (eVar 0))) (fun s w => g2 6 7 So.err w s) (sIf (tNot (tTr (eIdx (eAttr 18 (eVar 1)) (eAttr 2 (eVar 6))))) (sSeq (sIf (tB (eEq (eIdx (eAttr 3 (eVar 6)) (eC (.nat 0))) (eC (.str 4)))) (sAsg (fun s w => g1 8 So.err w s) (eMeth [(11, 97)] (eAttr 30 (eVar 0)) (aCons (eIdx (eAttr 4 (eVar 6)) (eC (.nat 0))) (aCons (eVar 1) (aCons (eVar 2) (aCons (eVar 3) aNil)))))) (sAsg (fun s w => g1 8 So.err w s) (eMeth [(11, 97)] (eAttr 30 (eVar 0)) (aCons (eIdx (eAttr 4 (eVar 6)) (eC (.nat 0))) (aCons (eVar 2) (aCons (eVar 1) (aCons (eVar 4) aNil))))))) (sIf (tB (eEq (eVar 8) (eEq (eAttr 6 (eVar 6)) (eC (.str 10))))) (sAug 5 eAdd (eVar 7)) sNil)) sNil)) (sRet (eVar 5))))
def b_Sorts_options : S := (sSeq (sAsg (fun s w => g1 3 So.err w s) (eTup (aCons (eVar 1) (aCons (eVar 2) aNil)))) (sSeq (sIf (tB (eNotIn (eVar 3) (eAttr 25 (eVar 0)))) (sSeq (sAsg (fun s w => g1 4 So.err w s) (eIdx (eAttr 27 (eVar 0)) (eVar 1))) (sSeq (sAsg (fun s w => g1 5 So.err w s) (eIdx (eAttr 27 (eVar 0)) (eVar 2))) (sSeq (sAsg (fun s w => g1 6 So.err w s) (eLst aNil)) (sSeq (sFor (gSeq (eAttr 24 (eVar 0))) (fun s w => g1 7 So.err w s) (sIf (tTr (eCall 51 (aCons (eAttr 13 (eVar 0)) (aCons (eAttr 30 (eVar 0)) (aCons (eAttr 29 (eVar 0)) (aCons (eVar 4) (aCons (eVar 5) (aCons (eVar 7) aNil)))))))) (sSeq (sAsg (fun s w => g1 8 So.err w s) (eMeth [(7, 58)] (eVar 0) (aCons (eVar 4) (aCons (eVar 5) (aCons (eAttr 21 (eVar 7)) (aCons (eAttr 20 (eVar 7)) aNil)))))) (sExpr (eAppend (eVar 6) (eCall 120 (aCons (eAttr 21 (eVar 7)) (aCons (eVar 8) (aCons (eMeth [(7, 58)] (eVar 0) (aCons (eVar 5) (aCons (eVar 4) (aCons (eAttr 20 (eVar 7)) (aCons (eAttr 21 (eVar 7)) aNil))))) aNil))))))) sNil)) (sSub (eAttr 25 (eVar 0)) (eVar 3) (eCall 61 (aCons (eVar 6) aNil))))))) sNil) (sRet (eIdx (eAttr 25 (eVar 0)) (eVar 3)))))
def b_is_less : S := (sSeq (sIf (tB (eEqT (eTup (aCons (eAttr 23 (eVar 0)) (aCons (eAttr 22 (eVar 0)) aNil))) (eTup (aCons (eAttr 23 (eVar 1)) (aCons (eAttr 22 (eVar 1)) aNil))))) (sRet (eC (.bl false))) sNil) (sRet (eAnd (eEq (eBand (eAttr 23 (eVar 0)) (eAttr 23 (eVar 1))) (eAttr 23 (eVar 0))) (eEq (eBand (eAttr 22 (eVar 0)) (eAttr 22 (eVar 1))) (eAttr 22 (eVar 0))))))
def b_best_options : S := (sSeq (sAsg (fun s w => g1 1 So.err w s) (eDct true)) (sSeq (sFor (gSeq (eVar 0)) (fun s w => g1 2 So.err w s) (sSub (eVar 1) (eTup (aCons (eAttr 23 (eVar 2)) (aCons (eAttr 22 (eVar 2)) aNil))) (eVar 2))) (sSeq (sAsg (fun s w => g1 3 So.err w s) (eValues (eVar 1))) (sRet (eLc (gSeq (eVar 3)) (fun s w => g1 2 Ra.err w s) (tNot (tTr (eAny (eLc (gSeq (eVar 3)) (fun s w => g1 4 Ra.err w s) tYes (eCall 60 (aCons (eVar 2) (aCons (eVar 4) aNil))))))) (eVar 2))))))
def b_Plan___init__ : S := (sSeq (sAttr 34 (eVar 0) (eVar 1)) (sSeq (sAttr 33 (eVar 0) (eVar 2)) (sSeq (sAttr 32 (eVar 0) (eVar 3)) (sAttr 31 (eVar 0) (eVar 4)))))
def b_common_wishes : S := (sSeq (sAsg (fun s w => g1 3 So.err w s) (eC (.nat 0))) (sSeq (sFor (gSeq (eVar 1)) (fun s w => g1 4 So.err w s) (sFor (gSeq (eMeth [(7, 59)] (eVar 0) (aCons (eVar 2) (aCons (eVar 4) aNil)))) (fun s w => g1 5 So.err w s) (sAsg (fun s w => g1 3 So.err w s) (eBor (eVar 3) (eAttr 23 (eVar 5)))))) (sRet (eVar 3))))
def b_covers : S := (sSeq (sAsg (fun s w => g1 5 So.err w s) (eLstF (aCons (eTup (aCons (eC (.nat 0)) (aCons (eLstF aNil) aNil))) aNil))) (sSeq (sFor (gEnum (eVar 1)) (fun s w => g2 6 7 So.err w s) (sSeq (sAsg (fun s w => g1 8 So.err w s) (eIf (tB (eIn (eVar 6) (eVar 4))) (eLstF (aCons (eIdx (eVar 4) (eVar 6)) aNil)) (eMeth [(7, 59)] (eVar 0) (aCons (eVar 2) (aCons (eVar 7) aNil))))) (sSeq (sAsg (fun s w => g1 9 So.err w s) (eDct false)) (sSeq (sFor (gSeq (eVar 5)) (fun s w => g2 10 11 So.err w s) (sFor (gSeq (eVar 8)) (fun s w => g1 12 So.err w s) (sExpr (eSetdef (eVar 9) (eBor (eVar 10) (eAttr 23 (eVar 12))) (eCatL (eVar 11) (eLstF (aCons (eVar 12) aNil))))))) (sAsg (fun s w => g1 5 So.err w s) (eItems (eVar 9))))))) (sSeq (sFor (gSeq (eVar 5)) (fun s w => g2 10 11 So.err w s) (sIf (tB (eEq (eBand (eVar 3) (eVar 10)) (eVar 3))) (sRet (eVar 11)) sNil)) (sRet (eC .non)))))
def b_left_wishes : S := (sSeq (sAsg (fun s w => g1 3 So.err w s) (eIdx (eAttr 26 (eVar 0)) (eVar 2))) (sRet (eSub (eVar 3) (eBand (eVar 3) (eCall 63 (aCons (eVar 0) (aCons (eVar 1) (aCons (eVar 2) aNil))))))))
def b_lasting : S := (sSeq (sAsg (fun s w => g1 3 So.err w s) (eVar 2)) (sWhile (tTr (eC (.bl true))) (sSeq (sAsg (fun s w => g1 4 So.err w s) (eLc (gSeq (eVar 3)) (fun s w => g1 5 Ra.err w s) (tB (eNotN (eCall 64 (aCons (eVar 0) (aCons (eVar 1) (aCons (eVar 5) (aCons (eCall 65 (aCons (eVar 0) (aCons (eVar 3) (aCons (eVar 5) aNil)))) (aCons (eDct false) aNil)))))))) (eVar 5))) (sSeq (sIf (tB (eEq (eLen (eVar 4)) (eLen (eVar 3)))) (sRet (eVar 3)) sNil) (sAsg (fun s w => g1 3 So.err w s) (eVar 4))))))
def b_court_option : S := (sSeq (sFor (gSeq (eVar 2)) (fun s w => g1 5 So.err w s) (sFor (gSeq (eMeth [(7, 59)] (eVar 0) (aCons (eVar 5) (aCons (eIdx (eVar 1) (eVar 3)) aNil)))) (fun s w => g1 6 So.err w s) (sIf (tB (eEq (eBand (eAttr 22 (eVar 6)) (eVar 4)) (eVar 4))) (sSeq (sAsg (fun s w => g1 7 So.err w s) (eCall 64 (aCons (eVar 0) (aCons (eVar 1) (aCons (eVar 5) (aCons (eCall 65 (aCons (eVar 0) (aCons (eVar 2) (aCons (eVar 5) aNil)))) (aCons (eDct1 3 6) aNil))))))) (sIf (tB (eNotN (eVar 7))) (sRet (eTup (aCons (eVar 5) (aCons (eVar 7) aNil)))) sNil)) sNil))) (sRet (eC .non)))
def b_court_wishes : S := (sSeq (sAsg (fun s w => g1 4 So.err w s) (eC (.nat 0))) (sSeq (sFor (gSeq (eAttr 28 (eVar 0))) (fun s w => g1 5 So.err w s) (sIf (tAnd (tB (eEq (eBand (eIdx (eAttr 26 (eVar 0)) (eIdx (eVar 1) (eVar 3))) (eVar 5)) (eVar 5))) (tB (eNotN (eCall 67 (aCons (eVar 0) (aCons (eVar 1) (aCons (eVar 2) (aCons (eVar 3) (aCons (eVar 5) aNil))))))))) (sAug 4 eAdd (eVar 5)) sNil)) (sRet (eVar 4))))
def b_chosen_ways : S := (sSeq (sAsg (fun s w => g1 3 So.err w s) (eLc2 (gRange (eLen (eVar 1))) (fun s w => g1 4 Ra.err w s) (gRange (eVar 4)) (fun s w => g1 5 Ra.err w s) 5 (eTup (aCons (eVar 5) (aCons (eVar 4) aNil))))) (sRet (eCall 70 (aCons (eVar 0) (aCons (eVar 1) (aCons (eVar 3) (aCons (eC (.nat 0)) (aCons (eTuple (eVar 2)) (aCons (eDct true) aNil)))))))))
def b_chosen_from : S := (sSeq (sIf (tB (eEq (eVar 3) (eLen (eVar 2)))) (sRet (eIf (tNot (tTr (eAny (eLc (gSeq (eVar 4)) (fun s w => g1 11 Ra.err w s) tYes (eGt (eVar 11) (eC (.nat 0))))))) (eCopy (eVar 5)) (eC .non))) sNil) (sSeq (sAsg (fun s w => g2 6 7 So.err w s) (eIdx (eVar 2) (eVar 3))) (sSeq (sFor (gSeq (eMeth [(7, 59)] (eVar 0) (aCons (eIdx (eVar 1) (eVar 6)) (aCons (eIdx (eVar 1) (eVar 7)) aNil)))) (fun s w => g1 8 So.err w s) (sSeq (sAsg (fun s w => g1 9 So.err w s) (eList (eVar 4))) (sSeq (sAugL (eVar 9) (eVar 6) (eBand (eIdx (eVar 9) (eVar 6)) (eAttr 23 (eVar 8)))) (sSeq (sAugL (eVar 9) (eVar 7) (eBand (eIdx (eVar 9) (eVar 7)) (eAttr 22 (eVar 8)))) (sSeq (sSub (eVar 5) (eTup (aCons (eVar 6) (aCons (eVar 7) aNil))) (eVar 8)) (sSeq (sAsg (fun s w => g1 10 So.err w s) (eCall 70 (aCons (eVar 0) (aCons (eVar 1) (aCons (eVar 2) (aCons (eAdd (eVar 3) (eC (.nat 1))) (aCons (eTuple (eVar 9)) (aCons (eVar 5) aNil)))))))) (sIf (tB (eNotN (eVar 10))) (sRet (eVar 10)) sNil))))))) (sRet (eC .non)))))
def b_has_all : S := (sSeq (sFor (gSeq (eVar 3)) (fun s w => g1 4 So.err w s) (sIf (tNot (tTr (eAny (eLc (gSeq (eVar 4)) (fun s w => g1 5 Ra.err w s) tYes (eOr (eIn (eVar 5) (eVar 1)) (eIn (eVar 5) (eVar 2))))))) (sRet (eC (.bl false))) sNil)) (sRet (eC (.bl true))))
def b_plan_with : S := (sSeq (sIf (tNot (tTr (eCall 71 (aCons (eVar 0) (aCons (eVar 1) (aCons (eVar 2) (aCons (eVar 3) aNil))))))) (sRet (eC .non)) sNil) (sSeq (sAsg (fun s w => g1 4 So.err w s) (eLst aNil)) (sSeq (sFor (gEnum (eVar 1)) (fun s w => g2 5 6 So.err w s) (sSeq (sAsg (fun s w => g1 7 So.err w s) (eIdx (eAttr 26 (eVar 0)) (eVar 6))) (sExpr (eAppend (eVar 4) (eSub (eVar 7) (eBand (eVar 7) (eCall 68 (aCons (eVar 0) (aCons (eVar 1) (aCons (eVar 2) (aCons (eVar 5) aNil))))))))))) (sSeq (sAsg (fun s w => g1 8 So.err w s) (eCall 69 (aCons (eVar 0) (aCons (eVar 1) (aCons (eVar 4) aNil))))) (sSeq (sIf (tB (eIsN (eVar 8))) (sRet (eC .non)) sNil) (sRet (eCall 122 (aCons (eVar 0) (aCons (eVar 1) (aCons (eVar 2) (aCons (eVar 8) aNil)))))))))))
def b_is_let_pair : S := (sRet (eGt (eLen (eMeth [(7, 59)] (eVar 0) (aCons (eVar 1) (aCons (eVar 2) aNil)))) (eC (.nat 0))))
def b_king_lots : S := (sSeq (sAsg (fun s w => g1 2 So.err w s) (eLst (aCons (eLstF aNil) aNil))) (sSeq (sAsg (fun s w => g1 3 So.err w s) (eC (.nat 0))) (sSeq (sWhile (tB (eLt (eVar 3) (eLen (eVar 2)))) (sSeq (sAsg (fun s w => g1 4 So.err w s) (eIdx (eVar 2) (eVar 3))) (sSeq (sFor (gSeq (eVar 1)) (fun s w => g1 5 So.err w s) (sIf (tOr (tNot (tTr (eVar 4))) (tB (eGt (eVar 5) (eLastI (eVar 4))))) (sIf (tTr (eAll (eLc (gSeq (eVar 4)) (fun s w => g1 6 Ra.err w s) tYes (eCall 73 (aCons (eVar 0) (aCons (eVar 6) (aCons (eVar 5) aNil))))))) (sExpr (eAppend (eVar 2) (eCatL (eVar 4) (eLstF (aCons (eVar 5) aNil))))) sNil) sNil)) (sAug 3 eAdd (eC (.nat 1)))))) (sRet (eVar 2)))))
def b_Search___init__ : S := (sSeq (sAttr 34 (eVar 0) (eCall 121 (aCons (eVar 1) (aCons (eVar 2) (aCons (eVar 3) (aCons (eAttr 15 (eVar 4)) aNil)))))) (sSeq (sAsg (fun s w => g1 6 So.err w s) (eRange (eLen (eAttr 27 (eAttr 34 (eVar 0)))))) (sSeq (sAttr 37 (eVar 0) (eLc (gSeq (eVar 6)) (fun s w => g1 8 Ra.err w s) (tNot (tTr (eCall 73 (aCons (eAttr 34 (eVar 0)) (aCons (eVar 8) (aCons (eVar 8) aNil)))))) (eVar 8))) (sSeq (sAttr 36 (eVar 0) (eLc (gSeq (eVar 6)) (fun s w => g1 8 Ra.err w s) (tTr (eCall 73 (aCons (eAttr 34 (eVar 0)) (aCons (eVar 8) (aCons (eVar 8) aNil))))) (eVar 8))) (sSeq (sAttr 35 (eVar 0) (eLst aNil)) (sFor (gSeq (eVar 5)) (fun s w => g1 7 So.err w s) (sIf (tAnd (tNot (tTr (eAttr 3 (eVar 7)))) (tB (eEq (eIdx (eAttr 16 (eVar 4)) (eAttr 2 (eVar 7))) (eEq (eAttr 6 (eVar 7)) (eC (.str 10)))))) (sExpr (eAppend (eAttr 35 (eVar 0)) (eMeth [(9, 76)] (eVar 0) (aCons (eVar 2) (aCons (eVar 7) aNil))))) sNil)))))))
def b_Search_sorts_with : S := (sSeq (sAsg (fun s w => g1 3 So.err w s) (eEq (eAttr 6 (eVar 2)) (eC (.str 10)))) (sRet (eLc (gEnum (eAttr 27 (eAttr 34 (eVar 0)))) (fun s w => g2 4 5 Ra.err w s) (tB (eEq (eMeth [(11, 95)] (eVar 1) (aCons (eIdx (eAttr 4 (eVar 2)) (eC (.nat 0))) (aCons (eVar 5) aNil))) (eVar 3))) (eVar 4))))
def b_Search_first_plan : S := (sSeq (sFor (gSeq (eCall 74 (aCons (eAttr 34 (eVar 0)) (aCons (eAttr 37 (eVar 0)) aNil)))) (fun s w => g1 1 So.err w s) (sSeq (sAsg (fun s w => g1 2 So.err w s) (eLc (gSeq (eAttr 36 (eVar 0))) (fun s w => g1 6 Ra.err w s) (tTr (eAll (eLc (gSeq (eVar 1)) (fun s w => g1 7 Ra.err w s) tYes (eCall 73 (aCons (eAttr 34 (eVar 0)) (aCons (eVar 7) (aCons (eVar 6) aNil))))))) (eVar 6))) (sFor (gSeq (eCall 35 (aCons (eVar 2) (aCons (eAttr 34 (eVar 0)) aNil)))) (fun s w => g1 3 So.err w s) (sSeq (sAsg (fun s w => g1 4 So.err w s) (eCall 66 (aCons (eAttr 34 (eVar 0)) (aCons (eVar 1) (aCons (eVar 3) aNil))))) (sIf (tTr (eVar 4)) (sSeq (sAsg (fun s w => g1 5 So.err w s) (eCall 72 (aCons (eAttr 34 (eVar 0)) (aCons (eVar 1) (aCons (eVar 4) (aCons (eAttr 35 (eVar 0)) aNil)))))) (sIf (tB (eNotN (eVar 5))) (sRet (eMeth [(9, 78)] (eVar 0) (aCons (eVar 5) aNil))) sNil)) sNil))))) (sRet (eC .non)))
def b_Search_smaller : S := (sSeq (sFor (gSeq (eList (eAttr 32 (eVar 1)))) (fun s w => g1 2 So.err w s) (sSeq (sAsg (fun s w => g1 3 So.err w s) (eCall 66 (aCons (eAttr 34 (eVar 0)) (aCons (eAttr 33 (eVar 1)) (aCons (eLc (gSeq (eAttr 32 (eVar 1))) (fun s w => g1 5 Ra.err w s) (tB (eNe (eVar 5) (eVar 2))) (eVar 5)) aNil))))) (sIf (tTr (eVar 3)) (sSeq (sAsg (fun s w => g1 4 So.err w s) (eCall 72 (aCons (eAttr 34 (eVar 0)) (aCons (eAttr 33 (eVar 1)) (aCons (eVar 3) (aCons (eAttr 35 (eVar 0)) aNil)))))) (sIf (tB (eNotN (eVar 4))) (sAsg (fun s w => g1 1 So.err w s) (eVar 4)) sNil)) sNil))) (sRet (eVar 1)))
def b_Search_lone_plans : S := (sSeq (sAsg (fun s w => g1 1 So.err w s) (eLst aNil)) (sSeq (sFor (gSeq (eCall 74 (aCons (eAttr 34 (eVar 0)) (aCons (eAttr 37 (eVar 0)) aNil)))) (fun s w => g1 2 So.err w s) (sIf (tTr (eVar 2)) (sSeq (sAsg (fun s w => g1 3 So.err w s) (eCall 72 (aCons (eAttr 34 (eVar 0)) (aCons (eVar 2) (aCons (eLstF aNil) (aCons (eAttr 35 (eVar 0)) aNil)))))) (sIf (tB (eNotN (eVar 3))) (sExpr (eAppend (eVar 1) (eVar 3))) sNil)) sNil)) (sRet (eVar 1))))
def b_Builder___init__ : S := (sSeq (sAttr 40 (eVar 0) (eVar 1)) (sSeq (sAttr 34 (eVar 0) (eAttr 34 (eVar 1))) (sSeq (sAttr 39 (eVar 0) (eLst aNil)) (sSeq (sAttr 24 (eVar 0) (eDct true)) (sAttr 38 (eVar 0) (eDct true))))))
def b_Builder_put : S := (sSeq (sExpr (eAppend (eAttr 39 (eVar 0)) (eVar 1))) (sRet (eSub (eLen (eAttr 39 (eVar 0))) (eC (.nat 1)))))
def b_Builder_link : S := (sIf (tB (eLt (eVar 1) (eVar 2))) (sSub (eAttr 24 (eVar 0)) (eTup (aCons (eVar 1) (aCons (eVar 2) aNil))) (eAttr 24 (eVar 3))) (sSub (eAttr 24 (eVar 0)) (eTup (aCons (eVar 2) (aCons (eVar 1) aNil))) (eAttr 24 (eMeth [(6, 55)] (eVar 3) aNil))))
def b_Builder_put_kings : S := (sSeq (sFor (gSeq (eAttr 33 (eAttr 40 (eVar 0)))) (fun s w => g1 1 So.err w s) (sExpr (eMeth [(10, 81)] (eVar 0) (aCons (eVar 1) aNil)))) (sFor (gKeys (eAttr 31 (eAttr 40 (eVar 0)))) (fun s w => g2 2 3 So.err w s) (sExpr (eMeth [(10, 82)] (eVar 0) (aCons (eVar 2) (aCons (eVar 3) (aCons (eIdx (eAttr 31 (eAttr 40 (eVar 0))) (eTup (aCons (eVar 2) (aCons (eVar 3) aNil)))) aNil)))))))
def b_Builder_put_common : S := (sSeq (sAsg (fun s w => g1 3 So.err w s) (eMeth [(10, 81)] (eVar 0) (aCons (eVar 1) aNil))) (sSeq (sFor (gEnum (eVar 2)) (fun s w => g2 4 5 So.err w s) (sExpr (eMeth [(10, 82)] (eVar 0) (aCons (eVar 3) (aCons (eVar 4) (aCons (eVar 5) aNil)))))) (sRet (eVar 3))))
def b_Builder_put_courts : S := (sSeq (sAsg (fun s w => g1 1 So.err w s) (eLst aNil)) (sSeq (sFor (gRange (eLen (eAttr 33 (eAttr 40 (eVar 0))))) (fun s w => g1 2 So.err w s) (sFor (gSeq (eAttr 28 (eAttr 34 (eVar 0)))) (fun s w => g1 3 So.err w s) (sIf (tB (eEq (eBand (eMeth [(10, 86)] (eVar 0) (aCons (eVar 2) aNil)) (eVar 3)) (eVar 3))) (sSeq (sAsg (fun s w => g2 4 5 So.err w s) (eCall 67 (aCons (eAttr 34 (eVar 0)) (aCons (eAttr 33 (eAttr 40 (eVar 0))) (aCons (eAttr 32 (eAttr 40 (eVar 0))) (aCons (eVar 2) (aCons (eVar 3) aNil))))))) (sExpr (eAppend (eVar 1) (eMeth [(10, 84)] (eVar 0) (aCons (eVar 4) (aCons (eVar 5) aNil)))))) sNil))) (sRet (eVar 1))))
def b_Builder_king_left : S := (sSeq (sAsg (fun s w => g1 2 So.err w s) (eIdx (eAttr 26 (eAttr 34 (eVar 0))) (eIdx (eAttr 33 (eAttr 40 (eVar 0))) (eVar 1)))) (sSeq (sFor (gKeys (eAttr 31 (eAttr 40 (eVar 0)))) (fun s w => g2 3 4 So.err w s) (sSeq (sAsg (fun s w => g1 5 So.err w s) (eIdx (eAttr 31 (eAttr 40 (eVar 0))) (eTup (aCons (eVar 3) (aCons (eVar 4) aNil))))) (sSeq (sIf (tB (eEq (eVar 3) (eVar 1))) (sAug 2 eSub (eBand (eVar 2) (eAttr 23 (eVar 5)))) sNil) (sIf (tB (eEq (eVar 4) (eVar 1))) (sAug 2 eSub (eBand (eVar 2) (eAttr 22 (eVar 5)))) sNil)))) (sRet (eVar 2))))
def b_Builder_put_groups : S := (sSeq (sAsg (fun s w => g1 1 So.err w s) (eMax (eC (.nat 1)) (eLen (eAttr 28 (eAttr 34 (eVar 0)))))) (sFor (gRange (eC (.nat 3))) (fun s w => g1 2 So.err w s) (sFor (gSeq (eAttr 32 (eAttr 40 (eVar 0)))) (fun s w => g1 3 So.err w s) (sSeq (sAsg (fun s w => g1 4 So.err w s) (eCall 65 (aCons (eAttr 34 (eVar 0)) (aCons (eAttr 32 (eAttr 40 (eVar 0))) (aCons (eVar 3) aNil))))) (sSeq (sAsg (fun s w => g1 5 So.err w s) (eCall 64 (aCons (eAttr 34 (eVar 0)) (aCons (eAttr 33 (eAttr 40 (eVar 0))) (aCons (eVar 3) (aCons (eVar 4) (aCons (eDct false) aNil))))))) (sSub (eAttr 38 (eVar 0)) (eTup (aCons (eVar 2) (aCons (eVar 3) aNil))) (eLc (gRange (eVar 1)) (fun s w => g1 6 Ra.err w s) tYes (eMeth [(10, 84)] (eVar 0) (aCons (eVar 3) (aCons (eVar 5) aNil))))))))))
def b_Builder_meet : S := (sSeq (sAsg (fun s w => g1 3 So.err w s) (eIdx (eAttr 39 (eVar 0)) (eVar 1))) (sFor (gEnum (eAttr 28 (eAttr 34 (eVar 0)))) (fun s w => g2 4 5 So.err w s) (sIf (tB (eEq (eBand (eIdx (eAttr 26 (eAttr 34 (eVar 0))) (eVar 3)) (eVar 5)) (eVar 5))) (sSeq (sAsg (fun s w => g1 6 So.err w s) (eMeth [(10, 89)] (eVar 0) (aCons (eVar 3) (aCons (eVar 5) aNil)))) (sIf (tB (eNotN (eVar 6))) (sExpr (eMeth [(10, 82)] (eVar 0) (aCons (eVar 1) (aCons (eIdx (eIdx (eAttr 38 (eVar 0)) (eTup (aCons (eVar 2) (aCons (eIdx (eVar 6) (eC (.nat 0))) aNil)))) (eVar 4)) (aCons (eIdx (eVar 6) (eC (.nat 1))) aNil))))) sNil)) sNil)))
def b_Builder_helper : S := (sSeq (sFor (gSeq (eAttr 32 (eAttr 40 (eVar 0)))) (fun s w => g1 3 So.err w s) (sFor (gSeq (eMeth [(7, 59)] (eAttr 34 (eVar 0)) (aCons (eVar 1) (aCons (eVar 3) aNil)))) (fun s w => g1 4 So.err w s) (sIf (tB (eEq (eBand (eAttr 23 (eVar 4)) (eVar 2)) (eVar 2))) (sRet (eTup (aCons (eVar 3) (aCons (eVar 4) aNil)))) sNil))) (sRet (eC .non)))
def b_Builder_run : S := (sSeq (sExpr (eMeth [(10, 83)] (eVar 0) aNil)) (sSeq (sIf (tNot (tTr (eAttr 32 (eAttr 40 (eVar 0))))) (sRet (eC .non)) sNil) (sSeq (sAsg (fun s w => g1 1 So.err w s) (eMeth [(10, 85)] (eVar 0) aNil)) (sSeq (sExpr (eMeth [(10, 87)] (eVar 0) aNil)) (sSeq (sFor (gSeq (eVar 1)) (fun s w => g1 2 So.err w s) (sExpr (eMeth [(10, 88)] (eVar 0) (aCons (eVar 2) (aCons (eC (.nat 0)) aNil))))) (sFor (gSeq (eKeys (eAttr 38 (eVar 0)))) (fun s w => g2 3 4 So.err w s) (sFor (gSeq (eIdx (eAttr 38 (eVar 0)) (eTup (aCons (eVar 3) (aCons (eVar 4) aNil))))) (fun s w => g1 2 So.err w s) (sExpr (eMeth [(10, 88)] (eVar 0) (aCons (eVar 2) (aCons (eMod (eInt (eAdd (eVar 3) (eC (.nat 1)))) (eC (.nat 3))) aNil)))))))))))
def b_Builder_made_world : S := (sSeq (sAsg (fun s w => g1 1 So.err w s) (eAttr 13 (eAttr 34 (eVar 0)))) (sSeq (sAsg (fun s w => g1 2 So.err w s) (eDc false (gSeq (eProp 12 1 (eVar 1))) (fun s w => g1 8 Ra.err w s) (eVar 8) (eLst aNil))) (sSeq (sAsg (fun s w => g1 3 So.err w s) (eDc false (gSeq (eProp 12 0 (eVar 1))) (fun s w => g1 8 Ra.err w s) (eVar 8) (eLst aNil))) (sSeq (sFor (gEnum (eAttr 39 (eVar 0))) (fun s w => g2 4 5 So.err w s) (sSeq (sAsg (fun s w => g1 6 So.err w s) (eIdx (eAttr 27 (eAttr 34 (eVar 0))) (eVar 5))) (sSeq (sFor (gEnum (eProp 12 1 (eVar 1))) (fun s w => g2 7 8 So.err w s) (sIf (tTr (eIdx (eAttr 12 (eVar 6)) (eVar 7))) (sExpr (eAppend (eIdx (eVar 2) (eVar 8)) (eVar 4))) sNil)) (sSeq (sFor (gEnum (eProp 12 0 (eVar 1))) (fun s w => g2 7 8 So.err w s) (sIf (tTr (eIdx (eAttr 19 (eVar 6)) (eVar 7))) (sExpr (eAppend (eIdx (eVar 3) (eVar 8)) (eTup (aCons (eVar 4) (aCons (eVar 4) aNil))))) sNil)) (sFor (gRange (eVar 4)) (fun s w => g1 9 So.err w s) (sExpr (eMeth [(10, 92)] (eVar 0) (aCons (eVar 3) (aCons (eVar 9) (aCons (eVar 4) aNil)))))))))) (sRet (eCall 116 (aCons (eVar 1) (aCons (eLen (eAttr 39 (eVar 0))) (aCons (eVar 2) (aCons (eVar 3) aNil))))))))))
def b_Builder_tell_ways : S := (sSeq (sAsg (fun s w => g1 4 So.err w s) (eGet (eAttr 24 (eVar 0)) (eTup (aCons (eVar 2) (aCons (eVar 3) aNil))))) (sSeq (sIf (tB (eIsN (eVar 4))) (sAsg (fun s w => g1 4 So.err w s) (eAttr 24 (eIdx (eMeth [(7, 59)] (eAttr 34 (eVar 0)) (aCons (eIdx (eAttr 39 (eVar 0)) (eVar 2)) (aCons (eIdx (eAttr 39 (eVar 0)) (eVar 3)) aNil))) (eC (.nat 0))))) sNil) (sFor (gKeys (eVar 4)) (fun s w => g3 5 6 7 So.err w s) (sIf (tTr (eIdx (eVar 4) (eTup (aCons (eVar 5) (aCons (eVar 6) (aCons (eVar 7) aNil)))))) (sExpr (eAppend (eIdx (eVar 1) (eVar 5)) (eIf (tB (eEq (eVar 6) (eC (.str 4)))) (eTup (aCons (eVar 2) (aCons (eVar 3) aNil))) (eTup (aCons (eVar 3) (aCons (eVar 2) aNil)))))) sNil))))
def b_built : S := (sSeq (sAsg (fun s w => g1 1 So.err w s) (eCall 124 (aCons (eVar 0) aNil))) (sSeq (sExpr (eMeth [(10, 90)] (eVar 1) aNil)) (sRet (eVar 1))))
def b_Judge___init__ : S := (sSeq (sAttr 13 (eVar 0) (eVar 1)) (sAttr 41 (eVar 0) (eVar 2)))
def b_Judge_alone : S := (sRet (eMeth [(11, 97)] (eVar 0) (aCons (eVar 1) (aCons (eVar 2) (aCons (eVar 2) (aCons (eC .non) aNil))))))
def b_Judge_closed : S := (sRet (eMeth [(11, 97)] (eVar 0) (aCons (eVar 1) (aCons (eC .non) (aCons (eC .non) (aCons (eC .non) aNil))))))
def b_Judge_flag : S := (sSeq (sAsg (fun s w => g1 5 So.err w s) (eAttr 6 (eVar 1))) (sSeq (sIf (tB (eEq (eVar 5) (eC (.str 13)))) (sRet (eNot (eMeth [(11, 97)] (eVar 0) (aCons (eIdx (eAttr 4 (eVar 1)) (eC (.nat 0))) (aCons (eVar 2) (aCons (eVar 3) (aCons (eVar 4) aNil))))))) sNil) (sSeq (sIf (tB (eEq (eVar 5) (eC (.str 11)))) (sRet (eAnd (eMeth [(11, 97)] (eVar 0) (aCons (eIdx (eAttr 4 (eVar 1)) (eC (.nat 0))) (aCons (eVar 2) (aCons (eVar 3) (aCons (eVar 4) aNil))))) (eMeth [(11, 97)] (eVar 0) (aCons (eIdx (eAttr 4 (eVar 1)) (eC (.nat 1))) (aCons (eVar 2) (aCons (eVar 3) (aCons (eVar 4) aNil))))))) sNil) (sSeq (sIf (tB (eEq (eVar 5) (eC (.str 12)))) (sRet (eOr (eMeth [(11, 97)] (eVar 0) (aCons (eIdx (eAttr 4 (eVar 1)) (eC (.nat 0))) (aCons (eVar 2) (aCons (eVar 3) (aCons (eVar 4) aNil))))) (eMeth [(11, 97)] (eVar 0) (aCons (eIdx (eAttr 4 (eVar 1)) (eC (.nat 1))) (aCons (eVar 2) (aCons (eVar 3) (aCons (eVar 4) aNil))))))) sNil) (sSeq (sIf (tB (eEq (eVar 5) (eC (.str 8)))) (sRet (eC (.bl true))) sNil) (sSeq (sIf (tB (eIn (eVar 5) (eTup (aCons (eC (.str 9)) (aCons (eC (.str 10)) aNil))))) (sRet (eMeth [(1, 20), (11, 98)] (eVar 0) (aCons (eVar 1) (aCons (eVar 2) (aCons (eVar 3) aNil))))) sNil) (sRet (eMeth [(11, 99)] (eVar 0) (aCons (eVar 1) (aCons (eVar 2) (aCons (eVar 3) (aCons (eVar 4) aNil))))))))))))
def b_Judge_bound_flag : S := (sSeq (sIf (tNot (tTr (eAttr 3 (eVar 1)))) (sRet (eIdx (eAttr 41 (eVar 0)) (eAttr 2 (eVar 1)))) sNil) (sSeq (sAsg (fun s w => g1 4 So.err w s) (eIf (tB (eEq (eIdx (eAttr 3 (eVar 1)) (eC (.nat 0))) (eC (.str 4)))) (eVar 2) (eVar 3))) (sRet (eIdx (eAttr 16 (eVar 4)) (eAttr 2 (eVar 1))))))
def b_Judge_test : S := (sSeq (sIf (tB (eEq (eAttr 6 (eVar 1)) (eC (.str 7)))) (sSeq (sAsg (fun s w => g1 5 So.err w s) (eIf (tB (eEq (eIdx (eAttr 5 (eVar 1)) (eC (.nat 1))) (eC (.str 4)))) (eVar 2) (eVar 3))) (sRet (eIdx (eAttr 12 (eVar 5)) (eIndex (eProp 12 1 (eAttr 13 (eVar 0))) (eIdx (eAttr 5 (eVar 1)) (eC (.nat 0))))))) sNil) (sSeq (sAsg (fun s w => g2 6 7 So.err w s) (eLast2 (eAttr 5 (eVar 1)))) (sSeq (sIf (tB (eEq (eAttr 6 (eVar 1)) (eC (.str 6)))) (sRet (eOr (eEq (eVar 6) (eVar 7)) (eIsN (eVar 4)))) sNil) (sSeq (sIf (tOr (tB (eEq (eVar 6) (eVar 7))) (tB (eIsN (eVar 4)))) (sSeq (sAsg (fun s w => g1 5 So.err w s) (eIf (tB (eEq (eVar 6) (eC (.str 4)))) (eVar 2) (eVar 3))) (sRet (eIdx (eAttr 19 (eVar 5)) (eIndex (eProp 12 0 (eAttr 13 (eVar 0))) (eIdx (eAttr 5 (eVar 1)) (eC (.nat 0))))))) sNil) (sRet (eIdx (eVar 4) (eTup (aCons (eIdx (eAttr 5 (eVar 1)) (eC (.nat 0))) (aCons (eVar 6) (aCons (eVar 7) aNil))))))))))
def b_searches : S := (sSeq (sAsg (fun s w => g1 2 So.err w s) (eLst aNil)) (sSeq (sAsg (fun s w => g1 3 So.err w s) (eCall 16 (aCons (eVar 1) (aCons (eVar 2) aNil)))) (sSeq (sAsg (fun s w => g1 4 So.err w s) (eLc (gSeq (eVar 2)) (fun s w => g1 8 Ra.err w s) (tTr (eAttr 3 (eVar 8))) (eVar 8))) (sSeq (sAsg (fun s w => g1 5 So.err w s) (eLst aNil)) (sSeq (sFor (gSeq (eCall 39 (aCons (eVar 2) aNil))) (fun s w => g1 6 So.err w s) (sSeq (sAsg (fun s w => g1 7 So.err w s) (eCall 125 (aCons (eVar 0) (aCons (eAttr 16 (eVar 6)) aNil)))) (sIf (tTr (eMeth [(11, 96)] (eVar 7) (aCons (eVar 3) aNil))) (sExpr (eAppend (eVar 5) (eCall 123 (aCons (eVar 0) (aCons (eVar 7) (aCons (eVar 4) (aCons (eVar 6) (aCons (eVar 2) aNil)))))))) sNil))) (sRet (eVar 5)))))))
def b_some_world : S := (sSeq (sAsg (fun s w => g1 2 So.err w s) (eCall 100 (aCons (eVar 0) (aCons (eVar 1) aNil)))) (sSeq (sFor (gSeq (eVar 2)) (fun s w => g1 3 So.err w s) (sFor (gSeq (eTo1 (eMeth [(9, 79)] (eVar 3) aNil))) (fun s w => g1 4 So.err w s) (sRet (eMeth [(10, 91)] (eCall 93 (aCons (eVar 4) aNil)) aNil)))) (sSeq (sFor (gSeq (eVar 2)) (fun s w => g1 3 So.err w s) (sSeq (sAsg (fun s w => g1 4 So.err w s) (eMeth [(9, 77)] (eVar 3) aNil)) (sIf (tB (eNotN (eVar 4))) (sRet (eMeth [(10, 91)] (eCall 93 (aCons (eVar 4) aNil)) aNil)) sNil))) (sRet (eC .non)))))
def b_one_without : S := (sSeq (sAsg (fun s w => g1 3 So.err w s) (eTup (aCons (eC (.str 13)) (aCons (eVar 2) aNil)))) (sSeq (sFor (gSeq (eVar 1)) (fun s w => g1 4 So.err w s) (sAsg (fun s w => g1 3 So.err w s) (eTup (aCons (eC (.str 11)) (aCons (eVar 4) (aCons (eVar 3) aNil)))))) (sRet (eCall 101 (aCons (eVar 0) (aCons (eVar 3) aNil))))))
def b_parting : S := (sSeq (sExpr (eCall 34 (aCons (eVar 0) aNil))) (sSeq (sExpr (eCall 14 (aCons (eVar 0) (aCons (eVar 1) aNil)))) (sSeq (sExpr (eCall 14 (aCons (eVar 0) (aCons (eVar 2) aNil)))) (sSeq (sAsg (fun s w => g1 3 So.err w s) (eCall 102 (aCons (eVar 0) (aCons (eLstF (aCons (eVar 1) aNil)) (aCons (eVar 2) aNil))))) (sSeq (sIf (tB (eNotN (eVar 3))) (sRet (eTup (aCons (eC (.str 3)) (aCons (eVar 3) aNil)))) sNil) (sSeq (sAsg (fun s w => g1 3 So.err w s) (eCall 102 (aCons (eVar 0) (aCons (eLstF (aCons (eVar 2) aNil)) (aCons (eVar 1) aNil))))) (sSeq (sIf (tB (eNotN (eVar 3))) (sRet (eTup (aCons (eC (.str 14)) (aCons (eVar 3) aNil)))) sNil) (sRet (eC .non)))))))))
def b_check_given : S := (sSeq (sExpr (eCall 34 (aCons (eVar 0) aNil))) (sSeq (sIf (tOr (tNot (tTr (eCall 2 (aCons (eVar 1) aNil)))) (tB (eGt (eLen (eVar 1)) (eC (.nat 5))))) sNever sNil) (sSeq (sFor (gSeq (eVar 1)) (fun s w => g1 3 So.err w s) (sExpr (eCall 14 (aCons (eVar 0) (aCons (eVar 3) aNil))))) (sExpr (eCall 14 (aCons (eVar 0) (aCons (eVar 2) aNil)))))))
def b_follows : S := (sSeq (sExpr (eCall 104 (aCons (eVar 0) (aCons (eVar 1) (aCons (eVar 2) aNil))))) (sRet (eCall 102 (aCons (eVar 0) (aCons (eVar 1) (aCons (eVar 2) aNil))))))
def b__law_pairs : S := (sSeq (sAsg (fun s w => g1 2 So.err w s) (eTup (aCons (eC (.str 2)) (aCons (eVar 1) (aCons (eC (.str 4)) (aCons (eC (.str 5)) aNil)))))) (sSeq (sAsg (fun s w => g1 3 So.err w s) (eTup (aCons (eC (.str 2)) (aCons (eVar 1) (aCons (eC (.str 5)) (aCons (eC (.str 4)) aNil)))))) (sSeq (sAsg (fun s w => g1 4 So.err w s) (eTup (aCons (eC (.str 7)) (aCons (eVar 0) (aCons (eC (.str 4)) aNil))))) (sSeq (sAsg (fun s w => g1 5 So.err w s) (eTup (aCons (eC (.str 9)) (aCons (eC (.str 4)) (aCons (eTup (aCons (eC (.str 10)) (aCons (eC (.str 5)) (aCons (eVar 2) aNil)))) aNil))))) (sSeq (sAsg (fun s w => g1 6 So.err w s) (eTup (aCons (eC (.str 10)) (aCons (eC (.str 5)) (aCons (eTup (aCons (eC (.str 9)) (aCons (eC (.str 4)) (aCons (eVar 2) aNil)))) aNil))))) (sSeq (sAsg (fun s w => g1 7 So.err w s) (eTup (aCons (eC (.str 9)) (aCons (eC (.str 4)) (aCons (eTup (aCons (eC (.str 9)) (aCons (eC (.str 5)) (aCons (eVar 2) aNil)))) aNil))))) (sSeq (sAsg (fun s w => g1 8 So.err w s) (eTup (aCons (eC (.str 10)) (aCons (eC (.str 4)) (aCons (eTup (aCons (eC (.str 10)) (aCons (eC (.str 5)) (aCons (eVar 2) aNil)))) aNil))))) (sSeq (sAsg (fun s w => g1 9 So.err w s) (eTup (aCons (eC (.str 9)) (aCons (eC (.str 4)) (aCons (eTup (aCons (eC (.str 9)) (aCons (eC (.str 5)) (aCons (eTup (aCons (eC (.str 12)) (aCons (eTup (aCons (eC (.str 13)) (aCons (eVar 2) aNil))) (aCons (eVar 3) aNil)))) aNil)))) aNil))))) (sSeq (sAsg (fun s w => g1 10 So.err w s) (eTup (aCons (eC (.str 9)) (aCons (eC (.str 5)) (aCons (eTup (aCons (eC (.str 9)) (aCons (eC (.str 4)) (aCons (eTup (aCons (eC (.str 12)) (aCons (eVar 3) (aCons (eTup (aCons (eC (.str 13)) (aCons (eVar 2) aNil))) aNil)))) aNil)))) aNil))))) (sSeq (sAsg (fun s w => g1 11 So.err w s) (eTup (aCons (eC (.str 9)) (aCons (eC (.str 4)) (aCons (eTup (aCons (eC (.str 2)) (aCons (eVar 1) (aCons (eC (.str 4)) (aCons (eC (.str 4)) aNil))))) aNil))))) (sSeq (sAsg (fun s w => g1 12 So.err w s) (eLst (aCons (eTup (aCons (eVar 6) (aCons (eVar 5) (aCons (eC (.bl true)) (aCons (eC (.bl false)) aNil))))) (aCons (eTup (aCons (eVar 7) (aCons (eVar 6) (aCons (eC (.bl true)) (aCons (eC (.bl false)) aNil))))) (aCons (eTup (aCons (eVar 5) (aCons (eVar 8) (aCons (eC (.bl true)) (aCons (eC (.bl false)) aNil))))) aNil))))) (sSeq (sAsg (fun s w => g1 12 So.err w s) (eCatM (eVar 12) (eLstF (aCons (eTup (aCons (eVar 9) (aCons (eVar 10) (aCons (eC (.bl true)) (aCons (eC (.bl true)) aNil))))) (aCons (eTup (aCons (eVar 11) (aCons (eVar 5) (aCons (eC (.bl true)) (aCons (eC (.bl false)) aNil))))) (aCons (eTup (aCons (eVar 7) (aCons (eVar 11) (aCons (eC (.bl true)) (aCons (eC (.bl false)) aNil))))) aNil)))))) (sSeq (sExpr (eAppend (eVar 12) (eTup (aCons (eVar 7) (aCons (eVar 9) (aCons (eC (.bl true)) (aCons (eC (.bl false)) aNil))))))) (sSeq (sExpr (eAppend (eVar 12) (eTup (aCons (eTup (aCons (eC (.str 9)) (aCons (eC (.str 4)) (aCons (eVar 4) aNil)))) (aCons (eTup (aCons (eC (.str 10)) (aCons (eC (.str 5)) (aCons (eTup (aCons (eC (.str 7)) (aCons (eVar 0) (aCons (eC (.str 5)) aNil)))) aNil)))) (aCons (eC (.bl true)) (aCons (eC (.bl false)) aNil))))))) (sSeq (sExpr (eAppend (eVar 12) (eTup (aCons (eTup (aCons (eC (.str 10)) (aCons (eC (.str 4)) (aCons (eVar 4) aNil)))) (aCons (eTup (aCons (eC (.str 13)) (aCons (eTup (aCons (eC (.str 9)) (aCons (eC (.str 5)) (aCons (eTup (aCons (eC (.str 13)) (aCons (eTup (aCons (eC (.str 7)) (aCons (eVar 0) (aCons (eC (.str 5)) aNil)))) aNil))) aNil)))) aNil))) (aCons (eC (.bl true)) (aCons (eC (.bl true)) aNil))))))) (sSeq (sExpr (eAppend (eVar 12) (eTup (aCons (eVar 11) (aCons (eVar 9) (aCons (eC (.bl false)) (aCons (eC (.bl false)) aNil))))))) (sRet (eVar 12))))))))))))))))))
def b__law_reads : S := (sRet (eEq (eCall 33 (aCons (eVar 0) (aCons (eVar 1) aNil))) (eC (.bl true))))
def b_is_function : S := sNever
def b_is_integer : S := (sRet (eAnd (eIsi 6 (eVar 0)) (eNot (eIsi 2 (eVar 0)))))
def b_is_word : S := sWord
def b_are_names : S := (sSeq (sIf (tOr (tNot (tTr (eCall 2 (aCons (eVar 0) aNil)))) (tB (eGt (eLen (eVar 0)) (eVar 1)))) (sRet (eC (.bl false))) sNil) (sSeq (sAsg (fun s w => g1 3 So.err w s) (eDct false)) (sSeq (sFor (gSeq (eVar 0)) (fun s w => g1 4 So.err w s) (sSeq (sIf (tOr (tNot (tTr (eCall 110 (aCons (eVar 4) aNil)))) (tOr (tB (eInKept (eVar 4))) (tOr (tB (eIn (eVar 4) (eVar 2))) (tB (eIn (eVar 4) (eVar 3)))))) (sRet (eC (.bl false))) sNil) (sSub (eVar 3) (eVar 4) (eC (.bl true))))) (sRet (eC (.bl true))))))
def b_are_functions : S := (sSeq (sIf (tOr (tNot (tTr (eCall 2 (aCons (eVar 0) aNil)))) (tB (eGt (eLen (eVar 0)) (eC (.nat 1))))) (sRet (eC (.bl false))) sNil) (sSeq (sFor (gSeq (eVar 0)) (fun s w => g1 2 So.err w s) (sIf (tNot (tTr (eCall 5 (aCons (eVar 2) (aCons (eVar 1) aNil))))) (sRet (eC (.bl false))) sNil)) (sRet (eC (.bl true)))))
def b_Tongue___init__ : S := (sSeq (sIf (tNot (tTr (eCall 111 (aCons (eVar 1) (aCons (eC (.nat 3)) (aCons (eTup aNil) aNil)))))) sNever sNil) (sSeq (sIf (tNot (tTr (eCall 111 (aCons (eVar 2) (aCons (eC (.nat 2)) (aCons (eVar 1) aNil)))))) sNever sNil) (sSeq (sIf (tNot (tTr (eCall 112 (aCons (eVar 3) (aCons (eTuple (eVar 2)) aNil))))) sNever sNil) (sSeq (sAttr 1 (eVar 0) (eTuple (eVar 1))) (sSeq (sAttr 0 (eVar 0) (eTuple (eVar 2))) (sAttr 10 (eVar 0) (eTuple (eVar 3))))))))
def fns (f : Nat) : Fn := (Bool.rec (motive := fun _ => Fn) (Bool.rec (motive := fun _ => Fn) (Bool.rec (motive := fun _ => Fn) (Bool.rec (motive := fun _ => Fn) (Bool.rec (motive := fun _ => Fn) (Bool.rec (motive := fun _ => Fn) (.fn [] 0 sNever) (Bool.rec (motive := fun _ => Fn) (.fn [] 1 b_is_within) (.fn [] 1 b_is_sequence) (Nat.ble 2 f)) (Nat.ble 1 f)) (Bool.rec (motive := fun _ => Fn) (Bool.rec (motive := fun _ => Fn) (.fn [] 1 b_is_tuple) (.fn [] 1 b_is_headed) (Nat.ble 4 f)) (Bool.rec (motive := fun _ => Fn) (.fn [] 1 b_is_key) (.fn [] 1 b_is_name) (Nat.ble 6 f)) (Nat.ble 5 f)) (Nat.ble 3 f)) (Bool.rec (motive := fun _ => Fn) (Bool.rec (motive := fun _ => Fn) (Bool.rec (motive := fun _ => Fn) (.fn [] 1 b_is_test) (.fn [] 2 b_parts_of) (Nat.ble 8 f)) (Bool.rec (motive := fun _ => Fn) (.fn [.un, .un, .un, .un, .un, .un] 1 b_is_saying) (.fn [] 1 b_sayings_in) (Nat.ble 10 f)) (Nat.ble 9 f)) (Bool.rec (motive := fun _ => Fn) (Bool.rec (motive := fun _ => Fn) (.fn [] 1 b_own_names) (.fn [.un, .un, .un] 1 b_free_names) (Nat.ble 12 f)) (Bool.rec (motive := fun _ => Fn) (.fn [] 1 b_check_saying) (.fn [] 1 b_check_closed) (Nat.ble 14 f)) (Nat.ble 13 f)) (Nat.ble 11 f)) (Nat.ble 7 f)) (Bool.rec (motive := fun _ => Fn) (Bool.rec (motive := fun _ => Fn) (Bool.rec (motive := fun _ => Fn) (Bool.rec (motive := fun _ => Fn) (.fn [.un] 0 b_Node___init__) (.fn [.un, .un, .un, .un] 0 b_node_of) (Nat.ble 16 f)) (Bool.rec (motive := fun _ => Fn) (.fn [] 0 b_Reading___init__) (.fn [.un] 1 b_Reading_flag) (Nat.ble 18 f)) (Nat.ble 17 f)) (Bool.rec (motive := fun _ => Fn) (Bool.rec (motive := fun _ => Fn) (.fn [.un, .un] 1 b_Reading_test) (.fn [.un, .un] 1 b_Reading_bound_flag) (Nat.ble 20 f)) (Bool.rec (motive := fun _ => Fn) (.fn [.un, .un, .un, .un] 1 b_Reading_searched) (.fn [] 1 b_is_thing) (Nat.ble 22 f)) (Nat.ble 21 f)) (Nat.ble 19 f)) (Bool.rec (motive := fun _ => Fn) (Bool.rec (motive := fun _ => Fn) (Bool.rec (motive := fun _ => Fn) (.fn [] 1 b_is_pair) (.fn [.un] 1 b_is_dict_of) (Nat.ble 24 f)) (Bool.rec (motive := fun _ => Fn) (.fn [.un, .un] 1 b_are_things) (.fn [.un, .un] 1 b_are_pairs) (Nat.ble 26 f)) (Nat.ble 25 f)) (Bool.rec (motive := fun _ => Fn) (Bool.rec (motive := fun _ => Fn) (.fn [.un] 1 b_check_marks) (.fn [.un] 1 b_check_ties) (Nat.ble 28 f)) (Bool.rec (motive := fun _ => Fn) (.fn [.un, .un, .un] 0 b_World___init__) (.fn [] 1 b_World_has) (Nat.ble 30 f)) (Nat.ble 29 f)) (Nat.ble 27 f)) (Nat.ble 23 f)) (Nat.ble 15 f)) (Bool.rec (motive := fun _ => Fn) (Bool.rec (motive := fun _ => Fn) (Bool.rec (motive := fun _ => Fn) (Bool.rec (motive := fun _ => Fn) (Bool.rec (motive := fun _ => Fn) (.fn [] 1 b_World_leads) (.fn [] 1 b_is_held) (Nat.ble 32 f)) (Bool.rec (motive := fun _ => Fn) (.fn [] 1 b_holds) (.fn [] 1 b_check_plain) (Nat.ble 34 f)) (Nat.ble 33 f)) (Bool.rec (motive := fun _ => Fn) (Bool.rec (motive := fun _ => Fn) (.fn [.un] 2 b_cliques) (.fn [.un, .un, .un, .un, .un, .un] 1 b_grow) (Nat.ble 36 f)) (Bool.rec (motive := fun _ => Fn) (.fn [] 0 b_Case___init__) (.fn [.un] 1 b_Case_more) (Nat.ble 38 f)) (Nat.ble 37 f)) (Nat.ble 35 f)) (Bool.rec (motive := fun _ => Fn) (Bool.rec (motive := fun _ => Fn) (Bool.rec (motive := fun _ => Fn) (.fn [.un, .un, .un, .un, .un] 2 b_plain_cases) (.fn [.un] 1 b_meets) (Nat.ble 40 f)) (Bool.rec (motive := fun _ => Fn) (.fn [] 0 b_Kind___init__) (.fn [.un] 2 b_Kind_with_part) (Nat.ble 42 f)) (Nat.ble 41 f)) (Bool.rec (motive := fun _ => Fn) (Bool.rec (motive := fun _ => Fn) (.fn [.un, .un, .un, .un] 2 b_rows_of_flags) (.fn [.un, .un, .un] 2 b_plain_kinds) (Nat.ble 44 f)) (Bool.rec (motive := fun _ => Fn) (.fn [.un, .un, .un] 1 b_is_let) (.fn [] 0 b_Way___init__) (Nat.ble 46 f)) (Nat.ble 45 f)) (Nat.ble 43 f)) (Nat.ble 39 f)) (Bool.rec (motive := fun _ => Fn) (Bool.rec (motive := fun _ => Fn) (Bool.rec (motive := fun _ => Fn) (Bool.rec (motive := fun _ => Fn) (.fn [.un, .un, .un, .un, .un] 2 b_both_ways) (.fn [.un, .un, .un, .un] 2 b_turned_ways) (Nat.ble 48 f)) (Bool.rec (motive := fun _ => Fn) (.fn [.un, .un] 1 b_meets_bars) (.fn [.un, .un] 1 b_meets_shut) (Nat.ble 50 f)) (Nat.ble 49 f)) (Bool.rec (motive := fun _ => Fn) (Bool.rec (motive := fun _ => Fn) (.fn [.un, .un] 1 b_are_let) (.fn [.un, .un, .un, .un, .un] 1 b_sort_list) (Nat.ble 52 f)) (Bool.rec (motive := fun _ => Fn) (.fn [.un, .un, .un] 2 b_bit_list) (.fn [] 0 b_Option___init__) (Nat.ble 54 f)) (Nat.ble 53 f)) (Nat.ble 51 f)) (Bool.rec (motive := fun _ => Fn) (Bool.rec (motive := fun _ => Fn) (Bool.rec (motive := fun _ => Fn) (.fn [] 1 b_Option_turned) (.fn [.un] 0 b_Sorts___init__) (Nat.ble 56 f)) (Bool.rec (motive := fun _ => Fn) (.fn [.un, .un, .un] 1 b_Sorts_own_wishes) (.fn [.un, .un, .un, .un] 1 b_Sorts_met) (Nat.ble 58 f)) (Nat.ble 57 f)) (Bool.rec (motive := fun _ => Fn) (Bool.rec (motive := fun _ => Fn) (.fn [.un, .un, .un, .un, .un, .un] 1 b_Sorts_options) (.fn [] 1 b_is_less) (Nat.ble 60 f)) (Bool.rec (motive := fun _ => Fn) (.fn [.un, .un, .un, .un] 1 b_best_options) (.fn [] 0 b_Plan___init__) (Nat.ble 62 f)) (Nat.ble 61 f)) (Nat.ble 59 f)) (Nat.ble 55 f)) (Nat.ble 47 f)) (Nat.ble 31 f)) (Bool.rec (motive := fun _ => Fn) (Bool.rec (motive := fun _ => Fn) (Bool.rec (motive := fun _ => Fn) (Bool.rec (motive := fun _ => Fn) (Bool.rec (motive := fun _ => Fn) (Bool.rec (motive := fun _ => Fn) (.fn [.un, .un, .un] 1 b_common_wishes) (.fn [.un, .un, .un, .un, .un, .un, .un, .un] 2 b_covers) (Nat.ble 64 f)) (Bool.rec (motive := fun _ => Fn) (.fn [.un] 1 b_left_wishes) (.fn [.un, .un, .un] 2 b_lasting) (Nat.ble 66 f)) (Nat.ble 65 f)) (Bool.rec (motive := fun _ => Fn) (Bool.rec (motive := fun _ => Fn) (.fn [.un, .un, .un] 2 b_court_option) (.fn [.un, .un] 1 b_court_wishes) (Nat.ble 68 f)) (Bool.rec (motive := fun _ => Fn) (.fn [.un, .un, .un] 2 b_chosen_ways) (.fn [.un, .un, .un, .un, .un, .un] 2 b_chosen_from) (Nat.ble 70 f)) (Nat.ble 69 f)) (Nat.ble 67 f)) (Bool.rec (motive := fun _ => Fn) (Bool.rec (motive := fun _ => Fn) (Bool.rec (motive := fun _ => Fn) (.fn [.un, .un] 1 b_has_all) (.fn [.un, .un, .un, .un, .un] 1 b_plan_with) (Nat.ble 72 f)) (Bool.rec (motive := fun _ => Fn) (.fn [] 1 b_is_let_pair) (.fn [.un, .un, .un, .un, .un] 2 b_king_lots) (Nat.ble 74 f)) (Nat.ble 73 f)) (Bool.rec (motive := fun _ => Fn) (Bool.rec (motive := fun _ => Fn) (.fn [.un, .un, .un] 0 b_Search___init__) (.fn [.un, .un, .un] 1 b_Search_sorts_with) (Nat.ble 76 f)) (Bool.rec (motive := fun _ => Fn) (.fn [.un, .un, .un, .un, .un, .un, .un] 1 b_Search_first_plan) (.fn [.un, .un, .un, .un] 1 b_Search_smaller) (Nat.ble 78 f)) (Nat.ble 77 f)) (Nat.ble 75 f)) (Nat.ble 71 f)) (Bool.rec (motive := fun _ => Fn) (Bool.rec (motive := fun _ => Fn) (Bool.rec (motive := fun _ => Fn) (Bool.rec (motive := fun _ => Fn) (.fn [.un, .un, .un] 2 b_Search_lone_plans) (.fn [] 0 b_Builder___init__) (Nat.ble 80 f)) (Bool.rec (motive := fun _ => Fn) (.fn [] 1 b_Builder_put) (.fn [] 1 b_Builder_link) (Nat.ble 82 f)) (Nat.ble 81 f)) (Bool.rec (motive := fun _ => Fn) (Bool.rec (motive := fun _ => Fn) (.fn [.un, .un, .un] 1 b_Builder_put_kings) (.fn [.un, .un, .un] 1 b_Builder_put_common) (Nat.ble 84 f)) (Bool.rec (motive := fun _ => Fn) (.fn [.un, .un, .un, .un, .un] 2 b_Builder_put_courts) (.fn [.un, .un, .un, .un] 1 b_Builder_king_left) (Nat.ble 86 f)) (Nat.ble 85 f)) (Nat.ble 83 f)) (Bool.rec (motive := fun _ => Fn) (Bool.rec (motive := fun _ => Fn) (Bool.rec (motive := fun _ => Fn) (.fn [.un, .un, .un, .un, .un, .un] 1 b_Builder_put_groups) (.fn [.un, .un, .un, .un] 1 b_Builder_meet) (Nat.ble 88 f)) (Bool.rec (motive := fun _ => Fn) (.fn [.un, .un] 2 b_Builder_helper) (.fn [.un, .un, .un, .un] 1 b_Builder_run) (Nat.ble 90 f)) (Nat.ble 89 f)) (Bool.rec (motive := fun _ => Fn) (Bool.rec (motive := fun _ => Fn) (.fn [.un, .un, .un, .un, .un, .un, .un, .un, .un] 1 b_Builder_made_world) (.fn [.un, .un, .un, .un] 1 b_Builder_tell_ways) (Nat.ble 92 f)) (Bool.rec (motive := fun _ => Fn) (.fn [.un] 0 b_built) (.fn [] 0 b_Judge___init__) (Nat.ble 94 f)) (Nat.ble 93 f)) (Nat.ble 91 f)) (Nat.ble 87 f)) (Nat.ble 79 f)) (Bool.rec (motive := fun _ => Fn) (Bool.rec (motive := fun _ => Fn) (Bool.rec (motive := fun _ => Fn) (Bool.rec (motive := fun _ => Fn) (Bool.rec (motive := fun _ => Fn) (.fn [] 1 b_Judge_alone) (.fn [] 1 b_Judge_closed) (Nat.ble 96 f)) (Bool.rec (motive := fun _ => Fn) (.fn [.un] 1 b_Judge_flag) (.fn [.un] 1 b_Judge_bound_flag) (Nat.ble 98 f)) (Nat.ble 97 f)) (Bool.rec (motive := fun _ => Fn) (Bool.rec (motive := fun _ => Fn) (.fn [.un, .un, .un] 1 b_Judge_test) (.fn [.un, .un, .un, .un, .un, .un, .un] 0 b_searches) (Nat.ble 100 f)) (Bool.rec (motive := fun _ => Fn) (.fn [.un, .un, .un] 1 b_some_world) (.fn [.un, .un] 1 b_one_without) (Nat.ble 102 f)) (Nat.ble 101 f)) (Nat.ble 99 f)) (Bool.rec (motive := fun _ => Fn) (Bool.rec (motive := fun _ => Fn) (Bool.rec (motive := fun _ => Fn) (.fn [.un] 1 b_parting) (.fn [.un] 1 b_check_given) (Nat.ble 104 f)) (Bool.rec (motive := fun _ => Fn) (.fn [] 1 b_follows) (.fn [.un, .un, .un, .un, .un, .un, .un, .un, .un, .un, .un] 2 b__law_pairs) (Nat.ble 106 f)) (Nat.ble 105 f)) (Bool.rec (motive := fun _ => Fn) (Bool.rec (motive := fun _ => Fn) (.fn [] 1 b__law_reads) (.fn [.un, .un] 1 b_is_function) (Nat.ble 108 f)) (Bool.rec (motive := fun _ => Fn) (.fn [] 1 b_is_integer) (.fn [.un] 1 b_is_word) (Nat.ble 110 f)) (Nat.ble 109 f)) (Nat.ble 107 f)) (Nat.ble 103 f)) (Bool.rec (motive := fun _ => Fn) (Bool.rec (motive := fun _ => Fn) (Bool.rec (motive := fun _ => Fn) (Bool.rec (motive := fun _ => Fn) (.fn [.un, .un] 1 b_are_names) (.fn [.un] 1 b_are_functions) (Nat.ble 112 f)) (Bool.rec (motive := fun _ => Fn) (.fn [] 0 b_Tongue___init__) (.mk 0 15 false true) (Nat.ble 114 f)) (Nat.ble 113 f)) (Bool.rec (motive := fun _ => Fn) (Bool.rec (motive := fun _ => Fn) (.mk 1 17 false true) (.mk 2 29 true true) (Nat.ble 116 f)) (Bool.rec (motive := fun _ => Fn) (.mk 3 37 false true) (.mk 4 41 false false) (Nat.ble 118 f)) (Nat.ble 117 f)) (Nat.ble 115 f)) (Bool.rec (motive := fun _ => Fn) (Bool.rec (motive := fun _ => Fn) (Bool.rec (motive := fun _ => Fn) (.mk 5 46 true true) (.mk 6 54 false true) (Nat.ble 120 f)) (Bool.rec (motive := fun _ => Fn) (.mk 7 56 false true) (.mk 8 62 false true) (Nat.ble 122 f)) (Nat.ble 121 f)) (Bool.rec (motive := fun _ => Fn) (Bool.rec (motive := fun _ => Fn) (.mk 9 75 false true) (.mk 10 80 false false) (Nat.ble 124 f)) (Bool.rec (motive := fun _ => Fn) (.mk 11 94 false true) (.mk 12 113 false true) (Nat.ble 126 f)) (Nat.ble 125 f)) (Nat.ble 123 f)) (Nat.ble 119 f)) (Nat.ble 111 f)) (Nat.ble 95 f)) (Nat.ble 63 f))
/- texts: 2 tie, 3 one, 4 x, 5 y, 6 same, 7 mark, 8 true, 9 each, 10 some, 11 and, 12 or, 13 not, 14 other -/
/- defs: 1 is_within, 2 is_sequence, 3 is_tuple, 4 is_headed, 5 is_key, 6 is_name, 7 is_test, 8 parts_of, 9 is_saying, 10 sayings_in, 11 own_names, 12 free_names, 13 check_saying, 14 check_closed, 15 Node.__init__, 16 node_of, 17 Reading.__init__, 18 Reading.flag, 19 Reading.test, 20 Reading.bound_flag, 21 Reading.searched, 22 is_thing, 23 is_pair, 24 is_dict_of, 25 are_things, 26 are_pairs, 27 check_marks, 28 check_ties, 29 World.__init__, 30 World.has, 31 World.leads, 32 is_held, 33 holds, 34 check_plain, 35 cliques, 36 grow, 37 Case.__init__, 38 Case.more, 39 plain_cases, 40 meets, 41 Kind.__init__, 42 Kind.with_part, 43 rows_of_flags, 44 plain_kinds, 45 is_let, 46 Way.__init__, 47 both_ways, 48 turned_ways, 49 meets_bars, 50 meets_shut, 51 are_let, 52 sort_list, 53 bit_list, 54 Option.__init__, 55 Option.turned, 56 Sorts.__init__, 57 Sorts.own_wishes, 58 Sorts.met, 59 Sorts.options, 60 is_less, 61 best_options, 62 Plan.__init__, 63 common_wishes, 64 covers, 65 left_wishes, 66 lasting, 67 court_option, 68 court_wishes, 69 chosen_ways, 70 chosen_from, 71 has_all, 72 plan_with, 73 is_let_pair, 74 king_lots, 75 Search.__init__, 76 Search.sorts_with, 77 Search.first_plan, 78 Search.smaller, 79 Search.lone_plans, 80 Builder.__init__, 81 Builder.put, 82 Builder.link, 83 Builder.put_kings, 84 Builder.put_common, 85 Builder.put_courts, 86 Builder.king_left, 87 Builder.put_groups, 88 Builder.meet, 89 Builder.helper, 90 Builder.run, 91 Builder.made_world, 92 Builder.tell_ways, 93 built, 94 Judge.__init__, 95 Judge.alone, 96 Judge.closed, 97 Judge.flag, 98 Judge.bound_flag, 99 Judge.test, 100 searches, 101 some_world, 102 one_without, 103 parting, 104 check_given, 105 follows, 106 _law_pairs, 107 _law_reads, 108 is_function, 109 is_integer, 110 is_word, 111 are_names, 112 are_functions, 113 Tongue.__init__ -/
/- making: 114 Node, 115 Reading, 116 World, 117 Case, 118 Kind, 119 Way, 120 Option, 121 Sorts, 122 Plan, 123 Search, 124 Builder, 125 Judge, 126 Tongue -/
/- fields: 0 kept_ties, 1 kept_marks, 2 number, 3 free, 4 parts, 5 names, 6 word, 7 told, 8 world, 9 things, 10 functions, 11 tied, 12 marked, 13 tongue, 14 sign, 15 needs, 16 flags, 17 shut, 18 bars, 19 loops, 20 back, 21 forth, 22 second, 23 first, 24 ways, 25 known, 26 wishes, 27 kinds, 28 bits, 29 inner, 30 judge, 31 chosen, 32 commons, 33 kings, 34 sorts, 35 wanted, 36 many, 37 lone, 38 spots, 39 sorts_of, 40 plan, 41 cases -/
end
end Ev
end

section
/-! Lb (printed by gen3.py): the machine terms of the statements of the law. -/
namespace Ev
noncomputable section
def b_l3 : S := (sAsg (fun s w => g1 3 So.err w s) (eCall 126 (aCons (eTupW (aCons (eIdx (eVar 2) (eC (.nat 0))) aNil)) (aCons (eTupW (aCons (eIdx (eVar 2) (eC (.nat 1))) aNil)) (aCons (eTup aNil) aNil)))))
def b_l5 : S := (sAsg (fun s w => g1 5 So.err w s) (eCall 106 (aCons (eIdx (eVar 2) (eC (.nat 0))) (aCons (eIdx (eVar 2) (eC (.nat 1))) aNil))))
def b_s2 : S := (sAsg (fun s w => g1 10 So.err w s) (eCall 105 (aCons (eVar 3) (aCons (eLstF (aCons (eVar 6) aNil)) (aCons (eVar 7) aNil)))))
def b_s3 : S := (sIf (tOr (tB (eNe (eIsN (eVar 10)) (eVar 8))) (tAnd (tB (eNotN (eVar 10))) (tOr (tNot (tTr (eCall 107 (aCons (eVar 10) (aCons (eVar 6) aNil))))) (tTr (eCall 107 (aCons (eVar 10) (aCons (eVar 7) aNil))))))) (sRet (eC (.bl false))) sNil)
def b_s4 : S := (sAsg (fun s w => g1 10 So.err w s) (eCall 105 (aCons (eVar 3) (aCons (eTup (aCons (eVar 7) aNil)) (aCons (eVar 6) aNil)))))
def b_s5 : S := (sIf (tOr (tB (eNe (eIsN (eVar 10)) (eVar 9))) (tAnd (tB (eNotN (eVar 10))) (tOr (tNot (tTr (eCall 107 (aCons (eVar 10) (aCons (eVar 7) aNil))))) (tTr (eCall 107 (aCons (eVar 10) (aCons (eVar 6) aNil))))))) (sRet (eC (.bl false))) sNil)
def b_s6 : S := (sAsg (fun s w => g1 10 So.err w s) (eCall 103 (aCons (eVar 3) (aCons (eVar 6) (aCons (eVar 7) aNil)))))
def b_s7 : S := (sIf (tB (eNe (eIsN (eVar 10)) (eAnd (eVar 8) (eVar 9)))) (sRet (eC (.bl false))) sNil)
def b_s8 : S := (sIf (tAnd (tB (eNotN (eVar 10))) (tB (eNe (eCall 107 (aCons (eIdx (eVar 10) (eC (.nat 1))) (aCons (eVar 6) aNil))) (eEq (eIdx (eVar 10) (eC (.nat 0))) (eC (.str 3)))))) (sRet (eC (.bl false))) sNil)
def b_lA : S := sSeq b_s2 b_s3
def b_lB : S := sSeq b_s4 b_s5
def b_lC : S := sSeq b_s6 (sSeq b_s7 b_s8)
end
end Ev
end

section
set_option maxRecDepth 100000
set_option maxHeartbeats 0
set_option Elab.async false
/-! Qa: the data of a turn of the law, for the machine. -/
namespace Ev
noncomputable section
/-- the slots that are kept -/
def maskL (m : List Bool) (s : List W) : List W :=
  List.rec (motive := fun _ => List W → List W) (fun s => s) (fun b _ ih s => List.rec (motive := fun _ => List W) [] (fun w r _ => Bool.rec (motive := fun _ => W) .un w b :: ih r) s) m s
def finS (m : List Bool) (r : So) : Option (List W) := So.rec (motive := fun _ => Option (List W)) none (fun s _ _ => some (maskL m s)) (fun _ _ _ => none) (fun _ _ _ => none) (fun _ _ _ => none) r
def wN : W := .lst [.str 0, .str 1]
def wT : W := .obj 12 [1, 0, 10] [.wtup [.str 0], .wtup [.str 1], .tup []]
def s3 : List W := [.un, .ref 0, wN, .un, .un, .un, .un, .un, .un, .un, .un]
def s0 : List W := [.un, .ref 0, wN, wT, .un, .un, .un, .un, .un, .un, .un]
def m0 : List Bool := [false, true, true, true, false, false, false, false, false, false, false]
def mC : List Bool := [false, true, true, true, false, false, false, false, false, false, false]
def mD : List Bool := [false, true, true, true, false, false, true, true, true, true, false]
def m5 : List Bool := [false, true, true, true, false, true, false, false, false, false, false]
def tieXY : W := .tup [.str 2, .str 1, .str 4, .str 5]
def tieYX : W := .tup [.str 2, .str 1, .str 5, .str 4]
def redX : W := .tup [.str 7, .str 0, .str 4]
def redY : W := .tup [.str 7, .str 0, .str 5]
def qES : W := .tup [.str 9, .str 4, .tup [.str 10, .str 5, tieXY]]
def qSE : W := .tup [.str 10, .str 5, .tup [.str 9, .str 4, tieXY]]
def qEE : W := .tup [.str 9, .str 4, .tup [.str 9, .str 5, tieXY]]
def qSS : W := .tup [.str 10, .str 4, .tup [.str 10, .str 5, tieXY]]
def qB : W := .tup [.str 9, .str 4, .tup [.str 9, .str 5, .tup [.str 12, .tup [.str 13, tieXY], tieYX]]]
def qT : W := .tup [.str 9, .str 5, .tup [.str 9, .str 4, .tup [.str 12, tieYX, .tup [.str 13, tieXY]]]]
def qL : W := .tup [.str 9, .str 4, .tup [.str 2, .str 1, .str 4, .str 4]]
def qER : W := .tup [.str 9, .str 4, redX]
def qSR : W := .tup [.str 10, .str 5, redY]
def qSX : W := .tup [.str 10, .str 4, redX]
def qNR : W := .tup [.str 13, .tup [.str 9, .str 5, .tup [.str 13, redY]]]
/-- one, other, forth, back -/
def rowA : List (W × W × Bool × Bool) := [(qSE, qES, true, false), (qEE, qSE, true, false), (qES, qSS, true, false), (qB, qT, true, true), (qL, qES, true, false), (qEE, qL, true, false), (qEE, qB, true, false), (qER, qSR, true, false), (qSX, qNR, true, true), (qL, qB, false, false)]
def rowW (r : W × W × Bool × Bool) : W := .tup [r.1, r.2.1, .bl r.2.2.1, .bl r.2.2.2]
def rowsW : List W := [rowW (qSE, qES, true, false), rowW (qEE, qSE, true, false), rowW (qES, qSS, true, false), rowW (qB, qT, true, true), rowW (qL, qES, true, false), rowW (qEE, qL, true, false), rowW (qEE, qB, true, false), rowW (qER, qSR, true, false), rowW (qSX, qNR, true, true), rowW (qL, qB, false, false)]
def s5 : List W := [.un, .ref 0, wN, wT, .un, .lst rowsW, .un, .un, .un, .un, .un]
/-- behind the draw -/
def sD (a b : W) (p q : Bool) : List W := [.un, .ref 0, wN, wT, .un, .un, a, b, .bl p, .bl q, .un]
theorem ev3 : finS m0 (b_l3 (run fns 60) s3 1 .nil) = some s0 := by kernel_rfl
theorem ev5 : finS m5 (b_l5 (run fns 60) s0 1 .nil) = some s5 := by kernel_rfl
end
end Ev
end

section
set_option maxRecDepth 100000
set_option maxHeartbeats 0
set_option Elab.async false
namespace Ev
theorem turnA0 : finS mD (b_lA (run fns 60) (sD qSE qES true false) 1 .nil) = some (sD qSE qES true false) := by kernel_rfl
end Ev
end

section
set_option maxRecDepth 100000
set_option maxHeartbeats 0
set_option Elab.async false
namespace Ev
theorem turnB0 : finS mD (b_lB (run fns 60) (sD qSE qES true false) 1 .nil) = some (sD qSE qES true false) := by kernel_rfl
end Ev
end

section
set_option maxRecDepth 100000
set_option maxHeartbeats 0
set_option Elab.async false
namespace Ev
theorem turnC0 : finS mC (b_lC (run fns 60) (sD qSE qES true false) 1 .nil) = some (s0) := by kernel_rfl
end Ev
end

section
set_option maxRecDepth 100000
set_option maxHeartbeats 0
set_option Elab.async false
namespace Ev
theorem turnA1 : finS mD (b_lA (run fns 60) (sD qEE qSE true false) 1 .nil) = some (sD qEE qSE true false) := by kernel_rfl
end Ev
end

section
set_option maxRecDepth 100000
set_option maxHeartbeats 0
set_option Elab.async false
namespace Ev
theorem turnB1 : finS mD (b_lB (run fns 60) (sD qEE qSE true false) 1 .nil) = some (sD qEE qSE true false) := by kernel_rfl
end Ev
end

section
set_option maxRecDepth 100000
set_option maxHeartbeats 0
set_option Elab.async false
namespace Ev
theorem turnC1 : finS mC (b_lC (run fns 60) (sD qEE qSE true false) 1 .nil) = some (s0) := by kernel_rfl
end Ev
end

section
set_option maxRecDepth 100000
set_option maxHeartbeats 0
set_option Elab.async false
namespace Ev
theorem turnA2 : finS mD (b_lA (run fns 60) (sD qES qSS true false) 1 .nil) = some (sD qES qSS true false) := by kernel_rfl
end Ev
end

section
set_option maxRecDepth 100000
set_option maxHeartbeats 0
set_option Elab.async false
namespace Ev
theorem turnB2 : finS mD (b_lB (run fns 60) (sD qES qSS true false) 1 .nil) = some (sD qES qSS true false) := by kernel_rfl
end Ev
end

section
set_option maxRecDepth 100000
set_option maxHeartbeats 0
set_option Elab.async false
namespace Ev
theorem turnC2 : finS mC (b_lC (run fns 60) (sD qES qSS true false) 1 .nil) = some (s0) := by kernel_rfl
end Ev
end

section
set_option maxRecDepth 100000
set_option maxHeartbeats 0
set_option Elab.async false
namespace Ev
theorem turnA3 : finS mD (b_lA (run fns 60) (sD qB qT true true) 1 .nil) = some (sD qB qT true true) := by kernel_rfl
end Ev
end

section
set_option maxRecDepth 100000
set_option maxHeartbeats 0
set_option Elab.async false
namespace Ev
theorem turnB3 : finS mD (b_lB (run fns 60) (sD qB qT true true) 1 .nil) = some (sD qB qT true true) := by kernel_rfl
end Ev
end

section
set_option maxRecDepth 100000
set_option maxHeartbeats 0
set_option Elab.async false
namespace Ev
theorem turnC3 : finS mC (b_lC (run fns 60) (sD qB qT true true) 1 .nil) = some (s0) := by kernel_rfl
end Ev
end

section
set_option maxRecDepth 100000
set_option maxHeartbeats 0
set_option Elab.async false
namespace Ev
theorem turnA4 : finS mD (b_lA (run fns 60) (sD qL qES true false) 1 .nil) = some (sD qL qES true false) := by kernel_rfl
end Ev
end

section
set_option maxRecDepth 100000
set_option maxHeartbeats 0
set_option Elab.async false
namespace Ev
theorem turnB4 : finS mD (b_lB (run fns 60) (sD qL qES true false) 1 .nil) = some (sD qL qES true false) := by kernel_rfl
end Ev
end

section
set_option maxRecDepth 100000
set_option maxHeartbeats 0
set_option Elab.async false
namespace Ev
theorem turnC4 : finS mC (b_lC (run fns 60) (sD qL qES true false) 1 .nil) = some (s0) := by kernel_rfl
end Ev
end

section
set_option maxRecDepth 100000
set_option maxHeartbeats 0
set_option Elab.async false
namespace Ev
theorem turnA5 : finS mD (b_lA (run fns 60) (sD qEE qL true false) 1 .nil) = some (sD qEE qL true false) := by kernel_rfl
end Ev
end

section
set_option maxRecDepth 100000
set_option maxHeartbeats 0
set_option Elab.async false
namespace Ev
theorem turnB5 : finS mD (b_lB (run fns 60) (sD qEE qL true false) 1 .nil) = some (sD qEE qL true false) := by kernel_rfl
end Ev
end

section
set_option maxRecDepth 100000
set_option maxHeartbeats 0
set_option Elab.async false
namespace Ev
theorem turnC5 : finS mC (b_lC (run fns 60) (sD qEE qL true false) 1 .nil) = some (s0) := by kernel_rfl
end Ev
end

section
set_option maxRecDepth 100000
set_option maxHeartbeats 0
set_option Elab.async false
namespace Ev
theorem turnA6 : finS mD (b_lA (run fns 60) (sD qEE qB true false) 1 .nil) = some (sD qEE qB true false) := by kernel_rfl
end Ev
end

section
set_option maxRecDepth 100000
set_option maxHeartbeats 0
set_option Elab.async false
namespace Ev
theorem turnB6 : finS mD (b_lB (run fns 60) (sD qEE qB true false) 1 .nil) = some (sD qEE qB true false) := by kernel_rfl
end Ev
end

section
set_option maxRecDepth 100000
set_option maxHeartbeats 0
set_option Elab.async false
namespace Ev
theorem turnC6 : finS mC (b_lC (run fns 60) (sD qEE qB true false) 1 .nil) = some (s0) := by kernel_rfl
end Ev
end

section
set_option maxRecDepth 100000
set_option maxHeartbeats 0
set_option Elab.async false
namespace Ev
theorem turnA7 : finS mD (b_lA (run fns 60) (sD qER qSR true false) 1 .nil) = some (sD qER qSR true false) := by kernel_rfl
end Ev
end

section
set_option maxRecDepth 100000
set_option maxHeartbeats 0
set_option Elab.async false
namespace Ev
theorem turnB7 : finS mD (b_lB (run fns 60) (sD qER qSR true false) 1 .nil) = some (sD qER qSR true false) := by kernel_rfl
end Ev
end

section
set_option maxRecDepth 100000
set_option maxHeartbeats 0
set_option Elab.async false
namespace Ev
theorem turnC7 : finS mC (b_lC (run fns 60) (sD qER qSR true false) 1 .nil) = some (s0) := by kernel_rfl
end Ev
end

section
set_option maxRecDepth 100000
set_option maxHeartbeats 0
set_option Elab.async false
namespace Ev
theorem turnA8 : finS mD (b_lA (run fns 60) (sD qSX qNR true true) 1 .nil) = some (sD qSX qNR true true) := by kernel_rfl
end Ev
end

section
set_option maxRecDepth 100000
set_option maxHeartbeats 0
set_option Elab.async false
namespace Ev
theorem turnB8 : finS mD (b_lB (run fns 60) (sD qSX qNR true true) 1 .nil) = some (sD qSX qNR true true) := by kernel_rfl
end Ev
end

section
set_option maxRecDepth 100000
set_option maxHeartbeats 0
set_option Elab.async false
namespace Ev
theorem turnC8 : finS mC (b_lC (run fns 60) (sD qSX qNR true true) 1 .nil) = some (s0) := by kernel_rfl
end Ev
end

section
set_option maxRecDepth 100000
set_option maxHeartbeats 0
set_option Elab.async false
namespace Ev
theorem turnA9 : finS mD (b_lA (run fns 60) (sD qL qB false false) 1 .nil) = some (sD qL qB false false) := by kernel_rfl
end Ev
end

section
set_option maxRecDepth 100000
set_option maxHeartbeats 0
set_option Elab.async false
namespace Ev
theorem turnB9 : finS mD (b_lB (run fns 60) (sD qL qB false false) 1 .nil) = some (sD qL qB false false) := by kernel_rfl
end Ev
end

section
set_option maxRecDepth 100000
set_option maxHeartbeats 0
set_option Elab.async false
namespace Ev
theorem turnC9 : finS mC (b_lC (run fns 60) (sD qL qB false false) 1 .nil) = some (s0) := by kernel_rfl
end Ev
end

section
set_option Elab.async false
set_option linter.all false
set_option maxRecDepth 100000
/-! Sd0: how the small machine's data stand for the hand layer's (RV, RO, Rep), what a later state keeps (Ext), and what a term of the small machine promises of an expression, a test, a statement (tM, tT, tS). -/
namespace Sd
open PySem PySem.Spec PyProof.Rows L2
open Ev (Hl Rs Rb Ra So Sr CallT)
/-- the texts by number (ns of them), the classes, the names of attributes -/
structure Cn where
  K : PySem.W.Frag
  ν : Nat → Str
  ns : Nat
  CA : Nat → Addr
  nc : Nat
  FN : Nat → Str
  inj : ∀ i j, i < ns → j < ns → Ev.sep i j = true → ν i = ν j → i = j
  fj : ∀ i j, FN i = FN j → i = j
  P : Program
  w : World
/-- where the live objects stand, how many numbers are given away, which addresses are live, the abstract heap -/
structure Ms where
  ρ : Nat → Addr
  n : Nat
  P : Addr → Prop
  H : Hp
  /-- what a comprehension is making: no value of the machine stands for it yet -/
  E : Addr → Prop
noncomputable def keyOf (c : Cn) : Ev.W → Option Key
  | .nat n => some (.inl n)
  | .str s => if s < c.ns ∧ Ev.plainS s = true then some (.inr (c.ν s)) else none
  | _ => none
noncomputable def keysOf (c : Cn) : List Ev.W → Option (List Key)
  | [] => some []
  | w :: r => match keyOf c w, keysOf c r with
    | some a, some b => some (a :: b)
    | _, _ => none
noncomputable def tkeyOf (c : Cn) : Ev.W → Option (List Key)
  | .tup l => keysOf c l
  | _ => none
def LstAt (H : Hp) (a : Addr) (xs : List V) : Prop := H a = some (.lst xs)
/-- a tuple of which it is known that it has no dict: a written one, a locked one -/
def TupK (c : Cn) (M : Ms) (a : Addr) (xs : List V) : Prop := ((∀ H, SqT c.K H a xs) ∧ ∃ o, c.K.lookup a = some o ∧ o.cls = .type "tuple" ∧ o.dict = none) ∨ (¬ M.P a ∧ ∃ o, M.H a = some (.frz o (.tup xs)) ∧ o.dict = none)
mutual
def RV (c : Cn) (M : Ms) : Ev.W → V → Prop
  | .un, _ => False
  | .non, v => v = .non
  | .bl b, v => v = .bl b
  | .nat k, v => v = .int k
  | .str s, v => s < c.ns ∧ v = .str (c.ν s)
  | .tup ws, v => ∃ a xs, v = .ref a ∧ ¬ M.P a ∧ M.H a = some (.tup xs) ∧ RVs c M ws xs
  | .wtup ws, v => ∃ a xs, v = .ref a ∧ TupK c M a xs ∧ RVs c M ws xs
  | .lst ws, v => ∃ a xs, v = .ref a ∧ ¬ M.P a ∧ LstAt M.H a xs ∧ RVs c M ws xs
  | .dct false ks vs, v => ∃ a, v = .ref a ∧ ¬ M.P a ∧ ∃ kvs : List (Key × V), Rd M.H a (.dK kvs) ∧ ks.map (keyOf c) = kvs.map (fun p => some p.1) ∧ RVs c M vs (kvs.map (·.2))
  | .dct true ks vs, v => ∃ a, v = .ref a ∧ ¬ M.P a ∧ ∃ kvs : List (List Key × V), Rd M.H a (.dT kvs) ∧ ks.map (tkeyOf c) = kvs.map (fun p => some p.1) ∧ RVs c M vs (kvs.map (·.2))
  | .obj k ids vs, v => k < c.nc ∧ ∃ a dx fs, v = .ref a ∧ ¬ M.P a ∧ M.H a = some (.ins (c.CA k) dx fs) ∧ fs.map (·.1) = ids.map c.FN ∧ RVs c M vs (fs.map (·.2))
  | .ref i, v => i < M.n ∧ v = .ref (M.ρ i)
  | .rng k, v => ∃ a, v = .ref a ∧ ¬ M.P a ∧ M.H a = some (.rng 0 k)
def RVs (c : Cn) (M : Ms) : List Ev.W → List V → Prop
  | [], xs => xs = []
  | w :: ws, xs => ∃ x r, xs = x :: r ∧ RV c M w x ∧ RVs c M ws r
end
/-- a later state keeps what is not live -/
def IsDt (o : HO) : Prop := (∃ kvs, o = .dK kvs) ∨ ∃ kvs, o = .dT kvs
structure Ext0 (M M' : Ms) : Prop where
  n : M.n ≤ M'.n
  ρ : ∀ i, i < M.n → M'.ρ i = M.ρ i
  /-- a dict that is not live may be locked for good -/
  keepD : ∀ a o, M.H a = some o → ¬ M.P a → (M'.H a = some o ∨ (IsDt o ∧ ∃ od, M'.H a = some (.frz od o))) ∧ ¬ M'.P a
structure Ext (M M' : Ms) : Prop extends Ext0 M M' where
  hold : ∀ a, M.E a → M'.E a ∧ M'.H a = M.H a
theorem Ext0.keep {M M' : Ms} (e : Ext0 M M') (a : Addr) (o : HO) (h : M.H a = some o) (n : ¬ M.P a) (nd : ¬ IsDt o := by intro z; rcases z with ⟨_, z⟩ | ⟨_, z⟩ <;> cases z) : M'.H a = some o ∧ ¬ M'.P a :=
  ⟨(e.keepD a o h n).1.elim id fun z => absurd z.1 nd, (e.keepD a o h n).2⟩
theorem Ext.of {M M' : Ms} (n : M.n ≤ M'.n) (ρ : ∀ i, i < M.n → M'.ρ i = M.ρ i) (keep : ∀ a o, M.H a = some o → ¬ M.P a → M'.H a = some o ∧ ¬ M'.P a) (hold : ∀ a, M.E a → M'.E a ∧ M'.H a = M.H a) : Ext M M' :=
  ⟨⟨n, ρ, fun a o h k => ⟨.inl (keep a o h k).1, (keep a o h k).2⟩⟩, hold⟩
theorem Ext.refl (M : Ms) : Ext M M := .of (Nat.le_refl _) (fun _ _ => rfl) (fun _ _ h n => ⟨h, n⟩) fun _ h => ⟨h, rfl⟩
theorem Ext0.trans {M M1 M2 : Ms} (a : Ext0 M M1) (b : Ext0 M1 M2) : Ext0 M M2 :=
  ⟨Nat.le_trans a.n b.n, fun i h => (b.ρ i (Nat.lt_of_lt_of_le h a.n)).trans (a.ρ i h), fun x o h n => by
    obtain ⟨h1, n1⟩ := a.keepD x o h n
    rcases h1 with h1 | ⟨d, od, h1⟩
    · exact b.keepD x o h1 n1
    · exact ⟨.inr ⟨d, od, (b.keep x _ h1 n1).1⟩, (b.keep x _ h1 n1).2⟩⟩
theorem Ext.trans {M M1 M2 : Ms} (a : Ext M M1) (b : Ext M1 M2) : Ext M M2 :=
  ⟨a.toExt0.trans b.toExt0, fun x h => ⟨(b.hold x (a.hold x h).1).1, ((b.hold x (a.hold x h).1).2).trans (a.hold x h).2⟩⟩
theorem LstAt.keep {M M' : Ms} (e : Ext0 M M') {a : Addr} {xs : List V} (n : ¬ M.P a) (h : LstAt M.H a xs) : LstAt M'.H a xs ∧ ¬ M'.P a := e.keep _ _ h n
theorem rd_keep {M M' : Ms} (e : Ext0 M M') {a : Addr} {u : HO} (n : ¬ M.P a) (h : Rd M.H a u) : Rd M'.H a u ∧ ¬ M'.P a := by
  rcases h with h | ⟨o, h⟩
  · obtain ⟨h1, h2⟩ := e.keepD _ _ h n
    rcases h1 with h1 | ⟨_, od, h1⟩
    · exact ⟨.inl h1, h2⟩
    · exact ⟨.inr ⟨od, h1⟩, h2⟩
  · exact ⟨.inr ⟨o, (e.keep _ _ h n).1⟩, (e.keep _ _ h n).2⟩
theorem TupK.keep {c : Cn} {M M' : Ms} (e : Ext0 M M') {a : Addr} {xs : List V} (h : TupK c M a xs) : TupK c M' a xs :=
  h.imp id fun ⟨n, o, h1, h2⟩ => ⟨(e.keep _ _ h1 n).2, o, (e.keep _ _ h1 n).1, h2⟩
theorem TupK.seq {c : Cn} {M : Ms} {a : Addr} {xs : List V} (h : TupK c M a xs) : SqT c.K M.H a xs := h.elim (fun h => h.1 _) fun ⟨_, o, h1, _⟩ => .inl (.inr ⟨o, h1⟩)
mutual
theorem RV.mono0 {c : Cn} {M M' : Ms} (e : Ext0 M M') : ∀ (w : Ev.W) (v : V), RV c M w v → RV c M' w v
  | .un, _, h => h
  | .non, _, h => h
  | .bl _, _, h => h
  | .nat _, _, h => h
  | .str _, _, h => h
  | .tup ws, v, h => by
    obtain ⟨a, xs, h1, h2, h3, h4⟩ := h
    obtain ⟨k1, k2⟩ := e.keep _ _ h3 h2
    exact ⟨a, xs, h1, k2, k1, RVs.mono0 e ws xs h4⟩
  | .wtup ws, v, h => by
    obtain ⟨a, xs, h1, h2, h4⟩ := h
    exact ⟨a, xs, h1, h2.keep e, RVs.mono0 e ws xs h4⟩
  | .lst ws, v, h => by
    obtain ⟨a, xs, h1, h2, h3, h4⟩ := h
    obtain ⟨k1, k2⟩ := LstAt.keep e h2 h3
    exact ⟨a, xs, h1, k2, k1, RVs.mono0 e ws xs h4⟩
  | .dct false ks vs, v, h => by
    obtain ⟨a, h1, h2, kvs, h3, h4, h5⟩ := h
    obtain ⟨k1, k2⟩ := rd_keep e h2 h3
    exact ⟨a, h1, k2, kvs, k1, h4, RVs.mono0 e vs _ h5⟩
  | .dct true ks vs, v, h => by
    obtain ⟨a, h1, h2, kvs, h3, h4, h5⟩ := h
    obtain ⟨k1, k2⟩ := rd_keep e h2 h3
    exact ⟨a, h1, k2, kvs, k1, h4, RVs.mono0 e vs _ h5⟩
  | .obj k ids vs, v, h => by
    obtain ⟨h0, a, dx, fs, h1, h2, h3, h4, h5⟩ := h
    obtain ⟨k1, k2⟩ := e.keep _ _ h3 h2
    exact ⟨h0, a, dx, fs, h1, k2, k1, h4, RVs.mono0 e vs _ h5⟩
  | .ref i, v, h => ⟨Nat.lt_of_lt_of_le h.1 e.n, by rw [e.ρ i h.1]; exact h.2⟩
  | .rng k, v, h => by
    obtain ⟨a, h1, h2, h3⟩ := h
    obtain ⟨k1, k2⟩ := e.keep _ _ h3 h2
    exact ⟨a, h1, k2, k1⟩
theorem RVs.mono0 {c : Cn} {M M' : Ms} (e : Ext0 M M') : ∀ (ws : List Ev.W) (xs : List V), RVs c M ws xs → RVs c M' ws xs
  | [], _, h => h
  | w :: ws, xs, h => by
    obtain ⟨x, r, h1, h2, h3⟩ := h
    exact ⟨x, r, h1, RV.mono0 e w x h2, RVs.mono0 e ws r h3⟩
end
theorem RV.mono {c : Cn} {M M' : Ms} (e : Ext M M') (w : Ev.W) (v : V) (h : RV c M w v) : RV c M' w v := RV.mono0 e.toExt0 w v h
theorem RVs.mono {c : Cn} {M M' : Ms} (e : Ext M M') (ws : List Ev.W) (xs : List V) (h : RVs c M ws xs) : RVs c M' ws xs := RVs.mono0 e.toExt0 ws xs h
/-! ### the heap -/
theorem nbq {i j : Nat} : Nat.beq i j = true ↔ i = j := ⟨Nat.eq_of_beq_eq_true, fun h => by rw [h]; exact Nat.beq_refl j⟩
noncomputable def hat (l : Hl) (i : Nat) : Option Ev.O := Ev.hget none some l i
def Dsc : Hl → Nat → Prop
  | .nil, _ => True
  | .cons i _ t, n => i < n ∧ Dsc t i
/-- a table by numbers of pairs of ints; one by spots -/
def MapOk (R : Ev.W → V → Prop) (m : Ev.Tr) (kvs : List (List Key × V)) : Prop :=
  ∀ i j : Nat, i < 64 → j < 64 → (Ev.tget m 20 (4096 + (64 * i + j)) = .un ∧ valV kvs [.inl i, .inl j] = none) ∨ ∃ v, valV kvs [.inl i, .inl j] = some v ∧ R (Ev.tget m 20 (4096 + (64 * i + j))) v
/-- a dict of spots: its keys (int, None or int), its values bools -/
def leafV : Leaf → V
  | .none => .non
  | .num i => .int i
  | .text x => .str x
def TO (P : Program) (w : World) (a : Addr) (xs : List (List Leaf × Addr × Value)) : HO :=
  .ext fun h => xs.length ≤ sizeLine ∧ (a == sysModules) = false ∧ ∃ o es ep, h.get? a = some o ∧ o.ExactDict ∧ o.data = .dict es ep ∧ es.toList = xs.map (entryOfKey (tupleKind (leafKind P w))) ∧ (xs.map (·.1)).Nodup
def spotN (i : Nat) : Option Nat → Nat
  | none => 16384 + 512 * i
  | some j => 16384 + (512 * i + (j + 1))
def spotL (i : Nat) : Option Nat → List Leaf
  | none => [.num i, .none]
  | some j => [.num i, .num j]
def ToldOk (m : Ev.Tr) (xs : List (List Leaf × Addr × Value)) : Prop :=
  ∀ (i : Nat) (s : Option Nat), i < 32 → (∀ j, s = some j → j < 511) → (Ev.tget m 20 (spotN i s) = .un ∧ atKey xs (spotL i s) = none) ∨ ∃ b q, Ev.tget m 20 (spotN i s) = .bl b ∧ atKey xs (spotL i s) = some (q, .bool b)
def RO (c : Cn) (M : Ms) (o : Ev.O) (a : Addr) : Prop := match o with
  | .lst ws => ∃ xs, M.H a = some (.lst xs) ∧ RVs c M ws xs
  | .dct false ks vs => ∃ kvs : List (Key × V), M.H a = some (.dK kvs) ∧ ks.map (keyOf c) = kvs.map (fun p => some p.1) ∧ RVs c M vs (kvs.map (·.2))
  | .dct true ks vs => ∃ kvs : List (List Key × V), M.H a = some (.dT kvs) ∧ ks.map (tkeyOf c) = kvs.map (fun p => some p.1) ∧ RVs c M vs (kvs.map (·.2))
  | .map h m => ∃ kvs : List (List Key × V), M.H a = some (.dT kvs) ∧ kvs.length ≤ h ∧ MapOk (RV c M) m kvs
  | .told h m => ∃ xs, M.H a = some (TO c.P c.w a xs) ∧ xs.length ≤ h ∧ (∀ x ∈ xs, ¬ M.P x.2.1 ∧ M.H x.2.1 = some (.tup (x.1.map leafV))) ∧ ToldOk m xs
  | .ins k ids vs => k < c.nc ∧ ∃ dx fs, M.H a = some (.ins (c.CA k) dx fs) ∧ fs.map (·.1) = ids.map c.FN ∧ RVs c M vs (fs.map (·.2))
theorem RO.some {c : Cn} {M : Ms} {o : Ev.O} {a : Addr} (h : RO c M o a) : ∃ u, M.H a = some u := by
  cases o with
  | lst ws => obtain ⟨xs, h, _⟩ := h; exact ⟨_, h⟩
  | dct t ks vs => cases t <;> (obtain ⟨_, h, _⟩ := h; exact ⟨_, h⟩)
  | map h m => obtain ⟨_, h, _⟩ := h; exact ⟨_, h⟩
  | told _ m => obtain ⟨_, h, _⟩ := h; exact ⟨_, h⟩
  | ins k ids vs => obtain ⟨_, _, _, h, _⟩ := h; exact ⟨_, h⟩
/-- the same object later -/
theorem RO.mono0 {c : Cn} {M M' : Ms} (e : Ext0 M M') {o : Ev.O} {a : Addr} (hk : M'.H a = M.H a) (h : RO c M o a) : RO c M' o a := by
  cases o with
  | lst ws => obtain ⟨xs, h1, h2⟩ := h; exact ⟨xs, hk.trans h1, RVs.mono0 e _ _ h2⟩
  | dct t ks vs => cases t <;> (obtain ⟨kvs, h1, h2, h3⟩ := h; exact ⟨kvs, hk.trans h1, h2, RVs.mono0 e _ _ h3⟩)
  | map hh m =>
    obtain ⟨kvs, h1, hl, h2⟩ := h
    exact ⟨kvs, hk.trans h1, hl, fun i j hi hj => (h2 i j hi hj).imp id fun ⟨v, h3, h4⟩ => ⟨v, h3, RV.mono0 e _ _ h4⟩⟩
  | told _ m =>
    obtain ⟨xs, h1, hl, h2, h3⟩ := h
    exact ⟨xs, hk.trans h1, hl, fun x hx => ⟨(e.keep _ _ (h2 x hx).2 (h2 x hx).1).2, (e.keep _ _ (h2 x hx).2 (h2 x hx).1).1⟩, h3⟩
  | ins k ids vs => obtain ⟨h0, dx, fs, h1, h2, h3⟩ := h; exact ⟨h0, dx, fs, hk.trans h1, h2, RVs.mono0 e _ _ h3⟩
theorem RO.mono {c : Cn} {M M' : Ms} (e : Ext M M') {o : Ev.O} {a : Addr} (hk : M'.H a = M.H a) (h : RO c M o a) : RO c M' o a := RO.mono0 e.toExt0 hk h
structure Rep (c : Cn) (M : Ms) (l : Hl) : Prop where
  dsc : Dsc l M.n
  obj : ∀ i o, hat l i = some o → RO c M o (M.ρ i)
  inj : ∀ i j oi oj, hat l i = some oi → hat l j = some oj → M.ρ i = M.ρ j → i = j
  P : ∀ a, M.P a ↔ (∃ i o, hat l i = some o ∧ M.ρ i = a) ∨ M.E a
  E : ∀ a, M.E a → (∃ u, M.H a = some u ∧ ∀ xs, u ≠ .tup xs) ∧ ∀ i o, hat l i = some o → M.ρ i ≠ a
/-! hget by hat -/
theorem hat_cons (j : Nat) (o : Ev.O) (t : Hl) (i : Nat) : hat (.cons j o t) i = if i = j then some o else hat t i := by
  show Bool.rec (motive := fun _ => Option Ev.O) (hat t i) (some o) (Nat.beq i j) = _
  by_cases h : i = j
  · rw [if_pos h, nbq.mpr h]
  · rw [if_neg h]
    cases e : Nat.beq i j with
    | true => exact absurd (nbq.mp e) h
    | false => rfl
theorem hget_hat {R : Type} (e : R) (k : Ev.O → R) (i : Nat) : ∀ l : Hl, Ev.hget e k l i = match hat l i with | some o => k o | none => e
  | .nil => rfl
  | .cons j o t => by
    show Bool.rec (motive := fun _ => R) (Ev.hget e k t i) (k o) (Nat.beq i j) = _
    rw [hat_cons]
    cases h : Nat.beq i j with
    | true => rw [if_pos (nbq.mp h)]
    | false =>
      rw [if_neg (fun z => by rw [nbq.mpr z] at h; cases h)]
      exact hget_hat e k i t
theorem hget_ne {R : Type} {e r : R} {k : Ev.O → R} {l : Hl} {i : Nat} (h : Ev.hget e k l i = r) (ne : e ≠ r) : ∃ o, hat l i = some o ∧ k o = r := by
  rw [hget_hat] at h
  cases q : hat l i with
  | none => rw [q] at h; exact absurd h ne
  | some o => rw [q] at h; exact ⟨o, rfl, h⟩
theorem hat_lt : ∀ {l : Hl} {n i : Nat} {o : Ev.O}, Dsc l n → hat l i = some o → i < n
  | .nil, _, _, _, _, h => by cases h
  | .cons j u t, n, i, o, d, h => by
    rw [hat_cons] at h
    by_cases q : i = j
    · rw [q]; exact d.1
    · rw [if_neg q] at h
      exact Nat.lt_trans (hat_lt d.2 h) d.1
theorem hat_set (i : Nat) (o : Ev.O) (j : Nat) : ∀ l : Hl, hat (Ev.hset l i o) j = if j = i then (hat l i).map (fun _ => o) else hat l j
  | .nil => by by_cases h : j = i <;> simp [h] <;> rfl
  | .cons k u t => by
    have ih := hat_set i o j t
    show hat (Bool.rec (motive := fun _ => Hl) (.cons k u (Ev.hset t i o)) (.cons k o t) (Nat.beq i k)) j = _
    cases h : Nat.beq i k with
    | true =>
      have e := nbq.mp h
      subst e
      show hat (.cons i o t) j = _
      rw [hat_cons, hat_cons, hat_cons]
      by_cases q : j = i
      · simp [q]
      · simp [q]
    | false =>
      have ne : ¬ i = k := fun z => by rw [nbq.mpr z] at h; cases h
      show hat (.cons k u (Ev.hset t i o)) j = _
      rw [hat_cons, hat_cons, hat_cons, ih]
      by_cases q : j = i
      · rw [if_neg (fun z => ne (q.symm.trans z)), if_pos q, if_pos q, if_neg ne]
      · rw [if_neg q, if_neg q]
theorem dsc_set (i : Nat) (o : Ev.O) : ∀ {l : Hl} {n : Nat}, Dsc l n → Dsc (Ev.hset l i o) n
  | .nil, _, d => d
  | .cons k u t, n, d => by
    show Dsc (Bool.rec (motive := fun _ => Hl) (.cons k u (Ev.hset t i o)) (.cons k o t) (Nat.beq i k)) n
    cases Nat.beq i k with
    | true => exact d
    | false => exact ⟨d.1, dsc_set i o d.2⟩
theorem dsc_le : ∀ {l : Hl} {n m : Nat}, Dsc l n → n ≤ m → Dsc l m
  | .nil, _, _, _, _ => trivial
  | .cons _ _ _, _, _, d, h => ⟨Nat.lt_of_lt_of_le d.1 h, d.2⟩
theorem dsc_del (i : Nat) : ∀ {l : Hl} {n : Nat}, Dsc l n → Dsc (Ev.hdel l i) n
  | .nil, _, d => d
  | .cons k u t, n, d => by
    show Dsc (Bool.rec (motive := fun _ => Hl) (.cons k u (Ev.hdel t i)) t (Nat.beq i k)) n
    cases Nat.beq i k with
    | true => exact dsc_le d.2 (Nat.le_of_lt d.1)
    | false => exact ⟨d.1, dsc_del i d.2⟩
theorem hat_del (i j : Nat) : ∀ {l : Hl} {n : Nat}, Dsc l n → hat (Ev.hdel l i) j = if j = i then none else hat l j
  | .nil, _, _ => by by_cases h : j = i <;> simp [h] <;> rfl
  | .cons k u t, n, d => by
    have ih := hat_del i j d.2
    show hat (Bool.rec (motive := fun _ => Hl) (.cons k u (Ev.hdel t i)) t (Nat.beq i k)) j = _
    cases h : Nat.beq i k with
    | true =>
      have e := nbq.mp h
      subst e
      show hat t j = _
      rw [hat_cons]
      by_cases q : j = i
      · rw [if_pos q, q]
        cases z : hat t i with
        | none => rfl
        | some o => exact absurd (hat_lt d.2 z) (Nat.lt_irrefl _)
      · rw [if_neg q, if_neg q]
    | false =>
      have ne : ¬ i = k := fun z => by rw [nbq.mpr z] at h; cases h
      show hat (.cons k u (Ev.hdel t i)) j = _
      rw [hat_cons, hat_cons, ih]
      by_cases q : j = i
      · rw [if_neg (fun z => ne (q.symm.trans z)), if_pos q, if_pos q]
      · rw [if_neg q, if_neg q]
theorem hat_drop (m j : Nat) : ∀ {l : Hl} {n : Nat}, Dsc l n → (∀ o, hat (Ev.hdrop l m) j = some o → hat l j = some o) ∧ Dsc (Ev.hdrop l m) n
  | .nil, _, d => ⟨fun _ h => h, d⟩
  | .cons k u t, n, d => by
    obtain ⟨i1, i2⟩ := hat_drop m j d.2
    show (∀ o, hat (Bool.rec (motive := fun _ => Hl) (.cons k u t) (Ev.hdrop t m) (Nat.ble m k)) j = some o → _) ∧ Dsc (Bool.rec (motive := fun _ => Hl) (.cons k u t) (Ev.hdrop t m) (Nat.ble m k)) n
    cases Nat.ble m k with
    | false => exact ⟨fun _ h => h, d⟩
    | true =>
      refine ⟨fun o h => ?_, dsc_le i2 (Nat.le_of_lt d.1)⟩
      have q := i1 o h
      rw [hat_cons, if_neg (Nat.ne_of_lt (hat_lt d.2 q))]
      exact q
/-! ### states that follow -/
section
variable {c : Cn} {M : Ms} {l : Hl}
theorem Rep.live (r : Rep c M l) {i : Nat} {o : Ev.O} (h : hat l i = some o) : M.P (M.ρ i) := (r.P _).mpr (.inl ⟨i, o, h, rfl⟩)
theorem Rep.lt (r : Rep c M l) {i : Nat} {o : Ev.O} (h : hat l i = some o) : i < M.n := hat_lt r.dsc h
theorem Rep.notNew (r : Rep c M l) {p : Addr} (h : M.H p = none) : ¬ M.P p := fun z => by
  rcases (r.P p).mp z with ⟨i, o, e1, e2⟩ | z
  · obtain ⟨u, e3⟩ := (r.obj i o e1).some
    rw [e2, h] at e3
    cases e3
  · obtain ⟨⟨u, e3, _⟩, _⟩ := r.E p z
    rw [h] at e3
    cases e3
/-- what is being made stays as it is while other things are laid -/
theorem Rep.eKeep (r : Rep c M l) {p : Addr} {u : HO} (h : M.H p = none) (a : Addr) (e : M.E a) : upd M.H p u a = M.H a := by
  obtain ⟨⟨x, e3, _⟩, _⟩ := r.E a e
  exact upd_ne (ne_of_none e3 h)
/-- a new object, held by value -/
theorem Rep.frozen (r : Rep c M l) {p : Addr} {u : HO} (h : M.H p = none) : Rep c { M with H := upd M.H p u } l ∧ Ext M { M with H := upd M.H p u } ∧ ¬ M.P p := by
  have np := r.notNew h
  have ext : Ext M { M with H := upd M.H p u } := .of (Nat.le_refl _) (fun _ _ => rfl) (fun a o e n => ⟨by
    show upd M.H p u a = some o
    rw [upd_ne (ne_of_none e h)]
    exact e, n⟩) fun a e => ⟨e, r.eKeep h a e⟩
  refine ⟨⟨r.dsc, fun i o e => (r.obj i o e).mono ext ?_, r.inj, r.P, fun a e => ?_⟩, ext, np⟩
  · show upd M.H p u (M.ρ i) = M.H (M.ρ i)
    exact upd_ne fun z => np (z ▸ r.live e)
  · obtain ⟨⟨x, e3, e4⟩, e5⟩ := r.E a e
    exact ⟨⟨x, (r.eKeep h a e).trans e3, e4⟩, e5⟩
/-- a new live object -/
def Ms.more (M : Ms) (p : Addr) (u : HO) : Ms := ⟨fun i => if i = M.n then p else M.ρ i, M.n + 1, fun a => M.P a ∨ a = p, upd M.H p u, M.E⟩
theorem Rep.more (r : Rep c M l) {p : Addr} {u : HO} (h : M.H p = none) : Ext M (M.more p u) :=
  .of (Nat.le_succ _) (fun i hi => if_neg (Nat.ne_of_lt hi)) (fun a o e n => ⟨by
    show upd M.H p u a = some o
    rw [upd_ne (ne_of_none e h)]
    exact e, fun z => z.elim n (ne_of_none e h)⟩) fun a e => ⟨e, r.eKeep h a e⟩
theorem Rep.newLive (r : Rep c M l) {p : Addr} {u : HO} {o : Ev.O} (h : M.H p = none) (ho : RO c (M.more p u) o p) : Rep c (M.more p u) (.cons M.n o l) := by
  have ext := r.more (u := u) h
  have np := r.notNew h
  have hn : ∀ {i : Nat} {o : Ev.O}, hat l i = some o → i ≠ M.n := fun e => Nat.ne_of_lt (r.lt e)
  refine ⟨⟨Nat.lt_succ_self _, r.dsc⟩, fun i o' e => ?_, fun i j oi oj e1 e2 e3 => ?_, fun a => ⟨fun z => ?_, fun z => ?_⟩, fun a e => ?_⟩
  · rw [hat_cons] at e
    by_cases q : i = M.n
    · rw [if_pos q] at e
      cases e
      show RO c (M.more p u) o (if i = M.n then p else M.ρ i)
      rw [if_pos q]
      exact ho
    · rw [if_neg q] at e
      show RO c (M.more p u) o' (if i = M.n then p else M.ρ i)
      rw [if_neg q]
      refine (r.obj i o' e).mono ext ?_
      show upd M.H p u (M.ρ i) = M.H (M.ρ i)
      exact upd_ne fun z => np (z ▸ r.live e)
  · rw [hat_cons] at e1 e2
    have e3 : (if i = M.n then p else M.ρ i) = if j = M.n then p else M.ρ j := e3
    by_cases q1 : i = M.n
    · by_cases q2 : j = M.n
      · rw [q1, q2]
      · rw [if_pos q1, if_neg q2] at e3
        rw [if_neg q2] at e2
        exact absurd (e3 ▸ r.live e2) np
    · by_cases q2 : j = M.n
      · rw [if_neg q1, if_pos q2] at e3
        rw [if_neg q1] at e1
        exact absurd (e3 ▸ r.live e1) np
      · rw [if_neg q1, if_neg q2] at e3
        rw [if_neg q1] at e1
        rw [if_neg q2] at e2
        exact r.inj i j oi oj e1 e2 e3
  · rcases z with z | z
    · rcases (r.P a).mp z with ⟨i, o', e1, e2⟩ | z
      · refine .inl ⟨i, o', ?_, ?_⟩
        · rw [hat_cons, if_neg (hn e1)]
          exact e1
        · show (if i = M.n then p else M.ρ i) = a
          rw [if_neg (hn e1)]
          exact e2
      · exact .inr z
    · refine .inl ⟨M.n, o, by rw [hat_cons, if_pos rfl], ?_⟩
      show (if M.n = M.n then p else M.ρ M.n) = a
      rw [if_pos rfl, z]
  · rcases z with ⟨i, o', e1, e2⟩ | z
    · rw [hat_cons] at e1
      have e2 : (if i = M.n then p else M.ρ i) = a := e2
      by_cases q : i = M.n
      · rw [if_pos q] at e2
        exact .inr e2.symm
      · rw [if_neg q] at e1 e2
        exact .inl ((r.P a).mpr (.inl ⟨i, o', e1, e2⟩))
    · exact .inl ((r.P a).mpr (.inr z))
  · obtain ⟨⟨x, e3, e4⟩, e5⟩ := r.E a e
    refine ⟨⟨x, (r.eKeep h a e).trans e3, e4⟩, fun i o' q => ?_⟩
    rw [hat_cons] at q
    show (if i = M.n then p else M.ρ i) ≠ a
    by_cases z : i = M.n
    · rw [if_pos z]
      exact (ne_of_none e3 h).symm
    · rw [if_neg z] at q ⊢
      exact e5 i o' q
/-- a live object is told apart from what is being made -/
theorem Rep.eLive (r : Rep c M l) {i : Nat} {o : Ev.O} {u : HO} (h : hat l i = some o) (a : Addr) (e : M.E a) : upd M.H (M.ρ i) u a = M.H a := upd_ne fun z => (r.E a e).2 i o h z.symm
theorem Rep.wExt (r : Rep c M l) {i : Nat} {o : Ev.O} {u : HO} (h : hat l i = some o) : Ext M { M with H := upd M.H (M.ρ i) u } := .of (Nat.le_refl _) (fun _ _ => rfl) (fun a x e n => ⟨by
  show upd M.H (M.ρ i) u a = some x
  rw [upd_ne (fun z => n (by rw [z]; exact r.live h))]
  exact e, n⟩) fun a e => ⟨e, r.eLive h a e⟩
/-- a live object changes -/
theorem Rep.write (r : Rep c M l) {i : Nat} {o o' : Ev.O} {u : HO} (h : hat l i = some o) (ho : RO c { M with H := upd M.H (M.ρ i) u } o' (M.ρ i)) :
    Rep c { M with H := upd M.H (M.ρ i) u } (Ev.hset l i o') ∧ Ext M { M with H := upd M.H (M.ρ i) u } := by
  have ext := r.wExt (u := u) h
  have back : ∀ {j : Nat} {q : Ev.O}, hat (Ev.hset l i o') j = some q → ∃ q', hat l j = some q' := fun {j q} e => by
    rw [hat_set] at e
    by_cases z : j = i
    · rw [z]; exact ⟨o, h⟩
    · rw [if_neg z] at e; exact ⟨q, e⟩
  refine ⟨⟨dsc_set i o' r.dsc, fun j q e => ?_, fun j k oj ok e1 e2 e3 => ?_, fun a => ⟨fun z => ?_, fun z => ?_⟩, fun a e => ?_⟩, ext⟩
  · rw [hat_set] at e
    by_cases z : j = i
    · rw [if_pos z, h] at e
      cases e
      rw [z]
      exact ho
    · rw [if_neg z] at e
      refine (r.obj j q e).mono ext ?_
      show upd M.H (M.ρ i) u (M.ρ j) = M.H (M.ρ j)
      exact upd_ne fun y => z (r.inj j i q o e h y)
  · obtain ⟨_, e1⟩ := back e1
    obtain ⟨_, e2⟩ := back e2
    exact r.inj j k _ _ e1 e2 e3
  · rcases (r.P a).mp z with ⟨j, q, e1, e2⟩ | z
    · by_cases y : j = i
      · exact .inl ⟨i, o', by rw [hat_set, if_pos rfl, h]; rfl, by rw [← y]; exact e2⟩
      · exact .inl ⟨j, q, by rw [hat_set, if_neg y]; exact e1, e2⟩
    · exact .inr z
  · rcases z with ⟨j, q, e1, e2⟩ | z
    · obtain ⟨q', e1⟩ := back e1
      exact (r.P a).mpr (.inl ⟨j, q', e1, e2⟩)
    · exact (r.P a).mpr (.inr z)
  · obtain ⟨⟨x, e3, e4⟩, e5⟩ := r.E a e
    refine ⟨⟨x, (r.eLive h a e).trans e3, e4⟩, fun j q e => ?_⟩
    obtain ⟨q', e1⟩ := back e
    exact e5 j q' e1
/-- a part of the live objects is let go: what is not live any more stays as it is -/
def Ms.less (M : Ms) (l : Hl) : Ms := { M with P := fun a => (∃ i o, hat l i = some o ∧ M.ρ i = a) ∨ M.E a }
theorem Rep.sub (r : Rep c M l) {l' : Hl} (d : Dsc l' M.n) (h : ∀ i o, hat l' i = some o → hat l i = some o) : Rep c (M.less l') l' ∧ Ext M (M.less l') := by
  have ext : Ext M (M.less l') := .of (Nat.le_refl _) (fun _ _ => rfl) (fun a o e n => ⟨e, fun z => n ((r.P a).mpr (z.imp (fun ⟨i, o', e1, e2⟩ => ⟨i, o', h i o' e1, e2⟩) id))⟩) fun a e => ⟨e, rfl⟩
  exact ⟨⟨d, fun i o e => (r.obj i o (h i o e)).mono ext rfl, fun i j oi oj e1 e2 e3 => r.inj i j oi oj (h i oi e1) (h j oj e2) e3, fun a => Iff.rfl, fun a e => ⟨(r.E a e).1, fun i o q => (r.E a e).2 i o (h i o q)⟩⟩, ext⟩
end
/-! ### slots -/
def isUn : Ev.W → Prop
  | .un => True
  | _ => False
structure Sl (c : Cn) (M : Ms) (s : List Ev.W) (σ : L2.St) : Prop where
  len : s.length = σ.length
  at_ : ∀ (i : Nat) (w : Ev.W), s[i]? = some w → w = .un ∨ ∃ v, σ[i]? = some (some v) ∧ RV c M w v
theorem Sl.mono {c : Cn} {M M' : Ms} (e : Ext M M') {s : List Ev.W} {σ : L2.St} (h : Sl c M s σ) : Sl c M' s σ :=
  ⟨h.len, fun i w q => (h.at_ i w q).imp id fun ⟨v, h1, h2⟩ => ⟨v, h1, RV.mono e _ _ h2⟩⟩
theorem sget_eq : ∀ (i : Nat) (s : List Ev.W), Ev.sget i s = (s[i]?).getD .un
  | 0, [] => rfl
  | 0, _ :: _ => rfl
  | i + 1, [] => rfl
  | i + 1, a :: r => by
    show Ev.sget i r = _
    rw [sget_eq i r, List.getElem?_cons_succ]
theorem sset_eq (w : Ev.W) : ∀ (i : Nat) (s : List Ev.W), Ev.sset i w s = s.set i w
  | 0, [] => rfl
  | 0, _ :: _ => rfl
  | i + 1, [] => rfl
  | i + 1, a :: r => by
    show a :: Ev.sset i w r = _
    rw [sset_eq w i r]
    rfl
theorem Sl.set {c : Cn} {M : Ms} {s : List Ev.W} {σ : L2.St} (h : Sl c M s σ) {w : Ev.W} {v : V} (r : RV c M w v) (i : Nat) : Sl c M (Ev.sset i w s) (σ.set i (some v)) := by
  rw [sset_eq]
  refine ⟨by rw [List.length_set, List.length_set]; exact h.len, fun j x e => ?_⟩
  by_cases q : i = j
  · subst q
    have hi : i < s.length := by
      have := List.getElem?_eq_some_iff.mp e
      obtain ⟨z, _⟩ := this
      rw [List.length_set] at z
      exact z
    rw [List.getElem?_set_self hi] at e
    cases e
    exact .inr ⟨v, List.getElem?_set_self (by rw [← h.len]; exact hi), r⟩
  · rw [List.getElem?_set_ne q] at e ⊢
    exact h.at_ j x e
/-! ### promises -/
/-- an expression's value -/
def tM (c : Cn) (cl : CallT) (m : Ev.D) : TE := fun σ H Q => ∃ (M : Ms) (l : Hl) (s : List Ev.W), M.H = H ∧ Rep c M l ∧ Sl c M s σ ∧ ∃ w n' l', m cl s M.n l = .ok w n' l' ∧
  ∀ (M' : Ms) (v : V), M'.n = n' → Rep c M' l' → Ext M M' → RV c M' w v → Q v M'.H
def tT (c : Cn) (cl : CallT) (m : Ev.T) : TT := fun σ H Q => ∃ (M : Ms) (l : Hl) (s : List Ev.W), M.H = H ∧ Rep c M l ∧ Sl c M s σ ∧ ∃ b n' l', m cl s M.n l = .ok b n' l' ∧
  ∀ (M' : Ms), M'.n = n' → Rep c M' l' → Ext M M' → Q b M'.H
def tA (c : Cn) (cl : CallT) (m : Ev.A) : TA := fun σ H Q => ∃ (M : Ms) (l : Hl) (s : List Ev.W), M.H = H ∧ Rep c M l ∧ Sl c M s σ ∧ ∃ ws n' l', m cl s M.n l = .ok ws n' l' ∧
  ∀ (M' : Ms) (vs : List V), M'.n = n' → Rep c M' l' → Ext M M' → RVs c M' ws vs → Q vs M'.H
/-- how a statement ends -/
def Fin (c : Cn) (M : Ms) (D : Ends) : So → Prop
  | .err => False
  | .nx s n' l' => ∀ (M' : Ms) (σ : L2.St), M'.n = n' → Rep c M' l' → Ext M M' → Sl c M' s σ → D.nx σ M'.H
  | .rt w n' l' => ∀ (M' : Ms) (v : V), M'.n = n' → Rep c M' l' → Ext M M' → RV c M' w v → D.rt v M'.H
  | .bk s n' l' => ∀ (M' : Ms) (σ : L2.St), M'.n = n' → Rep c M' l' → Ext M M' → Sl c M' s σ → D.bk σ M'.H
  | .ct s n' l' => ∀ (M' : Ms) (σ : L2.St), M'.n = n' → Rep c M' l' → Ext M M' → Sl c M' s σ → D.ct σ M'.H
def tS (c : Cn) (cl : CallT) (m : Ev.S) : TS := fun D σ H => ∃ (M : Ms) (l : Hl) (s : List Ev.W), M.H = H ∧ Rep c M l ∧ Sl c M s σ ∧ Fin c M D (m cl s M.n l)
/-- a def's promise -/
def spM (c : Cn) (np : Nat) (f : List Ev.W → Nat → Hl → Rs) : Sp := fun vs H Q _ => vs.length = np ∧ ∃ (M : Ms) (l : Hl) (ws : List Ev.W), M.H = H ∧ Rep c M l ∧ RVs c M ws vs ∧ ∃ w n' l', f ws M.n l = .ok w n' l' ∧
  ∀ (M' : Ms) (v : V), M'.n = n' → Rep c M' l' → Ext M M' → RV c M' w v → Q v M'.H
/-! ### what an answer that is no error says of the parts -/
theorem Rs.b_ok {r : Rs} {k : Ev.W → Nat → Hl → Rs} {w : Ev.W} {n : Nat} {l : Hl} (h : r.b k = .ok w n l) : ∃ x n1 l1, r = .ok x n1 l1 ∧ k x n1 l1 = .ok w n l := by
  cases r with
  | err => cases h
  | ok x n1 l1 => exact ⟨x, n1, l1, rfl, h⟩
theorem Rs.bb_ok {r : Rs} {k : Ev.W → Nat → Hl → Rb} {b : Bool} {n : Nat} {l : Hl} (h : r.bb k = .ok b n l) : ∃ x n1 l1, r = .ok x n1 l1 ∧ k x n1 l1 = .ok b n l := by
  cases r with
  | err => cases h
  | ok x n1 l1 => exact ⟨x, n1, l1, rfl, h⟩
theorem Rs.ba_ok {r : Rs} {k : Ev.W → Nat → Hl → Ra} {ws : List Ev.W} {n : Nat} {l : Hl} (h : r.ba k = .ok ws n l) : ∃ x n1 l1, r = .ok x n1 l1 ∧ k x n1 l1 = .ok ws n l := by
  cases r with
  | err => cases h
  | ok x n1 l1 => exact ⟨x, n1, l1, rfl, h⟩
theorem Rb.b_ok {r : Rb} {k : Bool → Nat → Hl → Rs} {w : Ev.W} {n : Nat} {l : Hl} (h : r.b k = .ok w n l) : ∃ x n1 l1, r = .ok x n1 l1 ∧ k x n1 l1 = .ok w n l := by
  cases r with
  | err => cases h
  | ok x n1 l1 => exact ⟨x, n1, l1, rfl, h⟩
theorem Rb.bb_ok {r : Rb} {k : Bool → Nat → Hl → Rb} {b : Bool} {n : Nat} {l : Hl} (h : r.bb k = .ok b n l) : ∃ x n1 l1, r = .ok x n1 l1 ∧ k x n1 l1 = .ok b n l := by
  cases r with
  | err => cases h
  | ok x n1 l1 => exact ⟨x, n1, l1, rfl, h⟩
theorem Rb.ba_ok {r : Rb} {k : Bool → Nat → Hl → Ra} {b : List Ev.W} {n : Nat} {l : Hl} (h : r.ba k = .ok b n l) : ∃ x n1 l1, r = .ok x n1 l1 ∧ k x n1 l1 = .ok b n l := by
  cases r with
  | err => cases h
  | ok x n1 l1 => exact ⟨x, n1, l1, rfl, h⟩
theorem Ra.b_ok {r : Ra} {k : List Ev.W → Nat → Hl → Rs} {w : Ev.W} {n : Nat} {l : Hl} (h : r.b k = .ok w n l) : ∃ x n1 l1, r = .ok x n1 l1 ∧ k x n1 l1 = .ok w n l := by
  cases r with
  | err => cases h
  | ok x n1 l1 => exact ⟨x, n1, l1, rfl, h⟩
theorem Ra.ba_ok {r : Ra} {k : List Ev.W → Nat → Hl → Ra} {w : List Ev.W} {n : Nat} {l : Hl} (h : r.ba k = .ok w n l) : ∃ x n1 l1, r = .ok x n1 l1 ∧ k x n1 l1 = .ok w n l := by
  cases r with
  | err => cases h
  | ok x n1 l1 => exact ⟨x, n1, l1, rfl, h⟩
section
variable {R : Type} {e r : R}
theorem natK_ne {k : Nat → R} {w : Ev.W} (h : Ev.natK e k w = r) (ne : e ≠ r) : ∃ i, w = .nat i ∧ k i = r := by
  cases w <;> first | exact absurd h ne | exact ⟨_, rfl, h⟩
theorem blK_ne {k : Bool → R} {w : Ev.W} (h : Ev.blK e k w = r) (ne : e ≠ r) : ∃ i, w = .bl i ∧ k i = r := by
  cases w <;> first | exact absurd h ne | exact ⟨_, rfl, h⟩
theorem tupK_ne {k : List Ev.W → R} {w : Ev.W} (h : Ev.tupK e k w = r) (ne : e ≠ r) : ∃ i, w = .tup i ∧ k i = r := by
  cases w <;> first | exact absurd h ne | exact ⟨_, rfl, h⟩
theorem refK_ne {k : Nat → R} {w : Ev.W} (h : Ev.refK e k w = r) (ne : e ≠ r) : ∃ i, w = .ref i ∧ k i = r := by
  cases w <;> first | exact absurd h ne | exact ⟨_, rfl, h⟩
theorem defK_ne {k : R} {w : Ev.W} (h : Ev.defK e k w = r) (ne : e ≠ r) : w ≠ .un ∧ k = r := by
  cases w <;> first | exact absurd h ne | exact ⟨(fun z => nomatch z), h⟩
theorem oLst_ne {k : List Ev.W → R} {o : Ev.O} (h : Ev.oLst e k o = r) (ne : e ≠ r) : ∃ ws, o = .lst ws ∧ k ws = r := by
  cases o <;> first | exact absurd h ne | exact ⟨_, rfl, h⟩
theorem oDct_ne {k : Bool → List Ev.W → List Ev.W → R} {o : Ev.O} (h : Ev.oDct e k o = r) (ne : e ≠ r) : ∃ t ks vs, o = .dct t ks vs ∧ k t ks vs = r := by
  cases o <;> first | exact absurd h ne | exact ⟨_, _, _, rfl, h⟩
theorem oIns_ne {k : Nat → List Nat → List Ev.W → R} {o : Ev.O} (h : Ev.oIns e k o = r) (ne : e ≠ r) : ∃ c ids vs, o = .ins c ids vs ∧ k c ids vs = r := by
  cases o <;> first | exact absurd h ne | exact ⟨_, _, _, rfl, h⟩
end
theorem Rs.ne {w : Ev.W} {n : Nat} {l : Hl} : Rs.err ≠ .ok w n l := fun z => nomatch z
theorem Rb.ne {w : Bool} {n : Nat} {l : Hl} : Rb.err ≠ .ok w n l := fun z => nomatch z
theorem Ra.ne {w : List Ev.W} {n : Nat} {l : Hl} : Ra.err ≠ .ok w n l := fun z => nomatch z
theorem ite_ne {R : Type} {e r k : R} {b : Bool} (h : Bool.rec (motive := fun _ => R) e k b = r) (ne : e ≠ r) : b = true ∧ k = r := by
  cases b with
  | true => exact ⟨rfl, h⟩
  | false => exact absurd h ne
theorem ite_ne' {R : Type} {e r k : R} {b : Bool} (h : Bool.rec (motive := fun _ => R) k e b = r) (ne : e ≠ r) : b = false ∧ k = r := by
  cases b with
  | false => exact ⟨rfl, h⟩
  | true => exact absurd h ne
theorem neg_eq (b : Bool) : Ev.neg b = !b := by cases b <;> rfl
theorem RVs.length {c : Cn} {M : Ms} : ∀ {ws : List Ev.W} {xs : List V}, RVs c M ws xs → ws.length = xs.length
  | [], _, h => by rw [show _ = [] from h]; rfl
  | w :: ws, _, h => by
    obtain ⟨x, r, rfl, _, h3⟩ := h
    show ws.length + 1 = r.length + 1
    rw [RVs.length h3]
theorem RVs.get {c : Cn} {M : Ms} : ∀ {ws : List Ev.W} {xs : List V} {i : Nat} {w : Ev.W}, RVs c M ws xs → ws[i]? = some w → ∃ x, xs[i]? = some x ∧ RV c M w x
  | [], _, _, _, _, h => by simp at h
  | a :: ws, _, 0, w, h, e => by
    obtain ⟨x, r, rfl, h2, _⟩ := h
    cases e
    exact ⟨x, rfl, h2⟩
  | a :: ws, _, i + 1, w, h, e => by
    obtain ⟨x, r, rfl, _, h3⟩ := h
    rw [List.getElem?_cons_succ] at e ⊢
    exact RVs.get h3 e
theorem RVs.app {c : Cn} {M : Ms} : ∀ {ws us : List Ev.W} {xs ys : List V}, RVs c M ws xs → RVs c M us ys → RVs c M (Ev.app ws us) (xs ++ ys)
  | [], us, xs, ys, h, k => by rw [show xs = [] from h]; exact k
  | w :: ws, us, _, ys, h, k => by
    obtain ⟨x, r, rfl, h2, h3⟩ := h
    exact ⟨x, r ++ ys, rfl, h2, RVs.app h3 k⟩
theorem lenG_eq : ∀ (ws : List Ev.W) (k : Nat), Ev.lenG ws k = k + ws.length
  | [], k => rfl
  | w :: ws, k => by
    show Ev.lenG ws (k + 1) = _
    rw [lenG_eq ws (k + 1), List.length_cons]
    omega
/-- two readings of one expression -/
theorem pe_any {X : Cx} {e : Expr} {ι : Type} {t : ι → TE} (h : ∀ i, PE X e (t i)) : PE X e (fun σ H Q => ∃ i, t i σ H Q) := ⟨fun pins s σ H Q I ⟨i, q⟩ => (h i).run pins s σ H Q I q⟩
theorem pe_imp {X : Cx} {e : Expr} {t t' : TE} (h : PE X e t) (k : ∀ σ H Q, t' σ H Q → t σ H Q) : PE X e t' := ⟨fun pins s σ H Q I q => h.run pins s σ H Q I (k σ H Q q)⟩
theorem pt_imp {X : Cx} {e : Expr} {t t' : TT} (h : PT X e t) (k : ∀ σ H Q, t' σ H Q → t σ H Q) : PT X e t' := ⟨fun pins s σ H Q I q => h.run pins s σ H Q I (k σ H Q q)⟩
theorem pw_imp {X : Cx} {e : Expr} {t t' : TT} (h : PW X e t) (k : ∀ σ H Q, t' σ H Q → t σ H Q) : PW X e t' := ⟨fun wh pins s σ H Q I q => h.run wh pins s σ H Q I (k σ H Q q)⟩
theorem pa_imp {X : Cx} {es : List Expr} {t t' : TA} (h : PA X es t) (k : ∀ σ H Q, t' σ H Q → t σ H Q) : PA X es t' := ⟨fun pos pins s σ H Q I q => h.run pos pins s σ H Q I (k σ H Q q)⟩
theorem ps_imp {X : Cx} {st : Stmt} {t t' : TS} (h : PS X st t) (k : ∀ D σ H, t' D σ H → t D σ H) : PS X st t' := ⟨fun pins s σ H D I q => h.run pins s σ H D I (k D σ H q)⟩
theorem pss_imp {X : Cx} {st : List Stmt} {t t' : TS} (h : PSs X st t) (k : ∀ D σ H, t' D σ H → t D σ H) : PSs X st t' := ⟨fun pins s σ H D I q => h.run pins s σ H D I (k D σ H q)⟩
theorem pe_two {X : Cx} {e : Expr} {t u : TE} (h : PE X e t) (k : PE X e u) : PE X e (fun σ H Q => t σ H Q ∨ u σ H Q) := ⟨fun pins s σ H Q I q => q.elim (h.run pins s σ H Q I) (k.run pins s σ H Q I)⟩
theorem pt_two {X : Cx} {e : Expr} {t u : TT} (h : PT X e t) (k : PT X e u) : PT X e (fun σ H Q => t σ H Q ∨ u σ H Q) := ⟨fun pins s σ H Q I q => q.elim (h.run pins s σ H Q I) (k.run pins s σ H Q I)⟩
theorem ps_two {X : Cx} {e : Stmt} {t u : TS} (h : PS X e t) (k : PS X e u) : PS X e (fun D σ H => t D σ H ∨ u D σ H) := ⟨fun pins s σ H D I q => q.elim (h.run pins s σ H D I) (k.run pins s σ H D I)⟩
end Sd
end

section
set_option Elab.async false
set_option linter.all false
set_option maxRecDepth 100000
/-! Sd1: expressions, one theorem a construct: what the small machine's term promises, the hand layer's rule carries. -/
namespace Sd
open PySem PySem.Spec PyProof.Rows L2
open Ev (Hl Rs Rb Ra So Sr CallT)
/-- what stays the same through the whole law -/
structure Gb where
  c : Cn
  P : Program
  w : World
  mg : Str → Option Value
  base : Heap
/-- where an expression stands: the names by slot, the scope, which names are the block's own cells, how many calls deep one may go -/
structure Ctx (g : Gb) (X : Cx) (N : List Str) (sc : Scope) (F : Str → Bool) (k : Nat) : Prop where
  pr : X.prog = g.P
  w : X.w = g.w
  K : X.K = g.c.K
  mg : X.mg = g.mg
  base : X.base = g.base
  nd : List.Nodup N
  N : X.N = N
  sc : X.env.scope = sc
  fn : X.fn = F
  calm : X.calm = true
  room : Room (k + 2) X.A
section
variable {X : Cx} {c : Cn} {cl : CallT} {σ : L2.St}
theorem tM.mk {m : Ev.D} {Q : VK} {M : Ms} {l : Hl} {s : List Ev.W} (r : Rep c M l) (sl : Sl c M s σ) {w : Ev.W} {n' : Nat} {l' : Hl} (e : m cl s M.n l = .ok w n' l')
    (k : ∀ (M' : Ms) (v : V), M'.n = n' → Rep c M' l' → Ext M M' → RV c M' w v → Q v M'.H) : tM c cl m σ M.H Q := ⟨M, l, s, rfl, r, sl, w, n', l', e, k⟩
theorem tT.mk {m : Ev.T} {Q : Bool → Hp → Prop} {M : Ms} {l : Hl} {s : List Ev.W} (r : Rep c M l) (sl : Sl c M s σ) {w : Bool} {n' : Nat} {l' : Hl} (e : m cl s M.n l = .ok w n' l')
    (k : ∀ (M' : Ms), M'.n = n' → Rep c M' l' → Ext M M' → Q w M'.H) : tT c cl m σ M.H Q := ⟨M, l, s, rfl, r, sl, w, n', l', e, k⟩
theorem tA.mk {m : Ev.A} {Q : List V → Hp → Prop} {M : Ms} {l : Hl} {s : List Ev.W} (r : Rep c M l) (sl : Sl c M s σ) {w : List Ev.W} {n' : Nat} {l' : Hl} (e : m cl s M.n l = .ok w n' l')
    (k : ∀ (M' : Ms) (vs : List V), M'.n = n' → Rep c M' l' → Ext M M' → RVs c M' w vs → Q vs M'.H) : tA c cl m σ M.H Q := ⟨M, l, s, rfl, r, sl, w, n', l', e, k⟩
/-- two in a row -/
theorem tM2 {ma mb : Ev.D} {R : V → V → Hp → Prop} {M : Ms} {l : Hl} {s : List Ev.W} (r : Rep c M l) (sl : Sl c M s σ) {x y : Ev.W} {n1 n2 : Nat} {l1 l2 : Hl} (e1 : ma cl s M.n l = .ok x n1 l1) (e2 : mb cl s n1 l1 = .ok y n2 l2)
    (k : ∀ (M2 : Ms) (vx vy : V), M2.n = n2 → Rep c M2 l2 → Ext M M2 → RV c M2 x vx → RV c M2 y vy → R vx vy M2.H) :
    tM c cl ma σ M.H (fun vx H1 => tM c cl mb σ H1 fun vy H2 => R vx vy H2) :=
  tM.mk r sl e1 fun M1 vx en r1 x1 rx => tM.mk r1 (sl.mono x1) (by rw [en]; exact e2) fun M2 vy en2 r2 x2 ry => k M2 vx vy en2 r2 (x1.trans x2) (RV.mono x2 _ _ rx) ry
variable {a b d : Expr} {ma mb md : Ev.D} {pos : Pos}
/-! ### names and constants -/
theorem ce_var {i : Nat} {x : Str} (hN : X.N[i]? = some x) (hv : Vis X.env.scope x) (hd : (x == ("__debug__" : Str)) = false := by decide) (hcd : (x == ("__classdict__" : Str)) = false := by decide) : PE X (.Name x pos) (tM c cl (Ev.eVar i)) :=
  pe_imp (pe_var hN hv hd hcd) fun σ H Q ⟨M, l, s, eH, r, sl, w, n', l', e, k⟩ => by
    subst eH
    have e0 : Ev.defK Rs.err (Rs.ok (Ev.sget i s) M.n l) (Ev.sget i s) = Rs.ok w n' l' := e
    obtain ⟨ne, e_1⟩ := defK_ne e0 Rs.ne
    cases e_1
    rw [sget_eq] at ne k
    cases q : s[i]? with
    | none => rw [q] at ne; exact absurd rfl ne
    | some u =>
      rw [q] at ne k
      rcases sl.at_ i u q with z | ⟨v, h1, h2⟩
      · exact absurd z ne
      · exact ⟨v, h1, k M v rfl r (Ext.refl M) h2⟩
theorem ce_const {w : Ev.W} {v : V} {e : Expr} (h : PE X e (tC v)) (hv : ∀ M : Ms, RV c M w v) : PE X e (tM c cl (Ev.eC w)) :=
  pe_imp h fun σ H Q ⟨M, l, s, eH, r, sl, w, n', l', e, k⟩ => by
    subst eH
    cases e
    exact k M v rfl r (Ext.refl M) (hv M)
theorem ce_int {i : Nat} {j : Nat} : PE X (.Constant (.int i) j pos) (tM c cl (Ev.eC (.nat i))) := ce_const pe_int fun _ => rfl
theorem ce_bl {t : Bool} {j : Nat} : PE X (.Constant (.bool t) j pos) (tM c cl (Ev.eC (.bl t))) := ce_const pe_bl fun _ => rfl
theorem ce_non {j : Nat} : PE X (.Constant .none j pos) (tM c cl (Ev.eC .non)) := ce_const pe_non fun _ => rfl
theorem ce_str {x : Str} {j : Nat} {i : Nat} (hi : i < c.ns) (hx : c.ν i = x) : PE X (.Constant (.str x) j pos) (tM c cl (Ev.eC (.str i))) := ce_const pe_str fun _ => ⟨hi, by rw [hx]⟩
/-! ### numbers -/
theorem nat2_ok {f : Nat → Nat → Ev.W} {ma mb : Ev.D} {s : List Ev.W} {n : Nat} {l : Hl} {w : Ev.W} {n' : Nat} {l' : Hl} (e : Ev.eNat2 f ma mb cl s n l = .ok w n' l') :
    ∃ i j n1 l1, ma cl s n l = .ok (.nat i) n1 l1 ∧ mb cl s n1 l1 = .ok (.nat j) n' l' ∧ w = f i j := by
  obtain ⟨x, n1, l1, e1, e_1⟩ := Rs.b_ok e
  obtain ⟨y, n2, l2, e2, e_2⟩ := Rs.b_ok e_1
  obtain ⟨i, rfl, e_3⟩ := natK_ne e_2 Rs.ne
  obtain ⟨j, rfl, e_4⟩ := natK_ne e_3 Rs.ne
  cases e_4
  exact ⟨i, j, n1, l1, e1, e2, rfl⟩
theorem ce_nat2 {e : Expr} {f : Nat → Nat → Ev.W} {g : Int → Int → V} {t : TE} (h : PE X e t) (ht : ∀ σ H Q, tM c cl ma σ H (fun x H1 => tM c cl mb σ H1 fun y H2 => ∃ i j : Nat, x = .int i ∧ y = .int j ∧ Q (g i j) H2) → t σ H Q)
    (hf : ∀ (M : Ms) (i j : Nat), RV c M (f i j) (g i j)) : PE X e (tM c cl (Ev.eNat2 f ma mb)) :=
  pe_imp h fun σ H Q ⟨M, l, s, eH, r, sl, w, n', l', e, k⟩ => by
    subst eH
    obtain ⟨i, j, n1, l1, e1, e2, rfl⟩ := nat2_ok e
    exact ht σ M.H Q (tM2 r sl e1 e2 fun M2 vx vy en r2 x2 rx ry => ⟨i, j, rx, ry, k M2 _ en r2 x2 (hf M2 i j)⟩)
theorem ce_add (ha : PE X a (tM c cl ma)) (hb : PE X b (tM c cl mb)) : PE X (.BinOp a .Add b pos) (tM c cl (Ev.eAdd ma mb)) :=
  ce_nat2 (g := fun i j => .int (i + j)) (pe_add ha hb) (fun σ H Q ⟨M, l, s, eH, r, sl, w, n', l', e, k⟩ => ⟨M, l, s, eH, r, sl, w, n', l', e, fun M' v h1 h2 h3 h4 => by
    obtain ⟨M, l, s, eH, r, sl, w, n', l', e, k⟩ := k M' v h1 h2 h3 h4
    exact ⟨M, l, s, eH, r, sl, w, n', l', e, fun M' v h1 h2 h3 h4 => let ⟨i, j, z⟩ := k M' v h1 h2 h3 h4; ⟨i, j, z⟩⟩⟩) fun _ i j => congrArg V.int (Int.natCast_add i j).symm
theorem tM.wk {m : Ev.D} {H : Hp} {Q Q' : VK} (h : tM c cl m σ H Q) (k : ∀ v H, Q v H → Q' v H) : tM c cl m σ H Q' := by
  obtain ⟨M, l, s, eH, r, sl, w, n', l', e, q⟩ := h
  exact ⟨M, l, s, eH, r, sl, w, n', l', e, fun M' v h1 h2 h3 h4 => k _ _ (q M' v h1 h2 h3 h4)⟩
theorem ce_opN {op : Operator} {g : Int → Int → V} {f : Nat → Nat → Ev.W} (ho : OpR X (binaryOp op) (rI0 g)) (hf : ∀ (M : Ms) (i j : Nat), RV c M (f i j) (g i j)) (ha : PE X a (tM c cl ma)) (hb : PE X b (tM c cl mb)) :
    PE X (.BinOp a op b pos) (tM c cl (Ev.eNat2 f ma mb)) :=
  ce_nat2 (g := g) (pe_op ho ha hb) (fun σ H Q h => h.wk fun x H1 h => h.wk fun y H2 ⟨i, j, z⟩ => ⟨i, j, z⟩) hf
theorem ce_band (ha : PE X a (tM c cl ma)) (hb : PE X b (tM c cl mb)) : PE X (.BinOp a .BitAnd b pos) (tM c cl (Ev.eBand ma mb)) :=
  ce_opN op_and (fun M i j => congrArg V.int (by rw [bitAnd_pp (Int.natCast_nonneg i) (Int.natCast_nonneg j)]; rfl)) ha hb
theorem ce_bor (ha : PE X a (tM c cl ma)) (hb : PE X b (tM c cl mb)) : PE X (.BinOp a .BitOr b pos) (tM c cl (Ev.eBor ma mb)) :=
  ce_opN op_or (fun M i j => congrArg V.int (by rw [Bits.bitOr_pp (Int.natCast_nonneg i) (Int.natCast_nonneg j)]; rfl)) ha hb
theorem ce_cmpN {op : CmpOp} {p : Int → Int → Bool} {f : Nat → Nat → Bool} (h : PC X op a b (tCmp p (tM c cl ma) (tM c cl mb))) (hm : behindInMarks op b = false) (hf : ∀ i j : Nat, p i j = f i j) :
    PE X (.Compare a [op] [b] pos) (tM c cl (Ev.eNat2 (fun i j => .bl (f i j)) ma mb)) ∧ PT X (.Compare a [op] [b] pos) (tT c cl (Ev.tB (Ev.eNat2 (fun i j => .bl (f i j)) ma mb))) := by
  refine ⟨ce_nat2 (g := fun i j => .bl (p i j)) (pe_cmp h hm) (fun σ H Q h => h.wk fun x H1 h => h.wk fun y H2 ⟨i, j, z⟩ => ⟨i, j, z⟩) fun M i j => congrArg V.bl (hf i j), ?_⟩
  refine pt_imp (pt_cmp h hm) fun σ H Q ⟨M, l, s, eH, r, sl, w, n', l', e, k⟩ => ?_
  subst eH
  obtain ⟨x, n1, l1, e1, e_1⟩ := Rs.bb_ok e
  obtain ⟨i, j, n2, l2, e2, e3, rfl⟩ := nat2_ok e1
  cases e_1
  exact tM2 r sl e2 e3 fun M2 vx vy en r2 x2 rx ry => ⟨i, j, rx, ry, _, rfl, by rw [hf]; exact k M2 en r2 x2⟩
theorem dlt (i j : Nat) : decide ((i : Int) < j) = Nat.blt i j := by
  by_cases h : i < j
  · rw [decide_eq_true (Int.ofNat_lt.mpr h)]
    exact (Nat.ble_eq_true_of_le h).symm
  · rw [decide_eq_false (fun z => h (Int.ofNat_lt.mp z))]
    cases q : Nat.blt i j with
    | true => exact absurd (Nat.le_of_ble_eq_true q) h
    | false => rfl
theorem dle (i j : Nat) : decide ((i : Int) ≤ j) = Nat.ble i j := by
  by_cases h : i ≤ j
  · rw [decide_eq_true (Int.ofNat_le.mpr h)]
    exact (Nat.ble_eq_true_of_le h).symm
  · rw [decide_eq_false (fun z => h (Int.ofNat_le.mp z))]
    cases q : Nat.ble i j with
    | true => exact absurd (Nat.le_of_ble_eq_true q) h
    | false => rfl
theorem ce_lt (ha : PE X a (tM c cl ma)) (hb : PE X b (tM c cl mb)) : PE X (.Compare a [.Lt] [b] pos) (tM c cl (Ev.eLt ma mb)) ∧ PT X (.Compare a [.Lt] [b] pos) (tT c cl (Ev.tB (Ev.eLt ma mb))) := ce_cmpN (pc_lt ha hb) (nobehind _ (by decide) (by decide)) dlt
theorem ce_le (ha : PE X a (tM c cl ma)) (hb : PE X b (tM c cl mb)) : PE X (.Compare a [.LtE] [b] pos) (tM c cl (Ev.eLe ma mb)) ∧ PT X (.Compare a [.LtE] [b] pos) (tT c cl (Ev.tB (Ev.eLe ma mb))) := ce_cmpN (pc_le ha hb) (nobehind _ (by decide) (by decide)) dle
theorem ce_gt (ha : PE X a (tM c cl ma)) (hb : PE X b (tM c cl mb)) : PE X (.Compare a [.Gt] [b] pos) (tM c cl (Ev.eGt ma mb)) ∧ PT X (.Compare a [.Gt] [b] pos) (tT c cl (Ev.tB (Ev.eGt ma mb))) := ce_cmpN (pc_gt ha hb) (nobehind _ (by decide) (by decide)) fun i j => dlt j i
theorem ce_ge (ha : PE X a (tM c cl ma)) (hb : PE X b (tM c cl mb)) : PE X (.Compare a [.GtE] [b] pos) (tM c cl (Ev.eGe ma mb)) ∧ PT X (.Compare a [.GtE] [b] pos) (tT c cl (Ev.tB (Ev.eGe ma mb))) := ce_cmpN (pc_ge ha hb) (nobehind _ (by decide) (by decide)) fun i j => dle j i
theorem ce_sub (ha : PE X a (tM c cl ma)) (hb : PE X b (tM c cl mb)) : PE X (.BinOp a .Sub b pos) (tM c cl (Ev.eSub ma mb)) :=
  pe_imp (pe_sub ha hb) fun σ H Q ⟨M, l, s, eH, r, sl, w, n', l', e, k⟩ => by
    subst eH
    obtain ⟨x, n1, l1, e1, e_1⟩ := Rs.b_ok e
    obtain ⟨y, n2, l2, e2, e_2⟩ := Rs.b_ok e_1
    obtain ⟨i, rfl, e_3⟩ := natK_ne e_2 Rs.ne
    obtain ⟨j, rfl, e_4⟩ := natK_ne e_3 Rs.ne
    obtain ⟨hl, e_5⟩ := ite_ne e_4 Rs.ne
    cases e_5
    exact tM2 r sl e1 e2 fun M2 vx vy en r2 x2 rx ry => ⟨i, j, rx, ry, k M2 _ en r2 x2 (congrArg V.int (Int.ofNat_sub (Nat.le_of_ble_eq_true hl)).symm)⟩
theorem ce_mod (ha : PE X a (tM c cl ma)) (hb : PE X b (tM c cl mb)) : PE X (.BinOp a .Mod b pos) (tM c cl (Ev.eMod ma mb)) :=
  pe_imp (pe_op op_mod ha hb) fun σ H Q ⟨M, l, s, eH, r, sl, w, n', l', e, k⟩ => by
    subst eH
    obtain ⟨x, n1, l1, e1, e_1⟩ := Rs.b_ok e
    obtain ⟨y, n2, l2, e2, e_2⟩ := Rs.b_ok e_1
    obtain ⟨i, rfl, e_3⟩ := natK_ne e_2 Rs.ne
    obtain ⟨j, rfl, e_4⟩ := natK_ne e_3 Rs.ne
    obtain ⟨hl, e_5⟩ := ite_ne' e_4 Rs.ne
    cases e_5
    have hj : 0 < j := Nat.pos_of_ne_zero fun z => by rw [z] at hl; cases hl
    exact tM2 r sl e1 e2 fun M2 vx vy en r2 x2 rx ry => ⟨i, j, rx, ry, Int.ofNat_lt.mpr hj, k M2 _ en r2 x2 (congrArg V.int (Int.natCast_emod i j).symm)⟩
/-- a factor below 2 ^ 64: seen to by the machine -/
theorem ce_mul (ha : PE X a (tM c cl ma)) (hb : PE X b (tM c cl mb)) : PE X (.BinOp a .Mult b pos) (tM c cl (Ev.eMul ma mb)) :=
  pe_imp (pe_mul ha hb) fun σ H Q ⟨M, l, s, eH, r, sl, w, n', l', e, k⟩ => by
    subst eH
    obtain ⟨x, n1, l1, e1, e_1⟩ := Rs.b_ok e
    obtain ⟨y, n2, l2, e2, e_2⟩ := Rs.b_ok e_1
    obtain ⟨i, rfl, e_3⟩ := natK_ne e_2 Rs.ne
    obtain ⟨j, rfl, e_4⟩ := natK_ne e_3 Rs.ne
    obtain ⟨hl, e_5⟩ := ite_ne e_4 Rs.ne
    cases e_5
    have hi : i < 1000000 := Nat.le_of_ble_eq_true hl
    exact tM2 r sl e1 e2 fun M2 vx vy en r2 x2 rx ry => ⟨i, j, rx, ry, ⟨by omega, by omega⟩, k M2 _ en r2 x2 (congrArg V.int (Int.natCast_mul i j).symm)⟩
/-! ### == of flat values, is None -/
theorem weq_ok {R : Type} {e : R} {k : Bool → R} {r : R} {x y : Ev.W} (h : Ev.weq e k x y = r) (ne : e ≠ r) : ∃ t, k t = r ∧ ∀ (M : Ms) (vx vy : V), RV c M x vx → RV c M y vy → scal vx vy = true ∧ decide (vx = vy) = t := by
  cases x with
  | bl p =>
    obtain ⟨q, rfl, h⟩ := blK_ne (show Ev.blK e (fun d => k (Bool.rec (motive := fun _ => Bool) (Bool.rec (motive := fun _ => Bool) true false d) d p)) y = r from h) ne
    refine ⟨_, h, fun M vx vy rx ry => ?_⟩
    rw [show vx = .bl p from rx, show vy = .bl q from ry]
    cases p <;> cases q <;> decide
  | nat i =>
    obtain ⟨j, rfl, h⟩ := natK_ne (show Ev.natK e (fun j => k (Nat.beq i j)) y = r from h) ne
    refine ⟨_, h, fun M vx vy rx ry => ?_⟩
    rw [show vx = .int i from rx, show vy = .int j from ry]
    refine ⟨rfl, ?_⟩
    by_cases q : i = j
    · subst q
      rw [decide_eq_true rfl, nbq.mpr rfl]
    · rw [decide_eq_false (fun z => q (by injection z with z; exact Int.ofNat.inj z))]
      cases z : Nat.beq i j with
      | true => exact absurd (nbq.mp z) q
      | false => rfl
  | str i =>
    cases y with
    | str j =>
      obtain ⟨hs, h⟩ := ite_ne (show Bool.rec (motive := fun _ => R) e (k (Nat.beq i j)) (Ev.sep i j) = r from h) ne
      refine ⟨Nat.beq i j, h, fun M vx vy rx ry => ?_⟩
      obtain ⟨hi, rfl⟩ := rx
      obtain ⟨hj, rfl⟩ := ry
      refine ⟨rfl, ?_⟩
      by_cases q : i = j
      · subst q
        rw [decide_eq_true rfl, nbq.mpr rfl]
      · rw [decide_eq_false (fun z => q (by injection z with z; exact c.inj i j hi hj hs z))]
        cases z : Nat.beq i j with
        | true => exact absurd (nbq.mp z) q
        | false => rfl
    | _ => exact absurd h ne
  | _ => exact absurd h ne
theorem ce_eq (ha : PE X a (tM c cl ma)) (hb : PE X b (tM c cl mb)) : PE X (.Compare a [.Eq] [b] pos) (tM c cl (Ev.eEq ma mb)) ∧ PT X (.Compare a [.Eq] [b] pos) (tT c cl (Ev.tB (Ev.eEq ma mb))) := by
  refine ⟨pe_imp (pe_cmpR op_eq ha hb (nomark _)) fun σ H Q ⟨M, l, s, eH, r, sl, w, n', l', e, k⟩ => ?_, pt_imp (pt_cmpR op_eq ha hb (nomark _)) fun σ H Q ⟨M, l, s, eH, r, sl, w, n', l', e, k⟩ => ?_⟩
  · subst eH
    obtain ⟨x, n1, l1, e1, e_1⟩ := Rs.b_ok e
    obtain ⟨y, n2, l2, e2, e_2⟩ := Rs.b_ok e_1
    obtain ⟨t, e_3, z⟩ := weq_ok (c := c) e_2 Rs.ne
    cases e_3
    exact tM2 r sl e1 e2 fun M2 vx vy en r2 x2 rx ry => ⟨(z M2 vx vy rx ry).1, k M2 _ en r2 x2 (congrArg V.bl (z M2 vx vy rx ry).2)⟩
  · subst eH
    obtain ⟨x0, n0, l0, e0, e'⟩ := Rs.bb_ok e
    obtain ⟨x, n1, l1, e1, e_1⟩ := Rs.b_ok e0
    obtain ⟨y, n2, l2, e2, e_2⟩ := Rs.b_ok e_1
    obtain ⟨t, e_3, z⟩ := weq_ok (c := c) e_2 Rs.ne
    cases e_3
    cases e'
    exact tM2 r sl e1 e2 fun M2 vx vy en r2 x2 rx ry => ⟨(z M2 vx vy rx ry).1, _, congrArg V.bl (z M2 vx vy rx ry).2, k M2 en r2 x2⟩
theorem ce_ne (ha : PE X a (tM c cl ma)) (hb : PE X b (tM c cl mb)) : PE X (.Compare a [.NotEq] [b] pos) (tM c cl (Ev.eNe ma mb)) ∧ PT X (.Compare a [.NotEq] [b] pos) (tT c cl (Ev.tB (Ev.eNe ma mb))) := by
  refine ⟨pe_imp (pe_cmpR op_ne ha hb (nomark _)) fun σ H Q ⟨M, l, s, eH, r, sl, w, n', l', e, k⟩ => ?_, pt_imp (pt_cmpR op_ne ha hb (nomark _)) fun σ H Q ⟨M, l, s, eH, r, sl, w, n', l', e, k⟩ => ?_⟩
  · subst eH
    obtain ⟨x, n1, l1, e1, e_1⟩ := Rs.b_ok e
    obtain ⟨y, n2, l2, e2, e_2⟩ := Rs.b_ok e_1
    obtain ⟨t, e_3, z⟩ := weq_ok (c := c) e_2 Rs.ne
    cases e_3
    exact tM2 r sl e1 e2 fun M2 vx vy en r2 x2 rx ry => ⟨(z M2 vx vy rx ry).1, k M2 _ en r2 x2 (by rw [neg_eq, (z M2 vx vy rx ry).2]; rfl)⟩
  · subst eH
    obtain ⟨x0, n0, l0, e0, e'⟩ := Rs.bb_ok e
    obtain ⟨x, n1, l1, e1, e_1⟩ := Rs.b_ok e0
    obtain ⟨y, n2, l2, e2, e_2⟩ := Rs.b_ok e_1
    obtain ⟨t, e_3, z⟩ := weq_ok (c := c) e_2 Rs.ne
    cases e_3
    cases e'
    exact tM2 r sl e1 e2 fun M2 vx vy en r2 x2 rx ry => ⟨(z M2 vx vy rx ry).1, Ev.neg t, by rw [neg_eq, (z M2 vx vy rx ry).2], k M2 en r2 x2⟩
theorem isNon_ok {M : Ms} {x : Ev.W} {v : V} (h : RV c M x v) : decide (v = .non) = Ev.isNon x := by
  cases x with
  | un => exact h.elim
  | non => rw [show v = .non from h]; rfl
  | bl b => rw [show v = .bl b from h]; rfl
  | nat b => rw [show v = .int b from h]; rfl
  | str s => rw [h.2]; rfl
  | tup ws => obtain ⟨a, xs, rfl, _⟩ := h; rfl
  | wtup ws => obtain ⟨a, xs, rfl, _⟩ := h; rfl
  | lst ws => obtain ⟨a, xs, rfl, _⟩ := h; rfl
  | dct t ks vs => cases t <;> (obtain ⟨a, rfl, _⟩ := h; rfl)
  | obj k ids vs => obtain ⟨_, a, dx, fs, rfl, _⟩ := h; rfl
  | ref i => rw [h.2]; rfl
  | rng k => obtain ⟨a, rfl, _⟩ := h; rfl
theorem ce_isN {j : Nat} {pos' : Pos} (ha : PE X a (tM c cl ma)) : PE X (.Compare a [.Is] [.Constant .none j pos'] pos) (tM c cl (Ev.eIsN ma)) ∧ PT X (.Compare a [.Is] [.Constant .none j pos'] pos) (tT c cl (Ev.tB (Ev.eIsN ma))) := by
  refine ⟨pe_imp (pe_cmp (pc_isN ha)) fun σ H Q ⟨M, l, s, eH, r, sl, w, n', l', e, k⟩ => ?_, pt_imp (pt_cmp (pc_isN ha)) fun σ H Q ⟨M, l, s, eH, r, sl, w, n', l', e, k⟩ => ?_⟩
  · subst eH
    obtain ⟨x, n1, l1, e1, e_1⟩ := Rs.b_ok e
    cases e_1
    exact tM.mk r sl e1 fun M1 v en r1 x1 rx => k M1 _ en r1 x1 (congrArg V.bl (isNon_ok rx))
  · subst eH
    obtain ⟨x0, n0, l0, e0, e'⟩ := Rs.bb_ok e
    obtain ⟨x, n1, l1, e1, e_1⟩ := Rs.b_ok e0
    cases e_1
    cases e'
    exact tM.mk r sl e1 fun M1 v en r1 x1 rx => ⟨_, congrArg V.bl (isNon_ok rx), k M1 en r1 x1⟩
theorem ce_notN {j : Nat} {pos' : Pos} (ha : PE X a (tM c cl ma)) : PE X (.Compare a [.IsNot] [.Constant .none j pos'] pos) (tM c cl (Ev.eNotN ma)) ∧ PT X (.Compare a [.IsNot] [.Constant .none j pos'] pos) (tT c cl (Ev.tB (Ev.eNotN ma))) := by
  refine ⟨pe_imp (pe_cmp (pc_notN ha)) fun σ H Q ⟨M, l, s, eH, r, sl, w, n', l', e, k⟩ => ?_, pt_imp (pt_cmp (pc_notN ha)) fun σ H Q ⟨M, l, s, eH, r, sl, w, n', l', e, k⟩ => ?_⟩
  · subst eH
    obtain ⟨x, n1, l1, e1, e_1⟩ := Rs.b_ok e
    cases e_1
    exact tM.mk r sl e1 fun M1 v en r1 x1 rx => k M1 _ en r1 x1 (by rw [isNon_ok rx, neg_eq]; rfl)
  · subst eH
    obtain ⟨x0, n0, l0, e0, e'⟩ := Rs.bb_ok e
    obtain ⟨x, n1, l1, e1, e_1⟩ := Rs.b_ok e0
    cases e_1
    cases e'
    exact tM.mk r sl e1 fun M1 v en r1 x1 rx => ⟨_, by rw [isNon_ok rx, ← neg_eq], k M1 en r1 x1⟩
/-! ### and, or, not, if -/
theorem ce_and {rest : List Expr} (ha : PE X a (tM c cl ma)) (hb : PE X (.BoolOp .And (b :: rest) pos) (tM c cl mb)) : PE X (.BoolOp .And (a :: b :: rest) pos) (tM c cl (Ev.eAnd ma mb)) :=
  pe_imp (pe_and ha hb) fun σ H Q ⟨M, l, s, eH, r, sl, w, n', l', e, k⟩ => by
    subst eH
    obtain ⟨x, n1, l1, e1, e_1⟩ := Rs.b_ok e
    obtain ⟨d, rfl, e_2⟩ := blK_ne e_1 Rs.ne
    refine tM.mk r sl e1 fun M1 v en r1 x1 rx => ⟨d, rx, ?_⟩
    cases d with
    | false =>
      cases e_2
      exact k M1 _ en r1 x1 rfl
    | true => exact tM.mk r1 (sl.mono x1) (by rw [en]; exact e_2) fun M2 v2 en2 r2 x2 rx2 => k M2 v2 en2 r2 (x1.trans x2) rx2
theorem ce_or {rest : List Expr} (ha : PE X a (tM c cl ma)) (hb : PE X (.BoolOp .Or (b :: rest) pos) (tM c cl mb)) : PE X (.BoolOp .Or (a :: b :: rest) pos) (tM c cl (Ev.eOr ma mb)) :=
  pe_imp (pe_or ha hb) fun σ H Q ⟨M, l, s, eH, r, sl, w, n', l', e, k⟩ => by
    subst eH
    obtain ⟨x, n1, l1, e1, e_1⟩ := Rs.b_ok e
    obtain ⟨d, rfl, e_2⟩ := blK_ne e_1 Rs.ne
    refine tM.mk r sl e1 fun M1 v en r1 x1 rx => ⟨d, rx, ?_⟩
    cases d with
    | true =>
      cases e_2
      exact k M1 _ en r1 x1 rfl
    | false => exact tM.mk r1 (sl.mono x1) (by rw [en]; exact e_2) fun M2 v2 en2 r2 x2 rx2 => k M2 v2 en2 r2 (x1.trans x2) rx2
theorem ce_one {op : BoolOp} (ha : PE X a (tM c cl ma)) : PE X (.BoolOp op [a] pos) (tM c cl ma) := pe_one ha
theorem ce_not (ha : PE X a (tM c cl ma)) : PE X (.UnaryOp .Not a pos) (tM c cl (Ev.eNot ma)) :=
  pe_imp (pe_not ha) fun σ H Q ⟨M, l, s, eH, r, sl, w, n', l', e, k⟩ => by
    subst eH
    obtain ⟨x, n1, l1, e1, e_1⟩ := Rs.b_ok e
    obtain ⟨d, rfl, e_2⟩ := blK_ne e_1 Rs.ne
    cases e_2
    exact tM.mk r sl e1 fun M1 v en r1 x1 rx => ⟨d, rx, k M1 _ en r1 x1 (by rw [neg_eq]; rfl)⟩
variable {mt mu : Ev.T}
theorem ce_if {t : Expr} (ht : PT X t (tT c cl mt)) (ha : PE X a (tM c cl ma)) (hb : PE X b (tM c cl mb)) : PE X (.IfExp t a b pos) (tM c cl (Ev.eIf mt ma mb)) :=
  pe_imp (pe_ifExp ht ha hb) fun σ H Q ⟨M, l, s, eH, r, sl, w, n', l', e, k⟩ => by
    subst eH
    obtain ⟨d, n1, l1, e1, e_1⟩ := Rb.b_ok e
    refine tT.mk r sl e1 fun M1 en r1 x1 => ?_
    cases d with
    | true => exact tM.mk r1 (sl.mono x1) (by rw [en]; exact e_1) fun M2 v2 en2 r2 x2 rx2 => k M2 v2 en2 r2 (x1.trans x2) rx2
    | false => exact tM.mk r1 (sl.mono x1) (by rw [en]; exact e_1) fun M2 v2 en2 r2 x2 rx2 => k M2 v2 en2 r2 (x1.trans x2) rx2
theorem ct_and {rest : List Expr} (ha : PT X a (tT c cl mt)) (hb : PW X (.BoolOp .And (b :: rest) pos) (tT c cl mu)) : PW X (.BoolOp .And (a :: b :: rest) pos) (tT c cl (Ev.tAnd mt mu)) :=
  pw_imp (pw_and ha hb) fun σ H Q ⟨M, l, s, eH, r, sl, w, n', l', e, k⟩ => by
    subst eH
    obtain ⟨d, n1, l1, e1, e_1⟩ := Rb.bb_ok e
    refine tT.mk r sl e1 fun M1 en r1 x1 => ?_
    cases d with
    | true => exact tT.mk r1 (sl.mono x1) (by rw [en]; exact e_1) fun M2 en2 r2 x2 => k M2 en2 r2 (x1.trans x2)
    | false =>
      cases e_1
      exact k M1 en r1 x1
theorem ct_or {rest : List Expr} (ha : PT X a (tT c cl mt)) (hb : PW X (.BoolOp .Or (b :: rest) pos) (tT c cl mu)) : PW X (.BoolOp .Or (a :: b :: rest) pos) (tT c cl (Ev.tOr mt mu)) :=
  pw_imp (pw_or ha hb) fun σ H Q ⟨M, l, s, eH, r, sl, w, n', l', e, k⟩ => by
    subst eH
    obtain ⟨d, n1, l1, e1, e_1⟩ := Rb.bb_ok e
    refine tT.mk r sl e1 fun M1 en r1 x1 => ?_
    cases d with
    | false => exact tT.mk r1 (sl.mono x1) (by rw [en]; exact e_1) fun M2 en2 r2 x2 => k M2 en2 r2 (x1.trans x2)
    | true =>
      cases e_1
      exact k M1 en r1 x1
theorem ct_and1 (ha : PT X a (tT c cl mt)) : PW X (.BoolOp .And [a] pos) (tT c cl mt) := pw_and1 ha
theorem ct_or1 (ha : PT X a (tT c cl mt)) : PW X (.BoolOp .Or [a] pos) (tT c cl mt) := pw_or1 ha
theorem ct_not (ha : PT X a (tT c cl mt)) : PT X (.UnaryOp .Not a pos) (tT c cl (Ev.tNot mt)) :=
  pt_imp (pt_not ha) fun σ H Q ⟨M, l, s, eH, r, sl, w, n', l', e, k⟩ => by
    subst eH
    obtain ⟨d, n1, l1, e1, e_1⟩ := Rb.bb_ok e
    cases e_1
    exact tT.mk r sl e1 fun M1 en r1 x1 => by rw [← neg_eq]; exact k M1 en r1 x1
/-! ### lists and tuples as they stand -/
/-- what stands where a list or a tuple of the machine is -/
theorem seqK_ok {R : Type} {e r : R} {k : List Ev.W → R} {w : Ev.W} {l : Hl} (h : Ev.seqK e k w l = r) (ne : e ≠ r) : ∃ ws, k ws = r ∧ ∀ (M : Ms) (v : V), Rep c M l → RV c M w v → ∃ a xs, v = .ref a ∧ (SqL c.K M.H a xs ∨ SqT c.K M.H a xs) ∧ RVs c M ws xs := by
  cases w with
  | tup ws => exact ⟨ws, h, fun M v _ ⟨a, xs, h1, _, h2, h3⟩ => ⟨a, xs, h1, .inr (.inl (.inl h2)), h3⟩⟩
  | wtup ws => exact ⟨ws, h, fun M v _ ⟨a, xs, h1, h2, h3⟩ => ⟨a, xs, h1, .inr h2.seq, h3⟩⟩
  | lst ws => exact ⟨ws, h, fun M v _ ⟨a, xs, h1, _, h2, h3⟩ => ⟨a, xs, h1, .inl (.inl (.inl h2)), h3⟩⟩
  | ref i =>
    obtain ⟨o, h1, h2⟩ := hget_ne (show Ev.hget e (Ev.oLst e k) l i = r from h) ne
    obtain ⟨ws, rfl, h2⟩ := oLst_ne h2 ne
    refine ⟨ws, h2, fun M v rp ⟨_, hv⟩ => ?_⟩
    obtain ⟨xs, h3, h4⟩ := rp.obj i _ h1
    exact ⟨M.ρ i, xs, hv, .inl (.inl (.inl h3)), h4⟩
  | _ => exact absurd h ne
theorem lstK_ok {R : Type} {e r : R} {k : List Ev.W → R} {w : Ev.W} {l : Hl} (h : Ev.lstK e k w l = r) (ne : e ≠ r) : ∃ ws, k ws = r ∧ ∀ (M : Ms) (v : V), Rep c M l → RV c M w v → ∃ a xs, v = .ref a ∧ M.H a = some (.lst xs) ∧ RVs c M ws xs := by
  cases w with
  | lst ws => exact ⟨ws, h, fun M v _ ⟨a, xs, h1, _, h2, h3⟩ => ⟨a, xs, h1, h2, h3⟩⟩
  | ref i =>
    obtain ⟨o, h1, h2⟩ := hget_ne (show Ev.hget e (Ev.oLst e k) l i = r from h) ne
    obtain ⟨ws, rfl, h2⟩ := oLst_ne h2 ne
    refine ⟨ws, h2, fun M v rp ⟨_, hv⟩ => ?_⟩
    obtain ⟨xs, h3, h4⟩ := rp.obj i _ h1
    exact ⟨M.ρ i, xs, hv, h3, h4⟩
  | _ => exact absurd h ne
/-- truth -/
theorem ct_tr (hK : X.K = c.K) (ha : PE X a (tM c cl ma)) (he : ∀ whole, isTrue a X.env whole = (do let v ← whole; standAt a.pos; holding [v] (truthy v)) := by intro _; rfl) : PT X a (tT c cl (Ev.tTr ma)) :=
  pt_imp (pt_truth ha he) fun σ H Q ⟨M, l, s, eH, r, sl, w, n', l', e, k⟩ => by
    subst eH
    obtain ⟨x, n1, l1, e1, e_1⟩ := Rs.bb_ok e
    refine tM.mk r sl e1 fun M1 v en r1 x1 rx => ?_
    have seq : Ev.seqK Rb.err (fun ws => .ok (Ev.neg (Ev.isNil ws)) n1 l1) x l1 = .ok w n' l' → ∃ k, TruV X.K v M1.H k ∧ Q k M1.H := fun e8 => by
      obtain ⟨ws, e9, z⟩ := seqK_ok (c := c) e8 Rb.ne
      cases e9
      obtain ⟨p, xs, rfl, h2, h3⟩ := z M1 v r1 rx
      have hn : Ev.neg (Ev.isNil ws) = !xs.isEmpty := by
        rw [neg_eq]
        cases ws with
        | nil => rw [show xs = [] from h3]; rfl
        | cons _ _ => obtain ⟨_, _, rfl, _⟩ := h3; rfl
      refine ⟨_, ?_, k M1 en r1 x1⟩
      rw [hn, hK]
      rcases h2 with h2 | h2
      · exact .inl ⟨xs, h2, rfl⟩
      · exact .inr (.inl ⟨xs, h2, rfl⟩)
    cases x with
    | bl b =>
      cases e_1
      exact ⟨w, by rw [show v = .bl w from rx]; rfl, k M1 en r1 x1⟩
    | tup ws => exact seq e_1
    | wtup ws => exact seq e_1
    | lst ws => exact seq e_1
    | ref i => exact seq e_1
    | _ => cases e_1
end
end Sd
end

section
set_option Elab.async false
set_option linter.all false
set_option maxRecDepth 100000
/-! Sd2: freezing, what a def hands back, arguments, displays, attributes, calls. -/
namespace Sd
open PySem PySem.Spec PyProof.Rows L2
open Ev (Hl Rs Rb Ra So Sr CallT)
/-! ### freezing -/
section
variable {c : Cn}
theorem Ms.less_less (M : Ms) (l l' : Hl) : (M.less l).less l' = M.less l' := rfl
/-- a freezing that keeps what it says -/
def FzOk (c : Cn) (z : Ev.W → Hl → Ev.Fz) : Prop := ∀ (w : Ev.W) (l : Hl) (w' : Ev.W) (l' : Hl), z w l = .ok w' l' → ∀ (M : Ms) (v : V), Rep c M l → RV c M w v → ∃ M', M'.H = M.H ∧ M'.n = M.n ∧ M'.ρ = M.ρ ∧ Rep c M' l' ∧ Ext M M' ∧ RV c M' w' v
theorem fzs_ok {z : Ev.W → Hl → Ev.Fz} (hz : FzOk c z) : ∀ (ws : List Ev.W) (l : Hl) (rs : List Ev.W) (l' : Hl), Ev.fzs z ws l = .ok rs l' → ∀ (M : Ms) (xs : List V), Rep c M l → RVs c M ws xs →
    ∃ M', M'.H = M.H ∧ M'.n = M.n ∧ M'.ρ = M.ρ ∧ Rep c M' l' ∧ Ext M M' ∧ RVs c M' rs xs
  | [], l, rs, l', h, M, xs, r, hx => by
    cases h
    exact ⟨M, rfl, rfl, rfl, r, Ext.refl M, hx⟩
  | w :: ws, l, rs, l', h, M, xs, r, hx => by
    obtain ⟨x, q, rfl, h1, h2⟩ := hx
    have h3 : Ev.Fz.b Ev.Fzs.err (fun x l1 => Ev.Fzs.b Ev.Fzs.err (fun r l2 => Ev.Fzs.ok (x :: r) l2) (Ev.fzs z ws l1)) (z w l) = .ok rs l' := h
    cases e1 : z w l with
    | err => rw [e1] at h3; cases h3
    | ok w1 l1 =>
      rw [e1] at h3
      have h4 : Ev.Fzs.b Ev.Fzs.err (fun r l2 => Ev.Fzs.ok (w1 :: r) l2) (Ev.fzs z ws l1) = .ok rs l' := h3
      cases e2 : Ev.fzs z ws l1 with
      | err => rw [e2] at h4; cases h4
      | ok r2 l2 =>
        rw [e2] at h4
        cases h4
        obtain ⟨M1, k1, k2, k3, k4, k5, k6⟩ := hz w l w1 l1 e1 M x r h1
        obtain ⟨M2, m1, m2, m3, m4, m5, m6⟩ := fzs_ok hz ws l1 _ _ e2 M1 q k4 (RVs.mono k5 _ _ h2)
        exact ⟨M2, m1.trans k1, m2.trans k2, m3.trans k3, m4, k5.trans m5, x, q, rfl, RV.mono m5 _ _ k6, m6⟩
theorem fz_ok : ∀ f : Nat, FzOk c (Ev.fz f)
  | 0, w, l, w', l', h, M, v, r, hv => by cases h
  | f + 1, w, l, w', l', h, M, v, r, hv => by
    have ih := fz_ok f
    cases w with
    | un => cases h
    | tup ws =>
      have h1 : Ev.Fzs.b Ev.Fz.err (fun r l1 => Ev.Fz.ok (.tup r) l1) (Ev.fzs (Ev.fz f) ws l) = .ok w' l' := h
      cases e1 : Ev.fzs (Ev.fz f) ws l with
      | err => rw [e1] at h1; cases h1
      | ok r1 l1 =>
        rw [e1] at h1
        cases h1
        obtain ⟨a, xs, ha, hp, hH, hx⟩ := hv
        obtain ⟨M1, k1, k2, k3, k4, k5, k6⟩ := fzs_ok ih ws l _ _ e1 M xs r hx
        exact ⟨M1, k1, k2, k3, k4, k5, a, xs, ha, (k5.keep _ _ hH hp).2, (k5.keep _ _ hH hp).1, k6⟩
    | ref i =>
      obtain ⟨o, h1, h2⟩ := hget_ne (show Ev.hget Ev.Fz.err _ l i = .ok w' l' from h) (fun z => nomatch z)
      obtain ⟨_, hvr⟩ := hv
      have ro := r.obj i o h1
      -- the object is taken out
      have gone := r.sub (l' := Ev.hdel l i) (dsc_del i r.dsc) fun j q e => by
        rw [hat_del i j r.dsc] at e
        by_cases z : j = i
        · rw [if_pos z] at e; cases e
        · rw [if_neg z] at e; exact e
      have np : ¬ (M.less (Ev.hdel l i)).P (M.ρ i) := fun z => by
        rcases z with ⟨j, q, e1, e2⟩ | z
        · rw [hat_del i j r.dsc] at e1
          by_cases z : j = i
          · rw [if_pos z] at e1; cases e1
          · rw [if_neg z] at e1; exact z (r.inj j i q o e1 h1 e2)
        · exact (r.E _ z).2 i o h1 rfl
      cases o with
      | lst ws =>
        have h3 : Ev.Fzs.b Ev.Fz.err (fun r l1 => Ev.Fz.ok (.lst r) l1) (Ev.fzs (Ev.fz f) ws (Ev.hdel l i)) = .ok w' l' := h2
        cases e1 : Ev.fzs (Ev.fz f) ws (Ev.hdel l i) with
        | err => rw [e1] at h3; cases h3
        | ok r1 l1 =>
          rw [e1] at h3
          cases h3
          obtain ⟨xs, hH, hx⟩ := ro
          obtain ⟨M1, k1, k2, k3, k4, k5, k6⟩ := fzs_ok ih ws _ _ _ e1 _ xs gone.1 (RVs.mono gone.2 _ _ hx)
          have kk := k5.keep _ _ (show (M.less (Ev.hdel l i)).H (M.ρ i) = _ from hH) np
          exact ⟨M1, k1, k2, k3, k4, gone.2.trans k5, M.ρ i, xs, hvr, kk.2, kk.1, k6⟩
      | dct t ks vs =>
        have h3 : Ev.Fzs.b Ev.Fz.err (fun r l1 => Ev.Fz.ok (.dct t ks r) l1) (Ev.fzs (Ev.fz f) vs (Ev.hdel l i)) = .ok w' l' := h2
        cases e1 : Ev.fzs (Ev.fz f) vs (Ev.hdel l i) with
        | err => rw [e1] at h3; cases h3
        | ok r1 l1 =>
          rw [e1] at h3
          cases h3
          cases t with
          | false =>
            obtain ⟨kvs, hH, hk, hx⟩ := ro
            obtain ⟨M1, k1, k2, k3, k4, k5, k6⟩ := fzs_ok ih vs _ _ _ e1 _ _ gone.1 (RVs.mono gone.2 _ _ hx)
            have kk := rd_keep k5.toExt0 np (.inl (show (M.less (Ev.hdel l i)).H (M.ρ i) = _ from hH))
            exact ⟨M1, k1, k2, k3, k4, gone.2.trans k5, M.ρ i, hvr, kk.2, kvs, kk.1, hk, k6⟩
          | true =>
            obtain ⟨kvs, hH, hk, hx⟩ := ro
            obtain ⟨M1, k1, k2, k3, k4, k5, k6⟩ := fzs_ok ih vs _ _ _ e1 _ _ gone.1 (RVs.mono gone.2 _ _ hx)
            have kk := rd_keep k5.toExt0 np (.inl (show (M.less (Ev.hdel l i)).H (M.ρ i) = _ from hH))
            exact ⟨M1, k1, k2, k3, k4, gone.2.trans k5, M.ρ i, hvr, kk.2, kvs, kk.1, hk, k6⟩
      | map hh m =>
        cases h2
        exact ⟨M, rfl, rfl, rfl, r, Ext.refl M, r.lt h1, hvr⟩
      | told hh m =>
        cases h2
        exact ⟨M, rfl, rfl, rfl, r, Ext.refl M, r.lt h1, hvr⟩
      | ins k ids vs =>
        have h3 : Ev.Fzs.b Ev.Fz.err (fun r l1 => Ev.Fz.ok (.obj k ids r) l1) (Ev.fzs (Ev.fz f) vs (Ev.hdel l i)) = .ok w' l' := h2
        cases e1 : Ev.fzs (Ev.fz f) vs (Ev.hdel l i) with
        | err => rw [e1] at h3; cases h3
        | ok r1 l1 =>
          rw [e1] at h3
          cases h3
          obtain ⟨h0, dx, fs, hH, hk, hx⟩ := ro
          obtain ⟨M1, k1, k2, k3, k4, k5, k6⟩ := fzs_ok ih vs _ _ _ e1 _ _ gone.1 (RVs.mono gone.2 _ _ hx)
          have kk := k5.keep _ _ (show (M.less (Ev.hdel l i)).H (M.ρ i) = _ from hH) np
          exact ⟨M1, k1, k2, k3, k4, gone.2.trans k5, h0, M.ρ i, dx, fs, hvr, kk.2, kk.1, hk, k6⟩
    | non => cases h; exact ⟨M, rfl, rfl, rfl, r, Ext.refl M, hv⟩
    | bl b => cases h; exact ⟨M, rfl, rfl, rfl, r, Ext.refl M, hv⟩
    | nat b => cases h; exact ⟨M, rfl, rfl, rfl, r, Ext.refl M, hv⟩
    | str b => cases h; exact ⟨M, rfl, rfl, rfl, r, Ext.refl M, hv⟩
    | wtup b => cases h; exact ⟨M, rfl, rfl, rfl, r, Ext.refl M, hv⟩
    | lst b => cases h; exact ⟨M, rfl, rfl, rfl, r, Ext.refl M, hv⟩
    | dct t ks vs =>
      have h1 : Ev.Fzs.b Ev.Fz.err (fun r l1 => Ev.Fz.ok (.dct t ks r) l1) (Ev.fzs (Ev.fz f) vs l) = .ok w' l' := h
      cases e1 : Ev.fzs (Ev.fz f) vs l with
      | err => rw [e1] at h1; cases h1
      | ok r1 l1 =>
        rw [e1] at h1
        cases h1
        cases t with
        | false =>
          obtain ⟨a, ha, hp, kvs, hH, hk, hx⟩ := hv
          obtain ⟨M1, k1, k2, k3, k4, k5, k6⟩ := fzs_ok ih vs l _ _ e1 M _ r hx
          have kk := rd_keep k5.toExt0 hp hH
          exact ⟨M1, k1, k2, k3, k4, k5, a, ha, kk.2, kvs, kk.1, hk, k6⟩
        | true =>
          obtain ⟨a, ha, hp, kvs, hH, hk, hx⟩ := hv
          obtain ⟨M1, k1, k2, k3, k4, k5, k6⟩ := fzs_ok ih vs l _ _ e1 M _ r hx
          have kk := rd_keep k5.toExt0 hp hH
          exact ⟨M1, k1, k2, k3, k4, k5, a, ha, kk.2, kvs, kk.1, hk, k6⟩
    | obj t b d => cases h; exact ⟨M, rfl, rfl, rfl, r, Ext.refl M, hv⟩
    | rng b => cases h; exact ⟨M, rfl, rfl, rfl, r, Ext.refl M, hv⟩
theorem drop_ok {M : Ms} {l : Hl} (r : Rep c M l) (m : Nat) : Rep c (M.less (Ev.hdrop l m)) (Ev.hdrop l m) ∧ Ext M (M.less (Ev.hdrop l m)) :=
  r.sub (hat_drop m 0 r.dsc).2 fun j o e => (hat_drop m j r.dsc).1 o e
/-- what a def hands back -/
theorem handed_ok {mode n0 : Nat} {w w' : Ev.W} {n n' : Nat} {l l' : Hl} (h : Ev.handed mode n0 w n l = .ok w' n' l') {M : Ms} {v : V} (hn : M.n = n) (r : Rep c M l) (hv : RV c M w v) :
    ∃ M', M'.H = M.H ∧ M'.n = n' ∧ Rep c M' l' ∧ Ext M M' ∧ RV c M' w' v := by
  match mode, h with
  | 0, h => cases h; exact ⟨M, rfl, hn, r, Ext.refl M, hv⟩
  | 1, h =>
    cases h
    obtain ⟨k1, k2⟩ := drop_ok r n0
    exact ⟨M.less (Ev.hdrop l n0), rfl, hn, k1, k2, RV.mono k2 _ _ hv⟩
  | m + 2, h =>
    have h1 : Ev.Fz.b Rs.err (fun x l1 => Rs.ok x n (Ev.hdrop l1 n0)) (Ev.fz 8 w l) = .ok w' n' l' := h
    cases e1 : Ev.fz 8 w l with
    | err => rw [e1] at h1; cases h1
    | ok x l1 =>
      rw [e1] at h1
      cases h1
      obtain ⟨M1, k1, k2, k3, k4, k5, k6⟩ := fz_ok 8 w l _ _ e1 M v r hv
      obtain ⟨m1, m2⟩ := drop_ok k4 n0
      exact ⟨M1.less (Ev.hdrop l1 n0), k1, k2.trans hn, m1, k5.trans m2, RV.mono m2 _ _ k6⟩
end
/-! ### arguments -/
section
variable {X : Cx} {c : Cn} {cl : CallT} {a b d : Expr} {ma mb md : Ev.D} {es : List Expr} {mr : Ev.A} {pos : Pos}
theorem ca_nil : PA X [] (tA c cl Ev.aNil) := pa_imp pa_nil fun σ H Q ⟨M, l, s, eH, r, sl, w, n', l', e, k⟩ => by
  subst eH
  cases e
  exact k M [] rfl r (Ext.refl M) rfl
theorem ca_cons (ha : PE X a (tM c cl ma)) (hr : PA X es (tA c cl mr)) (hs : starEach (a :: es) X.env = (false, eval a X.env) :: starEach es X.env := by rfl) : PA X (a :: es) (tA c cl (Ev.aCons ma mr)) :=
  pa_imp (pa_cons ha hr hs) fun σ H Q ⟨M, l, s, eH, r, sl, w, n', l', e, k⟩ => by
    subst eH
    obtain ⟨x, n1, l1, e1, e2⟩ := Rs.ba_ok e
    obtain ⟨xs, n2, l2, e3, e4⟩ := Ra.ba_ok e2
    cases e4
    exact tM.mk r sl e1 fun M1 v en r1 x1 rx => tA.mk r1 (sl.mono x1) (by rw [en]; exact e3) fun M2 vs en2 r2 x2 rxs => k M2 (v :: vs) en2 r2 (x1.trans x2) ⟨v, vs, rfl, RV.mono x2 _ _ rx, rxs⟩
/-- so many arguments -/
def LenA (m : Ev.A) (k : Nat) : Prop := ∀ cl s n l ws n' l', m cl s n l = .ok ws n' l' → ws.length = k
theorem lenA_nil : LenA Ev.aNil 0 := fun cl s n l ws n' l' e => by cases e; rfl
theorem lenA_cons {m : Ev.A} {k : Nat} (h : LenA m k) : LenA (Ev.aCons ma m) (k + 1) := fun cl s n l ws n' l' e => by
  obtain ⟨x, n1, l1, e1, e2⟩ := Rs.ba_ok e
  obtain ⟨xs, n2, l2, e3, e4⟩ := Ra.ba_ok e2
  cases e4
  exact congrArg Nat.succ (h _ _ _ _ _ _ _ e3)
theorem few_ne {R : Type} {e k r : R} {ws : List Ev.W} (h : Ev.few e k ws = r) (ne : e ≠ r) : ws.length ≤ 100000 ∧ k = r := by
  obtain ⟨h1, h2⟩ := ite_ne h ne
  refine ⟨?_, h2⟩
  have := Nat.le_of_ble_eq_true h1
  rw [lenG_eq] at this
  omega
theorem line_of {n : Nat} (h : n ≤ 100000) : n < sizeLine := by rw [sizeLine_eq]; omega
/-! ### displays -/
theorem upd_at {H : Hp} {p : Addr} {u : HO} : upd H p u p = some u := upd_same
theorem ce_tup {x1} (h : PA X es (tA c cl mr)) : PE X (.Tuple es x1 pos) (tM c cl (Ev.eTup mr)) :=
  pe_imp (pe_tup h) fun σ H Q ⟨M, l, s, eH, r, sl, w, n', l', e, k⟩ => by
    subst eH
    obtain ⟨xs, n1, l1, e1, e2⟩ := Ra.b_ok e
    obtain ⟨hl, e3⟩ := few_ne e2 Rs.ne
    cases e3
    refine tA.mk r sl e1 fun M1 vs en r1 x1 rxs => ⟨?_, fun p hp => ?_⟩
    · rw [← rxs.length]
      exact Nat.le_of_lt (line_of hl)
    · obtain ⟨k1, k2, k3⟩ := r1.frozen (u := .tup vs) hp
      exact k { M1 with H := upd M1.H p (.tup vs) } _ en k1 (x1.trans k2) ⟨p, vs, rfl, k3, upd_same, RVs.mono k2 _ _ rxs⟩
theorem ce_lst (h : PA X es (tA c cl mr)) : PE X (.List es pos) (tM c cl (Ev.eLst mr)) :=
  pe_imp (pe_lst h) fun σ H Q ⟨M, l, s, eH, r, sl, w, n', l', e, k⟩ => by
    subst eH
    obtain ⟨xs, n1, l1, e1, e2⟩ := Ra.b_ok e
    obtain ⟨hl, e3⟩ := few_ne e2 Rs.ne
    cases e3
    refine tA.mk r sl e1 fun M1 vs en r1 x1 rxs => ⟨?_, fun p hp => ?_⟩
    · rw [← rxs.length]
      exact Nat.le_of_lt (line_of hl)
    · have x2 := r1.more (u := .lst vs) hp
      have r2 := r1.newLive (u := .lst vs) (o := .lst xs) hp ⟨vs, upd_same, RVs.mono x2 _ _ rxs⟩
      rw [en] at r2
      exact k (M1.more p (.lst vs)) _ (congrArg Nat.succ en) r2 (x1.trans x2) ⟨by rw [← en]; exact Nat.lt_succ_self _, by
        show V.ref p = V.ref (if n1 = M1.n then p else M1.ρ n1)
        rw [if_pos en.symm]⟩
theorem ce_lstF (h : PA X es (tA c cl mr)) : PE X (.List es pos) (tM c cl (Ev.eLstF mr)) :=
  pe_imp (pe_lst h) fun σ H Q ⟨M, l, s, eH, r, sl, w, n', l', e, k⟩ => by
    subst eH
    obtain ⟨xs, n1, l1, e1, e2⟩ := Ra.b_ok e
    obtain ⟨hl, e3⟩ := few_ne e2 Rs.ne
    cases e3
    refine tA.mk r sl e1 fun M1 vs en r1 x1 rxs => ⟨?_, fun p hp => ?_⟩
    · rw [← rxs.length]
      exact Nat.le_of_lt (line_of hl)
    · obtain ⟨k1, k2, k3⟩ := r1.frozen (u := .lst vs) hp
      exact k { M1 with H := upd M1.H p (.lst vs) } _ en k1 (x1.trans k2) ⟨p, vs, rfl, k3, upd_same, RVs.mono k2 _ _ rxs⟩
theorem new_live {o : Ev.O} {u : HO} {Q : VK} {M M1 : Ms} {n' : Nat} {l1 : Hl} {p : Addr} (k : ∀ (M' : Ms) (v : V), M'.n = n' → Rep c M' (.cons M1.n o l1) → Ext M M' → RV c M' (.ref M1.n) v → Q v M'.H) (r1 : Rep c M1 l1) (x1 : Ext M M1) (hp : M1.H p = none)
    (ho : Ext M1 (M1.more p u) → RO c (M1.more p u) o p) (hn : n' = M1.n + 1) : Q (.ref p) (upd M1.H p u) := by
  have x2 := r1.more (u := u) hp
  exact k (M1.more p u) _ hn.symm (r1.newLive (u := u) (o := o) hp (ho x2)) (x1.trans x2) ⟨Nat.lt_succ_self _, by
    show V.ref p = V.ref (if M1.n = M1.n then p else M1.ρ M1.n)
    rw [if_pos rfl]⟩
theorem ce_dctK : PE X (.Dict [] [] pos) (tM c cl (Ev.eDct false)) :=
  pe_imp pe_dnewK fun σ H Q ⟨M, l, s, eH, r, sl, w, n', l', e, k⟩ => by
    subst eH
    cases e
    exact fun p hp => new_live k r (Ext.refl M) hp (fun _ => ⟨[], upd_same, rfl, rfl⟩) rfl
theorem ce_dctT : PE X (.Dict [] [] pos) (tM c cl (Ev.eDct true)) :=
  pe_imp pe_dnewT fun σ H Q ⟨M, l, s, eH, r, sl, w, n', l', e, k⟩ => by
    subst eH
    cases e
    exact fun p hp => new_live k r (Ext.refl M) hp (fun _ => ⟨[], upd_same, rfl, rfl⟩) rfl
theorem tget_nil : ∀ f i : Nat, Ev.tget .nil f i = .un
  | 0, _ => rfl
  | _ + 1, _ => rfl
theorem ce_map : PE X (.Dict [] [] pos) (tM c cl Ev.eMap) :=
  pe_imp pe_dnewT fun σ H Q ⟨M, l, s, eH, r, sl, w, n', l', e, k⟩ => by
    subst eH
    cases e
    exact fun p hp => new_live k r (Ext.refl M) hp (fun _ => ⟨[], upd_same, Nat.le_refl _, fun i j _ _ => .inl ⟨tget_nil _ _, rfl⟩⟩) rfl
/-! ### instances: attributes, properties -/
theorem insK_ok {R : Type} {e r : R} {k : Nat → List Nat → List Ev.W → R} {w : Ev.W} {l : Hl} (h : Ev.insK e k w l = r) (ne : e ≠ r) : ∃ kk ids vs, k kk ids vs = r ∧ ∀ (M : Ms) (v : V), Rep c M l → RV c M w v →
    kk < c.nc ∧ ∃ a dx fs, v = .ref a ∧ M.H a = some (.ins (c.CA kk) dx fs) ∧ fs.map (·.1) = ids.map c.FN ∧ RVs c M vs (fs.map (·.2)) := by
  cases w with
  | obj kk ids vs => exact ⟨kk, ids, vs, h, fun M v _ ⟨h0, a, dx, fs, h1, _, h2, h3, h4⟩ => ⟨h0, a, dx, fs, h1, h2, h3, h4⟩⟩
  | ref i =>
    obtain ⟨o, h1, h2⟩ := hget_ne (show Ev.hget e (Ev.oIns e k) l i = r from h) ne
    obtain ⟨kk, ids, vs, rfl, h3⟩ := oIns_ne h2 ne
    refine ⟨kk, ids, vs, h3, fun M v rp ⟨_, hv⟩ => ?_⟩
    obtain ⟨h0, dx, fs, h4, h5, h6⟩ := rp.obj i _ h1
    exact ⟨h0, M.ρ i, dx, fs, hv, h4, h5, h6⟩
  | _ => exact absurd h ne
theorem fget_ok {R : Type} {e r : R} {k : Ev.W → R} {f : Nat} (ne : e ≠ r) : ∀ {ids : List Nat} {vs : List Ev.W}, Ev.fget e k f ids vs = r → ∃ w, k w = r ∧ ∀ (M : Ms) (fs : List (Str × V)), fs.map (·.1) = ids.map c.FN → RVs c M vs (fs.map (·.2)) → ∃ x, fs.lookup (c.FN f) = some x ∧ RV c M w x
  | [], vs, h => absurd h ne
  | j :: ids, [], h => absurd h ne
  | j :: ids, u :: vs, h => by
    have h1 : Bool.rec (motive := fun _ => R) (Ev.fget e k f ids vs) (k u) (Nat.beq f j) = r := h
    cases q : Nat.beq f j with
    | true =>
      rw [q] at h1
      refine ⟨u, h1, fun M fs e1 e2 => ?_⟩
      cases fs with
      | nil => cases e1
      | cons p fs =>
        injection e1 with e3 e4
        obtain ⟨x, xs, e5, e6, e7⟩ := e2
        injection e5 with e8 e9
        have e8' : p.2 = x := e8
        refine ⟨p.2, ?_, by rw [e8']; exact e6⟩
        obtain ⟨p1, p2⟩ := p
        rw [List.lookup_cons]
        rw [show p1 = c.FN j from e3, nbq.mp q]
        simp
    | false =>
      rw [q] at h1
      obtain ⟨w, h2, h3⟩ := fget_ok ne h1
      refine ⟨w, h2, fun M fs e1 e2 => ?_⟩
      cases fs with
      | nil => cases e1
      | cons p fs =>
        injection e1 with e3 e4
        obtain ⟨x, xs, e5, e6, e7⟩ := e2
        injection e5 with e8 e9
        obtain ⟨y, hy, ry⟩ := h3 M fs e4 (by rw [show fs.map (·.2) = xs from e9]; exact e7)
        refine ⟨y, ?_, ry⟩
        obtain ⟨p1, p2⟩ := p
        rw [List.lookup_cons]
        have nb : (c.FN f == p1) = false := by
          cases z : c.FN f == p1 with
          | false => rfl
          | true =>
            have z2 := c.fj f j ((beq_iff_eq.mp z).trans e3)
            rw [z2, nbq.mpr rfl] at q
            cases q
        rw [nb]
        exact hy
/-- what the program's classes are -/
structure ClsOk (c : Cn) (nf : Nat) : Prop where
  cls : ∀ k, k < c.nc → Cls c.K (c.CA k)
  nat : ∀ k f, k < c.nc → f < nf → NoAttr c.K (c.CA k) (c.FN f)
theorem ce_attr {nf f : Nat} {fn : Str} (hK : X.K = c.K) (T : ClsOk c nf) (hf : f < nf) (hn : c.FN f = fn) (ha : PE X a (tM c cl ma)) (hb : attributeBase a fn X.env (eval a X.env) = eval a X.env := by rfl) : PE X (.Attribute a fn pos) (tM c cl (Ev.eAttr f ma)) :=
  pe_imp (pe_fld ha hb) fun σ H Q ⟨M, l, s, eH, r, sl, w, n', l', e, k⟩ => by
    subst eH
    obtain ⟨x, n1, l1, e1, e2⟩ := Rs.b_ok e
    obtain ⟨kk, ids, vs, e3, z⟩ := insK_ok (c := c) e2 Rs.ne
    obtain ⟨u, e4, y⟩ := fget_ok (c := c) Rs.ne e3
    cases e4
    refine tM.mk r sl e1 fun M1 v en r1 x1 rx => ?_
    obtain ⟨h0, p, dx, fs, h1, h2, h3, h4⟩ := z M1 v r1 rx
    obtain ⟨q, h5, h6⟩ := y M1 fs h3 h4
    exact ⟨p, c.CA kk, dx, fs, q, h1, h2, by rw [hK]; exact T.cls kk h0, by rw [hK, ← hn]; exact T.nat kk f h0 hf, by rw [← hn]; exact h5, k M1 q en r1 x1 h6⟩
end
/-! ### calls -/
/-- a def as its callers know it -/
structure DefAt (g : Gb) (h : List Ev.W → Nat → Hl → Rs) (k np : Nat) (fa : Addr) : Prop where
  ok : ∃ (fd : FuncData) (ps : List Str), FnOk g.P g.w g.c.K g.mg g.base CX0 k fa fd ps (spM g.c np h) ∧ Binds g.c.K fd ps []
  kp : PySem.W.keepIn g.c.K (.ref fa) = true
section
variable {g : Gb} {X : Cx} {N : List Str} {sc : Scope} {F : Str → Bool} {k : Nat} {cl : CallT} {a : Expr} {es : List Expr} {ma : Ev.D} {mr : Ev.A} {pos p apos : Pos} {x m : Str}
theorem Ctx.fn_ok (C : Ctx g X N sc F k) {j np : Nat} {h : List Ev.W → Nat → Hl → Rs} {fa : Addr} (D : DefAt g h j np fa) : ∃ (fd : FuncData) (ps : List Str), FnOk X.prog X.w X.K X.mg X.base CX0 j fa fd ps (spM g.c np h) ∧ Binds X.K fd ps [] := by
  obtain ⟨fd, ps, h1, h2⟩ := D.ok
  exact ⟨fd, ps, by rw [C.pr, C.w, C.K, C.mg, C.base]; exact h1, by rw [C.K]; exact h2⟩
theorem ce_call {f np : Nat} {fa : Addr} (C : Ctx g X N sc F k) (D : DefAt g (cl f) (k + 2) np fa) (hg : Gl X x) (hm : g.mg x = some (.ref fa)) (ha : PA X (a :: es) (tA g.c cl mr)) (hl : LenA mr np)
    (hdb : (x == ("__debug__" : Str)) = false := by decide) (he : starEach (a :: es) X.env = (false, eval a X.env) :: starEach es X.env := by rfl) (hpl : (backTo pos (starEach es X.env)).any (·.1) = false := by rfl) :
    PE X (.Call (.Name x p) (a :: es) [] pos) (tM g.c cl (Ev.eCall f mr)) := by
  obtain ⟨fd, ps, h1, h2⟩ := C.fn_ok D
  refine pe_imp (pe_call h1 C.room hg (by rw [C.mg]; exact hm) (by rw [C.K]; exact D.kp) h2 .nil pass0 ha hdb he hpl) fun σ H Q ⟨M, l, s, eH, r, sl, w, n', l', e, kk⟩ => ?_
  subst eH
  obtain ⟨xs, n1, l1, e1, e2⟩ := Ra.b_ok e
  refine tA.mk r sl e1 fun M1 vs en r1 x1 rxs => ?_
  rw [List.append_nil]
  refine ⟨by rw [← rxs.length]; exact hl _ _ _ _ _ _ _ e1, M1, l1, xs, rfl, r1, rxs, w, n', l', by rw [en]; exact e2, fun M' v h1 h2 h3 h4 => kk M' v h1 h2 (x1.trans h3) h4⟩
theorem look_mem {e kk : Nat} : ∀ {t : List (Nat × Nat)}, Ev.look e t kk = e ∨ (kk, Ev.look e t kk) ∈ t
  | [] => .inl rfl
  | q :: t => by
    show Bool.rec (motive := fun _ => Nat) (Ev.look e t kk) q.2 (Nat.beq kk q.1) = e ∨ (kk, Bool.rec (motive := fun _ => Nat) (Ev.look e t kk) q.2 (Nat.beq kk q.1)) ∈ q :: t
    cases z : Nat.beq kk q.1 with
    | true =>
      refine .inr ?_
      rw [nbq.mp z]
      exact List.mem_cons_self
    | false => exact (look_mem (t := t)).imp id (List.mem_cons_of_mem _)
/-- what a method's name stands for, by the class -/
def MetAt (g : Gb) (cl : CallT) (k np : Nat) (m : Str) (t : List (Nat × Nat)) : Prop := ∀ q ∈ t, ∃ fa, Cls g.c.K (g.c.CA q.1) ∧ Meth g.c.K (g.c.CA q.1) m fa ∧ DefAt g (cl q.2) k np fa
theorem lookup_none {c : Cn} {fs : List (Str × V)} {ids : List Nat} {m : Str} (h : fs.map (·.1) = ids.map c.FN) (hm : ∀ i, c.FN i ≠ m) : fs.lookup m = none := by
  induction fs generalizing ids with
  | nil => rfl
  | cons p fs ih =>
    cases ids with
    | nil => cases h
    | cons j ids =>
      injection h with h1 h2
      obtain ⟨p1, p2⟩ := p
      rw [List.lookup_cons]
      have nb : (m == p1) = false := by
        cases z : m == p1 with
        | false => rfl
        | true => exact absurd ((beq_iff_eq.mp z).trans h1).symm (hm j)
      rw [nb]
      exact ih h2
theorem ce_meth {np : Nat} {t : List (Nat × Nat)} {pl : Sem Bool} (C : Ctx g X N sc F k) (T : MetAt g cl (k + 2) (np + 1) m t) (h0 : ∀ ws n l, cl 0 ws n l = .err) (hm : ∀ i, g.c.FN i ≠ m) (ho : PE X a (tM g.c cl ma)) {e : Expr} (ha : PA X (e :: es) (tA g.c cl mr)) (hl : LenA mr np)
    (hst : starEach (e :: es) X.env = (false, eval e X.env) :: starEach es X.env := by rfl) (hpl : (backTo pos (starEach es X.env)).any (·.1) = false := by rfl)
    (ht : eval (.Call (.Attribute a m apos) (e :: es) [] pos) X.env = (do
      let ov ← eval a X.env
      standAt apos.atName
      let (f, first) ← holding [ov] (getMethod ov m pl)
      callWith pos f first (backTo pos (starEach (e :: es) X.env)) (backToKw pos (keywordEach [] X.env))) := by rfl) :
    PE X (.Call (.Attribute a m apos) (e :: es) [] pos) (tM g.c cl (Ev.eMeth t ma mr)) := by
  have H1 : ∀ q : { q // q ∈ t }, PE X (.Call (.Attribute a m apos) (e :: es) [] pos) (tMeth (g.c.CA q.1.1) m (spM g.c (np + 1) (cl q.1.2)) [] E0 (tM g.c cl ma) (tA g.c cl mr)) := fun q => by
    obtain ⟨fa, c1, c2, c3⟩ := T q.1 q.2
    obtain ⟨fd, ps, f1, f2⟩ := C.fn_ok c3
    exact pe_meth ho (by rw [C.K]; exact c1) (by rw [C.K]; exact c2) f1 C.room f2 .nil pass0 ha hst hpl ht
  refine pe_imp (pe_any H1) fun σ H Q ⟨M, l, s, eH, r, sl, w, n', l', ev, kk⟩ => ?_
  subst eH
  obtain ⟨x, n1, l1, e1, e2⟩ := Rs.b_ok ev
  obtain ⟨kc, ids, vs, e3, z⟩ := insK_ok (c := g.c) e2 Rs.ne
  obtain ⟨xs, n2, l2, e4, e5⟩ := Ra.b_ok e3
  rcases look_mem (e := 0) (kk := kc) (t := t) with y | y
  · rw [y, h0] at e5
    cases e5
  refine ⟨⟨_, y⟩, tM.mk r sl e1 fun M1 v en r1 x1 rx => ?_⟩
  obtain ⟨hc, p, dx, fs, h1, h2, h3, h4⟩ := z M1 v r1 rx
  refine ⟨p, dx, fs, h1, h2, lookup_none h3 hm, tA.mk r1 (sl.mono x1) (by rw [en]; exact e4) fun M2 us en2 r2 x2 rxs => ?_⟩
  rw [List.append_nil]
  refine ⟨?_, M2, l2, x :: xs, rfl, r2, ⟨v, us, rfl, RV.mono x2 _ _ rx, rxs⟩, w, n', l', by rw [en2]; exact e5, fun M' v h1 h2 h3 h4 => kk M' v h1 h2 ((x1.trans x2).trans h3) h4⟩
  show us.length + 1 = np + 1
  rw [← rxs.length, hl _ _ _ _ _ _ _ e4]
theorem ce_meth0 {t : List (Nat × Nat)} {pl : Sem Bool} (C : Ctx g X N sc F k) (T : MetAt g cl (k + 2) 1 m t) (h0 : ∀ ws n l, cl 0 ws n l = .err) (hm : ∀ i, g.c.FN i ≠ m) (ho : PE X a (tM g.c cl ma))
    (ht : eval (.Call (.Attribute a m apos) [] [] pos) X.env = (do
      let ov ← eval a X.env
      standAt apos.atName
      let (f, first) ← holding [ov] (getMethod ov m pl)
      callWith pos f first (backTo pos (starEach [] X.env)) (backToKw pos (keywordEach [] X.env))) := by rfl) :
    PE X (.Call (.Attribute a m apos) [] [] pos) (tM g.c cl (Ev.eMeth t ma Ev.aNil)) := by
  have H1 : ∀ q : { q // q ∈ t }, PE X (.Call (.Attribute a m apos) [] [] pos) (tMeth (g.c.CA q.1.1) m (spM g.c 1 (cl q.1.2)) [] E0 (tM g.c cl ma) tNil) := fun q => by
    obtain ⟨fa, c1, c2, c3⟩ := T q.1 q.2
    obtain ⟨fd, ps, f1, f2⟩ := C.fn_ok c3
    exact pe_meth0 ho (by rw [C.K]; exact c1) (by rw [C.K]; exact c2) f1 C.room f2 .nil pass0 ht
  refine pe_imp (pe_any H1) fun σ H Q ⟨M, l, s, eH, r, sl, w, n', l', ev, kk⟩ => ?_
  subst eH
  obtain ⟨x, n1, l1, e1, e2⟩ := Rs.b_ok ev
  obtain ⟨kc, ids, vs, e3, z⟩ := insK_ok (c := g.c) e2 Rs.ne
  have e5 : cl (Ev.look 0 t kc) [x] n1 l1 = .ok w n' l' := e3
  rcases look_mem (e := 0) (kk := kc) (t := t) with y | y
  · rw [y, h0] at e5
    cases e5
  refine ⟨⟨_, y⟩, tM.mk r sl e1 fun M1 v en r1 x1 rx => ?_⟩
  obtain ⟨hc, p, dx, fs, h1, h2, h3, h4⟩ := z M1 v r1 rx
  refine ⟨p, dx, fs, h1, h2, lookup_none h3 hm, ?_⟩
  exact ⟨rfl, M1, l1, [x], rfl, r1, ⟨v, [], rfl, rx, rfl⟩, w, n', l', by rw [en]; exact e5, fun M' v h1 h2 h3 h4 => kk M' v h1 h2 (x1.trans h3) h4⟩
/-- a new instance -/
theorem ce_make {fns : Nat → Ev.Fn} {f kc init np : Nat} {pre frz : Bool} {fa : Addr} (hf : fns f = .mk kc init pre frz) (C : Ctx g X N sc F k) (D : ∀ j, k = j + 1 → DefAt g (Ev.run fns j init) (j + 2) (np + 1) fa) (hc : kc < g.c.nc) (Mk0 : Mk g.c.K (g.c.CA kc) fa) (hg : Gl X x) (hm : g.mg x = some (.ref (g.c.CA kc)))
    (ha : PA X (a :: es) (tA g.c (Ev.run fns k) mr)) (hl : LenA mr np) (hdb : (x == ("__debug__" : Str)) = false := by decide) (he : starEach (a :: es) X.env = (false, eval a X.env) :: starEach es X.env := by rfl) (hpl : (backTo pos (starEach es X.env)).any (·.1) = false := by rfl) :
    PE X (.Call (.Name x p) (a :: es) [] pos) (tM g.c (Ev.run fns k) (Ev.eCall f mr)) := by
  cases k with
  | zero =>
    refine ⟨fun pins s σ H Q I ⟨M, l, ss, eH, r, sl, w, n', l', e, kk⟩ => ?_⟩
    obtain ⟨xs, n1, l1, e1, e2⟩ := Ra.b_ok e
    cases e2
  | succ j =>
    obtain ⟨fd, ps, h1, h2⟩ := C.fn_ok (D j rfl)
    refine pe_imp (pe_make (C := g.c.CA kc) (by rw [C.K]; exact Mk0) h1 C.room hg (by rw [C.mg]; exact hm) h2 .nil pass0 ha hdb he hpl) fun σ H Q ⟨M, l, s, eH, r, sl, w, n', l', e, kk⟩ => ?_
    subst eH
    obtain ⟨xs, n1, l1, e1, e2⟩ := Ra.b_ok e
    refine tA.mk r sl e1 fun M1 vs en r1 x1 rxs y dx hy hdx hne => ?_
    rw [List.append_nil]
    have e3 : Ev.Fn.rec (motive := fun _ => Rs) (fun pad mode b => So.rec (motive := fun _ => Rs) .err (fun _ n2 l2 => Ev.handed mode n1 .non n2 l2) (fun w n2 l2 => Ev.handed mode n1 w n2 l2) (fun _ _ _ => .err) (fun _ _ _ => .err) (b (Ev.run fns j) (Ev.app xs pad) n1 l1))
      (fun c init pre frz => (Bool.rec (motive := fun _ => Ev.Fzs) (.ok xs l1) (Ev.fzs (Ev.fz 8) xs l1) pre).b .err fun ws l =>
        (Ev.run fns j init (.ref n1 :: ws) (Nat.add n1 1) (.cons n1 (.ins c [] []) l)).b fun v n2 l2 => Bool.rec (motive := fun _ => Rs) .err (Bool.rec (motive := fun _ => Rs) (.ok (.ref n1) n2 l2) ((Ev.fz 8 (.ref n1) l2).b .err fun x l3 => .ok x n2 l3) frz) (Ev.isNon v))
      (fns f) = .ok w n' l' := e2
    rw [hf] at e3
    -- the arguments, frozen or as they are
    have hpre : ∃ ws la, (Bool.rec (motive := fun _ => Ev.Fzs) (.ok xs l1) (Ev.fzs (Ev.fz 8) xs l1) pre) = Ev.Fzs.ok ws la ∧ ∃ M2, M2.H = M1.H ∧ M2.n = M1.n ∧ M2.ρ = M1.ρ ∧ Rep g.c M2 la ∧ Ext M1 M2 ∧ RVs g.c M2 ws vs := by
      cases pre with
      | false => exact ⟨xs, l1, rfl, M1, rfl, rfl, rfl, r1, Ext.refl M1, rxs⟩
      | true =>
        have e4 : Ev.Fzs.b Rs.err _ (Ev.fzs (Ev.fz 8) xs l1) = Rs.ok w n' l' := e3
        cases q : Ev.fzs (Ev.fz 8) xs l1 with
        | err => rw [q] at e4; cases e4
        | ok ws la =>
          refine ⟨ws, la, rfl, ?_⟩
          exact fzs_ok (fz_ok 8) xs l1 ws la q M1 vs r1 rxs
    obtain ⟨ws, la, q1, M2, m1, m2, m3, r2, x2, rws⟩ := hpre
    have e4 : Ev.Fzs.b Rs.err (fun ws l => (Ev.run fns j init (.ref n1 :: ws) (Nat.add n1 1) (.cons n1 (.ins kc [] []) l)).b fun v n2 l2 => Bool.rec (motive := fun _ => Rs) .err (Bool.rec (motive := fun _ => Rs) (.ok (.ref n1) n2 l2) (Ev.Fz.b Rs.err (fun x l3 => .ok x n2 l3) (Ev.fz 8 (.ref n1) l2)) frz) (Ev.isNon v))
      (Bool.rec (motive := fun _ => Ev.Fzs) (.ok xs l1) (Ev.fzs (Ev.fz 8) xs l1) pre) = .ok w n' l' := e3
    rw [q1] at e4
    obtain ⟨v0, n2, l2, e5, e6⟩ := Rs.b_ok (show ((Ev.run fns j init (.ref n1 :: ws) (Nat.add n1 1) (.cons n1 (.ins kc [] []) la)).b fun v n2 l2 => Bool.rec (motive := fun _ => Rs) .err (Bool.rec (motive := fun _ => Rs) (.ok (.ref n1) n2 l2) (Ev.Fz.b Rs.err (fun x l3 => .ok x n2 l3) (Ev.fz 8 (.ref n1) l2)) frz) (Ev.isNon v)) = .ok w n' l' from e4)
    obtain ⟨e7, e8⟩ := ite_ne e6 Rs.ne
    -- its dict, the instance itself
    have hdx2 : M2.H dx = none := by rw [m1]; exact hdx
    have hy2 : M2.H y = none := by rw [m1]; exact hy
    obtain ⟨r3, x3, _⟩ := r2.frozen (u := .own y) hdx2
    have hy3 : ({ M2 with H := upd M2.H dx (.own y) } : Ms).H y = none := by
      show upd M2.H dx (.own y) y = none
      rw [upd_ne (fun z => hne z.symm)]
      exact hy2
    have x4 := r3.more (u := .ins (g.c.CA kc) dx []) hy3
    have r4 := r3.newLive (u := .ins (g.c.CA kc) dx []) (o := .ins kc [] []) hy3 ⟨hc, dx, [], upd_same, rfl, rfl⟩
    have en2 : M2.n = n1 := m2.trans en
    refine ⟨?_, (({ M2 with H := upd M2.H dx (.own y) } : Ms).more y (.ins (g.c.CA kc) dx [])), .cons n1 (.ins kc [] []) la, .ref n1 :: ws, ?_, ?_, ⟨.ref y, vs, rfl, ⟨?_, ?_⟩, RVs.mono (x3.trans x4) _ _ rws⟩, v0, n2, l2, ?_, fun M' v h1 h2 h3 h4 => ?_⟩
    · show vs.length + 1 = np + 1
      rw [← rxs.length, hl _ _ _ _ _ _ _ e1]
    · show upd (upd M2.H dx (.own y)) y (.ins (g.c.CA kc) dx []) = _
      rw [m1]
    · rw [← en2]
      exact r4
    · show n1 < M2.n + 1
      rw [en2]
      exact Nat.lt_succ_self _
    · show V.ref y = V.ref (if n1 = M2.n then y else M2.ρ n1)
      rw [if_pos en2.symm]
    · show Ev.run fns j init (.ref n1 :: ws) (M2.n + 1) _ = _
      rw [en2]
      exact e5
    · have hv : v = .non := by
        have z := isNon_ok h4
        rw [e7] at z
        exact of_decide_eq_true z
      refine ⟨hv, ?_⟩
      have xx : Ext M M' := ((((x1.trans x2).trans x3).trans x4).trans h3)
      have ry : RV g.c M' (.ref n1) (.ref y) := ⟨by
        have := h3.n
        show n1 < M'.n
        have z : M2.n + 1 ≤ M'.n := this
        rw [en2] at z
        exact z, by
        rw [h3.ρ n1 (by show n1 < M2.n + 1; rw [en2]; exact Nat.lt_succ_self _)]
        show V.ref y = V.ref (if n1 = M2.n then y else M2.ρ n1)
        rw [if_pos en2.symm]⟩
      cases frz with
      | false =>
        cases e8
        exact kk M' _ h1 h2 xx ry
      | true =>
        have e9 : Ev.Fz.b Rs.err (fun x l3 => Rs.ok x n2 l3) (Ev.fz 8 (.ref n1) l2) = .ok w n' l' := e8
        cases q : Ev.fz 8 (.ref n1) l2 with
        | err => rw [q] at e9; cases e9
        | ok u l3 =>
          rw [q] at e9
          cases e9
          obtain ⟨M3, k1, k2, k3, k4, k5, k6⟩ := fz_ok 8 _ _ _ _ q M' _ h2 ry
          rw [← k1]
          exact kk M3 _ (k2.trans h1) k4 (xx.trans k5) k6
/-- a property that hands back an attribute -/
theorem ce_prop {kc f : Nat} {fn : Str} {pa ga : Addr} {fd : FuncData} (C : Ctx g X N sc F k) (hcl : Cls g.c.K (g.c.CA kc)) (hp : PropOf g.c.K (g.c.CA kc) m pa ga) (G : FnOk g.P g.w g.c.K g.mg g.base CX0 1 ga fd ["self"] (getSp (g.c.CA kc) fn)) (B : Binds g.c.K fd ["self"] []) (hn : g.c.FN f = fn)
    (ha : PE X a (tM g.c cl ma)) (hab : attributeBase a m X.env (eval a X.env) = eval a X.env := by rfl) : PE X (.Attribute a m pos) (tM g.c cl (Ev.eProp kc f ma)) := by
  have G' : FnOk X.prog X.w X.K X.mg X.base CX0 1 ga fd ["self"] (getSp (g.c.CA kc) fn) := by rw [C.pr, C.w, C.K, C.mg, C.base]; exact G
  refine pe_imp (pe_prop (k := 1) ha (by rw [C.K]; exact hcl) (by rw [C.K]; exact hp) G' (C.room.mono (Nat.le_add_left 2 k)) (by rw [C.K]; exact B) .nil pass0 hab) fun σ H Q ⟨M, l, s, eH, r, sl, w, n', l', e, kk⟩ => ?_
  subst eH
  obtain ⟨x, n1, l1, e1, e2⟩ := Rs.b_ok e
  obtain ⟨k2, ids, vs, e3, z⟩ := insK_ok (c := g.c) e2 Rs.ne
  obtain ⟨e4, e5⟩ := ite_ne e3 Rs.ne
  obtain ⟨u, e6, y⟩ := fget_ok (c := g.c) Rs.ne e5
  cases e6
  refine tM.mk r sl e1 fun M1 v en r1 x1 rx => ?_
  obtain ⟨h0, p, dx, fs, h1, h2, h3, h4⟩ := z M1 v r1 rx
  obtain ⟨q, h5, h6⟩ := y M1 fs h3 h4
  rw [nbq.mp e4] at h2
  exact ⟨p, dx, fs, h1, h2, p, dx, fs, q, rfl, h2, by rw [← hn]; exact h5, kk M1 q en r1 x1 h6⟩
end
end Sd
end

section
set_option Elab.async false
set_option linter.all false
set_option maxRecDepth 100000
/-! Sd3: keys of dicts, items, slices, in, == of tuples, joined lists and tuples. -/
namespace Sd
open PySem PySem.Spec PyProof.Rows L2
open Ev (Hl Rs Rb Ra So Sr CallT)
/-! ### keys -/
theorem natK_false {k : Nat → Bool} {w : Ev.W} (h : Ev.natK false k w = true) : ∃ i, w = .nat i ∧ k i = true := natK_ne h (fun z => nomatch z)
mutual
theorem keq_eq : ∀ (x y : Ev.W), Ev.keq x y = true → x = y
  | .nat i, y, h => by
    obtain ⟨j, rfl, h2⟩ := natK_false (show Ev.natK false (fun j => Nat.beq i j) y = true from h)
    rw [nbq.mp h2]
  | .str i, y, h => by
    cases y with
    | str j => rw [nbq.mp (show Nat.beq i j = true from h)]
    | _ => cases h
  | .tup l, y, h => by
    cases y with
    | tup q => rw [keqs_eq l q h]
    | _ => cases h
  | .un, _, h => by cases h
  | .non, _, h => by cases h
  | .bl _, _, h => by cases h
  | .wtup _, _, h => by cases h
  | .lst _, _, h => by cases h
  | .dct _ _ _, _, h => by cases h
  | .obj _ _ _, _, h => by cases h
  | .ref _, _, h => by cases h
  | .rng _, _, h => by cases h
theorem keqs_eq : ∀ (l q : List Ev.W), Ev.keq (.tup l) (.tup q) = true → l = q
  | [], q, h => by
    cases q with
    | nil => rfl
    | cons _ _ => cases h
  | x :: l, [], h => by cases h
  | x :: l, y :: q, h => by
    have h1 : Bool.rec (motive := fun _ => Bool) false (Ev.keq (.tup l) (.tup q)) (Ev.keq x y) = true := h
    obtain ⟨h2, h3⟩ := ite_ne h1 (fun z => nomatch z)
    rw [keq_eq x y h2, keqs_eq l q h3]
end
section
variable {c : Cn}
theorem keyOf_str (i : Nat) : keyOf c (.str i) = if i < c.ns ∧ Ev.plainS i = true then some (.inr (c.ν i)) else none := rfl
theorem sep_eq (i j : Nat) : Ev.sep i j = true ↔ 4 ≤ i ∨ 4 ≤ j ∨ i / 2 = j / 2 := by
  unfold Ev.sep
  cases h1 : Nat.ble 4 i with
  | true => exact ⟨fun _ => .inl (Nat.le_of_ble_eq_true h1), fun _ => rfl⟩
  | false =>
    have n1 : ¬ 4 ≤ i := fun z => by rw [Nat.ble_eq_true_of_le z] at h1; cases h1
    cases h2 : Nat.ble 4 j with
    | true => exact ⟨fun _ => .inr (.inl (Nat.le_of_ble_eq_true h2)), fun _ => rfl⟩
    | false =>
      have n2 : ¬ 4 ≤ j := fun z => by rw [Nat.ble_eq_true_of_le z] at h2; cases h2
      constructor
      · intro h
        exact .inr (.inr (nbq.mp h))
      · intro h
        rcases h with h | h | h
        · exact absurd h n1
        · exact absurd h n2
        · exact nbq.mpr h
theorem plain_eq (i : Nat) : Ev.plainS i = true ↔ ¬ i / 2 = 1 := by
  unfold Ev.plainS
  cases h : Nat.beq (Nat.div i 2) 1 with
  | true => exact ⟨fun z => (Bool.noConfusion z), fun z => absurd (nbq.mp h) z⟩
  | false =>
    refine ⟨fun _ z => ?_, fun _ => rfl⟩
    rw [nbq.mpr (show Nat.div i 2 = 1 from z)] at h
    cases h
theorem plain_sep {i j : Nat} (hi : Ev.plainS i = true) (hj : Ev.plainS j = true) : Ev.sep i j = true := by
  rw [plain_eq] at hi hj
  rw [sep_eq]
  omega
theorem keyOf_inj {x y : Ev.W} {a : Key} (hx : keyOf c x = some a) (hy : keyOf c y = some a) : x = y := by
  cases x with
  | nat i =>
    cases hx
    cases y with
    | nat j =>
      have h : Sum.inl (j : Int) = (Sum.inl (i : Int) : Key) := Option.some.inj hy
      injection h with h
      rw [Int.ofNat.inj h]
    | str j =>
      rw [keyOf_str] at hy
      split at hy <;> cases hy
    | _ => cases hy
  | str i =>
    rw [keyOf_str] at hx
    by_cases hi : i < c.ns ∧ Ev.plainS i = true
    · rw [if_pos hi] at hx
      cases hx
      cases y with
      | str j =>
        rw [keyOf_str] at hy
        by_cases hj : j < c.ns ∧ Ev.plainS j = true
        · rw [if_pos hj] at hy
          have h := Option.some.inj hy
          injection h with h
          rw [c.inj j i hj.1 hi.1 (plain_sep hj.2 hi.2) h]
        · rw [if_neg hj] at hy; cases hy
      | nat j => cases hy
      | _ => cases hy
    · rw [if_neg hi] at hx; cases hx
  | _ => cases hx
theorem keysOf_inj : ∀ {l q : List Ev.W} {a : List Key}, keysOf c l = some a → keysOf c q = some a → l = q
  | [], [], _, _, _ => rfl
  | [], y :: q, a, h1, h2 => by
    cases h1
    unfold keysOf at h2
    split at h2 <;> cases h2
  | x :: l, [], a, h1, h2 => by
    cases h2
    unfold keysOf at h1
    split at h1 <;> cases h1
  | x :: l, y :: q, a, h1, h2 => by
    unfold keysOf at h1 h2
    cases e1 : keyOf c x with
    | none => rw [e1] at h1; cases h1
    | some a1 =>
      cases e2 : keysOf c l with
      | none => rw [e1, e2] at h1; cases h1
      | some a2 =>
        cases e3 : keyOf c y with
        | none => rw [e3] at h2; cases h2
        | some b1 =>
          cases e4 : keysOf c q with
          | none => rw [e3, e4] at h2; cases h2
          | some b2 =>
            rw [e1, e2] at h1
            rw [e3, e4] at h2
            cases h1
            have h := Option.some.inj h2
            injection h with h3 h4
            rw [keyOf_inj e1 (by rw [← h3]; exact e3), keysOf_inj e2 (by rw [← h4]; exact e4)]
theorem tkeyOf_inj {x y : Ev.W} {a : List Key} (hx : tkeyOf c x = some a) (hy : tkeyOf c y = some a) : x = y := by
  cases x with
  | tup l =>
    cases y with
    | tup q => rw [keysOf_inj (show keysOf c l = some a from hx) hy]
    | _ => cases hy
  | _ => cases hx
theorem keyOf_refl {x : Ev.W} {a : Key} (hx : keyOf c x = some a) : Ev.keq x x = true := by
  cases x with
  | nat i => exact nbq.mpr rfl
  | str i => exact nbq.mpr rfl
  | _ => cases hx
theorem keysOf_refl : ∀ {l : List Ev.W} {a : List Key}, keysOf c l = some a → Ev.keq (.tup l) (.tup l) = true
  | [], _, _ => rfl
  | x :: l, a, h => by
    unfold keysOf at h
    cases e1 : keyOf c x with
    | none => rw [e1] at h; cases h
    | some a1 =>
      cases e2 : keysOf c l with
      | none => rw [e1, e2] at h; cases h
      | some a2 =>
        show Bool.rec (motive := fun _ => Bool) false (Ev.keq (.tup l) (.tup l)) (Ev.keq x x) = true
        rw [keyOf_refl e1]
        exact keysOf_refl e2
theorem tkeyOf_refl {x : Ev.W} {a : List Key} (hx : tkeyOf c x = some a) : Ev.keq x x = true := by
  cases x with
  | tup l => exact keysOf_refl (show keysOf c l = some a from hx)
  | _ => cases hx
/-- how values of the machine are keys -/
structure KeyR (κ : Type) [DecidableEq κ] (ko : Ev.W → Option κ) : Prop where
  inj : ∀ {x y : Ev.W} {a : κ}, ko x = some a → ko y = some a → x = y
  refl : ∀ {x : Ev.W} {a : κ}, ko x = some a → Ev.keq x x = true
theorem keyR : KeyR Key (keyOf c) := ⟨keyOf_inj, keyOf_refl⟩
theorem tkeyR : KeyR (List Key) (tkeyOf c) := ⟨tkeyOf_inj, tkeyOf_refl⟩
variable {κ : Type} [DecidableEq κ] {ko : Ev.W → Option κ}
/-- a look into the pairs: what is found is there, what is not is not -/
theorem dlook_ok (kr : KeyR κ ko) {R : Type} {e : R} {k : Ev.W → R} {x : Ev.W} : ∀ {ks vs : List Ev.W}, (∃ w, Ev.dlook e k x ks vs = k w ∧ ∀ (M : Ms) (kvs : List (κ × V)), ks.map ko = kvs.map (fun p => some p.1) → RVs c M vs (kvs.map (·.2)) → ∃ kx v, ko x = some kx ∧ valV kvs kx = some v ∧ RV c M w v) ∨
    (Ev.dlook e k x ks vs = e ∧ ∀ (M : Ms) (kvs : List (κ × V)) (kx : κ), ks.map ko = kvs.map (fun p => some p.1) → RVs c M vs (kvs.map (·.2)) → ko x = some kx → valV kvs kx = none)
  | [], vs => .inr ⟨rfl, fun M kvs kx h1 h2 h3 => by
    cases kvs with
    | nil => rfl
    | cons p r => cases h1⟩
  | y :: ks, [] => .inr ⟨rfl, fun M kvs kx h1 h2 h3 => by
    cases kvs with
    | nil => rfl
    | cons p r => exact absurd (show (p :: r).map (·.2) = [] from h2) (by simp)⟩
  | y :: ks, u :: vs => by
    have h0 : Ev.dlook e k x (y :: ks) (u :: vs) = Bool.rec (motive := fun _ => R) (Ev.dlook e k x ks vs) (k u) (Ev.keq x y) := rfl
    rw [h0]
    cases q : Ev.keq x y with
    | true =>
      refine .inl ⟨u, rfl, fun M kvs h1 h2 => ?_⟩
      cases kvs with
      | nil => cases h1
      | cons p r =>
        injection h1 with h3 h4
        obtain ⟨z, zs, h5, h6, h7⟩ := h2
        injection h5 with h8 h9
        refine ⟨p.1, p.2, by rw [keq_eq x y q]; exact h3, valV_pos rfl, ?_⟩
        have h8' : p.2 = z := h8
        rw [h8']
        exact h6
    | false =>
      have step : ∀ (M : Ms) (p : κ × V) (r : List (κ × V)) (kx : κ), ko y = some p.1 → ko x = some kx → ¬ p.1 = kx := fun M p r kx h3 h4 h5 => by
        have h6 := kr.inj h4 (by rw [h3, h5])
        rw [h6, kr.refl h3] at q
        cases q
      rcases dlook_ok kr (e := e) (k := k) (x := x) (ks := ks) (vs := vs) with ⟨w, h1, h2⟩ | ⟨h1, h2⟩
      · refine .inl ⟨w, h1, fun M kvs h3 h4 => ?_⟩
        cases kvs with
        | nil => cases h3
        | cons p r =>
          injection h3 with h5 h6
          obtain ⟨z, zs, h7, h8, h9⟩ := h4
          injection h7 with h10 h11
          obtain ⟨kx, v, g1, g2, g3⟩ := h2 M r h6 (by rw [show r.map (·.2) = zs from h11]; exact h9)
          exact ⟨kx, v, g1, by rw [valV_neg (step M p r kx h5 g1)]; exact g2, g3⟩
      · refine .inr ⟨h1, fun M kvs kx h3 h4 g1 => ?_⟩
        cases kvs with
        | nil => rfl
        | cons p r =>
          injection h3 with h5 h6
          obtain ⟨z, zs, h7, h8, h9⟩ := h4
          injection h7 with h10 h11
          rw [valV_neg (step M p r kx h5 g1)]
          exact h2 M r kx h6 (by rw [show r.map (·.2) = zs from h11]; exact h9) g1
theorem mem_ok (kr : KeyR κ ko) {x : Ev.W} {kx : κ} (hx : ko x = some kx) : ∀ {ks : List Ev.W} {kvs : List (κ × V)}, ks.map ko = kvs.map (fun p => some p.1) → Ev.mem x ks = (valV kvs kx).isSome
  | [], [], _ => rfl
  | [], _ :: _, h => by cases h
  | _ :: _, [], h => by cases h
  | y :: ks, p :: r, h => by
    injection h with h1 h2
    have h0 : Ev.mem x (y :: ks) = Bool.rec (motive := fun _ => Bool) (Ev.mem x ks) true (Ev.keq x y) := rfl
    rw [h0]
    cases q : Ev.keq x y with
    | true =>
      have h3 := keq_eq x y q
      have h4 : p.1 = kx := by
        rw [h3] at hx
        exact Option.some.inj ((show ko y = some p.1 from h1).symm.trans hx)
      rw [valV_pos h4]
      rfl
    | false =>
      have ne : ¬ p.1 = kx := fun z => by
        have h6 := kr.inj hx (by rw [show ko y = some p.1 from h1, z])
        rw [h6, kr.refl (show ko y = some p.1 from h1)] at q
        cases q
      rw [valV_neg ne]
      exact mem_ok kr hx h2
/-- a value that may be a key is one -/
theorem flat_key {M : Ms} {x : Ev.W} {v : V} (h : Ev.flat x = true) (r : RV c M x v) : ∃ k, keyOf c x = some k ∧ v = kV k := by
  cases x with
  | nat i => exact ⟨_, rfl, r⟩
  | str i => exact ⟨.inr (c.ν i), by rw [keyOf_str, if_pos ⟨r.1, h⟩], r.2⟩
  | _ => cases h
theorem flats_key {M : Ms} : ∀ {l : List Ev.W} {xs : List V}, Ev.allFlat l = true → RVs c M l xs → ∃ k, keysOf c l = some k ∧ xs = k.map kV
  | [], xs, _, r => ⟨[], rfl, r⟩
  | x :: l, xs, h, r => by
    obtain ⟨h1, h2⟩ := ite_ne (show Bool.rec (motive := fun _ => Bool) false (Ev.allFlat l) (Ev.flat x) = true from h) (fun z => nomatch z)
    obtain ⟨v, q, rfl, r1, r2⟩ := r
    obtain ⟨k1, e1, rfl⟩ := flat_key h1 r1
    obtain ⟨k2, e2, rfl⟩ := flats_key h2 r2
    exact ⟨k1 :: k2, by unfold keysOf; rw [e1, e2], rfl⟩
theorem isKey_F {M : Ms} {x : Ev.W} {v : V} (h : Ev.isKey false x = true) (r : RV c M x v) : ∃ k, keyOf c x = some k ∧ v = kV k := flat_key h r
theorem isKey_T {M : Ms} {x : Ev.W} {v : V} (h : Ev.isKey true x = true) (r : RV c M x v) : ∃ k b, tkeyOf c x = some k ∧ v = .ref b ∧ M.H b = some (.tup (k.map kV)) := by
  obtain ⟨l, rfl, h2⟩ := tupK_ne (show Ev.tupK false Ev.allFlat x = true from h) (fun z => nomatch z)
  obtain ⟨a, xs, rfl, _, hH, hx⟩ := r
  obtain ⟨k, e, rfl⟩ := flats_key h2 hx
  exact ⟨k, a, e, rfl, hH⟩
theorem keyV {M : Ms} {x : Ev.W} {v : V} {k : Key} (h : keyOf c x = some k) (r : RV c M x v) : v = kV k := by
  cases x with
  | nat i => cases h; exact r
  | str i =>
    rw [keyOf_str] at h
    by_cases hi : i < c.ns ∧ Ev.plainS i = true
    · rw [if_pos hi] at h
      cases h
      exact r.2
    · rw [if_neg hi] at h
      cases h
  | _ => cases h
theorem keysV {M : Ms} : ∀ {l : List Ev.W} {xs : List V} {k : List Key}, keysOf c l = some k → RVs c M l xs → xs = k.map kV
  | [], xs, k, h, r => by cases h; exact r
  | x :: l, xs, k, h, r => by
    unfold keysOf at h
    obtain ⟨v, q, rfl, r1, r2⟩ := r
    cases e1 : keyOf c x with
    | none => rw [e1] at h; cases h
    | some a1 =>
      cases e2 : keysOf c l with
      | none => rw [e1, e2] at h; cases h
      | some a2 =>
        rw [e1, e2] at h
        cases h
        rw [keyV e1 r1, keysV e2 r2]
        rfl
theorem tkeyV {M : Ms} {x : Ev.W} {v : V} {k : List Key} (h : tkeyOf c x = some k) (r : RV c M x v) : ∃ b, v = .ref b ∧ M.H b = some (.tup (k.map kV)) := by
  cases x with
  | tup l =>
    obtain ⟨a, xs, rfl, _, hH, hx⟩ := r
    exact ⟨a, rfl, by rw [← keysV (show keysOf c l = some k from h) hx]; exact hH⟩
  | _ => cases h
/-- a pair of small ints as a key -/
theorem pairK_ok {R : Type} {e r : R} {k : Nat → R} {w : Ev.W} (h : Ev.pairK e k w = r) (ne : e ≠ r) : ∃ i j : Nat, i < 64 ∧ j < 64 ∧ w = .tup [.nat i, .nat j] ∧ k (4096 + (64 * i + j)) = r := by
  obtain ⟨l, rfl, h⟩ := tupK_ne (show Ev.tupK e _ w = r from h) ne
  match l, h with
  | [], h => exact absurd h ne
  | [x], h => exact absurd h ne
  | [x, y], h =>
    obtain ⟨i, rfl, h1⟩ := natK_ne (show Ev.natK e (fun i => Ev.natK e (fun j => Bool.rec (motive := fun _ => R) e (Bool.rec (motive := fun _ => R) e (k (Nat.add 4096 (Nat.add (Nat.mul 64 i) j))) (Nat.blt i 64)) (Nat.blt j 64)) y) x = r from h) ne
    obtain ⟨j, rfl, h2⟩ := natK_ne h1 ne
    obtain ⟨h3, h4⟩ := ite_ne h2 ne
    obtain ⟨h5, h6⟩ := ite_ne h4 ne
    exact ⟨i, j, Nat.le_of_ble_eq_true h5, Nat.le_of_ble_eq_true h3, rfl, h6⟩
  | x :: y :: z :: q, h => exact absurd h ne
theorem pair_ref {M : Ms} {i j : Nat} {v : V} (r : RV c M (.tup [.nat i, .nat j]) v) : ∃ b, v = .ref b ∧ M.H b = some (.tup (([.inl (i : Int), .inl (j : Int)] : List Key).map kV)) :=
  tkeyV (k := [.inl (i : Int), .inl (j : Int)]) rfl r
end
/-! ### items -/
theorem sget_get {i : Nat} {ws : List Ev.W} {R : Type} {e r : R} {k : Ev.W → R} (h : Ev.nthK e k i ws = r) (ne : e ≠ r) : ∃ w, ws[i]? = some w ∧ k w = r := by
  obtain ⟨h1, h2⟩ := defK_ne (show Ev.defK e (k (Ev.sget i ws)) (Ev.sget i ws) = r from h) ne
  rw [sget_eq] at h1 h2
  cases q : ws[i]? with
  | none => rw [q] at h1; exact absurd rfl h1
  | some w => rw [q] at h2; exact ⟨w, rfl, h2⟩
section
variable {X : Cx} {c : Cn} {cl : CallT} {a b d : Expr} {ma mb md : Ev.D} {pos : Pos}
theorem ce_idx (hK : X.K = c.K) (hu : X.A.units + 1 < cLine) (ha : PE X a (tM c cl ma)) (hb : PE X b (tM c cl mb)) (hs : PlainIx b := by exact fun _ _ => rfl) (hs2 : NoSl b := by exact fun _ _ => rfl) : PE X (.Subscript a b pos) (tM c cl (Ev.eIdx ma mb)) := by
  refine pe_imp (pe_two (pe_two (pe_ix ix_tup ha hb hs) (pe_ix ix_list ha hb hs)) (pe_dget hu ha hb hs2)) fun σ H Q ⟨M, l, s, eH, r, sl, w, n', l', e, k⟩ => ?_
  subst eH
  obtain ⟨x, n1, l1, e1, e2⟩ := Rs.b_ok e
  obtain ⟨y, n2, l2, e3, e4⟩ := Rs.b_ok e2
  -- an item of a tuple, of a list
  have tupC : ∀ ws, x = .tup ws → Ev.natK Rs.err (fun i => Ev.nthK Rs.err (fun v => Rs.ok v n2 l2) i ws) y = .ok w n' l' → tM c cl ma σ M.H (fun vx H1 => tM c cl mb σ H1 fun vy H2 => rIxT X.K vx vy H2 Q) := fun ws ex h => by
    subst ex
    obtain ⟨i, rfl, h1⟩ := natK_ne h Rs.ne
    obtain ⟨u, h2, h3⟩ := sget_get h1 Rs.ne
    cases h3
    refine tM2 r sl e1 e3 fun M2 vx vy en r2 x2 rx ry => ?_
    obtain ⟨p, xs, rfl, _, hH, hx⟩ := rx
    obtain ⟨z, h4, h5⟩ := hx.get h2
    exact ⟨p, xs, i, z, rfl, ry, .inl (.inl hH), atI_nat h4, k M2 z en r2 x2 h5⟩
  have lstC : Ev.natK Rs.err (fun i => Ev.lstK Rs.err (fun ws => Ev.nthK Rs.err (fun v => Rs.ok v n2 l2) i ws) x l2) y = .ok w n' l' → tM c cl ma σ M.H (fun vx H1 => tM c cl mb σ H1 fun vy H2 => rIxL X.K vx vy H2 Q) := fun h => by
    obtain ⟨i, rfl, h1⟩ := natK_ne h Rs.ne
    obtain ⟨ws, h2, h3⟩ := lstK_ok (c := c) h1 Rs.ne
    obtain ⟨u, h4, h5⟩ := sget_get h2 Rs.ne
    cases h5
    refine tM2 r sl e1 e3 fun M2 vx vy en r2 x2 rx ry => ?_
    obtain ⟨p, xs, rfl, hH, hx⟩ := h3 M2 vx r2 rx
    obtain ⟨z, h6, h7⟩ := hx.get h4
    exact ⟨p, xs, i, z, rfl, ry, .inl (.inl hH), atI_nat h6, k M2 z en r2 x2 h7⟩
  -- the value at a key
  have dctC : ∀ (t : Bool) (ks vs : List Ev.W), Ev.dlook Rs.err (fun v => Rs.ok v n2 l2) y ks vs = .ok w n' l' →
      (∀ (M2 : Ms) (vx : V), Rep c M2 l2 → RV c M2 x vx → ∃ p, vx = .ref p ∧ match t with
        | false => ∃ kvs : List (Key × V), Rd M2.H p (.dK kvs) ∧ ks.map (keyOf c) = kvs.map (fun p => some p.1) ∧ RVs c M2 vs (kvs.map (·.2))
        | true => ∃ kvs : List (List Key × V), Rd M2.H p (.dT kvs) ∧ ks.map (tkeyOf c) = kvs.map (fun p => some p.1) ∧ RVs c M2 vs (kvs.map (·.2))) →
      tM c cl ma σ M.H (fun vx H1 => tM c cl mb σ H1 fun vy H2 => ∃ p v, vx = .ref p ∧ DGet H2 p vy (some v) ∧ Q v H2) := fun t ks vs h hx => by
    cases t with
    | false =>
      rcases dlook_ok (c := c) keyR (e := Rs.err) (k := fun v => Rs.ok v n2 l2) (x := y) (ks := ks) (vs := vs) with ⟨u, g1, g2⟩ | ⟨g1, _⟩
      · rw [g1] at h
        cases h
        refine tM2 r sl e1 e3 fun M2 vx vy en r2 x2 rx ry => ?_
        obtain ⟨p, rfl, kvs, h1, h2, h3⟩ := hx M2 vx r2 rx
        obtain ⟨kx, v, h4, h5, h6⟩ := g2 M2 kvs h2 h3
        exact ⟨p, v, rfl, .inl ⟨kvs, kx, h1, keyV h4 ry, h5.symm⟩, k M2 v en r2 x2 h6⟩
      · rw [g1] at h; cases h
    | true =>
      rcases dlook_ok (c := c) tkeyR (e := Rs.err) (k := fun v => Rs.ok v n2 l2) (x := y) (ks := ks) (vs := vs) with ⟨u, g1, g2⟩ | ⟨g1, _⟩
      · rw [g1] at h
        cases h
        refine tM2 r sl e1 e3 fun M2 vx vy en r2 x2 rx ry => ?_
        obtain ⟨p, rfl, kvs, h1, h2, h3⟩ := hx M2 vx r2 rx
        obtain ⟨kx, v, h4, h5, h6⟩ := g2 M2 kvs h2 h3
        obtain ⟨q, rfl, h7⟩ := tkeyV h4 ry
        exact ⟨p, v, rfl, .inr ⟨kvs, kx, q, h1, rfl, h7, h5.symm⟩, k M2 v en r2 x2 h6⟩
      · rw [g1] at h; cases h
  cases x with
  | tup ws => exact .inl (.inl (tupC ws rfl e4))
  | lst ws => exact .inl (.inr (lstC e4))
  | dct t ks vs =>
    refine .inr (dctC t ks vs e4 fun M2 vx _ rx => ?_)
    cases t with
    | false => obtain ⟨p, rfl, _, kvs, h⟩ := rx; exact ⟨p, rfl, kvs, h⟩
    | true => obtain ⟨p, rfl, _, kvs, h⟩ := rx; exact ⟨p, rfl, kvs, h⟩
  | ref i =>
    obtain ⟨o, h1, h2⟩ := hget_ne (show Ev.hget Rs.err _ l2 i = .ok w n' l' from e4) Rs.ne
    cases o with
    | lst ws =>
      refine .inl (.inr (lstC ?_))
      obtain ⟨j, rfl, h3⟩ := natK_ne (show Ev.natK Rs.err (fun i => Ev.nthK Rs.err (fun v => Rs.ok v n2 l2) i ws) y = .ok w n' l' from h2) Rs.ne
      show Ev.hget Rs.err (Ev.oLst Rs.err fun ws => Ev.nthK Rs.err (fun v => Rs.ok v n2 l2) j ws) l2 i = _
      rw [hget_hat, h1]
      exact h3
    | dct t ks vs =>
      refine .inr (dctC t ks vs h2 fun M2 vx r2 ⟨_, hv⟩ => ?_)
      have ro := r2.obj i _ h1
      cases t with
      | false => obtain ⟨kvs, h3, h4⟩ := ro; exact ⟨_, hv, kvs, .inl h3, h4⟩
      | true => obtain ⟨kvs, h3, h4⟩ := ro; exact ⟨_, hv, kvs, .inl h3, h4⟩
    | map hh m =>
      obtain ⟨p, q, hp, hq, rfl, h3⟩ := pairK_ok (show Ev.pairK Rs.err (fun i => Ev.nthK Rs.err (fun v => Rs.ok v n2 l2) 0 [Ev.tget m 20 i]) y = .ok w n' l' from h2) Rs.ne
      obtain ⟨u, h4, h5⟩ := sget_get h3 Rs.ne
      cases h5
      have h6 := Option.some.inj h4
      subst h6
      refine .inr (tM2 r sl e1 e3 fun M2 vx vy en r2 x2 ⟨_, hv⟩ ry => ?_)
      obtain ⟨kvs, g1, _, g2⟩ := r2.obj i _ h1
      obtain ⟨b2, hb2, g3⟩ := pair_ref ry
      rcases g2 p q hp hq with ⟨g4, _⟩ | ⟨v, g4, g5⟩
      · rw [g4] at h3
        cases h3
      · exact ⟨_, v, hv, .inr ⟨kvs, _, b2, .inl g1, hb2, g3, g4.symm⟩, k M2 v en r2 x2 g5⟩
    | told hh m => cases h2
    | ins _ _ _ => cases h2
  | _ => cases e4
end
end Sd
end

section
set_option Elab.async false
set_option linter.all false
set_option maxRecDepth 100000
/-! Sd4: steps on values; in, not in, chains, == of tuples, slices, joined lists and tuples, built-ins. -/
namespace Sd
open PySem PySem.Spec PyProof.Rows L2
open Ev (Hl Rs Rb Ra So Sr CallT)
/-! ### steps on values -/
/-- what the machine's step on a value says, the rule says -/
def Step1 (c : Cn) (K : Ev.W → Nat → Hl → Rs) (r : V → Hp → VK → Prop) : Prop := ∀ (x : Ev.W) (n : Nat) (l : Hl) (w : Ev.W) (n' : Nat) (l' : Hl), K x n l = .ok w n' l' → ∀ (M : Ms) (v : V), M.n = n → Rep c M l → RV c M x v →
  ∀ Q : VK, (∀ (M' : Ms) (u : V), M'.n = n' → Rep c M' l' → Ext M M' → RV c M' w u → Q u M'.H) → r v M.H Q
def Step2 (c : Cn) (K : Ev.W → Ev.W → Nat → Hl → Rs) (r : V → V → Hp → VK → Prop) : Prop := ∀ (x y : Ev.W) (n : Nat) (l : Hl) (w : Ev.W) (n' : Nat) (l' : Hl), K x y n l = .ok w n' l' → ∀ (M : Ms) (v u : V), M.n = n → Rep c M l → RV c M x v → RV c M y u →
  ∀ Q : VK, (∀ (M' : Ms) (u : V), M'.n = n' → Rep c M' l' → Ext M M' → RV c M' w u → Q u M'.H) → r v u M.H Q
section
variable {X : Cx} {c : Cn} {cl : CallT} {σ : L2.St} {H : Hp} {a b d : Expr} {ma mb md : Ev.D} {pos p : Pos} {K1 : Ev.W → Nat → Hl → Rs} {K2 : Ev.W → Ev.W → Nat → Hl → Rs} {r1 : V → Hp → VK → Prop} {r2 : V → V → Hp → VK → Prop}
theorem step1 (S : Step1 c K1 r1) {Q : VK} (h : tM c cl (fun c s n l => (ma c s n l).b K1) σ H Q) : tM c cl ma σ H fun v H1 => r1 v H1 Q := by
  obtain ⟨M, l, s, eH, rp, sl, w, n', l', e, k⟩ := h
  subst eH
  obtain ⟨x, n1, l1, e1, e2⟩ := Rs.b_ok e
  exact tM.mk rp sl e1 fun M1 v en r1 x1 rx => S x n1 l1 w n' l' e2 M1 v en r1 rx Q fun M' u h1 h2 h3 h4 => k M' u h1 h2 (x1.trans h3) h4
theorem step2 (S : Step2 c K2 r2) {Q : VK} (h : tM c cl (fun c s n l => (ma c s n l).b fun x n1 l1 => (mb c s n1 l1).b (K2 x)) σ H Q) : tM c cl ma σ H fun v H1 => tM c cl mb σ H1 fun u H2 => r2 v u H2 Q := by
  obtain ⟨M, l, s, eH, rp, sl, w, n', l', e, k⟩ := h
  subst eH
  obtain ⟨x, n1, l1, e1, e2⟩ := Rs.b_ok e
  obtain ⟨y, n2, l2, e3, e4⟩ := Rs.b_ok e2
  exact tM2 rp sl e1 e3 fun M2 v u en r1 x1 rx ry => S x y n2 l2 w n' l' e4 M2 v u en r1 rx ry Q fun M' u h1 h2 h3 h4 => k M' u h1 h2 (x1.trans h3) h4
theorem tB_test {m : Ev.D} {Q : Bool → Hp → Prop} (h : tT c cl (Ev.tB m) σ H Q) : tM c cl m σ H (fun x H1 => ∃ k, x = .bl k ∧ Q k H1) := by
  obtain ⟨M, l, s, eH, rp, sl, w, n', l', e, k⟩ := h
  subst eH
  obtain ⟨x, n1, l1, e1, e2⟩ := Rs.bb_ok e
  obtain ⟨d, rfl, e3⟩ := blK_ne e2 Rb.ne
  cases e3
  exact tM.mk rp sl e1 fun M1 v en r1 x1 rx => ⟨_, rx, k M1 en r1 x1⟩
theorem arg1 {r : List V → Hp → VK → Prop} (S : Step1 c K1 fun v => r [v]) {Q : VK} (h : tM c cl (fun c s n l => (ma c s n l).b K1) σ H Q) : tA c cl (Ev.aCons ma Ev.aNil) σ H fun vs H1 => r vs H1 Q := by
  obtain ⟨M, l, s, eH, rp, sl, w, n', l', e, k⟩ := h
  subst eH
  obtain ⟨x, n1, l1, e1, e2⟩ := Rs.b_ok e
  have e0 : Ev.aCons ma Ev.aNil cl s M.n l = .ok [x] n1 l1 := by
    show (ma cl s M.n l).ba _ = _
    rw [e1]
    rfl
  refine tA.mk rp sl e0 fun M1 vs en r1 x1 rx => ?_
  obtain ⟨v, q, rfl, rv, rq⟩ := rx
  rw [show q = [] from rq]
  exact S x n1 l1 w n' l' e2 M1 v en r1 rv Q fun M' u h1 h2 h3 h4 => k M' u h1 h2 (x1.trans h3) h4
theorem arg2 {r : List V → Hp → VK → Prop} (S : Step2 c K2 fun v u => r [v, u]) {Q : VK} (h : tM c cl (fun c s n l => (ma c s n l).b fun x n1 l1 => (mb c s n1 l1).b (K2 x)) σ H Q) : tA c cl (Ev.aCons ma (Ev.aCons mb Ev.aNil)) σ H fun vs H1 => r vs H1 Q := by
  obtain ⟨M, l, s, eH, rp, sl, w, n', l', e, k⟩ := h
  subst eH
  obtain ⟨x, n1, l1, e1, e2⟩ := Rs.b_ok e
  obtain ⟨y, n2, l2, e3, e4⟩ := Rs.b_ok e2
  have e0 : Ev.aCons ma (Ev.aCons mb Ev.aNil) cl s M.n l = .ok [x, y] n2 l2 := by
    show (ma cl s M.n l).ba (fun x n1 l1 => (Ev.Rs.ba (mb cl s n1 l1) fun x n1 l1 => Ev.Ra.ba (Ra.ok [] n1 l1) _).ba _) = _
    rw [e1]
    show ((mb cl s n1 l1).ba _).ba _ = _
    rw [e3]
    rfl
  refine tA.mk rp sl e0 fun M1 vs en r1 x1 rx => ?_
  obtain ⟨v, q, rfl, rv, rq⟩ := rx
  obtain ⟨u, q2, rfl, ru, rq2⟩ := rq
  rw [show q2 = [] from rq2]
  exact S x y n2 l2 w n' l' e4 M1 v u en r1 rv ru Q fun M' u h1 h2 h3 h4 => k M' u h1 h2 (x1.trans h3) h4
/-- a new object held by value, at the end of a step -/
theorem endF {Q : VK} {M : Ms} {l : Hl} {n' : Nat} {w : Ev.W} {o : HO} (hn : M.n = n') (rp : Rep c M l) (k : ∀ (M' : Ms) (u : V), M'.n = n' → Rep c M' l → Ext M M' → RV c M' w u → Q u M'.H)
    (hw : ∀ (q : Addr) (M' : Ms), Ext M M' → ¬ M'.P q → M'.H q = some o → RV c M' w (.ref q)) : ∀ q, M.H q = none → Q (.ref q) (upd M.H q o) := fun q hq => by
  obtain ⟨k1, k2, k3⟩ := rp.frozen (u := o) hq
  exact k { M with H := upd M.H q o } _ hn k1 k2 (hw q _ k2 k3 upd_same)
/-! ### in, not in -/
theorem sep_symm {i j : Nat} (h : Ev.sep i j = true) : Ev.sep j i = true := by
  rw [sep_eq] at h ⊢
  omega
theorem flat_flatV {M : Ms} {w : Ev.W} {v : V} (h : Ev.flat0 w = true) (r : RV c M w v) : flatV v = true := by
  cases w with
  | nat i => rw [show v = .int i from r]; rfl
  | str i => rw [r.2]; rfl
  | _ => cases h
theorem eqV_flat {M : Ms} {x y : Ev.W} {vx vy : V} (hx : Ev.flat0 x = true) (hy : Ev.flat0 y = true) (hs : Ev.sepW x y = true) (rx : RV c M x vx) (ry : RV c M y vy) : eqV vy vx = Ev.keq x y := by
  cases x with
  | nat i =>
    rw [show vx = .int i from rx]
    cases y with
    | nat j =>
      rw [show vy = .int j from ry]
      show ((j : Int) == (i : Int)) = Nat.beq i j
      by_cases q : i = j
      · rw [q, nbq.mpr rfl]; exact beq_self_eq_true _
      · cases z : Nat.beq i j with
        | true => exact absurd (nbq.mp z) q
        | false => exact beq_eq_false_iff_ne.mpr fun z => q (Int.ofNat.inj z).symm
    | str j => rw [ry.2]; rfl
    | _ => cases hy
  | str i =>
    rw [rx.2]
    cases y with
    | nat j => rw [show vy = .int j from ry]; rfl
    | str j =>
      rw [ry.2]
      show (c.ν j == c.ν i) = Nat.beq i j
      by_cases q : i = j
      · rw [q, nbq.mpr rfl]; exact beq_self_eq_true _
      · cases z : Nat.beq i j with
        | true => exact absurd (nbq.mp z) q
        | false => exact beq_eq_false_iff_ne.mpr fun z => q (c.inj j i ry.1 rx.1 (sep_symm hs) z).symm
    | _ => cases hy
  | _ => cases hx
/-- what is sought among the items: all of them ints and texts that may be told apart from it by their numbers -/
def InsOk (x : Ev.W) (ws : List Ev.W) : Prop := List.rec (motive := fun _ => Bool) true (fun w _ ih => Bool.rec (motive := fun _ => Bool) false (Bool.rec (motive := fun _ => Bool) false ih (Ev.sepW x w)) (Ev.flat0 w)) ws = true
theorem insOk_cons {x w : Ev.W} {ws : List Ev.W} (h : InsOk x (w :: ws)) : Ev.flat0 w = true ∧ Ev.sepW x w = true ∧ InsOk x ws := by
  obtain ⟨h1, h2⟩ := ite_ne (show Bool.rec (motive := fun _ => Bool) false _ (Ev.flat0 w) = true from h) (fun z => nomatch z)
  obtain ⟨h3, h4⟩ := ite_ne h2 (fun z => nomatch z)
  exact ⟨h1, h3, h4⟩
theorem flats_flatV {M : Ms} {x : Ev.W} : ∀ {ws : List Ev.W} {xs : List V}, InsOk x ws → RVs c M ws xs → xs.all flatV = true
  | [], xs, _, r => by rw [show xs = [] from r]; rfl
  | w :: ws, xs, h, r => by
    obtain ⟨h1, _, h2⟩ := insOk_cons h
    obtain ⟨v, q, rfl, r1, r2⟩ := r
    rw [List.all_cons, flat_flatV h1 r1, flats_flatV h2 r2]
    rfl
theorem inV_mem {M : Ms} {x : Ev.W} {vx : V} (hx : Ev.flat0 x = true) (rx : RV c M x vx) : ∀ {ws : List Ev.W} {xs : List V}, InsOk x ws → RVs c M ws xs → inV vx xs = Ev.mem x ws
  | [], xs, _, r => by rw [show xs = [] from r]; rfl
  | w :: ws, xs, h, r => by
    obtain ⟨h1, hs, h2⟩ := insOk_cons h
    obtain ⟨v, q, rfl, r1, r2⟩ := r
    have e1 := eqV_flat hx h1 hs rx r1
    have e2 := inV_mem hx rx h2 r2
    show (List.any (v :: q) fun y => eqV y vx) = Bool.rec (motive := fun _ => Bool) (Ev.mem x ws) true (Ev.keq x w)
    rw [List.any_cons, e1, show (q.any fun y => eqV y vx) = Ev.mem x ws from e2]
    cases Ev.keq x w <;> rfl
theorem spotK_ex {R : Type} {e r : R} {f : Nat → R} {x : Ev.W} (h : Ev.spotK e f x = r) (ne : e ≠ r) : ∃ i, f i = r := by
  obtain ⟨l, rfl, h⟩ := tupK_ne (show Ev.tupK e _ x = r from h) ne
  match l, h with
  | [], h => exact absurd h ne
  | [x], h => exact absurd h ne
  | [x, y], h =>
    obtain ⟨i, rfl, h1⟩ := natK_ne (show Ev.natK e (fun i => Bool.rec (motive := fun _ => R) e (Bool.rec (motive := fun _ => R) (Ev.natK e (fun j => Bool.rec (motive := fun _ => R) e (f (Nat.add 16384 (Nat.add (Nat.mul 512 i) (Nat.add j 1)))) (Nat.blt j 511)) y) (f (Nat.add 16384 (Nat.mul 512 i))) (Ev.isNon y)) (Nat.blt i 32)) x = r from h) ne
    obtain ⟨_, h2⟩ := ite_ne h1 ne
    cases q : Ev.isNon y with
    | true => rw [q] at h2; exact ⟨_, h2⟩
    | false =>
      rw [q] at h2
      obtain ⟨j, rfl, h3⟩ := natK_ne (show Ev.natK e (fun j => Bool.rec (motive := fun _ => R) e (f (Nat.add 16384 (Nat.add (Nat.mul 512 i) (Nat.add j 1)))) (Nat.blt j 511)) y = r from h2) ne
      obtain ⟨_, h4⟩ := ite_ne h3 ne
      exact ⟨_, h4⟩
  | x :: y :: z :: q, h => exact absurd h ne
/-- a dict in order, behind a value -/
def DctV (c : Cn) (M : Ms) (t : Bool) (ks vs : List Ev.W) (p : Addr) : Prop := match t with
  | false => ∃ kvs : List (Key × V), Rd M.H p (.dK kvs) ∧ ks.map (keyOf c) = kvs.map (fun p => some p.1) ∧ RVs c M vs (kvs.map (·.2))
  | true => ∃ kvs : List (List Key × V), Rd M.H p (.dT kvs) ∧ ks.map (tkeyOf c) = kvs.map (fun p => some p.1) ∧ RVs c M vs (kvs.map (·.2))
theorem dctK_ok {R : Type} {e r : R} {k : Bool → List Ev.W → List Ev.W → R} {w : Ev.W} {l : Hl} (h : Ev.dctK e k w l = r) (ne : e ≠ r) : ∃ t ks vs, k t ks vs = r ∧ ∀ (M : Ms) (v : V), Rep c M l → RV c M w v → ∃ p, v = .ref p ∧ DctV c M t ks vs p := by
  cases w with
  | dct t ks vs =>
    refine ⟨t, ks, vs, h, fun M v _ rx => ?_⟩
    cases t with
    | false => obtain ⟨p, rfl, _, kvs, h⟩ := rx; exact ⟨p, rfl, kvs, h⟩
    | true => obtain ⟨p, rfl, _, kvs, h⟩ := rx; exact ⟨p, rfl, kvs, h⟩
  | ref i =>
    obtain ⟨o, h1, h2⟩ := hget_ne (show Ev.hget e (Ev.oDct e k) l i = r from h) ne
    obtain ⟨t, ks, vs, rfl, h3⟩ := oDct_ne h2 ne
    refine ⟨t, ks, vs, h3, fun M v rp ⟨_, hv⟩ => ⟨_, hv, ?_⟩⟩
    have ro := rp.obj i _ h1
    cases t with
    | false => obtain ⟨kvs, h4, h5⟩ := ro; exact ⟨kvs, .inl h4, h5⟩
    | true => obtain ⟨kvs, h4, h5⟩ := ro; exact ⟨kvs, .inl h4, h5⟩
  | _ => exact absurd h ne
theorem dct_in {M : Ms} {t : Bool} {ks vs : List Ev.W} {p : Addr} {x : Ev.W} {vx : V} (D : DctV c M t ks vs p) (hx : Ev.isKey t x = true) (rx : RV c M x vx) : ∃ o, DGet M.H p vx o ∧ o.isSome = Ev.mem x ks := by
  cases t with
  | false =>
    obtain ⟨kvs, h1, h2, h3⟩ := D
    obtain ⟨kx, e1, e2⟩ := isKey_F hx rx
    exact ⟨_, .inl ⟨kvs, kx, h1, e2, rfl⟩, (mem_ok keyR e1 h2).symm⟩
  | true =>
    obtain ⟨kvs, h1, h2, h3⟩ := D
    obtain ⟨kx, b, e1, e2, e3⟩ := isKey_T hx rx
    exact ⟨_, .inr ⟨kvs, kx, b, h1, e2, e3, rfl⟩, (mem_ok tkeyR e1 h2).symm⟩
theorem inW_ok {R : Type} {e r : R} {k : Bool → R} {x y : Ev.W} {l : Hl} (h : Ev.inW e k x y l = r) (ne : e ≠ r) : ∃ d, k d = r ∧ ∀ (M : Ms) (vx vy : V), Rep c M l → RV c M x vx → RV c M y vy →
    (∃ p xs, vy = .ref p ∧ (SqL c.K M.H p xs ∨ SqT c.K M.H p xs) ∧ flatV vx = true ∧ xs.all flatV = true ∧ inV vx xs = d) ∨ ∃ p o, vy = .ref p ∧ DGet M.H p vx o ∧ o.isSome = d := by
  have sq : ∀ ws, Bool.rec (motive := fun _ => R) e (k (Ev.mem x ws)) (Ev.inOk x ws) = r → k (Ev.mem x ws) = r ∧ ∀ (M : Ms) (vx : V) (xs : List V), RV c M x vx → RVs c M ws xs → flatV vx = true ∧ xs.all flatV = true ∧ inV vx xs = Ev.mem x ws := fun ws h => by
    obtain ⟨h1, h2⟩ := ite_ne h ne
    obtain ⟨h3, h4⟩ := ite_ne (show Bool.rec (motive := fun _ => Bool) false _ (Ev.flat0 x) = true from h1) (fun z => nomatch z)
    exact ⟨h2, fun M vx xs rx rxs => ⟨flat_flatV h3 rx, flats_flatV h4 rxs, inV_mem h3 rx h4 rxs⟩⟩
  cases y with
  | tup ws =>
    obtain ⟨h1, h2⟩ := sq ws h
    exact ⟨_, h1, fun M vx vy _ rx ⟨p, xs, e1, _, e2, e3⟩ => .inl ⟨p, xs, e1, .inr (.inl (.inl e2)), h2 M vx xs rx e3⟩⟩
  | wtup ws =>
    obtain ⟨h1, h2⟩ := sq ws h
    exact ⟨_, h1, fun M vx vy _ rx ⟨p, xs, e1, e2, e3⟩ => .inl ⟨p, xs, e1, .inr e2.seq, h2 M vx xs rx e3⟩⟩
  | lst ws =>
    obtain ⟨h1, h2⟩ := sq ws h
    exact ⟨_, h1, fun M vx vy _ rx ⟨p, xs, e1, _, e2, e3⟩ => .inl ⟨p, xs, e1, .inl (.inl (.inl e2)), h2 M vx xs rx e3⟩⟩
  | dct t ks vs =>
    obtain ⟨h1, h2⟩ := ite_ne (show Bool.rec (motive := fun _ => R) e (k (Ev.mem x ks)) (Ev.isKey t x) = r from h) ne
    refine ⟨_, h2, fun M vx vy rp rx ry => .inr ?_⟩
    obtain ⟨t2, ks2, vs2, q1, q2⟩ := dctK_ok (c := c) (e := (none : Option (Bool × List Ev.W × List Ev.W))) (k := fun t ks vs => some (t, ks, vs)) (w := .dct t ks vs) (l := l) rfl (fun z => nomatch z)
    cases q1
    obtain ⟨p, hp, D⟩ := q2 M vy rp ry
    obtain ⟨o, g1, g2⟩ := dct_in D h1 rx
    exact ⟨p, o, hp, g1, g2⟩
  | ref i =>
    obtain ⟨o, h1, h2⟩ := hget_ne (show Ev.hget e _ l i = r from h) ne
    cases o with
    | lst ws =>
      obtain ⟨h3, h4⟩ := sq ws h2
      refine ⟨_, h3, fun M vx vy rp rx ⟨_, ry⟩ => .inl ?_⟩
      obtain ⟨xs, e2, e3⟩ := rp.obj i _ h1
      exact ⟨_, xs, ry, .inl (.inl (.inl e2)), h4 M vx xs rx e3⟩
    | dct t ks vs =>
      obtain ⟨h3, h4⟩ := ite_ne (show Bool.rec (motive := fun _ => R) e (k (Ev.mem x ks)) (Ev.isKey t x) = r from h2) ne
      refine ⟨_, h4, fun M vx vy rp rx ⟨_, ry⟩ => .inr ?_⟩
      have ro := rp.obj i _ h1
      have D : DctV c M t ks vs (M.ρ i) := by
        cases t with
        | false => obtain ⟨kvs, h4, h5⟩ := ro; exact ⟨kvs, .inl h4, h5⟩
        | true => obtain ⟨kvs, h4, h5⟩ := ro; exact ⟨kvs, .inl h4, h5⟩
      obtain ⟨o, g1, g2⟩ := dct_in D h3 rx
      exact ⟨_, o, ry, g1, g2⟩
    | map hh m =>
      obtain ⟨p, q, hp, hq, rfl, h3⟩ := pairK_ok (show Ev.pairK e (fun i => k (Ev.defK false true (Ev.tget m 20 i))) x = r from h2) ne
      refine ⟨_, h3, fun M vx vy rp rx ⟨_, ry⟩ => .inr ?_⟩
      obtain ⟨kvs, g1, _, g2⟩ := rp.obj i _ h1
      obtain ⟨b2, hb2, g3⟩ := pair_ref rx
      refine ⟨_, _, ry, .inr ⟨kvs, _, b2, .inl g1, hb2, g3, rfl⟩, ?_⟩
      rcases g2 p q hp hq with ⟨g4, g5⟩ | ⟨v, g4, g5⟩
      · rw [g4, g5]; rfl
      · rw [g4]
        cases z : Ev.tget m 20 (4096 + (64 * p + q)) with
        | un => rw [z] at g5; exact g5.elim
        | _ => rfl
    | told hh m => exact absurd h2 ne
    | ins _ _ _ => exact absurd h2 ne
  | _ => exact absurd h ne
/-- in, of a list, a tuple, a dict -/
def rInD (K : PySem.W.Frag) (neg : Bool) : R2 := fun x y H Q => rIn K neg x y H Q ∨ ∃ p o, y = .ref p ∧ DGet H p x o ∧ Q (.bl (if neg then !o.isSome else o.isSome)) H
theorem op_inD (hu : X.A.units + 1 < cLine) : OpR X (compareOp .In) (rInD X.K false) := op_in_seq.or fun pins s σ H x y v u Q I rx ry ⟨p, o, e, g, q⟩ => by
  subst e
  obtain rfl : u = Value.ref p := ry
  exact d_in hu I g rx fun s3 I3 => ⟨.bl o.isSome, H, I3, rfl, q⟩
theorem op_notInD (hu : X.A.units + 1 < cLine) : OpR X (compareOp .NotIn) (rInD X.K true) := op_notIn_seq.or fun pins s σ H x y v u Q I rx ry ⟨p, o, e, g, q⟩ => by
  subst e
  obtain rfl : u = Value.ref p := ry
  exact d_notIn hu I g rx fun s3 I3 => ⟨.bl (!o.isSome), H, I3, rfl, q⟩
theorem st_in {K : PySem.W.Frag} (hK : K = c.K) : Step2 c (fun x y n l => Ev.inW .err (fun d => .ok (.bl d) n l) x y l) (rInD K false) := fun x y n l w n' l' e M v u hn rp rx ry Q k => by
  subst hK
  obtain ⟨d, h1, h2⟩ := inW_ok (c := c) e Rs.ne
  cases h1
  have fin : Q (.bl d) M.H := k M _ hn rp (Ext.refl M) rfl
  rcases h2 M v u rp rx ry with ⟨p, xs, g1, g2, g3, g4, g5⟩ | ⟨p, o, g1, g2, g3⟩
  · exact .inl ⟨p, xs, g1, g2, g3, g4, by rw [g5]; exact fin⟩
  · exact .inr ⟨p, o, g1, g2, by rw [g3]; exact fin⟩
theorem st_notIn {K : PySem.W.Frag} (hK : K = c.K) : Step2 c (fun x y n l => Ev.inW .err (fun d => .ok (.bl (Ev.neg d)) n l) x y l) (rInD K true) := fun x y n l w n' l' e M v u hn rp rx ry Q k => by
  subst hK
  obtain ⟨d, h1, h2⟩ := inW_ok (c := c) e Rs.ne
  cases h1
  have fin : Q (.bl (!d)) M.H := by rw [← neg_eq]; exact k M _ hn rp (Ext.refl M) rfl
  rcases h2 M v u rp rx ry with ⟨p, xs, g1, g2, g3, g4, g5⟩ | ⟨p, o, g1, g2, g3⟩
  · exact .inl ⟨p, xs, g1, g2, g3, g4, by rw [g5]; exact fin⟩
  · exact .inr ⟨p, o, g1, g2, by rw [g3]; exact fin⟩
theorem ce_in (hK : X.K = c.K) (hu : X.A.units + 1 < cLine) (ha : PE X a (tM c cl ma)) (hb : PE X b (tM c cl mb)) (hm : behindInMarks .In b = false := by with_unfolding_all rfl) :
    PE X (.Compare a [.In] [b] pos) (tM c cl (Ev.eIn ma mb)) ∧ PT X (.Compare a [.In] [b] pos) (tT c cl (Ev.tB (Ev.eIn ma mb))) :=
  ⟨pe_imp (pe_cmpR (op_inD hu) ha hb hm) fun σ H Q h => step2 (st_in hK) h, pt_imp (pt_cmpR (op_inD hu) ha hb hm) fun σ H Q h => step2 (st_in hK) (tB_test h)⟩
theorem ce_notIn (hK : X.K = c.K) (hu : X.A.units + 1 < cLine) (ha : PE X a (tM c cl ma)) (hb : PE X b (tM c cl mb)) (hm : behindInMarks .NotIn b = false := by with_unfolding_all rfl) :
    PE X (.Compare a [.NotIn] [b] pos) (tM c cl (Ev.eNotIn ma mb)) ∧ PT X (.Compare a [.NotIn] [b] pos) (tT c cl (Ev.tB (Ev.eNotIn ma mb))) :=
  ⟨pe_imp (pe_cmpR (op_notInD hu) ha hb hm) fun σ H Q h => step2 (st_notIn hK) h, pt_imp (pt_cmpR (op_notInD hu) ha hb hm) fun σ H Q h => step2 (st_notIn hK) (tB_test h)⟩
/-! ### a <= b <= c -/
theorem lele {Q : VK} (h : tM c cl (Ev.eLeLe ma mb md) σ H Q) : tChain (rI0 fun i j => .bl (decide (i ≤ j))) (rI0 fun i j => .bl (decide (i ≤ j))) (tM c cl ma) (tM c cl mb) (tM c cl md) σ H Q := by
  obtain ⟨M, l, s, eH, rp, sl, w, n', l', e, k⟩ := h
  subst eH
  obtain ⟨x, n1, l1, e1, e2⟩ := Rs.b_ok e
  obtain ⟨y, n2, l2, e3, e4⟩ := Rs.b_ok e2
  obtain ⟨i, rfl, e5⟩ := natK_ne e4 Rs.ne
  obtain ⟨j, rfl, e6⟩ := natK_ne e5 Rs.ne
  refine tM2 rp sl e1 e3 fun M2 vx vy en r2 x2 rx ry => ⟨i, j, rx, ry, _, rfl, ?_⟩
  have e7 : Bool.rec (motive := fun _ => Rs) (.ok (.bl false) n2 l2) ((md cl s n2 l2).b fun z n3 l3 => Ev.natK .err (fun k => .ok (.bl (Nat.ble j k)) n3 l3) z) (Nat.ble i j) = .ok w n' l' := e6
  rw [dle]
  cases q : Nat.ble i j with
  | false =>
    rw [q] at e7
    cases e7
    rw [if_neg Bool.false_ne_true]
    exact k M2 _ en r2 x2 rfl
  | true =>
    rw [q] at e7
    rw [if_pos rfl]
    obtain ⟨z, n3, l3, e8, e9⟩ := Rs.b_ok (show ((md cl s n2 l2).b fun z n3 l3 => Ev.natK .err (fun k => .ok (.bl (Nat.ble j k)) n3 l3) z) = .ok w n' l' from e7)
    obtain ⟨m, rfl, e10⟩ := natK_ne e9 Rs.ne
    cases e10
    refine tM.mk (w := .nat m) r2 (sl.mono x2) (by rw [en]; exact e8) fun M3 vz en3 r3 x3 rz => ⟨j, m, ry, rz, ?_⟩
    show Q (.bl (decide ((j : Int) ≤ (m : Int)))) M3.H
    rw [dle]
    exact k M3 _ en3 r3 (x2.trans x3) rfl
theorem ce_leLe (ha : PE X a (tM c cl ma)) (hb : PE X b (tM c cl mb)) (hd : PE X d (tM c cl md)) (hm : lastMarks [.LtE, .LtE] [b, d] = false := by with_unfolding_all rfl) :
    PE X (.Compare a [.LtE, .LtE] [b, d] pos) (tM c cl (Ev.eLeLe ma mb md)) ∧ PT X (.Compare a [.LtE, .LtE] [b, d] pos) (tT c cl (Ev.tB (Ev.eLeLe ma mb md))) :=
  ⟨pe_imp (pe_chain op_le op_le ha hb hd hm) fun σ H Q h => lele h, pt_imp (pt_chain op_le op_le ha hb hd hm) fun σ H Q h => lele (tB_test h)⟩
end
end Sd
end

section
set_option Elab.async false
set_option linter.all false
set_option maxRecDepth 100000
/-! Sd5: == of tuples, {k: v}, slices, joined lists and tuples, built-in functions, methods of lists. -/
namespace Sd
open PySem PySem.Spec PyProof.Rows L2
open Ev (Hl Rs Rb Ra So Sr CallT)
section
variable {X : Cx} {c : Cn} {cl : CallT} {σ : L2.St} {H : Hp} {a b d : Expr} {ma mb md : Ev.D} {pos p pos2 : Pos}
/-! ### ints -/
theorem allNat_ks : ∀ {ws : List Ev.W}, Ev.allNat ws = true → ∃ ks : List Nat, ws = ks.map .nat
  | [], _ => ⟨[], rfl⟩
  | w :: ws, h => by
    obtain ⟨i, rfl, h2⟩ := natK_false (show Ev.natK false (fun _ => Ev.allNat ws) w = true from h)
    obtain ⟨ks, rfl⟩ := allNat_ks h2
    exact ⟨i :: ks, rfl⟩
theorem nats_rv {M : Ms} : ∀ {ks : List Nat} {xs : List V}, RVs c M (ks.map .nat) xs → xs = (ks.map Int.ofNat).map V.int
  | [], xs, h => h
  | k :: ks, xs, h => by
    obtain ⟨x, r, rfl, h1, h2⟩ := h
    rw [show x = .int (k : Int) from h1, nats_rv h2]
    rfl
theorem rv_nats {M : Ms} : ∀ {ks : List Nat}, RVs c M (ks.map .nat) ((ks.map Int.ofNat).map V.int)
  | [] => rfl
  | k :: ks => ⟨.int k, _, rfl, rfl, rv_nats⟩
/-! ### == of tuples of ints -/
def pds (ks : List Nat) : List PyData := ks.map fun (k : Nat) => PyData.int (k : Int)
theorem pds_lay : ∀ ks : List Nat, PyData.canLayAll0 (pds ks) = true
  | [] => rfl
  | k :: ks => by
    show (PyData.canLay0 (.int (k : Int)) && PyData.canLayAll0 (pds ks)) = true
    rw [pds_lay ks]
    rfl
theorem pds_eqv : ∀ ks qs : List Nat, PyData.eqvAll (pds ks) (pds qs) = Ev.keq (.tup (ks.map .nat)) (.tup (qs.map .nat))
  | [], [] => rfl
  | [], _ :: _ => rfl
  | _ :: _, [] => rfl
  | k :: ks, q :: qs => by
    show (((k : Int) == (q : Int)) && PyData.eqvAll (pds ks) (pds qs)) = Bool.rec (motive := fun _ => Bool) false (Ev.keq (.tup (ks.map .nat)) (.tup (qs.map .nat))) (Nat.beq k q)
    rw [pds_eqv ks qs]
    by_cases h : k = q
    · rw [h, nbq.mpr rfl, beq_self_eq_true]
      rfl
    · cases z : Nat.beq k q with
      | true => exact absurd (nbq.mp z) h
      | false =>
        rw [show ((k : Int) == (q : Int)) = false from beq_eq_false_iff_ne.mpr fun z => h (Int.ofNat.inj z)]
        rfl
theorem pds_dp {K : PySem.W.Frag} : ∀ ks : List Nat, DpAll K H ((ks.map Int.ofNat).map V.int) (pds ks)
  | [] => .nil
  | k :: ks => .cons (.int _) (pds_dp ks)
theorem pds_depth : ∀ ks : List Nat, PyData.depthAll (pds ks) ≤ 1
  | [] => Nat.zero_le _
  | k :: ks => by
    have h := pds_depth ks
    show max (PyData.depth (.int (k : Int))) (PyData.depthAll (pds ks)) ≤ 1
    exact Nat.max_le.mpr ⟨by simp [PyData.depth], h⟩
theorem pds_shaped (ks : List Nat) : SeqAt.shaped (.tuple (pds ks)) = true := by
  unfold SeqAt.shaped
  rw [Bool.and_eq_true]
  refine ⟨pds_lay ks, decide_eq_true ?_⟩
  have h := pds_depth ks
  simp only [PyData.depth]
  omega
theorem st_eqT {K : PySem.W.Frag} (hK : K = c.K) : Step2 c (fun x y n l => Ev.tupK .err (fun p => Ev.tupK .err (fun q => Bool.rec (motive := fun _ => Rs) .err (Bool.rec (motive := fun _ => Rs) .err (.ok (.bl (Ev.keq x y)) n l) (Ev.allNat q)) (Ev.allNat p)) y) x) (rEqD K) := fun x y n l w n' l' e M v u hn rp rx ry Q k => by
  obtain ⟨p, rfl, e1⟩ := tupK_ne e Rs.ne
  obtain ⟨q, rfl, e2⟩ := tupK_ne e1 Rs.ne
  obtain ⟨h1, e3⟩ := ite_ne e2 Rs.ne
  obtain ⟨h2, e4⟩ := ite_ne e3 Rs.ne
  cases e4
  obtain ⟨ks, rfl⟩ := allNat_ks h1
  obtain ⟨qs, rfl⟩ := allNat_ks h2
  obtain ⟨pa, xs, rfl, _, hx, hxs⟩ := rx
  obtain ⟨pb, ys, rfl, _, hy, hys⟩ := ry
  rw [nats_rv hxs] at hx
  rw [nats_rv hys] at hy
  refine ⟨.tuple (pds ks), .tuple (pds qs), .tup (.inl (.inl hx)) (pds_dp ks), .tup (.inl (.inl hy)) (pds_dp qs), pds_shaped ks, pds_shaped qs, ?_⟩
  · show Q (.bl (PyData.eqvAll (pds ks) (pds qs))) M.H
    rw [pds_eqv]
    exact k M _ hn rp (Ext.refl M) rfl
theorem ce_eqT (hK : X.K = c.K) (hu : X.A.units + 64 < cLine) (ha : PE X a (tM c cl ma)) (hb : PE X b (tM c cl mb)) : PE X (.Compare a [.Eq] [b] pos) (tM c cl (Ev.eEqT ma mb)) ∧ PT X (.Compare a [.Eq] [b] pos) (tT c cl (Ev.tB (Ev.eEqT ma mb))) :=
  ⟨pe_imp (pe_cmpR (op_eqD hu) ha hb (nomark _)) fun σ H Q h => step2 (st_eqT hK) h, pt_imp (pt_cmpR (op_eqD hu) ha hb (nomark _)) fun σ H Q h => step2 (st_eqT hK) (tB_test h)⟩

/-! ### {k: v} -/
theorem ce_dct1 {i j : Nat} {x y : Str} {p1 p2 : Pos} (h1 : X.N[i]? = some x) (v1 : Vis X.env.scope x) (h2 : X.N[j]? = some y) (v2 : Vis X.env.scope y)
    (hd : (x == ("__debug__" : Str)) = false := by decide) (hcd : (x == ("__classdict__" : Str)) = false := by decide) (hd2 : (y == ("__debug__" : Str)) = false := by decide) (hcd2 : (y == ("__classdict__" : Str)) = false := by decide) :
    PE X (.Dict [some (.Name x p1)] [.Name y p2] pos) (tM c cl (Ev.eDct1 i j)) :=
  pe_imp (pe_disp (pps_cons (pe_var h1 v1 hd hcd) (pe_var h2 v2 hd2 hcd2) pps_nil) rfl rfl (fun z => nomatch z) (show 1 ≤ 15 by decide)) fun σ H Q ⟨M, l, s, eH, r, sl, w, n', l', e, k⟩ => by
    subst eH
    obtain ⟨m, e1, e2⟩ := natK_ne (show Ev.natK Rs.err (fun k => Ev.defK .err (.ok (.dct false [.nat k] [Ev.sget j s]) M.n l) (Ev.sget j s)) (Ev.sget i s) = .ok w n' l' from e) Rs.ne
    obtain ⟨ne, e3⟩ := defK_ne e2 Rs.ne
    cases e3
    have at_ : ∀ (i : Nat), Ev.sget i s ≠ .un → ∃ v, σ[i]? = some (some v) ∧ RV c M (Ev.sget i s) v := fun i ne => by
      rw [sget_eq] at ne ⊢
      cases q : s[i]? with
      | none => rw [q] at ne; exact absurd rfl ne
      | some u =>
        rw [q] at ne
        rcases sl.at_ i u q with z | z
        · exact absurd z ne
        · exact z
    obtain ⟨v, g1, g2⟩ := at_ i (by rw [e1]; exact fun z => nomatch z)
    obtain ⟨u, g3, g4⟩ := at_ j ne
    rw [e1] at g2
    intro p hp
    refine ⟨v, g1, u, g3, upd_same, [(.inl (m : Int), u)], ?_, (show 1 ≤ 15 by decide), ?_⟩
    · rw [show v = .int (m : Int) from g2]
      rfl
    · have hh : upd (upd M.H p (.dK [])) p (.dK (mergeK [] [(.inl (m : Int), u)])) = upd M.H p (.dK [(.inl (m : Int), u)]) := by
        funext a
        unfold upd
        by_cases z : a = p
        · simp [z]; rfl
        · simp [z]
      rw [hh]
      obtain ⟨k1, k2, k3⟩ := r.frozen (u := .dK [(.inl (m : Int), u)]) hp
      exact k { M with H := upd M.H p (.dK [(.inl (m : Int), u)]) } _ rfl k1 k2 ⟨p, rfl, k3, [(.inl (m : Int), u)], .inl upd_same, rfl, u, [], rfl, RV.mono k2 _ _ g4, rfl⟩
/-! ### slices -/
theorem six0 (n : Nat) (i : Nat) : HT.sIx n 0 (some (i : Int)) = min i n := by
  unfold HT.sIx
  simp
  omega
theorem sixN (n : Nat) : HT.sIx n n none = n := rfl
theorem st_from1 {K : PySem.W.Frag} (hK : K = c.K) : Step1 c (fun x n l => Ev.tupK .err (fun ws => List.rec (motive := fun _ => Rs) .err (fun _ r _ => .ok (.tup r) n l) ws) x) (fun x H Q => rSlA K x (some 1) none H Q) := fun x n l w n' l' e M v hn rp rx Q k => by
  obtain ⟨ws, rfl, e1⟩ := tupK_ne e Rs.ne
  cases ws with
  | nil => cases e1
  | cons a r =>
    cases e1
    obtain ⟨p, xs, rfl, _, hH, hx⟩ := rx
    obtain ⟨y, q, rfl, h1, h2⟩ := hx
    have s1 : HT.sIx (y :: q).length 0 (some 1) = 1 := by
      rw [show (some (1 : Int)) = some ((1 : Nat) : Int) from rfl, six0, List.length_cons]
      omega
    refine ⟨p, y :: q, rfl, .inl (.inl hH), fun z => ?_, fun _ => endF hn rp k fun b M' x1 x2 x3 => ⟨b, _, rfl, x2, x3, ?_⟩⟩
    · rw [s1] at z
      exact absurd z.1 (by decide)
    · unfold cutV
      rw [s1, sixN, List.drop_one]
      rw [List.tail_cons, List.take_of_length_le (by simp)]
      exact RVs.mono x1 _ _ h2
theorem ce_from1 (hK : X.K = c.K) {j : Nat} {p3 : Pos} (ha : PE X a (tM c cl ma)) : PE X (.Subscript a (.Slice (some (.Constant (.int 1) j p3)) none none p2) pos) (tM c cl (Ev.eFrom1 ma)) :=
  pe_imp (pe_slice sl_tupA ha (po_some pe_int) po_none) fun σ H Q h => (step1 (st_from1 hK) h).wk fun v H1 h1 => ⟨1, rfl, h1⟩
theorem dropB_eq : ∀ (i : Nat) (ws : List Ev.W), Ev.dropB i ws = ws.drop i
  | 0, ws => rfl
  | i + 1, [] => by
    show Ev.dropB i [] = _
    rw [dropB_eq i []]
    simp
  | i + 1, w :: ws => by
    show Ev.dropB i ws = _
    rw [dropB_eq i ws]
    rfl
theorem rvs_drop {M : Ms} : ∀ (i : Nat) {ws : List Ev.W} {xs : List V}, RVs c M ws xs → RVs c M (ws.drop i) (xs.drop i)
  | 0, _, _, h => h
  | i + 1, [], xs, h => by rw [show xs = [] from h]; rfl
  | i + 1, w :: ws, xs, h => by
    obtain ⟨x, r, rfl, _, h2⟩ := h
    exact rvs_drop i h2
theorem sixM (n : Nat) (h : 2 ≤ n) : HT.sIx n 0 (some (-2)) = n - 2 := by
  unfold HT.sIx
  simp
  omega
theorem st_last2 {K : PySem.W.Frag} (hK : K = c.K) : Step1 c (fun x n l => Ev.tupK .err (fun ws => Bool.rec (motive := fun _ => Rs) .err (.ok (.tup (Ev.dropB (Nat.sub (Ev.lenG ws 0) 2) ws)) n l) (Nat.ble 2 (Ev.lenG ws 0))) x) (fun x H Q => rSlA K x (some (-2)) none H Q) := fun x n l w n' l' e M v hn rp rx Q k => by
  obtain ⟨ws, rfl, e1⟩ := tupK_ne e Rs.ne
  obtain ⟨h0, e2⟩ := ite_ne e1 Rs.ne
  cases e2
  have hl : 2 ≤ ws.length := by
    have := Nat.le_of_ble_eq_true h0
    rw [lenG_eq] at this
    omega
  have hlen : Nat.sub (Ev.lenG ws 0) 2 = ws.length - 2 := by
    rw [lenG_eq, Nat.zero_add]
    rfl
  rw [hlen, dropB_eq] at k
  obtain ⟨p, xs, rfl, np, hH, hx⟩ := rx
  have hxl := hx.length
  have s1 : HT.sIx xs.length 0 (some (-2)) = xs.length - 2 := sixM _ (by omega)
  have cut : cutV xs (some (-2)) none = xs.drop (xs.length - 2) := by
    unfold cutV
    rw [s1, sixN, List.take_of_length_le (by simp)]
  refine ⟨p, xs, rfl, .inl (.inl hH), fun z => ?_, fun _ => endF hn rp k fun b M' x1 x2 x3 => ⟨b, _, rfl, x2, x3, ?_⟩⟩
  · rw [s1] at z
    have h2 : ws.length - 2 = 0 := by rw [hxl]; exact z.1
    rw [h2] at k
    exact k M _ hn rp (Ext.refl M) ⟨p, xs, rfl, np, hH, hx⟩
  · rw [cut, ← hxl]
    exact RVs.mono x1 _ _ (rvs_drop _ hx)
theorem ce_last2 (hK : X.K = c.K) {j : Nat} {p3 p4 : Pos} (ha : PE X a (tM c cl ma)) : PE X (.Subscript a (.Slice (some (.UnaryOp .USub (.Constant (.int 2) j p3) p4)) none none p2) pos) (tM c cl (Ev.eLast2 ma)) :=
  pe_imp (pe_slice sl_tupA ha (po_some (pe_un un_neg pe_int)) po_none) fun σ H Q h => (step1 (st_last2 hK) h).wk fun v H1 h1 => ⟨2, rfl, -2, rfl, h1⟩
theorem st_to1 {K : PySem.W.Frag} (hK : K = c.K) : Step1 c (fun x n l => Ev.lstK .err (fun ws => .ok (.lst (List.rec (motive := fun _ => List Ev.W) [] (fun w _ _ => [w]) ws)) n l) x l) (fun x H Q => rSlL K x none (some 1) H Q) := fun x n l w n' l' e M v hn rp rx Q k => by
  obtain ⟨ws, e1, z⟩ := lstK_ok (c := c) e Rs.ne
  cases e1
  obtain ⟨p, xs, rfl, hH, hx⟩ := z M v rp rx
  refine ⟨p, xs, rfl, .inl (.inl hH), endF hn rp k fun b M' x1 x2 x3 => ⟨b, _, rfl, x2, x3, ?_⟩⟩
  have s1 : HT.sIx xs.length 0 none = 0 := rfl
  cases ws with
  | nil =>
    rw [show xs = [] from hx]
    rfl
  | cons a r =>
    obtain ⟨y, q, rfl, h1, h2⟩ := hx
    have s2 : HT.sIx (y :: q).length (y :: q).length (some 1) = 1 := by
      unfold HT.sIx
      simp
    unfold cutV
    rw [s1, s2]
    exact ⟨y, [], rfl, RV.mono x1 _ _ h1, rfl⟩
theorem ce_to1 (hK : X.K = c.K) {j : Nat} {p3 : Pos} (ha : PE X a (tM c cl ma)) : PE X (.Subscript a (.Slice none (some (.Constant (.int 1) j p3)) none p2) pos) (tM c cl (Ev.eTo1 ma)) :=
  pe_imp (pe_slice sl_list ha po_none (po_some pe_int)) fun σ H Q h => (step1 (st_to1 hK) h).wk fun v H1 h1 => ⟨1, rfl, h1⟩
/-! ### xs[-1] -/
theorem lastK_ok {R : Type} {e r : R} {k : Ev.W → R} (ne : e ≠ r) : ∀ {ws : List Ev.W}, Ev.lastK e k ws = r → ∃ w, k w = r ∧ ∀ (M : Ms) (xs : List V), RVs c M ws xs → ∃ ys y, xs = ys ++ [y] ∧ RV c M w y ∧ RVs c M (Ev.initL ws) ys
  | [], h => absurd h ne
  | [w], h => ⟨w, h, fun M xs hx => by
    obtain ⟨x, q, rfl, h1, h2⟩ := hx
    rw [show q = [] from h2]
    exact ⟨[], x, rfl, h1, rfl⟩⟩
  | w :: u :: r, h => by
    obtain ⟨z, h1, h2⟩ := lastK_ok ne (show Ev.lastK e k (u :: r) = _ from h)
    refine ⟨z, h1, fun M xs hx => ?_⟩
    obtain ⟨x, q, rfl, h3, h4⟩ := hx
    obtain ⟨ys, y, rfl, h5, h6⟩ := h2 M q h4
    exact ⟨x :: ys, y, rfl, h5, x, ys, rfl, h3, h6⟩
theorem ce_lastI (hK : X.K = c.K) {j : Nat} {p3 p4 : Pos} (ha : PE X a (tM c cl ma)) : PE X (.Subscript a (.UnaryOp .USub (.Constant (.int 1) j p3) p4) pos) (tM c cl (Ev.eLastI ma)) :=
  pe_imp (pe_ix ix_list ha (pe_un un_neg pe_int) (fun _ _ => rfl)) fun σ H Q ⟨M, l, s, eH, r, sl, w, n', l', e, k⟩ => by
    subst eH
    obtain ⟨x, n1, l1, e1, e2⟩ := Rs.b_ok e
    obtain ⟨ws, e3, z⟩ := lstK_ok (c := c) e2 Rs.ne
    obtain ⟨u, e4, z2⟩ := lastK_ok (c := c) Rs.ne e3
    cases e4
    refine tM.mk r sl e1 fun M1 v en r1 x1 rx => ?_
    obtain ⟨p, xs, rfl, hH, hx⟩ := z M1 v r1 rx
    obtain ⟨ys, y, rfl, h1, h2⟩ := z2 M1 xs hx
    exact ⟨1, rfl, p, _, -1, y, rfl, rfl, .inl (.inl hH), atI_last ys y, k M1 y en r1 x1 h1⟩
/-! ### + of lists, of tuples -/
theorem app_len (a b : List Ev.W) : (Ev.app a b).length = a.length + b.length := by
  induction a with
  | nil => show b.length = 0 + b.length; omega
  | cons x a ih =>
    show (Ev.app a b).length + 1 = (a.length + 1) + b.length
    rw [ih]
    omega
theorem st_catL : Step2 c (fun x y n l => Ev.lstK .err (fun p => Ev.lstK .err (fun q => Ev.few .err (.ok (.lst (Ev.app p q)) n l) (Ev.app p q)) y l) x l) rCat := fun x y n l w n' l' e M v u hn rp rx ry Q k => by
  obtain ⟨ws, e1, z⟩ := lstK_ok (c := c) e Rs.ne
  obtain ⟨us, e2, z2⟩ := lstK_ok (c := c) e1 Rs.ne
  obtain ⟨hl, e3⟩ := few_ne e2 Rs.ne
  cases e3
  obtain ⟨p, xs, rfl, hH, hx⟩ := z M v rp rx
  obtain ⟨q, ys, rfl, hG, hy⟩ := z2 M u rp ry
  refine ⟨p, q, xs, ys, rfl, rfl, hH, hG, ?_, endF hn rp k fun b M' x1 x2 x3 => ⟨b, _, rfl, x2, x3, RVs.mono x1 _ _ (hx.app hy)⟩⟩
  rw [← hx.length, ← hy.length, ← app_len]
  exact Nat.le_of_lt (line_of hl)
theorem ce_catL (ha : PE X a (tM c cl ma)) (hb : PE X b (tM c cl mb)) : PE X (.BinOp a .Add b pos) (tM c cl (Ev.eCatL ma mb)) := pe_imp (pe_op op_cat ha hb) fun σ H Q h => step2 st_catL h
/-- a new live object, at the end of a step -/
theorem endL {Q : VK} {M : Ms} {l : Hl} {n' : Nat} {o : Ev.O} {u : HO} {n : Nat} (hn : M.n = n) (hn' : n' = n + 1) (rp : Rep c M l) (k : ∀ (M' : Ms) (u : V), M'.n = n' → Rep c M' (.cons n o l) → Ext M M' → RV c M' (.ref n) u → Q u M'.H)
    (ho : ∀ q M', Ext M M' → M'.H q = some u → RO c M' o q) : ∀ q, M.H q = none → Q (.ref q) (upd M.H q u) := fun q hq => by
  subst hn
  exact new_live (o := o) k rp (Ext.refl M) hq (fun x2 => ho q _ x2 upd_same) hn'
theorem st_catM : Step2 c (fun x y n l => Ev.lstK .err (fun p => Ev.lstK .err (fun q => Ev.few .err (.ok (.ref n) (Nat.add n 1) (.cons n (.lst (Ev.app p q)) l)) (Ev.app p q)) y l) x l) rCat := fun x y n l w n' l' e M v u hn rp rx ry Q k => by
  obtain ⟨ws, e1, z⟩ := lstK_ok (c := c) e Rs.ne
  obtain ⟨us, e2, z2⟩ := lstK_ok (c := c) e1 Rs.ne
  obtain ⟨hl, e3⟩ := few_ne e2 Rs.ne
  cases e3
  obtain ⟨p, xs, rfl, hH, hx⟩ := z M v rp rx
  obtain ⟨q, ys, rfl, hG, hy⟩ := z2 M u rp ry
  refine ⟨p, q, xs, ys, rfl, rfl, hH, hG, ?_, endL hn rfl rp k fun b M' x1 x3 => ⟨_, x3, RVs.mono x1 _ _ (hx.app hy)⟩⟩
  rw [← hx.length, ← hy.length, ← app_len]
  exact Nat.le_of_lt (line_of hl)
theorem ce_catM (ha : PE X a (tM c cl ma)) (hb : PE X b (tM c cl mb)) : PE X (.BinOp a .Add b pos) (tM c cl (Ev.eCatM ma mb)) := pe_imp (pe_op op_cat ha hb) fun σ H Q h => step2 st_catM h
theorem st_catT {K : PySem.W.Frag} (hK : K = c.K) : Step2 c (fun x y n l => Ev.tupK .err (fun p => Ev.tupK .err (fun q => Ev.few .err (.ok (.tup (Ev.app p q)) n l) (Ev.app p q)) y) x) (rCatA K) := fun x y n l w n' l' e M v u hn rp rx ry Q k => by
  obtain ⟨ws, rfl, e1⟩ := tupK_ne e Rs.ne
  obtain ⟨us, rfl, e2⟩ := tupK_ne e1 Rs.ne
  obtain ⟨hl, e3⟩ := few_ne e2 Rs.ne
  cases e3
  obtain ⟨p, xs, rfl, np, hH, hx⟩ := rx
  obtain ⟨q, ys, rfl, nq, hG, hy⟩ := ry
  refine ⟨p, q, xs, ys, rfl, rfl, .inl (.inl hH), .inl (.inl hG), ?_, fun z => ?_, fun z1 z => ?_, fun z1 z2 => endF hn rp k fun b M' x1 x2 x3 => ⟨b, _, rfl, x2, x3, RVs.mono x1 _ _ (hx.app hy)⟩⟩
  · rw [← hx.length, ← hy.length, ← app_len]
    exact Nat.le_of_lt (line_of hl)
  · have hxy := hx.app hy
    rw [z] at hxy
    exact k M _ hn rp (Ext.refl M) ⟨q, ys, rfl, nq, hG, hxy⟩
  · have hxy := hx.app hy
    rw [z, List.append_nil] at hxy
    exact k M _ hn rp (Ext.refl M) ⟨p, xs, rfl, np, hH, hxy⟩
theorem ce_catT (hK : X.K = c.K) (ha : PE X a (tM c cl ma)) (hb : PE X b (tM c cl mb)) : PE X (.BinOp a .Add b pos) (tM c cl (Ev.eCatT ma mb)) := pe_imp (pe_op op_catA ha hb) fun σ H Q h => step2 (st_catT hK) h
end
end Sd
end

section
set_option Elab.async false
set_option linter.all false
set_option maxRecDepth 100000
/-! Sd6: built-in functions. -/
namespace Sd
open PySem PySem.Spec PyProof.Rows L2
open Ev (Hl Rs Rb Ra So Sr CallT)
section
variable {X : Cx} {c : Cn} {cl : CallT} {σ : L2.St} {H : Hp} {a b d : Expr} {ma mb md : Ev.D} {pos p pos2 : Pos}
/-! ### len -/
def rLen (K : PySem.W.Frag) : List V → Hp → VK → Prop := fun xs H Q => (∃ p ys, xs = [.ref p] ∧ (SqL K H p ys ∨ SqT K H p ys) ∧ Q (.int ys.length) H) ∨ ∃ p kvs, xs = [.ref p] ∧ Rd H p (.dK kvs) ∧ Q (.int kvs.length) H
theorem call_lenD : CallR X (.builtin "len") (rLen X.K) := call_len_seq.or fun pins s σ H xs us Q I r ⟨p, kvs, e, h, q⟩ => by
  subst e
  obtain ⟨u, rfl, rx⟩ := vals1 r
  cases rx
  exact d_len I h fun t s' I' => ⟨.int kvs.length, H, I', ⟨t, rfl⟩, q⟩
theorem st_len {K : PySem.W.Frag} (hK : K = c.K) : Step1 c (fun x n l => Ev.seqK (Ev.dctK .err (fun t ks _ => Bool.rec (motive := fun _ => Rs) (.ok (.nat (Ev.lenG ks 0)) n l) .err t) x l) (fun ws => .ok (.nat (Ev.lenG ws 0)) n l) x l) (fun v => rLen K [v]) := fun x n l w n' l' e M v hn rp rx Q k => by
  subst hK
  have sq : ∀ ws, (∃ p ys, v = .ref p ∧ (SqL c.K M.H p ys ∨ SqT c.K M.H p ys) ∧ RVs c M ws ys) → Rs.ok (.nat (Ev.lenG ws 0)) n l = .ok w n' l' → rLen c.K [v] M.H Q := fun ws ⟨p, ys, h1, h2, h3⟩ e => by
    cases e
    refine .inl ⟨p, ys, by rw [h1], h2, k M _ hn rp (Ext.refl M) ?_⟩
    show V.int _ = V.int _
    rw [lenG_eq, Nat.zero_add, h3.length]
  have dc : Ev.dctK .err (fun t ks _ => Bool.rec (motive := fun _ => Rs) (.ok (.nat (Ev.lenG ks 0)) n l) .err t) x l = .ok w n' l' → rLen c.K [v] M.H Q := fun e => by
    obtain ⟨t, ks, vs, e1, z⟩ := dctK_ok (c := c) e Rs.ne
    cases t with
    | true => cases e1
    | false =>
      cases e1
      obtain ⟨p, h1, kvs, h2, h3, h4⟩ := z M v rp rx
      refine .inr ⟨p, kvs, by rw [h1], h2, k M _ hn rp (Ext.refl M) ?_⟩
      show V.int _ = V.int _
      have := congrArg List.length h3
      rw [List.length_map, List.length_map] at this
      rw [lenG_eq, Nat.zero_add, this]
  cases x with
  | tup ws =>
    obtain ⟨p, xs, h1, _, h2, h3⟩ := rx
    exact sq ws ⟨p, xs, h1, .inr (.inl (.inl h2)), h3⟩ e
  | wtup ws =>
    obtain ⟨p, xs, h1, h2, h3⟩ := rx
    exact sq ws ⟨p, xs, h1, .inr h2.seq, h3⟩ e
  | lst ws =>
    obtain ⟨p, xs, h1, _, h2, h3⟩ := rx
    exact sq ws ⟨p, xs, h1, .inl (.inl (.inl h2)), h3⟩ e
  | dct t ks vs => exact dc e
  | ref i =>
    have e' : Ev.hget (Ev.hget .err (Ev.oDct .err fun t ks _ => Bool.rec (motive := fun _ => Rs) (.ok (.nat (Ev.lenG ks 0)) n l) .err t) l i) (Ev.oLst (Ev.hget .err (Ev.oDct .err fun t ks _ => Bool.rec (motive := fun _ => Rs) (.ok (.nat (Ev.lenG ks 0)) n l) .err t) l i) (fun ws => .ok (.nat (Ev.lenG ws 0)) n l)) l i = .ok w n' l' := e
    rw [hget_hat] at e'
    cases q : hat l i with
    | none =>
      rw [q] at e'
      exact dc e'
    | some o =>
      rw [q] at e'
      cases o with
      | lst ws =>
        obtain ⟨xs, h2, h3⟩ := rp.obj i _ q
        exact sq ws ⟨_, xs, rx.2, .inl (.inl (.inl h2)), h3⟩ e'
      | dct t ks vs => exact dc e'
      | map _ _ => exact dc e'
      | told _ _ => exact dc e'
      | ins _ _ _ => exact dc e'
  | _ => cases e
theorem ce_len (hK : X.K = c.K) (hg : Gl X "len") (hm : X.mg "len" = none) (ha : PA X [a] (tA c cl (Ev.aCons ma Ev.aNil))) (he : starEach [a] X.env = (false, eval a X.env) :: starEach [] X.env := by rfl) (hpl : (backTo pos (starEach [] X.env)).any (·.1) = false := by rfl) :
    PE X (.Call (.Name "len" p) [a] [] pos) (tM c cl (Ev.eLen ma)) :=
  pe_imp (pe_callB call_lenD hg hm (by first | rfl | decide +kernel) ha (by decide) (by decide) he hpl) fun σ H Q h => arg1 (r := rLen X.K) (st_len hK) h
/-! ### tuple, list -/
theorem st_tuple {K : PySem.W.Frag} (hK : K = c.K) : Step1 c (fun x n l => Ev.lstK (Ev.tupK (Ev.wtupK .err (fun ws => .ok (.wtup ws) n l) x) (fun ws => .ok (.tup ws) n l) x) (fun ws => .ok (.tup ws) n l) x l) (kTup K) := fun x n l w n' l' e M v hn rp rx Q k => by
  subst hK
  have ls : ∀ ws, (∃ p ys, v = .ref p ∧ M.H p = some (.lst ys) ∧ RVs c M ws ys) → Rs.ok (.tup ws) n l = .ok w n' l' → kTup c.K v M.H Q := fun ws ⟨p, ys, h1, h2, h3⟩ e => by
    cases e
    exact .inl ⟨p, ys, h1, .inl (.inl h2), endF hn rp k fun b M' x1 x2 x3 => ⟨b, _, rfl, x2, x3, RVs.mono x1 _ _ h3⟩⟩
  cases x with
  | tup ws =>
    cases e
    obtain ⟨p, xs, h1, h0, h2, h3⟩ := rx
    exact .inr ⟨p, xs, h1, .inl (.inl h2), by rw [← h1]; exact k M _ hn rp (Ext.refl M) ⟨p, xs, h1, h0, h2, h3⟩⟩
  | wtup ws =>
    cases e
    obtain ⟨p, xs, h1, h2, h3⟩ := rx
    exact .inr ⟨p, xs, h1, h2.seq, by rw [← h1]; exact k M _ hn rp (Ext.refl M) ⟨p, xs, h1, h2, h3⟩⟩
  | lst ws =>
    obtain ⟨p, xs, h1, _, h2, h3⟩ := rx
    exact ls ws ⟨p, xs, h1, h2, h3⟩ e
  | ref i =>
    obtain ⟨o, q, e2⟩ := hget_ne (show Ev.hget .err (Ev.oLst .err fun ws => .ok (.tup ws) n l) l i = Rs.ok w n' l' from e) Rs.ne
    obtain ⟨ws, rfl, e3⟩ := oLst_ne e2 Rs.ne
    obtain ⟨xs, h2, h3⟩ := rp.obj i _ q
    exact ls ws ⟨_, xs, rx.2, h2, h3⟩ e3
  | _ => cases e
theorem ce_tuple (hK : X.K = c.K) (hg : Gl X "tuple") (hm : X.mg "tuple" = none) (ha : PE X a (tM c cl ma)) (he : starEach [a] X.env = (false, eval a X.env) :: starEach [] X.env := by rfl) : PE X (.Call (.Name "tuple" p) [a] [] pos) (tM c cl (Ev.eTuple ma)) :=
  pe_imp (pe_tupleOf hg hm ha he) fun σ H Q h => step1 (st_tuple hK) h
theorem st_list {K : PySem.W.Frag} (hK : K = c.K) : Step1 c (fun x n l => Ev.seqK .err (fun ws => .ok (.ref n) (Nat.add n 1) (.cons n (.lst ws) l)) x l)
    (fun v H Q => ∃ p ys, [v] = [.ref p] ∧ (SqL K H p ys ∨ SqT K H p ys) ∧ ∀ l, H l = none → Q (.ref l) (upd H l (.lst ys))) := fun x n l w n' l' e M v hn rp rx Q k => by
  subst hK
  obtain ⟨ws, e1, z⟩ := seqK_ok (c := c) e Rs.ne
  cases e1
  obtain ⟨p, xs, rfl, h1, h2⟩ := z M v rp rx
  exact ⟨p, xs, rfl, h1, endL hn rfl rp k fun b M' x1 x3 => ⟨_, x3, RVs.mono x1 _ _ h2⟩⟩
theorem ce_list (hK : X.K = c.K) (hg : Gl X "list") (hm : X.mg "list" = none) (ha : PA X [a] (tA c cl (Ev.aCons ma Ev.aNil))) (he : starEach [a] X.env = (false, eval a X.env) :: starEach [] X.env := by rfl) (hpl : (backTo pos (starEach [] X.env)).any (·.1) = false := by rfl) :
    PE X (.Call (.Name "list" p) [a] [] pos) (tM c cl (Ev.eList ma)) :=
  pe_imp (pe_callTy call_list_of hg hm (by first | rfl | decide +kernel) ha (by decide) (by decide) he hpl) fun σ H Q h => arg1 (r := fun xs H Q => ∃ p ys, xs = [.ref p] ∧ (SqL X.K H p ys ∨ SqT X.K H p ys) ∧ ∀ l, H l = none → Q (.ref l) (upd H l (.lst ys))) (st_list hK) h
/-! ### the keys of a dict with tuple keys -/
theorem Rep.notTup {M : Ms} {l : Hl} (r : Rep c M l) {b : Addr} {xs : List V} (h : M.H b = some (.tup xs)) : ¬ M.P b := fun z => by
  rcases (r.P b).mp z with ⟨i, o, e1, e2⟩ | z
  rotate_left
  · obtain ⟨⟨u, h1, h2⟩, _⟩ := r.E b z
    rw [h] at h1
    cases h1
    exact h2 xs rfl
  have ro := r.obj i o e1
  rw [e2] at ro
  cases o with
  | lst ws => obtain ⟨xs, h1, _⟩ := ro; rw [h] at h1; cases h1
  | dct t ks vs => cases t <;> (obtain ⟨_, h1, _⟩ := ro; rw [h] at h1; cases h1)
  | map _ _ => obtain ⟨_, h1, _⟩ := ro; rw [h] at h1; cases h1
  | told _ _ => obtain ⟨_, h1, _⟩ := ro; rw [h] at h1; cases h1
  | ins _ _ _ => obtain ⟨_, _, _, h1, _⟩ := ro; rw [h] at h1; cases h1
theorem keyOf_rv {M : Ms} {x : Ev.W} {k : Key} (h : keyOf c x = some k) : RV c M x (kV k) := by
  cases x with
  | nat i => cases h; rfl
  | str i =>
    rw [keyOf_str] at h
    by_cases hi : i < c.ns ∧ Ev.plainS i = true
    · rw [if_pos hi] at h; cases h; exact ⟨hi.1, rfl⟩
    · rw [if_neg hi] at h; cases h
  | _ => cases h
theorem keysOf_rv {M : Ms} : ∀ {l : List Ev.W} {k : List Key}, keysOf c l = some k → RVs c M l (k.map kV)
  | [], k, h => by cases h; rfl
  | x :: l, k, h => by
    unfold keysOf at h
    cases e1 : keyOf c x with
    | none => rw [e1] at h; cases h
    | some a1 =>
      cases e2 : keysOf c l with
      | none => rw [e1, e2] at h; cases h
      | some a2 =>
        rw [e1, e2] at h
        cases h
        exact ⟨kV a1, a2.map kV, rfl, keyOf_rv e1, keysOf_rv e2⟩
theorem tkeys_rv {M : Ms} {l0 : Hl} (r : Rep c M l0) : ∀ {ks : List Ev.W} {kvs : List (List Key × V)} {bs : List Addr}, ks.map (tkeyOf c) = kvs.map (fun p => some p.1) → Paired (fun p b => M.H b = some (.tup (p.1.map kV))) kvs bs → RVs c M ks (bs.map V.ref)
  | [], [], _, _, .nil => rfl
  | [], _ :: _, _, h, _ => by cases h
  | _ :: _, [], _, h, _ => by cases h
  | w :: ks, p :: kvs, _, h, .cons h1 h2 => by
    injection h with h3 h4
    refine ⟨_, _, rfl, ?_, tkeys_rv r h4 h2⟩
    cases w with
    | tup l => exact ⟨_, _, rfl, r.notTup h1, h1, keysOf_rv (show keysOf c l = some p.1 from h3)⟩
    | _ => cases h3
theorem st_keys : Step1 c (fun x n l => Ev.dctK .err (fun t ks _ => Bool.rec (motive := fun _ => Rs) .err (.ok (.lst ks) n l) t) x l)
    (fun v H Q => ∃ d kvs, [v] = [V.ref d] ∧ Rd H d (.dT kvs) ∧ ∀ p bs, H p = none → IsKeys H kvs bs → Q (.ref p) (upd H p (.lst (bs.map V.ref)))) := fun x n l w n' l' e M v hn rp rx Q k => by
  obtain ⟨t, ks, vs, e1, z⟩ := dctK_ok (c := c) e Rs.ne
  cases t with
  | false => cases e1
  | true =>
    cases e1
    obtain ⟨p, rfl, kvs, h2, h3, h4⟩ := z M v rp rx
    exact ⟨p, kvs, rfl, h2, fun q bs hq hb => endF (w := .lst ks) hn rp k (fun b M' x1 x2 x3 => ⟨b, _, rfl, x2, x3, RVs.mono x1 _ _ (tkeys_rv rp h3 hb)⟩) q hq⟩
theorem ce_keys (hc : X.calm = true) (hg : Gl X "list") (hm : X.mg "list" = none) (ha : PA X [a] (tA c cl (Ev.aCons ma Ev.aNil))) (he : starEach [a] X.env = (false, eval a X.env) :: starEach [] X.env := by rfl) (hpl : (backTo pos (starEach [] X.env)).any (·.1) = false := by rfl) :
    PE X (.Call (.Name "list" p) [a] [] pos) (tM c cl (Ev.eKeys ma)) :=
  pe_imp (pe_callTy (call_list_dT hc) hg hm (by first | rfl | decide +kernel) ha (by decide) (by decide) he hpl) fun σ H Q h => arg1 (r := fun xs H Q => ∃ d kvs, xs = [V.ref d] ∧ Rd H d (.dT kvs) ∧ ∀ p bs, H p = none → IsKeys H kvs bs → Q (.ref p) (upd H p (.lst (bs.map V.ref)))) st_keys h
/-! ### list(d.items()) -/
theorem Rep.grow {M : Ms} {l : Hl} (r : Rep c M l) {H' : Hp} (h : ∀ b o, M.H b = some o → H' b = some o) : Rep c { M with H := H' } l ∧ Ext M { M with H := H' } := by
  have ek : ∀ a, M.E a → H' a = M.H a := fun a e => by
    obtain ⟨⟨u, h1, _⟩, _⟩ := r.E a e
    rw [h1]
    exact h _ _ h1
  have ext : Ext M { M with H := H' } := .of (Nat.le_refl _) (fun _ _ => rfl) (fun a o e n => ⟨h a o e, n⟩) fun a e => ⟨e, ek a e⟩
  refine ⟨⟨r.dsc, fun i o e => ?_, r.inj, r.P, fun a e => ?_⟩, ext⟩
  · have ro := r.obj i o e
    obtain ⟨u, hu⟩ := ro.some
    exact ro.mono ext (by
      show H' (M.ρ i) = M.H (M.ρ i)
      rw [hu, h _ _ hu])
  · obtain ⟨⟨x, e3, e4⟩, e5⟩ := r.E a e
    exact ⟨⟨x, (ek a e).trans e3, e4⟩, e5⟩
theorem zip_rv {M : Ms} {H' : Hp} (hP : ∀ t xs, H' t = some (HO.tup xs) → ¬ M.P t) : ∀ {ks vs : List Ev.W} {kvs : List (Key × V)} {ts : List Addr}, ks.map (keyOf c) = kvs.map (fun p => some p.1) → RVs c { M with H := H' } vs (kvs.map (·.2)) →
    Paired (fun (t : Addr) (q : Key × V) => H' t = some (.tup [kV q.1, q.2])) ts kvs → RVs c { M with H := H' } (Ev.zipW ks vs) (ts.map V.ref)
  | [], _, [], _, _, _, .nil => by rfl
  | [], _, _ :: _, _, h, _, _ => by cases h
  | _ :: _, _, [], _, h, _, _ => by cases h
  | k :: ks, [], p :: kvs, _, h, h2, _ => absurd (show (p :: kvs).map (·.2) = [] from h2) (by simp)
  | k :: ks, v :: vs, p :: kvs, _, h, h2, .cons h5 h6 => by
    injection h with h3 h4
    obtain ⟨x, r, e, h7, h8⟩ := h2
    injection e with e1 e2
    refine ⟨_, _, rfl, ⟨_, _, rfl, hP _ _ h5, h5, kV p.1, [p.2], rfl, keyOf_rv h3, p.2, [], rfl, ?_, rfl⟩, zip_rv hP h4 (by rw [show kvs.map (·.2) = r from e2]; exact h8) h6⟩
    rw [show p.2 = x from e1]
    exact h7
theorem st_items : Step1 c (fun x n l => Ev.refK .err (fun i => Ev.hget .err (Ev.oDct .err fun t ks vs => Bool.rec (motive := fun _ => Rs) (.ok (.lst (Ev.zipW ks vs)) n l) .err t) l i) x) LiI.rItemsL := fun x n l w n' l' e M v hn rp rx Q k => by
  obtain ⟨i, rfl, e1⟩ := refK_ne e Rs.ne
  obtain ⟨o, h1, e2⟩ := hget_ne e1 Rs.ne
  obtain ⟨t, ks, vs, rfl, e3⟩ := oDct_ne e2 Rs.ne
  cases t with
  | true => cases e3
  | false =>
    cases e3
    obtain ⟨kvs, h2, h3, h4⟩ := rp.obj i _ h1
    refine ⟨M.ρ i, kvs, rx.2, h2, fun H' p ts g1 g2 g3 g4 g5 g6 => ?_⟩
    obtain ⟨r1, x1⟩ := rp.grow (H' := H') g1
    refine k { M with H := H' } _ hn r1 x1 ⟨p, _, rfl, rp.notNew g2, g5, zip_rv (fun t xs ht => r1.notTup ht) h3 (RVs.mono x1 _ _ h4) g6⟩
theorem ce_items {apos cpos : Pos} (hc : X.calm = true) (hg : Gl X "list") (hm : X.mg "list" = none) (ha : PE X a (tM c cl ma)) (hbase : attributeBase a "items" X.env (eval a X.env) = eval a X.env := by rfl) (hline : (apos.endLine == cpos.line) = true := by rfl)
    (hs : starEach [.Call (.Attribute a "items" apos) [] [] cpos] X.env = (false, eval (.Call (.Attribute a "items" apos) [] [] cpos) X.env) :: starEach [] X.env := by rfl) :
    PE X (.Call (.Name "list" p) [.Call (.Attribute a "items" apos) [] [] cpos] [] pos) (tM c cl (Ev.eItems ma)) :=
  pe_imp (LiI.pe_listItems hc ha hg hm (by first | rfl | decide +kernel) hbase hline hs) fun σ H Q h => step1 st_items h
/-! ### any, all, max, int, sorted, range -/
theorem anyB_ok {R : Type} {e r : R} {k : Bool → R} (ne : e ≠ r) : ∀ {ws : List Ev.W} {d : Bool}, List.rec (motive := fun _ => Bool → R) k (fun w _ ih d => Ev.blK e (fun b => ih (Bool.rec (motive := fun _ => Bool) d true b)) w) ws d = r →
    ∃ bs : List Bool, k (d || bs.any id) = r ∧ ∀ M xs, RVs c M ws xs → xs = bs.map V.bl
  | [], d, h => ⟨[], by rw [List.any_nil, Bool.or_false]; exact h, fun M xs hx => hx⟩
  | w :: ws, d, h => by
    obtain ⟨b, rfl, h2⟩ := blK_ne (show Ev.blK e (fun b => List.rec (motive := fun _ => Bool → R) k (fun w _ ih d => Ev.blK e (fun b => ih (Bool.rec (motive := fun _ => Bool) d true b)) w) ws (Bool.rec (motive := fun _ => Bool) d true b)) w = r from h) ne
    obtain ⟨bs, h3, h4⟩ := anyB_ok ne h2
    refine ⟨b :: bs, ?_, fun M xs hx => ?_⟩
    · rw [List.any_cons]
      cases b with
      | true => exact (by simpa using h3)
      | false => exact h3
    · obtain ⟨x, q, rfl, h5, h6⟩ := hx
      rw [show x = .bl b from h5, h4 M q h6]
      rfl
theorem allB_ok {R : Type} {e r : R} {k : Bool → R} (ne : e ≠ r) : ∀ {ws : List Ev.W} {d : Bool}, List.rec (motive := fun _ => Bool → R) k (fun w _ ih d => Ev.blK e (fun b => ih (Bool.rec (motive := fun _ => Bool) false d b)) w) ws d = r →
    ∃ bs : List Bool, k (d && bs.all id) = r ∧ ∀ M xs, RVs c M ws xs → xs = bs.map V.bl
  | [], d, h => ⟨[], by rw [List.all_nil, Bool.and_true]; exact h, fun M xs hx => hx⟩
  | w :: ws, d, h => by
    obtain ⟨b, rfl, h2⟩ := blK_ne (show Ev.blK e (fun b => List.rec (motive := fun _ => Bool → R) k (fun w _ ih d => Ev.blK e (fun b => ih (Bool.rec (motive := fun _ => Bool) false d b)) w) ws (Bool.rec (motive := fun _ => Bool) false d b)) w = r from h) ne
    obtain ⟨bs, h3, h4⟩ := allB_ok ne h2
    refine ⟨b :: bs, ?_, fun M xs hx => ?_⟩
    · rw [List.all_cons]
      cases b with
      | false => exact (by simpa using h3)
      | true => exact h3
    · obtain ⟨x, q, rfl, h5, h6⟩ := hx
      rw [show x = .bl b from h5, h4 M q h6]
      rfl
theorem st_any {K : PySem.W.Frag} (hK : K = c.K) : Step1 c (fun x n l => Ev.lstK .err (fun ws => Ev.anyB .err (fun b => .ok (.bl b) n l) ws) x l) (fun v => rAny K [v]) := fun x n l w n' l' e M v hn rp rx Q k => by
  obtain ⟨ws, e1, z⟩ := lstK_ok (c := c) e Rs.ne
  obtain ⟨bs, e2, z2⟩ := anyB_ok (c := c) Rs.ne e1
  cases e2
  obtain ⟨p, xs, rfl, h1, h2⟩ := z M v rp rx
  rw [z2 M xs h2] at h1
  exact ⟨p, bs, rfl, .inl (.inl h1), k M _ hn rp (Ext.refl M) rfl⟩
theorem st_all {K : PySem.W.Frag} (hK : K = c.K) : Step1 c (fun x n l => Ev.lstK .err (fun ws => Ev.allB .err (fun b => .ok (.bl b) n l) ws) x l) (fun v => rAll K [v]) := fun x n l w n' l' e M v hn rp rx Q k => by
  obtain ⟨ws, e1, z⟩ := lstK_ok (c := c) e Rs.ne
  obtain ⟨bs, e2, z2⟩ := allB_ok (c := c) Rs.ne e1
  cases e2
  obtain ⟨p, xs, rfl, h1, h2⟩ := z M v rp rx
  rw [z2 M xs h2] at h1
  exact ⟨p, bs, rfl, .inl (.inl h1), k M _ hn rp (Ext.refl M) rfl⟩
theorem ce_any (hK : X.K = c.K) (hc : X.calm = true) (hg : Gl X "any") (hm : X.mg "any" = none) (ha : PA X [a] (tA c cl (Ev.aCons ma Ev.aNil))) (he : starEach [a] X.env = (false, eval a X.env) :: starEach [] X.env := by rfl) (hpl : (backTo pos (starEach [] X.env)).any (·.1) = false := by rfl) :
    PE X (.Call (.Name "any" p) [a] [] pos) (tM c cl (Ev.eAny ma)) :=
  pe_imp (pe_callB (cr_any hc) hg hm (by first | rfl | decide +kernel) ha (by decide) (by decide) he hpl) fun σ H Q h => arg1 (r := rAny X.K) (st_any hK) h
theorem ce_all (hK : X.K = c.K) (hc : X.calm = true) (hg : Gl X "all") (hm : X.mg "all" = none) (ha : PA X [a] (tA c cl (Ev.aCons ma Ev.aNil))) (he : starEach [a] X.env = (false, eval a X.env) :: starEach [] X.env := by rfl) (hpl : (backTo pos (starEach [] X.env)).any (·.1) = false := by rfl) :
    PE X (.Call (.Name "all" p) [a] [] pos) (tM c cl (Ev.eAll ma)) :=
  pe_imp (pe_callB (cr_all hc) hg hm (by first | rfl | decide +kernel) ha (by decide) (by decide) he hpl) fun σ H Q h => arg1 (r := rAll X.K) (st_all hK) h
theorem st_max : Step2 c (fun x y n l => Ev.natK .err (fun i => Ev.natK .err (fun j => .ok (.nat (Bool.rec (motive := fun _ => Nat) i j (Nat.blt i j))) n l) y) x) (fun v u H Q => ∃ i j, [v, u] = [.int i, .int j] ∧ Q (.int (if j > i then j else i)) H) := fun x y n l w n' l' e M v u hn rp rx ry Q k => by
  obtain ⟨i, rfl, e1⟩ := natK_ne e Rs.ne
  obtain ⟨j, rfl, e2⟩ := natK_ne e1 Rs.ne
  cases e2
  refine ⟨i, j, by rw [show v = .int (i : Int) from rx, show u = .int (j : Int) from ry], k M _ hn rp (Ext.refl M) ?_⟩
  show V.int _ = V.int _
  cases q : Nat.blt i j with
  | true =>
    have : i < j := Nat.le_of_ble_eq_true q
    rw [if_pos (by omega)]
  | false =>
    rw [if_neg fun z => ?_]
    have h1 : Nat.blt i j = true := Nat.ble_eq_true_of_le (show i + 1 ≤ j by omega)
    rw [q] at h1
    cases h1
theorem ce_max (hc : X.calm = true) (hg : Gl X "max") (hm : X.mg "max" = none) (ha : PA X [a, b] (tA c cl (Ev.aCons ma (Ev.aCons mb Ev.aNil)))) (he : starEach [a, b] X.env = (false, eval a X.env) :: starEach [b] X.env := by rfl) (hpl : (backTo pos (starEach [b] X.env)).any (·.1) = false := by rfl) :
    PE X (.Call (.Name "max" p) [a, b] [] pos) (tM c cl (Ev.eMax ma mb)) :=
  pe_imp (pe_callB (call_max2 hc) hg hm (by first | rfl | decide +kernel) ha (by decide) (by decide) he hpl) fun σ H Q h => arg2 (r := fun xs H Q => ∃ i j, xs = [.int i, .int j] ∧ Q (.int (if j > i then j else i)) H) st_max h
theorem st_int : Step1 c (fun x n l => Ev.natK .err (fun i => .ok (.nat i) n l) x) (fun v H Q => (∃ i, [v] = [.int i] ∧ Q (.int i) H) ∨ ∃ k, [v] = [.bl k] ∧ Q (.int (if k then 1 else 0)) H) := fun x n l w n' l' e M v hn rp rx Q k => by
  obtain ⟨i, rfl, e1⟩ := natK_ne e Rs.ne
  cases e1
  exact .inl ⟨i, by rw [show v = .int (i : Int) from rx], k M _ hn rp (Ext.refl M) rfl⟩
theorem ce_int1 (hg : Gl X "int") (hm : X.mg "int" = none) (ha : PA X [a] (tA c cl (Ev.aCons ma Ev.aNil))) (he : starEach [a] X.env = (false, eval a X.env) :: starEach [] X.env := by rfl) (hpl : (backTo pos (starEach [] X.env)).any (·.1) = false := by rfl) :
    PE X (.Call (.Name "int" p) [a] [] pos) (tM c cl (Ev.eInt ma)) :=
  pe_imp (pe_callTy call_int1 hg hm (by first | rfl | decide +kernel) ha (by decide) (by decide) he hpl) fun σ H Q h => arg1 (r := fun xs H Q => (∃ i, xs = [.int i] ∧ Q (.int i) H) ∨ ∃ k, xs = [.bl k] ∧ Q (.int (if k then 1 else 0)) H) st_int h
def insN (i : Nat) : List Nat → List Nat
  | [] => [i]
  | j :: r => if Nat.ble i j = true then i :: j :: r else j :: insN i r
def srtN : List Nat → List Nat
  | [] => []
  | i :: r => insN i (srtN r)
theorem ins_eq (i : Nat) : ∀ ks : List Nat, Ev.ins i (ks.map .nat) = (insN i ks).map .nat
  | [] => rfl
  | j :: r => by
    have ih := ins_eq i r
    show Bool.rec (motive := fun _ => List Ev.W) (.nat j :: Ev.ins i (r.map .nat)) (.nat i :: .nat j :: r.map .nat) (Nat.ble i j) = _
    unfold insN
    cases Nat.ble i j with
    | true => rfl
    | false =>
      rw [if_neg Bool.false_ne_true, ih]
      rfl
theorem srt_eq : ∀ ks : List Nat, Ev.srt (ks.map .nat) = (srtN ks).map .nat
  | [] => rfl
  | i :: r => by
    have ih := srt_eq r
    show Ev.ins i (Ev.srt (r.map .nat)) = _
    rw [ih, ins_eq]
    rfl
theorem ins_perm (i : Nat) : ∀ ks : List Nat, (insN i ks).Perm (i :: ks)
  | [] => List.Perm.refl _
  | j :: r => by
    unfold insN
    by_cases h : Nat.ble i j = true
    · rw [if_pos h]
    · rw [if_neg h]
      exact ((ins_perm i r).cons j).trans (List.Perm.swap i j r)
theorem srt_perm : ∀ ks : List Nat, (srtN ks).Perm ks
  | [] => List.Perm.refl _
  | i :: r => (ins_perm i (srtN r)).trans ((srt_perm r).cons i)
theorem ins_pw (i : Nat) : ∀ ks : List Nat, ks.Pairwise (· ≤ ·) → (insN i ks).Pairwise (· ≤ ·)
  | [], _ => List.pairwise_singleton _ _
  | j :: r, h => by
    have h1 := List.pairwise_cons.mp h
    unfold insN
    by_cases q : Nat.ble i j = true
    · rw [if_pos q]
      have qq := Nat.le_of_ble_eq_true q
      refine List.pairwise_cons.mpr ⟨fun a ha => ?_, h⟩
      rcases List.mem_cons.mp ha with rfl | ha
      · exact qq
      · exact Nat.le_trans qq (h1.1 a ha)
    · rw [if_neg q]
      refine List.pairwise_cons.mpr ⟨fun a ha => ?_, ins_pw i r h1.2⟩
      rcases List.mem_cons.mp ((ins_perm i r).mem_iff.mp ha) with rfl | ha
      · have : ¬ a ≤ j := fun z => q (Nat.ble_eq_true_of_le z)
        omega
      · exact h1.1 a ha
theorem srt_pw : ∀ ks : List Nat, (srtN ks).Pairwise (· ≤ ·)
  | [] => List.Pairwise.nil
  | i :: r => ins_pw i _ (srt_pw r)
theorem srt_only {ks : List Nat} {ns : List Int} (h1 : ns.Perm (ks.map Int.ofNat)) (h2 : ns.Pairwise (· ≤ ·)) : ns = (srtN ks).map Int.ofNat := by
  refine List.Perm.eq_of_pairwise (le := (· ≤ ·)) (fun a b _ _ h3 h4 => Int.le_antisymm h3 h4) h2 ?_ (h1.trans ((srt_perm ks).map Int.ofNat).symm)
  exact List.pairwise_map.mpr ((srt_pw ks).imp fun h => Int.ofNat_le.mpr h)
theorem st_sorted {K : PySem.W.Frag} (hK : K = c.K) : Step1 c (fun x n l => Ev.lstK .err (fun ws => Bool.rec (motive := fun _ => Rs) .err (.ok (.lst (Ev.srt ws)) n l) (Ev.allNat ws)) x l) (fun v => rSortedI K [v]) := fun x n l w n' l' e M v hn rp rx Q k => by
  obtain ⟨ws, e1, z⟩ := lstK_ok (c := c) e Rs.ne
  obtain ⟨h0, e2⟩ := ite_ne e1 Rs.ne
  cases e2
  obtain ⟨ks, rfl⟩ := allNat_ks h0
  obtain ⟨p, xs, rfl, h1, h2⟩ := z M v rp rx
  rw [nats_rv h2] at h1
  rw [srt_eq] at k
  refine ⟨p, ks.map Int.ofNat, rfl, .inl (.inl h1), fun ns q g1 g2 => ?_⟩
  rw [srt_only g1 g2]
  exact endF hn rp k (fun b M' x1 x2 x3 => ⟨b, _, rfl, x2, x3, rv_nats⟩) q
theorem ce_sorted (hK : X.K = c.K) (hg : Gl X "sorted") (hm : X.mg "sorted" = none) (ha : PA X [a] (tA c cl (Ev.aCons ma Ev.aNil))) (he : starEach [a] X.env = (false, eval a X.env) :: starEach [] X.env := by rfl) (hpl : (backTo pos (starEach [] X.env)).any (·.1) = false := by rfl) :
    PE X (.Call (.Name "sorted" p) [a] [] pos) (tM c cl (Ev.eSorted ma)) :=
  pe_imp (pe_callB cr_sortedI hg hm (by first | rfl | decide +kernel) ha (by decide) (by decide) he hpl) fun σ H Q h => arg1 (r := rSortedI X.K) (st_sorted hK) h
/-- range(k), as a value -/
def rRange : List V → Hp → VK → Prop := fun xs H Q => ∃ i : Int, xs = [.int i] ∧ ∀ p, H p = none → Q (.ref p) (upd H p (.rng 0 i))
theorem call_rangeV : CallR X (.type "range") rRange := by
  intro pins s σ H xs us Q I r h
  obtain ⟨i, rfl, q⟩ := h
  obtain ⟨u, rfl, t, rfl⟩ := vals1 r
  exact call_range_1 ⟨.ref s.heap.objs.size, _, I.laid (o := .rng 0 i) (fun b ob q => Heap.get?_push_of_some _ q) (Nat.le_refl _) ⟨_, _, _, Heap.get?_push_size _ rfl⟩, rfl, q _ (I.hok.fresh (Nat.le_refl _))⟩
theorem st_range : Step1 c (fun x n l => Ev.natK .err (fun k => .ok (.rng k) n l) x) (fun v => rRange [v]) := fun x n l w n' l' e M v hn rp rx Q k => by
  obtain ⟨i, rfl, e1⟩ := natK_ne e Rs.ne
  cases e1
  exact ⟨i, by rw [show v = .int (i : Int) from rx], endF hn rp k fun b M' x1 x2 x3 => ⟨b, rfl, x2, x3⟩⟩
theorem ce_range (hg : Gl X "range") (hm : X.mg "range" = none) (ha : PA X [a] (tA c cl (Ev.aCons ma Ev.aNil))) (he : starEach [a] X.env = (false, eval a X.env) :: starEach [] X.env := by rfl) (hpl : (backTo pos (starEach [] X.env)).any (·.1) = false := by rfl) :
    PE X (.Call (.Name "range" p) [a] [] pos) (tM c cl (Ev.eRange ma)) :=
  pe_imp (pe_callTy call_rangeV hg hm (by first | rfl | decide +kernel) ha (by decide) (by decide) he hpl) fun σ H Q h => arg1 (r := rRange) st_range h
end
end Sd
end

section
set_option Elab.async false
set_option linter.all false
set_option maxRecDepth 100000
/-! Sd7: isinstance, methods of lists, tuples, dicts. -/
namespace Sd
open PySem PySem.Spec PyProof.Rows L2
open Ev (Hl Rs Rb Ra So Sr CallT)
section
variable {X : Cx} {c : Cn} {cl : CallT} {σ : L2.St} {H : Hp} {a b d : Expr} {ma mb md : Ev.D} {pos p pos2 apos cpos : Pos}
/-! ### isinstance -/
def kn : Nat → String
  | 0 => "NoneType"
  | 1 => "bool"
  | 2 => "int"
  | 3 => "str"
  | 4 => "tuple"
  | 5 => "list"
  | _ => "dict"
theorem kind_ok {M : Ms} {l : Hl} {x : Ev.W} {v : V} (h : Ev.kind x l ≤ 6) (rp : Rep c M l) (rx : RV c M x v) : TyX c.K M.H v (.type (kn (Ev.kind x l))) := by
  have no9 : ¬ (9 ≤ 6) := by decide
  cases x with
  | un => exact rx.elim
  | non => rw [show v = .non from rx]; exact .base .non
  | bl t => rw [show v = .bl t from rx]; exact .base (.bl t)
  | nat i => rw [show v = .int (i : Int) from rx]; exact .base (.int _)
  | str i => rw [rx.2]; exact .base (.str _)
  | tup ws => obtain ⟨q, xs, rfl, _, h1, _⟩ := rx; exact .base (.tup h1)
  | wtup ws =>
    obtain ⟨q, xs, rfl, h1, _⟩ := rx
    rcases h1 with ⟨_, o, h2, h3, _⟩ | ⟨_, o, h2, _⟩
    · exact .kTuple h2 h3
    · exact .fTuple h2
  | lst ws => obtain ⟨q, xs, rfl, _, h1, _⟩ := rx; exact .base (.lst h1)
  | dct t ks vs =>
    cases t with
    | true => exact absurd h no9
    | false =>
      obtain ⟨q, rfl, _, kvs, h1, _⟩ := rx
      rcases h1 with h1 | ⟨o, h1⟩
      · exact .base (.dK h1)
      · exact .fDict h1
  | obj _ _ _ => exact absurd h no9
  | rng _ => exact absurd h no9
  | ref i =>
    have e : Ev.kind (.ref i) l = Ev.hget 9 (fun o => Ev.O.rec (motive := fun _ => Nat) (fun _ => 5) (fun _ _ _ => 6) (fun _ _ => 6) (fun _ _ => 9) (fun _ _ _ => 9) o) l i := rfl
    rw [hget_hat] at e
    cases q : hat l i with
    | none => rw [q] at e; rw [e] at h; exact absurd h no9
    | some o =>
      rw [q] at e
      have ro := rp.obj i _ q
      rw [rx.2]
      cases o with
      | lst ws => rw [e]; obtain ⟨xs, h1, _⟩ := ro; exact .base (.lst h1)
      | dct t ks vs =>
        rw [e]
        cases t with
        | false => obtain ⟨kvs, h1, _⟩ := ro; exact .base (.dK h1)
        | true => obtain ⟨kvs, h1, _⟩ := ro; exact .base (.dT h1)
      | map _ _ => rw [e]; obtain ⟨kvs, h1, _⟩ := ro; exact .base (.dT h1)
      | told _ _ => rw [e] at h; exact absurd h no9
      | ins _ _ _ => rw [e] at h; exact absurd h no9
/-- what the bits of m say of the class cn -/
def KindBits (m : Nat) (cn : String) : Prop := ∀ k, k ≤ 6 → kitB (kn k) cn = some (Nat.testBit m k)
theorem st_isi {K : PySem.W.Frag} (hK : K = c.K) {m : Nat} {cn : String} (hb : KindBits m cn) : Step1 c (fun x n l => Bool.rec (motive := fun _ => Rs) .err (.ok (.bl (Nat.testBit m (Ev.kind x l))) n l) (Nat.ble (Ev.kind x l) 6)) (fun v => rIsi K [v, .ty cn]) := fun x n l w n' l' e M v hn rp rx Q k => by
  subst hK
  obtain ⟨h1, e1⟩ := ite_ne e Rs.ne
  have h2 := Nat.le_of_ble_eq_true h1
  cases e1
  exact ⟨v, .ty cn, _, .type cn, _, rfl, .ty cn, kind_ok h2 rp rx, kit_ty (hb _ h2), k M _ hn rp (Ext.refl M) rfl⟩
theorem ce_isi {m : Nat} {cn : Str} {cs : String} {p1 : Pos} (hK : X.K = c.K) (hb : KindBits m cs) (hg : Gl X "isinstance") (hm : X.mg "isinstance" = none) (hgc : Gl X cn) (hmc : X.mg cn = none) (hv : bootBuiltins cn = some (.type cs)) (ha : PE X a (tM c cl ma))
    (hn : cn ≠ "__name__" := by decide) (hd : (cn == ("__debug__" : Str)) = false := by decide)
    (he : starEach [a, .Name cn p1] X.env = (false, eval a X.env) :: starEach [.Name cn p1] X.env := by rfl) (hpl : (backTo pos (starEach [.Name cn p1] X.env)).any (·.1) = false := by rfl) :
    PE X (.Call (.Name "isinstance" p) [a, .Name cn p1] [] pos) (tM c cl (Ev.eIsi m ma)) :=
  pe_imp (pe_callB call_isi hg hm (by first | rfl | decide +kernel) (pa_cons ha (pa_cons (pe_bltn (v := .ty cs) hgc hmc hv rfl hn hd) pa_nil rfl) he) (by decide) (by decide) he hpl) fun σ H Q h => step1 (st_isi hK hb) h
/-- isinstance(x, (C, D)) -/
def KindBits2 (m : Nat) (c1 c2 : String) : Prop := ∀ k, k ≤ 6 → ∃ b1 b2, kitB (kn k) c1 = some b1 ∧ kitB (kn k) c2 = some b2 ∧ (b1 || b2) = Nat.testBit m k
theorem st_isi2 {K : PySem.W.Frag} (hK : K = c.K) {m : Nat} {c1 c2 : String} (hb : KindBits2 m c1 c2) : Step1 c (fun x n l => Bool.rec (motive := fun _ => Rs) .err (.ok (.bl (Nat.testBit m (Ev.kind x l))) n l) (Nat.ble (Ev.kind x l) 6))
    (fun v H Q => ([V.ty c1, V.ty c2] : List V).length ≤ sizeLine ∧ ∀ q, H q = none → rIsiT K [v, .ref q] (upd H q (.tup [.ty c1, .ty c2])) Q) := fun x n l w n' l' e M v hn rp rx Q k => by
  subst hK
  obtain ⟨h1, e1⟩ := ite_ne e Rs.ne
  have h2 := Nat.le_of_ble_eq_true h1
  cases e1
  refine ⟨by rw [sizeLine_eq]; show 2 ≤ 16777216; decide, fun q hq => ?_⟩
  obtain ⟨r1, x1, _⟩ := rp.frozen (u := .tup [.ty c1, .ty c2]) hq
  obtain ⟨b1, b2, g1, g2, g3⟩ := hb _ h2
  have ka : PySem.W.kitAny c.K (.type (kn (Ev.kind x l))) [.type c1, .type c2] = some (b1 || b2) := by
    refine kitAny_cons (r := b1 || b2) (kit_ty g1) (fun z => ?_) (fun z => by rw [z]; rfl)
    rw [z]
    refine kitAny_cons (r := b2) (kit_ty g2) (fun z => ?_) (fun z => z)
    rw [z]
    rfl
  rw [g3] at ka
  exact ⟨v, q, _, _, _, _, rfl, upd_same, .cons (.ty c1) (.cons (.ty c2) .nil), kind_ok h2 r1 (RV.mono x1 _ _ rx), ka, k { M with H := upd M.H q (.tup [.ty c1, .ty c2]) } _ hn r1 x1 rfl⟩
theorem ce_isi2 {m : Nat} {cn1 cn2 : Str} {c1 c2 : String} {p1 p2 p3 : Pos} {x1} (hK : X.K = c.K) (hb : KindBits2 m c1 c2) (hg : Gl X "isinstance") (hm : X.mg "isinstance" = none) (hgc : Gl X cn1) (hmc : X.mg cn1 = none) (hv : bootBuiltins cn1 = some (.type c1))
    (hgd : Gl X cn2) (hmd : X.mg cn2 = none) (hv2 : bootBuiltins cn2 = some (.type c2)) (ha : PE X a (tM c cl ma))
    (hn : cn1 ≠ "__name__" := by decide) (hd : (cn1 == ("__debug__" : Str)) = false := by decide) (hn2 : cn2 ≠ "__name__" := by decide) (hd2 : (cn2 == ("__debug__" : Str)) = false := by decide)
    (he : starEach [a, .Tuple [.Name cn1 p1, .Name cn2 p2] x1 p3] X.env = (false, eval a X.env) :: starEach [.Tuple [.Name cn1 p1, .Name cn2 p2] x1 p3] X.env := by rfl) (hpl : (backTo pos (starEach [.Tuple [.Name cn1 p1, .Name cn2 p2] x1 p3] X.env)).any (·.1) = false := by rfl) :
    PE X (.Call (.Name "isinstance" p) [a, .Tuple [.Name cn1 p1, .Name cn2 p2] x1 p3] [] pos) (tM c cl (Ev.eIsi m ma)) :=
  pe_imp (pe_callB call_isiT hg hm (by first | rfl | decide +kernel) (pa_cons ha (pa_cons (pe_tup (pa_cons (pe_bltn (v := .ty c1) hgc hmc hv rfl hn hd) (pa_cons (pe_bltn (v := .ty c2) hgd hmd hv2 rfl hn2 hd2) pa_nil rfl) rfl)) pa_nil rfl) he) (by decide) (by decide) he hpl) fun σ H Q h => step1 (st_isi2 hK hb) h
/-! ### methods of lists -/
theorem liveL_ok {R : Type} {e r : R} {k : Nat → List Ev.W → R} {w : Ev.W} {l : Hl} (h : Ev.liveL e k w l = r) (ne : e ≠ r) : ∃ i ws, w = .ref i ∧ hat l i = some (.lst ws) ∧ k i ws = r := by
  obtain ⟨i, rfl, h1⟩ := refK_ne (show Ev.refK e (fun i => Ev.hget e (Ev.oLst e (k i)) l i) w = r from h) ne
  obtain ⟨o, h2, h3⟩ := hget_ne h1 ne
  obtain ⟨ws, rfl, h4⟩ := oLst_ne h3 ne
  exact ⟨i, ws, rfl, h2, h4⟩
theorem tyL {M : Ms} {l : Hl} {i : Nat} {ws : List Ev.W} {v : V} (rp : Rep c M l) (h : hat l i = some (.lst ws)) (rx : RV c M (.ref i) v) : tyV c.K "list" v M.H := by
  obtain ⟨xs, h1, _⟩ := rp.obj i _ h
  rw [rx.2]
  exact .inl ⟨rfl, xs, .inl (.inl h1)⟩
theorem st_pop {K : PySem.W.Frag} (hK : K = c.K) : Step1 c (fun x n l => Ev.liveL .err (fun i ws => Ev.lastK .err (fun v => .ok v n (Ev.hset l i (.lst (Ev.initL ws)))) ws) x l) (fun v H Q => tyV K "list" v H ∧ rPop v [] H Q) := fun x n l w n' l' e M v hn rp rx Q k => by
  subst hK
  obtain ⟨i, ws, rfl, h1, e1⟩ := liveL_ok e Rs.ne
  obtain ⟨u, e2, z⟩ := lastK_ok (c := c) Rs.ne e1
  cases e2
  refine ⟨tyL rp h1 rx, ?_⟩
  obtain ⟨xs, h2, h3⟩ := rp.obj i _ h1
  obtain ⟨ys, y, rfl, h4, h5⟩ := z M xs h3
  refine ⟨M.ρ i, ys ++ [y], y, rx.2, rfl, h2, by simp, ?_⟩
  rw [List.dropLast_concat]
  have x1 := rp.wExt (u := .lst ys) h1
  obtain ⟨r2, _⟩ := rp.write (u := .lst ys) (o' := .lst (Ev.initL ws)) h1 ⟨ys, upd_same, RVs.mono x1 _ _ h5⟩
  exact k { M with H := upd M.H (M.ρ i) (.lst ys) } _ hn r2 x1 (RV.mono x1 _ _ h4)
theorem ce_pop (hK : X.K = c.K) (ha : PE X a (tM c cl ma)) (hbase : attributeBase a "pop" X.env (eval a X.env) = eval a X.env := by rfl) (hline : (apos.endLine == cpos.line) = true := by rfl) : PE X (.Call (.Attribute a "pop" apos) [] [] cpos) (tM c cl (Ev.ePop ma)) :=
  pe_imp (pe_bm0 PySem.F.plainAttrs_list PySem.F.slot_list_pop PySem.F.type_list_pop mt_pop ha hbase hline) fun σ H Q h => step1 (st_pop hK) h
/-- an object, then an argument: both seen by the machine before the step -/
theorem app_lemma {Q : VK} {r : V → List V → Hp → VK → Prop} {K2 : Ev.W → Ev.W → Nat → Hl → Rs} {T : V → Hp → Prop} {G : Ev.W → Hl → Prop} (hT : ∀ (M : Ms) (l : Hl) (x : Ev.W) (v : V), Rep c M l → RV c M x v → G x l → T v M.H)
    (S : Step2 c K2 fun v u => r v [u]) {pre : (Ev.W → Nat → Hl → Rs) → Ev.W → Nat → Hl → Rs} (hp : ∀ k x n l w n' l', pre k x n l = .ok w n' l' → G x l ∧ k x n l = .ok w n' l')
    (h : tM c cl (fun c s n l => (ma c s n l).b (pre fun x n1 l1 => (mb c s n1 l1).b (K2 x))) σ H Q) : tM c cl ma σ H fun v H1 => T v H1 ∧ tA c cl (Ev.aCons mb Ev.aNil) σ H1 fun vs H2 => r v vs H2 Q := by
  obtain ⟨M, l, s, eH, rp, sl, w, n', l', e, k⟩ := h
  subst eH
  obtain ⟨x, n1, l1, e1, e2⟩ := Rs.b_ok e
  obtain ⟨g, e3⟩ := hp _ _ _ _ _ _ _ e2
  obtain ⟨y, n2, l2, e4, e5⟩ := Rs.b_ok e3
  refine tM.mk rp sl e1 fun M1 v en r1 x1 rx => ⟨hT M1 l1 x v r1 rx g, ?_⟩
  have e0 : Ev.aCons mb Ev.aNil cl s M1.n l1 = .ok [y] n2 l2 := by
    rw [en]
    show (mb cl s n1 l1).ba _ = _
    rw [e4]
    rfl
  refine tA.mk r1 (sl.mono x1) e0 fun M2 vs en2 r2 x2 rvs => ?_
  obtain ⟨u, q, rfl, ru, rq⟩ := rvs
  rw [show q = [] from rq]
  exact S x y n2 l2 w n' l' e5 M2 v u en2 r2 (RV.mono x2 _ _ rx) ru Q fun M' u h1 h2 h3 h4 => k M' u h1 h2 ((x1.trans x2).trans h3) h4
theorem preL (k : Ev.W → Nat → Hl → Rs) (x : Ev.W) (n : Nat) (l : Hl) (w : Ev.W) (n' : Nat) (l' : Hl) (h : Ev.liveL Rs.err (fun _ _ => k x n l) x l = .ok w n' l') : (∃ i ws, x = .ref i ∧ hat l i = some (.lst ws)) ∧ k x n l = .ok w n' l' := by
  obtain ⟨i, ws, h1, h2, h3⟩ := liveL_ok h Rs.ne
  exact ⟨⟨i, ws, h1, h2⟩, h3⟩
theorem st_append : Step2 c (fun x y n l => Ev.liveL .err (fun i ws => Ev.few .err (.ok .non n (Ev.hset l i (.lst (Ev.app ws [y])))) ws) x l) (fun v u => rAppend v [u]) := fun x y n l w n' l' e M v u hn rp rx ry Q k => by
  obtain ⟨i, ws, rfl, h1, e1⟩ := liveL_ok e Rs.ne
  obtain ⟨hl, e2⟩ := few_ne e1 Rs.ne
  cases e2
  obtain ⟨xs, h2, h3⟩ := rp.obj i _ h1
  refine ⟨M.ρ i, xs, u, rx.2, rfl, h2, by rw [← h3.length]; exact line_of hl, ?_⟩
  have x1 := rp.wExt (u := .lst (xs ++ [u])) h1
  obtain ⟨r2, _⟩ := rp.write (u := .lst (xs ++ [u])) (o' := .lst (Ev.app ws [y])) h1 ⟨_, upd_same, RVs.mono x1 _ _ (h3.app ⟨u, [], rfl, ry, rfl⟩)⟩
  exact k { M with H := upd M.H (M.ρ i) (.lst (xs ++ [u])) } _ hn r2 x1 rfl
theorem ce_append (hK : X.K = c.K) (ha : PE X a (tM c cl ma)) (hb : PA X [b] (tA c cl (Ev.aCons mb Ev.aNil))) (hbase : attributeBase a "append" X.env (eval a X.env) = eval a X.env := by rfl)
    (hfew : ((backTo cpos (starEach (b :: []) X.env)).all (fun x => !x.1) && (backToKw cpos (keywordEach [] X.env)).all (fun x => x.1.isSome) && decide ((b :: []).length + ([] : List Keyword).length + (if ([] : List Keyword).isEmpty then 0 else 1) < 30)) = true := by rfl)
    (hline : (apos.endLine == cpos.line) = true := by rfl) (hs : starEach (b :: []) X.env = (false, eval b X.env) :: starEach [] X.env := by rfl) (hplain : (backTo cpos (starEach [] X.env)).any (·.1) = false := by rfl) : PE X (.Call (.Attribute a "append" apos) [b] [] cpos) (tM c cl (Ev.eAppend ma mb)) :=
  pe_imp (pe_bm PySem.F.plainAttrs_list PySem.F.slot_list_append PySem.F.type_list_append mt_append ha hb hbase hfew hline hs hplain) fun σ H Q h =>
    app_lemma (T := tyV X.K "list") (G := fun x l => ∃ i ws, x = .ref i ∧ hat l i = some (.lst ws)) (fun M l x v rp rx ⟨i, ws, e1, e2⟩ => by subst e1; rw [hK]; exact tyL rp e2 rx) st_append preL h
theorem rmv_ok {R : Type} {e r : R} (ne : e ≠ r) {x : Nat} : ∀ {ks : List Nat} {k : List Ev.W → R}, Ev.rmv e k x (ks.map .nat) = r → ∃ j, ks[j]? = some x ∧ (∀ m, m < j → ks[m]? ≠ some x) ∧ k ((ks.eraseIdx j).map .nat) = r
  | [], k, h => absurd h ne
  | i :: ks, k, h => by
    have h1 : Bool.rec (motive := fun _ => R) (Ev.rmv e (fun q => k (.nat i :: q)) x (ks.map .nat)) (k (ks.map .nat)) (Nat.beq x i) = r := h
    cases q : Nat.beq x i with
    | true =>
      rw [q] at h1
      exact ⟨0, by rw [nbq.mp q]; rfl, fun m hm => absurd hm (Nat.not_lt_zero _), h1⟩
    | false =>
      rw [q] at h1
      obtain ⟨j, h2, h3, h4⟩ := rmv_ok ne h1
      refine ⟨j + 1, h2, fun m hm => ?_, h4⟩
      cases m with
      | zero =>
        intro z
        have : i = x := Option.some.inj z
        rw [this, nbq.mpr rfl] at q
        cases q
      | succ m => exact h3 m (Nat.lt_of_succ_lt_succ hm)
theorem erase_map (f : Nat → Int) : ∀ (ks : List Nat) (j : Nat), (ks.map f).eraseIdx j = (ks.eraseIdx j).map f
  | [], j => by simp
  | k :: ks, 0 => by simp
  | k :: ks, j + 1 => by
    rw [List.map_cons, List.eraseIdx_cons_succ, List.eraseIdx_cons_succ, List.map_cons, erase_map f ks j]
theorem st_remove : Step2 c (fun x y n l => Ev.liveL .err (fun i ws => Bool.rec (motive := fun _ => Rs) .err (Ev.natK .err (fun j => Ev.rmv .err (fun q => .ok .non n (Ev.hset l i (.lst q))) j ws) y) (Ev.allNat ws)) x l) (fun v u => rRemI v [u]) := fun x y n l w n' l' e M v u hn rp rx ry Q k => by
  obtain ⟨i, ws, rfl, h1, e1⟩ := liveL_ok e Rs.ne
  obtain ⟨h0, e2⟩ := ite_ne e1 Rs.ne
  obtain ⟨m, rfl, e3⟩ := natK_ne e2 Rs.ne
  obtain ⟨ks, rfl⟩ := allNat_ks h0
  obtain ⟨j, g1, g2, g3⟩ := rmv_ok Rs.ne e3
  cases g3
  obtain ⟨xs, h2, h3⟩ := rp.obj i _ h1
  rw [nats_rv h3] at h2
  have er : (ks.map Int.ofNat).eraseIdx j = (ks.eraseIdx j).map Int.ofNat := erase_map _ ks j
  refine ⟨M.ρ i, ks.map Int.ofNat, (m : Int), j, rx.2, by rw [show u = .int (m : Int) from ry], h2, by rw [List.getElem?_map, g1]; rfl, fun q hq z => ?_, ?_⟩
  · rw [List.getElem?_map] at z
    obtain ⟨t, t1, t2⟩ := Option.map_eq_some_iff.mp z
    have t3 : t = m := Int.ofNat.inj t2
    rw [t3] at t1
    exact g2 q hq t1
  · rw [er]
    have x1 := rp.wExt (u := .lst (((ks.eraseIdx j).map Int.ofNat).map V.int)) h1
    obtain ⟨r2, _⟩ := rp.write (u := .lst (((ks.eraseIdx j).map Int.ofNat).map V.int)) (o' := .lst ((ks.eraseIdx j).map .nat)) h1 ⟨_, upd_same, rv_nats⟩
    exact k { M with H := upd M.H (M.ρ i) (.lst (((ks.eraseIdx j).map Int.ofNat).map V.int)) } _ hn r2 x1 rfl
theorem ce_remove (hK : X.K = c.K) (ha : PE X a (tM c cl ma)) (hb : PA X [b] (tA c cl (Ev.aCons mb Ev.aNil))) (hbase : attributeBase a "remove" X.env (eval a X.env) = eval a X.env := by rfl)
    (hfew : ((backTo cpos (starEach (b :: []) X.env)).all (fun x => !x.1) && (backToKw cpos (keywordEach [] X.env)).all (fun x => x.1.isSome) && decide ((b :: []).length + ([] : List Keyword).length + (if ([] : List Keyword).isEmpty then 0 else 1) < 30)) = true := by rfl)
    (hline : (apos.endLine == cpos.line) = true := by rfl) (hs : starEach (b :: []) X.env = (false, eval b X.env) :: starEach [] X.env := by rfl) (hplain : (backTo cpos (starEach [] X.env)).any (·.1) = false := by rfl) : PE X (.Call (.Attribute a "remove" apos) [b] [] cpos) (tM c cl (Ev.eRemove ma mb)) :=
  pe_imp (pe_bm PySem.F.plainAttrs_list PySem.F.slot_list_remove PySem.F.type_list_remove mt_remove ha hb hbase hfew hline hs hplain) fun σ H Q h =>
    app_lemma (T := tyV X.K "list") (G := fun x l => ∃ i ws, x = .ref i ∧ hat l i = some (.lst ws)) (fun M l x v rp rx ⟨i, ws, e1, e2⟩ => by subst e1; rw [hK]; exact tyL rp e2 rx) st_remove preL h

/-! ### tuple.index of texts -/
def tyTup (K : PySem.W.Frag) (x : V) (H : Hp) : Prop := ∃ q, x = .ref q ∧ ((∃ o, K.lookup q = some o ∧ o.cls = .type "tuple" ∧ o.dict = none) ∨ ∃ o xs, H q = some (.frz o (.tup xs)) ∧ o.dict = none)
theorem ty_tup : TyOk X "tuple" (tyTup X.K) := by
  intro pins σ H s x v I r ty
  obtain ⟨q, rfl, ty⟩ := ty
  cases r
  rcases ty with ⟨o, h1, h2, h3⟩ | ⟨o, xs, h1, h2⟩
  · refine ⟨⟨o, I.kIn q o h1, h2⟩, fun a e => ?_⟩
    cases e
    exact ⟨o, I.kIn q o h1, h3⟩
  · obtain ⟨g1, _, its, _, g2⟩ := (show ObjOk X.prog X.w H s.heap q (.frz o (.tup xs)) from I.hok q _ h1)
    obtain ⟨o2, g3, g4, _⟩ := g2
    rw [g1] at g3
    cases g3
    refine ⟨⟨o, g1, g4⟩, fun a e => ?_⟩
    cases e
    exact ⟨o, g1, h2⟩
def rTIdx (K : PySem.W.Frag) : V → List V → Hp → VK → Prop := fun x xs H Q => ∃ p, ∃ ys : List Str, ∃ z j, x = .ref p ∧ xs = [.str z] ∧ SqT K H p (ys.map V.str) ∧ ys[j]? = some z ∧ (∀ m, m < j → ys[m]? ≠ some z) ∧ Q (.int (j : Nat)) H
theorem allStr_js : ∀ {ws : List Ev.W}, Ev.allStr ws = true → ∃ js : List Nat, ws = js.map .str ∧ ∀ j ∈ js, Ev.plainS j = true
  | [], _ => ⟨[], rfl, fun j hj => by cases hj⟩
  | w :: ws, h => by
    obtain ⟨h1, h2⟩ := ite_ne (show Bool.rec (motive := fun _ => Bool) false (Ev.allStr ws) _ = true from h) (fun z => nomatch z)
    obtain ⟨js, rfl, hp⟩ := allStr_js h2
    cases w with
    | str j =>
      refine ⟨j :: js, rfl, fun i hi => ?_⟩
      rcases List.mem_cons.mp hi with rfl | hi
      · exact h1
      · exact hp i hi
    | _ => cases h1
theorem strs_rv {M : Ms} : ∀ {js : List Nat} {xs : List V}, RVs c M (js.map .str) xs → xs = (js.map c.ν).map V.str ∧ ∀ j ∈ js, j < c.ns
  | [], xs, h => ⟨h, fun j hj => by cases hj⟩
  | k :: ks, xs, h => by
    obtain ⟨x, r, rfl, h1, h2⟩ := h
    obtain ⟨g1, g2⟩ := strs_rv h2
    rw [h1.2, g1]
    refine ⟨rfl, fun j hj => ?_⟩
    rcases List.mem_cons.mp hj with rfl | hj
    · exact h1.1
    · exact g2 j hj
theorem placeK_ok {R : Type} {e r : R} (ne : e ≠ r) {a : Nat} {k : Nat → R} : ∀ {js : List Nat} {i : Nat}, Ev.placeK e k (.str a) (js.map .str) i = r → ∃ m, js[m]? = some a ∧ (∀ q, q < m → js[q]? ≠ some a) ∧ k (i + m) = r
  | [], i, h => absurd h ne
  | j :: js, i, h => by
    have h1 : Bool.rec (motive := fun _ => R) (Ev.placeK e k (.str a) (js.map .str) (i + 1)) (k i) (Nat.beq a j) = r := h
    cases q : Nat.beq a j with
    | true =>
      rw [q] at h1
      exact ⟨0, by rw [nbq.mp q]; rfl, fun m hm => absurd hm (Nat.not_lt_zero _), h1⟩
    | false =>
      rw [q] at h1
      obtain ⟨m, h2, h3, h4⟩ := placeK_ok ne h1
      refine ⟨m + 1, h2, fun t ht => ?_, by rw [show i + (m + 1) = i + 1 + m by omega]; exact h4⟩
      cases t with
      | zero =>
        intro z
        have : j = a := Option.some.inj z
        rw [this, nbq.mpr rfl] at q
        cases q
      | succ t => exact h3 t (Nat.lt_of_succ_lt_succ ht)
theorem wtupK_ne {R : Type} {e r : R} {k : List Ev.W → R} {w : Ev.W} (h : Ev.wtupK e k w = r) (ne : e ≠ r) : ∃ i, w = .wtup i ∧ k i = r := by
  cases w <;> first | exact absurd h ne | exact ⟨_, rfl, h⟩
theorem index_lemma {Q : VK} {K : PySem.W.Frag} (hK : K = c.K) (h : tM c cl (Ev.eIndex ma mb) σ H Q) : tM c cl ma σ H fun v H1 => tyTup K v H1 ∧ tA c cl (Ev.aCons mb Ev.aNil) σ H1 fun vs H2 => rTIdx K v vs H2 Q := by
  subst hK
  obtain ⟨M, l, s, eH, rp, sl, w, n', l', e, k⟩ := h
  subst eH
  obtain ⟨x, n1, l1, e1, e2⟩ := Rs.b_ok e
  obtain ⟨y, n2, l2, e4, e5⟩ := Rs.b_ok e2
  obtain ⟨ws, rfl, e6⟩ := wtupK_ne e5 Rs.ne
  obtain ⟨h0, e7⟩ := ite_ne e6 Rs.ne
  obtain ⟨js, hj, hpl⟩ := allStr_js h0
  cases js with
  | nil => cases hj
  | cons a js =>
    injection hj with hj1 hj2
    have hpa := hpl a List.mem_cons_self
    have hpb := fun j hj => hpl j (List.mem_cons_of_mem a hj)
    subst hj1 hj2
    obtain ⟨m, g1, g2, g3⟩ := placeK_ok Rs.ne e7
    rw [Nat.zero_add] at g3
    cases g3
    refine tM.mk rp sl e1 fun M1 v en r1 x1 rx => ?_
    obtain ⟨q, xs, rfl, hT, hx⟩ := rx
    refine ⟨⟨q, rfl, hT.imp (fun z => z.2) fun ⟨_, o, z1, z2⟩ => ⟨o, xs, z1, z2⟩⟩, ?_⟩
    have e0 : Ev.aCons mb Ev.aNil cl s M1.n l1 = .ok [.str a] n' l' := by
      rw [en]
      show (mb cl s n1 l1).ba _ = _
      rw [e4]
      rfl
    refine tA.mk r1 (sl.mono x1) e0 fun M2 vs en2 r2 x2 rvs => ?_
    obtain ⟨u, q2, rfl, ru, rq⟩ := rvs
    rw [show q2 = [] from rq]
    have hx2 := RVs.mono x2 _ _ hx
    obtain ⟨f1, f2⟩ := strs_rv hx2
    have hT2 := hT.keep x2.toExt0
    refine ⟨q, js.map c.ν, c.ν a, m, rfl, by rw [ru.2], by rw [← f1]; exact hT2.seq, by rw [List.getElem?_map, g1]; rfl, fun t ht z => ?_, k M2 _ en2 r2 (x1.trans x2) rfl⟩
    rw [List.getElem?_map] at z
    obtain ⟨b, b1, b2⟩ := Option.map_eq_some_iff.mp z
    have b3 : b = a := c.inj b a (f2 b (List.mem_iff_getElem?.mpr ⟨t, b1⟩)) ru.1 (plain_sep (hpb b (List.mem_iff_getElem?.mpr ⟨t, b1⟩)) hpa) b2
    rw [b3] at b1
    exact g2 t ht b1
theorem ce_index (hK : X.K = c.K) (ha : PE X a (tM c cl ma)) (hb : PA X [b] (tA c cl (Ev.aCons mb Ev.aNil))) (hbase : attributeBase a "index" X.env (eval a X.env) = eval a X.env := by rfl)
    (hfew : ((backTo cpos (starEach (b :: []) X.env)).all (fun x => !x.1) && (backToKw cpos (keywordEach [] X.env)).all (fun x => x.1.isSome) && decide ((b :: []).length + ([] : List Keyword).length + (if ([] : List Keyword).isEmpty then 0 else 1) < 30)) = true := by rfl)
    (hline : (apos.endLine == cpos.line) = true := by rfl) (hs : starEach (b :: []) X.env = (false, eval b X.env) :: starEach [] X.env := by rfl) (hplain : (backTo cpos (starEach [] X.env)).any (·.1) = false := by rfl) : PE X (.Call (.Attribute a "index" apos) [b] [] cpos) (tM c cl (Ev.eIndex ma mb)) :=
  pe_imp (pe_mG ty_tup PySem.F.plainAttrs_tuple PySem.F.slot_tuple_index PySem.F.type_tuple_index (r := rTIdx X.K) mt_tup_index ha hb hbase hfew hline hs hplain) fun σ H Q h => index_lemma hK h
/-! ### dicts: get, copy, setdefault -/
theorem DctV.isD {M : Ms} {t : Bool} {ks vs : List Ev.W} {q : Addr} (h : DctV c M t ks vs q) : IsD M.H q := by
  cases t with
  | false => obtain ⟨kvs, h, _⟩ := h; exact .inl ⟨kvs, h⟩
  | true => obtain ⟨kvs, h, _⟩ := h; exact .inr ⟨kvs, h⟩
theorem dct_get {R : Type} {e0 : R} {f : Ev.W → R} {t : Bool} {ks vs : List Ev.W} {y : Ev.W} (hy : Ev.isKey t y = true) : (∃ w, Ev.dlook e0 f y ks vs = f w ∧ ∀ (M : Ms) (u : V) (q : Addr), RV c M y u → DctV c M t ks vs q → ∃ v, DGet M.H q u (some v) ∧ RV c M w v) ∨
    (Ev.dlook e0 f y ks vs = e0 ∧ ∀ (M : Ms) (u : V) (q : Addr), RV c M y u → DctV c M t ks vs q → DGet M.H q u none) := by
  cases t with
  | false =>
    rcases dlook_ok (c := c) keyR (e := e0) (k := f) (x := y) (ks := ks) (vs := vs) with ⟨w, g1, g2⟩ | ⟨g1, g2⟩
    · refine .inl ⟨w, g1, fun M u q ry ⟨kvs, d1, d2, d3⟩ => ?_⟩
      obtain ⟨kx, v, h4, h5, h6⟩ := g2 M kvs d2 d3
      exact ⟨v, .inl ⟨kvs, kx, d1, keyV h4 ry, h5.symm⟩, h6⟩
    · refine .inr ⟨g1, fun M u q ry ⟨kvs, d1, d2, d3⟩ => ?_⟩
      obtain ⟨kx, e1, e2⟩ := isKey_F hy ry
      exact .inl ⟨kvs, kx, d1, e2, (g2 M kvs kx d2 d3 e1).symm⟩
  | true =>
    rcases dlook_ok (c := c) tkeyR (e := e0) (k := f) (x := y) (ks := ks) (vs := vs) with ⟨w, g1, g2⟩ | ⟨g1, g2⟩
    · refine .inl ⟨w, g1, fun M u q ry ⟨kvs, d1, d2, d3⟩ => ?_⟩
      obtain ⟨kx, v, h4, h5, h6⟩ := g2 M kvs d2 d3
      obtain ⟨b, rfl, h7⟩ := tkeyV h4 ry
      exact ⟨v, .inr ⟨kvs, kx, b, d1, rfl, h7, h5.symm⟩, h6⟩
    · refine .inr ⟨g1, fun M u q ry ⟨kvs, d1, d2, d3⟩ => ?_⟩
      obtain ⟨kx, b, e1, e2, e3⟩ := isKey_T hy ry
      exact .inr ⟨kvs, kx, b, d1, e2, e3, (g2 M kvs kx d2 d3 e1).symm⟩
theorem ce_get {j : Nat} {p3 : Pos} (hu : X.A.units + 1 < cLine) (ha : PE X a (tM c cl ma)) (hb : PE X b (tM c cl mb)) (m : M2 X a "get" apos b (.Constant .none j p3) cpos) : PE X (.Call (.Attribute a "get" apos) [b, .Constant .none j p3] [] cpos) (tM c cl (Ev.eGet ma mb)) :=
  pe_imp (pe_dget2 hu ha hb pe_non m) fun σ H Q ⟨M, l, s, eH, rp, sl, w, n', l', e, k⟩ => by
    subst eH
    obtain ⟨x, n1, l1, e1, e2⟩ := Rs.b_ok e
    obtain ⟨t1, ks1, vs1, e3, z1⟩ := dctK_ok (c := c) e2 Rs.ne
    obtain ⟨y, n2, l2, e4, e5⟩ := Rs.b_ok e3
    obtain ⟨t, ks, vs, e6, z2⟩ := dctK_ok (c := c) e5 Rs.ne
    obtain ⟨hy, e7⟩ := ite_ne e6 Rs.ne
    refine tM.mk rp sl e1 fun M1 v en r1 x1 rx => ?_
    obtain ⟨q, hq, D1⟩ := z1 M1 v r1 rx
    refine ⟨q, hq, D1.isD, tM.mk r1 (sl.mono x1) (by rw [en]; exact e4) fun M2 u en2 r2 x2 ry => ?_⟩
    obtain ⟨q2, hq2, D2⟩ := z2 M2 v r2 (RV.mono x2 _ _ rx)
    rw [hq] at hq2
    cases hq2
    rcases dct_get (c := c) (e0 := Rs.ok .non n2 l2) (f := fun v => Rs.ok v n2 l2) (ks := ks) (vs := vs) hy with ⟨w2, g1, g2⟩ | ⟨g1, g2⟩
    · have e8 := g1.symm.trans e7
      cases e8
      obtain ⟨z, f1, f2⟩ := g2 M2 u q ry D2
      exact ⟨some z, f1, k M2 z en2 r2 (x1.trans x2) f2⟩
    · have e8 := g1.symm.trans e7
      cases e8
      exact ⟨none, g2 M2 u q ry D2, k M2 .non en2 r2 (x1.trans x2) rfl⟩
def tyD (x : V) (H : Hp) : Prop := ∃ q, x = .ref q ∧ IsD H q
theorem ty_dict : TyOk X "dict" tyD := by
  intro pins σ H s x v I r ty
  obtain ⟨q, rfl, ty⟩ := ty
  cases r
  obtain ⟨h1, h2, _⟩ := isD_at I ty
  exact ⟨h1, h2⟩
def rCopy : V → List V → Hp → VK → Prop := fun x xs H Q => ∃ q, x = .ref q ∧ xs = [] ∧ ((∃ kvs, Rd H q (.dK kvs) ∧ ∀ p, H p = none → Q (.ref p) (upd H p (.dK kvs))) ∨ (Rd H q (.dT []) ∧ ∀ p, H p = none → Q (.ref p) (upd H p (.dT []))))
theorem mt_copy : MtR X "dict.copy" rCopy := by
  intro pins s σ H x xs v us Q I rx rs h
  obtain ⟨q, rfl, rfl, h⟩ := h
  cases rx
  have hus := rs.zero
  subst hus
  rcases h with ⟨kvs, h1, h2⟩ | ⟨h1, h2⟩
  · obtain ⟨z, hd, vs, rel, dd⟩ := dk_rd I.hok h1
    refine call_meetsIn PySem.F.slot_dict_copy dd.typeIs PySem.F.entry_dict_copy (PySem.F.args_dict_copy_1 _) (meets_dict_copy (mixKind X.prog X.w) q hd) ⟨vs, dd, by rw [← rel.length]; exact z, fun h' g1 g2 g3 => ?_⟩
    refine ⟨.ref s.heap.objs.size, _, I.laid (t' := s.toks) (o := .dK kvs) g3 (Nat.le_refl _) (dk_new z ?_ rel g1), rfl, h2 _ (I.hok.fresh (Nat.le_refl _))⟩
    exact beq_eq_false_iff_ne.mpr (Ne.symm (Nat.ne_of_lt I.big))
  · obtain ⟨z, hd, ks, rel, o, es, ep, h3, h4, h5, h6, _⟩ := dt_rd I.hok h1
    cases rel
    have he : es = #[] := by
      have : es.toList = [] := h6
      simpa using this
    subst he
    refine PySem.call_copy_raw hd ⟨o, h3, h4, h5⟩ (by simp) (fun e he => by simp at he) fun h' g1 g3 => ?_
    obtain ⟨o2, g4, g5, g6⟩ := g1
    refine ⟨.ref s.heap.objs.size, _, I.laid (t' := s.toks) (o := .dT []) g3 (Nat.le_refl _) ⟨Nat.zero_le _, ?_, [], .nil, o2, #[], 0, g4, g5, g6, rfl, List.nodup_nil⟩, rfl, h2 _ (I.hok.fresh (Nat.le_refl _))⟩
    exact beq_eq_false_iff_ne.mpr (Ne.symm (Nat.ne_of_lt I.big))
theorem st_copy : Step1 c (fun x n l => Ev.dctK .err (fun t ks vs => Bool.rec (motive := fun _ => Rs) (.ok (.ref n) (Nat.add n 1) (.cons n (.dct t ks vs) l)) (Bool.rec (motive := fun _ => Rs) .err (.ok (.ref n) (Nat.add n 1) (.cons n (.dct t ks vs) l)) (Ev.isNil ks)) t) x l) (fun v H Q => tyD v H ∧ rCopy v [] H Q) := fun x n l w n' l' e M v hn rp rx Q k => by
  obtain ⟨t, ks, vs, e1, z⟩ := dctK_ok (c := c) e Rs.ne
  obtain ⟨q, rfl, D⟩ := z M v rp rx
  refine ⟨⟨q, rfl, D.isD⟩, q, rfl, rfl, ?_⟩
  cases t with
  | false =>
    cases e1
    obtain ⟨kvs, h1, h2, h3⟩ := D
    exact .inl ⟨kvs, h1, endL hn rfl rp k fun b M' x1 x3 => ⟨kvs, x3, h2, RVs.mono x1 _ _ h3⟩⟩
  | true =>
    obtain ⟨g1, e2⟩ := ite_ne e1 Rs.ne
    cases e2
    obtain ⟨kvs, h1, h2, h3⟩ := D
    cases ks with
    | cons _ _ => cases g1
    | nil =>
      cases kvs with
      | cons _ _ => cases h2
      | nil => exact .inr ⟨h1, endL hn rfl rp k fun b M' x1 x3 => ⟨[], x3, rfl, RVs.mono x1 _ _ h3⟩⟩
theorem ce_copy (ha : PE X a (tM c cl ma)) (hbase : attributeBase a "copy" X.env (eval a X.env) = eval a X.env := by rfl) (hline : (apos.endLine == cpos.line) = true := by rfl) : PE X (.Call (.Attribute a "copy" apos) [] [] cpos) (tM c cl (Ev.eCopy ma)) :=
  pe_imp (pe_mG0 ty_dict PySem.F.plainAttrs_dict PySem.F.slot_dict_copy PySem.F.type_dict_copy mt_copy ha hbase hline) fun σ H Q h => step1 st_copy h
theorem liveD_ok {R : Type} {e r : R} {k : Nat → Bool → List Ev.W → List Ev.W → R} {w : Ev.W} {l : Hl} (h : Ev.liveD e k w l = r) (ne : e ≠ r) : ∃ i t ks vs, w = .ref i ∧ hat l i = some (.dct t ks vs) ∧ k i t ks vs = r := by
  obtain ⟨i, rfl, h1⟩ := refK_ne (show Ev.refK e (fun i => Ev.hget e (Ev.oDct e (k i)) l i) w = r from h) ne
  obtain ⟨o, h2, h3⟩ := hget_ne h1 ne
  obtain ⟨t, ks, vs, rfl, h4⟩ := oDct_ne h3 ne
  exact ⟨i, t, ks, vs, rfl, h2, h4⟩
theorem app_map {α : Type} (f : Ev.W → α) : ∀ a b : List Ev.W, (Ev.app a b).map f = a.map f ++ b.map f
  | [], b => rfl
  | x :: a, b => by
    show f x :: (Ev.app a b).map f = _
    rw [app_map f a b]
    rfl
theorem ce_setdef {m2 : Ev.D} (ha : PE X a (tM c cl ma)) (hb : PE X b (tM c cl mb)) (hd : PE X d (tM c cl m2)) (m : M2 X a "setdefault" apos b d cpos) : PE X (.Call (.Attribute a "setdefault" apos) [b, d] [] cpos) (tM c cl (Ev.eSetdef ma mb m2)) :=
  pe_imp (pe_dsetd ha hb hd m) fun σ H Q ⟨M, l, s, eH, rp, sl, w, n', l', e, k⟩ => by
    subst eH
    obtain ⟨x, n1, l1, e1, e2⟩ := Rs.b_ok e
    obtain ⟨t1, ks1, vs1, e3, z1⟩ := dctK_ok (c := c) e2 Rs.ne
    obtain ⟨y, n2, l2, e4, e5⟩ := Rs.b_ok e3
    obtain ⟨zz, n3, l3, e6, e7⟩ := Rs.b_ok e5
    obtain ⟨i, t, ks, vs, rfl, hat3, e8⟩ := liveD_ok e7 Rs.ne
    refine tM.mk rp sl e1 fun M1 v en r1 x1 rx => ?_
    obtain ⟨q, hq, D1⟩ := z1 M1 v r1 rx
    refine ⟨q, hq, D1.isD, tM.mk r1 (sl.mono x1) (by rw [en]; exact e4) fun M2 u en2 r2 x2 ry => tM.mk r2 (sl.mono (x1.trans x2)) (by rw [en2]; exact e6) fun M3 z en3 r3 x3 rz => ?_⟩
    cases t with
    | true => cases e8
    | false =>
      obtain ⟨hy, e9⟩ := ite_ne (show Bool.rec (motive := fun _ => Rs) .err (Ev.few .err (Ev.dlook (.ok zz n3 (Ev.hset l3 i (.dct false (Ev.app ks [y]) (Ev.app vs [zz])))) (fun v => .ok v n3 l3) y ks vs) ks) (Ev.isKey false y) = .ok w n' l' from e8) Rs.ne
      obtain ⟨hl, e10⟩ := few_ne e9 Rs.ne
      obtain ⟨kvs, g1, g2, g3⟩ := r3.obj i _ hat3
      have hv3 : v = .ref (M3.ρ i) := (RV.mono (x2.trans x3) _ _ rx).2
      rw [hq] at hv3
      cases hv3
      have ry3 := RV.mono x3 _ _ ry
      obtain ⟨kx, f1, f2⟩ := isKey_F hy ry3
      have hlen : kvs.length < sizeLine := by
        have := congrArg List.length g2
        rw [List.length_map, List.length_map] at this
        rw [← this]
        exact line_of hl
      refine ⟨kvs, kx, g1, f2, hlen, fun z2 hz => ?_, fun hz => ?_⟩
      · rcases dlook_ok (c := c) keyR (e := Rs.ok zz n3 (Ev.hset l3 i (.dct false (Ev.app ks [y]) (Ev.app vs [zz])))) (k := fun v => Rs.ok v n3 l3) (x := y) (ks := ks) (vs := vs) with ⟨w2, j1, j2⟩ | ⟨j1, j2⟩
        · have e11 := j1.symm.trans e10
          cases e11
          obtain ⟨kx2, v2, j3, j4, j5⟩ := j2 M3 kvs g2 g3
          rw [f1] at j3
          cases j3
          rw [hz] at j4
          cases j4
          exact k M3 _ en3 r3 ((x1.trans x2).trans x3) j5
        · rw [j2 M3 kvs kx g2 g3 f1] at hz
          cases hz
      · rcases dlook_ok (c := c) keyR (e := Rs.ok zz n3 (Ev.hset l3 i (.dct false (Ev.app ks [y]) (Ev.app vs [zz])))) (k := fun v => Rs.ok v n3 l3) (x := y) (ks := ks) (vs := vs) with ⟨w2, j1, j2⟩ | ⟨j1, j2⟩
        · obtain ⟨kx2, v2, j3, j4, j5⟩ := j2 M3 kvs g2 g3
          rw [f1] at j3
          cases j3
          rw [hz] at j4
          cases j4
        · have e11 := j1.symm.trans e10
          cases e11
          rw [putK_new z hz]
          have x4 := r3.wExt (u := .dK (kvs ++ [(kx, z)])) hat3
          obtain ⟨r4, _⟩ := r3.write (u := .dK (kvs ++ [(kx, z)])) (o' := .dct false (Ev.app ks [y]) (Ev.app vs [w])) hat3 ⟨kvs ++ [(kx, z)], upd_same, by rw [app_map, g2, List.map_append]; show _ ++ [keyOf c y] = _; rw [f1]; rfl, by
            rw [List.map_append]
            exact RVs.mono x4 _ _ (g3.app ⟨z, [], rfl, rz, rfl⟩)⟩
          exact k { M3 with H := upd M3.H (M3.ρ i) (.dK (kvs ++ [(kx, z)])) } _ en3 r4 (((x1.trans x2).trans x3).trans x4) (RV.mono x4 _ _ rz)
end
end Sd
end

section
set_option Elab.async false
set_option linter.all false
set_option maxRecDepth 100000
/-! Sd8: what is walked, targets, for. -/
namespace Sd
open PySem PySem.Spec PyProof.Rows L2
open Ev (Hl Rs Rb Ra So Sr CallT)
/-- what is given at a turn, the heap grown at most -/
def Yl (c : Cn) (M : Ms) (l : Hl) (H' : Hp) (w : Ev.W) (x : V) : Prop := ∃ M' : Ms, M'.H = H' ∧ M'.n = M.n ∧ Rep c M' l ∧ Ext M M' ∧ RV c M' w x
/-- the iterator gives what the machine's source says -/
def JOk (c : Cn) (M1 : Ms) (J : It) : Sr → Prop
  | .err => False
  | .lst ws _ _ => ∀ (j : Nat) (M : Ms) (l : Hl), Rep c M l → Ext0 M1 M → (∀ w, ws[j]? = some w → J.go j M.H ∧ ∀ x H', J.yld j M.H x H' → Yl c M l H' w x) ∧ (j = ws.length → J.stop j M.H)
  | .ref en i _ _ => ∀ (j : Nat) (M : Ms) (l : Hl) (ws : List Ev.W), Rep c M l → Ext0 M1 M → hat l i = some (.lst ws) →
    (∀ w, ws[j]? = some w → J.go j M.H ∧ ∀ x H', J.yld j M.H x H' → Yl c M l H' (Bool.rec (motive := fun _ => Ev.W) w (.tup [.nat j, w]) en) x) ∧ (ws.length ≤ j → J.stop j M.H)
def SrAt (c : Cn) (M1 : Ms) : Sr → Prop
  | .err => False
  | .lst _ n l => M1.n = n ∧ Rep c M1 l
  | .ref _ _ n l => M1.n = n ∧ Rep c M1 l
def tG (c : Cn) (cl : CallT) (g : Ev.G) : TI := fun σ H R => ∃ (M : Ms) (l : Hl) (s : List Ev.W), M.H = H ∧ Rep c M l ∧ Sl c M s σ ∧ g cl s M.n l ≠ .err ∧ ∀ (M1 : Ms) (J : It), SrAt c M1 (g cl s M.n l) → Ext M M1 → JOk c M1 J (g cl s M.n l) → R J M1.H
theorem Rs.bg_ok {r : Rs} {k : Ev.W → Nat → Hl → Sr} (h : r.bg k ≠ .err) : ∃ x n1 l1, r = .ok x n1 l1 ∧ r.bg k = k x n1 l1 := by
  cases r with
  | err => exact absurd rfl h
  | ok x n1 l1 => exact ⟨x, n1, l1, rfl, rfl⟩
section
variable {X : Cx} {c : Cn} {cl : CallT} {σ : L2.St} {H : Hp} {tg a b d : Expr} {ma mb md : Ev.D} {pos p pos2 : Pos}
theorem pi_imp {e : Expr} {t t' : TI} (h : PI X tg e t) (k : ∀ σ H R, t' σ H R → t σ H R) : PI X tg e t' := ⟨fun pins s σ H R I q => h.run pins s σ H R I (k σ H R q)⟩
theorem pi_two {e : Expr} {t u : TI} (h : PI X tg e t) (k : PI X tg e u) : PI X tg e (fun σ H R => t σ H R ∨ u σ H R) := ⟨fun pins s σ H R I q => q.elim (h.run pins s σ H R I) (k.run pins s σ H R I)⟩
theorem Yl.same {M : Ms} {l : Hl} {w : Ev.W} {x : V} (r : Rep c M l) (h : RV c M w x) : Yl c M l M.H w x := ⟨M, rfl, rfl, r, Ext.refl M, h⟩
/-- a new pair -/
theorem Yl.pair {M : Ms} {l : Hl} {u w : Ev.W} {y x : V} {T : Addr} (r : Rep c M l) (hT : M.H T = none) (hu : RV c M u y) (h : RV c M w x) : Yl c M l (upd M.H T (.tup [y, x])) (.tup [u, w]) (.ref T) := by
  obtain ⟨k1, k2, k3⟩ := r.frozen (u := .tup [y, x]) hT
  exact ⟨{ M with H := upd M.H T (.tup [y, x]) }, rfl, rfl, k1, k2, T, _, rfl, k3, upd_same, y, [x], rfl, RV.mono k2 _ _ hu, x, [], rfl, RV.mono k2 _ _ h, rfl⟩
/-! ### range -/
theorem rng_get : ∀ (k i j : Nat), (Ev.rng i k)[j]? = if j < k then some (.nat (i + j)) else none
  | 0, i, j => by
    rw [if_neg (Nat.not_lt_zero j)]
    exact List.getElem?_nil
  | k + 1, i, j => by
    have h : Ev.rng i (k + 1) = .nat i :: Ev.rng (i + 1) k := rfl
    rw [h]
    cases j with
    | zero => simp
    | succ j =>
      rw [List.getElem?_cons_succ, rng_get k (i + 1) j]
      by_cases q : j < k
      · rw [if_pos q, if_pos (by omega), show i + 1 + j = i + (j + 1) by omega]
      · rw [if_neg q, if_neg (by omega)]
theorem rng_len : ∀ (k i : Nat), (Ev.rng i k).length = k
  | 0, i => rfl
  | k + 1, i => by
    show (Ev.rng (i + 1) k).length + 1 = k + 1
    rw [rng_len k (i + 1)]
theorem jok_rng {M1 : Ms} {k n : Nat} {l1 : Hl} : JOk c M1 (Itr 0 k) (.lst (Ev.rng 0 k) n l1) := fun j M l r x1 => by
  refine ⟨fun w hw => ?_, fun h => ?_⟩
  · rw [rng_get] at hw
    by_cases q : j < k
    · rw [if_pos q] at hw
      cases hw
      refine ⟨q, fun x H' ⟨h1, h2⟩ => ?_⟩
      subst h1 h2
      exact Yl.same r (by show V.int _ = V.int _; rw [Nat.zero_add, Int.zero_add])
    · rw [if_neg q] at hw; cases hw
  · rw [rng_len] at h
    exact Nat.le_of_eq h.symm
theorem pi_rngV {e : Expr} {te : TE} (he : PE X e te) : PI X tg e (fun σ H R => te σ H fun x H1 => ∃ q k : Nat, x = .ref q ∧ H1 q = some (.rng 0 k) ∧ k < 1000000 ∧ R (Itr 0 k) H1) := by
  refine ⟨fun pins s σ H R I h => ?_⟩
  refine thn (he.run pins s σ H _ I h) fun v s1 ⟨x, H1, I1, r1, q, k, ex, hq, hk, hR⟩ => ?_
  subst ex
  obtain rfl : v = Value.ref q := r1
  obtain ⟨t, u, v, e⟩ := (show ObjOk X.prog X.w H1 s1.heap q (.rng 0 k) from I1.hok q _ hq)
  refine wpAny_pyIter_range (show IsRange s1.heap q 0 k 1 t u v from e) (small_one (by omega) (by omega) (by omega) (by omega)) ?_
  refine pi_one (tk := s1.toks) I1 _ (turn_range _ 0 k) ?_ hR
  have e1 : (0 : Int) + ((0 : Nat) : Int) * 1 = 0 := by simp
  have e2 : ((k : Nat) : Int) - ((0 : Nat) : Int) = Builtin.Range.rangeSize 0 k 1 := by rw [rangeSize_one]; split <;> omega
  show IsRangeIter _ _ ((0 : Int) + ((0 : Nat) : Int) * 1) (((k : Nat) : Int) - ((0 : Nat) : Int)) 1
  rw [e1, e2]
  exact Heap.get?_push_size _ rfl
/-! ### a list, a tuple, a range -/
theorem jok_lst {K : PySem.W.Frag} {M1 : Ms} {ws : List Ev.W} {xs : List V} {p : Addr} {n : Nat} {l1 : Hl} (np : ¬ M1.P p) (hp : M1.H p = some (.lst xs)) (hx : RVs c M1 ws xs) : JOk c M1 (Itl K p) (.lst ws n l1) := fun j M l r x1 => by
  have hM := (x1.keep _ _ hp np).1
  have hxM := RVs.mono0 x1 _ _ hx
  refine ⟨fun w hw => ?_, fun h => ⟨xs, .inl (.inl hM), by rw [← hx.length]; exact Nat.le_of_eq h.symm⟩⟩
  obtain ⟨z, g1, g2⟩ := hxM.get hw
  refine ⟨⟨xs, z, .inl (.inl hM), g1⟩, fun x H' ⟨h1, h2⟩ => ?_⟩
  subst h1
  have h3 := h2 xs (.inl (.inl hM))
  rw [g1] at h3
  cases h3
  exact Yl.same r g2
theorem jok_tup {M1 : Ms} {ws : List Ev.W} {xs : List V} {p : Addr} {n : Nat} {l1 : Hl} (hp : ∀ M, Ext0 M1 M → SqT c.K M.H p xs) (hx : RVs c M1 ws xs) : JOk c M1 (Itt c.K p) (.lst ws n l1) := fun j M l r x1 => by
  have hM := hp M x1
  have hxM := RVs.mono0 x1 _ _ hx
  refine ⟨fun w hw => ?_, fun h => ⟨xs, hM, by rw [← hx.length]; exact Nat.le_of_eq h.symm⟩⟩
  obtain ⟨z, g1, g2⟩ := hxM.get hw
  refine ⟨⟨xs, z, hM, g1⟩, fun x H' ⟨h1, h2⟩ => ?_⟩
  subst h1
  have h3 := h2 xs hM
  rw [g1] at h3
  cases h3
  exact Yl.same r g2
theorem jok_ref {K : PySem.W.Frag} {M1 : Ms} {i n : Nat} {l1 : Hl} (hi : i < M1.n) : JOk c M1 (Itl K (M1.ρ i)) (.ref false i n l1) := fun j M l ws r x1 hat1 => by
  obtain ⟨xs, hM, hx⟩ := r.obj i _ hat1
  rw [x1.ρ i hi] at hM
  refine ⟨fun w hw => ?_, fun h => ⟨xs, .inl (.inl hM), by rw [← hx.length]; exact h⟩⟩
  obtain ⟨z, g1, g2⟩ := hx.get hw
  refine ⟨⟨xs, z, .inl (.inl hM), g1⟩, fun x H' ⟨h1, h2⟩ => ?_⟩
  subst h1
  have h3 := h2 xs (.inl (.inl hM))
  rw [g1] at h3
  cases h3
  exact Yl.same r g2
theorem Rep.hasL {M : Ms} {l : Hl} (r : Rep c M l) {i : Nat} {ws : List Ev.W} (h : hat l i = some (.lst ws)) : ∃ xs, M.H (M.ρ i) = some (.lst xs) := let ⟨xs, h1, _⟩ := r.obj i _ h; ⟨xs, h1⟩
theorem refL_ok {l1 : Hl} {i : Nat} {q : Sr} (ne : Ev.hget Sr.err (Ev.oLst Sr.err fun _ => q) l1 i ≠ .err) : ∃ ws, hat l1 i = some (.lst ws) ∧ Ev.hget Sr.err (Ev.oLst Sr.err fun _ => q) l1 i = q := by
  rw [hget_hat] at ne ⊢
  cases z : hat l1 i with
  | none => rw [z] at ne; exact absurd rfl ne
  | some o =>
    rw [z] at ne
    cases o with
    | lst ws => exact ⟨ws, rfl, rfl⟩
    | dct _ _ _ => exact absurd rfl ne
    | map _ _ => exact absurd rfl ne
    | told _ _ => exact absurd rfl ne
    | ins _ _ _ => exact absurd rfl ne
theorem ci_seq (hK : X.K = c.K) (ha : PE X a (tM c cl ma)) : PI X tg a (tG c cl (Ev.gSeq ma)) := by
  refine pi_imp (pi_two (pi_two (pi_list ha) (pi_tup ha)) (pi_rngV ha)) fun σ H R ⟨M, l, s, eH, r, sl, ne, k⟩ => ?_
  subst eH
  obtain ⟨x, n1, l1, e1, e2⟩ := Rs.bg_ok ne
  change Ev.gSeq ma cl s M.n l = _ at e2
  rw [e2] at ne k
  rw [hK]
  cases x with
  | tup ws => exact .inl (.inr (tM.mk r sl e1 fun M1 v en r1 x1 rx => by
      obtain ⟨q, xs, rfl, np, hH, hx⟩ := rx
      exact ⟨q, rfl, ⟨xs, .inl (.inl hH)⟩, k M1 _ ⟨en, r1⟩ x1 (jok_tup (fun M' x => .inl (.inl (x.keep _ _ hH np).1)) hx)⟩))
  | wtup ws => exact .inl (.inr (tM.mk r sl e1 fun M1 v en r1 x1 rx => by
      obtain ⟨q, xs, rfl, hT, hx⟩ := rx
      exact ⟨q, rfl, ⟨xs, hT.seq⟩, k M1 _ ⟨en, r1⟩ x1 (jok_tup (fun M' x => (hT.keep x).seq) hx)⟩))
  | lst ws => exact .inl (.inl (tM.mk r sl e1 fun M1 v en r1 x1 rx => by
      obtain ⟨q, xs, rfl, np, hH, hx⟩ := rx
      exact ⟨q, rfl, ⟨xs, .inl (.inl hH)⟩, k M1 _ ⟨en, r1⟩ x1 (jok_lst np hH hx)⟩))
  | ref i =>
    obtain ⟨ws, hw, e3⟩ := refL_ok ne
    change Ev.hget Sr.err (Ev.oLst Sr.err fun _ => .ref false i n1 l1) l1 i = _ at e3
    refine .inl (.inl (tM.mk r sl e1 fun M1 v en r1 x1 rx => ?_))
    obtain ⟨hi, rfl⟩ := rx
    obtain ⟨xs, hxs⟩ := r1.hasL hw
    have k' : ∀ (M1 : Ms) (J : It), SrAt c M1 (Ev.hget Sr.err (Ev.oLst Sr.err fun _ => .ref false i n1 l1) l1 i) → Ext M M1 → JOk c M1 J (Ev.hget Sr.err (Ev.oLst Sr.err fun _ => .ref false i n1 l1) l1 i) → R J M1.H := k
    rw [e3] at k'
    exact ⟨_, rfl, ⟨xs, .inl (.inl hxs)⟩, k' M1 _ ⟨en, r1⟩ x1 (jok_ref hi)⟩
  | rng kk =>
    refine .inr (tM.mk r sl e1 fun M1 v en r1 x1 rx => ?_)
    obtain ⟨q, rfl, np, hH⟩ := rx
    have ne' : Bool.rec (motive := fun _ => Sr) .err (.lst (Ev.rng 0 kk) n1 l1) (Nat.blt kk 1000000) ≠ .err := ne
    have k' : ∀ (M1 : Ms) (J : It), SrAt c M1 (Bool.rec (motive := fun _ => Sr) .err (.lst (Ev.rng 0 kk) n1 l1) (Nat.blt kk 1000000)) → Ext M M1 → JOk c M1 J (Bool.rec (motive := fun _ => Sr) .err (.lst (Ev.rng 0 kk) n1 l1) (Nat.blt kk 1000000)) → R J M1.H := k
    cases hb : Nat.blt kk 1000000 with
    | false => rw [hb] at ne'; exact absurd rfl ne'
    | true =>
      rw [hb] at k'
      exact ⟨q, kk, rfl, hH, Nat.le_of_ble_eq_true hb, k' M1 _ ⟨en, r1⟩ x1 jok_rng⟩
  | un => exact absurd rfl ne
  | non => exact absurd rfl ne
  | bl _ => exact absurd rfl ne
  | nat _ => exact absurd rfl ne
  | str _ => exact absurd rfl ne
  | dct _ _ _ => exact absurd rfl ne
  | obj _ _ _ => exact absurd rfl ne

/-! ### range(k), walked at once -/
theorem ci_range (hg : Gl X "range") (hm : X.mg "range" = none) (ha : PA X [a] (tA c cl (Ev.aCons ma Ev.aNil))) (hs : starEach [a] X.env = [(false, eval a X.env)] := by rfl) : PI X tg (.Call (.Name "range" p) [a] [] pos) (tG c cl (Ev.gRange ma)) := by
  refine pi_imp (pi_range1 hg hm ha hs) fun σ H R ⟨M, l, s, eH, r, sl, ne, k⟩ => ?_
  subst eH
  obtain ⟨x, n1, l1, e1, e2⟩ := Rs.bg_ok ne
  change Ev.gRange ma cl s M.n l = _ at e2
  rw [e2] at ne k
  cases x with
  | nat kk =>
    have ne' : Bool.rec (motive := fun _ => Sr) .err (.lst (Ev.rng 0 kk) n1 l1) (Nat.blt kk 1000000) ≠ .err := ne
    have k' : ∀ (M1 : Ms) (J : It), SrAt c M1 (Bool.rec (motive := fun _ => Sr) .err (.lst (Ev.rng 0 kk) n1 l1) (Nat.blt kk 1000000)) → Ext M M1 → JOk c M1 J (Bool.rec (motive := fun _ => Sr) .err (.lst (Ev.rng 0 kk) n1 l1) (Nat.blt kk 1000000)) → R J M1.H := k
    cases hb : Nat.blt kk 1000000 with
    | false => rw [hb] at ne'; exact absurd rfl ne'
    | true =>
      rw [hb] at k'
      have hlt : kk < 1000000 := Nat.le_of_ble_eq_true hb
      have e0 : Ev.aCons ma Ev.aNil cl s M.n l = .ok [.nat kk] n1 l1 := by
        show (ma cl s M.n l).ba _ = _
        rw [e1]
        rfl
      refine tA.mk r sl e0 fun M1 vs en r1 x1 rvs => ?_
      obtain ⟨v, q, rfl, rv, rq⟩ := rvs
      rw [show q = [] from rq, show v = .int (kk : Int) from rv]
      exact ⟨kk, rfl, by omega, by omega, k' M1 _ ⟨en, r1⟩ x1 jok_rng⟩
  | _ => exact absurd rfl ne
/-! ### enumerate -/
theorem enu_get : ∀ (ws : List Ev.W) (i j : Nat), (Ev.enu i ws)[j]? = ws[j]?.map fun w => .tup [.nat (i + j), w]
  | [], i, j => by
    rw [List.getElem?_nil]
    exact List.getElem?_nil
  | w :: ws, i, j => by
    have h : Ev.enu i (w :: ws) = .tup [.nat i, w] :: Ev.enu (i + 1) ws := rfl
    rw [h]
    cases j with
    | zero => rfl
    | succ j =>
      rw [List.getElem?_cons_succ, List.getElem?_cons_succ, enu_get ws (i + 1) j, show i + 1 + j = i + (j + 1) by omega]
theorem enu_len : ∀ (ws : List Ev.W) (i : Nat), (Ev.enu i ws).length = ws.length
  | [], i => rfl
  | w :: ws, i => by
    show (Ev.enu (i + 1) ws).length + 1 = ws.length + 1
    rw [enu_len ws (i + 1)]
/-- the tuple at a, each item in a new pair -/
def Itet (K : PySem.W.Frag) (a : Addr) : It :=
  ⟨fun i H => ∃ (xs : List V) (x : V), SqT K H a xs ∧ xs[i]? = some x, fun i H v H' => ∃ T x, v = .ref T ∧ H T = none ∧ H' = upd H T (.tup [.int (i : Nat), x]) ∧ ∀ xs, SqT K H a xs → xs[i]? = some x, fun i H => ∃ xs : List V, SqT K H a xs ∧ xs.length = i⟩
theorem jok_enl {K : PySem.W.Frag} {M1 : Ms} {ws : List Ev.W} {xs : List V} {p : Addr} {n : Nat} {l1 : Hl} (np : ¬ M1.P p) (hp : M1.H p = some (.lst xs)) (hx : RVs c M1 ws xs) : JOk c M1 (Ite K p) (.lst (Ev.enu 0 ws) n l1) := fun j M l r x1 => by
  have hM := (x1.keep _ _ hp np).1
  have hxM := RVs.mono0 x1 _ _ hx
  refine ⟨fun w hw => ?_, fun h => ⟨xs, .inl (.inl hM), by rw [← hx.length]; rw [enu_len] at h; exact Nat.le_of_eq h.symm⟩⟩
  rw [enu_get] at hw
  obtain ⟨u, hu, ew⟩ := Option.map_eq_some_iff.mp hw
  obtain ⟨z, g1, g2⟩ := hxM.get hu
  refine ⟨⟨xs, z, .inl (.inl hM), g1⟩, fun x H' ⟨T, y, h0, hT, h1, h2⟩ => ?_⟩
  have h3 := h2 xs (.inl (.inl hM))
  rw [g1] at h3
  cases h3
  rw [h0, h1, ← ew, Nat.zero_add]
  exact Yl.pair r hT rfl g2
theorem jok_enr {K : PySem.W.Frag} {M1 : Ms} {i n : Nat} {l1 : Hl} (hi : i < M1.n) : JOk c M1 (Ite K (M1.ρ i)) (.ref true i n l1) := fun j M l ws r x1 hat1 => by
  obtain ⟨xs, hM, hx⟩ := r.obj i _ hat1
  rw [x1.ρ i hi] at hM
  refine ⟨fun w hw => ?_, fun h => ⟨xs, .inl (.inl hM), by rw [← hx.length]; exact h⟩⟩
  obtain ⟨z, g1, g2⟩ := hx.get hw
  refine ⟨⟨xs, z, .inl (.inl hM), g1⟩, fun x H' ⟨T, y, h0, hT, h1, h2⟩ => ?_⟩
  have h3 := h2 xs (.inl (.inl hM))
  rw [g1] at h3
  cases h3
  rw [h0, h1]
  exact Yl.pair r hT rfl g2
theorem jok_ent {M1 : Ms} {ws : List Ev.W} {xs : List V} {p : Addr} {n : Nat} {l1 : Hl} (hp : ∀ M, Ext0 M1 M → SqT c.K M.H p xs) (hx : RVs c M1 ws xs) : JOk c M1 (Itet c.K p) (.lst (Ev.enu 0 ws) n l1) := fun j M l r x1 => by
  have hM := hp M x1
  have hxM := RVs.mono0 x1 _ _ hx
  refine ⟨fun w hw => ?_, fun h => ⟨xs, hM, by rw [← hx.length]; rw [enu_len] at h; exact h.symm⟩⟩
  rw [enu_get] at hw
  obtain ⟨u, hu, ew⟩ := Option.map_eq_some_iff.mp hw
  obtain ⟨z, g1, g2⟩ := hxM.get hu
  refine ⟨⟨xs, z, hM, g1⟩, fun x H' ⟨T, y, h0, hT, h1, h2⟩ => ?_⟩
  have h3 := h2 xs hM
  rw [g1] at h3
  cases h3
  rw [h0, h1, ← ew, Nat.zero_add]
  exact Yl.pair r hT rfl g2
/-! ### zip of two lists -/
theorem zip_get : ∀ (p q : List Ev.W) (j : Nat), (Ev.zipW p q)[j]? = (p[j]?.bind fun x => q[j]?.map fun y => .tup [x, y])
  | [], q, j => by
    rw [List.getElem?_nil]
    exact List.getElem?_nil
  | x :: p, [], j => by
    have h : Ev.zipW (x :: p) [] = [] := rfl
    rw [h, List.getElem?_nil]
    cases (x :: p)[j]? <;> rfl
  | x :: p, y :: q, j => by
    have h : Ev.zipW (x :: p) (y :: q) = .tup [x, y] :: Ev.zipW p q := rfl
    rw [h]
    cases j with
    | zero => rfl
    | succ j =>
      rw [List.getElem?_cons_succ, List.getElem?_cons_succ, List.getElem?_cons_succ]
      exact zip_get p q j
theorem zip_len : ∀ (p q : List Ev.W), (Ev.zipW p q).length = min p.length q.length
  | [], q => by simp [show Ev.zipW [] q = [] from rfl]
  | x :: p, [] => by simp [show Ev.zipW (x :: p) [] = [] from rfl]
  | x :: p, y :: q => by
    have h : Ev.zipW (x :: p) (y :: q) = .tup [x, y] :: Ev.zipW p q := rfl
    rw [h, List.length_cons, List.length_cons, List.length_cons, zip_len p q]
    omega
theorem jok_zip {K : PySem.W.Frag} {M1 : Ms} {ws us : List Ev.W} {xs ys : List V} {p q : Addr} {n : Nat} {l1 : Hl} (np : ¬ M1.P p) (hp : M1.H p = some (.lst xs)) (hx : RVs c M1 ws xs) (nq : ¬ M1.P q) (hq : M1.H q = some (.lst ys)) (hy : RVs c M1 us ys) : JOk c M1 (Itz K p q) (.lst (Ev.zipW ws us) n l1) := fun j M l r x1 => by
  have hM := (x1.keep _ _ hp np).1
  have hxM := RVs.mono0 x1 _ _ hx
  have hN := (x1.keep _ _ hq nq).1
  have hyM := RVs.mono0 x1 _ _ hy
  refine ⟨fun w hw => ?_, fun h => ⟨xs, ys, .inl (.inl hM), .inl (.inl hN), ?_⟩⟩
  · rw [zip_get] at hw
    obtain ⟨u, hu, hw2⟩ := Option.bind_eq_some_iff.mp hw
    obtain ⟨u2, hu2, ew⟩ := Option.map_eq_some_iff.mp hw2
    obtain ⟨z, g1, g2⟩ := hxM.get hu
    obtain ⟨z2, g3, g4⟩ := hyM.get hu2
    refine ⟨⟨xs, ys, z, z2, .inl (.inl hM), .inl (.inl hN), g1, g3⟩, fun x H' ⟨T, y, y2, h0, hT, h1, h2, h5⟩ => ?_⟩
    have h3 := h2 xs (.inl (.inl hM))
    rw [g1] at h3
    cases h3
    have h4 := h5 ys (.inl (.inl hN))
    rw [g3] at h4
    cases h4
    rw [h0, h1, ← ew]
    exact Yl.pair r hT g2 g4
  · rw [zip_len] at h
    rw [← hx.length, ← hy.length]
    omega
theorem ci_zip {elts : List Expr} {kk : Nat} {tpos : Pos} (hK : X.K = c.K) (hg : Gl X "zip") (hm : X.mg "zip" = none) (ha : PA X [a, b] (tA c cl (Ev.aCons ma (Ev.aCons mb Ev.aNil)))) (hs : starEach [a, b] X.env = (false, eval a X.env) :: starEach [b] X.env := by rfl) (hpl : (backTo pos (starEach [b] X.env)).any (·.1) = false := by rfl) :
    PI X (.Tuple elts kk tpos) (.Call (.Name "zip" p) [a, b] [] pos) (tG c cl (Ev.gZip ma mb)) := by
  refine pi_imp (pi_zip hg hm ha hs hpl) fun σ H R ⟨M, l, s, eH, r, sl, ne, k⟩ => ?_
  subst eH
  obtain ⟨x, n1, l1, e1, e2⟩ := Rs.bg_ok ne
  change Ev.gZip ma mb cl s M.n l = _ at e2
  rw [e2] at ne k
  obtain ⟨y, n2, l2, e3, e4⟩ := Rs.bg_ok ne
  rw [e4] at ne k
  have lsts : ∃ p q, x = .lst p ∧ y = .lst q := by
    cases x with
    | lst p =>
      cases y with
      | lst q => exact ⟨p, q, rfl, rfl⟩
      | _ => exact absurd rfl ne
    | ref i => exact absurd rfl ne
    | _ => cases y <;> exact absurd rfl ne
  obtain ⟨ws, us, rfl, rfl⟩ := lsts
  have e0 : Ev.aCons ma (Ev.aCons mb Ev.aNil) cl s M.n l = .ok [.lst ws, .lst us] n2 l2 := by
    show (ma cl s M.n l).ba (fun x n1 l1 => (Ev.Rs.ba (mb cl s n1 l1) fun x n1 l1 => Ev.Ra.ba (Ra.ok [] n1 l1) _).ba _) = _
    rw [e1]
    show ((mb cl s n1 l1).ba _).ba _ = _
    rw [e3]
    rfl
  refine tA.mk r sl e0 fun M1 vs en r1 x1 rvs => ?_
  obtain ⟨v, q, rfl, ⟨pa, xs, rfl, np, hp, hx⟩, rq⟩ := rvs
  obtain ⟨u, q2, rfl, ⟨pb, ys, rfl, nq, hq, hy⟩, rq2⟩ := rq
  rw [show q2 = [] from rq2]
  exact ⟨pa, pb, xs, ys, rfl, .inl (.inl hp), .inl (.inl hq), k M1 _ ⟨en, r1⟩ x1 (jok_zip np hp hx nq hq hy)⟩
/-! ### the keys of a dict that stays -/
theorem pe_post {e : Expr} {t : TE} (h : PE X e t) : PE X e (fun σ H Q => t σ H fun x H1 => Q x H1 ∨ ∃ d u, H1 d = some u ∧ Mut (some u) ∧ ∀ od, Q x (upd H1 d (.frz od u))) := ⟨fun pins s σ H Q I q => by
  refine thn (h.run pins s σ H _ I q) fun v s1 ⟨x, H1, I1, r1, q1⟩ => ?_
  rcases q1 with q1 | ⟨d, u, hd, mu, q1⟩
  · exact ⟨x, H1, I1, r1, q1⟩
  · obtain ⟨od, I2⟩ := I1.lock hd mu
    exact ⟨x, _, I2, r1, q1 od⟩⟩
/-- a dict that is not live is locked for good -/
theorem Rep.locked {M : Ms} {l : Hl} (r : Rep c M l) {d : Addr} {u : HO} {od : Obj} (h : M.H d = some u) (np : ¬ M.P d) (hu : IsDt u) : Rep c { M with H := upd M.H d (.frz od u) } l ∧ Ext M { M with H := upd M.H d (.frz od u) } := by
  have ne : ∀ a, M.P a → a ≠ d := fun a pa z => np (z ▸ pa)
  have ek : ∀ a, M.E a → upd M.H d (.frz od u) a = M.H a := fun a e => upd_ne (ne a ((r.P a).mpr (.inr e)))
  have ext : Ext M { M with H := upd M.H d (.frz od u) } := ⟨⟨Nat.le_refl _, fun _ _ => rfl, fun a o e n => ⟨by
    by_cases z : a = d
    · rw [z, h] at e
      cases e
      exact .inr ⟨hu, od, by rw [z]; exact upd_same⟩
    · exact .inl (by show upd M.H d (.frz od u) a = some o; rw [upd_ne z]; exact e), n⟩⟩, fun a e => ⟨e, ek a e⟩⟩
  refine ⟨⟨r.dsc, fun i o e => (r.obj i o e).mono ext ?_, r.inj, r.P, fun a e => ?_⟩, ext⟩
  · show upd M.H d (.frz od u) (M.ρ i) = M.H (M.ρ i)
    exact upd_ne (ne _ (r.live e))
  · obtain ⟨⟨x, e3, e4⟩, e5⟩ := r.E a e
    exact ⟨⟨x, (ek a e).trans e3, e4⟩, e5⟩
theorem map_keys {κ : Type} {ko : Ev.W → Option κ} {ks : List Ev.W} {kvs : List (κ × V)} (h : ks.map ko = kvs.map (fun p => some p.1)) {j : Nat} {w : Ev.W} (hw : ks[j]? = some w) : ∃ k v, kvs[j]? = some (k, v) ∧ ko w = some k := by
  have e : (ks.map ko)[j]? = some (ko w) := by rw [List.getElem?_map, hw]; rfl
  rw [h, List.getElem?_map] at e
  obtain ⟨q, h1, h2⟩ := Option.map_eq_some_iff.mp e
  exact ⟨q.1, q.2, h1, h2.symm⟩
theorem map_len {κ : Type} {ko : Ev.W → Option κ} {ks : List Ev.W} {kvs : List (κ × V)} (h : ks.map ko = kvs.map (fun p => some p.1)) : ks.length = kvs.length := by
  have := congrArg List.length h
  rw [List.length_map, List.length_map] at this
  exact this
theorem jok_kK {M1 : Ms} {ks : List Ev.W} {kvs : List (Key × V)} {d : Addr} {o : Obj} {n : Nat} {l1 : Hl} (np : ¬ M1.P d) (hd : M1.H d = some (.frz o (.dK kvs))) (hk : ks.map (keyOf c) = kvs.map (fun p => some p.1)) : JOk c M1 (Itk d o kvs) (.lst ks n l1) := fun j M l r x1 => by
  have hM := (x1.keep _ _ hd np).1
  refine ⟨fun w hw => ?_, fun h => ?_⟩
  · obtain ⟨k, v, g1, g2⟩ := map_keys hk hw
    have hj : j < kvs.length := (List.getElem?_eq_some_iff.mp g1).1
    refine ⟨walk_keys.goes j M.H hj hM, fun x H' y => ?_⟩
    obtain ⟨h1, k2, v2, h2, h3⟩ := walk_keys.yields j M.H x H' hj hM y
    rw [g1] at h2
    cases h2
    rw [h1, h3]
    exact Yl.same r (keyOf_rv g2)
  · rw [map_len hk] at h
    exact ⟨hM, Nat.le_of_eq h.symm⟩
theorem jok_kT {M1 : Ms} {ks : List Ev.W} {kvs : List (List Key × V)} {d : Addr} {o : Obj} {n : Nat} {l1 : Hl} (np : ¬ M1.P d) (hd : M1.H d = some (.frz o (.dT kvs))) (hk : ks.map (tkeyOf c) = kvs.map (fun p => some p.1)) : JOk c M1 (Itkt d o kvs) (.lst ks n l1) := fun j M l r x1 => by
  have hM := (x1.keep _ _ hd np).1
  refine ⟨fun w hw => ?_, fun h => ?_⟩
  · obtain ⟨k, v, g1, g2⟩ := map_keys hk hw
    have hj : j < kvs.length := (List.getElem?_eq_some_iff.mp g1).1
    refine ⟨walk_keysT.goes j M.H hj hM, fun x H' y => ?_⟩
    obtain ⟨h1, k2, v2, q, h2, h3, h4⟩ := walk_keysT.yields j M.H x H' hj hM y
    rw [g1] at h2
    cases h2
    rw [h1, h3]
    refine Yl.same r ?_
    cases w with
    | tup l2 => exact ⟨q, _, rfl, r.notTup h4, h4, keysOf_rv (show keysOf c l2 = some k from g2)⟩
    | _ => cases g2
  · rw [map_len hk] at h
    exact ⟨hM, Nat.le_of_eq h.symm⟩
theorem ci_keys (ha : PE X a (tM c cl ma)) : PI X tg a (tG c cl (Ev.gKeys ma)) := by
  refine pi_imp (pi_keys (pe_post ha)) fun σ H R ⟨M, l, s, eH, r, sl, ne, k⟩ => ?_
  subst eH
  obtain ⟨x, n1, l1, e1, e2⟩ := Rs.bg_ok ne
  change Ev.gKeys ma cl s M.n l = _ at e2
  rw [e2] at ne k
  cases x with
  | dct t ks vs =>
    unfold iKeys
    refine tM.mk r sl e1 fun M1 v en r1 x1 rx => ?_
    cases t with
    | false =>
      obtain ⟨d, rfl, np, kvs, h1, h2, h3⟩ := rx
      rcases h1 with h1 | ⟨o, h1⟩
      · refine .inr ⟨d, _, h1, trivial, fun od => ⟨d, od, rfl, .inl ⟨kvs, upd_same, ?_⟩⟩⟩
        obtain ⟨r2, x2⟩ := r1.locked (od := od) h1 np (.inl ⟨_, rfl⟩)
        exact k { M1 with H := upd M1.H d (.frz od (.dK kvs)) } _ ⟨en, r2⟩ (x1.trans x2) (jok_kK np upd_same h2)
      · exact .inl ⟨d, o, rfl, .inl ⟨kvs, h1, k M1 _ ⟨en, r1⟩ x1 (jok_kK np h1 h2)⟩⟩
    | true =>
      obtain ⟨d, rfl, np, kvs, h1, h2, h3⟩ := rx
      rcases h1 with h1 | ⟨o, h1⟩
      · refine .inr ⟨d, _, h1, trivial, fun od => ⟨d, od, rfl, .inr ⟨kvs, upd_same, ?_⟩⟩⟩
        obtain ⟨r2, x2⟩ := r1.locked (od := od) h1 np (.inr ⟨_, rfl⟩)
        exact k { M1 with H := upd M1.H d (.frz od (.dT kvs)) } _ ⟨en, r2⟩ (x1.trans x2) (jok_kT np upd_same h2)
      · exact .inl ⟨d, o, rfl, .inr ⟨kvs, h1, k M1 _ ⟨en, r1⟩ x1 (jok_kT np h1 h2)⟩⟩
  | _ => exact absurd rfl ne
end
end Sd
end

section
set_option Elab.async false
set_option linter.all false
set_option maxRecDepth 100000
/-! Sd9: targets, for, while, the plain statements. -/
namespace Sd
open PySem PySem.Spec PyProof.Rows L2
open Ev (Hl Rs Rb Ra So Sr CallT)
section
variable {X : Cx} {c : Cn} {cl : CallT} {σ : L2.St} {H : Hp} {tg a b d : Expr} {ma mb md : Ev.D} {pos p pos2 : Pos} {D : Ends}
theorem Fin.mono {M M' : Ms} {r : So} (x : Ext M M') (h : Fin c M D r) : Fin c M' D r := by
  cases r with
  | err => exact h
  | nx s n l => exact fun M2 σ2 h1 h2 h3 h4 => h M2 σ2 h1 h2 (x.trans h3) h4
  | rt w n l => exact fun M2 v h1 h2 h3 h4 => h M2 v h1 h2 (x.trans h3) h4
  | bk s n l => exact fun M2 σ2 h1 h2 h3 h4 => h M2 σ2 h1 h2 (x.trans h3) h4
  | ct s n l => exact fun M2 σ2 h1 h2 h3 h4 => h M2 σ2 h1 h2 (x.trans h3) h4
/-! ### targets -/
/-- the slots of the block's own names forgotten -/
noncomputable def unset (s : List Ev.W) : List Nat → List Ev.W
  | [] => s
  | v :: vs => Ev.sset v .un (unset s vs)
theorem Sl.unset {M : Ms} {s : List Ev.W} (h : Sl c M s σ) : ∀ vs : List Nat, Sl c M (unset s vs) (wipe σ vs)
  | [] => h
  | v :: vs => by
    have ih := Sl.unset h vs
    show Sl c M (Ev.sset v .un (Sd.unset s vs)) ((wipe σ vs).set v none)
    rw [sset_eq]
    refine ⟨by rw [List.length_set, List.length_set]; exact ih.len, fun j x e => ?_⟩
    by_cases q : v = j
    · subst q
      have hi : v < (Sd.unset s vs).length := by
        obtain ⟨z, _⟩ := List.getElem?_eq_some_iff.mp e
        rw [List.length_set] at z
        exact z
      rw [List.getElem?_set_self hi] at e
      cases e
      exact .inl rfl
    · rw [List.getElem?_set_ne q] at e ⊢
      exact ih.at_ j x e
/-- the machine's target and the hand layer's -/
def TgOk (c : Cn) {R : Type} (e : R) (g : List Ev.W → Ev.W → (List Ev.W → R) → R) (gt : TG) (vs : List Nat) : Prop :=
  (∀ s w k r, g s w k = r → e ≠ r → ∃ s1, k s1 = r ∧ ∀ (M : Ms) (σ : L2.St) (v : V) (Q : L2.St → Hp → Prop), Sl c M s σ → RV c M w v → (∀ σ1, wipe σ1 vs = wipe σ vs → Sl c M s1 σ1 → Q σ1 M.H) → gt v σ M.H Q) ∧
  ∀ s w k, g (unset s vs) w k = g s w k
theorem sset_twice (i : Nat) (x y : Ev.W) (s : List Ev.W) : Ev.sset i x (Ev.sset i y s) = Ev.sset i x s := by
  rw [sset_eq, sset_eq, sset_eq, List.set_set]
theorem sset_comm {i j : Nat} (h : i ≠ j) (x y : Ev.W) (s : List Ev.W) : Ev.sset i x (Ev.sset j y s) = Ev.sset j y (Ev.sset i x s) := by
  rw [sset_eq, sset_eq, sset_eq, sset_eq, List.set_comm _ _ h]
theorem tg1 {R : Type} {e : R} (i : Nat) : TgOk c e (fun s w => Ev.g1 i e w s) (gName i) [i] :=
  ⟨fun s w k r h ne => ⟨Ev.sset i w s, h, fun M σ v Q sl rv q => q _ (by
    show (σ.set i (some v)).set i none = σ.set i none
    rw [List.set_set]) (sl.set rv i)⟩, fun s w k => by
    show k (Ev.sset i w (Ev.sset i .un s)) = k (Ev.sset i w s)
    rw [sset_twice]⟩
theorem tg2 {R : Type} {e : R} {i j : Nat} (hij : i ≠ j) : TgOk c e (fun s w => Ev.g2 i j e w s) (gTup c.K 2 (gCons (gName i) (gCons (gName j) gNil))) [i, j] :=
  ⟨fun s w k r h ne => by
    obtain ⟨l, rfl, h1⟩ := tupK_ne (show Ev.tupK e _ w = r from h) ne
    match l, h1 with
    | [], h1 => exact absurd h1 ne
    | [x], h1 => exact absurd h1 ne
    | x :: y :: z :: q, h1 => exact absurd h1 ne
    | [x, y], h1 =>
      refine ⟨_, h1, fun M σ v Q sl rv q => ?_⟩
      obtain ⟨a, xs, rfl, _, hH, u1, r1, rfl, h2, u2, r2, rfl, h3, h4⟩ := rv
      rw [show r2 = [] from h4] at hH
      refine ⟨a, [u1, u2], rfl, .inl (.inl hH), rfl, u1, [u2], rfl, u2, [], rfl, rfl, q _ ?_ ((sl.set h2 i).set h3 j)⟩
      show (((σ.set i (some u1)).set j (some u2)).set j none).set i none = (σ.set j none).set i none
      rw [List.set_set, List.set_comm _ _ (Ne.symm hij), List.set_set, List.set_comm _ _ hij], fun s w k => by
    cases w with
    | tup l =>
      match l with
      | [] => rfl
      | [x] => rfl
      | x :: y :: z :: q => rfl
      | [x, y] =>
        show k (Ev.sset j y (Ev.sset i x (Ev.sset i .un (Ev.sset j .un s)))) = k (Ev.sset j y (Ev.sset i x s))
        rw [sset_twice, sset_comm hij, sset_twice]
    | _ => rfl⟩
theorem tg3 {R : Type} {e : R} {i j h : Nat} (hij : i ≠ j) (hih : i ≠ h) (hjh : j ≠ h) : TgOk c e (fun s w => Ev.g3 i j h e w s) (gTup c.K 3 (gCons (gName i) (gCons (gName j) (gCons (gName h) gNil)))) [i, j, h] :=
  ⟨fun s w k r h0 ne => by
    obtain ⟨l, rfl, h1⟩ := tupK_ne (show Ev.tupK e _ w = r from h0) ne
    match l, h1 with
    | [], h1 => exact absurd h1 ne
    | [x], h1 => exact absurd h1 ne
    | [x, y], h1 => exact absurd h1 ne
    | x :: y :: z :: t :: q, h1 => exact absurd h1 ne
    | [x, y, z], h1 =>
      refine ⟨_, h1, fun M σ v Q sl rv q => ?_⟩
      obtain ⟨a, xs, rfl, _, hH, u1, r1, rfl, h2, u2, r2, rfl, h3, u3, r3, rfl, h4, h5⟩ := rv
      rw [show r3 = [] from h5] at hH
      refine ⟨a, [u1, u2, u3], rfl, .inl (.inl hH), rfl, u1, [u2, u3], rfl, u2, [u3], rfl, u3, [], rfl, rfl, q _ ?_ (((sl.set h2 i).set h3 j).set h4 h)⟩
      show (((((σ.set i (some u1)).set j (some u2)).set h (some u3)).set h none).set j none).set i none = ((σ.set h none).set j none).set i none
      apply List.ext_getElem?
      intro m
      simp only [List.getElem?_set, List.length_set]
      by_cases q1 : i = m
      · simp [q1]
      · by_cases q2 : j = m
        · simp [q1, q2]
        · by_cases q3 : h = m
          · simp [q1, q2, q3]
          · simp [q1, q2, q3], fun s w k => by
    cases w with
    | tup l =>
      match l with
      | [] => rfl
      | [x] => rfl
      | [x, y] => rfl
      | x :: y :: z :: t :: q => rfl
      | [x, y, z] =>
        show k (Ev.sset h z (Ev.sset j y (Ev.sset i x (Ev.sset i .un (Ev.sset j .un (Ev.sset h .un s)))))) = k (Ev.sset h z (Ev.sset j y (Ev.sset i x s)))
        rw [sset_twice, sset_comm hij, sset_twice, sset_comm hih, sset_comm hjh, sset_twice]
    | _ => rfl⟩
/-! ### for -/
theorem loop_body {b : Ev.S} {F : List Ev.W → Nat → Hl → So} {N : L2.St → Hp → Prop} {M : Ms} {l : Hl} {s1 : List Ev.W} {σ2 : L2.St} (hN : ∀ (M' : Ms) (l' : Hl) (s' : List Ev.W) (σ' : L2.St), Rep c M' l' → Sl c M' s' σ' → Ext M M' → Fin c M' D (F s' M'.n l') → N σ' M'.H)
    (r : Rep c M l) (sl : Sl c M s1 σ2) (h : Fin c M D (So.rec (motive := fun _ => So) .err F .rt .nx F (b cl s1 M.n l))) : tS c cl b { D with nx := N, ct := N, bk := D.nx } σ2 M.H := by
  refine ⟨M, l, s1, rfl, r, sl, ?_⟩
  cases q : b cl s1 M.n l with
  | err => rw [q] at h; exact h
  | nx s2 n2 l2 =>
    rw [q] at h
    intro M' σ' hn rr x ss
    subst hn
    exact hN M' l2 s2 σ' rr ss x (Fin.mono x h)
  | rt w n2 l2 => rw [q] at h; exact h
  | bk s2 n2 l2 => rw [q] at h; exact h
  | ct s2 n2 l2 =>
    rw [q] at h
    intro M' σ' hn rr x ss
    subst hn
    exact hN M' l2 s2 σ' rr ss x (Fin.mono x h)
theorem Fin.ne {M : Ms} {r : So} (h : Fin c M D r) : So.err ≠ r := fun z => by rw [← z] at h; exact h
theorem cs_for {src : Ev.G} {g : List Ev.W → Ev.W → (List Ev.W → So) → So} {b : Ev.S} {gt : TG} {vs : List Nat} {iter : Expr} {body : List Stmt} (hp : PassesOwn (model X.prog X.w) X.A X.env X.xe) (hc : X.calm = true) (hi : PI X tg iter (tG c cl src)) (hg : PG X tg gt) (ht : TgOk c So.err g gt vs) (hb : PSs X body (tS c cl b))
    (hs : ∀ x, foldedSetIterable iter X.env x = pure x := by intro _; rfl) : PS X (.For tg iter body [] pos) (tS c cl (Ev.sFor src g b)) := by
  refine ps_imp (ps_for hp hc hi hg hb hs) fun D σ H ⟨M, l, s, eH, r, sl, fin⟩ => ?_
  subst eH
  have fin' : Fin c M D (Sr.rec (motive := fun _ => So) .err (fun ws n1 l1 => Ev.forL g b cl ws s n1 l1) (fun en i n1 l1 => Ev.forR g b cl en i 4096 0 s n1 l1) (src cl s M.n l)) := fin
  refine ⟨M, l, s, rfl, r, sl, fun z => by rw [z] at fin'; exact fin', fun M1 J at1 x1 jok => ?_⟩
  cases q : src cl s M.n l with
  | err => rw [q] at at1; exact at1.elim
  | lst ws n1 l1 =>
    rw [q] at at1 jok fin'
    obtain ⟨en, r1⟩ := at1
    subst en
    refine ⟨fun i m σ' H' => m = ws.length - i ∧ i ≤ ws.length ∧ ∃ (M' : Ms) (l' : Hl) (s' : List Ev.W), M'.H = H' ∧ Rep c M' l' ∧ Sl c M' s' σ' ∧ Ext M1 M' ∧ Fin c M' D (Ev.forL g b cl (ws.drop i) s' M'.n l'),
      ⟨ws.length, by simp, Nat.zero_le _, M1, l1, s, rfl, r1, sl.mono x1, Ext.refl M1, Fin.mono x1 fin'⟩, ?_⟩
    rintro i m σ' H' ⟨rfl, hi', M2, l2, s2, rfl, r2, sl2, x2, f2⟩
    by_cases hlt : i < ws.length
    · obtain ⟨go, yl⟩ := (jok i M2 l2 r2 x2.toExt0).1 ws[i] (by simp [hlt])
      refine .inr ⟨go, _, fun σ3 H3 z => ⟨ws.length - (i + 1), by omega, z⟩, fun x H4 hy => ?_⟩
      obtain ⟨M5, rfl, n5, r5, x5, rv5⟩ := yl x H4 hy
      rw [List.drop_eq_getElem_cons hlt] at f2
      have f3 : Fin c M2 D (g s2 ws[i] fun s1 => So.rec (motive := fun _ => So) .err (fun s2 n2 l2 => Ev.forL g b cl (ws.drop (i + 1)) s2 n2 l2) .rt .nx (fun s2 n2 l2 => Ev.forL g b cl (ws.drop (i + 1)) s2 n2 l2) (b cl s1 M2.n l2)) := f2
      obtain ⟨s1, e1, tgq⟩ := ht.1 s2 ws[i] _ _ rfl f3.ne
      rw [← e1, ← n5] at f3
      refine tgq M5 σ' x _ (sl2.mono x5) rv5 fun σ6 _ sl6 => loop_body (fun M' l' s' σ7 rr ss xx ff => ⟨rfl, hlt, M', l', s', rfl, rr, ss, (x2.trans x5).trans xx, ff⟩) r5 sl6 (Fin.mono x5 f3)
    · have e : i = ws.length := by omega
      subst e
      rw [List.drop_length] at f2
      exact .inl ⟨(jok _ M2 l2 r2 x2.toExt0).2 rfl, f2 M2 σ' rfl r2 (Ext.refl M2) sl2⟩
  | ref en i0 n1 l1 =>
    rw [q] at at1 jok fin'
    obtain ⟨en1, r1⟩ := at1
    subst en1
    refine ⟨fun i m σ' H' => ∃ (M' : Ms) (l' : Hl) (s' : List Ev.W), M'.H = H' ∧ Rep c M' l' ∧ Sl c M' s' σ' ∧ Ext M1 M' ∧ Fin c M' D (Ev.forR g b cl en i0 m i s' M'.n l'), ⟨4096, M1, l1, s, rfl, r1, sl.mono x1, Ext.refl M1, Fin.mono x1 fin'⟩, ?_⟩
    rintro i m σ' H' ⟨M2, l2, s2, rfl, r2, sl2, x2, f2⟩
    cases m with
    | zero => exact absurd rfl (Fin.ne (r := .err) f2)
    | succ m =>
      have f3 : Fin c M2 D (Ev.hget .err (Ev.oLst .err fun ws => List.rec (motive := fun _ => So) (.nx s2 M2.n l2) (fun w _ _ => g s2 (Bool.rec (motive := fun _ => Ev.W) w (.tup [.nat i, w]) en) fun s1 => So.rec (motive := fun _ => So) .err (fun s2 n2 l2 => Ev.forR g b cl en i0 m (i + 1) s2 n2 l2) .rt .nx (fun s2 n2 l2 => Ev.forR g b cl en i0 m (i + 1) s2 n2 l2) (b cl s1 M2.n l2)) (Ev.dropB i ws)) l2 i0) := f2
      obtain ⟨o, h1, h2⟩ := hget_ne (r := _) rfl f3.ne
      obtain ⟨ws, rfl, h3⟩ := oLst_ne h2 f3.ne
      rw [← h3, dropB_eq] at f3
      by_cases hlt : i < ws.length
      · obtain ⟨go, yl⟩ := (jok i M2 l2 ws r2 x2.toExt0 h1).1 ws[i] (by simp [hlt])
        refine .inr ⟨go, fun σ' H' => ∃ (M' : Ms) (l' : Hl) (s' : List Ev.W), M'.H = H' ∧ Rep c M' l' ∧ Sl c M' s' σ' ∧ Ext M1 M' ∧ Fin c M' D (Ev.forR g b cl en i0 m (i + 1) s' M'.n l'), fun σ3 H3 z => ⟨m, Nat.lt_succ_self _, z⟩, fun x H4 hy => ?_⟩
        obtain ⟨M5, rfl, n5, r5, x5, rv5⟩ := yl x H4 hy
        rw [List.drop_eq_getElem_cons hlt] at f3
        have f4 : Fin c M2 D (g s2 (Bool.rec (motive := fun _ => Ev.W) ws[i] (.tup [.nat i, ws[i]]) en) fun s1 => So.rec (motive := fun _ => So) .err (fun s2 n2 l2 => Ev.forR g b cl en i0 m (i + 1) s2 n2 l2) .rt .nx (fun s2 n2 l2 => Ev.forR g b cl en i0 m (i + 1) s2 n2 l2) (b cl s1 M2.n l2)) := f3
        obtain ⟨s1, e1, tgq⟩ := ht.1 s2 _ _ _ rfl f4.ne
        rw [← e1, ← n5] at f4
        refine tgq M5 σ' x _ (sl2.mono x5) rv5 fun σ6 _ sl6 => loop_body (fun M' l' s' σ7 rr ss xx ff => ⟨M', l', s', rfl, rr, ss, (x2.trans x5).trans xx, ff⟩) r5 sl6 (Fin.mono x5 f4)
      · rw [List.drop_eq_nil_of_le (by omega)] at f3
        exact .inl ⟨(jok i M2 l2 ws r2 x2.toExt0 h1).2 (by omega), f3 M2 σ' rfl r2 (Ext.refl M2) sl2⟩
end
end Sd
end

section
set_option Elab.async false
set_option linter.all false
set_option maxRecDepth 100000
/-! Sd10: the plain statements. -/
namespace Sd
open PySem PySem.Spec PyProof.Rows L2
open Ev (Hl Rs Rb Ra So Sr CallT)
theorem Rs.bs_ne {r : Rs} {k : Ev.W → Nat → Hl → So} (h : So.err ≠ r.bs k) : ∃ x n1 l1, r = .ok x n1 l1 ∧ r.bs k = k x n1 l1 := by
  cases r with
  | err => exact absurd rfl h
  | ok x n1 l1 => exact ⟨x, n1, l1, rfl, rfl⟩
theorem Rb.bs_ne {r : Rb} {k : Bool → Nat → Hl → So} (h : So.err ≠ r.bs k) : ∃ x n1 l1, r = .ok x n1 l1 ∧ r.bs k = k x n1 l1 := by
  cases r with
  | err => exact absurd rfl h
  | ok x n1 l1 => exact ⟨x, n1, l1, rfl, rfl⟩
section
variable {X : Cx} {c : Cn} {cl : CallT} {σ : L2.St} {H : Hp} {tg a b d o : Expr} {ma mb md mo : Ev.D} {pos p pos2 : Pos} {D : Ends} {st : Stmt} {rest : List Stmt} {ms mr : Ev.S}
/-! ### in a row -/
theorem cs_nil : PSs X [] (tS c cl Ev.sNil) := pss_imp pss_nil fun D σ H ⟨M, l, s, eH, r, sl, fin⟩ => by
  subst eH
  exact fin M σ rfl r (Ext.refl M) sl
theorem cs_cons (h1 : PS X st (tS c cl ms)) (h2 : PSs X rest (tS c cl mr)) : PSs X (st :: rest) (tS c cl (Ev.sSeq ms mr)) := pss_imp (pss_cons h1 h2) fun D σ H ⟨M, l, s, eH, r, sl, fin⟩ => by
  subst eH
  refine ⟨M, l, s, rfl, r, sl, ?_⟩
  have f : Fin c M D (So.rec (motive := fun _ => So) .err (fun s1 n1 l1 => mr cl s1 n1 l1) .rt .bk .ct (ms cl s M.n l)) := fin
  cases q : ms cl s M.n l with
  | err => rw [q] at f; exact f
  | nx s1 n1 l1 =>
    rw [q] at f
    intro M1 σ1 hn r1 x1 sl1
    subst hn
    exact ⟨M1, l1, s1, rfl, r1, sl1, Fin.mono x1 f⟩
  | rt w n1 l1 => rw [q] at f; exact f
  | bk s1 n1 l1 => rw [q] at f; exact f
  | ct s1 n1 l1 => rw [q] at f; exact f
theorem cs_one (h1 : PS X st (tS c cl ms)) : PSs X [st] (tS c cl ms) := pss_one h1
/-- a docstring ahead -/
theorem cs_doc {x : Str} {j : Nat} (h2 : PSs X rest (tS c cl mr)) : PSs X (.Expr (.Constant (.str x) j p) pos :: rest) (tS c cl mr) := pss_imp (pss_cons ps_doc h2) fun D σ H h => h
theorem cs_never {sts : List Stmt} : PSs X sts (tS c cl Ev.sNever) := pss_imp pss_never fun D σ H ⟨M, l, s, eH, r, sl, fin⟩ => fin
theorem cs_nev : PS X st (tS c cl Ev.sNever) := ps_imp ps_never fun D σ H ⟨M, l, s, eH, r, sl, fin⟩ => fin
theorem cs_expr (ha : PE X a (tM c cl ma)) (hs : swapsWith a none pos.line X.env = pure false := by rfl) : PS X (.Expr a pos) (tS c cl (Ev.sExpr ma)) := ps_imp (ps_expr ha hs) fun D σ H ⟨M, l, s, eH, r, sl, fin⟩ => by
  subst eH
  obtain ⟨x, n1, l1, e1, e2⟩ := Rs.bs_ne (Fin.ne fin)
  have f : Fin c M D (.nx s n1 l1) := by
    have f := fin
    change Fin c M D (Ev.Rs.bs _ _) at f
    rw [e2] at f
    exact f
  exact tM.mk r sl e1 fun M1 v en r1 x1 rx => f M1 σ en r1 x1 (sl.mono x1)
theorem cs_ret (ha : PE X a (tM c cl ma)) : PS X (.Return (some a) pos) (tS c cl (Ev.sRet ma)) := ps_imp (ps_ret ha) fun D σ H ⟨M, l, s, eH, r, sl, fin⟩ => by
  subst eH
  obtain ⟨x, n1, l1, e1, e2⟩ := Rs.bs_ne (Fin.ne fin)
  have f : Fin c M D (.rt x n1 l1) := by
    have f := fin
    change Fin c M D (Ev.Rs.bs _ _) at f
    rw [e2] at f
    exact f
  exact tM.mk r sl e1 fun M1 v en r1 x1 rx => f M1 v en r1 x1 rx
theorem cs_retN : PS X (.Return none pos) (tS c cl (Ev.sRet (Ev.eC .non))) := ps_imp ps_retN fun D σ H ⟨M, l, s, eH, r, sl, fin⟩ => by
  subst eH
  exact fin M _ rfl r (Ext.refl M) rfl
theorem cs_if {t : Expr} {mt : Ev.T} {as bs : List Stmt} {mas mbs : Ev.S} (ht : PT X t (tT c cl mt)) (ha : PSs X as (tS c cl mas)) (hb : PSs X bs (tS c cl mbs)) : PS X (.If t as bs pos) (tS c cl (Ev.sIf mt mas mbs)) := ps_imp (ps_if ht ha hb) fun D σ H ⟨M, l, s, eH, r, sl, fin⟩ => by
  subst eH
  obtain ⟨x, n1, l1, e1, e2⟩ := Rb.bs_ne (Fin.ne fin)
  have f : Fin c M D (Bool.rec (motive := fun _ => So) (mbs cl s n1 l1) (mas cl s n1 l1) x) := by
    have f := fin
    change Fin c M D (Ev.Rb.bs _ _) at f
    rw [e2] at f
    exact f
  refine tT.mk r sl e1 fun M1 en r1 x1 => ?_
  subst en
  cases x with
  | true => exact ⟨M1, l1, s, rfl, r1, sl.mono x1, Fin.mono x1 f⟩
  | false => exact ⟨M1, l1, s, rfl, r1, sl.mono x1, Fin.mono x1 f⟩
/-! ### stores -/
theorem asg_lemma {g : List Ev.W → Ev.W → (List Ev.W → So) → So} {gt : TG} {vs : List Nat} (ht : TgOk c So.err g gt vs) (h : tS c cl (Ev.sAsg g ma) D σ H) : tAsg (tM c cl ma) gt D σ H := by
  obtain ⟨M, l, s, eH, r, sl, fin⟩ := h
  subst eH
  obtain ⟨x, n1, l1, e1, e2⟩ := Rs.bs_ne (Fin.ne fin)
  have f : Fin c M D (g s x fun s1 => .nx s1 n1 l1) := by
    have f := fin
    change Fin c M D (Ev.Rs.bs _ _) at f
    rw [e2] at f
    exact f
  refine tM.mk r sl e1 fun M1 v en r1 x1 rx => ?_
  obtain ⟨s1, e3, q⟩ := ht.1 s x _ _ rfl f.ne
  rw [← e3] at f
  exact q M1 σ v _ (sl.mono x1) rx fun σ1 _ sl1 => f M1 σ1 en r1 x1 sl1
theorem cs_set {i : Nat} {x : Str} {p1 : Pos} (hN : X.N.Nodup) (hi : X.N[i]? = some x) (hx : Loc X.env.scope x) (ha : PE X a (tM c cl ma)) (hs : swapsWith a (some (.Name x p1)) pos.line X.env = pure false := by rfl) (hf : X.fn x = true ∨ X.env.scope.names.lookup x = some .local := by first | exact .inl rfl | exact .inr rfl | assumption) :
    PS X (.Assign [.Name x p1] a pos) (tS c cl (Ev.sAsg (fun s w => Ev.g1 i So.err w s) ma)) := ps_imp (ps_set hN hi hx ha hs hf) fun D σ H h => asg_lemma (tg1 i) h
theorem cs_asg {g : List Ev.W → Ev.W → (List Ev.W → So) → So} {gt : TG} {vs : List Nat} (ht : TgOk c So.err g gt vs) (ha : PE X a (tM c cl ma)) (hg : PG X tg gt) (hs : swapsWithSole [tg] a pos.line X.env = pure false := by rfl) (hw : swappedStores [tg] a X.env = pure none := by rfl)
    (h1 : (assignEach [tg] X.env).map (·.2) = [assign tg X.env] := by rfl) : PS X (.Assign [tg] a pos) (tS c cl (Ev.sAsg g ma)) := ps_imp (ps_asg ha hg hs hw h1) fun D σ H h => asg_lemma ht h
theorem cs_par {i j : Nat} {x y : Str} {px py pt : Pos} {kt k2 pt2} (hc : X.calm = true) (hN : X.N.Nodup) (hi : X.N[i]? = some x) (hj : X.N[j]? = some y) (hij : i ≠ j) (hx : X.env.scope.names.lookup x = some .local) (hy : X.env.scope.names.lookup y = some .local)
    (ha : PA X [a, b] (tA c cl (Ev.aCons ma (Ev.aCons mb Ev.aNil)))) (hw : swappedStores [.Tuple [.Name x px, .Name y py] kt pt] (.Tuple [a, b] k2 pt2) X.env = pure (some [x, y]))
    (hs : swapsWithSole [.Tuple [.Name x px, .Name y py] kt pt] (.Tuple [a, b] k2 pt2) pos.line X.env = pure false := by rfl) :
    PS X (.Assign [.Tuple [.Name x px, .Name y py] kt pt] (.Tuple [a, b] k2 pt2) pos) (tS c cl (Ev.sPar i j ma mb)) := ps_imp (ps_par hc hN hi hj hij hx hy ha hw hs) fun D σ H ⟨M, l, s, eH, r, sl, fin⟩ => by
  subst eH
  obtain ⟨u, n1, l1, e1, e2⟩ := Rs.bs_ne (Fin.ne fin)
  have f : Fin c M D ((mb cl s n1 l1).bs fun y n2 l2 => .nx (Ev.sset j y (Ev.sset i u s)) n2 l2) := by
    have f := fin
    change Fin c M D (Ev.Rs.bs _ _) at f
    rw [e2] at f
    exact f
  obtain ⟨v, n2, l2, e3, e4⟩ := Rs.bs_ne (Fin.ne f)
  rw [e4] at f
  have e0 : Ev.aCons ma (Ev.aCons mb Ev.aNil) cl s M.n l = .ok [u, v] n2 l2 := by
    show (ma cl s M.n l).ba (fun x n1 l1 => (Ev.Rs.ba (mb cl s n1 l1) fun x n1 l1 => Ev.Ra.ba (Ra.ok [] n1 l1) _).ba _) = _
    rw [e1]
    show ((mb cl s n1 l1).ba _).ba _ = _
    rw [e3]
    rfl
  refine tA.mk r sl e0 fun M1 vs en r1 x1 rvs => ?_
  obtain ⟨x1', q, rfl, h1, y1, q2, rfl, h2, h3⟩ := rvs
  rw [show q2 = [] from h3]
  exact ⟨x1', y1, rfl, f M1 _ en r1 x1 (((sl.mono x1).set h1 i).set h2 j)⟩
/-! ### o.f = e -/
theorem fput_rv {M : Ms} {f : Nat} {x : Ev.W} {v : V} (rx : RV c M x v) : ∀ {ids : List Nat} {vs : List Ev.W} {fs : List (Str × V)}, fs.map (·.1) = ids.map c.FN → RVs c M vs (fs.map (·.2)) →
    (Ev.fhas f ids = true → (putF (c.FN f) v fs).map (·.1) = ids.map c.FN ∧ RVs c M (Ev.fput f x ids vs) ((putF (c.FN f) v fs).map (·.2))) ∧
    (Ev.fhas f ids = false → (putF (c.FN f) v fs).map (·.1) = (Ev.snocN ids f).map c.FN ∧ RVs c M (Ev.app vs [x]) ((putF (c.FN f) v fs).map (·.2)))
  | [], vs, [], _, h2 => by
    refine ⟨(fun z => nomatch z), (fun _ => ⟨rfl, ?_⟩)⟩
    cases vs with
    | nil => exact ⟨v, [], rfl, rx, rfl⟩
    | cons _ _ => obtain ⟨_, _, e, _⟩ := h2; cases e
  | [], vs, _ :: _, h1, _ => by cases h1
  | _ :: _, vs, [], h1, _ => by cases h1
  | j :: ids, [], p :: fs, _, h2 => absurd (show (p :: fs).map (·.2) = [] from h2) (by simp)
  | j :: ids, w :: vs, p :: fs, h1, h2 => by
    obtain ⟨g, u⟩ := p
    injection h1 with h3 h4
    obtain ⟨y, q, e, h5, h6⟩ := h2
    injection e with e1 e2
    subst e1 e2
    have h3 : g = c.FN j := h3
    have ih := fput_rv (f := f) rx h4 h6
    have hp : putF (c.FN f) v ((g, u) :: fs) = if g = c.FN f then (g, v) :: fs else (g, u) :: putF (c.FN f) v fs := rfl
    have hh : Ev.fhas f (j :: ids) = Bool.rec (motive := fun _ => Bool) (Ev.fhas f ids) true (Nat.beq f j) := rfl
    have hf : Ev.fput f x (j :: ids) (w :: vs) = Bool.rec (motive := fun _ => List Ev.W) (w :: Ev.fput f x ids vs) (x :: vs) (Nat.beq f j) := rfl
    have hs : Ev.snocN (j :: ids) f = j :: Ev.snocN ids f := rfl
    have ha : Ev.app (w :: vs) [x] = w :: Ev.app vs [x] := rfl
    rw [hp, hh, hf, hs, ha]
    cases z : Nat.beq f j with
    | true =>
      rw [nbq.mp z] at *
      rw [if_pos h3]
      exact ⟨fun _ => ⟨by rw [List.map_cons, List.map_cons, h4, h3], v, _, rfl, rx, h6⟩, fun z => by cases z⟩
    | false =>
      have ne : ¬ g = c.FN f := fun q => by
        have := c.fj j f (h3.symm.trans q)
        rw [this, nbq.mpr rfl] at z
        cases z
      rw [if_neg ne]
      exact ⟨fun q => ⟨by rw [List.map_cons, List.map_cons, (ih.1 q).1, h3], _, _, rfl, h5, (ih.1 q).2⟩, fun q => ⟨by rw [List.map_cons, List.map_cons, (ih.2 q).1, h3], _, _, rfl, h5, (ih.2 q).2⟩⟩
theorem cs_attr {nf f : Nat} {fn : Str} {p1 : Pos} (hK : X.K = c.K) (T : ClsOk c nf) (hf : f < nf) (hn : c.FN f = fn) (ho : PE X o (tM c cl mo)) (ha : PE X a (tM c cl ma)) (hs : swapsWith a (some (.Attribute o fn p1)) pos.line X.env = pure false := by rfl) :
    PS X (.Assign [.Attribute o fn p1] a pos) (tS c cl (Ev.sAttr f mo ma)) := ps_imp (ps_fld ho ha hs) fun D σ H ⟨M, l, s, eH, r, sl, fin⟩ => by
  subst eH
  subst hn
  obtain ⟨x, n1, l1, e1, e2⟩ := Rs.bs_ne (Fin.ne fin)
  have f1 := fin
  change Fin c M D (Ev.Rs.bs _ _) at f1
  rw [e2] at f1
  obtain ⟨y, n2, l2, e3, e4⟩ := Rs.bs_ne (Fin.ne f1)
  rw [e4] at f1
  obtain ⟨i, rfl, e5⟩ := refK_ne (r := _) rfl (Fin.ne f1)
  rw [← e5] at f1
  obtain ⟨ob, h1, e6⟩ := hget_ne (r := _) rfl (Fin.ne f1)
  rw [← e6] at f1
  obtain ⟨k, ids, vs, rfl, e7⟩ := oIns_ne (r := _) rfl (Fin.ne f1)
  rw [← e7] at f1
  obtain ⟨hl, e8⟩ := ite_ne (r := _) rfl (Fin.ne f1)
  rw [← e8] at f1
  refine tM.mk r sl e1 fun M1 v en r1 x1 rx => tM.mk r1 (sl.mono x1) (by rw [en]; exact e3) fun M2 u en2 r2 x2 ru => ?_
  obtain ⟨hk, dx, fs, g1, g2, g3⟩ := r2.obj i _ h1
  have hlen : fs.length < 1000 := by
    have := Nat.le_of_ble_eq_true hl
    rw [lenG_eq, Nat.zero_add] at this
    have h5 := g3.length
    rw [List.length_map] at h5
    omega
  refine ⟨M2.ρ i, c.CA k, dx, fs, ru.2, g1, by rw [hK]; exact T.cls k hk, by rw [hK]; exact T.nat k f hk hf, hlen, ?_⟩
  have x3 := r2.wExt (u := .ins (c.CA k) dx (putF (c.FN f) v fs)) h1
  have q := fput_rv (f := f) (RV.mono (x2.trans x3) _ _ rx) g2 (RVs.mono x3 _ _ g3)
  have ro : RO c { M2 with H := upd M2.H (M2.ρ i) (.ins (c.CA k) dx (putF (c.FN f) v fs)) } (Bool.rec (motive := fun _ => Ev.O) (.ins k (Ev.snocN ids f) (Ev.app vs [x])) (.ins k ids (Ev.fput f x ids vs)) (Ev.fhas f ids)) (M2.ρ i) := by
    cases z : Ev.fhas f ids with
    | true => exact ⟨hk, dx, _, upd_same, (q.1 z).1, (q.1 z).2⟩
    | false => exact ⟨hk, dx, _, upd_same, (q.2 z).1, (q.2 z).2⟩
  obtain ⟨r3, _⟩ := r2.write h1 ro
  exact f1 { M2 with H := upd M2.H (M2.ρ i) (.ins (c.CA k) dx (putF (c.FN f) v fs)) } σ en2 r3 ((x1.trans x2).trans x3) (sl.mono ((x1.trans x2).trans x3))
end
end Sd
end

section
set_option Elab.async false
set_option linter.all false
set_option maxRecDepth 100000
/-! Sd11: o[k] = e, x op= e, xs[k] -= e, while. -/
namespace Sd
open PySem PySem.Spec PyProof.Rows L2
open Ev (Hl Rs Rb Ra So Sr CallT)
/-! ### tables by number -/
theorem tget_node (v : Ev.W) (a b : Ev.Tr) (f i : Nat) : Ev.tget (.node v a b) (f + 1) i = Bool.rec (motive := fun _ => Ev.W) (Bool.rec (motive := fun _ => Ev.W) (Ev.tget a f (Nat.shiftRight i 1)) (Ev.tget b f (Nat.shiftRight i 1)) (Nat.testBit i 0)) v (Nat.beq i 1) := rfl
theorem tput_nil (f i : Nat) (w : Ev.W) : Ev.tput .nil (f + 1) i w = Bool.rec (motive := fun _ => Ev.Tr) (Bool.rec (motive := fun _ => Ev.Tr) (.node .un (Ev.tput .nil f (Nat.shiftRight i 1) w) .nil) (.node .un .nil (Ev.tput .nil f (Nat.shiftRight i 1) w)) (Nat.testBit i 0)) (.node w .nil .nil) (Nat.beq i 1) := rfl
theorem tput_node (v : Ev.W) (a b : Ev.Tr) (f i : Nat) (w : Ev.W) : Ev.tput (.node v a b) (f + 1) i w = Bool.rec (motive := fun _ => Ev.Tr) (Bool.rec (motive := fun _ => Ev.Tr) (.node v (Ev.tput a f (Nat.shiftRight i 1) w) b) (.node v a (Ev.tput b f (Nat.shiftRight i 1) w)) (Nat.testBit i 0)) (.node w a b) (Nat.beq i 1) := rfl
theorem tput_nil_node (f i : Nat) (w : Ev.W) : Ev.tput .nil (f + 1) i w = Ev.tput (.node .un .nil .nil) (f + 1) i w := rfl
theorem tget_nil_node (f i : Nat) : Ev.tget .nil (f + 1) i = Ev.tget (.node .un .nil .nil) (f + 1) i := by
  rw [tget_node, tget_nil, tget_nil]
  cases Nat.beq i 1 <;> cases Nat.testBit i 0 <;> rfl
theorem bits_split {i j : Nat} (h : Nat.shiftRight i 1 = Nat.shiftRight j 1) (hb : Nat.testBit i 0 = Nat.testBit j 0) : i = j := by
  have e1 : Nat.shiftRight i 1 = i / 2 := Nat.shiftRight_eq_div_pow i 1
  have e2 : Nat.shiftRight j 1 = j / 2 := Nat.shiftRight_eq_div_pow j 1
  rw [Nat.testBit_zero, Nat.testBit_zero] at hb
  rw [e1, e2] at h
  have h1 := Nat.div_add_mod i 2
  have h2 := Nat.div_add_mod j 2
  have h3 : i % 2 < 2 := Nat.mod_lt _ (by decide)
  have h4 : j % 2 < 2 := Nat.mod_lt _ (by decide)
  have h5 : i % 2 = 1 ↔ j % 2 = 1 := decide_eq_decide.mp hb
  omega
theorem shr_lt {i f : Nat} (h : i < 2 ^ (f + 1)) : Nat.shiftRight i 1 < 2 ^ f := by
  have e1 : Nat.shiftRight i 1 = i / 2 := Nat.shiftRight_eq_div_pow i 1
  rw [e1, Nat.pow_succ] at *
  omega
theorem shr_pos {i : Nat} (h : 0 < i) (h1 : ¬ i = 1) : 0 < Nat.shiftRight i 1 := by
  have e1 : Nat.shiftRight i 1 = i / 2 := Nat.shiftRight_eq_div_pow i 1
  rw [e1]
  omega
theorem nbqf {i j : Nat} (h : ¬ i = j) : Nat.beq i j = false := by
  cases z : Nat.beq i j with
  | true => exact absurd (nbq.mp z) h
  | false => rfl
theorem tget_put (w : Ev.W) : ∀ (f : Nat) (t : Ev.Tr) (i j : Nat), 0 < i → i < 2 ^ f → 0 < j → j < 2 ^ f → Ev.tget (Ev.tput t f i w) f j = if i = j then w else Ev.tget t f j
  | 0, t, i, j, h1, h2, _, _ => by
    have : i < 1 := h2
    omega
  | f + 1, t, i, j, h1, h2, h3, h4 => by
    have main : ∀ v a b, Ev.tget (Ev.tput (.node v a b) (f + 1) i w) (f + 1) j = if i = j then w else Ev.tget (.node v a b) (f + 1) j := fun v a b => by
      rw [tput_node, tget_node]
      by_cases q1 : i = 1
      · rw [q1, show Nat.beq 1 1 = true from rfl]
        show Ev.tget (.node w a b) (f + 1) j = _
        rw [tget_node]
        by_cases q2 : j = 1
        · rw [if_pos q2.symm, q2]
          rfl
        · rw [if_neg (fun z => q2 z.symm), nbqf q2]
      · rw [nbqf q1]
        have ih := fun t => tget_put w f t (Nat.shiftRight i 1) (Nat.shiftRight j 1) (shr_pos h1 q1) (shr_lt h2)
        by_cases q2 : j = 1
        · rw [if_neg (fun z => q1 (z.trans q2)), q2, show Nat.beq 1 1 = true from rfl]
          cases Nat.testBit i 0 <;> rfl
        · have ih := fun t => ih t (shr_pos h3 q2) (shr_lt h4)
          rw [nbqf q2]
          cases b1 : Nat.testBit i 0 with
          | false =>
            show Ev.tget (.node v (Ev.tput a f (Nat.shiftRight i 1) w) b) (f + 1) j = _
            rw [tget_node, nbqf q2]
            cases b2 : Nat.testBit j 0 with
            | false =>
              show Ev.tget (Ev.tput a f (Nat.shiftRight i 1) w) f (Nat.shiftRight j 1) = if i = j then w else Ev.tget a f (Nat.shiftRight j 1)
              rw [ih a]
              by_cases q : i = j
              · rw [if_pos q, if_pos (by rw [q])]
              · rw [if_neg q, if_neg (fun z => q (bits_split z (by rw [b1, b2])))]
            | true =>
              show Ev.tget b f (Nat.shiftRight j 1) = if i = j then w else Ev.tget b f (Nat.shiftRight j 1)
              rw [if_neg (fun q => by rw [q, b2] at b1; cases b1)]
          | true =>
            show Ev.tget (.node v a (Ev.tput b f (Nat.shiftRight i 1) w)) (f + 1) j = _
            rw [tget_node, nbqf q2]
            cases b2 : Nat.testBit j 0 with
            | true =>
              show Ev.tget (Ev.tput b f (Nat.shiftRight i 1) w) f (Nat.shiftRight j 1) = if i = j then w else Ev.tget b f (Nat.shiftRight j 1)
              rw [ih b]
              by_cases q : i = j
              · rw [if_pos q, if_pos (by rw [q])]
              · rw [if_neg q, if_neg (fun z => q (bits_split z (by rw [b1, b2])))]
            | false =>
              show Ev.tget a f (Nat.shiftRight j 1) = if i = j then w else Ev.tget a f (Nat.shiftRight j 1)
              rw [if_neg (fun q => by rw [q, b2] at b1; cases b1)]
    cases t with
    | nil => rw [tput_nil_node, tget_nil_node]; exact main _ _ _
    | node v a b => exact main v a b
theorem pair_ix {i j k m : Nat} (hj : j < 64) (hm : m < 64) (h : 4096 + (64 * i + j) = 4096 + (64 * k + m)) : i = k ∧ j = m := by omega
theorem pair_lt {i j : Nat} (hi : i < 64) (hj : j < 64) : 0 < 4096 + (64 * i + j) ∧ 4096 + (64 * i + j) < 2 ^ 20 := by
  have : 64 * i ≤ 64 * 63 := Nat.mul_le_mul_left 64 (by omega)
  have h : (2 : Nat) ^ 20 = 1048576 := by decide
  omega
section
variable {X : Cx} {c : Cn} {cl : CallT} {σ : L2.St} {H : Hp} {tg a b d o : Expr} {ma mb md mo : Ev.D} {pos p pos2 : Pos} {D : Ends}
/-! ### d[k] = v -/
theorem app_map' {α : Type} (f : Ev.W → α) : ∀ a b : List Ev.W, (Ev.app a b).map f = a.map f ++ b.map f
  | [], b => rfl
  | x :: a, b => by
    show f x :: (Ev.app a b).map f = _
    rw [app_map' f a b]
    rfl
theorem valV_put {κ : Type} [DecidableEq κ] {kvs : List (κ × V)} {k k2 : κ} {v : V} : valV (putK kvs k v) k2 = if k = k2 then some v else valV kvs k2 := by
  unfold putK
  by_cases h : (kvs.any fun kv => decide (kv.1 = k)) = true
  · rw [if_pos h]
    induction kvs with
    | nil => simp at h
    | cons p r ih =>
      rw [List.map_cons]
      by_cases q : p.1 = k
      · rw [if_pos q]
        by_cases q2 : k = k2
        · rw [if_pos q2, valV_pos (show (p.1, v).1 = k2 from q.trans q2)]
        · rw [if_neg q2, valV_neg (show ¬ (p.1, v).1 = k2 from fun z => q2 (q.symm.trans z)), valV_neg (fun z => q2 (q.symm.trans z))]
          by_cases h3 : (r.any fun kv => decide (kv.1 = k)) = true
          · rw [ih h3, if_neg q2]
          · have : (r.map fun kv => if kv.1 = k then (kv.1, v) else kv) = r := by
              rw [List.map_congr_left (g := id) (fun x hx => ?_)]
              · simp
              · rw [if_neg (fun z => h3 (List.any_eq_true.mpr ⟨x, hx, decide_eq_true z⟩))]
                rfl
            rw [this]
      · rw [if_neg q]
        have h3 : (r.any fun kv => decide (kv.1 = k)) = true := by
          rw [List.any_cons, decide_eq_false q, Bool.false_or] at h
          exact h
        by_cases q3 : p.1 = k2
        · rw [valV_pos q3, valV_pos q3, if_neg (fun z => q (q3.trans z.symm))]
        · rw [valV_neg q3, valV_neg q3, ih h3]
  · rw [if_neg h]
    induction kvs with
    | nil =>
      by_cases q : k = k2
      · rw [if_pos q]
        exact valV_pos q
      · rw [if_neg q]
        exact valV_neg q
    | cons p r ih =>
      rw [List.any_cons, Bool.or_eq_true, not_or] at h
      have q : ¬ p.1 = k := fun z => h.1 (decide_eq_true z)
      rw [List.cons_append]
      by_cases q3 : p.1 = k2
      · rw [valV_pos q3, valV_pos q3, if_neg (fun z => q (q3.trans z.symm))]
      · rw [valV_neg q3, valV_neg q3, ih h.2]
theorem rvs_set {M : Ms} {w : Ev.W} {v : V} : ∀ {ws : List Ev.W} {xs : List V}, RVs c M ws xs → RV c M w v → ∀ j, RVs c M (ws.set j w) (xs.set j v)
  | [], xs, h, _, j => by rw [show xs = [] from h]; rfl
  | u :: ws, _, ⟨x, r, rfl, h1, h2⟩, hw, 0 => ⟨v, r, rfl, hw, h2⟩
  | u :: ws, _, ⟨x, r, rfl, h1, h2⟩, hw, j + 1 => ⟨x, r.set j v, rfl, h1, rvs_set h2 hw j⟩
theorem put_rv {κ : Type} [DecidableEq κ] {ko : Ev.W → Option κ} (kr : KeyR κ ko) {M : Ms} {x : Ev.W} {k : κ} {w : Ev.W} {v : V} (hx : ko x = some k) (rw' : RV c M w v) : ∀ {ks vs : List Ev.W} {kvs : List (κ × V)}, ks.map ko = kvs.map (fun p => some p.1) → RVs c M vs (kvs.map (·.2)) →
    (Ev.mem x ks = true → ks.map ko = (putK kvs k v).map (fun p => some p.1) ∧ RVs c M (Ev.vput x w ks vs) ((putK kvs k v).map (·.2))) ∧
    (Ev.mem x ks = false → (Ev.app ks [x]).map ko = (putK kvs k v).map (fun p => some p.1) ∧ RVs c M (Ev.app vs [w]) ((putK kvs k v).map (·.2))) := by
  intro ks vs kvs h1 h2
  have hm := mem_ok kr hx h1
  constructor
  · intro hmem
    have hany : (kvs.any fun kv => decide (kv.1 = k)) = true := by
      rw [valV_any]
      rw [← hm]
      exact hmem
    unfold putK
    rw [if_pos hany]
    clear hany hm hmem
    constructor
    · rw [h1, List.map_map]
      refine List.map_congr_left fun p hp => ?_
      show some p.1 = some (if p.1 = k then (p.1, v) else p).1
      by_cases q : p.1 = k
      · rw [if_pos q]
      · rw [if_neg q]
    · induction ks generalizing vs kvs with
      | nil =>
        cases kvs with
        | nil =>
          show RVs c M vs []
          exact h2
        | cons _ _ => cases h1
      | cons y ks ih =>
        cases kvs with
        | nil => cases h1
        | cons p r =>
          injection h1 with h3 h4
          cases vs with
          | nil => exact absurd (show (p :: r).map (·.2) = [] from h2) (by simp)
          | cons u us =>
            obtain ⟨z, zs, e, h5, h6⟩ := h2
            injection e with e1 e2
            subst e1 e2
            have ih' := ih h4 h6
            have hv : Ev.vput x w (y :: ks) (u :: us) = Bool.rec (motive := fun _ => List Ev.W) (u :: Ev.vput x w ks us) (w :: Ev.vput x w ks us) (Ev.keq x y) := rfl
            rw [hv, List.map_cons, List.map_cons]
            cases q : Ev.keq x y with
            | true =>
              have hk : p.1 = k := by
                rw [keq_eq x y q] at hx
                exact Option.some.inj ((show ko y = some p.1 from h3).symm.trans hx)
              rw [if_pos hk]
              exact ⟨v, _, rfl, rw', ih'⟩
            | false =>
              have hk : ¬ p.1 = k := fun z => by
                have h6 := kr.inj hx (by rw [show ko y = some p.1 from h3, z])
                rw [h6, kr.refl (show ko y = some p.1 from h3)] at q
                cases q
              rw [if_neg hk]
              exact ⟨p.2, _, rfl, h5, ih'⟩
  · intro hmem
    have hn : valV kvs k = none := by
      rw [hm] at hmem
      cases q : valV kvs k with
      | none => rfl
      | some _ => rw [q] at hmem; cases hmem
    rw [putK_new v hn]
    exact ⟨by rw [app_map', h1, List.map_append]; show _ ++ [ko x] = _; rw [hx]; rfl, by rw [List.map_append]; exact h2.app ⟨v, [], rfl, rw', rfl⟩⟩

/-- the machine's store, as the hand layer's: of a list, of a dict -/
theorem putW_ok {l : Hl} {o k v : Ev.W} {dn : Hl → So} {r : So} (h : Ev.putW l o k v dn = r) (ne : So.err ≠ r) : ∃ l', dn l' = r ∧
    ((∀ (M : Ms) (vo vk vv : V), Rep c M l → RV c M o vo → RV c M k vk → RV c M v vv → ∀ Q : Hp → Prop, (∀ M', M'.n = M.n → Rep c M' l' → Ext M M' → Q M'.H) → rSetL vo vk vv M.H Q) ∨
     (∀ (M : Ms) (vo vk vv : V), Rep c M l → RV c M o vo → RV c M k vk → RV c M v vv → ∃ a M', vo = .ref a ∧ DPut M.H a vk vv M'.H ∧ M'.n = M.n ∧ Rep c M' l' ∧ Ext M M')) := by
  obtain ⟨i, rfl, e1⟩ := refK_ne (show Ev.refK So.err _ o = r from h) ne
  obtain ⟨ob, h1, e2⟩ := hget_ne e1 ne
  cases ob with
  | lst ws =>
    obtain ⟨j, rfl, e3⟩ := natK_ne (show Ev.natK So.err _ k = r from e2) ne
    obtain ⟨hlt, e4⟩ := ite_ne e3 ne
    refine ⟨_, e4, .inl fun M vo vk vv rp ro rk rv Q q => ?_⟩
    obtain ⟨xs, h2, h3⟩ := rp.obj i _ h1
    have hj : j < xs.length := by
      have := Nat.le_of_ble_eq_true hlt
      rw [lenG_eq, Nat.zero_add] at this
      rw [← h3.length]
      exact this
    refine ⟨M.ρ i, xs, j, j, ro.2, rk, h2, ?_, ?_⟩
    · unfold ixN
      rw [if_pos (by omega), if_pos (by omega)]
      simp
    · have x1 := rp.wExt (u := .lst (xs.set j vv)) h1
      obtain ⟨r2, _⟩ := rp.write (u := .lst (xs.set j vv)) (o' := .lst (Ev.sset j v ws)) h1 ⟨_, upd_same, by
        rw [sset_eq]
        exact rvs_set (RVs.mono x1 _ _ h3) (RV.mono x1 _ _ rv) j⟩
      exact q { M with H := upd M.H (M.ρ i) (.lst (xs.set j vv)) } rfl r2 x1
  | dct t ks vs =>
    obtain ⟨hk, e3⟩ := ite_ne (show Bool.rec (motive := fun _ => So) .err _ (Ev.isKey t k) = r from e2) ne
    obtain ⟨hl, e4⟩ := few_ne e3 ne
    refine ⟨_, e4, .inr fun M vo vk vv rp ro rk rv => ?_⟩
    have hob := rp.obj i _ h1
    cases t with
    | false =>
      obtain ⟨kvs, h2, h3, h4⟩ := hob
      obtain ⟨kx, g1, g2⟩ := isKey_F hk rk
      have x1 := rp.wExt (u := .dK (putK kvs kx vv)) h1
      have pr := put_rv keyR g1 (RV.mono x1 _ _ rv) h3 (RVs.mono x1 _ _ h4)
      have hz : kvs.length < sizeLine := by rw [← map_len h3]; exact line_of hl
      refine ⟨M.ρ i, { M with H := upd M.H (M.ρ i) (.dK (putK kvs kx vv)) }, ro.2, .inl ⟨kvs, kx, h2, g2, hz, rfl⟩, rfl, ?_, x1⟩
      refine (rp.write h1 ?_).1
      cases q : Ev.mem k ks with
      | true => exact ⟨_, upd_same, (pr.1 q).1, (pr.1 q).2⟩
      | false => exact ⟨_, upd_same, (pr.2 q).1, (pr.2 q).2⟩
    | true =>
      obtain ⟨kvs, h2, h3, h4⟩ := hob
      obtain ⟨kx, b, g1, g2, g3⟩ := isKey_T hk rk
      have x1 := rp.wExt (u := .dT (putK kvs kx vv)) h1
      have pr := put_rv tkeyR g1 (RV.mono x1 _ _ rv) h3 (RVs.mono x1 _ _ h4)
      have hz : kvs.length < sizeLine := by rw [← map_len h3]; exact line_of hl
      refine ⟨M.ρ i, { M with H := upd M.H (M.ρ i) (.dT (putK kvs kx vv)) }, ro.2, .inr ⟨kvs, kx, b, h2, g2, g3, hz, rfl⟩, rfl, ?_, x1⟩
      refine (rp.write h1 ?_).1
      cases q : Ev.mem k ks with
      | true => exact ⟨_, upd_same, (pr.1 q).1, (pr.1 q).2⟩
      | false => exact ⟨_, upd_same, (pr.2 q).1, (pr.2 q).2⟩
  | map hh m =>
    obtain ⟨p, q, hp, hq, rfl, e3⟩ := pairK_ok (show Ev.pairK So.err _ k = r from e2) ne
    obtain ⟨hv, e4⟩ := defK_ne e3 ne
    obtain ⟨hb, e5⟩ := ite_ne e4 ne
    refine ⟨_, e5, .inr fun M vo vk vv rp ro rk rv => ?_⟩
    obtain ⟨kvs, h2, h3, h4⟩ := rp.obj i _ h1
    obtain ⟨b, g1, g2⟩ := pair_ref rk
    have x1 := rp.wExt (u := .dT (putK kvs [.inl (p : Int), .inl (q : Int)] vv)) h1
    have hz : kvs.length < sizeLine := by
      have := Nat.le_of_ble_eq_true hb
      rw [sizeLine_eq]
      omega
    refine ⟨M.ρ i, { M with H := upd M.H (M.ρ i) (.dT (putK kvs [.inl (p : Int), .inl (q : Int)] vv)) }, ro.2, .inr ⟨kvs, _, b, h2, g1, g2, hz, rfl⟩, rfl, ?_, x1⟩
    refine (rp.write (u := .dT (putK kvs [.inl (p : Int), .inl (q : Int)] vv)) (o' := .map (Nat.add hh 1) (Ev.tput m 20 (4096 + (64 * p + q)) v)) h1 ⟨_, upd_same, ?_, fun i2 j2 hi2 hj2 => ?_⟩).1
    · have := length_putK kvs [.inl (p : Int), .inl (q : Int)] vv
      show _ ≤ hh + 1
      omega
    · rw [tget_put v 20 m _ _ (pair_lt hp hq).1 (pair_lt hp hq).2 (pair_lt hi2 hj2).1 (pair_lt hi2 hj2).2, valV_put]
      by_cases z : p = i2 ∧ q = j2
      · obtain ⟨rfl, rfl⟩ := z
        rw [if_pos rfl, if_pos rfl]
        exact .inr ⟨vv, rfl, RV.mono x1 _ _ rv⟩
      · rw [if_neg (fun e => z (pair_ix hq hj2 e)), if_neg (fun e => z ?_)]
        · exact (h4 i2 j2 hi2 hj2).imp id fun ⟨u, g3, g4⟩ => ⟨u, g3, RV.mono x1 _ _ g4⟩
        · injection e with e6 e7
          injection e7 with e8 _
          injection e6 with e6
          injection e8 with e8
          exact ⟨Int.ofNat.inj e6, Int.ofNat.inj e8⟩
  | told hh m => exact absurd e2 ne
  | ins _ _ _ => exact absurd e2 ne
theorem cs_sub {p1 : Pos} (hu : X.A.units + 1 < cLine) (ho : PE X o (tM c cl mo)) (hb : PE X b (tM c cl mb)) (ha : PE X a (tM c cl ma)) (hs : swapsWith a (some (.Subscript o b p1)) pos.line X.env = pure false := by rfl)
    (hs1 : swapsWithSole [.Subscript o b p1] a pos.line X.env = pure false := by rfl) (hw : swappedStores [.Subscript o b p1] a X.env = pure none := by rfl) (h1 : (assignEach [.Subscript o b p1] X.env).map (·.2) = [assign (.Subscript o b p1) X.env] := by rfl)
    (hpg : ∀ v, assign (.Subscript o b p1) X.env v = (do
      let ov ← holding [v] (eval o X.env)
      let iv ← holding [v, ov] (eval b X.env)
      standAt p1
      holding [v, ov, iv] (setItem ov iv v)
      release [v, ov, iv] []) := by intro _; rfl) : PS X (.Assign [.Subscript o b p1] a pos) (tS c cl (Ev.sSub mo mb ma)) := by
  refine ps_imp (ps_two (ps_asg ha (pg_sub ho hb set_list hpg) hs1 hw h1) (ps_dput hu ho hb ha hs)) fun D σ H ⟨M, l, s, eH, r, sl, fin⟩ => ?_
  subst eH
  obtain ⟨v, n1, l1, e1, e2⟩ := Rs.bs_ne (Fin.ne fin)
  have f1 := fin
  change Fin c M D (Ev.Rs.bs _ _) at f1
  rw [e2] at f1
  obtain ⟨x, n2, l2, e3, e4⟩ := Rs.bs_ne (Fin.ne f1)
  rw [e4] at f1
  obtain ⟨y, n3, l3, e5, e6⟩ := Rs.bs_ne (Fin.ne f1)
  rw [e6] at f1
  obtain ⟨l4, e7, z⟩ := putW_ok (c := c) rfl (Fin.ne f1)
  rw [← e7] at f1
  rcases z with z | z
  · refine .inl (tM.mk r sl e1 fun M1 vv en r1 x1 rv => tM.mk r1 (sl.mono x1) (by rw [en]; exact e3) fun M2 vo en2 r2 x2 ro => tM.mk r2 (sl.mono (x1.trans x2)) (by rw [en2]; exact e5) fun M3 vk en3 r3 x3 rk => ?_)
    exact z M3 vo vk vv r3 (RV.mono x3 _ _ ro) rk (RV.mono (x2.trans x3) _ _ rv) _ fun M4 h1 h2 h3 => f1 M4 σ (h1.trans en3) h2 (((x1.trans x2).trans x3).trans h3) (sl.mono (((x1.trans x2).trans x3).trans h3))
  · refine .inr (tM.mk r sl e1 fun M1 vv en r1 x1 rv => tM.mk r1 (sl.mono x1) (by rw [en]; exact e3) fun M2 vo en2 r2 x2 ro => tM.mk r2 (sl.mono (x1.trans x2)) (by rw [en2]; exact e5) fun M3 vk en3 r3 x3 rk => ?_)
    obtain ⟨a4, M4, h0, h4, h1, h2, h3⟩ := z M3 vo vk vv r3 (RV.mono x3 _ _ ro) rk (RV.mono (x2.trans x3) _ _ rv)
    exact ⟨a4, M4.H, h0, h4, f1 M4 σ (h1.trans en3) h2 (((x1.trans x2).trans x3).trans h3) (sl.mono (((x1.trans x2).trans x3).trans h3))⟩

/-! ### x op= e -/
theorem var_ok {M : Ms} {s : List Ev.W} {l : Hl} {w : Ev.W} {n n1 : Nat} {l1 : Hl} {i : Nat} (e : Ev.eVar i cl s n l = .ok w n1 l1) (sl : Sl c M s σ) : n1 = n ∧ l1 = l ∧ ∃ v, σ[i]? = some (some v) ∧ RV c M w v := by
  have e0 : Ev.defK Rs.err (Rs.ok (Ev.sget i s) n l) (Ev.sget i s) = Rs.ok w n1 l1 := e
  obtain ⟨ne, e1⟩ := defK_ne e0 Rs.ne
  cases e1
  refine ⟨rfl, rfl, ?_⟩
  rw [sget_eq] at ne ⊢
  cases q : s[i]? with
  | none => rw [q] at ne; exact absurd rfl ne
  | some u =>
    rw [q] at ne
    rcases sl.at_ i u q with z | z
    · exact absurd z ne
    · exact z
theorem aug_bs {i : Nat} {f : Ev.D → Ev.D → Ev.D} {M : Ms} {s : List Ev.W} {l : Hl} (fin : Fin c M D (Ev.sAug i f ma cl s M.n l)) : ∃ w n1 l1, f (Ev.eVar i) ma cl s M.n l = .ok w n1 l1 ∧ Fin c M D (.nx (Ev.sset i w s) n1 l1) := by
  obtain ⟨x, n1, l1, e1, e2⟩ := Rs.bs_ne (Fin.ne fin)
  refine ⟨x, n1, l1, e1, ?_⟩
  have f := fin
  change Fin c M D (Ev.Rs.bs _ _) at f
  rw [e2] at f
  exact f
theorem cs_augAdd {i : Nat} {x : Str} {p1 : Pos} (hN : X.N.Nodup) (hi : X.N[i]? = some x) (hx : Loc X.env.scope x) (ha : PE X a (tM c cl ma)) (hf : X.fn x = true ∨ X.env.scope.names.lookup x = some .local := by first | exact .inl rfl | exact .inr rfl | assumption) :
    PS X (.AugAssign (.Name x p1) .Add a pos) (tS c cl (Ev.sAug i Ev.eAdd ma)) := ps_imp (ps_aug hN hi hx ha ip_add hf) fun D σ H ⟨M, l, s, eH, r, sl, fin⟩ => by
  subst eH
  obtain ⟨w, n1, l1, e1, f⟩ := aug_bs fin
  obtain ⟨j, k, n2, l2, e2, e3, rfl⟩ := nat2_ok e1
  obtain ⟨rfl, rfl, v, h1, h2⟩ := var_ok (c := c) e2 sl
  refine ⟨v, h1, tM.mk r sl e3 fun M1 u en r1 x1 ru => ⟨j, k, h2, ru, ?_⟩⟩
  exact f M1 _ en r1 x1 ((sl.mono x1).set (w := .nat (j + k)) (show V.int ((j : Int) + (k : Int)) = V.int ((j + k : Nat) : Int) from congrArg V.int (Int.natCast_add j k).symm) i)
theorem cs_augSub {i : Nat} {x : Str} {p1 : Pos} (hN : X.N.Nodup) (hi : X.N[i]? = some x) (hx : Loc X.env.scope x) (ha : PE X a (tM c cl ma)) (hf : X.fn x = true ∨ X.env.scope.names.lookup x = some .local := by first | exact .inl rfl | exact .inr rfl | assumption) :
    PS X (.AugAssign (.Name x p1) .Sub a pos) (tS c cl (Ev.sAug i Ev.eSub ma)) := ps_imp (ps_aug hN hi hx ha ip_sub hf) fun D σ H ⟨M, l, s, eH, r, sl, fin⟩ => by
  subst eH
  obtain ⟨w, n1, l1, e1, f⟩ := aug_bs fin
  obtain ⟨x0, n2, l2, e2, e3⟩ := Rs.b_ok e1
  obtain ⟨y0, n3, l3, e4, e5⟩ := Rs.b_ok e3
  obtain ⟨j, rfl, e6⟩ := natK_ne e5 Rs.ne
  obtain ⟨k, rfl, e7⟩ := natK_ne e6 Rs.ne
  obtain ⟨hl, e8⟩ := ite_ne e7 Rs.ne
  cases e8
  obtain ⟨rfl, rfl, v, h1, h2⟩ := var_ok (c := c) e2 sl
  refine ⟨v, h1, tM.mk r sl e4 fun M1 u en r1 x1 ru => ⟨j, k, h2, ru, ?_⟩⟩
  exact f M1 _ en r1 x1 ((sl.mono x1).set (w := .nat (j - k)) (show V.int ((j : Int) - (k : Int)) = V.int ((j - k : Nat) : Int) from congrArg V.int (Int.ofNat_sub (Nat.le_of_ble_eq_true hl)).symm) i)
/-! ### xs[k] -= e -/
def rGetL : V → V → Hp → VK → Prop := fun o i H Q => ∃ p xs, ∃ j : Nat, ∃ v, o = .ref p ∧ i = .int j ∧ H p = some (.lst xs) ∧ xs[j]? = some v ∧ Q v H
theorem get_list : PGet X rGetL := by
  intro pins s σ H o i ov iv Q I ro ri h
  obtain ⟨p, xs, j, v, rfl, rfl, hp, hj, q⟩ := h
  cases ro
  obtain ⟨t, rfl⟩ := ri
  obtain ⟨its, n, r, ho, hz⟩ := I.lst hp
  obtain ⟨u, hu, ru⟩ := r.get hj
  have hlt : j < xs.length := (List.getElem?_eq_some_iff.mp hj).1
  have hn : sizeLine = 16777216 := sizeLine_eq
  exact wpAny_getItem_list (x := u) (PySem.IsL.isList ho) (by omega) (by omega) (by simpa using hu) ⟨v, H, I, ru, q⟩
theorem cs_augL {p1 : Pos} (ho : PE X o (tM c cl mo)) (hb : PE X b (tM c cl mb)) (ha : PE X a (tM c cl ma))
    (hA : ∀ ov iv new, augStore b ov iv new = (do holding [new, ov, iv] (setItem ov iv new); release [new, ov, iv] []; pure .next) := by intros; rfl) : PS X (.AugAssign (.Subscript o b p1) .Sub a pos) (tS c cl (Ev.sAugL mo mb ma)) := by
  refine ps_imp (ps_augS ho hb get_list ha ip_sub set_list hA) fun D σ H ⟨M, l, s, eH, r, sl, fin⟩ => ?_
  subst eH
  obtain ⟨x, n1, l1, e1, e2⟩ := Rs.bs_ne (Fin.ne fin)
  have f1 := fin
  change Fin c M D (Ev.Rs.bs _ _) at f1
  rw [e2] at f1
  obtain ⟨y, n2, l2, e3, e4⟩ := Rs.bs_ne (Fin.ne f1)
  rw [e4] at f1
  obtain ⟨i, rfl, e5⟩ := refK_ne (r := _) rfl (Fin.ne f1)
  rw [← e5] at f1
  obtain ⟨ob, h1, e6⟩ := hget_ne (r := _) rfl (Fin.ne f1)
  rw [← e6] at f1
  obtain ⟨ws, rfl, e7⟩ := oLst_ne (r := _) rfl (Fin.ne f1)
  rw [← e7] at f1
  obtain ⟨j, rfl, e8⟩ := natK_ne (r := _) rfl (Fin.ne f1)
  rw [← e8] at f1
  obtain ⟨u, hu, e9⟩ := sget_get (r := _) rfl (Fin.ne f1)
  rw [← e9] at f1
  obtain ⟨z, n3, l3, e10, e11⟩ := Rs.bs_ne (Fin.ne f1)
  rw [e11] at f1
  obtain ⟨p, rfl, e12⟩ := natK_ne (r := _) (w := u) rfl (Fin.ne f1)
  rw [← e12] at f1
  obtain ⟨q, rfl, e13⟩ := natK_ne (r := _) (w := z) rfl (Fin.ne f1)
  rw [← e13] at f1
  obtain ⟨hle, e14⟩ := ite_ne (r := _) rfl (Fin.ne f1)
  rw [← e14] at f1
  obtain ⟨o3, h3, e15⟩ := hget_ne (r := _) rfl (Fin.ne f1)
  rw [← e15] at f1
  obtain ⟨w2, rfl, e16⟩ := oLst_ne (r := _) rfl (Fin.ne f1)
  rw [← e16] at f1
  obtain ⟨hlt, e17⟩ := ite_ne (r := Ev.lset So.err (fun r => .nx s n3 (Ev.hset l3 i (.lst r))) j (.nat (Nat.sub p q)) w2) rfl (Fin.ne f1)
  rw [← e17] at f1
  refine tM.mk r sl e1 fun M1 vo en r1 x1 ro => tM.mk r1 (sl.mono x1) (by rw [en]; exact e3) fun M2 vk en2 r2 x2 rk => ?_
  obtain ⟨xs, hH, hx⟩ := r2.obj i _ h1
  obtain ⟨v, g1, g2⟩ := hx.get hu
  refine ⟨M2.ρ i, xs, j, v, (RV.mono x2 _ _ ro).2, rk, hH, g1, tM.mk (w := .nat q) r2 (sl.mono (x1.trans x2)) (by rw [en2]; exact e10) fun M3 vz en3 r3 x3 rz => ⟨p, q, g2, rz, ?_⟩⟩
  have x123 := (x1.trans x2).trans x3
  obtain ⟨ys, hH3, hy⟩ := r3.obj i _ h3
  have hj : j < ys.length := by
    have := Nat.le_of_ble_eq_true hlt
    rw [lenG_eq, Nat.zero_add] at this
    rw [← hy.length]
    exact this
  refine ⟨M3.ρ i, ys, j, j, (RV.mono (x2.trans x3) _ _ ro).2, rk, hH3, ?_, ?_⟩
  · unfold ixN
    rw [if_pos (by omega), if_pos (by omega)]
    simp
  · have x4 := r3.wExt (u := .lst (ys.set j (.int ((p : Int) - (q : Int))))) h3
    obtain ⟨r4, _⟩ := r3.write (u := .lst (ys.set j (.int ((p : Int) - (q : Int))))) (o' := .lst (Ev.sset j (.nat (Nat.sub p q)) w2)) h3 ⟨_, upd_same, by
      rw [sset_eq]
      exact rvs_set (w := .nat (p - q)) (v := .int ((p : Int) - (q : Int))) (RVs.mono x4 _ _ hy) (show V.int ((p : Int) - (q : Int)) = V.int ((p - q : Nat) : Int) from congrArg V.int (Int.ofNat_sub (Nat.le_of_ble_eq_true hle)).symm) j⟩
    exact f1 { M3 with H := upd M3.H (M3.ρ i) (.lst (ys.set j (.int ((p : Int) - (q : Int))))) } σ en3 r4 (x123.trans x4) (sl.mono (x123.trans x4))
/-! ### while -/
theorem cs_while {t : Expr} {mt : Ev.T} {body : List Stmt} {mb : Ev.S} (hp : PassesOwn (model X.prog X.w) X.A X.env X.xe) (ht : PT X t (tT c cl mt)) (hb : PSs X body (tS c cl mb)) : PS X (.While t body [] pos) (tS c cl (Ev.sWhile mt mb)) := by
  refine ps_imp (ps_while hp ht hb) fun D σ H ⟨M, l, s, eH, r, sl, fin⟩ => ?_
  subst eH
  let F : Nat → List Ev.W → Nat → Hl → So := fun f => Nat.rec (motive := fun _ => List Ev.W → Nat → Hl → So) (fun _ _ _ => .err)
    (fun _ ih s n l => (mt cl s n l).bs fun d n1 l1 => Bool.rec (motive := fun _ => So) (.nx s n1 l1) (So.rec (motive := fun _ => So) .err (fun s2 n2 l2 => ih s2 n2 l2) .rt .nx (fun s2 n2 l2 => ih s2 n2 l2) (mb cl s n1 l1)) d) f
  refine ⟨fun m σ' H' => ∃ (M' : Ms) (l' : Hl) (s' : List Ev.W), M'.H = H' ∧ Rep c M' l' ∧ Sl c M' s' σ' ∧ Ext M M' ∧ Fin c M' D (F m s' M'.n l'), ⟨4096, M, l, s, rfl, r, sl, Ext.refl M, fin⟩, ?_⟩
  rintro m σ' H' ⟨M2, l2, s2, rfl, r2, sl2, x2, f2⟩
  cases m with
  | zero => exact absurd rfl (Fin.ne (r := .err) f2)
  | succ m =>
    have f3 : Fin c M2 D ((mt cl s2 M2.n l2).bs fun d n1 l1 => Bool.rec (motive := fun _ => So) (.nx s2 n1 l1) (So.rec (motive := fun _ => So) .err (fun s2 n2 l2 => F m s2 n2 l2) .rt .nx (fun s2 n2 l2 => F m s2 n2 l2) (mb cl s2 n1 l1)) d) := f2
    obtain ⟨d, n3, l3, e1, e2⟩ := Rb.bs_ne (Fin.ne f3)
    rw [e2] at f3
    refine tT.mk r2 sl2 e1 fun M3 en r3 x3 => ?_
    subst en
    cases d with
    | false =>
      rw [if_neg Bool.false_ne_true]
      exact f3 M3 σ' rfl r3 x3 (sl2.mono x3)
    | true =>
      rw [if_pos rfl]
      refine ⟨fun σ' H' => ∃ (M' : Ms) (l' : Hl) (s' : List Ev.W), M'.H = H' ∧ Rep c M' l' ∧ Sl c M' s' σ' ∧ Ext M M' ∧ Fin c M' D (F m s' M'.n l'), fun σ4 H4 z => ⟨m, Nat.lt_succ_self _, z⟩, ?_⟩
      exact loop_body (fun M' l' s' σ7 rr ss xx ff => ⟨M', l', s', rfl, rr, ss, (x2.trans x3).trans xx, ff⟩) r3 (sl2.mono x3) (Fin.mono x3 f3)
end
end Sd
end

section
set_option Elab.async false
set_option linter.all false
set_option maxRecDepth 100000
/-! Sd12: list comprehensions. -/
namespace Sd
open PySem PySem.Spec PyProof.Rows L2
open Ev (Hl Rs Rb Ra So Sr CallT)
theorem wipe_get (σ : L2.St) (i : Nat) : ∀ vs : List Nat, (wipe σ vs)[i]? = if i ∈ vs then σ[i]?.map (fun _ => none) else σ[i]?
  | [] => by simp [wipe]
  | v :: vs => by
    show ((wipe σ vs).set v none)[i]? = _
    rw [List.getElem?_set, wipe_length]
    by_cases q : v = i
    · subst q
      rw [if_pos rfl, if_pos List.mem_cons_self]
      by_cases h : v < σ.length
      · rw [if_pos h, List.getElem?_eq_getElem h]
        rfl
      · rw [if_neg h, List.getElem?_eq_none (by omega)]
        rfl
    · rw [if_neg q, wipe_get σ i vs]
      by_cases h : i ∈ vs
      · rw [if_pos h, if_pos (List.mem_cons_of_mem _ h)]
      · rw [if_neg h, if_neg (fun z => (List.mem_cons.mp z).elim (fun z => q z.symm) h)]
theorem wipe_wipe (σ : L2.St) (vs : List Nat) : wipe (wipe σ vs) vs = wipe σ vs := by
  apply List.ext_getElem?
  intro i
  rw [wipe_get, wipe_get]
  by_cases h : i ∈ vs
  · rw [if_pos h, if_pos h]
    cases σ[i]? <;> rfl
  · rw [if_neg h, if_neg h]
section
variable {X : Cx} {c : Cn} {cl : CallT} {σ : L2.St} {H : Hp} {tg a b d o : Expr} {ma mb md mo : Ev.D} {pos p pos2 : Pos} {M M1 : Ms} {l l1 : Hl} {D : Addr}
/-- a thing begun -/
def Ms.make (M : Ms) (D : Addr) (u : HO) : Ms := { M with H := upd M.H D u, P := fun a => M.P a ∨ a = D, E := fun a => M.E a ∨ a = D }
theorem Rep.make (r : Rep c M l) {u : HO} (hD : M.H D = none) (hu : ∀ xs, u ≠ .tup xs) : Rep c (M.make D u) l ∧ Ext M (M.make D u) := by
  have np := r.notNew hD
  have ext : Ext M (M.make D u) := .of (Nat.le_refl _) (fun _ _ => rfl) (fun a o e n => ⟨by
    show upd M.H D u a = some o
    rw [upd_ne (ne_of_none e hD)]
    exact e, fun z => z.elim n (ne_of_none e hD)⟩) fun a e => ⟨.inl e, r.eKeep hD a e⟩
  refine ⟨⟨r.dsc, fun i o e => (r.obj i o e).mono ext ?_, r.inj, fun a => ⟨fun z => ?_, fun z => ?_⟩, fun a e => ?_⟩, ext⟩
  · show upd M.H D u (M.ρ i) = M.H (M.ρ i)
    exact upd_ne fun z => np (z ▸ r.live e)
  · rcases z with z | z
    · exact ((r.P a).mp z).imp id .inl
    · exact .inr (.inr z)
  · rcases z with z | z | z
    · exact .inl ((r.P a).mpr (.inl z))
    · exact .inl ((r.P a).mpr (.inr z))
    · exact .inr z
  · rcases e with e | e
    · obtain ⟨⟨x, e3, e4⟩, e5⟩ := r.E a e
      exact ⟨⟨x, (r.eKeep hD a e).trans e3, e4⟩, e5⟩
    · subst e
      exact ⟨⟨u, upd_same, hu⟩, fun i o e z => np (z ▸ r.live e)⟩
/-- a thing begun goes on -/
theorem Rep.eWrite (r : Rep c M l) {u : HO} (e : M.E D) (hu : ∀ xs, u ≠ .tup xs) : Rep c { M with H := upd M.H D u } l ∧ Ext0 M { M with H := upd M.H D u } := by
  have pD : M.P D := (r.P D).mpr (.inr e)
  have ext : Ext0 M { M with H := upd M.H D u } := ⟨Nat.le_refl _, fun _ _ => rfl, fun a o e n => ⟨.inl (by
    show upd M.H D u a = some o
    rw [upd_ne (fun z => n (by rw [z]; exact pD))]
    exact e), n⟩⟩
  refine ⟨⟨r.dsc, fun i o h => (r.obj i o h).mono0 ext ?_, r.inj, r.P, fun a h => ?_⟩, ext⟩
  · show upd M.H D u (M.ρ i) = M.H (M.ρ i)
    exact upd_ne fun z => (r.E D e).2 i o h z
  · by_cases z : a = D
    · subst z
      exact ⟨⟨u, upd_same, hu⟩, (r.E a e).2⟩
    · obtain ⟨⟨x, e3, e4⟩, e5⟩ := r.E a h
      exact ⟨⟨x, by show upd M.H D u a = some x; rw [upd_ne z]; exact e3, e4⟩, e5⟩
theorem ext_eWrite {u : HO} (r1 : Rep c M1 l1) (hD : M1.H D = none) (x : Ext M1 M) : Ext M1 { M with H := upd M.H D u } := by
  refine ⟨⟨x.n, x.ρ, fun a o e n => ?_⟩, fun a e => ?_⟩
  · have ne : a ≠ D := ne_of_none e hD
    show (upd M.H D u a = some o ∨ (IsDt o ∧ ∃ od, upd M.H D u a = some (.frz od o))) ∧ ¬ M.P a
    rw [upd_ne ne]
    exact x.keepD a o e n
  · obtain ⟨⟨y, e3, _⟩, _⟩ := r1.E a e
    refine ⟨(x.hold a e).1, ?_⟩
    show upd M.H D u a = M1.H a
    rw [upd_ne (ne_of_none e3 hD)]
    exact (x.hold a e).2
/-- a thing made is handed over -/
def Ms.done (M : Ms) (D : Addr) : Ms := { M with P := fun a => M.P a ∧ a ≠ D, E := fun a => M.E a ∧ a ≠ D }
theorem Rep.done (r : Rep c M l) (e : M.E D) (r1 : Rep c M1 l1) (hD : M1.H D = none) (x : Ext M1 M) : Rep c (M.done D) l ∧ Ext M1 (M.done D) ∧ Ext0 M (M.done D) := by
  have ext : Ext0 M (M.done D) := ⟨Nat.le_refl _, fun _ _ => rfl, fun a o e n => ⟨.inl e, fun z => n z.1⟩⟩
  refine ⟨⟨r.dsc, fun i o h => (r.obj i o h).mono0 ext rfl, r.inj, fun a => ⟨fun z => ?_, fun z => ?_⟩, fun a h => r.E a h.1⟩, ⟨⟨x.n, x.ρ, fun a o e n => ⟨(x.keepD a o e n).1, fun z => (x.keepD a o e n).2 z.1⟩⟩, fun a h => ?_⟩, ext⟩
  · exact ((r.P a).mp z.1).imp id fun y => ⟨y, z.2⟩
  · rcases z with ⟨i, o, h1, h2⟩ | z
    · exact ⟨(r.P a).mpr (.inl ⟨i, o, h1, h2⟩), fun y => (r.E D e).2 i o h1 (h2.trans y)⟩
    · exact ⟨(r.P a).mpr (.inr z.1), z.2⟩
  · obtain ⟨⟨y, e3, _⟩, _⟩ := r1.E a h
    exact ⟨⟨(x.hold a h).1, ne_of_none e3 hD⟩, (x.hold a h).2⟩
/-! ### tests of a clause -/
theorem cts_nil : PTs X [] (tT c cl Ev.tYes) := ⟨fun pins s σ H Q I ⟨M, l, ss, eH, r, sl, w, n', l', e, k⟩ => by
  subst eH
  cases e
  exact pts_nil.run pins s σ M.H Q I (k M rfl r (Ext.refl M))⟩
theorem cts_one {t : Expr} {mt : Ev.T} (h : PT X t (tT c cl mt)) : PTs X [t] (tT c cl mt) := pts_one h
/-! ### one clause -/
/-- what a turn of the machine does, with what comes after it -/
noncomputable def lcTurn (g : List Ev.W → Ev.W → (List Ev.W → Ra) → Ra) (t : Ev.T) (a : Ev.D) (cl : CallT) (s : List Ev.W) (w : Ev.W) (nxt : Nat → Hl → Ra) (n : Nat) (l : Hl) : Ra :=
  g s w fun s1 => (t cl s1 n l).ba fun d n1 l1 => Bool.rec (motive := fun _ => Ra) (nxt n1 l1) ((a cl s1 n1 l1).ba fun x n2 l2 => (nxt n2 l2).ba fun r n3 l3 => .ok (x :: r) n3 l3) d
/-- where a comprehension stands: what is made, what is left -/
def LcAt (c : Cn) (M1 Mz : Ms) (D : Addr) (tot : List Ev.W) (n' : Nat) (l' : Hl) (nxt : Nat → Hl → Ra) (H : Hp) : Prop :=
  ∃ (M : Ms) (l : Hl) (dn rs : List Ev.W) (acc : List V), M.H = H ∧ Rep c M l ∧ Ext M1 M ∧ Ext0 Mz M ∧ M.E D ∧ M.H D = some (.lst acc) ∧ RVs c M dn acc ∧ nxt M.n l = .ok rs n' l' ∧ dn ++ rs = tot
theorem rvs_snoc {w : Ev.W} {v : V} : ∀ {ws : List Ev.W} {xs : List V}, RVs c M ws xs → RV c M w v → RVs c M (ws ++ [w]) (xs ++ [v])
  | [], xs, h, hw => by rw [show xs = [] from h]; exact ⟨v, [], rfl, hw, rfl⟩
  | u :: ws, _, ⟨x, r, rfl, h1, h2⟩, hw => ⟨x, r ++ [v], rfl, h1, rvs_snoc h2 hw⟩
theorem lc_turn {g : List Ev.W → Ev.W → (List Ev.W → Ra) → Ra} {gt : TG} {vs : List Nat} {mt : Ev.T} {nxt : Nat → Hl → Ra} {s : List Ev.W} {tot rs dn : List Ev.W} {n' : Nat} {l' : Hl} {acc : List V} {w : Ev.W} {x : V} {Mz : Ms}
    (htg : TgOk c Ra.err g gt vs) (r1 : Rep c M1 l1) (hD : M1.H D = none) (htot : tot.length ≤ 100000) (r : Rep c M l) (xx : Ext M1 M) (xz : Ext0 Mz M) (e : M.E D) (hacc : M.H D = some (.lst acc)) (hdn : RVs c M dn acc) (sl : Sl c M s σ)
    (hrun : lcTurn g mt ma cl s w nxt M.n l = .ok rs n' l') (htt : dn ++ rs = tot) (rw' : RV c M w x) :
    gt x (wipe σ vs) M.H fun σ2 H2 => wipe σ2 vs = wipe σ vs ∧ tT c cl mt σ2 H2 fun b H3 =>
      if b = true then tM c cl ma σ2 H3 fun y H4 => ∃ acc, H4 D = some (.lst acc) ∧ acc.length < sizeLine ∧ LcAt c M1 Mz D tot n' l' nxt (upd H4 D (.lst (acc ++ [y]))) else LcAt c M1 Mz D tot n' l' nxt H3 := by
  have hrun' : g (unset s vs) w (fun s1 => (mt cl s1 M.n l).ba fun d n1 l1 => Bool.rec (motive := fun _ => Ra) (nxt n1 l1) ((ma cl s1 n1 l1).ba fun x n2 l2 => (nxt n2 l2).ba fun r n3 l3 => .ok (x :: r) n3 l3) d) = .ok rs n' l' := by
    rw [htg.2]
    exact hrun
  obtain ⟨s1, e1, q⟩ := htg.1 _ w _ _ hrun' Ra.ne
  refine q M (wipe σ vs) x _ (sl.unset vs) rw' fun σ2 hw sl2 => ⟨by rw [hw, wipe_wipe], ?_⟩
  obtain ⟨b, n2, l2, e2, e3⟩ := Rb.ba_ok e1
  refine tT.mk r sl2 e2 fun M3 en3 r3 x3 => ?_
  subst en3
  cases b with
  | false =>
    rw [if_neg Bool.false_ne_true]
    exact ⟨M3, l2, dn, rs, acc, rfl, r3, xx.trans x3, xz.trans x3.toExt0, (x3.hold D e).1, (x3.hold D e).2.trans hacc, RVs.mono x3 _ _ hdn, e3, htt⟩
  | true =>
    rw [if_pos rfl]
    obtain ⟨y, n4, l4, e4, e5⟩ := Rs.ba_ok e3
    obtain ⟨rs2, n5, l5, e6, e7⟩ := Ra.ba_ok e5
    cases e7
    refine tM.mk r3 (sl2.mono x3) e4 fun M4 v en4 r4 x4 rv => ?_
    subst en4
    have e34 := (x4.hold D (x3.hold D e).1).1
    have h34 : M4.H D = some (.lst acc) := ((x4.hold D (x3.hold D e).1).2.trans (x3.hold D e).2).trans hacc
    refine ⟨acc, h34, ?_, ?_⟩
    · rw [← hdn.length]
      have : dn.length ≤ tot.length := by rw [← htt, List.length_append]; omega
      exact line_of (by omega)
    · obtain ⟨r5, x5⟩ := r4.eWrite (u := .lst (acc ++ [v])) e34 (fun _ z => nomatch z)
      refine ⟨{ M4 with H := upd M4.H D (.lst (acc ++ [v])) }, l4, dn ++ [y], rs2, acc ++ [v], rfl, r5, ext_eWrite r1 hD ((xx.trans x3).trans x4), ((xz.trans x3.toExt0).trans x4.toExt0).trans x5, e34, upd_same, ?_, e6, by rw [List.append_assoc]; exact htt⟩
      exact RVs.mono0 x5 _ _ (rvs_snoc (RVs.mono (x3.trans x4) _ _ hdn) rv)
theorem lc_stop {Q : VK} {nxt : Nat → Hl → Ra} {tot : List Ev.W} {n' : Nat} {l' : Hl} (r1 : Rep c M1 l1) (hD : M1.H D = none) (hnx : ∀ n l rs n' l', nxt n l = .ok rs n' l' → rs = [] ∧ n' = n ∧ l' = l) {Mz : Ms} (h : LcAt c M1 Mz D tot n' l' nxt H)
    (k : ∀ (M' : Ms) (v : V), M'.n = n' → Rep c M' l' → Ext M1 M' → RV c M' (.lst tot) v → Q v M'.H) : Q (.ref D) H := by
  obtain ⟨M, l, dn, rs, acc, rfl, r, x, _, e, hacc, hdn, e1, htt⟩ := h
  obtain ⟨rfl, rfl, rfl⟩ := hnx _ _ _ _ _ e1
  rw [List.append_nil] at htt
  subst htt
  obtain ⟨r2, x2, x3⟩ := r.done e r1 hD x
  exact k (M.done D) _ rfl r2 x2 ⟨D, acc, rfl, fun z => z.2 rfl, hacc, RVs.mono0 x3 _ _ hdn⟩
theorem lc_start {nxt : Nat → Hl → Ra} {tot : List Ev.W} {n' : Nat} {l' : Hl} (r1 : Rep c M1 l1) (hD : M1.H D = none) (h : nxt M1.n l1 = .ok tot n' l') : LcAt c M1 M1 D tot n' l' nxt (upd M1.H D (.lst [])) := by
  obtain ⟨r2, x2⟩ := r1.make (u := .lst []) hD (fun _ z => nomatch z)
  exact ⟨M1.make D (.lst []), l1, [], tot, [], rfl, r2, x2, x2.toExt0, .inr rfl, upd_same, rfl, h, rfl⟩
theorem lc_lemma {Q : VK} {src : Ev.G} {g : List Ev.W → Ev.W → (List Ev.W → Ra) → Ra} {gt : TG} {vs : List Nat} {mt : Ev.T} (htg : TgOk c Ra.err g gt vs) (h : tM c cl (Ev.eLc src g mt ma) σ H Q) : tLc (tG c cl src) gt (tT c cl mt) (tM c cl ma) vs σ H Q := by
  obtain ⟨M, l, s, eH, r, sl, w, n', l', ev, k⟩ := h
  subst eH
  obtain ⟨tot, n2, l2, e1, e2⟩ := Ra.b_ok ev
  obtain ⟨hl, e3⟩ := few_ne e2 Rs.ne
  cases e3
  have e1' : Sr.rec (motive := fun _ => Ra) .err (fun ws n1 l1 => Ev.lcL g mt ma cl s ws n1 l1) (fun en i n1 l1 => Ev.lcR g mt ma cl s en i 4096 0 n1 l1) (src cl s M.n l) = .ok tot n' l' := e1
  refine ⟨M, l, s, rfl, r, sl, (fun z => by rw [z] at e1'; cases e1'), fun M1 J at1 x1 jok D hD => ?_⟩
  have fin : ∀ (M' : Ms) (v : V), M'.n = n' → Rep c M' l' → Ext M1 M' → RV c M' (.lst tot) v → Q v M'.H := fun M' v h1 h2 h3 h4 => k M' v h1 h2 (x1.trans h3) h4
  cases q : src cl s M.n l with
  | err => rw [q] at at1; exact at1.elim
  | lst ws n1 l1 =>
    rw [q] at at1 jok e1'
    obtain ⟨en, r1⟩ := at1
    subst en
    refine ⟨fun i m H' => m = ws.length - i ∧ i ≤ ws.length ∧ LcAt c M1 M1 D tot n' l' (fun n l => Ev.lcL g mt ma cl s (ws.drop i) n l) H', ⟨ws.length, by simp, Nat.zero_le _, lc_start r1 hD e1'⟩, ?_⟩
    rintro i m H' ⟨rfl, hi, hL⟩
    by_cases hlt : i < ws.length
    · obtain ⟨M2, l2, dn, rs, acc, rfl, r2, x2, z2, e, hacc, hdn, hn, htt⟩ := hL
      obtain ⟨go, yl⟩ := (jok i M2 l2 r2 x2.toExt0).1 ws[i] (by simp [hlt])
      refine .inr ⟨go, LcAt c M1 M1 D tot n' l' (fun n l => Ev.lcL g mt ma cl s (ws.drop (i + 1)) n l), fun H' z => ⟨ws.length - (i + 1), by omega, rfl, hlt, z⟩, fun x H4 hy => ?_⟩
      obtain ⟨M5, rfl, n5, r5, x5, rv5⟩ := yl x H4 hy
      rw [List.drop_eq_getElem_cons hlt, ← n5] at hn
      exact lc_turn (s := s) (w := ws[i]) htg r1 hD hl r5 (x2.trans x5) (x2.trans x5).toExt0 (x5.hold D e).1 ((x5.hold D e).2.trans hacc) (RVs.mono x5 _ _ hdn) (sl.mono ((x1.trans x2).trans x5)) hn htt rv5
    · have e : i = ws.length := by omega
      subst e
      have hL2 := hL
      obtain ⟨M2, l2, _, _, _, rfl, r2, x2, _⟩ := hL2
      refine .inl ⟨(jok _ M2 l2 r2 x2.toExt0).2 rfl, lc_stop (nxt := fun n l => Ev.lcL g mt ma cl s (ws.drop ws.length) n l) r1 hD (fun n l rs n' l' z => ?_) hL fin⟩
      rw [List.drop_length] at z
      cases z
      exact ⟨rfl, rfl, rfl⟩
  | ref en i0 n1 l1 =>
    rw [q] at at1 jok e1'
    obtain ⟨en1, r1⟩ := at1
    subst en1
    refine ⟨fun i m H' => LcAt c M1 M1 D tot n' l' (fun n l => Ev.lcR g mt ma cl s en i0 m i n l) H', ⟨4096, lc_start r1 hD e1'⟩, ?_⟩
    rintro i m H' hL
    have hL2 := hL
    obtain ⟨M2, l2, dn, rs, acc, rfl, r2, x2, z2, e, hacc, hdn, hn, htt⟩ := hL2
    cases m with
    | zero => cases hn
    | succ m =>
      have hn' : Ev.hget .err (Ev.oLst .err fun ws => List.rec (motive := fun _ => Ra) (.ok [] M2.n l2) (fun w _ _ => lcTurn g mt ma cl s (Bool.rec (motive := fun _ => Ev.W) w (.tup [.nat i, w]) en) (fun n l => Ev.lcR g mt ma cl s en i0 m (i + 1) n l) M2.n l2) (Ev.dropB i ws)) l2 i0 = .ok rs n' l' := hn
      obtain ⟨o, h1, h2⟩ := hget_ne hn' Ra.ne
      obtain ⟨ws, rfl, h3⟩ := oLst_ne h2 Ra.ne
      rw [dropB_eq] at h3
      by_cases hlt : i < ws.length
      · obtain ⟨go, yl⟩ := (jok i M2 l2 ws r2 x2.toExt0 h1).1 ws[i] (by simp [hlt])
        refine .inr ⟨go, LcAt c M1 M1 D tot n' l' (fun n l => Ev.lcR g mt ma cl s en i0 m (i + 1) n l), fun H' z => ⟨m, Nat.lt_succ_self _, z⟩, fun x H4 hy => ?_⟩
        obtain ⟨M5, rfl, n5, r5, x5, rv5⟩ := yl x H4 hy
        rw [List.drop_eq_getElem_cons hlt, ← n5] at h3
        exact lc_turn (s := s) htg r1 hD hl r5 (x2.trans x5) (x2.trans x5).toExt0 (x5.hold D e).1 ((x5.hold D e).2.trans hacc) (RVs.mono x5 _ _ hdn) (sl.mono ((x1.trans x2).trans x5)) h3 htt rv5
      · rw [List.drop_eq_nil_of_le (by omega)] at h3
        refine .inl ⟨(jok i M2 l2 ws r2 x2.toExt0 h1).2 (by omega), lc_stop (M1 := M1) (nxt := fun n l => Ra.ok [] n l) r1 hD (fun n l rs n' l' z => by cases z; exact ⟨rfl, rfl, rfl⟩) ⟨M2, l2, dn, rs, acc, rfl, r2, x2, x2.toExt0, e, hacc, hdn, h3, htt⟩ fin⟩
theorem ce_lc {elt iter : Expr} {ifs : List Expr} {scope : Scope} {own : List (Str × Nat)} {src : Ev.G} {g : List Ev.W → Ev.W → (List Ev.W → Ra) → Ra} {gt : TG} {mt : Ev.T} (hc : X.calm = true) (hN : X.N.Nodup) (htg : TgOk c Ra.err g gt (own.map (·.2))) (hi : PI X tg iter (tG c cl src)) (ok : BlkOk X.N X.env.scope scope own)
    (hg : ∀ (s : Shared) (H : Hp) (C : Addr) (cl : List (Str × Addr)) (fp : List Addr), PG (X.blk s H scope (compEnvC scope cl C X.env) fp) tg gt) (ht : ∀ (s : Shared) (H : Hp) (C : Addr) (cl2 : List (Str × Addr)) (fp : List Addr), PTs (X.blk s H scope (compEnvC scope cl2 C X.env) fp) ifs (tT c cl mt))
    (he : ∀ (s : Shared) (H : Hp) (C : Addr) (cl2 : List (Str × Addr)) (fp : List Addr), PE (X.blk s H scope (compEnvC scope cl2 C X.env) fp) elt (tM c cl ma)) (hs : ∀ x, foldedSetIterable iter X.env x = pure x := by intro _; rfl) :
    PE X (.ListComp elt [⟨tg, iter, ifs, 0⟩] scope pos) (tM c cl (Ev.eLc src g mt ma)) := pe_imp (pe_lc hc hN hi ok hg ht he hs) fun σ H Q h => lc_lemma htg h
theorem cs_setLc {elt iter : Expr} {ifs : List Expr} {scope : Scope} {own : List (Str × Nat)} {src : Ev.G} {g : List Ev.W → Ev.W → (List Ev.W → Ra) → Ra} {gt : TG} {mt : Ev.T} {i : Nat} {y : Str} {py spos : Pos} (hc : X.calm = true) (hN : X.N.Nodup) (hy : X.N[i]? = some y) (hyl : X.env.scope.names.lookup y = some .local)
    (hsw : swapsWith (.ListComp elt [⟨tg, iter, ifs, 0⟩] scope pos) (some (.Name y py)) spos.line X.env = pure true) (htg : TgOk c Ra.err g gt (own.map (·.2))) (hi : PI X tg iter (tG c cl src)) (ok : BlkOk X.N X.env.scope scope own)
    (hg : ∀ (s : Shared) (H : Hp) (C : Addr) (cl : List (Str × Addr)) (fp : List Addr), PG (X.blk s H scope (compEnvC scope cl C X.env) fp) tg gt) (ht : ∀ (s : Shared) (H : Hp) (C : Addr) (cl2 : List (Str × Addr)) (fp : List Addr), PTs (X.blk s H scope (compEnvC scope cl2 C X.env) fp) ifs (tT c cl mt))
    (he : ∀ (s : Shared) (H : Hp) (C : Addr) (cl2 : List (Str × Addr)) (fp : List Addr), PE (X.blk s H scope (compEnvC scope cl2 C X.env) fp) elt (tM c cl ma)) (hs : ∀ x, foldedSetIterable iter X.env x = pure x := by intro _; rfl) :
    PS X (.Assign [.Name y py] (.ListComp elt [⟨tg, iter, ifs, 0⟩] scope pos) spos) (tS c cl (Ev.sAsg (fun s w => Ev.g1 i So.err w s) (Ev.eLc src g mt ma))) := ps_imp (ps_setLc hc hN hy hyl hsw hi ok hg ht he hs) fun D σ H h => by
  obtain ⟨M, l, s, eH, r, sl, w, n', l', e, k⟩ := asg_lemma (tg1 i) h
  exact lc_lemma htg ⟨M, l, s, eH, r, sl, w, n', l', e, k⟩
end
end Sd
end

section
set_option Elab.async false
set_option linter.all false
set_option maxRecDepth 100000
/-! Sd13: list comprehensions of two clauses. -/
namespace Sd
open PySem PySem.Spec PyProof.Rows L2
open Ev (Hl Rs Rb Ra So Sr CallT)
theorem wipe_sub {σ σ' : L2.St} {vs us : List Nat} (hs : ∀ i ∈ us, i ∈ vs) (h : wipe σ us = wipe σ' us) : wipe σ vs = wipe σ' vs := by
  have hl : σ.length = σ'.length := by
    have := congrArg List.length h
    rw [wipe_length, wipe_length] at this
    exact this
  apply List.ext_getElem?
  intro i
  rw [wipe_get, wipe_get]
  by_cases q : i ∈ vs
  · rw [if_pos q, if_pos q]
    by_cases z : i < σ.length
    · rw [List.getElem?_eq_getElem z, List.getElem?_eq_getElem (by omega)]
      rfl
    · rw [List.getElem?_eq_none (by omega), List.getElem?_eq_none (by omega)]
  · rw [if_neg q, if_neg q]
    have e := congrArg (fun s : L2.St => s[i]?) h
    have e : (wipe σ us)[i]? = (wipe σ' us)[i]? := e
    rw [wipe_get, wipe_get, if_neg (fun z => q (hs i z)), if_neg (fun z => q (hs i z))] at e
    exact e
theorem unset_snoc (s : List Ev.W) (v : Nat) : ∀ us : List Nat, unset s (us ++ [v]) = unset (Ev.sset v .un s) us
  | [] => rfl
  | u :: us => by
    show Ev.sset u .un (unset s (us ++ [v])) = Ev.sset u .un (unset (Ev.sset v .un s) us)
    rw [unset_snoc s v us]
section
variable {X : Cx} {c : Cn} {cl : CallT} {σ : L2.St} {H : Hp} {tg a b d o : Expr} {ma mb md mo : Ev.D} {pos p pos2 : Pos} {M M1 : Ms} {l l1 : Hl} {D : Addr}
/-- what comes after the inner list is made, an item longer -/
def ConsOk (F : List Ev.W → Nat → Hl → Ra) : Prop := ∀ x r n l rs n' l', F (x :: r) n l = .ok rs n' l' → ∃ rs2, F r n l = .ok rs2 n' l' ∧ rs = x :: rs2
theorem lc_turn2 {g : List Ev.W → Ev.W → (List Ev.W → Ra) → Ra} {gt : TG} {vs : List Nat} {mt : Ev.T} {nxt : Nat → Hl → Ra} {F : List Ev.W → Nat → Hl → Ra} {s : List Ev.W} {tot rs dn : List Ev.W} {n' : Nat} {l' : Hl} {acc : List V} {w : Ev.W} {x : V} {Mz : Ms}
    (hF : ConsOk F) (htg : TgOk c Ra.err g gt vs) (r1 : Rep c M1 l1) (hD : M1.H D = none) (htot : tot.length ≤ 100000) (r : Rep c M l) (xx : Ext M1 M) (xz : Ext0 Mz M) (e : M.E D) (hacc : M.H D = some (.lst acc)) (hdn : RVs c M dn acc) (sl : Sl c M s σ)
    (hrun : (lcTurn g mt ma cl s w nxt M.n l).ba F = .ok rs n' l') (htt : dn ++ rs = tot) (rw' : RV c M w x) :
    gt x (wipe σ vs) M.H fun σ2 H2 => wipe σ2 vs = wipe σ vs ∧ tT c cl mt σ2 H2 fun b H3 =>
      if b = true then tM c cl ma σ2 H3 fun y H4 => ∃ acc, H4 D = some (.lst acc) ∧ acc.length < sizeLine ∧ LcAt c M1 Mz D tot n' l' (fun n l => (nxt n l).ba F) (upd H4 D (.lst (acc ++ [y]))) else LcAt c M1 Mz D tot n' l' (fun n l => (nxt n l).ba F) H3 := by
  obtain ⟨xs, n9, l9, e0, e9⟩ := Ra.ba_ok hrun
  have hrun' : g (unset s vs) w (fun s1 => (mt cl s1 M.n l).ba fun d n1 l1 => Bool.rec (motive := fun _ => Ra) (nxt n1 l1) ((ma cl s1 n1 l1).ba fun x n2 l2 => (nxt n2 l2).ba fun r n3 l3 => .ok (x :: r) n3 l3) d) = .ok xs n9 l9 := by
    rw [htg.2]
    exact e0
  obtain ⟨s1, e1, q⟩ := htg.1 _ w _ _ hrun' Ra.ne
  refine q M (wipe σ vs) x _ (sl.unset vs) rw' fun σ2 hw sl2 => ⟨by rw [hw, wipe_wipe], ?_⟩
  obtain ⟨b, n2, l2, e2, e3⟩ := Rb.ba_ok e1
  refine tT.mk r sl2 e2 fun M3 en3 r3 x3 => ?_
  subst en3
  cases b with
  | false =>
    rw [if_neg Bool.false_ne_true]
    have e3' : nxt M3.n l2 = .ok xs n9 l9 := e3
    exact ⟨M3, l2, dn, rs, acc, rfl, r3, xx.trans x3, xz.trans x3.toExt0, (x3.hold D e).1, (x3.hold D e).2.trans hacc, RVs.mono x3 _ _ hdn, by show (nxt M3.n l2).ba F = _; rw [e3']; exact e9, htt⟩
  | true =>
    rw [if_pos rfl]
    obtain ⟨y, n4, l4, e4, e5⟩ := Rs.ba_ok e3
    obtain ⟨rs2, n5, l5, e6, e7⟩ := Ra.ba_ok e5
    cases e7
    obtain ⟨rs3, e8, e10⟩ := hF _ _ _ _ _ _ _ e9
    subst e10
    refine tM.mk r3 (sl2.mono x3) e4 fun M4 v en4 r4 x4 rv => ?_
    subst en4
    have e34 := (x4.hold D (x3.hold D e).1).1
    have h34 : M4.H D = some (.lst acc) := ((x4.hold D (x3.hold D e).1).2.trans (x3.hold D e).2).trans hacc
    refine ⟨acc, h34, ?_, ?_⟩
    · rw [← hdn.length]
      have : dn.length ≤ tot.length := by rw [← htt, List.length_append]; omega
      exact line_of (by omega)
    · obtain ⟨r5, x5⟩ := r4.eWrite (u := .lst (acc ++ [v])) e34 (fun _ z => nomatch z)
      refine ⟨{ M4 with H := upd M4.H D (.lst (acc ++ [v])) }, l4, dn ++ [y], rs3, acc ++ [v], rfl, r5, ext_eWrite r1 hD ((xx.trans x3).trans x4), ((xz.trans x3.toExt0).trans x4.toExt0).trans x5, e34, upd_same, ?_, by show (nxt M4.n l4).ba F = _; rw [e6]; exact e8, by rw [List.append_assoc]; exact htt⟩
      exact RVs.mono0 x5 _ _ (rvs_snoc (RVs.mono (x3.trans x4) _ _ hdn) rv)
theorem lc2_lemma {Q : VK} {src src1 : Ev.G} {g g1 : List Ev.W → Ev.W → (List Ev.W → Ra) → Ra} {gt gt1 : TG} {us : List Nat} {v : Nat} (htg : TgOk c Ra.err g gt us) (htg1 : TgOk c Ra.err g1 gt1 [v]) (h : tM c cl (Ev.eLc2 src g src1 g1 v ma) σ H Q) :
    tLc2 (tG c cl src) gt (tT c cl Ev.tYes) (tG c cl src1) gt1 (tT c cl Ev.tYes) (tM c cl ma) (us ++ [v]) [v] σ H Q := by
  obtain ⟨M, l, s, eH, r, sl, w, n', l', ev, k⟩ := h
  subst eH
  obtain ⟨tot, n2, l2, e1, e2⟩ := Ra.b_ok ev
  obtain ⟨hl, e3⟩ := few_ne e2 Rs.ne
  cases e3
  have e1' : Sr.rec (motive := fun _ => Ra) .err (fun ws n1 l1 => Ev.lc2L g (Ev.lcG src1 g1 Ev.tYes ma) v cl s ws n1 l1) (fun _ _ _ _ => .err) (src cl s M.n l) = .ok tot n' l' := e1
  refine ⟨M, l, s, rfl, r, sl, (fun z => by rw [z] at e1'; cases e1'), fun M1 J at1 x1 jok D hD => ?_⟩
  have fin : ∀ (M' : Ms) (v : V), M'.n = n' → Rep c M' l' → Ext M1 M' → RV c M' (.lst tot) v → Q v M'.H := fun M' v h1 h2 h3 h4 => k M' v h1 h2 (x1.trans h3) h4
  cases q : src cl s M.n l with
  | err => rw [q] at at1; exact at1.elim
  | ref en i0 n1 l1 => rw [q] at e1'; cases e1'
  | lst ws n1 l1 =>
    rw [q] at at1 jok e1'
    obtain ⟨en, r1⟩ := at1
    subst en
    refine ⟨fun i m H' => m = ws.length - i ∧ i ≤ ws.length ∧ LcAt c M1 M1 D tot n' l' (fun n l => Ev.lc2L g (Ev.lcG src1 g1 Ev.tYes ma) v cl s (ws.drop i) n l) H', ⟨ws.length, by simp, Nat.zero_le _, lc_start r1 hD e1'⟩, ?_⟩
    rintro i m H' ⟨rfl, hi, hL⟩
    by_cases hlt : i < ws.length
    · obtain ⟨M2, l2, dn, rs, acc, rfl, r2, x2, z2, e, hacc, hdn, hn, htt⟩ := hL
      obtain ⟨go, yl⟩ := (jok i M2 l2 r2 x2.toExt0).1 ws[i] (by simp [hlt])
      refine .inr ⟨go, LcAt c M1 M1 D tot n' l' (fun n l => Ev.lc2L g (Ev.lcG src1 g1 Ev.tYes ma) v cl s (ws.drop (i + 1)) n l), fun H' z => ⟨ws.length - (i + 1), by omega, rfl, hlt, z⟩, fun x H4 hy => ?_⟩
      obtain ⟨M5, rfl, n5, r5, x5, rv5⟩ := yl x H4 hy
      rw [List.drop_eq_getElem_cons hlt, ← n5] at hn
      let F : List Ev.W → Nat → Hl → Ra := fun xs n1 l1 => (Ev.lc2L g (Ev.lcG src1 g1 Ev.tYes ma) v cl s (ws.drop (i + 1)) n1 l1).ba fun r n3 l3 => .ok (Ev.app xs r) n3 l3
      have hFc : ConsOk F := fun x r n l rs n' l' h => by
        obtain ⟨q, n3, l3, h1, h2⟩ := Ra.ba_ok h
        cases h2
        refine ⟨Ev.app r q, ?_, rfl⟩
        show (Ev.lc2L g (Ev.lcG src1 g1 Ev.tYes ma) v cl s (ws.drop (i + 1)) n l).ba (fun q n3 l3 => .ok (Ev.app r q) n3 l3) = _
        rw [h1]
        rfl
      have hF0 : ∀ n l rs n' l', F [] n l = .ok rs n' l' → Ev.lc2L g (Ev.lcG src1 g1 Ev.tYes ma) v cl s (ws.drop (i + 1)) n l = .ok rs n' l' := fun n l rs n' l' h => by
        obtain ⟨q, n3, l3, h1, h2⟩ := Ra.ba_ok h
        cases h2
        exact h1
      have hn0 : g (Ev.sset v .un s) ws[i] (fun s1 => (Ev.lcG src1 g1 Ev.tYes ma cl s1 M5.n l2).ba F) = .ok rs n' l' := hn
      have hn' : g (unset s (us ++ [v])) ws[i] (fun s1 => (Ev.lcG src1 g1 Ev.tYes ma cl s1 M5.n l2).ba F) = .ok rs n' l' := by
        rw [unset_snoc, htg.2]
        exact hn0
      obtain ⟨s1, h1, hq⟩ := htg.1 _ _ _ _ hn' Ra.ne
      refine hq M5 (wipe σ (us ++ [v])) x _ ((sl.mono ((x1.trans x2).trans x5)).unset _) rv5 fun σ2 hw sl2 => ⟨?_, ?_⟩
      · rw [wipe_sub (fun i hi => List.mem_append_left _ hi) hw, wipe_wipe]
      refine tT.mk (w := true) r5 sl2 rfl fun M6 en6 r6 x6 => ?_
      rw [if_pos rfl]
      have x16 := (x2.trans x5).trans x6
      have e6 := (x6.hold D (x5.hold D e).1).1
      have h6 : M6.H D = some (.lst acc) := ((x6.hold D (x5.hold D e).1).2.trans (x5.hold D e).2).trans hacc
      rw [← en6] at h1
      have h1' : (Sr.rec (motive := fun _ => Ra) .err (fun ws n1 l1 => Ev.lcL g1 Ev.tYes ma cl s1 ws n1 l1) (fun en i n1 l1 => Ev.lcR g1 Ev.tYes ma cl s1 en i 4096 0 n1 l1) (src1 cl s1 M6.n l2)).ba F = .ok rs n' l' := h1
      refine ⟨M6, l2, s1, rfl, r6, sl2.mono x6, (fun z => by rw [z] at h1'; cases h1'), fun M7 J1 at7 x7 jok1 => ?_⟩
      have x17 := x16.trans x7
      have e7 := (x7.hold D e6).1
      have h7 : M7.H D = some (.lst acc) := (x7.hold D e6).2.trans h6
      have dn7 := RVs.mono ((x5.trans x6).trans x7) _ _ hdn
      cases q1 : src1 cl s1 M6.n l2 with
      | err => rw [q1] at at7; exact at7.elim
      | lst ws1 n7 l7 =>
        rw [q1] at at7 jok1 h1'
        obtain ⟨en7, r7⟩ := at7
        subst en7
        refine ⟨fun j k H' => k = ws1.length - j ∧ j ≤ ws1.length ∧ LcAt c M1 M7 D tot n' l' (fun n l => (Ev.lcL g1 Ev.tYes ma cl s1 (ws1.drop j) n l).ba F) H', ⟨ws1.length, by simp, Nat.zero_le _, M7, l7, dn, rs, acc, rfl, r7, x17, (Ext.refl M7).toExt0, e7, h7, dn7, h1', htt⟩, ?_⟩
        rintro j k8 H' ⟨rfl, hj, hL1⟩
        by_cases hlt1 : j < ws1.length
        · obtain ⟨M8, l8, dn8, rs8, acc8, rfl, r8, x8, z8, e8, h8, d8, hn8, t8⟩ := hL1
          obtain ⟨go1, yl1⟩ := (jok1 j M8 l8 r8 z8).1 ws1[j] (by simp [hlt1])
          refine .inr ⟨go1, LcAt c M1 M7 D tot n' l' (fun n l => (Ev.lcL g1 Ev.tYes ma cl s1 (ws1.drop (j + 1)) n l).ba F), fun H' z => ⟨ws1.length - (j + 1), by omega, rfl, hlt1, z⟩, fun x H9 hy9 => ?_⟩
          obtain ⟨M9, rfl, n9, r9, x9, rv9⟩ := yl1 x H9 hy9
          rw [List.drop_eq_getElem_cons hlt1, ← n9] at hn8
          refine lc_turn2 (nxt := fun n l => Ev.lcL g1 Ev.tYes ma cl s1 (ws1.drop (j + 1)) n l) (s := s1) (w := ws1[j]) hFc htg1 r1 hD hl r9 (x8.trans x9) (z8.trans x9.toExt0) (x9.hold D e8).1 ((x9.hold D e8).2.trans h8) (RVs.mono x9 _ _ d8) ?_ hn8 t8 rv9
          exact ⟨sl2.len, fun i w hw => (sl2.at_ i w hw).imp id fun ⟨u, q1, q2⟩ => ⟨u, q1, RV.mono0 ((((x6.trans x7).toExt0.trans z8)).trans x9.toExt0) _ _ q2⟩⟩
        · have ej : j = ws1.length := by omega
          subst ej
          obtain ⟨M8, l8, dn8, rs8, acc8, rfl, r8, x8, z8, e8, h8, d8, hn8, t8⟩ := hL1
          refine .inl ⟨(jok1 _ M8 l8 r8 z8).2 rfl, M8, l8, dn8, rs8, acc8, rfl, r8, x8, x8.toExt0, e8, h8, d8, ?_, t8⟩
          rw [List.drop_length] at hn8
          exact hF0 _ _ _ _ _ hn8
      | ref en1 i1 n7 l7 =>
        rw [q1] at at7 jok1 h1'
        obtain ⟨en7, r7⟩ := at7
        subst en7
        refine ⟨fun j k H' => LcAt c M1 M7 D tot n' l' (fun n l => (Ev.lcR g1 Ev.tYes ma cl s1 en1 i1 k j n l).ba F) H', ⟨4096, M7, l7, dn, rs, acc, rfl, r7, x17, (Ext.refl M7).toExt0, e7, h7, dn7, h1', htt⟩, ?_⟩
        rintro j k8 H' ⟨M8, l8, dn8, rs8, acc8, rfl, r8, x8, z8, e8, h8, d8, hn8, t8⟩
        cases k8 with
        | zero => cases hn8
        | succ m =>
          obtain ⟨xs, na, la, ha1, ha2⟩ := Ra.ba_ok hn8
          have hn' : Ev.hget .err (Ev.oLst .err fun ws => List.rec (motive := fun _ => Ra) (.ok [] M8.n l8) (fun w _ _ => lcTurn g1 Ev.tYes ma cl s1 (Bool.rec (motive := fun _ => Ev.W) w (.tup [.nat j, w]) en1) (fun n l => Ev.lcR g1 Ev.tYes ma cl s1 en1 i1 m (j + 1) n l) M8.n l8) (Ev.dropB j ws)) l8 i1 = .ok xs na la := ha1
          obtain ⟨o, hh1, hh2⟩ := hget_ne hn' Ra.ne
          obtain ⟨ws1, rfl, hh3⟩ := oLst_ne hh2 Ra.ne
          rw [dropB_eq] at hh3
          by_cases hlt1 : j < ws1.length
          · obtain ⟨go1, yl1⟩ := (jok1 j M8 l8 ws1 r8 z8 hh1).1 ws1[j] (by simp [hlt1])
            refine .inr ⟨go1, LcAt c M1 M7 D tot n' l' (fun n l => (Ev.lcR g1 Ev.tYes ma cl s1 en1 i1 m (j + 1) n l).ba F), fun H' z => ⟨m, Nat.lt_succ_self _, z⟩, fun x H9 hy9 => ?_⟩
            obtain ⟨M9, rfl, n9, r9, x9, rv9⟩ := yl1 x H9 hy9
            rw [List.drop_eq_getElem_cons hlt1, ← n9] at hh3
            have hh4 : (lcTurn g1 Ev.tYes ma cl s1 (Bool.rec (motive := fun _ => Ev.W) ws1[j] (.tup [.nat j, ws1[j]]) en1) (fun n l => Ev.lcR g1 Ev.tYes ma cl s1 en1 i1 m (j + 1) n l) M9.n l8).ba F = .ok rs8 n' l' := by
              have hh5 : lcTurn g1 Ev.tYes ma cl s1 (Bool.rec (motive := fun _ => Ev.W) ws1[j] (.tup [.nat j, ws1[j]]) en1) (fun n l => Ev.lcR g1 Ev.tYes ma cl s1 en1 i1 m (j + 1) n l) M9.n l8 = .ok xs na la := hh3
              rw [hh5]
              exact ha2
            refine lc_turn2 (nxt := fun n l => Ev.lcR g1 Ev.tYes ma cl s1 en1 i1 m (j + 1) n l) (s := s1) hFc htg1 r1 hD hl r9 (x8.trans x9) (z8.trans x9.toExt0) (x9.hold D e8).1 ((x9.hold D e8).2.trans h8) (RVs.mono x9 _ _ d8) ?_ hh4 t8 rv9
            exact ⟨sl2.len, fun i w hw => (sl2.at_ i w hw).imp id fun ⟨u, q1, q2⟩ => ⟨u, q1, RV.mono0 ((((x6.trans x7).toExt0.trans z8)).trans x9.toExt0) _ _ q2⟩⟩
          · rw [List.drop_eq_nil_of_le (by omega)] at hh3
            cases hh3
            exact .inl ⟨(jok1 j M8 l8 ws1 r8 z8 hh1).2 (by omega), M8, l8, dn8, rs8, acc8, rfl, r8, x8, x8.toExt0, e8, h8, d8, hF0 _ _ _ _ _ ha2, t8⟩
    · have e : i = ws.length := by omega
      subst e
      have hL2 := hL
      obtain ⟨M2, l2, _, _, _, rfl, r2, x2, _⟩ := hL2
      refine .inl ⟨(jok _ M2 l2 r2 x2.toExt0).2 rfl, lc_stop (nxt := fun n l => Ev.lc2L g (Ev.lcG src1 g1 Ev.tYes ma) v cl s (ws.drop ws.length) n l) r1 hD (fun n l rs n' l' z => ?_) hL fin⟩
      rw [List.drop_length] at z
      cases z
      exact ⟨rfl, rfl, rfl⟩
theorem ce_lc2 {elt iter tg1 iter1 : Expr} {scope : Scope} {own : List (Str × Nat)} {src src1 : Ev.G} {g g1 : List Ev.W → Ev.W → (List Ev.W → Ra) → Ra} {gt gt1 : TG} {us : List Nat} {v : Nat} (hc : X.calm = true) (hN : X.N.Nodup) (htg : TgOk c Ra.err g gt us) (htg1 : TgOk c Ra.err g1 gt1 [v]) (hown : own.map (·.2) = us ++ [v]) (hi : PI X tg iter (tG c cl src)) (ok : BlkOk X.N X.env.scope scope own)
    (hg : ∀ (s : Shared) (H : Hp) (C : Addr) (cl : List (Str × Addr)) (fp : List Addr), PG (X.blk s H scope (compEnvC scope cl C X.env) fp) tg gt)
    (hi1 : ∀ (s : Shared) (H : Hp) (C : Addr) (cl2 : List (Str × Addr)) (fp : List Addr), PI (X.blk s H scope (compEnvC scope cl2 C X.env) fp) tg1 iter1 (tG c cl src1))
    (hg1 : ∀ (s : Shared) (H : Hp) (C : Addr) (cl : List (Str × Addr)) (fp : List Addr), PG (X.blk s H scope (compEnvC scope cl C X.env) fp) tg1 gt1)
    (he : ∀ (s : Shared) (H : Hp) (C : Addr) (cl2 : List (Str × Addr)) (fp : List Addr), PE (X.blk s H scope (compEnvC scope cl2 C X.env) fp) elt (tM c cl ma)) (hs : ∀ x, foldedSetIterable iter X.env x = pure x := by intro _; rfl) (hs1 : ∀ env x, foldedSetIterable iter1 env x = pure x := by intro _ _; rfl) :
    PE X (.ListComp elt [⟨tg, iter, [], 0⟩, ⟨tg1, iter1, [], 0⟩] scope pos) (tM c cl (Ev.eLc2 src g src1 g1 v ma)) := by
  have hv : ∀ i ∈ [v], i ∈ own.map (·.2) := fun i hi => by
    rw [hown]
    exact List.mem_append_right _ hi
  refine pe_imp (pe_lc2 hc hN hi ok hv hg (fun s H C cl2 fp => cts_nil (c := c) (cl := cl)) hi1 hg1 (fun s H C cl2 fp => cts_nil (c := c) (cl := cl)) he hs hs1) fun σ H Q h => ?_
  rw [hown]
  exact lc2_lemma htg htg1 h
theorem cs_setLc2 {elt iter tg1 iter1 : Expr} {scope : Scope} {own : List (Str × Nat)} {src src1 : Ev.G} {g g1 : List Ev.W → Ev.W → (List Ev.W → Ra) → Ra} {gt gt1 : TG} {us : List Nat} {v : Nat} {i : Nat} {y : Str} {py spos : Pos} (hc : X.calm = true) (hN : X.N.Nodup) (hy : X.N[i]? = some y) (hyl : X.env.scope.names.lookup y = some .local)
    (hsw : swapsWith (.ListComp elt [⟨tg, iter, [], 0⟩, ⟨tg1, iter1, [], 0⟩] scope pos) (some (.Name y py)) spos.line X.env = pure true) (htg : TgOk c Ra.err g gt us) (htg1 : TgOk c Ra.err g1 gt1 [v]) (hown : own.map (·.2) = us ++ [v]) (hi : PI X tg iter (tG c cl src)) (ok : BlkOk X.N X.env.scope scope own)
    (hg : ∀ (s : Shared) (H : Hp) (C : Addr) (cl : List (Str × Addr)) (fp : List Addr), PG (X.blk s H scope (compEnvC scope cl C X.env) fp) tg gt)
    (hi1 : ∀ (s : Shared) (H : Hp) (C : Addr) (cl2 : List (Str × Addr)) (fp : List Addr), PI (X.blk s H scope (compEnvC scope cl2 C X.env) fp) tg1 iter1 (tG c cl src1))
    (hg1 : ∀ (s : Shared) (H : Hp) (C : Addr) (cl : List (Str × Addr)) (fp : List Addr), PG (X.blk s H scope (compEnvC scope cl C X.env) fp) tg1 gt1)
    (he : ∀ (s : Shared) (H : Hp) (C : Addr) (cl2 : List (Str × Addr)) (fp : List Addr), PE (X.blk s H scope (compEnvC scope cl2 C X.env) fp) elt (tM c cl ma)) (hs : ∀ x, foldedSetIterable iter X.env x = pure x := by intro _; rfl) (hs1 : ∀ env x, foldedSetIterable iter1 env x = pure x := by intro _ _; rfl) :
    PS X (.Assign [.Name y py] (.ListComp elt [⟨tg, iter, [], 0⟩, ⟨tg1, iter1, [], 0⟩] scope pos) spos) (tS c cl (Ev.sAsg (fun s w => Ev.g1 i So.err w s) (Ev.eLc2 src g src1 g1 v ma))) := by
  have hv : ∀ i ∈ [v], i ∈ own.map (·.2) := fun i hi => by
    rw [hown]
    exact List.mem_append_right _ hi
  refine ps_imp (ps_setLc2 hc hN hy hyl hsw hi ok hv hg (fun s H C cl2 fp => cts_nil (c := c) (cl := cl)) hi1 hg1 (fun s H C cl2 fp => cts_nil (c := c) (cl := cl)) he hs hs1) fun D σ H h => ?_
  have h2 := asg_lemma (Sd.tg1 i) h
  show tLc2 _ _ _ _ _ _ _ _ _ σ H _
  rw [hown]
  exact lc2_lemma htg htg1 h2
end
end Sd
end

section
set_option Elab.async false
set_option linter.all false
set_option maxRecDepth 100000
/-! Sd14: dict comprehensions. -/
namespace Sd
open PySem PySem.Spec PyProof.Rows L2
open Ev (Hl Rs Rb Ra So Sr CallT)
/-- keys and values in turn -/
def fl : List Ev.W → List Ev.W → List Ev.W
  | k :: ks, v :: vs => k :: v :: fl ks vs
  | _, _ => []
theorem evens_fl (rs : List Ev.W) : ∀ (ks vs : List Ev.W), ks.length = vs.length → Ev.evens (fl ks vs ++ rs) = ks ++ Ev.evens rs
  | [], [], _ => rfl
  | [], _ :: _, h => by cases h
  | _ :: _, [], h => by cases h
  | k :: ks, v :: vs, h => by
    show k :: Ev.evens (fl ks vs ++ rs) = k :: (ks ++ Ev.evens rs)
    rw [evens_fl rs ks vs (Nat.succ.inj h)]
theorem odds_fl (rs : List Ev.W) : ∀ (ks vs : List Ev.W), ks.length = vs.length → Ev.odds (fl ks vs ++ rs) = vs ++ Ev.odds rs
  | [], [], _ => rfl
  | [], _ :: _, h => by cases h
  | _ :: _, [], h => by cases h
  | k :: ks, v :: vs, h => by
    show v :: Ev.odds (fl ks vs ++ rs) = v :: (vs ++ Ev.odds rs)
    rw [odds_fl rs ks vs (Nat.succ.inj h)]
theorem fl_snoc (k v : Ev.W) (rs : List Ev.W) : ∀ (ks vs : List Ev.W), ks.length = vs.length → fl (ks ++ [k]) (vs ++ [v]) ++ rs = fl ks vs ++ (k :: v :: rs)
  | [], [], _ => rfl
  | [], _ :: _, h => by cases h
  | _ :: _, [], h => by cases h
  | k2 :: ks, v2 :: vs, h => by
    show k2 :: v2 :: (fl (ks ++ [k]) (vs ++ [v]) ++ rs) = k2 :: v2 :: (fl ks vs ++ (k :: v :: rs))
    rw [fl_snoc k v rs ks vs (Nat.succ.inj h)]
theorem fl_len : ∀ (ks vs : List Ev.W), ks.length = vs.length → (fl ks vs).length = 2 * ks.length
  | [], [], _ => rfl
  | [], _ :: _, h => by cases h
  | _ :: _, [], h => by cases h
  | k :: ks, v :: vs, h => by
    show (fl ks vs).length + 1 + 1 = 2 * (ks.length + 1)
    rw [fl_len ks vs (Nat.succ.inj h)]
    omega
section
variable {κ : Type} [DecidableEq κ] {ko : Ev.W → Option κ}
theorem mem_mid (kr : KeyR κ ko) {x : Ev.W} {k : κ} (hx : ko x = some k) (b : List Ev.W) : ∀ a : List Ev.W, Ev.mem x (a ++ x :: b) = true
  | [] => by
    show Bool.rec (motive := fun _ => Bool) (Ev.mem x b) true (Ev.keq x x) = true
    rw [kr.refl hx]
  | y :: a => by
    show Bool.rec (motive := fun _ => Bool) (Ev.mem x (a ++ x :: b)) true (Ev.keq x y) = true
    rw [mem_mid kr hx b a]
    cases Ev.keq x y <;> rfl
theorem nodup_mid (kr : KeyR κ ko) {x : Ev.W} {k : κ} (hx : ko x = some k) (b : List Ev.W) : ∀ a : List Ev.W, Ev.nodup (a ++ x :: b) = true → Ev.mem x a = false
  | [], _ => rfl
  | y :: a, h => by
    obtain ⟨h1, h2⟩ := ite_ne' (show Bool.rec (motive := fun _ => Bool) (Ev.nodup (a ++ x :: b)) false (Ev.mem y (a ++ x :: b)) = true from h) (fun z => nomatch z)
    show Bool.rec (motive := fun _ => Bool) (Ev.mem x a) true (Ev.keq x y) = false
    cases q : Ev.keq x y with
    | false => exact nodup_mid kr hx b a h2
    | true =>
      have e := keq_eq x y q
      subst e
      rw [mem_mid kr hx b a] at h1
      cases h1
theorem allKey_mid {t : Bool} {x : Ev.W} (b : List Ev.W) : ∀ a : List Ev.W, Ev.allKey t (a ++ x :: b) = true → Ev.isKey t x = true
  | [], h => (ite_ne (show Bool.rec (motive := fun _ => Bool) false (Ev.allKey t b) (Ev.isKey t x) = true from h) (fun z => nomatch z)).1
  | y :: a, h => allKey_mid b a (ite_ne (show Bool.rec (motive := fun _ => Bool) false (Ev.allKey t (a ++ x :: b)) (Ev.isKey t y) = true from h) (fun z => nomatch z)).2
end
section
variable {X : Cx} {c : Cn} {cl : CallT} {σ : L2.St} {H : Hp} {tg a b d o : Expr} {mk mv : Ev.D} {pos p pos2 : Pos} {M M1 : Ms} {l l1 : Hl} {D : Addr} {κ : Type} [DecidableEq κ] {ko : Ev.W → Option κ} {U : List (κ × V) → HO}
/-- where a dict comprehension stands -/
def DcAt (c : Cn) (ko : Ev.W → Option κ) (U : List (κ × V) → HO) (M1 : Ms) (D : Addr) (tot : List Ev.W) (n' : Nat) (l' : Hl) (nxt : Nat → Hl → Ra) (H : Hp) : Prop :=
  ∃ (M : Ms) (l : Hl) (ks vs rs : List Ev.W) (kvs : List (κ × V)), M.H = H ∧ Rep c M l ∧ Ext M1 M ∧ M.E D ∧ M.H D = some (U kvs) ∧ ks.map ko = kvs.map (fun p => some p.1) ∧ RVs c M vs (kvs.map (·.2)) ∧ nxt M.n l = .ok rs n' l' ∧ fl ks vs ++ rs = tot
theorem dc_lens {ks vs : List Ev.W} {kvs : List (κ × V)} (h1 : ks.map ko = kvs.map (fun p => some p.1)) (h2 : RVs c M vs (kvs.map (·.2))) : ks.length = vs.length := by
  rw [map_len h1, h2.length, List.length_map]
noncomputable def dcTurn (g : List Ev.W → Ev.W → (List Ev.W → Ra) → Ra) (kx vx : Ev.D) (cl : CallT) (s : List Ev.W) (w : Ev.W) (nxt : Nat → Hl → Ra) (n : Nat) (l : Hl) : Ra :=
  g s w fun s1 => (kx cl s1 n l).ba fun k n1 l1 => (vx cl s1 n1 l1).ba fun x n2 l2 => (nxt n2 l2).ba fun r n3 l3 => .ok (k :: x :: r) n3 l3
theorem dc_turn (kr : KeyR κ ko) (hU : ∀ kvs xs, U kvs ≠ .tup xs) {t : Bool} (hko : ∀ (M : Ms) (x : Ev.W) (v : V), Ev.isKey t x = true → RV c M x v → ∃ k, ko x = some k)
    {g : List Ev.W → Ev.W → (List Ev.W → Ra) → Ra} {gt : TG} {us : List Nat} {nxt : Nat → Hl → Ra} {s : List Ev.W} {tot rs ks vs : List Ev.W} {n' : Nat} {l' : Hl} {kvs : List (κ × V)} {w : Ev.W} {x : V}
    (htg : TgOk c Ra.err g gt us) (r1 : Rep c M1 l1) (hD : M1.H D = none) (htot : tot.length ≤ 100000) (hnd : Ev.nodup (Ev.evens tot) = true) (hak : Ev.allKey t (Ev.evens tot) = true) (r : Rep c M l) (xx : Ext M1 M) (e : M.E D) (hacc : M.H D = some (U kvs)) (hks : ks.map ko = kvs.map (fun p => some p.1)) (hvs : RVs c M vs (kvs.map (·.2))) (sl : Sl c M s σ)
    (hrun : dcTurn g mk mv cl s w nxt M.n l = .ok rs n' l') (htt : fl ks vs ++ rs = tot) (rw' : RV c M w x) {K : V → V → Hp → Prop}
    (hK : ∀ (M5 : Ms) (wk : Ev.W) (y z : V) (kvs : List (κ × V)) (k : κ), RV c M5 wk y → Ev.isKey t wk = true → ko wk = some k → M5.H D = some (U kvs) → kvs.length < sizeLine → DcAt c ko U M1 D tot n' l' nxt (upd M5.H D (U (putK kvs k z))) → K y z M5.H) :
    gt x (wipe σ us) M.H fun σ2 H2 => wipe σ2 us = wipe σ us ∧ tT c cl Ev.tYes σ2 H2 fun b H3 =>
      if b = true then tM c cl mk σ2 H3 fun y H4 => tM c cl mv σ2 H4 fun z H5 => K y z H5 else DcAt c ko U M1 D tot n' l' nxt H3 := by
  have hrun' : g (unset s us) w (fun s1 => (mk cl s1 M.n l).ba fun k n1 l1 => (mv cl s1 n1 l1).ba fun x n2 l2 => (nxt n2 l2).ba fun r n3 l3 => .ok (k :: x :: r) n3 l3) = .ok rs n' l' := by
    rw [htg.2]
    exact hrun
  obtain ⟨s1, e1, q⟩ := htg.1 _ w _ _ hrun' Ra.ne
  refine q M (wipe σ us) x _ (sl.unset us) rw' fun σ2 hw sl2 => ⟨by rw [hw, wipe_wipe], ?_⟩
  refine tT.mk (w := true) r sl2 rfl fun M3 en3 r3 x3 => ?_
  rw [if_pos rfl]
  rw [← en3] at e1
  obtain ⟨wk, n4, l4, e4, e5⟩ := Rs.ba_ok e1
  obtain ⟨wv, n6, l6, e6, e7⟩ := Rs.ba_ok e5
  obtain ⟨rs2, n8, l8, e8, e9⟩ := Ra.ba_ok e7
  cases e9
  refine tM.mk r3 (sl2.mono x3) e4 fun M4 y en4 r4 x4 ry => tM.mk r4 (sl2.mono (x3.trans x4)) (by rw [en4]; exact e6) fun M5 z en5 r5 x5 rz => ?_
  subst en5
  have hll := dc_lens hks hvs
  have hev : Ev.evens tot = ks ++ wk :: Ev.evens rs2 := by
    rw [← htt, evens_fl _ ks vs hll]
    rfl
  rw [hev] at hnd hak
  have hkey := allKey_mid _ _ hak
  have ry5 := RV.mono x5 _ _ ry
  obtain ⟨k, hk⟩ := hko M5 wk y hkey ry5
  have hmem := nodup_mid kr hk _ _ hnd
  have hnone : valV kvs k = none := by
    have := mem_ok kr hk hks
    rw [hmem] at this
    cases q : valV kvs k with
    | none => rfl
    | some _ => rw [q] at this; cases this
  have x345 := (x3.trans x4).trans x5
  have e5' := (x345.hold D e).1
  have h5' : M5.H D = some (U kvs) := (x345.hold D e).2.trans hacc
  refine hK M5 wk y z kvs k ry5 hkey hk h5' ?_ ?_
  · rw [← map_len hks]
    have h1 : (fl ks vs ++ (wk :: wv :: rs2)).length = tot.length := by rw [htt]
    rw [List.length_append, fl_len ks vs hll] at h1
    exact line_of (by omega)
  · obtain ⟨r9, x9⟩ := r5.eWrite (u := U (putK kvs k z)) e5' (hU _)
    refine ⟨{ M5 with H := upd M5.H D (U (putK kvs k z)) }, l6, ks ++ [wk], vs ++ [wv], rs2, putK kvs k z, rfl, r9, ext_eWrite r1 hD (xx.trans x345), e5', upd_same, ?_, ?_, e8, by rw [fl_snoc _ _ _ _ _ hll]; exact htt⟩
    · rw [putK_new z hnone, List.map_append, List.map_append, hks]
      show _ ++ [ko wk] = _
      rw [hk]
      rfl
    · have hp : (putK kvs k z).map (·.2) = kvs.map (·.2) ++ [z] := by rw [putK_new z hnone, List.map_append]; rfl
      rw [hp]
      exact RVs.mono0 x9 _ _ (rvs_snoc (RVs.mono x345 _ _ hvs) rz)
theorem dc_start {nxt : Nat → Hl → Ra} {tot : List Ev.W} {n' : Nat} {l' : Hl} (hU : ∀ xs, U [] ≠ .tup xs) (r1 : Rep c M1 l1) (hD : M1.H D = none) (h : nxt M1.n l1 = .ok tot n' l') : DcAt c ko U M1 D tot n' l' nxt (upd M1.H D (U [])) := by
  obtain ⟨r2, x2⟩ := r1.make (u := U []) hD hU
  exact ⟨M1.make D (U []), l1, [], [], tot, [], rfl, r2, x2, .inr rfl, upd_same, rfl, rfl, h, rfl⟩
theorem dc_stop {Q : VK} {nxt : Nat → Hl → Ra} {tot : List Ev.W} {n' : Nat} {l' : Hl} {W : Ev.W} (hW : ∀ (M : Ms) (kvs : List (κ × V)) (ks vs : List Ev.W), Ev.evens tot = ks → Ev.odds tot = vs → ¬ M.P D → M.H D = some (U kvs) → ks.map ko = kvs.map (fun p => some p.1) → RVs c M vs (kvs.map (·.2)) → RV c M W (.ref D))
    (r1 : Rep c M1 l1) (hD : M1.H D = none) (hnx : ∀ n l rs n' l', nxt n l = .ok rs n' l' → rs = [] ∧ n' = n ∧ l' = l) (h : DcAt c ko U M1 D tot n' l' nxt H)
    (k : ∀ (M' : Ms) (v : V), M'.n = n' → Rep c M' l' → Ext M1 M' → RV c M' W v → Q v M'.H) : Q (.ref D) H := by
  obtain ⟨M, l, ks, vs, rs, kvs, rfl, r, x, e, hacc, hks, hvs, e1, htt⟩ := h
  obtain ⟨rfl, rfl, rfl⟩ := hnx _ _ _ _ _ e1
  have hll := dc_lens hks hvs
  obtain ⟨r2, x2, x3⟩ := r.done e r1 hD x
  have h1 : Ev.evens tot = ks := by rw [← htt, evens_fl _ ks vs hll]; exact List.append_nil ks
  have h2 : Ev.odds tot = vs := by rw [← htt, odds_fl _ ks vs hll]; exact List.append_nil vs
  exact k (M.done D) _ rfl r2 x2 (hW (M.done D) kvs ks vs h1 h2 (fun z => z.2 rfl) hacc hks (RVs.mono0 x3 _ _ hvs))
/-- keys ints or texts -/
theorem dcK_lemma {Q : VK} {src : Ev.G} {g : List Ev.W → Ev.W → (List Ev.W → Ra) → Ra} {gt : TG} {us : List Nat} (htg : TgOk c Ra.err g gt us) (h : tM c cl (Ev.eDc false src g mk mv) σ H Q) : tDc (tG c cl src) gt (tT c cl Ev.tYes) (tM c cl mk) (tM c cl mv) us σ H Q := by
  obtain ⟨M, l, s, eH, r, sl, w, n', l', ev, k⟩ := h
  subst eH
  obtain ⟨tot, n2, l2, e1, e2⟩ := Ra.b_ok ev
  obtain ⟨hl, e3⟩ := few_ne e2 Rs.ne
  obtain ⟨hak, e4⟩ := ite_ne e3 Rs.ne
  obtain ⟨hnd, e5⟩ := ite_ne e4 Rs.ne
  cases e5
  have e1' : Sr.rec (motive := fun _ => Ra) .err (fun ws n1 l1 => Ev.dcL g mk mv cl s ws n1 l1) (fun _ _ _ _ => .err) (src cl s M.n l) = .ok tot n' l' := e1
  refine ⟨M, l, s, rfl, r, sl, (fun z => by rw [z] at e1'; cases e1'), fun M1 J at1 x1 jok D hD => ?_⟩
  have fin : ∀ (M' : Ms) (v : V), M'.n = n' → Rep c M' l' → Ext M1 M' → RV c M' (.dct false (Ev.evens tot) (Ev.odds tot)) v → Q v M'.H := fun M' v h1 h2 h3 h4 => k M' v h1 h2 (x1.trans h3) h4
  cases q : src cl s M.n l with
  | err => rw [q] at at1; exact at1.elim
  | ref en i0 n1 l1 => rw [q] at e1'; cases e1'
  | lst ws n1 l1 =>
    rw [q] at at1 jok e1'
    obtain ⟨en, r1⟩ := at1
    subst en
    refine ⟨fun i m H' => m = ws.length - i ∧ i ≤ ws.length ∧ DcAt c (keyOf c) HO.dK M1 D tot n' l' (fun n l => Ev.dcL g mk mv cl s (ws.drop i) n l) H', ⟨ws.length, by simp, Nat.zero_le _, dc_start (by intro xs z; cases z) r1 hD e1'⟩, ?_⟩
    rintro i m H' ⟨rfl, hi, hL⟩
    by_cases hlt : i < ws.length
    · obtain ⟨M2, l2, ks, vs, rs, kvs, rfl, r2, x2, e, hacc, hks, hvs, hn, htt⟩ := hL
      obtain ⟨go, yl⟩ := (jok i M2 l2 r2 x2.toExt0).1 ws[i] (by simp [hlt])
      refine .inr ⟨go, DcAt c (keyOf c) HO.dK M1 D tot n' l' (fun n l => Ev.dcL g mk mv cl s (ws.drop (i + 1)) n l), fun H' z => ⟨ws.length - (i + 1), by omega, rfl, hlt, z⟩, fun x H4 hy => ?_⟩
      obtain ⟨M5, rfl, n5, r5, x5, rv5⟩ := yl x H4 hy
      rw [List.drop_eq_getElem_cons hlt, ← n5] at hn
      refine dc_turn (t := false) (s := s) (w := ws[i]) (nxt := fun n l => Ev.dcL g mk mv cl s (ws.drop (i + 1)) n l) keyR (by intro kvs xs z; cases z) (fun M x v h1 h2 => let ⟨k, q1, _⟩ := isKey_F h1 h2; ⟨k, q1⟩) htg r1 hD hl hnd hak r5 (x2.trans x5) (x5.hold D e).1 ((x5.hold D e).2.trans hacc) hks (RVs.mono x5 _ _ hvs) (sl.mono ((x1.trans x2).trans x5)) hn htt rv5 ?_
      exact fun M6 wk y z kvs k g1 g2 g3 g4 g5 g6 => ⟨kvs, k, keyV g3 g1, g4, g5, g6⟩
    · have e : i = ws.length := by omega
      subst e
      have hL2 := hL
      obtain ⟨M2, l2, _, _, _, _, rfl, r2, x2, _⟩ := hL2
      refine .inl ⟨(jok _ M2 l2 r2 x2.toExt0).2 rfl, dc_stop (nxt := fun n l => Ev.dcL g mk mv cl s (ws.drop ws.length) n l) (fun M kvs ks vs h1 h2 h3 h4 h5 h6 => ?_) r1 hD (fun n l rs n' l' z => ?_) hL fin⟩
      · rw [h1, h2]
        exact ⟨D, rfl, h3, kvs, .inl h4, h5, h6⟩
      · rw [List.drop_length] at z
        cases z
        exact ⟨rfl, rfl, rfl⟩
theorem ce_dcK {kx vx iter : Expr} {scope : Scope} {own : List (Str × Nat)} {src : Ev.G} {g : List Ev.W → Ev.W → (List Ev.W → Ra) → Ra} {gt : TG} (hc : X.calm = true) (hN : X.N.Nodup) (htg : TgOk c Ra.err g gt (own.map (·.2))) (hi : PI X tg iter (tG c cl src)) (ok : BlkOk X.N X.env.scope scope own)
    (hg : ∀ (s : Shared) (H : Hp) (C : Addr) (cl : List (Str × Addr)) (fp : List Addr), PG (X.blk s H scope (compEnvC scope cl C X.env) fp) tg gt)
    (hk : ∀ (s : Shared) (H : Hp) (C : Addr) (cl2 : List (Str × Addr)) (fp : List Addr), PE (X.blk s H scope (compEnvC scope cl2 C X.env) fp) kx (tM c cl mk))
    (he : ∀ (s : Shared) (H : Hp) (C : Addr) (cl2 : List (Str × Addr)) (fp : List Addr), PE (X.blk s H scope (compEnvC scope cl2 C X.env) fp) vx (tM c cl mv)) (hs : ∀ x, foldedSetIterable iter X.env x = pure x := by intro _; rfl) :
    PE X (.DictComp kx vx [⟨tg, iter, [], 0⟩] scope pos) (tM c cl (Ev.eDc false src g mk mv)) := pe_imp (pe_dc hc hN hi ok hg (fun s H C cl2 fp => cts_nil (c := c) (cl := cl)) hk he hs) fun σ H Q h => dcK_lemma htg h
end
end Sd
end

section
set_option Elab.async false
set_option linter.all false
set_option maxRecDepth 100000
/-! Sd15: a def of the program is what the machine's def says. -/
namespace Sd
open PySem PySem.Spec PyProof.Rows L2
open Ev (Hl Rs Rb Ra So Sr CallT)
section
variable {g : Gb} {x qual : Str} {params : Arguments} {body : List Stmt} {scope : Scope} {f : Addr} {fd : FuncData} {N ps : List Str} {fns : Nat → Ev.Fn} {i m k : Nat} {b : Ev.S} {pad : List Ev.W}
theorem sl_pad {c : Cn} {M : Ms} {j : Nat} : ∀ (ws : List Ev.W) (vs : List V), RVs c M ws vs → Sl c M (Ev.app ws (List.replicate j .un)) (vs.map some ++ List.replicate j none)
  | [], vs, h => by
    rw [show vs = [] from h]
    refine ⟨?_, fun i w e => ?_⟩
    · show (List.replicate j Ev.W.un).length = _
      simp
    · have e : (List.replicate j Ev.W.un)[i]? = some w := e
      rw [List.getElem?_replicate] at e
      split at e
      · cases e; exact .inl rfl
      · cases e
  | w :: ws, _, ⟨v, q, rfl, h1, h2⟩ => by
    have ih := sl_pad (j := j) ws q h2
    refine ⟨?_, fun i u e => ?_⟩
    · show (Ev.app ws (List.replicate j .un)).length + 1 = (q.map some ++ List.replicate j none).length + 1
      rw [ih.len]
    · cases i with
      | zero =>
        have e : some w = some u := e
        cases e
        exact .inr ⟨v, rfl, h1⟩
      | succ i => exact ih.at_ i u e
/-- the machine's slots at a def's entry -/
theorem sl_start {c : Cn} {M : Ms} {ws : List Ev.W} {vs : List V} {j : Nat} (h : RVs c M ws vs) (hN : N.length = vs.length + j) : Sl c M (Ev.app ws (List.replicate j .un)) (L2.start N vs) := by
  have := sl_pad (j := j) ws vs h
  unfold L2.start
  rw [show N.length - vs.length = j by omega]
  exact this
theorem def_ok {np j : Nat} (F : FunD g.c.K x qual params body scope [] [] f fd) (S : FnScope N ps scope) (hps : ps.length = np) (hN : N.length = np + j) (hfn : fns i = .fn (List.replicate j .un) m b)
    (hbody : ∀ (X : Cx), Ctx g X N scope (fun _ => true) k → X.env.scope = scope → PassesOwn (model X.prog X.w) X.A X.env X.xe → PSs X body (tS g.c (Ev.run fns k) b)) : FnOk g.P g.w g.c.K g.mg g.base CX0 (k + 3) f fd ps (spM g.c np (Ev.run fns (k + 1) i)) := by
  refine F.ok S (fun vs H Q E h => h.1.trans hps.symm) fun cdv A outer s H vs Q E hr hsp => ?_
  obtain ⟨hl, M, l, ws, rfl, r, hws, w, n', l', e, kk⟩ := hsp
  refine ⟨_, PSs.nox (hbody _ ⟨rfl, rfl, rfl, rfl, rfl, S.nd, rfl, rfl, rfl, rfl, hr⟩ rfl PassesOwn.never), ?_⟩
  have e1 : Ev.Fn.rec (motive := fun _ => Rs) (fun pad mode b => So.rec (motive := fun _ => Rs) .err (fun _ n1 l1 => Ev.handed mode M.n .non n1 l1) (fun w n1 l1 => Ev.handed mode M.n w n1 l1) (fun _ _ _ => .err) (fun _ _ _ => .err) (b (Ev.run fns k) (Ev.app ws pad) M.n l))
    (fun c init pre frz => (Bool.rec (motive := fun _ => Ev.Fzs) (.ok ws l) (Ev.fzs (Ev.fz 8) ws l) pre).b .err fun ws l =>
      (Ev.run fns k init (.ref M.n :: ws) (Nat.add M.n 1) (.cons M.n (.ins c [] []) l)).b fun v n1 l1 => Bool.rec (motive := fun _ => Rs) .err (Bool.rec (motive := fun _ => Rs) (.ok (.ref M.n) n1 l1) ((Ev.fz 8 (.ref M.n) l1).b .err fun x l2 => .ok x n1 l2) frz) (Ev.isNon v))
    (fns i) = .ok w n' l' := e
  rw [hfn] at e1
  have e2 : So.rec (motive := fun _ => Rs) .err (fun _ n1 l1 => Ev.handed m M.n .non n1 l1) (fun w n1 l1 => Ev.handed m M.n w n1 l1) (fun _ _ _ => .err) (fun _ _ _ => .err) (b (Ev.run fns k) (Ev.app ws (List.replicate j .un)) M.n l) = .ok w n' l' := e1
  refine ⟨M, l, _, rfl, r, sl_start (N := N) hws (by rw [hl]; exact hN), ?_⟩
  cases q : b (Ev.run fns k) (Ev.app ws (List.replicate j .un)) M.n l with
  | err => rw [q] at e2; cases e2
  | bk _ _ _ => rw [q] at e2; cases e2
  | ct _ _ _ => rw [q] at e2; cases e2
  | nx s1 n1 l1 =>
    rw [q] at e2
    intro M1 σ1 hn r1 x1 sl1
    obtain ⟨M2, h1, h2, h3, h4, h5⟩ := handed_ok (c := g.c) (v := .non) e2 hn r1 rfl
    have := kk M2 _ h2 h3 (x1.trans h4) h5
    rw [h1] at this
    exact this
  | rt w1 n1 l1 =>
    rw [q] at e2
    intro M1 v hn r1 x1 rv
    obtain ⟨M2, h1, h2, h3, h4, h5⟩ := handed_ok (c := g.c) e2 hn r1 rv
    have := kk M2 _ h2 h3 (x1.trans h4) h5
    rw [h1] at this
    exact this
/-- at the bottom nothing is promised -/
theorem def_none {np : Nat} (F : FunD g.c.K x qual params body scope [] [] f fd) (S : FnScope N ps scope) (hps : ps.length = np) : FnOk g.P g.w g.c.K g.mg g.base CX0 2 f fd ps (spM g.c np (Ev.run fns 0 i)) := by
  refine F.ok (k := 1) S (fun vs H Q E h => h.1.trans hps.symm) fun cdv A outer s H vs Q E hr hsp => ?_
  obtain ⟨hl, M, l, ws, rfl, r, hws, w, n', l', e, kk⟩ := hsp
  cases e
/-- the context of a comprehension's block -/
theorem Ctx.blk {X : Cx} {sc : Scope} {Fn : Str → Bool} (C : Ctx g X N sc Fn k) (s : Shared) (H : Hp) (bs : Scope) (cl : List (Str × Addr)) (A0 : Addr) (fp : List Addr) : Ctx g (X.blk s H bs (compEnvC bs cl A0 X.env) fp) N (relS bs sc) (fun x => bs.names.lookup x == some .cell) k :=
  ⟨C.pr, C.w, C.K, C.mg, C.base, C.nd, C.N, by show relS bs X.env.scope = _; rw [C.sc], rfl, C.calm, C.room⟩
end
end Sd
end

section
set_option Elab.async false
set_option linter.all false
set_option maxRecDepth 100000
/-! Sd16: enumerate of a list, of a tuple. -/
namespace PySem
open Sem (wp)
/-- enumerate(v) begins -/
theorem sd_enumNew {v : Value} {o : Obj} {Hh : Heap → Prop} (B : Begins v o Hh) :
    Meets (Builtin.«enumerate.__new__» ⟨[.type "enumerate", v], []⟩) (fun _ R s => Hh s.heap ∧
      R (.ok (.ret (.ref (s.heap.push o).objs.size))) { s with heap := (s.heap.push o).push { cls := .type "enumerate", data := .fields #[.none, .bool false, .ref s.heap.objs.size, rawInt 0, .none, .none] } }) :=
  .of_wp fun prog w A R s h => by
    obtain ⟨hp, gg, dd, tk, os⟩ := s
    obtain ⟨b1, b2⟩ := h
    have own := sub_enumerate
    have begun : ∀ {A' : Around} {E : Value → Shared → Prop} {Q : Value → Shared → Prop}, Q (.ref hp.objs.size) ⟨hp.push o, gg, dd, tk, os⟩ → wpAny (model prog w) A' (pyIter v) Q E ⟨hp, gg, dd, tk, os⟩ := fun q => B.iter prog w _ _ ⟨hp, gg, dd, tk, os⟩ _ b1 q
    wp_walk using begun
    refine wpAny_stack_any fun st => wpAny_pure ?_
    split
    · rename_i cc _ _ _ _ _
      cases (cc == Value.type "enumerate") <;> (wp_walk using begun; exact ⟨_, rfl, b2⟩)
    · wp_walk using begun
      exact ⟨_, rfl, b2⟩
end PySem
namespace Sd
open PySem PySem.Spec PyProof.Rows L2
open Ev (Hl Rs Rb Ra So Sr CallT)
theorem call_enumT {prog : Program} {w : World} {A : Around} {E : Value → Shared → Prop} {s : Shared} {a : Addr} {items : Array Value} {Q : Value → Shared → Prop} (ht : s.heap.IsTuple a items)
    (k : ∀ h', IsEnum h' (s.heap.objs.size + 1) s.heap.objs.size 0 .none → h'.IsTupleIter s.heap.objs.size a 0 → (∀ b o, s.heap.get? b = some o → h'.get? b = some o) → Q (.ref (s.heap.objs.size + 1)) { s with heap := h' }) :
    wpAny (model prog w) A (call (.type "enumerate") [.ref a]) Q E s := by
  refine callType_new PySem.F.called_enumerate (by decide) (PySem.F.typeCall_enumerate_1 _) (PySem.F.newCall_enumerate_1 _) (fun obj => PySem.F.args_object_init_2 obj _) PySem.F.entry_enumerate_new (sd_enumNew (begins_tuple a items)) ⟨ht, ?_⟩
  have hz : (s.heap.push { cls := .type "tuple_iterator", data := .fields #[.ref a, .int 0 0] }).objs.size = s.heap.objs.size + 1 := Heap.size_push ..
  have he : IsEnum ((s.heap.push { cls := .type "tuple_iterator", data := .fields #[.ref a, .int 0 0] }).push { cls := .type "enumerate", data := .fields #[.none, .bool false, .ref s.heap.objs.size, rawInt 0, .none, .none] }) (s.heap.objs.size + 1) s.heap.objs.size 0 .none := by
    have q := Heap.get?_push_size (s.heap.push { cls := .type "tuple_iterator", data := .fields #[.ref a, .int 0 0] }) (o := { cls := .type "enumerate", data := .fields #[.none, .bool false, .ref s.heap.objs.size, rawInt 0, .none, .none] }) rfl
    rw [hz] at q
    exact q
  show _ ∧ _
  rw [hz]
  exact ⟨⟨_, he, rfl⟩, k _ he ⟨_, Heap.get?_push_of_some _ (Heap.get?_push_size _ rfl), rfl, rfl⟩ fun b o e => Heap.get?_push_of_some _ (Heap.get?_push_of_some _ e)⟩
theorem turn_enumT {P : Program} {w : World} {K : PySem.W.Frag} {elts : List Expr} {kk : Nat} {tpos : Pos} (a en it : Addr) :
    Turn P w K (.Tuple elts kk tpos) (Itet K a) [en, it] en (fun i h => (∃ old, IsEnum h en it ((i : Nat) : Int) old) ∧ h.IsTupleIter it a i ∧ en ≠ it ∧ en ≠ a ∧ a ≠ it) where
  mem := List.mem_cons_self
  obj := fun i h st b hb => by
    obtain ⟨⟨old, he⟩, ⟨o, ho, hc, hd⟩, _⟩ := st
    rcases List.mem_cons.mp hb with rfl | hb
    · exact ⟨_, he, fun v q => nomatch q⟩
    · rw [List.mem_singleton.mp hb]
      exact ⟨o, ho, fun v q => by rw [hd] at q; cases q⟩
  keep := fun i h h' st k => by
    obtain ⟨⟨old, he⟩, hi, hr⟩ := st
    exact ⟨⟨old, k en List.mem_cons_self _ he⟩, hi.at fun o q => k it (List.mem_cons_of_mem _ List.mem_cons_self) o q, hr⟩
  item := by
    intro X hP hw hK hc i pins s σ H E I hf st hg
    subst hP hw hK
    obtain ⟨⟨old, he⟩, hit, n1, n2, n3⟩ := st
    obtain ⟨xs, x, hq, hx⟩ := hg
    obtain ⟨its, rv, tp, hz⟩ := I.tuple hq
    obtain ⟨u, hu, ru⟩ := rv.get hx
    have hel : en < s.heap.objs.size := Heap.lt_size he
    have hil : it < s.heap.objs.size := by obtain ⟨_, q, _⟩ := hit; exact Heap.lt_size q
    have hlt : i < its.toArray.size := by
      have := (List.getElem?_eq_some_iff.mp hu).1
      rw [List.size_toArray]
      exact this
    refine wpAny_pyNext_enum_itemD (Draws.tuple (A := X.A.in1) (I.ok.hd hc) it a n3 its.toArray) he ⟨hit, tp⟩ hlt n1 (by simp [n1, n2]) fun y h1 tk hy ho st1 hT hsz hk => ?_
    have hyu : u = y := by
      have : its[i]? = some y := by simpa using hy
      rw [hu] at this
      exact Option.some.inj this
    subst hyu
    refine ⟨_, rfl, wpAny_letOwnedTupleGo_enum (s := { s with heap := h1, toks := tk + 1 }) ho fun h2 he2 sb => ?_⟩
    have hT2 : h2.get? s.heap.objs.size = some { cls := .type "tuple", data := .seq #[.int i tk, u] } := (sb.2 _ (Nat.ne_of_gt hel)).trans hT
    have new : ObjOk X.prog X.w (upd H s.heap.objs.size (.tup [.int (i : Nat), x])) h2 s.heap.objs.size (.tup [.int (i : Nat), x]) :=
      ⟨by show 2 ≤ sizeLine; decide, [.int i tk, u], .cons ⟨_, rfl⟩ (.cons ru .nil), ⟨_, hT2, rfl, _, rfl⟩⟩
    have I1 : Inv X pins σ (upd H s.heap.objs.size (.tup [.int (i : Nat), x])) { s with heap := h2, toks := tk + 1 } :=
      I.turnedNew (ch := [en, it]) (fun b ob hb q => (sb.2 b (fun z => hb (by simp [z]))).trans (hk b ob (fun z => hb (by simp [z])) (fun z => hb (by simp [z])) q)) hf (Nat.le_refl _) new
    have e1 : ((i + 1 : Nat) : Int) = (i : Int) + 1 := by omega
    refine ⟨.ref s.heap.objs.size, _, I1, rfl, ⟨_, x, rfl, I.hok.fresh (Nat.le_refl _), rfl, fun ys hys => by rw [I.tuple_inj hys hq]; exact hx⟩, ⟨⟨u, by rw [e1]; exact he2⟩, st1.1.at fun o q => (sb.2 it (Ne.symm n1)).trans q, n1, n2, n3⟩, fun b hb => ?_⟩
    have hb' : b < s.heap.objs.size := by
      rcases List.mem_cons.mp hb with z | z
      · rw [z]; exact hel
      · rw [List.mem_singleton.mp z]; exact hil
    rw [upd_ne (Nat.ne_of_lt hb')]
    exact (hf b hb).1
  done := by
    intro X hP hw hK hc i pins s σ H E I hf st hg
    subst hP hw hK
    obtain ⟨⟨old, he⟩, hit, n1, n2, n3⟩ := st
    obtain ⟨xs, hq, hx⟩ := hg
    obtain ⟨its, rv, tp, hz⟩ := I.tuple hq
    obtain ⟨f0, f1, f2, f3, f4, f5⟩ := hf it (List.mem_cons_of_mem _ List.mem_cons_self)
    have hl := rv.length
    have hi : i = its.toArray.size := by rw [List.size_toArray, ← hl]; exact hx.symm
    refine wpAny_pyNext_enum_endD (Draws.tuple (A := X.A.in1) (I.ok.hd hc) it a n3 its.toArray) he (by rw [← hi]; exact ⟨hit, tp⟩) fun h' eb => ⟨rfl, I.turned (t' := s.toks) (fun b o hb q => eb b o hb q) f0 f1 f3 f4 f5⟩
  self := fun A i s Q E st h => by
    obtain ⟨⟨_, he⟩, _⟩ := st
    exact wpAny_pyIter_enum he h
def iEnumT (K : PySem.W.Frag) (ta : TA) : TI := fun σ H R => ta σ H fun vs H1 => ∃ a xs, vs = [.ref a] ∧ SqT K H1 a xs ∧ R (Itet K a) H1
section
variable {X : Cx} {c : Cn} {cl : CallT} {a : Expr} {ma : Ev.D} {elts : List Expr} {kk : Nat} {p pos tpos : Pos}
theorem pi_enumT {ta : TA} (hg : Gl X "enumerate") (hm : X.mg "enumerate" = none) (ha : PA X [a] ta) (hs : starEach [a] X.env = [(false, eval a X.env)] := by rfl) : PI X (.Tuple elts kk tpos) (.Call (.Name "enumerate" p) [a] [] pos) (iEnumT X.K ta) := by
  refine ⟨fun pins s σ H R I h => ?_⟩
  refine Call_ (ld_blt I hg hm boot_enumerate (PyProof.Rows.callWith_type1 (thn (ha.run pos pins s σ H _ I h) fun us s1 ⟨vs, H1, I1, r1, q, xs, ev, hq, hR⟩ => ?_) hs rfl))
  subst ev
  obtain ⟨u, rfl, ru⟩ := vals1 r1
  cases ru
  obtain ⟨its, rv, tp, hz⟩ := I1.tuple hq
  have hlt : q < s1.heap.objs.size := tp.lt
  refine call_enumT tp fun h2 he hit hk => wpAny_pyIter_enum he ?_
  have I2 : Inv X pins σ H1 { s1 with heap := h2 } := I1.kept (t' := s1.toks) hk
  refine ⟨s1.heap.objs.size + 1, [s1.heap.objs.size + 1, s1.heap.objs.size], _, _, H1, rfl, I2, turn_enumT q (s1.heap.objs.size + 1) s1.heap.objs.size, ⟨⟨.none, he⟩, hit, Nat.succ_ne_self _, Nat.ne_of_gt (Nat.lt_succ_of_lt hlt), Nat.ne_of_lt hlt⟩, fun b hb => ?_, hR⟩
  have hle : s1.heap.objs.size ≤ b := by
    rcases List.mem_cons.mp hb with z | z
    · rw [z]; exact Nat.le_add_right _ _
    · rw [List.mem_singleton.mp z]; exact Nat.le_refl _
  exact I1.fpOk hle (I1.hok.fresh hle)
theorem ci_enum (hK : X.K = c.K) (hg : Gl X "enumerate") (hm : X.mg "enumerate" = none) (ha : PA X [a] (tA c cl (Ev.aCons ma Ev.aNil))) (hs : starEach [a] X.env = [(false, eval a X.env)] := by rfl) :
    PI X (.Tuple elts kk tpos) (.Call (.Name "enumerate" p) [a] [] pos) (tG c cl (Ev.gEnum ma)) := by
  refine pi_imp (pi_two (pi_enum hg hm ha hs) (pi_enumT hg hm ha hs)) fun σ H R ⟨M, l, s, eH, r, sl, ne, k⟩ => ?_
  subst eH
  obtain ⟨x, n1, l1, e1, e2⟩ := Rs.bg_ok ne
  change Ev.gEnum ma cl s M.n l = _ at e2
  rw [e2] at ne k
  rw [hK]
  have e0 : Ev.aCons ma Ev.aNil cl s M.n l = .ok [x] n1 l1 := by
    show (ma cl s M.n l).ba _ = _
    rw [e1]
    rfl
  cases x with
  | tup ws => exact .inr (tA.mk r sl e0 fun M1 vs en r1 x1 rvs => by
      obtain ⟨v, q, rfl, ⟨d, xs, rfl, np, hH, hx⟩, rq⟩ := rvs
      rw [show q = [] from rq]
      exact ⟨d, xs, rfl, .inl (.inl hH), k M1 _ ⟨en, r1⟩ x1 (jok_ent (fun M' x => .inl (.inl (x.keep _ _ hH np).1)) hx)⟩)
  | wtup ws => exact .inr (tA.mk r sl e0 fun M1 vs en r1 x1 rvs => by
      obtain ⟨v, q, rfl, ⟨d, xs, rfl, hT, hx⟩, rq⟩ := rvs
      rw [show q = [] from rq]
      exact ⟨d, xs, rfl, hT.seq, k M1 _ ⟨en, r1⟩ x1 (jok_ent (fun M' x => (hT.keep x).seq) hx)⟩)
  | lst ws => exact .inl (tA.mk r sl e0 fun M1 vs en r1 x1 rvs => by
      obtain ⟨v, q, rfl, ⟨d, xs, rfl, np, hH, hx⟩, rq⟩ := rvs
      rw [show q = [] from rq]
      exact ⟨d, xs, rfl, .inl (.inl hH), k M1 _ ⟨en, r1⟩ x1 (jok_enl np hH hx)⟩)
  | ref i =>
    obtain ⟨ws, hw, e3⟩ := refL_ok ne
    change Ev.hget Sr.err (Ev.oLst Sr.err fun _ => .ref true i n1 l1) l1 i = _ at e3
    refine .inl (tA.mk r sl e0 fun M1 vs en r1 x1 rvs => ?_)
    obtain ⟨v, q, rfl, ⟨hi, rfl⟩, rq⟩ := rvs
    rw [show q = [] from rq]
    obtain ⟨xs, hxs⟩ := r1.hasL hw
    have k' : ∀ (M1 : Ms) (J : It), SrAt c M1 (Ev.hget Sr.err (Ev.oLst Sr.err fun _ => .ref true i n1 l1) l1 i) → Ext M M1 → JOk c M1 J (Ev.hget Sr.err (Ev.oLst Sr.err fun _ => .ref true i n1 l1) l1 i) → R J M1.H := k
    rw [e3] at k'
    exact ⟨_, xs, rfl, .inl (.inl hxs), k' M1 _ ⟨en, r1⟩ x1 (jok_enr hi)⟩
  | _ => exact absurd rfl ne
end
end Sd
end

section
set_option Elab.async false
set_option linter.all false
set_option maxRecDepth 100000
/-! Sd17: list(d.values()) of a dict whose keys are tuples. -/
namespace Sd
open PySem PySem.Spec PyProof.Rows L2
open Ev (Hl Rs Rb Ra So Sr CallT)
theorem kdl_valsRaw {prog : Program} {w : World} {r d : Addr} {ob : Obj} {es : Array DictEntry} {ep : Nat} (hrd : d ≠ r) (hdd : ob.data = .dict es ep) :
    PySem.W.KdlSrc prog w "dict_values" r d es.size (fun i v => ∃ e : DictEntry, es[i]? = some e ∧ v = e.val) (fun h => h.get? r = some (DSub.viewOb "dict_values" d) ∧ h.get? d = some ob) where
  type := fun s hm => ⟨_, hm.1, rfl⟩
  there := fun h hm => ⟨Heap.lt_size hm.1, Heap.lt_size hm.2⟩
  keep := fun h h' hm hk => ⟨hk r (.inl rfl) _ hm.1, hk d (.inr rfl) _ hm.2⟩
  notList := by decide
  notTuple := by decide
  hint := fun A E s Q hm hq => PySem.W.kdl_hint_values ⟨_, hm.1, rfl⟩ hq
  iter := fun A s hh hm => ⟨_, _, (fun E Q hq => DSub.iter_vals hm.1 hm.2 hdd hq), DSub.walksVal (I := s.heap.objs.size) hh (Nat.ne_of_lt (Heap.lt_size hm.2)) hdd (fun i e he => ⟨e, he, rfl⟩), ⟨Heap.get?_push_size _ rfl, Heap.get?_push_of_some _ hm.2⟩⟩
def rValsT : V → Hp → VK → Prop := fun x H Q => ∃ d kvs, x = .ref d ∧ H d = some (.dT kvs) ∧ ∀ p, H p = none → Q (.ref p) (upd H p (.lst (kvs.map (·.2))))
section
variable {X : Cx} {c : Cn} {cl : CallT} {σ : L2.St} {H : Hp} {e a : Expr} {te : TE} {ma : Ev.D} {p apos cpos pos : Pos}
theorem pe_listVals (hc : X.calm = true) (he : PE X e te) (hg : Gl X "list") (hm : X.mg "list" = none) (hv : bootBuiltins "list" = some (.type "list")) (hbase : attributeBase e "values" X.env (eval e X.env) = eval e X.env := by rfl) (hline : (apos.endLine == cpos.line) = true := by rfl)
    (hs : starEach [.Call (.Attribute e "values" apos) [] [] cpos] X.env = (false, eval (.Call (.Attribute e "values" apos) [] [] cpos) X.env) :: starEach [] X.env := by rfl) :
    PE X (.Call (.Name "list" p) [.Call (.Attribute e "values" apos) [] [] cpos] [] pos) (fun σ H Q => te σ H fun x H1 => rValsT x H1 Q) := ⟨fun pins s σ H Q I hq => by
  refine wpAny_Call_Name_kw (ld_blt I hg hm hv (PyProof.Rows.callWith_type1 ?_ hs rfl))
  rw [hs]
  show wpAny _ _ (spliced ((false, eval (.Call (.Attribute e "values" apos) [] [] cpos) X.env) :: backTo pos (starEach [] X.env))) _ _ s
  refine Calls.spliced_cons (wpAny_Call_method (T := "dict") (id := "dict.values") hbase rfl hline F.plainAttrs_dict F.slot_dict_values F.type_dict_values (thn (he.run pins s σ H _ I hq) fun u s1 ⟨x, H1, I1, rx, d, kvs, ex, hd, q⟩ => ?_))
  subst ex
  obtain rfl : u = Value.ref d := rx
  obtain ⟨z, hs0, ks, pr, o, es, ep, ho, hx, hdt, hes, _⟩ := I1.hok d _ hd
  have I2 : Inv X pins σ H1 { s1 with heap := s1.heap.push { cls := .type "dict_values", data := .fields #[.ref d] } } := I1.kept (t' := s1.toks) fun b ob q => Heap.get?_push_of_some _ q
  have hlt : d < s1.heap.objs.size := Heap.lt_size ho
  have ln : kvs.length = ks.length := Paired.length pr
  have le : es.size = ks.length := size_of_entries hes
  refine ⟨⟨o, ho, hx.1⟩, fun b eb => (by cases eb; exact ⟨o, ho, hx.2.1⟩), ?_⟩
  show wpAny _ _ (callWith cpos (.builtin "dict.values") [.ref d] [] []) _ X.xe s1
  refine method_meetsIn F.slot_dict_values F.entry_dict_values rfl (PySem.evalArgs_none ⟨rfl, ⟨o, ho, hx.1⟩, F.args_dict_values_1 _, _, meets_dict_values_raw d hs0, ⟨es, ep, o, ho, hx, hdt⟩, ?_⟩)
  refine Calls.spliced_nil ?_
  refine PySem.W.kdl_call (kdl_valsRaw (r := s1.heap.objs.size) (d := d) (ob := o) (Nat.ne_of_lt hlt) hdt) (I1.ok.hd hc) ⟨Heap.get?_push_size _ rfl, Heap.get?_push_of_some _ ho⟩ (by omega) fun h' tk acc c' hk hS hacc => ?_
  refine ⟨.ref _, _, I2.laid (t' := tk) (o := .lst (kvs.map (·.2))) hk (Nat.le_refl _) ⟨by rw [List.length_map]; exact z, acc.toList, c', ?_, by rw [Array.toArray_toList]; exact hS⟩, rfl, q _ (I2.hok.fresh (Nat.le_refl _))⟩
  have el : acc.toList.length = acc.size := by simp
  refine vals_of_at (by rw [List.length_map, el, hacc.1, le, ln]) fun j x w h1 h2 => ?_
  rw [List.getElem?_map] at h1
  obtain ⟨kv, hkv, e1⟩ := Option.map_eq_some_iff.mp h1
  obtain ⟨y, hy, r1, r2, r3⟩ := paired_get pr hkv
  obtain ⟨en, hen, hw⟩ := hacc.2 j w (by rw [← Array.getElem?_toList]; exact h2)
  have qe := entry_at hes j
  rw [hen, hy] at qe
  have e2 : en = entryOfKey (tupleKind (mixKind X.prog X.w)) y := Option.some.inj qe
  rw [← e1, hw, e2]
  exact r3⟩
theorem st_values : Step1 c (fun x n l => Ev.refK .err (fun i => Ev.hget .err (Ev.oDct .err fun t _ vs => Bool.rec (motive := fun _ => Rs) .err (.ok (.lst vs) n l) t) l i) x) rValsT := fun x n l w n' l' e M v hn rp rx Q k => by
  obtain ⟨i, rfl, e1⟩ := refK_ne e Rs.ne
  obtain ⟨o, h1, e2⟩ := hget_ne e1 Rs.ne
  obtain ⟨t, ks, vs, rfl, e3⟩ := oDct_ne e2 Rs.ne
  cases t with
  | false => cases e3
  | true =>
    cases e3
    obtain ⟨kvs, h2, h3, h4⟩ := rp.obj i _ h1
    exact ⟨M.ρ i, kvs, rx.2, h2, endF hn rp k fun b M' x1 x2 x3 => ⟨b, _, rfl, x2, x3, RVs.mono x1 _ _ h4⟩⟩
theorem ce_values (hc : X.calm = true) (hg : Gl X "list") (hm : X.mg "list" = none) (ha : PE X a (tM c cl ma)) (hbase : attributeBase a "values" X.env (eval a X.env) = eval a X.env := by rfl) (hline : (apos.endLine == cpos.line) = true := by rfl)
    (hs : starEach [.Call (.Attribute a "values" apos) [] [] cpos] X.env = (false, eval (.Call (.Attribute a "values" apos) [] [] cpos) X.env) :: starEach [] X.env := by rfl) :
    PE X (.Call (.Name "list" p) [.Call (.Attribute a "values" apos) [] [] cpos] [] pos) (tM c cl (Ev.eValues ma)) :=
  pe_imp (pe_listVals hc ha hg hm (by first | rfl | decide +kernel) hbase hline hs) fun σ H Q h => step1 st_values h
end
end Sd
end

section
set_option Elab.async false
set_option linter.all false
set_option maxRecDepth 100000
/-! Sd18: names by the scope. -/
namespace Sd
open PySem PySem.Spec PyProof.Rows L2
section
variable {g : Gb} {X : Cx} {N : List Str} {sc : Scope} {F : Str → Bool} {k i : Nat} {x : Str}
theorem Ctx.gl (C : Ctx g X N sc F k) (h : sc.names.lookup x = some .globalImplicit) : Gl X x := by
  show X.env.scope.names.lookup x = _
  rw [C.sc]
  exact h
theorem Ctx.vis (C : Ctx g X N sc F k) (h : Vis sc x) : Vis X.env.scope x := by rw [C.sc]; exact h
theorem Ctx.loc (C : Ctx g X N sc F k) (h : Loc sc x) : Loc X.env.scope x := by rw [C.sc]; exact h
theorem Ctx.lcl (C : Ctx g X N sc F k) (h : sc.names.lookup x = some .local) : X.env.scope.names.lookup x = some .local := by rw [C.sc]; exact h
theorem Ctx.at_ (C : Ctx g X N sc F k) (h : N[i]? = some x) : X.N[i]? = some x := by rw [C.N]; exact h
theorem Ctx.ndN (C : Ctx g X N sc F k) : X.N.Nodup := by rw [C.N]; exact C.nd
theorem Ctx.free (C : Ctx g X N sc F k) (h : g.mg x = none) : X.mg x = none := by rw [C.mg]; exact h
theorem Ctx.u1 (C : Ctx g X N sc F k) : X.A.units + 1 < cLine := by
  have := C.room.units
  omega
theorem Ctx.own (C : Ctx g X N sc F k) (h : F x = true) : X.fn x = true := by rw [C.fn]; exact h
end
end Sd
end

section
set_option Elab.async false
set_option linter.all false
set_option maxRecDepth 100000
/-! Sd19: dicts whose keys are (int, None or int), their values bools. -/
namespace Sd
open PySem PySem.Spec PyProof.Rows L2
open Ev (Hl Rs Rb Ra So Sr CallT)
section
variable {P : Program} {w : World} {H : Hp} {h : Heap} {a : Addr}
theorem leaf_is {k : Leaf} {u : Value} (r : RelV (leafV k) u) : (leafKind P w).is k u = true := by
  cases k with
  | none => obtain rfl : u = Value.none := r; exact leaf_none
  | num i => obtain ⟨t, rfl⟩ := (show ∃ t, u = Value.int i t from r); exact leaf_int i t
  | text x => obtain ⟨t, rfl⟩ := (show ∃ t, u = Value.str x t from r); exact leaf_str x t
theorem leaf_items : ∀ {ks : List Leaf} {us : List Value}, Vals (ks.map leafV) us → ItemsAre (leafKind P w) ks us
  | [], _, r => by rw [List.map_nil] at r; cases r; exact .nil
  | k :: ks, _, r => by
    rw [List.map_cons] at r
    cases r with
    | cons h t => exact .cons (leaf_is h) (leaf_items t)
theorem leaf_key {ks : List Leaf} (ok : HOk P w H h) (e : H a = some (.tup (ks.map leafV))) : (tupleKind (leafKind P w)).is h ks a := by
  obtain ⟨_, its, r, o, h1, h2, n, h3⟩ := (show ObjOk P w H h a (.tup (ks.map leafV)) from ok a _ e)
  exact ⟨o, its.toArray, n, h1, h2, h3, by simpa using leaf_items r⟩
/-- the keys stand -/
def KeysAt (H : Hp) (xs : List (List Leaf × Addr × Value)) : Prop := ∀ x ∈ xs, H x.2.1 = some (.tup (x.1.map leafV))
theorem to_of {xs : List (List Leaf × Addr × Value)} (ok : HOk P w H h) (e : H a = some (TO P w a xs)) (hk : KeysAt H xs) : xs.length ≤ sizeLine ∧ (a == sysModules) = false ∧ h.DictOfH (tupleKind (leafKind P w)) a xs := by
  obtain ⟨⟨h1, h2, o, es, ep, h3, h4, h5, h6, h7⟩, _, _⟩ := (show ObjOk P w H h a (TO P w a xs) from ok a _ e)
  exact ⟨h1, h2, o, es, ep, h3, h4, h5, h6, fun x hx => leaf_key ok (hk x hx), h7⟩
theorem to_new {xs : List (List Leaf × Addr × Value)} {H' : Hp} {h' : Heap} (h1 : xs.length ≤ sizeLine) (h2 : (a == sysModules) = false) (h3 : h'.DictOfH (tupleKind (leafKind P w)) a xs) : ObjOk P w H' h' a (TO P w a xs) := by
  obtain ⟨o, es, ep, g1, g2, g3, g4, _, g5⟩ := h3
  exact ⟨⟨h1, h2, o, es, ep, g1, g2, g3, g4, g5⟩, ⟨o, g1⟩, fun ha hb ⟨q1, q2, o, es, ep, q3, q4⟩ k => ⟨q1, q2, o, es, ep, k o q3, q4⟩⟩
end
section
variable {X : Cx} {pins : List (Addr × Obj)} {σ : L2.St} {H : Hp} {s : Shared} {a b : Addr} {xs : List (List Leaf × Addr × Value)} {ks : List Leaf} {A : Around} {E : Value → Shared → Prop}
theorem s_getItem {Q : Value → Shared → Prop} {q : Addr} {u : Value} (hu : A.units + 1 < cLine) (I : Inv X pins σ H s) (e : H a = some (TO X.prog X.w a xs)) (hk : KeysAt H xs) (eb : H b = some (.tup (ks.map leafV))) (hq : atKey xs ks = some (q, u)) (h : ∀ s', Inv X pins σ H s' → Q u s') :
    wpAny (model X.prog X.w) A (getItem (.ref a) (.ref b)) Q E s := by
  obtain ⟨_, _, dd⟩ := to_of I.hok e hk
  exact wpAny_getItem_heap (tupleKind_room_in1 hu) (leaf_key I.hok eb) dd hq (h _ (I.tok _))
theorem s_notIn {Q : Value → Shared → Prop} (hu : A.units + 1 < cLine) (I : Inv X pins σ H s) (e : H a = some (TO X.prog X.w a xs)) (hk : KeysAt H xs) (eb : H b = some (.tup (ks.map leafV))) (h : ∀ s', Inv X pins σ H s' → Q (.bool (!(atKey xs ks).isSome)) s') :
    wpAny (model X.prog X.w) A (compareOp .NotIn (.ref b) (.ref a)) Q E s := by
  obtain ⟨_, hd, dd⟩ := to_of I.hok e hk
  exact wpAny_notIn_heap (tupleKind_room_in1 hu) (leaf_key I.hok eb) hd dd (h _ (I.tok _))
theorem s_setItem {Q : Unit → Shared → Prop} {u : Value} (hu : A.units + 1 < cLine) (I : Inv X pins σ H s) (e : H a = some (TO X.prog X.w a xs)) (hk : KeysAt H xs) (eb : H b = some (.tup (ks.map leafV))) (hl : xs.length < sizeLine) (h : ∀ s', Inv X pins σ (upd H a (TO X.prog X.w a (storedH xs ks b u))) s' → Q () s') :
    wpAny (model X.prog X.w) A (setItem (.ref a) (.ref b) u) Q E s := by
  obtain ⟨z, hd, dd⟩ := to_of I.hok e hk
  refine wpAny_setItem_heap (hsz := z) (tupleKind_room_in1 hu) (leaf_key I.hok eb) dd fun h' dd' hs => h _ ?_
  have he : ∃ q, h'.get? a = some q := let ⟨q, _, _, hq, _⟩ := dd'; ⟨q, hq⟩
  have := storedH_length xs ks b u
  exact d_write I (by rw [e]; exact True.intro) hs he (to_new (by omega) hd dd')
theorem s_new {Q : Value → Hp → Prop} : PE X (.Dict [] [] pos) (fun _ H Q => ∀ p, H p = none → Q (.ref p) (upd H p (TO X.prog X.w p []))) := ⟨fun pins s σ H Q I h =>
  wpAny_Dict_empty ⟨.ref s.heap.objs.size, _, I.laid (a := s.heap.objs.size) (o := TO X.prog X.w s.heap.objs.size []) (t' := s.toks) (fun _ _ q => Heap.get?_push_of_some _ q) (Nat.le_refl _)
    (to_new (Nat.zero_le _) (beq_eq_false_iff_ne.mpr (Ne.symm (Nat.ne_of_lt I.big))) (Heap.DictOfH.new s.heap)), rfl, h _ (I.hok.fresh (Nat.le_refl _))⟩⟩
end
/-! ### what is found, what is stored -/
theorem atKey_append {K : Type} [DecidableEq K] {xs : List (K × Addr × Value)} {k k2 : K} {b : Addr} {u : Value} : atKey (xs ++ [(k, b, u)]) k2 = (atKey xs k2).orElse fun _ => if k = k2 then some (b, u) else none := by
  unfold atKey
  rw [List.find?_append]
  cases h : xs.find? fun x => decide (x.1 = k2) with
  | some x => rfl
  | none =>
    by_cases q : k = k2
    · simp [q]
    · simp [q]
theorem atKey_map {K : Type} [DecidableEq K] {k k2 : K} {u : Value} : ∀ {xs : List (K × Addr × Value)}, atKey (xs.map (putAt k u)) k2 = if k = k2 then (atKey xs k2).map (fun q => (q.1, u)) else atKey xs k2
  | [] => by by_cases q : k = k2 <;> simp [q, atKey]
  | x :: xs => by
    have ih := atKey_map (k := k) (k2 := k2) (u := u) (xs := xs)
    have hd : (putAt k u x).1 = x.1 := by
      unfold putAt
      split <;> rfl
    by_cases q : x.1 = k2
    · have e1 : atKey ((x :: xs).map (putAt k u)) k2 = some (putAt k u x).2 := by
        rw [List.map_cons]
        unfold atKey
        rw [List.find?_cons]
        simp [hd, q]
      have e2 : atKey (x :: xs) k2 = some x.2 := by
        unfold atKey
        rw [List.find?_cons]
        simp [q]
      rw [e1, e2]
      by_cases q2 : k = k2
      · rw [if_pos q2]
        unfold putAt
        rw [if_pos (q.trans q2.symm)]
        rfl
      · rw [if_neg q2]
        unfold putAt
        rw [if_neg (fun z => q2 (z.symm.trans q))]
    · have e1 : atKey ((x :: xs).map (putAt k u)) k2 = atKey (xs.map (putAt k u)) k2 := by
        rw [List.map_cons]
        unfold atKey
        rw [List.find?_cons]
        simp [hd, q]
      have e2 : atKey (x :: xs) k2 = atKey xs k2 := by
        unfold atKey
        rw [List.find?_cons]
        simp [q]
      rw [e1, e2, ih]
theorem atKey_stored {K : Type} [DecidableEq K] {xs : List (K × Addr × Value)} {k k2 : K} {b : Addr} {u : Value} : (k = k2 → ∃ q, atKey (storedH xs k b u) k2 = some (q, u)) ∧ (¬ k = k2 → atKey (storedH xs k b u) k2 = atKey xs k2) := by
  unfold storedH
  cases h : atKey xs k with
  | some q =>
    rw [if_pos (by rfl), atKey_map]
    refine ⟨fun e => ?_, fun e => by rw [if_neg e]⟩
    rw [if_pos e, ← e, h]
    exact ⟨_, rfl⟩
  | none =>
    rw [if_neg (by simp), atKey_append]
    refine ⟨fun e => ?_, fun e => ?_⟩
    · rw [← e, h, if_pos rfl]
      exact ⟨_, rfl⟩
    · rw [if_neg e]
      cases atKey xs k2 <;> rfl
theorem stored_mem {K : Type} [DecidableEq K] {xs : List (K × Addr × Value)} {k : K} {b : Addr} {u : Value} {x : K × Addr × Value} (h : x ∈ storedH xs k b u) : (∃ y ∈ xs, y.1 = x.1 ∧ y.2.1 = x.2.1) ∨ (x.1 = k ∧ x.2.1 = b) := by
  unfold storedH at h
  split at h
  · obtain ⟨y, hy, rfl⟩ := List.mem_map.mp h
    refine .inl ⟨y, hy, ?_⟩
    unfold putAt
    split <;> exact ⟨rfl, rfl⟩
  · rcases List.mem_append.mp h with h | h
    · exact .inl ⟨x, h, rfl, rfl⟩
    · rw [List.mem_singleton] at h
      rw [h]
      exact .inr ⟨rfl, rfl⟩
theorem spot_lt {i : Nat} {s : Option Nat} (hi : i < 32) (hs : ∀ j, s = some j → j < 511) : 0 < spotN i s ∧ spotN i s < 2 ^ 20 := by
  have h : (2 : Nat) ^ 20 = 1048576 := by decide
  cases s with
  | none =>
    show 0 < 16384 + 512 * i ∧ 16384 + 512 * i < 2 ^ 20
    omega
  | some j =>
    have := hs j rfl
    show 0 < 16384 + (512 * i + (j + 1)) ∧ 16384 + (512 * i + (j + 1)) < 2 ^ 20
    omega
theorem spot_inj {i k : Nat} {s t : Option Nat} (hs : ∀ j, s = some j → j < 511) (ht : ∀ j, t = some j → j < 511) (h : spotN i s = spotN k t) : i = k ∧ s = t := by
  cases s with
  | none =>
    cases t with
    | none =>
      have h : 16384 + 512 * i = 16384 + 512 * k := h
      exact ⟨by omega, rfl⟩
    | some m =>
      have := ht m rfl
      have h : 16384 + 512 * i = 16384 + (512 * k + (m + 1)) := h
      omega
  | some j =>
    have := hs j rfl
    cases t with
    | none =>
      have h : 16384 + (512 * i + (j + 1)) = 16384 + 512 * k := h
      omega
    | some m =>
      have := ht m rfl
      have h : 16384 + (512 * i + (j + 1)) = 16384 + (512 * k + (m + 1)) := h
      have e : i = k := by omega
      exact ⟨e, by rw [show j = m by omega]⟩
theorem spotL_inj {i k : Nat} {s t : Option Nat} (h : spotL i s = spotL k t) : i = k ∧ s = t := by
  cases s with
  | none =>
    cases t with
    | none =>
      have h : ([.num i, .none] : List Leaf) = [.num k, .none] := h
      injection h with h1 h2
      injection h1 with h1
      exact ⟨Int.ofNat.inj h1, rfl⟩
    | some m =>
      have h : ([.num i, .none] : List Leaf) = [.num k, .num m] := h
      injection h with h1 h2
      injection h2 with h3
      cases h3
  | some j =>
    cases t with
    | none =>
      have h : ([.num i, .num j] : List Leaf) = [.num k, .none] := h
      injection h with h1 h2
      injection h2 with h3
      cases h3
    | some m =>
      have h : ([.num i, .num j] : List Leaf) = [.num k, .num m] := h
      injection h with h1 h2
      injection h2 with h3 h4
      injection h1 with h1
      injection h3 with h3
      exact ⟨Int.ofNat.inj h1, by rw [Int.ofNat.inj h3]⟩
theorem spotK_ok {R : Type} {e r : R} {f : Nat → R} {x : Ev.W} (h : Ev.spotK e f x = r) (ne : e ≠ r) : ∃ (i : Nat) (s : Option Nat), i < 32 ∧ (∀ j, s = some j → j < 511) ∧ f (spotN i s) = r ∧ ∀ (c : Cn) (M : Ms) (v : V), RV c M x v → ∃ b, v = .ref b ∧ ¬ M.P b ∧ M.H b = some (.tup ((spotL i s).map leafV)) := by
  obtain ⟨l, rfl, h⟩ := tupK_ne (show Ev.tupK e _ x = r from h) ne
  match l, h with
  | [], h => exact absurd h ne
  | [x], h => exact absurd h ne
  | [x, y], h =>
    obtain ⟨i, rfl, h1⟩ := natK_ne (show Ev.natK e (fun i => Bool.rec (motive := fun _ => R) e (Bool.rec (motive := fun _ => R) (Ev.natK e (fun j => Bool.rec (motive := fun _ => R) e (f (Nat.add 16384 (Nat.add (Nat.mul 512 i) (Nat.add j 1)))) (Nat.blt j 511)) y) (f (Nat.add 16384 (Nat.mul 512 i))) (Ev.isNon y)) (Nat.blt i 32)) x = r from h) ne
    obtain ⟨hi, h2⟩ := ite_ne h1 ne
    have hi : i < 32 := Nat.le_of_ble_eq_true hi
    cases q : Ev.isNon y with
    | true =>
      rw [q] at h2
      refine ⟨i, none, hi, fun j z => (by cases z), h2, fun c M v ⟨b, xs, e1, e2, e3, e4⟩ => ⟨b, e1, e2, ?_⟩⟩
      obtain ⟨v1, r1, rfl, q1, v2, r2, rfl, q2, q3⟩ := e4
      rw [show r2 = [] from q3, show v1 = .int i from q1] at e3
      rw [e3]
      cases y with
      | non => rw [show v2 = .non from q2]; rfl
      | _ => cases q
    | false =>
      rw [q] at h2
      obtain ⟨j, rfl, h3⟩ := natK_ne (show Ev.natK e (fun j => Bool.rec (motive := fun _ => R) e (f (Nat.add 16384 (Nat.add (Nat.mul 512 i) (Nat.add j 1)))) (Nat.blt j 511)) y = r from h2) ne
      obtain ⟨hj, h4⟩ := ite_ne h3 ne
      refine ⟨i, some j, hi, fun m z => by cases z; exact Nat.le_of_ble_eq_true hj, h4, fun c M v ⟨b, xs, e1, e2, e3, e4⟩ => ⟨b, e1, e2, ?_⟩⟩
      obtain ⟨v1, r1, rfl, q1, v2, r2, rfl, q2, q3⟩ := e4
      rw [show r2 = [] from q3, show v1 = .int i from q1, show v2 = .int j from q2] at e3
      exact e3
  | x :: y :: z :: q, h => exact absurd h ne
theorem oTold_ne {R : Type} {e r : R} {k : Nat → Ev.Tr → R} {o : Ev.O} (h : Ev.oTold e k o = r) (ne : e ≠ r) : ∃ hh m, o = .told hh m ∧ k hh m = r := by
  cases o <;> first | exact absurd h ne | exact ⟨_, _, rfl, h⟩
section
variable {X : Cx} {c : Cn} {cl : CallT} {σ : L2.St} {H : Hp} {a b o : Expr} {ma mb mo : Ev.D} {pos p : Pos} {D : Ends}
theorem ce_told (hP : X.prog = c.P) (hw : X.w = c.w) : PE X (.Dict [] [] pos) (tM c cl Ev.eTold) :=
  pe_imp (s_new (Q := fun _ _ => True)) fun σ H Q ⟨M, l, s, eH, r, sl, w, n', l', e, k⟩ => by
    subst eH
    cases e
    rw [hP, hw]
    exact fun p hp => new_live k r (Ext.refl M) hp (fun _ => ⟨[], upd_same, Nat.le_refl _, fun x hx => (by cases hx), fun i j _ _ => .inl ⟨tget_nil _ _, rfl⟩⟩) rfl
def tSGet (P : Program) (w : World) (td ty : TE) : TE := fun σ H Q => td σ H fun x H1 => ty σ H1 fun y H2 => ∃ a b xs ks q v, x = .ref a ∧ y = .ref b ∧ H2 a = some (TO P w a xs) ∧ KeysAt H2 xs ∧ H2 b = some (.tup (ks.map leafV)) ∧ atKey xs ks = some (q, .bool v) ∧ Q (.bl v) H2
theorem pe_sget {td ty : TE} (hu : X.A.units + 1 < cLine) (ho : PE X a td) (hi : PE X b ty) (hs : NoSl b) : PE X (.Subscript a b pos) (tSGet X.prog X.w td ty) := by
  refine ⟨fun pins s σ H Q I h => ?_⟩
  refine subD_of PySem.F.slot_dict_getitem.lookup hs (thn (ho.run pins s σ H _ I h) fun u s1 ⟨x, H1, I1, rx, q1⟩ => thn (hi.run pins s1 σ H1 _ I1 q1) fun iv s2 ⟨y, H2, I2, ry, a, b, xs, ks, q, v, ex, ey, e1, e2, e3, e4, q2⟩ => ?_)
  subst ex ey
  obtain rfl : u = Value.ref a := rx
  obtain rfl : iv = Value.ref b := ry
  exact ⟨(to_of I2.hok e1 e2).2.2.typeIs, s_getItem hu I2 e1 e2 e3 e4 fun s3 I3 => ⟨.bl v, H2, I3, rfl, q2⟩⟩
theorem ce_idxS (hP : X.prog = c.P) (hw : X.w = c.w) (hu : X.A.units + 1 < cLine) (ha : PE X a (tM c cl ma)) (hb : PE X b (tM c cl mb)) (hs2 : NoSl b := by exact fun _ _ => rfl) : PE X (.Subscript a b pos) (tM c cl (Ev.eIdxS ma mb)) := by
  refine pe_imp (pe_sget hu ha hb hs2) fun σ H Q ⟨M, l, s, eH, r, sl, w, n', l', e, k⟩ => ?_
  subst eH
  rw [hP, hw]
  obtain ⟨x, n1, l1, e1, e2⟩ := Rs.b_ok e
  obtain ⟨y, n2, l2, e3, e4⟩ := Rs.b_ok e2
  obtain ⟨i, rfl, e5⟩ := refK_ne e4 Rs.ne
  obtain ⟨ob, h1, e6⟩ := hget_ne e5 Rs.ne
  obtain ⟨hh, m, rfl, e7⟩ := oTold_ne e6 Rs.ne
  obtain ⟨j, sp, hj, hsp, e8, z⟩ := spotK_ok e7 Rs.ne
  obtain ⟨d, e9, e10⟩ := blK_ne e8 Rs.ne
  cases e10
  refine tM2 r sl e1 e3 fun M2 vx vy en r2 x2 rx ry => ?_
  obtain ⟨xs, g1, g2, g3, g4⟩ := r2.obj i _ h1
  obtain ⟨bb, f1, f2, f3⟩ := z c M2 vy ry
  rcases g4 j sp hj hsp with ⟨f4, _⟩ | ⟨b2, q, f4, f5⟩
  · rw [f4] at e9; cases e9
  · rw [f4] at e9
    cases e9
    exact ⟨_, bb, xs, _, q, d, rx.2, f1, g1, fun x hx => (g3 x hx).2, f3, f5, k M2 _ en r2 x2 rfl⟩
def rNotInS (P : Program) (w : World) : R2 := fun y x H Q => ∃ a b xs ks, x = .ref a ∧ y = .ref b ∧ H a = some (TO P w a xs) ∧ KeysAt H xs ∧ H b = some (.tup (ks.map leafV)) ∧ Q (.bl (!(atKey xs ks).isSome)) H
theorem op_notInS (hu : X.A.units + 1 < cLine) : OpR X (compareOp .NotIn) (rNotInS X.prog X.w) := fun pins s σ H x y v u Q I rx ry ⟨a, b, xs, ks, ex, ey, e1, e2, e3, q⟩ => by
  subst ex ey
  obtain rfl : u = Value.ref a := ry
  obtain rfl : v = Value.ref b := rx
  exact s_notIn hu I e1 e2 e3 fun s3 I3 => ⟨.bl _, H, I3, rfl, q⟩
theorem st_notInS {P : Program} {w : World} (hP : P = c.P) (hw : w = c.w) : Step2 c (fun x y n l => Ev.refK .err (fun i => Ev.hget .err (Ev.oTold .err fun _ m => Ev.spotK .err (fun j => .ok (.bl (Ev.neg (Ev.defK false true (Ev.tget m 20 j)))) n l) x) l i) y) (rNotInS P w) := fun x y n l w n' l' e M v u hn rp rx ry Q k => by
  subst hP hw
  obtain ⟨i, rfl, e5⟩ := refK_ne e Rs.ne
  obtain ⟨ob, h1, e6⟩ := hget_ne e5 Rs.ne
  obtain ⟨hh, m, rfl, e7⟩ := oTold_ne e6 Rs.ne
  obtain ⟨j, sp, hj, hsp, e8, z⟩ := spotK_ok e7 Rs.ne
  cases e8
  obtain ⟨xs, g1, g2, g3, g4⟩ := rp.obj i _ h1
  obtain ⟨bb, f1, f2, f3⟩ := z c M v rx
  refine ⟨_, bb, xs, _, ry.2, f1, g1, fun x hx => (g3 x hx).2, f3, k M _ hn rp (Ext.refl M) ?_⟩
  show V.bl _ = V.bl _
  rcases g4 j sp hj hsp with ⟨f4, f5⟩ | ⟨b2, q, f4, f5⟩
  · rw [f4, f5]; rfl
  · rw [f4, f5]; rfl
theorem ce_notInS (hP : X.prog = c.P) (hw : X.w = c.w) (hu : X.A.units + 1 < cLine) (ha : PE X a (tM c cl ma)) (hb : PE X b (tM c cl mb)) (hm : behindInMarks .NotIn b = false := by with_unfolding_all rfl) :
    PE X (.Compare a [.NotIn] [b] pos) (tM c cl (Ev.eNotInS ma mb)) ∧ PT X (.Compare a [.NotIn] [b] pos) (tT c cl (Ev.tB (Ev.eNotInS ma mb))) :=
  ⟨pe_imp (pe_cmpR (op_notInS hu) ha hb hm) fun σ H Q h => step2 (st_notInS hP hw) h, pt_imp (pt_cmpR (op_notInS hu) ha hb hm) fun σ H Q h => step2 (st_notInS hP hw) (tB_test h)⟩
def sSPut (P : Program) (w : World) (td ty tv : TE) : TS := fun D σ H => tv σ H fun v H1 => td σ H1 fun x H2 => ty σ H2 fun y H3 => ∃ a b xs ks u, x = .ref a ∧ y = .ref b ∧ v = .bl u ∧ H3 a = some (TO P w a xs) ∧ KeysAt H3 xs ∧ H3 b = some (.tup (ks.map leafV)) ∧ xs.length < sizeLine ∧ D.nx σ (upd H3 a (TO P w a (storedH xs ks b (.bool u))))
theorem ps_sput {value : Expr} {pos' : Pos} {td ty tv : TE} (hu : X.A.units + 1 < cLine) (ho : PE X o td) (hi : PE X b ty) (hv : PE X value tv) (hs : swapsWith value (some (.Subscript o b pos')) pos.line X.env = pure false) :
    PS X (.Assign [.Subscript o b pos'] value pos) (sSPut X.prog X.w td ty tv) := by
  refine ⟨fun pins s σ H D I h => ?_⟩
  refine wpAny_Assign_Subscript (thn (hv.run pins s σ H _ I h) fun r s1 ⟨v, H1, I1, rv, q1⟩ => thn (ho.run pins s1 σ H1 _ I1 q1) fun u s2 ⟨x, H2, I2, rx, q2⟩ => thn (hi.run pins s2 σ H2 _ I2 q2) fun iv s3 ⟨y, H3, I3, ry, a, b, xs, ks, t, ex, ey, ev, e1, e2, e3, e4, q3⟩ => ?_) hs
  subst ex ey ev
  obtain rfl : u = Value.ref a := rx
  obtain rfl : iv = Value.ref b := ry
  obtain rfl : r = Value.bool t := rv
  exact s_setItem hu I3 e1 e2 e3 e4 fun s4 I4 => ⟨σ, _, I4, q3⟩
theorem cs_subS {p1 : Pos} (hP : X.prog = c.P) (hw : X.w = c.w) (hu : X.A.units + 1 < cLine) (ho : PE X o (tM c cl mo)) (hb : PE X b (tM c cl mb)) (ha : PE X a (tM c cl ma)) (hs : swapsWith a (some (.Subscript o b p1)) pos.line X.env = pure false := by rfl) : PS X (.Assign [.Subscript o b p1] a pos) (tS c cl (Ev.sSubS mo mb ma)) := by
  refine ps_imp (ps_sput hu ho hb ha hs) fun D σ H ⟨M, l, s, eH, r, sl, fin⟩ => ?_
  subst eH
  rw [hP, hw]
  obtain ⟨v, n1, l1, e1, e2⟩ := Rs.bs_ne (Fin.ne fin)
  have f1 := fin
  change Fin c M D (Ev.Rs.bs _ _) at f1
  rw [e2] at f1
  obtain ⟨x, n2, l2, e3, e4⟩ := Rs.bs_ne (Fin.ne f1)
  rw [e4] at f1
  obtain ⟨y, n3, l3, e5, e6⟩ := Rs.bs_ne (Fin.ne f1)
  rw [e6] at f1
  obtain ⟨i, rfl, e7⟩ := refK_ne rfl (Fin.ne f1)
  obtain ⟨ob, h1, e8⟩ := hget_ne e7 (Fin.ne f1)
  obtain ⟨hh, m, rfl, e9⟩ := oTold_ne e8 (Fin.ne f1)
  obtain ⟨j, sp, hj, hsp, e10, z⟩ := spotK_ok e9 (Fin.ne f1)
  obtain ⟨u, rfl, e11⟩ := blK_ne e10 (Fin.ne f1)
  obtain ⟨hlt, e12⟩ := ite_ne e11 (Fin.ne f1)
  rw [← e12] at f1
  refine tM.mk r sl e1 fun M1 vv en r1 x1 rv => tM.mk r1 (sl.mono x1) (by rw [en]; exact e3) fun M2 vo en2 r2 x2 ro => tM.mk r2 (sl.mono (x1.trans x2)) (by rw [en2]; exact e5) fun M3 vk en3 r3 x3 rk => ?_
  have ro3 := RV.mono x3 _ _ ro
  have rv3 := RV.mono (x2.trans x3) _ _ rv
  obtain ⟨xs, g1, g2, g3, g4⟩ := r3.obj i _ h1
  obtain ⟨bb, q1, q2, q3⟩ := z c M3 vk rk
  have hz : xs.length < sizeLine := by
    have := Nat.le_of_ble_eq_true hlt
    rw [sizeLine_eq]
    omega
  refine ⟨M3.ρ i, bb, xs, _, u, ro3.2, q1, rv3, g1, fun x hx => (g3 x hx).2, q3, hz, ?_⟩
  have x4 := r3.wExt (u := TO c.P c.w (M3.ρ i) (storedH xs (spotL j sp) bb (.bool u))) h1
  have r4 := (r3.write (u := TO c.P c.w (M3.ρ i) (storedH xs (spotL j sp) bb (.bool u))) (o' := .told (Nat.add hh 1) (Ev.tput m 20 (spotN j sp) (.bl u))) h1 ⟨_, upd_same, ?_, fun y hy => ?_, fun i2 s2 hi2 hs2 => ?_⟩).1
  · exact f1 { M3 with H := upd M3.H (M3.ρ i) (TO c.P c.w (M3.ρ i) (storedH xs (spotL j sp) bb (.bool u))) } σ en3 r4 (((x1.trans x2).trans x3).trans x4) (sl.mono (((x1.trans x2).trans x3).trans x4))
  · have := storedH_length xs (spotL j sp) bb (.bool u)
    show _ ≤ hh + 1
    omega
  · have tup_at : ∀ (q : Addr) (ks : List Leaf), ¬ M3.P q → M3.H q = some (.tup (ks.map leafV)) → upd M3.H (M3.ρ i) (TO c.P c.w (M3.ρ i) (storedH xs (spotL j sp) bb (.bool u))) q = some (.tup (ks.map leafV)) := fun q ks _ hq => by
      rw [upd_ne (ne_of hq g1 (fun z => nomatch z))]
      exact hq
    rcases stored_mem hy with ⟨y0, hy0, k1, k2⟩ | ⟨k1, k2⟩
    · rw [← k1, ← k2]
      exact ⟨(g3 y0 hy0).1, tup_at _ _ (g3 y0 hy0).1 (g3 y0 hy0).2⟩
    · rw [k1, k2]
      exact ⟨q2, tup_at _ _ q2 q3⟩
  · rw [tget_put (.bl u) 20 m _ _ (spot_lt hj hsp).1 (spot_lt hj hsp).2 (spot_lt hi2 hs2).1 (spot_lt hi2 hs2).2]
    obtain ⟨k1, k2⟩ := atKey_stored (xs := xs) (k := spotL j sp) (k2 := spotL i2 s2) (b := bb) (u := .bool u)
    by_cases q : spotN j sp = spotN i2 s2
    · obtain ⟨rfl, rfl⟩ := spot_inj hsp hs2 q
      obtain ⟨q4, q5⟩ := k1 rfl
      rw [if_pos rfl]
      exact .inr ⟨u, q4, rfl, q5⟩
    · rw [if_neg q, k2 (fun e => q (by obtain ⟨rfl, rfl⟩ := spotL_inj e; rfl))]
      exact g4 i2 s2 hi2 hs2
end
end Sd
end

section
set_option Elab.async false
set_option linter.all false
set_option maxRecDepth 100000
/-! Sd20: dict comprehensions whose keys are tuples. -/
namespace Sd
open PySem PySem.Spec PyProof.Rows L2
open Ev (Hl Rs Rb Ra So Sr CallT)
/-- what the turn of such a comprehension asks behind its key and its value -/
def DtPut (Dx : Addr) (Nx : Hp → Prop) (y z : V) (Hy : Hp) : Prop := ∃ (kvs : List (List Key × V)) (k : List Key) (b : Addr), y = .ref b ∧ Hy b = some (.tup (k.map kV)) ∧ Hy Dx = some (.dT kvs) ∧ kvs.length < sizeLine ∧ Nx (upd Hy Dx (.dT (putK kvs k z)))
theorem dt_store {X : Cx} {pns : List (Addr × Obj)} {st : L2.St} {Hy : Hp} {s0 : Shared} {Er : Value → Shared → Prop} {Dx : Addr} {Nx : Hp → Prop} {y z : V} {u r : Value} {Qu : Unit → Shared → Prop} (hu : X.A.units < cLine) (I0 : L2.Inv X pns st Hy s0) (h : DtPut Dx Nx y z Hy)
    (ry : RelV y u) (rz : RelV z r) (fin : ∀ s1 H1, L2.Inv X pns st H1 s1 → Nx H1 → Qu () s1) : wpAny (model X.prog X.w) X.A (dictSet Dx u r) Qu Er s0 := by
  obtain ⟨kvs, k, b, rfl, hb, hD, hlt, nx⟩ := h
  obtain rfl : u = Value.ref b := ry
  obtain ⟨hz0, hm, es, rl, dh⟩ := dt_of I0.hok hD
  have hz1 : es.length ≤ sizeLine := by rw [← Paired.length rl]; exact hz0
  refine wpAny_dictSet_heap (hsz := hz1) (knd := tupleKind (mixKind X.prog X.w)) hu (key_of I0.hok hb) dh fun hp dh2 same => fin _ _ ?_ nx
  obtain ⟨ob, ds, dp, k1, k2, k3, k4, _, k5⟩ := dh2
  have hz2 : (putK kvs k z).length ≤ sizeLine := Nat.le_trans (length_putK kvs k z) hlt
  refine d_write I0 (by rw [hD]; exact True.intro) same ⟨ob, k1⟩ ⟨hz2, hm, _, (rl.put k hb rz).keeps fun c ys ec => ?_, ob, ds, dp, k1, k2, k3, k4, k5⟩
  rw [upd_ne (ne_of ec hD (fun q => nomatch q))]
  exact ec
section
variable {X : Cx}
def tDcT (wi : TI) (g : TG) (tt : TT) (tk tv : TE) (vs : List Nat) : TE := fun σ H Q => wi σ H fun J H1 => ∀ Dx, H1 Dx = none → ∃ W : Nat → Nat → Hp → Prop, (∃ m, W 0 m (upd H1 Dx (.dT []))) ∧ ∀ i m Hi, W i m Hi →
  (J.stop i Hi ∧ Q (.ref Dx) Hi) ∨ (J.go i Hi ∧ ∃ Nx : Hp → Prop, (∀ Hn, Nx Hn → ∃ m', m' < m ∧ W (i + 1) m' Hn) ∧ ∀ x Hn, J.yld i Hi x Hn → g x (wipe σ vs) Hn fun σ2 H2 => wipe σ2 vs = wipe σ vs ∧ tt σ2 H2 fun b H3 => if b = true then tk σ2 H3 fun y H4 => tv σ2 H4 fun z H5 => DtPut Dx Nx y z H5 else Nx H3)
theorem dcT_core {pns : List (Addr × Obj)} {s0 : Shared} {σ : L2.St} {H : Hp} {Q : VK} {kx vx tg iter : Expr} {scope : Scope} {own : List (Str × Nat)} {pos pos2 : Pos} {wi : TI} {g : TG} {tt : TT} {tk tv : TE} {use : Option (Value → Sem Unit)} {Qf : Value → Shared → Prop}
    (hu : X.A.units < cLine) (hcalm : X.calm = true) (hnd : X.N.Nodup) (I : L2.Inv X pns σ H s0) (hit : PI X tg iter wi) (hok : BlkOk X.N X.env.scope scope own)
    (hgt : ∀ (s : Shared) (H : Hp) (C : Addr) (cl : List (Str × Addr)) (ps : List Addr), PG (X.blk s H scope (compEnvC scope cl C X.env) ps) tg g)
    (htt : ∀ (s : Shared) (H : Hp) (C : Addr) (cl : List (Str × Addr)) (ps : List Addr), PTs (X.blk s H scope (compEnvC scope cl C X.env) ps) [] tt)
    (hkey : ∀ (s : Shared) (H : Hp) (C : Addr) (cl : List (Str × Addr)) (ps : List Addr), PE (X.blk s H scope (compEnvC scope cl C X.env) ps) kx tk)
    (hval : ∀ (s : Shared) (H : Hp) (C : Addr) (cl : List (Str × Addr)) (ps : List Addr), PE (X.blk s H scope (compEnvC scope cl C X.env) ps) vx tv) (hfold : ∀ x, foldedSetIterable iter X.env x = pure x)
    (hh : tDcT wi g tt tk tv (own.map (·.2)) σ H Q)
    (hend : ∀ Dx C s1 m H1, L2.Inv X pns σ H1 s1 → Q (.ref Dx) H1 → s1.heap.Ns C m → FpOk X pns H1 C → compPost (model X.prog X.w) X.A X.xe use Qf (.ref Dx) C (.ok .next) s1) :
    wpAny (model X.prog X.w) X.A (comprehension (.DictComp kx vx [⟨tg, iter, [], 0⟩] scope pos) scope X.env pos2 newDict false (eval iter X.env) use) Qf X.xe s0 := by
  have hcells : ∀ y ∈ scope.names, y.2 = .free → ∃ c, X.env.cells.lookup y.1 = some c := fun y hy e => (hok.free y hy e).elim (fun k => I.ok.has _ (.inl k)) fun k => I.ok.has _ (.inr k)
  refine wpAny_comprehension_free (use := use) rfl hfold (closure_ok hcells) hok.kind (fun y hy e => by rw [hok.uniq y hy, e]) (thn (hit.run pns s0 σ H _ I hh) fun _ s1 hx => thn hx fun _ s2 h2 => ?_)
  obtain ⟨it, ps, tn, J, H2, rfl, I2, T, st2, f2, q⟩ := h2
  refine wpAny_newObj_type (newEnv_comp ?_)
  generalize eD : s2.heap.objs.size = Dx
  have free2 : H2 Dx = none := I2.hok.fresh (Nat.le_of_eq eD)
  obtain ⟨W, ⟨m0, w0⟩, turn⟩ := q Dx free2
  generalize e3 : ({ s2 with heap := s2.heap.push { cls := .type "dict", data := .dict #[] } } : Shared) = s3
  have hp3 : s3.heap = s2.heap.push { cls := .type "dict", data := .dict #[] } := by rw [← e3]
  have I3 : L2.Inv X pns σ (upd H2 Dx (.dT [])) s3 := by
    rw [← e3]
    exact I2.laid (t' := s2.toks) (fun b o e => Heap.get?_push_of_some _ e) (Nat.le_of_eq eD) (by rw [← eD]; exact dt_empty s2.heap I2.big)
  have old : ∀ b ∈ ps, b < s2.heap.objs.size := fun b hb => let ⟨_, e, _⟩ := T.obj _ _ st2 b hb; Heap.lt_size e
  have f3 : ∀ b ∈ ps, FpOk X pns (upd H2 Dx (.dT [])) b ∧ b < s3.heap.objs.size := fun b hb => by
    refine ⟨⟨?_, (f2 b hb).2⟩, by rw [hp3, Heap.size_push]; exact Nat.lt_succ_of_lt (old b hb)⟩
    rw [upd_ne (by rw [← eD]; exact Nat.ne_of_lt (old b hb))]
    exact (f2 b hb).1
  have st3 : tn 0 s3.heap := T.keep _ _ _ st2 fun b _ o e => by rw [hp3]; exact Heap.get?_push_of_some _ e
  have I4 := block_start I3 hok hnd f3
  generalize eC : cellsFrom (s3.heap.objs.size + 1) scope.names (cloFrom X.env.cells scope.names []) = clo at I4 ⊢
  have pg := hgt s3 (upd H2 Dx (.dT [])) s3.heap.objs.size clo ps
  have pt := htt s3 (upd H2 Dx (.dT [])) s3.heap.objs.size clo ps
  have pk := hkey s3 (upd H2 Dx (.dT [])) s3.heap.objs.size clo ps
  have pv := hval s3 (upd H2 Dx (.dT [])) s3.heap.objs.size clo ps
  show codeAny _ _ (.compStart (.DictComp kx vx [⟨tg, iter, [], 0⟩] scope pos) 0 (.ref it) (.ref Dx) (compEnvC scope clo s3.heap.objs.size X.env)) (compPost (model X.prog X.w) X.A X.xe use Qf (.ref Dx) s3.heap.objs.size) { s3 with heap := pushCells (s3.heap.push { cls := .type "dict", data := .dict #[] }) scope.names }
  have nps : ∀ b ∈ ps, (upd H2 Dx (.dT [])) b = none := fun b hb => (f3 b hb).1.1
  generalize ee : compEnvC scope clo s3.heap.objs.size X.env = ce at I4 pg pt pk pv ⊢
  have locE : ce.locals = s3.heap.objs.size := by subst ee; rfl
  generalize eH : upd H2 Dx (.dT []) = H3 at I3 I4 pg pt pk pv w0 nps f3
  generalize e4 : ({ s3 with heap := pushCells (s3.heap.push { cls := .type "dict", data := .dict #[] }) scope.names } : Shared) = s4 at I4 ⊢
  have st4 : tn 0 s4.heap := T.keep _ _ _ st3 fun b _ o e => by rw [← e4]; exact pushCells_keeps _ _ _ _ (Heap.get?_push_of_some _ e)
  have fpb : ∀ {σ1 : L2.St} {Hq : Hp} {s1 : Shared}, L2.Inv (X.blk s3 H3 scope ce ps) [] σ1 Hq s1 → (∀ b ∈ ps, Hq b = none) → ∀ b ∈ ps, FpOk (X.blk s3 H3 scope ce ps) [] Hq b := fun {_ _ _} J1 hn b hb =>
    ⟨hn b hb, (J1.ok.exf b hb).1, J1.ok.exfs b hb, .inl hb, fun x c e => (J1.ok.exf b hb).2 x c e, fun p hp => absurd (show p ∈ ([] : List (Addr × Obj)) ++ [] from hp) (by simp)⟩
  have loop : codeAny (model X.prog X.w) X.A (.compLoop (.DictComp kx vx [⟨tg, iter, [], 0⟩] scope pos) 0 (.ref it) (.ref Dx) ce) (compPost (model X.prog X.w) X.A X.xe use Qf (.ref Dx) s3.heap.objs.size) s4 := by
    refine compLoop_anyD (fun n sn => ∃ i Hn, L2.Inv (X.blk s3 H3 scope ce ps) [] (wipe σ (own.map (·.2))) Hn sn ∧ tn i sn.heap ∧ (∀ b ∈ ps, Hn b = none) ∧ W i n Hn) ?_ m0 ⟨0, H3, I4, st4, nps, w0⟩
    rintro n s5 ⟨i, H5, I5, st5, n5, w5⟩
    rcases turn i n H5 w5 with ⟨stop, qq⟩ | ⟨go, Nx, hNx, step⟩
    · refine thnF (T.done (X.blk s3 H3 scope ce ps) rfl rfl rfl hcalm i [] s5 _ H5 (fun _ _ => False) I5 (fpb I5 n5) st5 stop) fun r s6 ⟨hr, I6⟩ => ?_
      subst hr
      have I7 : L2.Inv X pns σ H5 s6 := I3.call' (ch := ps) I6.os I6.base I6.hok I6.bare fun b hb => ⟨(f3 b hb).1.2.2.2.1, (f3 b hb).1.2.1, (f3 b hb).1.2.2.2.2.1, (f3 b hb).1.2.2.2.2.2⟩
      have nC : H5 s3.heap.objs.size = none := locE ▸ (show H5 ce.locals = none from I6.free)
      obtain ⟨m, hn, _⟩ := I6.loc
      exact hend Dx s3.heap.objs.size s6 m H5 I7 qq (locE ▸ (show s6.heap.Ns ce.locals m from hn)) (I3.fpOk (Nat.le_refl _) nC)
    · refine thnF (T.item (X.blk s3 H3 scope ce ps) rfl rfl rfl hcalm i [] s5 _ H5 (fun _ _ => False) I5 (fpb I5 n5) st5 go) fun r s6 ⟨u, hr, h6⟩ => ?_
      subst hr
      refine thnF h6 fun _ s7 ⟨x, H7, I7, r7, y7, st7, n7⟩ => thnF (pg.run _ s7 _ H7 x u _ (I7.pinned (fpb I7 n7) (T.obj _ _ st7)) r7 (step x H7 y7)) fun _ s8 ⟨σ8, H8, I8, hw8, q8⟩ => ?_
      have fin : ∀ (s1 : Shared) (Hn : Hp), L2.Inv (X.blk s3 H3 scope ce ps) ([] ++ pinsAt ps s7.heap) σ8 Hn s1 → Nx Hn → ∃ m, m < n ∧ ∃ i Hn, L2.Inv (X.blk s3 H3 scope ce ps) [] (wipe σ (own.map (·.2))) Hn s1 ∧ tn i s1.heap ∧ (∀ b ∈ ps, Hn b = none) ∧ W i m Hn := fun s1 Hn J1 nx => by
        obtain ⟨m1, hm, w1⟩ := hNx Hn nx
        have pinned : ∀ b ∈ ps, ∀ o, s7.heap.get? b = some o → s1.heap.get? b = some o ∧ Hn b = none := fun b hb o e => ⟨(J1.pin (b, o) (List.mem_append_right _ (List.mem_append_right _ (mem_pinsAt hb e)))).1, (J1.pin (b, o) (List.mem_append_right _ (List.mem_append_right _ (mem_pinsAt hb e)))).2.1⟩
        refine ⟨m1, hm, i + 1, Hn, (J1.unpinned (pins := [])).weak (by rw [← hw8, wipe_length]) (fun j v e => (wipe_some (by rw [← hw8] at e; exact e)).1), T.keep _ _ _ st7 fun b hb o e => (pinned b hb o e).1, fun b hb => ?_, w1⟩
        obtain ⟨o, e, _⟩ := T.obj _ _ st7 b hb
        exact (pinned b hb o e).2
      refine thnF (pt.run _ s8 σ8 H8 _ I8 q8) fun b s9 ⟨H9, I9, q9⟩ => ?_
      cases b with
      | true =>
        rw [if_pos rfl] at q9 ⊢
        exact thnF (pk.run _ s9 σ8 _ _ I9 q9) fun z s10 ⟨yk, H10, I10, r10, q10⟩ => thnF (pv.run _ s10 σ8 H10 _ I10 q10) fun z2 s11 ⟨yv, H11, I11, r11, put⟩ => dt_store (X := X.blk s3 H3 scope ce ps) hu I11 put r10 r11 fin
      | false =>
        rw [if_neg Bool.false_ne_true] at q9 ⊢
        exact fin s9 H9 I9 q9
  exact codeAny_compStart_dict loop (T.self X.A 0 _ _ _ st4 loop)
theorem pe_dcT {kx vx tg iter : Expr} {scope : Scope} {own : List (Str × Nat)} {pos : Pos} {wi : TI} {g : TG} {tt : TT} {tk tv : TE} (hu : X.A.units < cLine) (hcalm : X.calm = true) (hnd : X.N.Nodup) (hit : PI X tg iter wi) (hok : BlkOk X.N X.env.scope scope own)
    (hgt : ∀ (s : Shared) (H : Hp) (C : Addr) (cl : List (Str × Addr)) (ps : List Addr), PG (X.blk s H scope (compEnvC scope cl C X.env) ps) tg g)
    (htt : ∀ (s : Shared) (H : Hp) (C : Addr) (cl : List (Str × Addr)) (ps : List Addr), PTs (X.blk s H scope (compEnvC scope cl C X.env) ps) [] tt)
    (hkey : ∀ (s : Shared) (H : Hp) (C : Addr) (cl : List (Str × Addr)) (ps : List Addr), PE (X.blk s H scope (compEnvC scope cl C X.env) ps) kx tk)
    (hval : ∀ (s : Shared) (H : Hp) (C : Addr) (cl : List (Str × Addr)) (ps : List Addr), PE (X.blk s H scope (compEnvC scope cl C X.env) ps) vx tv) (hfold : ∀ x, foldedSetIterable iter X.env x = pure x := by intro _; rfl) :
    PE X (.DictComp kx vx [⟨tg, iter, [], 0⟩] scope pos) (tDcT wi g tt tk tv (own.map (·.2))) := by
  refine ⟨fun pns s0 σ H Q I hh => ?_⟩
  rw [arm_eval_DictComp]
  refine dcT_core hu hcalm hnd I hit hok hgt htt hkey hval hfold hh fun Dx C s1 m H1 I1 q hn ⟨f0, f1, f2, f3, f4, f5⟩ => ⟨m, hn, fun hp sb => ?_⟩
  exact ⟨.ref Dx, H1, I1.turned (t' := s1.toks) (fun b o hb e => (sb.2 b hb).trans e) f0 f1 f3 f4 f5, rfl, q⟩
end
section
variable {X : Cx} {c : Cn} {cl : CallT} {σ : L2.St} {H : Hp} {tg a b d o : Expr} {mk mv : Ev.D} {pos p pos2 : Pos} {M M1 : Ms} {l l1 : Hl} {D : Addr}
theorem dcT_lemma {Q : VK} {src : Ev.G} {g : List Ev.W → Ev.W → (List Ev.W → Ra) → Ra} {gt : TG} {us : List Nat} (htg : TgOk c Ra.err g gt us) (h : tM c cl (Ev.eDc true src g mk mv) σ H Q) : tDcT (tG c cl src) gt (tT c cl Ev.tYes) (tM c cl mk) (tM c cl mv) us σ H Q := by
  obtain ⟨M, l, s, eH, r, sl, w, n', l', ev, k⟩ := h
  subst eH
  obtain ⟨tot, n2, l2, e1, e2⟩ := Ra.b_ok ev
  obtain ⟨hl, e3⟩ := few_ne e2 Rs.ne
  obtain ⟨hak, e4⟩ := ite_ne e3 Rs.ne
  obtain ⟨hnd, e5⟩ := ite_ne e4 Rs.ne
  cases e5
  have e1' : Sr.rec (motive := fun _ => Ra) .err (fun ws n1 l1 => Ev.dcL g mk mv cl s ws n1 l1) (fun _ _ _ _ => .err) (src cl s M.n l) = .ok tot n' l' := e1
  refine ⟨M, l, s, rfl, r, sl, (fun z => by rw [z] at e1'; cases e1'), fun M1 J at1 x1 jok D hD => ?_⟩
  have fin : ∀ (M' : Ms) (v : V), M'.n = n' → Rep c M' l' → Ext M1 M' → RV c M' (.dct true (Ev.evens tot) (Ev.odds tot)) v → Q v M'.H := fun M' v h1 h2 h3 h4 => k M' v h1 h2 (x1.trans h3) h4
  cases q : src cl s M.n l with
  | err => rw [q] at at1; exact at1.elim
  | ref en i0 n1 l1 => rw [q] at e1'; cases e1'
  | lst ws n1 l1 =>
    rw [q] at at1 jok e1'
    obtain ⟨en, r1⟩ := at1
    subst en
    refine ⟨fun i m H' => m = ws.length - i ∧ i ≤ ws.length ∧ DcAt c (tkeyOf c) HO.dT M1 D tot n' l' (fun n l => Ev.dcL g mk mv cl s (ws.drop i) n l) H', ⟨ws.length, by simp, Nat.zero_le _, dc_start (by intro xs z; cases z) r1 hD e1'⟩, ?_⟩
    rintro i m H' ⟨rfl, hi, hL⟩
    by_cases hlt : i < ws.length
    · obtain ⟨M2, l2, ks, vs, rs, kvs, rfl, r2, x2, e, hacc, hks, hvs, hn, htt⟩ := hL
      obtain ⟨go, yl⟩ := (jok i M2 l2 r2 x2.toExt0).1 ws[i] (by simp [hlt])
      refine .inr ⟨go, DcAt c (tkeyOf c) HO.dT M1 D tot n' l' (fun n l => Ev.dcL g mk mv cl s (ws.drop (i + 1)) n l), fun H' z => ⟨ws.length - (i + 1), by omega, rfl, hlt, z⟩, fun x H4 hy => ?_⟩
      obtain ⟨M5, rfl, n5, r5, x5, rv5⟩ := yl x H4 hy
      rw [List.drop_eq_getElem_cons hlt, ← n5] at hn
      refine dc_turn (K := DtPut D (DcAt c (tkeyOf c) HO.dT M1 D tot n' l' (fun n l => Ev.dcL g mk mv cl s (ws.drop (i + 1)) n l))) (t := true) (s := s) (w := ws[i]) (nxt := fun n l => Ev.dcL g mk mv cl s (ws.drop (i + 1)) n l) tkeyR (by intro kvs xs z; cases z) (fun M x v h1 h2 => let ⟨k, _, q1, _⟩ := isKey_T h1 h2; ⟨k, q1⟩) htg r1 hD hl hnd hak r5 (x2.trans x5) (x5.hold D e).1 ((x5.hold D e).2.trans hacc) hks (RVs.mono x5 _ _ hvs) (sl.mono ((x1.trans x2).trans x5)) hn htt rv5 ?_
      exact fun M6 wk y z kvs k g1 g2 g3 g4 g5 g6 => let ⟨bb, q1, q2⟩ := tkeyV g3 g1; ⟨kvs, k, bb, q1, q2, g4, g5, g6⟩
    · have e : i = ws.length := by omega
      subst e
      have hL2 := hL
      obtain ⟨M2, l2, _, _, _, _, rfl, r2, x2, _⟩ := hL2
      refine .inl ⟨(jok _ M2 l2 r2 x2.toExt0).2 rfl, dc_stop (nxt := fun n l => Ev.dcL g mk mv cl s (ws.drop ws.length) n l) (fun M kvs ks vs h1 h2 h3 h4 h5 h6 => ?_) r1 hD (fun n l rs n' l' z => ?_) hL fin⟩
      · rw [h1, h2]
        exact ⟨D, rfl, h3, kvs, .inl h4, h5, h6⟩
      · rw [List.drop_length] at z
        cases z
        exact ⟨rfl, rfl, rfl⟩
theorem ce_dcT {kx vx iter : Expr} {scope : Scope} {own : List (Str × Nat)} {src : Ev.G} {g : List Ev.W → Ev.W → (List Ev.W → Ra) → Ra} {gt : TG} (hu : X.A.units < cLine) (hc : X.calm = true) (hN : X.N.Nodup) (htg : TgOk c Ra.err g gt (own.map (·.2))) (hi : PI X tg iter (tG c cl src)) (ok : BlkOk X.N X.env.scope scope own)
    (hg : ∀ (s : Shared) (H : Hp) (C : Addr) (cl : List (Str × Addr)) (fp : List Addr), PG (X.blk s H scope (compEnvC scope cl C X.env) fp) tg gt)
    (hk : ∀ (s : Shared) (H : Hp) (C : Addr) (cl2 : List (Str × Addr)) (fp : List Addr), PE (X.blk s H scope (compEnvC scope cl2 C X.env) fp) kx (tM c cl mk))
    (he : ∀ (s : Shared) (H : Hp) (C : Addr) (cl2 : List (Str × Addr)) (fp : List Addr), PE (X.blk s H scope (compEnvC scope cl2 C X.env) fp) vx (tM c cl mv)) (hs : ∀ x, foldedSetIterable iter X.env x = pure x := by intro _; rfl) :
    PE X (.DictComp kx vx [⟨tg, iter, [], 0⟩] scope pos) (tM c cl (Ev.eDc true src g mk mv)) := pe_imp (pe_dcT hu hc hN hi ok hg (fun s H C cl2 fp => cts_nil (c := c) (cl := cl)) hk he hs) fun σ H Q h => dcT_lemma htg h
end
end Sd
end

section
set_option Elab.async false
set_option linter.all false
set_option maxRecDepth 100000
/-! Sd21: the rules as a def's derivation writes them: by a context, with one computed condition each. -/
namespace Sd
open PySem PySem.Spec PyProof.Rows L2
open Ev (Hl Rs Rb Ra So Sr CallT)
def visB (sc : Scope) (x : Str) : Bool := match sc.names.lookup x with
  | some .local => true
  | some .cell => true
  | some .free => true
  | _ => false
def locB (sc : Scope) (x : Str) : Bool := match sc.names.lookup x with
  | some .local => true
  | some .cell => true
  | _ => false
def notDbg (x : Str) : Bool := !(x == ("__debug__" : Str)) && !(x == ("__classdict__" : Str))
def atB (N : List Str) (i : Nat) (x : Str) : Bool := decide (N[i]? = some x)
def isLoc (sc : Scope) (x : Str) : Bool := match sc.names.lookup x with
  | some .local => true
  | _ => false
/-- a local name in slot i, to be read; to be stored -/
def varB (N : List Str) (sc : Scope) (i : Nat) (x : Str) : Bool := atB N i x && visB sc x && notDbg x
def stoB (N : List Str) (sc : Scope) (F : Str → Bool) (i : Nat) (x : Str) : Bool := atB N i x && locB sc x && (F x || isLoc sc x)
def glB (sc : Scope) (x : Str) : Bool := (match sc.names.lookup x with | some .globalImplicit => true | _ => false) && notDbg x
theorem visB_ok {sc : Scope} {x : Str} (h : visB sc x = true) : Vis sc x := by
  unfold visB at h
  split at h
  · rename_i e; exact .inl e
  · rename_i e; exact .inr (.inl e)
  · rename_i e; exact .inr (.inr e)
  · cases h
theorem locB_ok {sc : Scope} {x : Str} (h : locB sc x = true) : Loc sc x := by
  unfold locB at h
  split at h
  · rename_i e; exact .inl e
  · rename_i e; exact .inr e
  · cases h
theorem isLoc_ok {sc : Scope} {x : Str} (h : isLoc sc x = true) : sc.names.lookup x = some .local := by
  unfold isLoc at h
  split at h
  · assumption
  · cases h
theorem notDbg_ok {x : Str} (h : notDbg x = true) : (x == ("__debug__" : Str)) = false ∧ (x == ("__classdict__" : Str)) = false := by
  unfold notDbg at h
  rw [Bool.and_eq_true] at h
  exact ⟨by simpa using h.1, by simpa using h.2⟩
theorem glB_ok {sc : Scope} {x : Str} (h : glB sc x = true) : sc.names.lookup x = some .globalImplicit ∧ (x == ("__debug__" : Str)) = false := by
  unfold glB at h
  rw [Bool.and_eq_true] at h
  refine ⟨?_, (notDbg_ok h.2).1⟩
  have h1 := h.1
  split at h1
  · assumption
  · cases h1
theorem atB_ok {N : List Str} {i : Nat} {x : Str} (h : atB N i x = true) : N[i]? = some x := of_decide_eq_true h
def notStar (e : Expr) : Bool := match e with
  | .Starred .. => false
  | _ => true
section
variable {g : Gb} {X : Cx} {N : List Str} {sc : Scope} {F : Str → Bool} {k i : Nat} {x : Str} {cl : CallT} {pos p : Pos} {a b d o : Expr} {ma mb md mo : Ev.D}
theorem sv (C : Ctx g X N sc F k) (h : varB N sc i x = true) : PE X (.Name x pos) (tM g.c cl (Ev.eVar i)) := by
  unfold varB at h
  rw [Bool.and_eq_true, Bool.and_eq_true] at h
  exact ce_var (C.at_ (atB_ok h.1.1)) (C.vis (visB_ok h.1.2)) (notDbg_ok h.2).1 (notDbg_ok h.2).2
theorem Ctx.glb (C : Ctx g X N sc F k) (h : glB sc x = true) : Gl X x := C.gl (glB_ok h).1
theorem Ctx.ndb (C : Ctx g X N sc F k) (h : glB sc x = true) : (x == ("__debug__" : Str)) = false := (glB_ok h).2
theorem Ctx.okB (C : Ctx g X N sc F k) {bs : Scope} {own : List (Str × Nat)} (h : blkC N sc bs own = true) : BlkOk X.N X.env.scope bs own := by
  rw [C.N, C.sc]
  exact blkOk_by h
theorem pgn (C : Ctx g X N sc F k) (h : stoB N sc F i x = true) : PG X (.Name x pos) (gName i) := by
  unfold stoB at h
  rw [Bool.and_eq_true, Bool.and_eq_true, Bool.or_eq_true] at h
  refine pg_name C.ndN (C.at_ (atB_ok h.1.1)) (C.loc (locB_ok h.1.2)) ?_
  rcases h.2 with z | z
  · exact .inl (C.own z)
  · exact .inr (C.lcl (isLoc_ok z))
theorem pg2 (C : Ctx g X N sc F k) {j kk : Nat} {y : Str} {p1 p2 : Pos} (h : stoB N sc F i x = true) (h2 : stoB N sc F j y = true) (hs : (assignEach [.Name x p1, .Name y p2] X.env).map (·.2) = assign (.Name x p1) X.env :: (assignEach [.Name y p2] X.env).map (·.2) := by rfl)
    (hs2 : (assignEach [.Name y p2] X.env).map (·.2) = assign (.Name y p2) X.env :: (assignEach [] X.env).map (·.2) := by rfl) (hn : (assignEach [.Name x p1, .Name y p2] X.env).length = 2 := by rfl) (hst : (assignEach [.Name x p1, .Name y p2] X.env).findIdx? (·.1) = none := by rfl) :
    PG X (.Tuple [.Name x p1, .Name y p2] kk pos) (gTup g.c.K 2 (gCons (gName i) (gCons (gName j) gNil))) := by
  rw [← C.K]
  exact pg_tup C.calm (pgs_cons (pgn C h) (pgs_cons (pgn C h2) pgs_nil hs2) hs) hn hst
theorem pg3 (C : Ctx g X N sc F k) {j m kk : Nat} {y z : Str} {p1 p2 p3 : Pos} (h : stoB N sc F i x = true) (h2 : stoB N sc F j y = true) (h3 : stoB N sc F m z = true)
    (hs : (assignEach [.Name x p1, .Name y p2, .Name z p3] X.env).map (·.2) = assign (.Name x p1) X.env :: (assignEach [.Name y p2, .Name z p3] X.env).map (·.2) := by rfl)
    (hs2 : (assignEach [.Name y p2, .Name z p3] X.env).map (·.2) = assign (.Name y p2) X.env :: (assignEach [.Name z p3] X.env).map (·.2) := by rfl)
    (hs3 : (assignEach [.Name z p3] X.env).map (·.2) = assign (.Name z p3) X.env :: (assignEach [] X.env).map (·.2) := by rfl) (hn : (assignEach [.Name x p1, .Name y p2, .Name z p3] X.env).length = 3 := by rfl)
    (hst : (assignEach [.Name x p1, .Name y p2, .Name z p3] X.env).findIdx? (·.1) = none := by rfl) :
    PG X (.Tuple [.Name x p1, .Name y p2, .Name z p3] kk pos) (gTup g.c.K 3 (gCons (gName i) (gCons (gName j) (gCons (gName m) gNil)))) := by
  rw [← C.K]
  exact pg_tup C.calm (pgs_cons (pgn C h) (pgs_cons (pgn C h2) (pgs_cons (pgn C h3) pgs_nil hs3) hs2) hs) hn hst
theorem Ctx.u64 (C : Ctx g X N sc F k) : X.A.units + 64 < cLine := C.room.units
/-! ### a comprehension's list stored at once, or not -/
def swB (sc bs : Scope) (y : Str) (l1 l2 : Nat) : Bool := (match sc.kind with | .function => true | _ => false) && isLoc sc y && (l1 == l2) && !(bs.names.any fun (n, k) => n == y && (k == .local || k == .cell))
theorem isLoc_eq {sc : Scope} {y : Str} : (sc.names.lookup y == some NameKind.local) = isLoc sc y := by
  unfold isLoc
  cases sc.names.lookup y with
  | none => rfl
  | some q => cases q <;> rfl
theorem Ctx.swL (C : Ctx g X N sc F k) {elt : Expr} {gs : List Comprehension} {bs : Scope} {py : Pos} {y : Str} {l : Nat} {t : Bool} (hk : sc.kind = .function) (h : swB sc bs y py.line pos.line = t) : swapsWith (.ListComp elt gs bs pos) (some (.Name y py)) l X.env = pure t := by
  subst h
  have ek : X.env.scope.kind = .function := by rw [C.sc]; exact hk
  have hb : X.env.blockKind = .function := by unfold Env.blockKind; rw [ek]; rfl
  have ky : (X.env.kindOf y == some NameKind.local) = isLoc sc y := by
    show (X.env.scope.names.lookup y == some NameKind.local) = _
    rw [C.sc]
    exact isLoc_eq
  unfold swapsWith swB
  simp only [hb, ky, Expr.pos, hk]
  rfl
theorem Ctx.swD (C : Ctx g X N sc F k) {kx vx : Expr} {gs : List Comprehension} {bs : Scope} {py : Pos} {y : Str} {l : Nat} {t : Bool} (hk : sc.kind = .function) (h : swB sc bs y py.line pos.line = t) : swapsWith (.DictComp kx vx gs bs pos) (some (.Name y py)) l X.env = pure t := by
  subst h
  have ek : X.env.scope.kind = .function := by rw [C.sc]; exact hk
  have hb : X.env.blockKind = .function := by unfold Env.blockKind; rw [ek]; rfl
  have ky : (X.env.kindOf y == some NameKind.local) = isLoc sc y := by
    show (X.env.scope.names.lookup y == some NameKind.local) = _
    rw [C.sc]
    exact isLoc_eq
  unfold swapsWith swB
  simp only [hb, ky, Expr.pos, hk]
  rfl
/-- .. a dict's -/
theorem ps_setDc {y : Str} {py : Pos} {kx vx tg iter : Expr} {bs : Scope} {own : List (Str × Nat)} {ps ss : Pos} {wi : TI} {gt : TG} {tt : TT} {tk tv : TE} (hcalm : X.calm = true) (hnd : X.N.Nodup) (hy : X.N[i]? = some y) (hyl : X.env.scope.names.lookup y = some .local)
    (hsw : swapsWith (.DictComp kx vx [⟨tg, iter, [], 0⟩] bs ps) (some (.Name y py)) ss.line X.env = pure true) (hit : PI X tg iter wi) (hok : BlkOk X.N X.env.scope bs own)
    (hgt : ∀ (s : Shared) (H : Hp) (C : Addr) (cl : List (Str × Addr)) (fp : List Addr), PG (X.blk s H bs (compEnvC bs cl C X.env) fp) tg gt) (htt : ∀ (s : Shared) (H : Hp) (C : Addr) (cl : List (Str × Addr)) (fp : List Addr), PTs (X.blk s H bs (compEnvC bs cl C X.env) fp) [] tt)
    (hkx : ∀ (s : Shared) (H : Hp) (C : Addr) (cl : List (Str × Addr)) (fp : List Addr), PE (X.blk s H bs (compEnvC bs cl C X.env) fp) kx tk)
    (hvx : ∀ (s : Shared) (H : Hp) (C : Addr) (cl : List (Str × Addr)) (fp : List Addr), PE (X.blk s H bs (compEnvC bs cl C X.env) fp) vx tv) (hfold : ∀ x, foldedSetIterable iter X.env x = pure x := by intro _; rfl) :
    PS X (.Assign [.Name y py] (.DictComp kx vx [⟨tg, iter, [], 0⟩] bs ps) ss) (tAsg (tDc wi gt tt tk tv (own.map (·.2))) (gName i)) := by
  refine ⟨fun pns s0 σ H D I h => ?_⟩
  rw [exec_Assign_Name_used _ _ _ _ hsw]
  refine wpAny_bind (wpAny_standAt (wpAny_bind ?_))
  show wpAny _ X.A (do let _ ← comprehension (.DictComp kx vx [⟨tg, iter, [], 0⟩] bs ps) bs X.env (firstIterPos [⟨tg, iter, [], 0⟩] ps) newDict false (eval iter X.env) (some (assign (.Name y py) X.env))) _ _ s0
  have hd : tDc wi gt tt tk tv (own.map (·.2)) σ H (fun x H1 => gName i x σ H1 D.nx) := h
  refine wpAny_bind (thn (dc_core (Qf := fun _ sn => SP X pns D .next sn) hcalm hnd I hit hok hgt htt hkx hvx hfold hd fun L C sn m H1 I1 q hn f => ?_) fun _ sn hq => wpAny_pure (wpAny_pure hq))
  obtain ⟨f0, f1, f2, f3, f4, f5⟩ := f
  show wpAny _ _ (assign (.Name y py) X.env (.ref L)) _ _ _
  refine wpAny_assign_Name (store_ok2 (v := V.ref L) I1 hnd hy (.inl hyl) rfl (fun s2 I2 ⟨q1, sb, ha⟩ => ⟨m, hn.sameBut sb (ha.elim (fun z => by rw [z]; exact f1) fun z e => f4 y q1 z e.symm), fun h3 sb3 => ?_⟩) (.inr hyl))
  exact ⟨_, H1, I2.turned (t' := s2.toks) (fun b o hb e => (sb3.2 b hb).trans e) f0 f1 f3 f4 f5, q⟩
theorem cs_setDcK {y : Str} {py : Pos} {kx vx tg iter : Expr} {bs : Scope} {own : List (Str × Nat)} {ps ss : Pos} {src : Ev.G} {gm : List Ev.W → Ev.W → (List Ev.W → Ra) → Ra} {gt : TG} {mk mv : Ev.D} {c : Cn} (hcalm : X.calm = true) (hnd : X.N.Nodup) (hy : X.N[i]? = some y) (hyl : X.env.scope.names.lookup y = some .local)
    (hsw : swapsWith (.DictComp kx vx [⟨tg, iter, [], 0⟩] bs ps) (some (.Name y py)) ss.line X.env = pure true) (htg : TgOk c Ra.err gm gt (own.map (·.2))) (hit : PI X tg iter (tG c cl src)) (hok : BlkOk X.N X.env.scope bs own)
    (hgt : ∀ (s : Shared) (H : Hp) (C : Addr) (cl : List (Str × Addr)) (fp : List Addr), PG (X.blk s H bs (compEnvC bs cl C X.env) fp) tg gt)
    (hkx : ∀ (s : Shared) (H : Hp) (C : Addr) (cl2 : List (Str × Addr)) (fp : List Addr), PE (X.blk s H bs (compEnvC bs cl2 C X.env) fp) kx (tM c cl mk))
    (hvx : ∀ (s : Shared) (H : Hp) (C : Addr) (cl2 : List (Str × Addr)) (fp : List Addr), PE (X.blk s H bs (compEnvC bs cl2 C X.env) fp) vx (tM c cl mv)) (hfold : ∀ x, foldedSetIterable iter X.env x = pure x := by intro _; rfl) :
    PS X (.Assign [.Name y py] (.DictComp kx vx [⟨tg, iter, [], 0⟩] bs ps) ss) (tS c cl (Ev.sAsg (fun s w => Ev.g1 i So.err w s) (Ev.eDc false src gm mk mv))) :=
  ps_imp (ps_setDc hcalm hnd hy hyl hsw hit hok hgt (fun s H C cl2 fp => cts_nil (c := c) (cl := cl)) hkx hvx hfold) fun D σ H h => by
    obtain ⟨M, l, s, eH, r, sl, w, n', l', e, k⟩ := asg_lemma (tg1 i) h
    exact dcK_lemma htg ⟨M, l, s, eH, r, sl, w, n', l', e, k⟩
/-! ### statements by the context -/
theorem ssw (C : Ctx g X N sc F k) {p1 : Pos} (h : stoB N sc F i x = true) (ha : PE X a (tM g.c cl ma)) (hs : swapsWith a (some (.Name x p1)) pos.line X.env = pure false := by rfl) : PS X (.Assign [.Name x p1] a pos) (tS g.c cl (Ev.sAsg (fun s w => Ev.g1 i So.err w s) ma)) := by
  unfold stoB at h
  rw [Bool.and_eq_true, Bool.and_eq_true, Bool.or_eq_true] at h
  refine cs_set C.ndN (C.at_ (atB_ok h.1.1)) (C.loc (locB_ok h.1.2)) ha hs ?_
  rcases h.2 with z | z
  · exact .inl (C.own z)
  · exact .inr (C.lcl (isLoc_ok z))
theorem sLc (C : Ctx g X N sc F k) {elt tg iter : Expr} {ifs : List Expr} {bs : Scope} {own : List (Str × Nat)} {src : Ev.G} {gm : List Ev.W → Ev.W → (List Ev.W → Ra) → Ra} {gt : TG} {mt : Ev.T} (htg : TgOk g.c Ra.err gm gt (own.map (·.2))) (hi : PI X tg iter (tG g.c cl src)) (ok : blkC N sc bs own = true)
    (hg : ∀ (s : Shared) (H : Hp) (A : Addr) (cl : List (Str × Addr)) (fp : List Addr), PG (X.blk s H bs (compEnvC bs cl A X.env) fp) tg gt) (ht : ∀ (s : Shared) (H : Hp) (A : Addr) (cl2 : List (Str × Addr)) (fp : List Addr), PTs (X.blk s H bs (compEnvC bs cl2 A X.env) fp) ifs (tT g.c cl mt))
    (he : ∀ (s : Shared) (H : Hp) (A : Addr) (cl2 : List (Str × Addr)) (fp : List Addr), PE (X.blk s H bs (compEnvC bs cl2 A X.env) fp) elt (tM g.c cl ma)) (hs : ∀ x, foldedSetIterable iter X.env x = pure x := by intro _; rfl) :
    PE X (.ListComp elt [⟨tg, iter, ifs, 0⟩] bs pos) (tM g.c cl (Ev.eLc src gm mt ma)) := ce_lc C.calm C.ndN htg hi (C.okB ok) hg ht he hs
/-- x = [..] -/
def setB (N : List Str) (sc bs : Scope) (i : Nat) (y : Str) (l1 l2 : Nat) : Bool := atB N i y && isLoc sc y && swB sc bs y l1 l2 && (match sc.kind with | .function => true | _ => false)
theorem setB_ok {bs : Scope} {y : Str} {l1 l2 : Nat} (h : setB N sc bs i y l1 l2 = true) : N[i]? = some y ∧ sc.names.lookup y = some .local ∧ swB sc bs y l1 l2 = true ∧ sc.kind = .function := by
  unfold setB at h
  rw [Bool.and_eq_true, Bool.and_eq_true, Bool.and_eq_true] at h
  refine ⟨atB_ok h.1.1.1, isLoc_ok h.1.1.2, h.1.2, ?_⟩
  have h2 := h.2
  split at h2
  · assumption
  · cases h2
theorem sSetLc (C : Ctx g X N sc F k) {elt tg iter : Expr} {ifs : List Expr} {bs : Scope} {own : List (Str × Nat)} {src : Ev.G} {gm : List Ev.W → Ev.W → (List Ev.W → Ra) → Ra} {gt : TG} {mt : Ev.T} {y : Str} {py ps ss : Pos} (hy : setB N sc bs i y py.line ps.line = true) (htg : TgOk g.c Ra.err gm gt (own.map (·.2))) (hi : PI X tg iter (tG g.c cl src)) (ok : blkC N sc bs own = true)
    (hg : ∀ (s : Shared) (H : Hp) (A : Addr) (cl : List (Str × Addr)) (fp : List Addr), PG (X.blk s H bs (compEnvC bs cl A X.env) fp) tg gt) (ht : ∀ (s : Shared) (H : Hp) (A : Addr) (cl2 : List (Str × Addr)) (fp : List Addr), PTs (X.blk s H bs (compEnvC bs cl2 A X.env) fp) ifs (tT g.c cl mt))
    (he : ∀ (s : Shared) (H : Hp) (A : Addr) (cl2 : List (Str × Addr)) (fp : List Addr), PE (X.blk s H bs (compEnvC bs cl2 A X.env) fp) elt (tM g.c cl ma)) (hs : ∀ x, foldedSetIterable iter X.env x = pure x := by intro _; rfl) :
    PS X (.Assign [.Name y py] (.ListComp elt [⟨tg, iter, ifs, 0⟩] bs ps) ss) (tS g.c cl (Ev.sAsg (fun s w => Ev.g1 i So.err w s) (Ev.eLc src gm mt ma))) :=
  let ⟨h1, h2, h3, h4⟩ := setB_ok hy
  cs_setLc C.calm C.ndN (C.at_ h1) (C.lcl h2) (C.swL h4 h3) htg hi (C.okB ok) hg ht he hs
theorem sSetDc (C : Ctx g X N sc F k) {kx vx tg iter : Expr} {bs : Scope} {own : List (Str × Nat)} {src : Ev.G} {gm : List Ev.W → Ev.W → (List Ev.W → Ra) → Ra} {gt : TG} {mk mv : Ev.D} {y : Str} {py ps ss : Pos} (hy : setB N sc bs i y py.line ps.line = true) (htg : TgOk g.c Ra.err gm gt (own.map (·.2))) (hi : PI X tg iter (tG g.c cl src)) (ok : blkC N sc bs own = true)
    (hg : ∀ (s : Shared) (H : Hp) (A : Addr) (cl : List (Str × Addr)) (fp : List Addr), PG (X.blk s H bs (compEnvC bs cl A X.env) fp) tg gt) (hk : ∀ (s : Shared) (H : Hp) (A : Addr) (cl2 : List (Str × Addr)) (fp : List Addr), PE (X.blk s H bs (compEnvC bs cl2 A X.env) fp) kx (tM g.c cl mk))
    (he : ∀ (s : Shared) (H : Hp) (A : Addr) (cl2 : List (Str × Addr)) (fp : List Addr), PE (X.blk s H bs (compEnvC bs cl2 A X.env) fp) vx (tM g.c cl mv)) (hs : ∀ x, foldedSetIterable iter X.env x = pure x := by intro _; rfl) :
    PS X (.Assign [.Name y py] (.DictComp kx vx [⟨tg, iter, [], 0⟩] bs ps) ss) (tS g.c cl (Ev.sAsg (fun s w => Ev.g1 i So.err w s) (Ev.eDc false src gm mk mv))) :=
  let ⟨h1, h2, h3, h4⟩ := setB_ok hy
  cs_setDcK C.calm C.ndN (C.at_ h1) (C.lcl h2) (C.swD h4 h3) htg hi (C.okB ok) hg hk he hs
theorem sLc2 (C : Ctx g X N sc F k) {elt tg iter tg1 iter1 : Expr} {bs : Scope} {own : List (Str × Nat)} {src src1 : Ev.G} {gm gm1 : List Ev.W → Ev.W → (List Ev.W → Ra) → Ra} {gt gt1 : TG} {us : List Nat} {v : Nat} (htg : TgOk g.c Ra.err gm gt us) (htg1 : TgOk g.c Ra.err gm1 gt1 [v]) (hown : own.map (·.2) = us ++ [v]) (hi : PI X tg iter (tG g.c cl src)) (ok : blkC N sc bs own = true)
    (hg : ∀ (s : Shared) (H : Hp) (A : Addr) (cl : List (Str × Addr)) (fp : List Addr), PG (X.blk s H bs (compEnvC bs cl A X.env) fp) tg gt)
    (hi1 : ∀ (s : Shared) (H : Hp) (A : Addr) (cl2 : List (Str × Addr)) (fp : List Addr), PI (X.blk s H bs (compEnvC bs cl2 A X.env) fp) tg1 iter1 (tG g.c cl src1))
    (hg1 : ∀ (s : Shared) (H : Hp) (A : Addr) (cl : List (Str × Addr)) (fp : List Addr), PG (X.blk s H bs (compEnvC bs cl A X.env) fp) tg1 gt1)
    (he : ∀ (s : Shared) (H : Hp) (A : Addr) (cl2 : List (Str × Addr)) (fp : List Addr), PE (X.blk s H bs (compEnvC bs cl2 A X.env) fp) elt (tM g.c cl ma)) (hs : ∀ x, foldedSetIterable iter X.env x = pure x := by intro _; rfl) (hs1 : ∀ env x, foldedSetIterable iter1 env x = pure x := by intro _ _; rfl) :
    PE X (.ListComp elt [⟨tg, iter, [], 0⟩, ⟨tg1, iter1, [], 0⟩] bs pos) (tM g.c cl (Ev.eLc2 src gm src1 gm1 v ma)) := ce_lc2 C.calm C.ndN htg htg1 hown hi (C.okB ok) hg hi1 hg1 he hs hs1
theorem sSetLc2 (C : Ctx g X N sc F k) {elt tg iter tg1 iter1 : Expr} {bs : Scope} {own : List (Str × Nat)} {src src1 : Ev.G} {gm gm1 : List Ev.W → Ev.W → (List Ev.W → Ra) → Ra} {gt gt1 : TG} {us : List Nat} {v : Nat} {y : Str} {py ps ss : Pos} (hy : setB N sc bs i y py.line ps.line = true) (htg : TgOk g.c Ra.err gm gt us) (htg1 : TgOk g.c Ra.err gm1 gt1 [v]) (hown : own.map (·.2) = us ++ [v]) (hi : PI X tg iter (tG g.c cl src)) (ok : blkC N sc bs own = true)
    (hg : ∀ (s : Shared) (H : Hp) (A : Addr) (cl : List (Str × Addr)) (fp : List Addr), PG (X.blk s H bs (compEnvC bs cl A X.env) fp) tg gt)
    (hi1 : ∀ (s : Shared) (H : Hp) (A : Addr) (cl2 : List (Str × Addr)) (fp : List Addr), PI (X.blk s H bs (compEnvC bs cl2 A X.env) fp) tg1 iter1 (tG g.c cl src1))
    (hg1 : ∀ (s : Shared) (H : Hp) (A : Addr) (cl : List (Str × Addr)) (fp : List Addr), PG (X.blk s H bs (compEnvC bs cl A X.env) fp) tg1 gt1)
    (he : ∀ (s : Shared) (H : Hp) (A : Addr) (cl2 : List (Str × Addr)) (fp : List Addr), PE (X.blk s H bs (compEnvC bs cl2 A X.env) fp) elt (tM g.c cl ma)) (hs : ∀ x, foldedSetIterable iter X.env x = pure x := by intro _; rfl) (hs1 : ∀ env x, foldedSetIterable iter1 env x = pure x := by intro _ _; rfl) :
    PS X (.Assign [.Name y py] (.ListComp elt [⟨tg, iter, [], 0⟩, ⟨tg1, iter1, [], 0⟩] bs ps) ss) (tS g.c cl (Ev.sAsg (fun s w => Ev.g1 i So.err w s) (Ev.eLc2 src gm src1 gm1 v ma))) :=
  let ⟨h1, h2, h3, h4⟩ := setB_ok hy
  cs_setLc2 C.calm C.ndN (C.at_ h1) (C.lcl h2) (C.swL h4 h3) htg htg1 hown hi (C.okB ok) hg hi1 hg1 he hs hs1
theorem sDcK (C : Ctx g X N sc F k) {kx vx tg iter : Expr} {bs : Scope} {own : List (Str × Nat)} {src : Ev.G} {gm : List Ev.W → Ev.W → (List Ev.W → Ra) → Ra} {gt : TG} {mk mv : Ev.D} (htg : TgOk g.c Ra.err gm gt (own.map (·.2))) (hi : PI X tg iter (tG g.c cl src)) (ok : blkC N sc bs own = true)
    (hg : ∀ (s : Shared) (H : Hp) (A : Addr) (cl : List (Str × Addr)) (fp : List Addr), PG (X.blk s H bs (compEnvC bs cl A X.env) fp) tg gt) (hk : ∀ (s : Shared) (H : Hp) (A : Addr) (cl2 : List (Str × Addr)) (fp : List Addr), PE (X.blk s H bs (compEnvC bs cl2 A X.env) fp) kx (tM g.c cl mk))
    (he : ∀ (s : Shared) (H : Hp) (A : Addr) (cl2 : List (Str × Addr)) (fp : List Addr), PE (X.blk s H bs (compEnvC bs cl2 A X.env) fp) vx (tM g.c cl mv)) (hs : ∀ x, foldedSetIterable iter X.env x = pure x := by intro _; rfl) :
    PE X (.DictComp kx vx [⟨tg, iter, [], 0⟩] bs pos) (tM g.c cl (Ev.eDc false src gm mk mv)) := ce_dcK C.calm C.ndN htg hi (C.okB ok) hg hk he hs
theorem sDcT (C : Ctx g X N sc F k) {kx vx tg iter : Expr} {bs : Scope} {own : List (Str × Nat)} {src : Ev.G} {gm : List Ev.W → Ev.W → (List Ev.W → Ra) → Ra} {gt : TG} {mk mv : Ev.D} (htg : TgOk g.c Ra.err gm gt (own.map (·.2))) (hi : PI X tg iter (tG g.c cl src)) (ok : blkC N sc bs own = true)
    (hg : ∀ (s : Shared) (H : Hp) (A : Addr) (cl : List (Str × Addr)) (fp : List Addr), PG (X.blk s H bs (compEnvC bs cl A X.env) fp) tg gt) (hk : ∀ (s : Shared) (H : Hp) (A : Addr) (cl2 : List (Str × Addr)) (fp : List Addr), PE (X.blk s H bs (compEnvC bs cl2 A X.env) fp) kx (tM g.c cl mk))
    (he : ∀ (s : Shared) (H : Hp) (A : Addr) (cl2 : List (Str × Addr)) (fp : List Addr), PE (X.blk s H bs (compEnvC bs cl2 A X.env) fp) vx (tM g.c cl mv)) (hs : ∀ x, foldedSetIterable iter X.env x = pure x := by intro _; rfl) :
    PE X (.DictComp kx vx [⟨tg, iter, [], 0⟩] bs pos) (tM g.c cl (Ev.eDc true src gm mk mv)) := ce_dcT C.room.units0 C.calm C.ndN htg hi (C.okB ok) hg hk he hs
theorem Ctx.swS (C : Ctx g X N sc F k) {y : Str} {px py pt : Pos} {kt k2 pt2} (hk : sc.kind = .function) (hx : isLoc sc x = true) (hy : isLoc sc y = true) (ha : notStar a = true) (hb2 : notStar b = true) (hl : (py.line == px.line) = true) (hxy : (x == y) = false)
    (hf : [a, b].all (foldedForSure 8) = false) (hc : [a, b].all (constantsAlone 8) = false) : swappedStores [.Tuple [.Name x px, .Name y py] kt pt] (.Tuple [a, b] k2 pt2) X.env = pure (some [x, y]) := by
  have ek : X.env.scope.kind = .function := by rw [C.sc]; exact hk
  have hb : X.env.blockKind = .function := by unfold Env.blockKind; rw [ek]; rfl
  have kk : ∀ z, isLoc sc z = true → (X.env.kindOf z == some NameKind.local) = true := fun z hz => by
    show (X.env.scope.names.lookup z == some NameKind.local) = _
    rw [C.sc, isLoc_eq]
    exact hz
  have ed : ([x, y] : List Str).eraseDups = [x, y] := by
    have e2 : (y == x) = false := by
      cases q : y == x with
      | false => rfl
      | true => rw [beq_iff_eq.mp q] at hxy; simp at hxy
    simp [List.eraseDups, List.eraseDupsBy, List.eraseDupsBy.loop, e2, hxy]
  unfold swappedStores
  simp only [hb, hf, hc, Expr.pos, List.head?_cons, Option.map_some, Option.getD_some, List.filterMap_cons, List.filterMap_nil, kk x hx, kk y hy, hl, Bool.true_and, List.length_cons, List.length_nil, beq_self_eq_true, if_true, ed]
  split
  · rename_i h
    exact absurd h (by decide)
  · split
    · rename_i h
      exfalso
      rw [List.any_cons, List.any_cons, List.any_nil, Bool.or_false, Bool.or_eq_true] at h
      rcases h with h | h
      · cases a <;> first | exact absurd h Bool.false_ne_true | exact absurd ha Bool.false_ne_true
      · cases b <;> first | exact absurd h Bool.false_ne_true | exact absurd hb2 Bool.false_ne_true
    · rfl
/-- x, y = a, b -/
def parB (N : List Str) (sc : Scope) (i j : Nat) (x y : Str) : Bool := atB N i x && atB N j y && !(i == j) && isLoc sc x && isLoc sc y
theorem sPar (C : Ctx g X N sc F k) {j : Nat} {y : Str} {px py pt : Pos} {kt k2 pt2} (h : parB N sc i j x y = true) (ha : PA X [a, b] (tA g.c cl (Ev.aCons ma (Ev.aCons mb Ev.aNil))))
    (hw : swappedStores [.Tuple [.Name x px, .Name y py] kt pt] (.Tuple [a, b] k2 pt2) X.env = pure (some [x, y])) (hs : swapsWithSole [.Tuple [.Name x px, .Name y py] kt pt] (.Tuple [a, b] k2 pt2) pos.line X.env = pure false := by rfl) :
    PS X (.Assign [.Tuple [.Name x px, .Name y py] kt pt] (.Tuple [a, b] k2 pt2) pos) (tS g.c cl (Ev.sPar i j ma mb)) := by
  unfold parB at h
  rw [Bool.and_eq_true, Bool.and_eq_true, Bool.and_eq_true, Bool.and_eq_true] at h
  exact cs_par C.calm C.ndN (C.at_ (atB_ok h.1.1.1.1)) (C.at_ (atB_ok h.1.1.1.2)) (by simpa using h.1.1.2) (C.lcl (isLoc_ok h.1.2)) (C.lcl (isLoc_ok h.2)) ha hw hs
theorem sAugA (C : Ctx g X N sc F k) {p1 : Pos} (h : stoB N sc F i x = true) (ha : PE X a (tM g.c cl ma)) : PS X (.AugAssign (.Name x p1) .Add a pos) (tS g.c cl (Ev.sAug i Ev.eAdd ma)) := by
  unfold stoB at h
  rw [Bool.and_eq_true, Bool.and_eq_true, Bool.or_eq_true] at h
  refine cs_augAdd C.ndN (C.at_ (atB_ok h.1.1)) (C.loc (locB_ok h.1.2)) ha ?_
  rcases h.2 with z | z
  · exact .inl (C.own z)
  · exact .inr (C.lcl (isLoc_ok z))
theorem sAugS (C : Ctx g X N sc F k) {p1 : Pos} (h : stoB N sc F i x = true) (ha : PE X a (tM g.c cl ma)) : PS X (.AugAssign (.Name x p1) .Sub a pos) (tS g.c cl (Ev.sAug i Ev.eSub ma)) := by
  unfold stoB at h
  rw [Bool.and_eq_true, Bool.and_eq_true, Bool.or_eq_true] at h
  refine cs_augSub C.ndN (C.at_ (atB_ok h.1.1)) (C.loc (locB_ok h.1.2)) ha ?_
  rcases h.2 with z | z
  · exact .inl (C.own z)
  · exact .inr (C.lcl (isLoc_ok z))
/-! ### constants of the module, the built-ins -/
theorem sgi (C : Ctx g X N sc F k) {n : Nat} (h : ∃ t, g.mg x = some (.int n t)) (hg : glB sc x = true) : PE X (.Name x pos) (tM g.c cl (Ev.eC (.nat n))) := by
  obtain ⟨t, h⟩ := h
  exact ce_const (pe_glob (v := .int n) (C.glb hg) (by rw [C.mg]; exact h) ⟨t, rfl⟩ (glB_ok hg).2) fun _ => rfl
theorem sgt (C : Ctx g X N sc F k) {ws : List Ev.W} (h : ∃ a, g.mg x = some (.ref a) ∧ ∀ M, RV g.c M (.wtup ws) (.ref a)) (hg : glB sc x = true) : PE X (.Name x pos) (tM g.c cl (Ev.eC (.wtup ws))) := by
  obtain ⟨t, h, h2⟩ := h
  exact ce_const (pe_glob (v := .ref t) (C.glb hg) (by rw [C.mg]; exact h) rfl (glB_ok hg).2) h2
theorem sc1 (C : Ctx g X N sc F k) {f np : Nat} {fa : Addr} {es : List Expr} {mr : Ev.A} (D : DefAt g (cl f) (k + 2) np fa) (hm : g.mg x = some (.ref fa)) (hg : glB sc x = true) (ha : PA X (a :: es) (tA g.c cl mr)) (hl : LenA mr np)
    (he : starEach (a :: es) X.env = (false, eval a X.env) :: starEach es X.env := by rfl) (hpl : (backTo pos (starEach es X.env)).any (·.1) = false := by rfl) :
    PE X (.Call (.Name x p) (a :: es) [] pos) (tM g.c cl (Ev.eCall f mr)) := ce_call C D (C.glb hg) hm ha hl (glB_ok hg).2 he hpl
theorem ce_isT {j : Nat} {p2 : Pos} (ha : PE X a (tM g.c cl ma)) : PE X (.Compare a [.Is] [.Constant (.bool true) j p2] pos) (tM g.c cl (Ev.eEq ma (Ev.eC (.bl true)))) :=
  pe_imp (pe_cmpR op_isBl ha pe_bl (nomark _)) fun σ H Q ⟨M, l, s, eH, r, sl, w, n', l', e, k⟩ => by
    subst eH
    obtain ⟨x, n1, l1, e1, e2⟩ := Rs.b_ok e
    have e3 : Ev.weq Rs.err (fun d => Rs.ok (.bl d) n1 l1) x (.bl true) = .ok w n' l' := e2
    cases x with
    | bl b =>
      refine tM.mk r sl e1 fun M1 v en r1 x1 rx => ⟨b, true, rx, rfl, ?_⟩
      have e4 : Rs.ok (.bl b) n1 l1 = .ok w n' l' := by
        cases b <;> exact e3
      cases e4
      have : decide (b = true) = b := by cases b <;> rfl
      rw [this]
      exact k M1 _ en r1 x1 rfl
    | _ => cases e3
end
end Sd
end

section
set_option Elab.async false
set_option linter.all false
set_option maxRecDepth 100000
/-! Sd22: the drawn names among the kept words; what a good name is. -/
namespace Sd
open PySem PySem.Spec PyProof.Rows L2
open Ev (Hl Rs Rb Ra So Sr CallT)
theorem strOr_ne {R : Type} {e r : R} {k : Nat → R} {w : Ev.W} (h : Ev.strOr e k w = r) (ne : e ≠ r) : ∃ i, w = .str i ∧ k i = r := by
  cases w <;> first | exact absurd h ne | exact ⟨_, rfl, h⟩
/-- one to six small letters -/
def GoodW (x : Str) : Prop := 1 ≤ x.cps.toList.length ∧ x.cps.toList.length ≤ 6 ∧ ∀ c ∈ x.cps.toList, 97 ≤ c ∧ c ≤ 122
section
variable {g : Gb} {X : Cx} {N : List Str} {sc : Scope} {F : Str → Bool} {k i : Nat} {x : Str} {cl : CallT} {pos p : Pos} {a : Expr} {ma : Ev.D}
theorem ce_inKept (C : Ctx g X N sc F k) (T : ∃ d es n, g.mg x = some (.ref d) ∧ KDict g.c.K g.w d es n ∧ ∀ i, i < 2 → PySem.W.nsIn g.c.K d (g.c.ν i) = some none) (ha : PE X a (tM g.c cl ma)) (hg : glB sc x = true) (hm : behindInMarks .In (.Name x p) = false := by with_unfolding_all rfl) :
    PE X (.Compare a [.In] [.Name x p] pos) (tM g.c cl (Ev.eInKept ma)) ∧ PT X (.Compare a [.In] [.Name x p] pos) (tT g.c cl (Ev.tB (Ev.eInKept ma))) := by
  obtain ⟨d, es, n, h1, h2, h3⟩ := T
  have D : KDict X.K X.w d es n := by rw [C.K, C.w]; exact h2
  have hb : PE X (.Name x p) (tC (.ref d)) := pe_glob (v := .ref d) (C.glb hg) (by rw [C.mg]; exact h1) rfl (C.ndb hg)
  have key : ∀ (σ : L2.St) (H : Hp) (Q : VK), tM g.c cl (Ev.eInKept ma) σ H Q → tM g.c cl ma σ H fun v H1 => (∃ (z : Str) (r : Option Value), v = .str z ∧ V.ref d = .ref d ∧ PySem.W.nsIn X.K d z = some r ∧ Q (.bl r.isSome) H1) := fun σ H Q ⟨M, l, s, eH, r, sl, w, n', l', e, kk⟩ => by
    subst eH
    obtain ⟨y, n1, l1, e1, e2⟩ := Rs.b_ok e
    obtain ⟨j, rfl, e3⟩ := strOr_ne e2 Rs.ne
    obtain ⟨hj, e4⟩ := ite_ne e3 Rs.ne
    cases e4
    refine tM.mk r sl e1 fun M1 v en r1 x1 rx => ⟨_, none, rx.2, rfl, ?_, kk M1 _ en r1 x1 rfl⟩
    rw [C.K]
    exact h3 j (Nat.le_of_ble_eq_true hj)
  exact ⟨pe_imp (pe_cmpR (op_in_kd D) ha hb hm) fun σ H Q h => key σ H Q h, pt_imp (pt_cmpR (op_in_kd D) ha hb hm) fun σ H Q h => key σ H _ (tB_test h)⟩
/-- a display of a tuple, locked at once -/
def tTupF (t : TA) : TE := fun σ H Q => t σ H fun xs H1 => xs.length ≤ sizeLine ∧ ∀ (p : Addr) (o : Obj), H1 p = none → o.dict = none → Q (.ref p) (upd H1 p (.frz o (.tup xs)))
theorem pe_tupF {es : List Expr} {t : TA} {x1} (h : PA X es t) : PE X (.Tuple es x1 pos) (tTupF t) := by
  refine ⟨fun pins s σ H Q I hq => wpAny_Tuple_spliced (thn (h.run pos pins s σ H _ I hq) fun us s1 ⟨xs, H1, I1, r, z, q⟩ => ⟨by rw [← r.length]; exact z, ?_⟩)⟩
  have new := Heap.get?_push_size s1.heap (o := { cls := .type "tuple", data := .seq us.toArray }) rfl
  refine ⟨.ref s1.heap.objs.size, upd H1 s1.heap.objs.size (.frz { cls := .type "tuple", data := .seq us.toArray } (.tup xs)), I1.laid (t' := s1.toks) (fun b u e => Heap.get?_push_of_some _ e) (Nat.le_refl _) ⟨new, z, us, r, _, new, rfl, _, rfl⟩, rfl, q _ _ (I1.hok.fresh (Nat.le_refl _)) rfl⟩
theorem ce_tupW {c : Cn} {es : List Expr} {mr : Ev.A} {x1} (h : PA X es (tA c cl mr)) : PE X (.Tuple es x1 pos) (tM c cl (Ev.eTupW mr)) :=
  pe_imp (pe_tupF h) fun σ H Q ⟨M, l, s, eH, r, sl, w, n', l', e, k⟩ => by
    subst eH
    obtain ⟨xs, n1, l1, e1, e2⟩ := Ra.b_ok e
    obtain ⟨hl, e3⟩ := few_ne e2 Rs.ne
    cases e3
    refine tA.mk r sl e1 fun M1 vs en r1 x1 rxs => ⟨?_, fun p o hp ho => ?_⟩
    · rw [← rxs.length]
      exact Nat.le_of_lt (line_of hl)
    · obtain ⟨k1, k2, k3⟩ := r1.frozen (u := .frz o (.tup vs)) hp
      exact k { M1 with H := upd M1.H p (.frz o (.tup vs)) } _ en k1 (x1.trans k2) ⟨p, vs, rfl, .inr ⟨k3, o, upd_same, ho⟩, RVs.mono k2 _ _ rxs⟩
end
end Sd
end

section
set_option Elab.async false
set_option linter.all false
set_option maxRecDepth 100000
set_option maxHeartbeats 0

/-! Fx (printed by gen2.py): the program by places, the facts wanted of its top. -/
namespace Sd
open PySem PySem.Spec PyProof.Rows L2
open Ev (Hl Rs Rb Ra So Sr CallT)

structure Fx (g : Gb) (A : Nat → Addr) : Prop where
  kept : ∃ d es n, g.mg "KEPT_WORDS" = some (.ref d) ∧ KDict g.c.K g.w d es n ∧ ∀ i, i < 2 → PySem.W.nsIn g.c.K d (g.c.ν i) = some none
  word : ∀ i, i < 2 → GoodW (g.c.ν i)
  letters : ∃ t, g.mg "LETTERS" = some (.str ⟨#[97, 98, 99, 100, 101, 102, 103, 104, 105, 106, 107, 108, 109, 110, 111, 112, 113, 114, 115, 116, 117, 118, 119, 120, 121, 122]⟩ t)
  mostL : ∃ t, g.mg "MOST_LETTERS" = some (.int (6 : Nat) t)
  P : g.c.P = g.P
  w : g.c.w = g.w
  cls : ClsOk g.c 42
  f1 : g.mg ("is_within" : Str) = some (.ref (A 1))
  f2 : g.mg ("is_sequence" : Str) = some (.ref (A 2))
  f3 : g.mg ("is_tuple" : Str) = some (.ref (A 3))
  f4 : g.mg ("is_headed" : Str) = some (.ref (A 4))
  f5 : g.mg ("is_key" : Str) = some (.ref (A 5))
  f6 : g.mg ("is_name" : Str) = some (.ref (A 6))
  f7 : g.mg ("is_test" : Str) = some (.ref (A 7))
  f8 : g.mg ("parts_of" : Str) = some (.ref (A 8))
  f9 : g.mg ("is_saying" : Str) = some (.ref (A 9))
  f10 : g.mg ("sayings_in" : Str) = some (.ref (A 10))
  f11 : g.mg ("own_names" : Str) = some (.ref (A 11))
  f12 : g.mg ("free_names" : Str) = some (.ref (A 12))
  f13 : g.mg ("check_saying" : Str) = some (.ref (A 13))
  f14 : g.mg ("check_closed" : Str) = some (.ref (A 14))
  f16 : g.mg ("node_of" : Str) = some (.ref (A 16))
  f22 : g.mg ("is_thing" : Str) = some (.ref (A 22))
  f23 : g.mg ("is_pair" : Str) = some (.ref (A 23))
  f24 : g.mg ("is_dict_of" : Str) = some (.ref (A 24))
  f25 : g.mg ("are_things" : Str) = some (.ref (A 25))
  f26 : g.mg ("are_pairs" : Str) = some (.ref (A 26))
  f27 : g.mg ("check_marks" : Str) = some (.ref (A 27))
  f28 : g.mg ("check_ties" : Str) = some (.ref (A 28))
  f32 : g.mg ("is_held" : Str) = some (.ref (A 32))
  f33 : g.mg ("holds" : Str) = some (.ref (A 33))
  f34 : g.mg ("check_plain" : Str) = some (.ref (A 34))
  f35 : g.mg ("cliques" : Str) = some (.ref (A 35))
  f36 : g.mg ("grow" : Str) = some (.ref (A 36))
  f39 : g.mg ("plain_cases" : Str) = some (.ref (A 39))
  f40 : g.mg ("meets" : Str) = some (.ref (A 40))
  f43 : g.mg ("rows_of_flags" : Str) = some (.ref (A 43))
  f44 : g.mg ("plain_kinds" : Str) = some (.ref (A 44))
  f45 : g.mg ("is_let" : Str) = some (.ref (A 45))
  f47 : g.mg ("both_ways" : Str) = some (.ref (A 47))
  f48 : g.mg ("turned_ways" : Str) = some (.ref (A 48))
  f49 : g.mg ("meets_bars" : Str) = some (.ref (A 49))
  f50 : g.mg ("meets_shut" : Str) = some (.ref (A 50))
  f51 : g.mg ("are_let" : Str) = some (.ref (A 51))
  f52 : g.mg ("sort_list" : Str) = some (.ref (A 52))
  f53 : g.mg ("bit_list" : Str) = some (.ref (A 53))
  f60 : g.mg ("is_less" : Str) = some (.ref (A 60))
  f61 : g.mg ("best_options" : Str) = some (.ref (A 61))
  f63 : g.mg ("common_wishes" : Str) = some (.ref (A 63))
  f64 : g.mg ("covers" : Str) = some (.ref (A 64))
  f65 : g.mg ("left_wishes" : Str) = some (.ref (A 65))
  f66 : g.mg ("lasting" : Str) = some (.ref (A 66))
  f67 : g.mg ("court_option" : Str) = some (.ref (A 67))
  f68 : g.mg ("court_wishes" : Str) = some (.ref (A 68))
  f69 : g.mg ("chosen_ways" : Str) = some (.ref (A 69))
  f70 : g.mg ("chosen_from" : Str) = some (.ref (A 70))
  f71 : g.mg ("has_all" : Str) = some (.ref (A 71))
  f72 : g.mg ("plan_with" : Str) = some (.ref (A 72))
  f73 : g.mg ("is_let_pair" : Str) = some (.ref (A 73))
  f74 : g.mg ("king_lots" : Str) = some (.ref (A 74))
  f93 : g.mg ("built" : Str) = some (.ref (A 93))
  f100 : g.mg ("searches" : Str) = some (.ref (A 100))
  f101 : g.mg ("some_world" : Str) = some (.ref (A 101))
  f102 : g.mg ("one_without" : Str) = some (.ref (A 102))
  f103 : g.mg ("parting" : Str) = some (.ref (A 103))
  f104 : g.mg ("check_given" : Str) = some (.ref (A 104))
  f105 : g.mg ("follows" : Str) = some (.ref (A 105))
  f106 : g.mg ("_law_pairs" : Str) = some (.ref (A 106))
  f107 : g.mg ("_law_reads" : Str) = some (.ref (A 107))
  f108 : g.mg ("is_function" : Str) = some (.ref (A 108))
  f109 : g.mg ("is_integer" : Str) = some (.ref (A 109))
  f110 : g.mg ("is_word" : Str) = some (.ref (A 110))
  f111 : g.mg ("are_names" : Str) = some (.ref (A 111))
  f112 : g.mg ("are_functions" : Str) = some (.ref (A 112))
  c0 : g.mg ("Node" : Str) = some (.ref (g.c.CA 0))
  k0 : 0 < g.c.nc ∧ Mk g.c.K (g.c.CA 0) (A 15)
  c1 : g.mg ("Reading" : Str) = some (.ref (g.c.CA 1))
  k1 : 1 < g.c.nc ∧ Mk g.c.K (g.c.CA 1) (A 17)
  c2 : g.mg ("World" : Str) = some (.ref (g.c.CA 2))
  k2 : 2 < g.c.nc ∧ Mk g.c.K (g.c.CA 2) (A 29)
  c3 : g.mg ("Case" : Str) = some (.ref (g.c.CA 3))
  k3 : 3 < g.c.nc ∧ Mk g.c.K (g.c.CA 3) (A 37)
  c4 : g.mg ("Kind" : Str) = some (.ref (g.c.CA 4))
  k4 : 4 < g.c.nc ∧ Mk g.c.K (g.c.CA 4) (A 41)
  c5 : g.mg ("Way" : Str) = some (.ref (g.c.CA 5))
  k5 : 5 < g.c.nc ∧ Mk g.c.K (g.c.CA 5) (A 46)
  c6 : g.mg ("Option" : Str) = some (.ref (g.c.CA 6))
  k6 : 6 < g.c.nc ∧ Mk g.c.K (g.c.CA 6) (A 54)
  c7 : g.mg ("Sorts" : Str) = some (.ref (g.c.CA 7))
  k7 : 7 < g.c.nc ∧ Mk g.c.K (g.c.CA 7) (A 56)
  c8 : g.mg ("Plan" : Str) = some (.ref (g.c.CA 8))
  k8 : 8 < g.c.nc ∧ Mk g.c.K (g.c.CA 8) (A 62)
  c9 : g.mg ("Search" : Str) = some (.ref (g.c.CA 9))
  k9 : 9 < g.c.nc ∧ Mk g.c.K (g.c.CA 9) (A 75)
  c10 : g.mg ("Builder" : Str) = some (.ref (g.c.CA 10))
  k10 : 10 < g.c.nc ∧ Mk g.c.K (g.c.CA 10) (A 80)
  c11 : g.mg ("Judge" : Str) = some (.ref (g.c.CA 11))
  k11 : 11 < g.c.nc ∧ Mk g.c.K (g.c.CA 11) (A 94)
  c12 : g.mg ("Tongue" : Str) = some (.ref (g.c.CA 12))
  k12 : 12 < g.c.nc ∧ Mk g.c.K (g.c.CA 12) (A 113)
  b_all : g.mg ("all" : Str) = none
  b_any : g.mg ("any" : Str) = none
  b_bool : g.mg ("bool" : Str) = none
  b_dict : g.mg ("dict" : Str) = none
  b_enumerate : g.mg ("enumerate" : Str) = none
  b_int : g.mg ("int" : Str) = none
  b_isinstance : g.mg ("isinstance" : Str) = none
  b_len : g.mg ("len" : Str) = none
  b_list : g.mg ("list" : Str) = none
  b_max : g.mg ("max" : Str) = none
  b_range : g.mg ("range" : Str) = none
  b_sorted : g.mg ("sorted" : Str) = none
  b_str : g.mg ("str" : Str) = none
  b_tuple : g.mg ("tuple" : Str) = none
  b_zip : g.mg ("zip" : Str) = none
  s2 : 2 < g.c.ns ∧ g.c.ν 2 = ("tie" : Str)
  s3 : 3 < g.c.ns ∧ g.c.ν 3 = ("one" : Str)
  s4 : 4 < g.c.ns ∧ g.c.ν 4 = ("x" : Str)
  s5 : 5 < g.c.ns ∧ g.c.ν 5 = ("y" : Str)
  s6 : 6 < g.c.ns ∧ g.c.ν 6 = ("same" : Str)
  s7 : 7 < g.c.ns ∧ g.c.ν 7 = ("mark" : Str)
  s8 : 8 < g.c.ns ∧ g.c.ν 8 = ("true" : Str)
  s9 : 9 < g.c.ns ∧ g.c.ν 9 = ("each" : Str)
  s10 : 10 < g.c.ns ∧ g.c.ν 10 = ("some" : Str)
  s11 : 11 < g.c.ns ∧ g.c.ν 11 = ("and" : Str)
  s12 : 12 < g.c.ns ∧ g.c.ν 12 = ("or" : Str)
  s13 : 13 < g.c.ns ∧ g.c.ν 13 = ("not" : Str)
  s14 : 14 < g.c.ns ∧ g.c.ν 14 = ("other" : Str)
  a0 : g.c.FN 0 = ("kept_ties" : Str)
  a1 : g.c.FN 1 = ("kept_marks" : Str)
  a2 : g.c.FN 2 = ("number" : Str)
  a3 : g.c.FN 3 = ("free" : Str)
  a4 : g.c.FN 4 = ("parts" : Str)
  a5 : g.c.FN 5 = ("names" : Str)
  a6 : g.c.FN 6 = ("word" : Str)
  a7 : g.c.FN 7 = ("told" : Str)
  a8 : g.c.FN 8 = ("world" : Str)
  a9 : g.c.FN 9 = ("things" : Str)
  a10 : g.c.FN 10 = ("functions" : Str)
  a11 : g.c.FN 11 = ("tied" : Str)
  a12 : g.c.FN 12 = ("marked" : Str)
  a13 : g.c.FN 13 = ("tongue" : Str)
  a14 : g.c.FN 14 = ("sign" : Str)
  a15 : g.c.FN 15 = ("needs" : Str)
  a16 : g.c.FN 16 = ("flags" : Str)
  a17 : g.c.FN 17 = ("shut" : Str)
  a18 : g.c.FN 18 = ("bars" : Str)
  a19 : g.c.FN 19 = ("loops" : Str)
  a20 : g.c.FN 20 = ("back" : Str)
  a21 : g.c.FN 21 = ("forth" : Str)
  a22 : g.c.FN 22 = ("second" : Str)
  a23 : g.c.FN 23 = ("first" : Str)
  a24 : g.c.FN 24 = ("ways" : Str)
  a25 : g.c.FN 25 = ("known" : Str)
  a26 : g.c.FN 26 = ("wishes" : Str)
  a27 : g.c.FN 27 = ("kinds" : Str)
  a28 : g.c.FN 28 = ("bits" : Str)
  a29 : g.c.FN 29 = ("inner" : Str)
  a30 : g.c.FN 30 = ("judge" : Str)
  a31 : g.c.FN 31 = ("chosen" : Str)
  a32 : g.c.FN 32 = ("commons" : Str)
  a33 : g.c.FN 33 = ("kings" : Str)
  a34 : g.c.FN 34 = ("sorts" : Str)
  a35 : g.c.FN 35 = ("wanted" : Str)
  a36 : g.c.FN 36 = ("many" : Str)
  a37 : g.c.FN 37 = ("lone" : Str)
  a38 : g.c.FN 38 = ("spots" : Str)
  a39 : g.c.FN 39 = ("sorts_of" : Str)
  a40 : g.c.FN 40 = ("plan" : Str)
  a41 : g.c.FN 41 = ("cases" : Str)
  no_alone : ∀ i, g.c.FN i ≠ ("alone" : Str)
  no_bound_flag : ∀ i, g.c.FN i ≠ ("bound_flag" : Str)
  no_closed : ∀ i, g.c.FN i ≠ ("closed" : Str)
  no_first_plan : ∀ i, g.c.FN i ≠ ("first_plan" : Str)
  no_flag : ∀ i, g.c.FN i ≠ ("flag" : Str)
  no_has : ∀ i, g.c.FN i ≠ ("has" : Str)
  no_helper : ∀ i, g.c.FN i ≠ ("helper" : Str)
  no_king_left : ∀ i, g.c.FN i ≠ ("king_left" : Str)
  no_leads : ∀ i, g.c.FN i ≠ ("leads" : Str)
  no_link : ∀ i, g.c.FN i ≠ ("link" : Str)
  no_lone_plans : ∀ i, g.c.FN i ≠ ("lone_plans" : Str)
  no_made_world : ∀ i, g.c.FN i ≠ ("made_world" : Str)
  no_meet : ∀ i, g.c.FN i ≠ ("meet" : Str)
  no_met : ∀ i, g.c.FN i ≠ ("met" : Str)
  no_more : ∀ i, g.c.FN i ≠ ("more" : Str)
  no_options : ∀ i, g.c.FN i ≠ ("options" : Str)
  no_own_wishes : ∀ i, g.c.FN i ≠ ("own_wishes" : Str)
  no_put : ∀ i, g.c.FN i ≠ ("put" : Str)
  no_put_common : ∀ i, g.c.FN i ≠ ("put_common" : Str)
  no_put_courts : ∀ i, g.c.FN i ≠ ("put_courts" : Str)
  no_put_groups : ∀ i, g.c.FN i ≠ ("put_groups" : Str)
  no_put_kings : ∀ i, g.c.FN i ≠ ("put_kings" : Str)
  no_run : ∀ i, g.c.FN i ≠ ("run" : Str)
  no_searched : ∀ i, g.c.FN i ≠ ("searched" : Str)
  no_smaller : ∀ i, g.c.FN i ≠ ("smaller" : Str)
  no_sorts_with : ∀ i, g.c.FN i ≠ ("sorts_with" : Str)
  no_tell_ways : ∀ i, g.c.FN i ≠ ("tell_ways" : Str)
  no_test : ∀ i, g.c.FN i ≠ ("test" : Str)
  no_turned : ∀ i, g.c.FN i ≠ ("turned" : Str)
  no_with_part : ∀ i, g.c.FN i ≠ ("with_part" : Str)
  m18 : Cls g.c.K (g.c.CA 1) ∧ Meth g.c.K (g.c.CA 1) ("flag" : Str) (A 18)
  m19 : Cls g.c.K (g.c.CA 1) ∧ Meth g.c.K (g.c.CA 1) ("test" : Str) (A 19)
  m20 : Cls g.c.K (g.c.CA 1) ∧ Meth g.c.K (g.c.CA 1) ("bound_flag" : Str) (A 20)
  m21 : Cls g.c.K (g.c.CA 1) ∧ Meth g.c.K (g.c.CA 1) ("searched" : Str) (A 21)
  m30 : Cls g.c.K (g.c.CA 2) ∧ Meth g.c.K (g.c.CA 2) ("has" : Str) (A 30)
  m31 : Cls g.c.K (g.c.CA 2) ∧ Meth g.c.K (g.c.CA 2) ("leads" : Str) (A 31)
  m38 : Cls g.c.K (g.c.CA 3) ∧ Meth g.c.K (g.c.CA 3) ("more" : Str) (A 38)
  m42 : Cls g.c.K (g.c.CA 4) ∧ Meth g.c.K (g.c.CA 4) ("with_part" : Str) (A 42)
  m55 : Cls g.c.K (g.c.CA 6) ∧ Meth g.c.K (g.c.CA 6) ("turned" : Str) (A 55)
  m57 : Cls g.c.K (g.c.CA 7) ∧ Meth g.c.K (g.c.CA 7) ("own_wishes" : Str) (A 57)
  m58 : Cls g.c.K (g.c.CA 7) ∧ Meth g.c.K (g.c.CA 7) ("met" : Str) (A 58)
  m59 : Cls g.c.K (g.c.CA 7) ∧ Meth g.c.K (g.c.CA 7) ("options" : Str) (A 59)
  m76 : Cls g.c.K (g.c.CA 9) ∧ Meth g.c.K (g.c.CA 9) ("sorts_with" : Str) (A 76)
  m77 : Cls g.c.K (g.c.CA 9) ∧ Meth g.c.K (g.c.CA 9) ("first_plan" : Str) (A 77)
  m78 : Cls g.c.K (g.c.CA 9) ∧ Meth g.c.K (g.c.CA 9) ("smaller" : Str) (A 78)
  m79 : Cls g.c.K (g.c.CA 9) ∧ Meth g.c.K (g.c.CA 9) ("lone_plans" : Str) (A 79)
  m81 : Cls g.c.K (g.c.CA 10) ∧ Meth g.c.K (g.c.CA 10) ("put" : Str) (A 81)
  m82 : Cls g.c.K (g.c.CA 10) ∧ Meth g.c.K (g.c.CA 10) ("link" : Str) (A 82)
  m83 : Cls g.c.K (g.c.CA 10) ∧ Meth g.c.K (g.c.CA 10) ("put_kings" : Str) (A 83)
  m84 : Cls g.c.K (g.c.CA 10) ∧ Meth g.c.K (g.c.CA 10) ("put_common" : Str) (A 84)
  m85 : Cls g.c.K (g.c.CA 10) ∧ Meth g.c.K (g.c.CA 10) ("put_courts" : Str) (A 85)
  m86 : Cls g.c.K (g.c.CA 10) ∧ Meth g.c.K (g.c.CA 10) ("king_left" : Str) (A 86)
  m87 : Cls g.c.K (g.c.CA 10) ∧ Meth g.c.K (g.c.CA 10) ("put_groups" : Str) (A 87)
  m88 : Cls g.c.K (g.c.CA 10) ∧ Meth g.c.K (g.c.CA 10) ("meet" : Str) (A 88)
  m89 : Cls g.c.K (g.c.CA 10) ∧ Meth g.c.K (g.c.CA 10) ("helper" : Str) (A 89)
  m90 : Cls g.c.K (g.c.CA 10) ∧ Meth g.c.K (g.c.CA 10) ("run" : Str) (A 90)
  m91 : Cls g.c.K (g.c.CA 10) ∧ Meth g.c.K (g.c.CA 10) ("made_world" : Str) (A 91)
  m92 : Cls g.c.K (g.c.CA 10) ∧ Meth g.c.K (g.c.CA 10) ("tell_ways" : Str) (A 92)
  m95 : Cls g.c.K (g.c.CA 11) ∧ Meth g.c.K (g.c.CA 11) ("alone" : Str) (A 95)
  m96 : Cls g.c.K (g.c.CA 11) ∧ Meth g.c.K (g.c.CA 11) ("closed" : Str) (A 96)
  m97 : Cls g.c.K (g.c.CA 11) ∧ Meth g.c.K (g.c.CA 11) ("flag" : Str) (A 97)
  m98 : Cls g.c.K (g.c.CA 11) ∧ Meth g.c.K (g.c.CA 11) ("bound_flag" : Str) (A 98)
  m99 : Cls g.c.K (g.c.CA 11) ∧ Meth g.c.K (g.c.CA 11) ("test" : Str) (A 99)
  g_BINDING : ∃ a, g.mg ("BINDING" : Str) = some (.ref a) ∧ ∀ M, RV g.c M (.wtup [.str 9, .str 10]) (.ref a)
  g_GROUPS : ∃ t, g.mg ("GROUPS" : Str) = some (.int (3 : Nat) t)
  g_JOINING : ∃ a, g.mg ("JOINING" : Str) = some (.ref a) ∧ ∀ M, RV g.c M (.wtup [.str 11, .str 12]) (.ref a)
  g_MOST_DEEP : ∃ t, g.mg ("MOST_DEEP" : Str) = some (.int (20 : Nat) t)
  g_MOST_GIVEN : ∃ t, g.mg ("MOST_GIVEN" : Str) = some (.int (5 : Nat) t)
  g_MOST_MARKS : ∃ t, g.mg ("MOST_MARKS" : Str) = some (.int (3 : Nat) t)
  g_MOST_THINGS : ∃ t, g.mg ("MOST_THINGS" : Str) = some (.int (300 : Nat) t)
  g_MOST_TIES : ∃ t, g.mg ("MOST_TIES" : Str) = some (.int (2 : Nat) t)
  g_MOST_TUPLES : ∃ t, g.mg ("MOST_TUPLES" : Str) = some (.int (100 : Nat) t)
  g_NAMES : ∃ a, g.mg ("NAMES" : Str) = some (.ref a) ∧ ∀ M, RV g.c M (.wtup [.str 4, .str 5]) (.ref a)
  pr_marks : ∃ pa ga fd, Cls g.c.K (g.c.CA 12) ∧ PropOf g.c.K (g.c.CA 12) ("marks" : Str) pa ga ∧ FnOk g.P g.w g.c.K g.mg g.base CX0 1 ga fd ["self"] (getSp (g.c.CA 12) ("kept_marks" : Str)) ∧ Binds g.c.K fd ["self"] []
  pr_ties : ∃ pa ga fd, Cls g.c.K (g.c.CA 12) ∧ PropOf g.c.K (g.c.CA 12) ("ties" : Str) pa ga ∧ FnOk g.P g.w g.c.K g.mg g.base CX0 1 ga fd ["self"] (getSp (g.c.CA 12) ("kept_ties" : Str)) ∧ Binds g.c.K fd ["self"] []
/-- all defs at a level -/
structure Lv (g : Gb) (A : Nat → Addr) (k : Nat) : Prop where
  d : ∀ i np, npT i = some np → DefAt g (Ev.run Ev.fns k i) (k + 2) np (A i)
theorem run0 {k : Nat} : ∀ ws n l, Ev.run Ev.fns k 0 ws n l = .err := fun ws n l => by
  cases k with
  | zero => rfl
  | succ k => rfl
section
variable {g : Gb} {A : Nat → Addr} {X : Cx} {N : List Str} {sc : Scope} {F : Str → Bool} {k : Nat} {cl : CallT} {a : Expr} {ma : Ev.D} {pos : Pos}
theorem sPr_marks (T : Fx g A) (C : Ctx g X N sc F k) (ha : PE X a (tM g.c cl ma)) (hab : attributeBase a ("marks" : Str) X.env (eval a X.env) = eval a X.env := by rfl) : PE X (.Attribute a ("marks" : Str) pos) (tM g.c cl (Ev.eProp 12 1 ma)) :=
  let ⟨_, _, _, h1, h2, h3, h4⟩ := T.pr_marks
  ce_prop C h1 h2 h3 h4 T.a1 ha hab
theorem sPr_ties (T : Fx g A) (C : Ctx g X N sc F k) (ha : PE X a (tM g.c cl ma)) (hab : attributeBase a ("ties" : Str) X.env (eval a X.env) = eval a X.env := by rfl) : PE X (.Attribute a ("ties" : Str) pos) (tM g.c cl (Ev.eProp 12 0 ma)) :=
  let ⟨_, _, _, h1, h2, h3, h4⟩ := T.pr_ties
  ce_prop C h1 h2 h3 h4 T.a0 ha hab
theorem ma_alone_2 (T : Fx g A) (L : Lv g A k) : MetAt g (Ev.run Ev.fns k) (k + 2) 3 ("alone" : Str) [(11, 95)] := by
  intro q hq
  obtain rfl := List.mem_singleton.mp hq
  exact ⟨_, T.m95.1, T.m95.2, L.d 95 3 rfl⟩
theorem ma_bound_flag_3 (T : Fx g A) (L : Lv g A k) : MetAt g (Ev.run Ev.fns k) (k + 2) 4 ("bound_flag" : Str) [(1, 20), (11, 98)] := by
  intro q hq
  rcases List.mem_cons.mp hq with rfl | hq
  · exact ⟨_, T.m20.1, T.m20.2, L.d 20 4 rfl⟩
  · obtain rfl := List.mem_singleton.mp hq
    exact ⟨_, T.m98.1, T.m98.2, L.d 98 4 rfl⟩
theorem ma_closed_1 (T : Fx g A) (L : Lv g A k) : MetAt g (Ev.run Ev.fns k) (k + 2) 2 ("closed" : Str) [(11, 96)] := by
  intro q hq
  obtain rfl := List.mem_singleton.mp hq
  exact ⟨_, T.m96.1, T.m96.2, L.d 96 2 rfl⟩
theorem ma_first_plan_0 (T : Fx g A) (L : Lv g A k) : MetAt g (Ev.run Ev.fns k) (k + 2) 1 ("first_plan" : Str) [(9, 77)] := by
  intro q hq
  obtain rfl := List.mem_singleton.mp hq
  exact ⟨_, T.m77.1, T.m77.2, L.d 77 1 rfl⟩
theorem ma_flag_3 (T : Fx g A) (L : Lv g A k) : MetAt g (Ev.run Ev.fns k) (k + 2) 4 ("flag" : Str) [(1, 18)] := by
  intro q hq
  obtain rfl := List.mem_singleton.mp hq
  exact ⟨_, T.m18.1, T.m18.2, L.d 18 4 rfl⟩
theorem ma_flag_4 (T : Fx g A) (L : Lv g A k) : MetAt g (Ev.run Ev.fns k) (k + 2) 5 ("flag" : Str) [(11, 97)] := by
  intro q hq
  obtain rfl := List.mem_singleton.mp hq
  exact ⟨_, T.m97.1, T.m97.2, L.d 97 5 rfl⟩
theorem ma_has_2 (T : Fx g A) (L : Lv g A k) : MetAt g (Ev.run Ev.fns k) (k + 2) 3 ("has" : Str) [(2, 30)] := by
  intro q hq
  obtain rfl := List.mem_singleton.mp hq
  exact ⟨_, T.m30.1, T.m30.2, L.d 30 3 rfl⟩
theorem ma_helper_2 (T : Fx g A) (L : Lv g A k) : MetAt g (Ev.run Ev.fns k) (k + 2) 3 ("helper" : Str) [(10, 89)] := by
  intro q hq
  obtain rfl := List.mem_singleton.mp hq
  exact ⟨_, T.m89.1, T.m89.2, L.d 89 3 rfl⟩
theorem ma_king_left_1 (T : Fx g A) (L : Lv g A k) : MetAt g (Ev.run Ev.fns k) (k + 2) 2 ("king_left" : Str) [(10, 86)] := by
  intro q hq
  obtain rfl := List.mem_singleton.mp hq
  exact ⟨_, T.m86.1, T.m86.2, L.d 86 2 rfl⟩
theorem ma_leads_3 (T : Fx g A) (L : Lv g A k) : MetAt g (Ev.run Ev.fns k) (k + 2) 4 ("leads" : Str) [(2, 31)] := by
  intro q hq
  obtain rfl := List.mem_singleton.mp hq
  exact ⟨_, T.m31.1, T.m31.2, L.d 31 4 rfl⟩
theorem ma_link_3 (T : Fx g A) (L : Lv g A k) : MetAt g (Ev.run Ev.fns k) (k + 2) 4 ("link" : Str) [(10, 82)] := by
  intro q hq
  obtain rfl := List.mem_singleton.mp hq
  exact ⟨_, T.m82.1, T.m82.2, L.d 82 4 rfl⟩
theorem ma_lone_plans_0 (T : Fx g A) (L : Lv g A k) : MetAt g (Ev.run Ev.fns k) (k + 2) 1 ("lone_plans" : Str) [(9, 79)] := by
  intro q hq
  obtain rfl := List.mem_singleton.mp hq
  exact ⟨_, T.m79.1, T.m79.2, L.d 79 1 rfl⟩
theorem ma_made_world_0 (T : Fx g A) (L : Lv g A k) : MetAt g (Ev.run Ev.fns k) (k + 2) 1 ("made_world" : Str) [(10, 91)] := by
  intro q hq
  obtain rfl := List.mem_singleton.mp hq
  exact ⟨_, T.m91.1, T.m91.2, L.d 91 1 rfl⟩
theorem ma_meet_2 (T : Fx g A) (L : Lv g A k) : MetAt g (Ev.run Ev.fns k) (k + 2) 3 ("meet" : Str) [(10, 88)] := by
  intro q hq
  obtain rfl := List.mem_singleton.mp hq
  exact ⟨_, T.m88.1, T.m88.2, L.d 88 3 rfl⟩
theorem ma_met_4 (T : Fx g A) (L : Lv g A k) : MetAt g (Ev.run Ev.fns k) (k + 2) 5 ("met" : Str) [(7, 58)] := by
  intro q hq
  obtain rfl := List.mem_singleton.mp hq
  exact ⟨_, T.m58.1, T.m58.2, L.d 58 5 rfl⟩
theorem ma_more_4 (T : Fx g A) (L : Lv g A k) : MetAt g (Ev.run Ev.fns k) (k + 2) 5 ("more" : Str) [(3, 38)] := by
  intro q hq
  obtain rfl := List.mem_singleton.mp hq
  exact ⟨_, T.m38.1, T.m38.2, L.d 38 5 rfl⟩
theorem ma_options_2 (T : Fx g A) (L : Lv g A k) : MetAt g (Ev.run Ev.fns k) (k + 2) 3 ("options" : Str) [(7, 59)] := by
  intro q hq
  obtain rfl := List.mem_singleton.mp hq
  exact ⟨_, T.m59.1, T.m59.2, L.d 59 3 rfl⟩
theorem ma_own_wishes_1 (T : Fx g A) (L : Lv g A k) : MetAt g (Ev.run Ev.fns k) (k + 2) 2 ("own_wishes" : Str) [(7, 57)] := by
  intro q hq
  obtain rfl := List.mem_singleton.mp hq
  exact ⟨_, T.m57.1, T.m57.2, L.d 57 2 rfl⟩
theorem ma_put_1 (T : Fx g A) (L : Lv g A k) : MetAt g (Ev.run Ev.fns k) (k + 2) 2 ("put" : Str) [(10, 81)] := by
  intro q hq
  obtain rfl := List.mem_singleton.mp hq
  exact ⟨_, T.m81.1, T.m81.2, L.d 81 2 rfl⟩
theorem ma_put_common_2 (T : Fx g A) (L : Lv g A k) : MetAt g (Ev.run Ev.fns k) (k + 2) 3 ("put_common" : Str) [(10, 84)] := by
  intro q hq
  obtain rfl := List.mem_singleton.mp hq
  exact ⟨_, T.m84.1, T.m84.2, L.d 84 3 rfl⟩
theorem ma_put_courts_0 (T : Fx g A) (L : Lv g A k) : MetAt g (Ev.run Ev.fns k) (k + 2) 1 ("put_courts" : Str) [(10, 85)] := by
  intro q hq
  obtain rfl := List.mem_singleton.mp hq
  exact ⟨_, T.m85.1, T.m85.2, L.d 85 1 rfl⟩
theorem ma_put_groups_0 (T : Fx g A) (L : Lv g A k) : MetAt g (Ev.run Ev.fns k) (k + 2) 1 ("put_groups" : Str) [(10, 87)] := by
  intro q hq
  obtain rfl := List.mem_singleton.mp hq
  exact ⟨_, T.m87.1, T.m87.2, L.d 87 1 rfl⟩
theorem ma_put_kings_0 (T : Fx g A) (L : Lv g A k) : MetAt g (Ev.run Ev.fns k) (k + 2) 1 ("put_kings" : Str) [(10, 83)] := by
  intro q hq
  obtain rfl := List.mem_singleton.mp hq
  exact ⟨_, T.m83.1, T.m83.2, L.d 83 1 rfl⟩
theorem ma_run_0 (T : Fx g A) (L : Lv g A k) : MetAt g (Ev.run Ev.fns k) (k + 2) 1 ("run" : Str) [(10, 90)] := by
  intro q hq
  obtain rfl := List.mem_singleton.mp hq
  exact ⟨_, T.m90.1, T.m90.2, L.d 90 1 rfl⟩
theorem ma_searched_3 (T : Fx g A) (L : Lv g A k) : MetAt g (Ev.run Ev.fns k) (k + 2) 4 ("searched" : Str) [(1, 21)] := by
  intro q hq
  obtain rfl := List.mem_singleton.mp hq
  exact ⟨_, T.m21.1, T.m21.2, L.d 21 4 rfl⟩
theorem ma_smaller_1 (T : Fx g A) (L : Lv g A k) : MetAt g (Ev.run Ev.fns k) (k + 2) 2 ("smaller" : Str) [(9, 78)] := by
  intro q hq
  obtain rfl := List.mem_singleton.mp hq
  exact ⟨_, T.m78.1, T.m78.2, L.d 78 2 rfl⟩
theorem ma_sorts_with_2 (T : Fx g A) (L : Lv g A k) : MetAt g (Ev.run Ev.fns k) (k + 2) 3 ("sorts_with" : Str) [(9, 76)] := by
  intro q hq
  obtain rfl := List.mem_singleton.mp hq
  exact ⟨_, T.m76.1, T.m76.2, L.d 76 3 rfl⟩
theorem ma_tell_ways_3 (T : Fx g A) (L : Lv g A k) : MetAt g (Ev.run Ev.fns k) (k + 2) 4 ("tell_ways" : Str) [(10, 92)] := by
  intro q hq
  obtain rfl := List.mem_singleton.mp hq
  exact ⟨_, T.m92.1, T.m92.2, L.d 92 4 rfl⟩
theorem ma_test_3 (T : Fx g A) (L : Lv g A k) : MetAt g (Ev.run Ev.fns k) (k + 2) 4 ("test" : Str) [(1, 19)] := by
  intro q hq
  obtain rfl := List.mem_singleton.mp hq
  exact ⟨_, T.m19.1, T.m19.2, L.d 19 4 rfl⟩
theorem ma_test_4 (T : Fx g A) (L : Lv g A k) : MetAt g (Ev.run Ev.fns k) (k + 2) 5 ("test" : Str) [(11, 99)] := by
  intro q hq
  obtain rfl := List.mem_singleton.mp hq
  exact ⟨_, T.m99.1, T.m99.2, L.d 99 5 rfl⟩
theorem ma_turned_0 (T : Fx g A) (L : Lv g A k) : MetAt g (Ev.run Ev.fns k) (k + 2) 1 ("turned" : Str) [(6, 55)] := by
  intro q hq
  obtain rfl := List.mem_singleton.mp hq
  exact ⟨_, T.m55.1, T.m55.2, L.d 55 1 rfl⟩
theorem ma_with_part_4 (T : Fx g A) (L : Lv g A k) : MetAt g (Ev.run Ev.fns k) (k + 2) 5 ("with_part" : Str) [(4, 42)] := by
  intro q hq
  obtain rfl := List.mem_singleton.mp hq
  exact ⟨_, T.m42.1, T.m42.2, L.d 42 5 rfl⟩
theorem kb_bool : KindBits 2 "bool" := fun k hk => by
  match k, hk with
  | 0, _ => decide +kernel
  | 1, _ => decide +kernel
  | 2, _ => decide +kernel
  | 3, _ => decide +kernel
  | 4, _ => decide +kernel
  | 5, _ => decide +kernel
  | 6, _ => decide +kernel
  | n + 7, hk => omega
theorem kb_dict : KindBits 64 "dict" := fun k hk => by
  match k, hk with
  | 0, _ => decide +kernel
  | 1, _ => decide +kernel
  | 2, _ => decide +kernel
  | 3, _ => decide +kernel
  | 4, _ => decide +kernel
  | 5, _ => decide +kernel
  | 6, _ => decide +kernel
  | n + 7, hk => omega
theorem kb_int : KindBits 6 "int" := fun k hk => by
  match k, hk with
  | 0, _ => decide +kernel
  | 1, _ => decide +kernel
  | 2, _ => decide +kernel
  | 3, _ => decide +kernel
  | 4, _ => decide +kernel
  | 5, _ => decide +kernel
  | 6, _ => decide +kernel
  | n + 7, hk => omega
theorem kb_list_tuple : KindBits2 48 "list" "tuple" := fun k hk => by
  match k, hk with
  | 0, _ => exact ⟨_, _, rfl, rfl, by decide +kernel⟩
  | 1, _ => exact ⟨_, _, rfl, rfl, by decide +kernel⟩
  | 2, _ => exact ⟨_, _, rfl, rfl, by decide +kernel⟩
  | 3, _ => exact ⟨_, _, rfl, rfl, by decide +kernel⟩
  | 4, _ => exact ⟨_, _, rfl, rfl, by decide +kernel⟩
  | 5, _ => exact ⟨_, _, rfl, rfl, by decide +kernel⟩
  | 6, _ => exact ⟨_, _, rfl, rfl, by decide +kernel⟩
  | n + 7, hk => omega
theorem kb_str : KindBits 8 "str" := fun k hk => by
  match k, hk with
  | 0, _ => decide +kernel
  | 1, _ => decide +kernel
  | 2, _ => decide +kernel
  | 3, _ => decide +kernel
  | 4, _ => decide +kernel
  | 5, _ => decide +kernel
  | 6, _ => decide +kernel
  | n + 7, hk => omega
theorem kb_tuple : KindBits 16 "tuple" := fun k hk => by
  match k, hk with
  | 0, _ => decide +kernel
  | 1, _ => decide +kernel
  | 2, _ => decide +kernel
  | 3, _ => decide +kernel
  | 4, _ => decide +kernel
  | 5, _ => decide +kernel
  | 6, _ => decide +kernel
  | n + 7, hk => omega
end
end Sd
end

section
set_option Elab.async false
set_option linter.all false
set_option maxRecDepth 100000
set_option maxHeartbeats 0
/-! Hw: is_word, of the drawn names. -/
namespace Sd
open PySem PySem.Spec PyProof.Rows L2
open Ev (Hl Rs Rb Ra So Sr CallT)
section
variable {g : Gb} {A : Nat → Addr}
theorem sWord_ok {ws : List Ev.W} {n : Nat} {l : Hl} {cl : CallT} {w : Ev.W} {n' : Nat} {l' : Hl} {pad : List Ev.W} (hl : ws.length = 1)
    (e : So.rec (motive := fun _ => Rs) .err (fun _ n1 l1 => Ev.handed 1 n .non n1 l1) (fun w n1 l1 => Ev.handed 1 n w n1 l1) (fun _ _ _ => .err) (fun _ _ _ => .err) (Ev.sWord cl (Ev.app ws pad) n l) = .ok w n' l') :
    ∃ i, i < 2 ∧ ws = [.str i] ∧ w = .bl true ∧ n' = n ∧ l' = Ev.hdrop l n := by
  match ws, hl with
  | [x], _ =>
    have e1 : So.rec (motive := fun _ => Rs) .err (fun _ n1 l1 => Ev.handed 1 n .non n1 l1) (fun w n1 l1 => Ev.handed 1 n w n1 l1) (fun _ _ _ => .err) (fun _ _ _ => .err) (Ev.strOr So.err (fun i => Bool.rec (motive := fun _ => So) .err (.rt (.bl true) n l) (Nat.blt i 2)) x) = .ok w n' l' := e
    cases x with
    | str i =>
      have e2 : So.rec (motive := fun _ => Rs) .err (fun _ n1 l1 => Ev.handed 1 n .non n1 l1) (fun w n1 l1 => Ev.handed 1 n w n1 l1) (fun _ _ _ => .err) (fun _ _ _ => .err) (Bool.rec (motive := fun _ => So) .err (.rt (.bl true) n l) (Nat.blt i 2)) = .ok w n' l' := e1
      cases q : Nat.blt i 2 with
      | false => rw [q] at e2; cases e2
      | true =>
        rw [q] at e2
        cases e2
        exact ⟨i, Nat.le_of_ble_eq_true q, rfl, rfl, rfl, rfl⟩
    | _ => cases e1
theorem lv_word (T : Fx g A) {i : Nat} {k : Nat} {qual : Str} {params : Arguments} {fa : Addr} (hfn : Ev.fns i = .fn [.un] 1 Ev.sWord ∨ Ev.fns i = .fn [] 1 Ev.sWord) (F : ∃ fd, FunD g.c.K "is_word" qual params (defBody st_110) (defScope st_110) [] [] fa fd) (S : FnScope nm_110 ["value"] (defScope st_110))
    (B : ∀ fd, FunD g.c.K "is_word" qual params (defBody st_110) (defScope st_110) [] [] fa fd → Binds g.c.K fd ["value"] []) : DefAt g (Ev.run Ev.fns (k + 1) i) (k + 3) 1 fa := by
  obtain ⟨fd, F⟩ := F
  refine ⟨⟨fd, ["value"], F.ok (k := k + 2) S (fun vs H Q E h => h.1) fun cdv A0 outer s H vs Q E hr hsp => ?_, B fd F⟩, F.kp⟩
  obtain ⟨hl, M, l, ws, rfl, r, hws, w, n', l', e, kk⟩ := hsp
  have hlw : ws.length = 1 := hws.length.trans hl
  obtain ⟨j, hj, rfl, rfl, rfl, rfl⟩ : ∃ i, i < 2 ∧ ws = [.str i] ∧ w = .bl true ∧ n' = M.n ∧ l' = Ev.hdrop l M.n := by
    have e1 : Ev.Fn.rec (motive := fun _ => Rs) (fun pad mode b => So.rec (motive := fun _ => Rs) .err (fun _ n1 l1 => Ev.handed mode M.n .non n1 l1) (fun w n1 l1 => Ev.handed mode M.n w n1 l1) (fun _ _ _ => .err) (fun _ _ _ => .err) (b (Ev.run Ev.fns k) (Ev.app ws pad) M.n l))
      (fun c init pre frz => (Bool.rec (motive := fun _ => Ev.Fzs) (.ok ws l) (Ev.fzs (Ev.fz 8) ws l) pre).b .err fun ws l =>
        (Ev.run Ev.fns k init (.ref M.n :: ws) (Nat.add M.n 1) (.cons M.n (.ins c [] []) l)).b fun v n1 l1 => Bool.rec (motive := fun _ => Rs) .err (Bool.rec (motive := fun _ => Rs) (.ok (.ref M.n) n1 l1) ((Ev.fz 8 (.ref M.n) l1).b .err fun x l2 => .ok x n1 l2) frz) (Ev.isNon v))
      (Ev.fns i) = .ok w n' l' := e
    rcases hfn with hfn | hfn
    · rw [hfn] at e1
      exact sWord_ok hlw e1
    · rw [hfn] at e1
      exact sWord_ok hlw e1
  obtain ⟨v, q, rfl, ⟨_, rfl⟩, hq⟩ := hws
  rw [show q = [] from hq]
  obtain ⟨g1, g2, g3⟩ := T.word j hj
  obtain ⟨tl, hL⟩ := T.letters
  obtain ⟨tm, hM⟩ := T.mostL
  obtain ⟨rd, xd⟩ := drop_ok r M.n
  have fin : Q (.bl true) M.H := kk (M.less (Ev.hdrop l M.n)) (.bl true) rfl rd xd rfl
  refine ⟨_, PSs.nox (pss_cons (ps_if (PW.pt (pw_or (pt_not (pt_val (pe_callB call_isi (by rfl) T.b_isinstance (by decide +kernel) (pa_cons (pv 0) (pa_cons (pe_bltn (v := .ty "str") (by rfl) T.b_str (by decide +kernel) rfl) pa_nil)))))
      (pw_or1 (pt_not (pt_chain op_le op_le pe_int (pe_callB call_len_str (by rfl) T.b_len boot_len (pa_cons (pv 0) pa_nil)) (pe_glob (v := .int (6 : Nat)) (by rfl) hM ⟨_, rfl⟩)))))) (pss_one (ps_ret pe_bl)) pss_nil)
    (pss_cons (ps_for PassesOwn.never rfl (pi_str (pv 0)) (pg_name (i := 1) S.nd rfl (.inl rfl)) (pss_one (ps_if (pt_cmpR op_notIn_sign (pv 1) (pe_glob (v := .str _) (by rfl) hL ⟨_, rfl⟩) (by rfl)) (pss_one (ps_ret pe_bl)) pss_nil)))
    (pss_one (ps_ret pe_bl)))), ?_⟩
  have hlen : (g.c.ν j).length = (g.c.ν j).cps.toList.length := rfl
  refine ⟨_, rfl, _, .ty "str", .type "str", .type "str", true, rfl, .ty "str", .base (.str _), kit_ty (by decide +kernel), true, rfl, ?_⟩
  refine ⟨_, rfl, _, rfl, ?_, _, _, rfl, rfl, _, rfl, ?_⟩
  · rw [hlen, sizeLine_eq]; omega
  have h1 : decide ((1 : Int) ≤ ((g.c.ν j).length : Int)) = true := decide_eq_true (by rw [hlen]; omega)
  rw [if_pos h1]
  refine ⟨_, _, rfl, rfl, _, rfl, ?_⟩
  have h2 : decide (((g.c.ν j).length : Int) ≤ ((6 : Nat) : Int)) = true := decide_eq_true (by rw [hlen]; omega)
  rw [h2]
  refine ⟨_, rfl, _, rfl, for_it walk_str (fun i σ H' => H' = M.H ∧ ∃ o, σ = [some (.str (g.c.ν j)), o]) ⟨rfl, none, rfl⟩ (fun _ _ _ _ _ => trivial) ?_ ?_⟩
  · rintro m x σ H1 H2 hm ⟨rfl, o, rfl⟩ ⟨rfl, ch, hch, rfl⟩
    have hmem : ch ∈ (⟨#[97, 98, 99, 100, 101, 102, 103, 104, 105, 106, 107, 108, 109, 110, 111, 112, 113, 114, 115, 116, 117, 118, 119, 120, 121, 122]⟩ : Str).cps.toList := by
      have h3 := g3 ch (by
        rw [Array.mem_toList_iff]
        exact Array.mem_of_getElem? hch)
      have h4 : (⟨#[97, 98, 99, 100, 101, 102, 103, 104, 105, 106, 107, 108, 109, 110, 111, 112, 113, 114, 115, 116, 117, 118, 119, 120, 121, 122]⟩ : Str).cps.toList = List.range' 97 26 := by decide
      rw [h4, List.mem_range']
      exact ⟨ch - 97, by omega, by omega⟩
    refine ⟨_, rfl, ch, _, rfl, rfl, _, rfl, ?_⟩
    rw [decide_eq_true hmem]
    exact ⟨rfl, _, rfl⟩
  · rintro σ H1 ⟨rfl, o, rfl⟩
    exact fin
end
end Sd
end

section
set_option Elab.async false
set_option linter.all false
set_option maxRecDepth 100000
set_option maxHeartbeats 0

/-! Dv0 (printed by gen2.py): derivations. -/
namespace Sd
open PySem PySem.Spec PyProof.Rows L2
open Ev (Hl Rs Rb Ra So Sr CallT)

section
variable {g : Gb} {A : Nat → Addr} {X : Cx} {k : Nat}
theorem d_1 (T : Fx g A) (L : Lv g A k) (L2 : ∀ j, k = j + 1 → Lv g A j) (C : Ctx g X nm_1 (defScope st_1) (fun _ => true) k) (hp : PassesOwn (model X.prog X.w) X.A X.env X.xe) : PSs X (defBody st_1) (tS g.c (Ev.run Ev.fns k) Ev.b_is_within) :=
  (cs_one (cs_ret (ce_and (sc1 C (L.d 109 1 rfl) T.f109 (by kernel_rfl) (ca_cons (sv C (by kernel_rfl)) ca_nil) (lenA_cons lenA_nil)) (ce_one (ce_leLe (sv C (by kernel_rfl)) (sv C (by kernel_rfl)) (sv C (by kernel_rfl))).1))))
theorem d_2 (T : Fx g A) (L : Lv g A k) (L2 : ∀ j, k = j + 1 → Lv g A j) (C : Ctx g X nm_2 (defScope st_2) (fun _ => true) k) (hp : PassesOwn (model X.prog X.w) X.A X.env X.xe) : PSs X (defBody st_2) (tS g.c (Ev.run Ev.fns k) Ev.b_is_sequence) :=
  (cs_one (cs_ret (ce_isi2 C.K kb_list_tuple (C.glb (by kernel_rfl)) (C.free T.b_isinstance) (C.glb (by kernel_rfl)) (C.free T.b_list) (by decide +kernel) (C.glb (by kernel_rfl)) (C.free T.b_tuple) (by decide +kernel) (sv C (by kernel_rfl)))))
theorem d_3 (T : Fx g A) (L : Lv g A k) (L2 : ∀ j, k = j + 1 → Lv g A j) (C : Ctx g X nm_3 (defScope st_3) (fun _ => true) k) (hp : PassesOwn (model X.prog X.w) X.A X.env X.xe) : PSs X (defBody st_3) (tS g.c (Ev.run Ev.fns k) Ev.b_is_tuple) :=
  (cs_one (cs_ret (ce_and (ce_isi C.K kb_tuple (C.glb (by kernel_rfl)) (C.free T.b_isinstance) (C.glb (by kernel_rfl)) (C.free T.b_tuple) (by decide +kernel) (sv C (by kernel_rfl))) (ce_one (ce_eq (ce_len C.K (C.glb (by kernel_rfl)) (C.free T.b_len) (ca_cons (sv C (by kernel_rfl)) ca_nil)) (sv C (by kernel_rfl))).1))))
theorem d_4 (T : Fx g A) (L : Lv g A k) (L2 : ∀ j, k = j + 1 → Lv g A j) (C : Ctx g X nm_4 (defScope st_4) (fun _ => true) k) (hp : PassesOwn (model X.prog X.w) X.A X.env X.xe) : PSs X (defBody st_4) (tS g.c (Ev.run Ev.fns k) Ev.b_is_headed) :=
  (cs_one (cs_ret (ce_and (sc1 C (L.d 3 2 rfl) T.f3 (by kernel_rfl) (ca_cons (sv C (by kernel_rfl)) (ca_cons (sv C (by kernel_rfl)) ca_nil)) (lenA_cons (lenA_cons lenA_nil))) (ce_and (ce_isi C.K kb_str (C.glb (by kernel_rfl)) (C.free T.b_isinstance) (C.glb (by kernel_rfl)) (C.free T.b_str) (by decide +kernel) (ce_idx C.K C.u1 (sv C (by kernel_rfl)) ce_int)) (ce_one (ce_eq (ce_idx C.K C.u1 (sv C (by kernel_rfl)) ce_int) (sv C (by kernel_rfl))).1)))))
theorem d_5 (T : Fx g A) (L : Lv g A k) (L2 : ∀ j, k = j + 1 → Lv g A j) (C : Ctx g X nm_5 (defScope st_5) (fun _ => true) k) (hp : PassesOwn (model X.prog X.w) X.A X.env X.xe) : PSs X (defBody st_5) (tS g.c (Ev.run Ev.fns k) Ev.b_is_key) :=
  (cs_one (cs_ret (ce_and (ce_isi C.K kb_str (C.glb (by kernel_rfl)) (C.free T.b_isinstance) (C.glb (by kernel_rfl)) (C.free T.b_str) (by decide +kernel) (sv C (by kernel_rfl))) (ce_one (ce_in C.K C.u1 (sv C (by kernel_rfl)) (sv C (by kernel_rfl))).1))))
theorem d_6 (T : Fx g A) (L : Lv g A k) (L2 : ∀ j, k = j + 1 → Lv g A j) (C : Ctx g X nm_6 (defScope st_6) (fun _ => true) k) (hp : PassesOwn (model X.prog X.w) X.A X.env X.xe) : PSs X (defBody st_6) (tS g.c (Ev.run Ev.fns k) Ev.b_is_name) :=
  (cs_one (cs_ret (sc1 C (L.d 5 2 rfl) T.f5 (by kernel_rfl) (ca_cons (sv C (by kernel_rfl)) (ca_cons (sgt C T.g_NAMES (by kernel_rfl)) ca_nil)) (lenA_cons (lenA_cons lenA_nil)))))
theorem d_7 (T : Fx g A) (L : Lv g A k) (L2 : ∀ j, k = j + 1 → Lv g A j) (C : Ctx g X nm_7 (defScope st_7) (fun _ => true) k) (hp : PassesOwn (model X.prog X.w) X.A X.env X.xe) : PSs X (defBody st_7) (tS g.c (Ev.run Ev.fns k) Ev.b_is_test) :=
  (cs_cons (cs_if (ct_tr C.K (sc1 C (L.d 4 3 rfl) T.f4 (by kernel_rfl) (ca_cons (sv C (by kernel_rfl)) (ca_cons (ce_str T.s8.1 T.s8.2) (ca_cons ce_int ca_nil))) (lenA_cons (lenA_cons (lenA_cons lenA_nil))))) (cs_one (cs_ret ce_bl)) cs_nil) (cs_cons (cs_if (ct_tr C.K (sc1 C (L.d 4 3 rfl) T.f4 (by kernel_rfl) (ca_cons (sv C (by kernel_rfl)) (ca_cons (ce_str T.s7.1 T.s7.2) (ca_cons ce_int ca_nil))) (lenA_cons (lenA_cons (lenA_cons lenA_nil))))) (cs_one (cs_ret (ce_and (sc1 C (L.d 5 2 rfl) T.f5 (by kernel_rfl) (ca_cons (ce_idx C.K C.u1 (sv C (by kernel_rfl)) ce_int) (ca_cons (sPr_marks T C (sv C (by kernel_rfl))) ca_nil)) (lenA_cons (lenA_cons lenA_nil))) (ce_one (sc1 C (L.d 6 1 rfl) T.f6 (by kernel_rfl) (ca_cons (ce_idx C.K C.u1 (sv C (by kernel_rfl)) ce_int) ca_nil) (lenA_cons lenA_nil)))))) cs_nil) (cs_cons (cs_if (ct_tr C.K (sc1 C (L.d 4 3 rfl) T.f4 (by kernel_rfl) (ca_cons (sv C (by kernel_rfl)) (ca_cons (ce_str T.s2.1 T.s2.2) (ca_cons ce_int ca_nil))) (lenA_cons (lenA_cons (lenA_cons lenA_nil))))) (cs_one (cs_ret (ce_and (sc1 C (L.d 5 2 rfl) T.f5 (by kernel_rfl) (ca_cons (ce_idx C.K C.u1 (sv C (by kernel_rfl)) ce_int) (ca_cons (sPr_ties T C (sv C (by kernel_rfl))) ca_nil)) (lenA_cons (lenA_cons lenA_nil))) (ce_and (sc1 C (L.d 6 1 rfl) T.f6 (by kernel_rfl) (ca_cons (ce_idx C.K C.u1 (sv C (by kernel_rfl)) ce_int) ca_nil) (lenA_cons lenA_nil)) (ce_one (sc1 C (L.d 6 1 rfl) T.f6 (by kernel_rfl) (ca_cons (ce_idx C.K C.u1 (sv C (by kernel_rfl)) ce_int) ca_nil) (lenA_cons lenA_nil))))))) cs_nil) (cs_one (cs_ret (ce_and (sc1 C (L.d 4 3 rfl) T.f4 (by kernel_rfl) (ca_cons (sv C (by kernel_rfl)) (ca_cons (ce_str T.s6.1 T.s6.2) (ca_cons ce_int ca_nil))) (lenA_cons (lenA_cons (lenA_cons lenA_nil)))) (ce_and (sc1 C (L.d 6 1 rfl) T.f6 (by kernel_rfl) (ca_cons (ce_idx C.K C.u1 (sv C (by kernel_rfl)) ce_int) ca_nil) (lenA_cons lenA_nil)) (ce_one (sc1 C (L.d 6 1 rfl) T.f6 (by kernel_rfl) (ca_cons (ce_idx C.K C.u1 (sv C (by kernel_rfl)) ce_int) ca_nil) (lenA_cons lenA_nil))))))))))
theorem d_8 (T : Fx g A) (L : Lv g A k) (L2 : ∀ j, k = j + 1 → Lv g A j) (C : Ctx g X nm_8 (defScope st_8) (fun _ => true) k) (hp : PassesOwn (model X.prog X.w) X.A X.env X.xe) : PSs X (defBody st_8) (tS g.c (Ev.run Ev.fns k) Ev.b_parts_of) :=
  (cs_cons (cs_if (ct_tr C.K (sc1 C (L.d 7 2 rfl) T.f7 (by kernel_rfl) (ca_cons (sv C (by kernel_rfl)) (ca_cons (sv C (by kernel_rfl)) ca_nil)) (lenA_cons (lenA_cons lenA_nil)))) (cs_one (cs_ret (ce_lstF ca_nil))) cs_nil) (cs_cons (cs_if (ct_tr C.K (sc1 C (L.d 4 3 rfl) T.f4 (by kernel_rfl) (ca_cons (sv C (by kernel_rfl)) (ca_cons (ce_str T.s13.1 T.s13.2) (ca_cons ce_int ca_nil))) (lenA_cons (lenA_cons (lenA_cons lenA_nil))))) (cs_one (cs_ret (ce_lstF (ca_cons (ce_idx C.K C.u1 (sv C (by kernel_rfl)) ce_int) ca_nil)))) cs_nil) (cs_cons (cs_if (PW.pt (ct_or (ct_not (ct_tr C.K (sc1 C (L.d 3 2 rfl) T.f3 (by kernel_rfl) (ca_cons (sv C (by kernel_rfl)) (ca_cons ce_int ca_nil)) (lenA_cons (lenA_cons lenA_nil))))) (ct_or1 (ct_not (ct_tr C.K (ce_isi C.K kb_str (C.glb (by kernel_rfl)) (C.free T.b_isinstance) (C.glb (by kernel_rfl)) (C.free T.b_str) (by decide +kernel) (ce_idx C.K C.u1 (sv C (by kernel_rfl)) ce_int))))))) (cs_one (cs_ret ce_non)) cs_nil) (cs_cons (cs_if (ce_in C.K C.u1 (ce_idx C.K C.u1 (sv C (by kernel_rfl)) ce_int) (sgt C T.g_JOINING (by kernel_rfl))).2 (cs_one (cs_ret (ce_lstF (ca_cons (ce_idx C.K C.u1 (sv C (by kernel_rfl)) ce_int) (ca_cons (ce_idx C.K C.u1 (sv C (by kernel_rfl)) ce_int) ca_nil))))) cs_nil) (cs_cons (cs_if (PW.pt (ct_and (ce_in C.K C.u1 (ce_idx C.K C.u1 (sv C (by kernel_rfl)) ce_int) (sgt C T.g_BINDING (by kernel_rfl))).2 (ct_and1 (ct_tr C.K (sc1 C (L.d 6 1 rfl) T.f6 (by kernel_rfl) (ca_cons (ce_idx C.K C.u1 (sv C (by kernel_rfl)) ce_int) ca_nil) (lenA_cons lenA_nil)))))) (cs_one (cs_ret (ce_lstF (ca_cons (ce_idx C.K C.u1 (sv C (by kernel_rfl)) ce_int) ca_nil)))) cs_nil) (cs_one (cs_ret ce_non)))))))
theorem d_9 (T : Fx g A) (L : Lv g A k) (L2 : ∀ j, k = j + 1 → Lv g A j) (C : Ctx g X nm_9 (defScope st_9) (fun _ => true) k) (hp : PassesOwn (model X.prog X.w) X.A X.env X.xe) : PSs X (defBody st_9) (tS g.c (Ev.run Ev.fns k) Ev.b_is_saying) :=
  (cs_cons (ssw C (by kernel_rfl) (ce_lst (ca_cons (ce_tup (ca_cons (sv C (by kernel_rfl)) (ca_cons ce_int ca_nil))) ca_nil))) (cs_cons (ssw C (by kernel_rfl) ce_int) (cs_cons (cs_while hp (ct_tr C.K (sv C (by kernel_rfl))) (cs_cons (cs_asg (tg2 (by decide)) (ce_pop C.K (sv C (by kernel_rfl))) (pg2 C (by kernel_rfl) (by kernel_rfl))) (cs_cons (sAugA C (by kernel_rfl) ce_int) (cs_cons (ssw C (by kernel_rfl) (sc1 C (L.d 8 2 rfl) T.f8 (by kernel_rfl) (ca_cons (sv C (by kernel_rfl)) (ca_cons (sv C (by kernel_rfl)) ca_nil)) (lenA_cons (lenA_cons lenA_nil)))) (cs_cons (cs_if (PW.pt (ct_or (ce_isN (sv C (by kernel_rfl))).2 (ct_or (ce_gt (sv C (by kernel_rfl)) (sgi C T.g_MOST_TUPLES (by kernel_rfl))).2 (ct_or1 (ce_gt (sv C (by kernel_rfl)) (sgi C T.g_MOST_DEEP (by kernel_rfl))).2)))) (cs_one (cs_ret ce_bl)) cs_nil) (cs_one (cs_for hp C.calm (ci_seq C.K (sv C (by kernel_rfl))) (pgn C (by kernel_rfl)) (tg1 7) (cs_one (cs_expr (ce_append C.K (sv C (by kernel_rfl)) (ca_cons (ce_tup (ca_cons (sv C (by kernel_rfl)) (ca_cons (ce_add (sv C (by kernel_rfl)) ce_int) ca_nil))) ca_nil))))))))))) (cs_one (cs_ret ce_bl)))))
theorem d_10 (T : Fx g A) (L : Lv g A k) (L2 : ∀ j, k = j + 1 → Lv g A j) (C : Ctx g X nm_10 (defScope st_10) (fun _ => true) k) (hp : PassesOwn (model X.prog X.w) X.A X.env X.xe) : PSs X (defBody st_10) (tS g.c (Ev.run Ev.fns k) Ev.b_sayings_in) :=
  (cs_cons (cs_if (ce_eq (ce_idx C.K C.u1 (sv C (by kernel_rfl)) ce_int) (ce_str T.s13.1 T.s13.2)).2 (cs_one (cs_ret (ce_tup (ca_cons (ce_idx C.K C.u1 (sv C (by kernel_rfl)) ce_int) ca_nil)))) cs_nil) (cs_cons (cs_if (ce_in C.K C.u1 (ce_idx C.K C.u1 (sv C (by kernel_rfl)) ce_int) (sgt C T.g_JOINING (by kernel_rfl))).2 (cs_one (cs_ret (ce_tup (ca_cons (ce_idx C.K C.u1 (sv C (by kernel_rfl)) ce_int) (ca_cons (ce_idx C.K C.u1 (sv C (by kernel_rfl)) ce_int) ca_nil))))) cs_nil) (cs_cons (cs_if (ce_in C.K C.u1 (ce_idx C.K C.u1 (sv C (by kernel_rfl)) ce_int) (sgt C T.g_BINDING (by kernel_rfl))).2 (cs_one (cs_ret (ce_tup (ca_cons (ce_idx C.K C.u1 (sv C (by kernel_rfl)) ce_int) ca_nil)))) cs_nil) (cs_one (cs_ret (ce_tup ca_nil))))))
theorem d_11 (T : Fx g A) (L : Lv g A k) (L2 : ∀ j, k = j + 1 → Lv g A j) (C : Ctx g X nm_11 (defScope st_11) (fun _ => true) k) (hp : PassesOwn (model X.prog X.w) X.A X.env X.xe) : PSs X (defBody st_11) (tS g.c (Ev.run Ev.fns k) Ev.b_own_names) :=
  (cs_cons (cs_if (ce_eq (ce_idx C.K C.u1 (sv C (by kernel_rfl)) ce_int) (ce_str T.s7.1 T.s7.2)).2 (cs_one (cs_ret (ce_tup (ca_cons (ce_idx C.K C.u1 (sv C (by kernel_rfl)) ce_int) ca_nil)))) cs_nil) (cs_cons (cs_if (ce_eq (ce_idx C.K C.u1 (sv C (by kernel_rfl)) ce_int) (ce_str T.s2.1 T.s2.2)).2 (cs_one (cs_ret (ce_tup (ca_cons (ce_idx C.K C.u1 (sv C (by kernel_rfl)) ce_int) (ca_cons (ce_idx C.K C.u1 (sv C (by kernel_rfl)) ce_int) ca_nil))))) cs_nil) (cs_cons (cs_if (ce_eq (ce_idx C.K C.u1 (sv C (by kernel_rfl)) ce_int) (ce_str T.s6.1 T.s6.2)).2 (cs_one (cs_ret (ce_tup (ca_cons (ce_idx C.K C.u1 (sv C (by kernel_rfl)) ce_int) (ca_cons (ce_idx C.K C.u1 (sv C (by kernel_rfl)) ce_int) ca_nil))))) cs_nil) (cs_one (cs_ret (ce_tup ca_nil))))))
theorem d_12 (T : Fx g A) (L : Lv g A k) (L2 : ∀ j, k = j + 1 → Lv g A j) (C : Ctx g X nm_12 (defScope st_12) (fun _ => true) k) (hp : PassesOwn (model X.prog X.w) X.A X.env X.xe) : PSs X (defBody st_12) (tS g.c (Ev.run Ev.fns k) Ev.b_free_names) :=
  (cs_cons (ssw C (by kernel_rfl) ce_dctK) (cs_cons (cs_for hp C.calm (ci_seq C.K (sc1 C (L.d 11 1 rfl) T.f11 (by kernel_rfl) (ca_cons (sv C (by kernel_rfl)) ca_nil) (lenA_cons lenA_nil))) (pgn C (by kernel_rfl)) (tg1 2) (cs_one (cs_sub C.u1 (sv C (by kernel_rfl)) (sv C (by kernel_rfl)) ce_bl))) (cs_cons (cs_for hp C.calm (ci_seq C.K (sc1 C (L.d 10 1 rfl) T.f10 (by kernel_rfl) (ca_cons (sv C (by kernel_rfl)) ca_nil) (lenA_cons lenA_nil))) (pgn C (by kernel_rfl)) (tg1 3) (cs_one (cs_for hp C.calm (ci_seq C.K (sc1 C (L.d 12 1 rfl) T.f12 (by kernel_rfl) (ca_cons (sv C (by kernel_rfl)) ca_nil) (lenA_cons lenA_nil))) (pgn C (by kernel_rfl)) (tg1 2) (cs_one (cs_if (PW.pt (ct_or (ce_notIn C.K C.u1 (ce_idx C.K C.u1 (sv C (by kernel_rfl)) ce_int) (sgt C T.g_BINDING (by kernel_rfl))).2 (ct_or1 (ce_ne (sv C (by kernel_rfl)) (ce_idx C.K C.u1 (sv C (by kernel_rfl)) ce_int)).2))) (cs_one (cs_sub C.u1 (sv C (by kernel_rfl)) (sv C (by kernel_rfl)) ce_bl)) cs_nil))))) (cs_one (cs_ret (ce_tuple C.K (C.glb (by kernel_rfl)) (C.free T.b_tuple) (sLc C (own := [(("name" : Str), 2)]) (tg1 2) (ci_seq C.K (sgt C T.g_NAMES (by kernel_rfl))) (by kernel_rfl) (fun s0 H0 A0 c0 p0 => (pgn (C.blk s0 H0 _ c0 A0 p0) (by kernel_rfl))) (fun s0 H0 A0 c0 p0 => (cts_one (ce_in (C.blk s0 H0 _ c0 A0 p0).K (C.blk s0 H0 _ c0 A0 p0).u1 (sv (C.blk s0 H0 _ c0 A0 p0) (by kernel_rfl)) (sv (C.blk s0 H0 _ c0 A0 p0) (by kernel_rfl))).2)) (fun s0 H0 A0 c0 p0 => (sv (C.blk s0 H0 _ c0 A0 p0) (by kernel_rfl))))))))))
theorem d_13 (T : Fx g A) (L : Lv g A k) (L2 : ∀ j, k = j + 1 → Lv g A j) (C : Ctx g X nm_13 (defScope st_13) (fun _ => true) k) (hp : PassesOwn (model X.prog X.w) X.A X.env X.xe) : PSs X (defBody st_13) (tS g.c (Ev.run Ev.fns k) Ev.b_check_saying) :=
  (cs_one (cs_if (ct_not (ct_tr C.K (sc1 C (L.d 9 2 rfl) T.f9 (by kernel_rfl) (ca_cons (sv C (by kernel_rfl)) (ca_cons (sv C (by kernel_rfl)) ca_nil)) (lenA_cons (lenA_cons lenA_nil))))) (cs_one cs_nev) cs_nil))
theorem d_14 (T : Fx g A) (L : Lv g A k) (L2 : ∀ j, k = j + 1 → Lv g A j) (C : Ctx g X nm_14 (defScope st_14) (fun _ => true) k) (hp : PassesOwn (model X.prog X.w) X.A X.env X.xe) : PSs X (defBody st_14) (tS g.c (Ev.run Ev.fns k) Ev.b_check_closed) :=
  (cs_cons (cs_expr (sc1 C (L.d 13 2 rfl) T.f13 (by kernel_rfl) (ca_cons (sv C (by kernel_rfl)) (ca_cons (sv C (by kernel_rfl)) ca_nil)) (lenA_cons (lenA_cons lenA_nil)))) (cs_one (cs_if (ct_tr C.K (sc1 C (L.d 12 1 rfl) T.f12 (by kernel_rfl) (ca_cons (sv C (by kernel_rfl)) ca_nil) (lenA_cons lenA_nil))) (cs_one cs_nev) cs_nil)))
theorem d_15 (T : Fx g A) (L : Lv g A k) (L2 : ∀ j, k = j + 1 → Lv g A j) (C : Ctx g X nm_15 (defScope st_15) (fun _ => true) k) (hp : PassesOwn (model X.prog X.w) X.A X.env X.xe) : PSs X (defBody st_15) (tS g.c (Ev.run Ev.fns k) Ev.b_Node___init__) :=
  (cs_cons (cs_attr C.K T.cls (by decide) T.a6 (sv C (by kernel_rfl)) (ce_idx C.K C.u1 (sv C (by kernel_rfl)) ce_int)) (cs_cons (cs_attr C.K T.cls (by decide) T.a5 (sv C (by kernel_rfl)) (ce_tuple C.K (C.glb (by kernel_rfl)) (C.free T.b_tuple) (sLc C (own := [(("item" : Str), 4)]) (tg1 4) (ci_seq C.K (ce_from1 C.K (sv C (by kernel_rfl)))) (by kernel_rfl) (fun s0 H0 A0 c0 p0 => (pgn (C.blk s0 H0 _ c0 A0 p0) (by kernel_rfl))) (fun s0 H0 A0 c0 p0 => (cts_one (ct_tr (C.blk s0 H0 _ c0 A0 p0).K (ce_isi (C.blk s0 H0 _ c0 A0 p0).K kb_str ((C.blk s0 H0 _ c0 A0 p0).glb (by kernel_rfl)) ((C.blk s0 H0 _ c0 A0 p0).free T.b_isinstance) ((C.blk s0 H0 _ c0 A0 p0).glb (by kernel_rfl)) ((C.blk s0 H0 _ c0 A0 p0).free T.b_str) (by decide +kernel) (sv (C.blk s0 H0 _ c0 A0 p0) (by kernel_rfl)))))) (fun s0 H0 A0 c0 p0 => (sv (C.blk s0 H0 _ c0 A0 p0) (by kernel_rfl)))))) (cs_cons (cs_attr C.K T.cls (by decide) T.a4 (sv C (by kernel_rfl)) (sv C (by kernel_rfl))) (cs_cons (cs_attr C.K T.cls (by decide) T.a3 (sv C (by kernel_rfl)) (sc1 C (L.d 12 1 rfl) T.f12 (by kernel_rfl) (ca_cons (sv C (by kernel_rfl)) ca_nil) (lenA_cons lenA_nil))) (cs_one (cs_attr C.K T.cls (by decide) T.a2 (sv C (by kernel_rfl)) (sv C (by kernel_rfl))))))))
theorem d_16 (T : Fx g A) (L : Lv g A k) (L2 : ∀ j, k = j + 1 → Lv g A j) (C : Ctx g X nm_16 (defScope st_16) (fun _ => true) k) (hp : PassesOwn (model X.prog X.w) X.A X.env X.xe) : PSs X (defBody st_16) (tS g.c (Ev.run Ev.fns k) Ev.b_node_of) :=
  (cs_cons (sSetLc C (by kernel_rfl) (own := [(("inner" : Str), 5)]) (tg1 5) (ci_seq C.K (sc1 C (L.d 10 1 rfl) T.f10 (by kernel_rfl) (ca_cons (sv C (by kernel_rfl)) ca_nil) (lenA_cons lenA_nil))) (by kernel_rfl) (fun s0 H0 A0 c0 p0 => (pgn (C.blk s0 H0 _ c0 A0 p0) (by kernel_rfl))) (fun s0 H0 A0 c0 p0 => cts_nil) (fun s0 H0 A0 c0 p0 => (sc1 (C.blk s0 H0 _ c0 A0 p0) (L.d 16 2 rfl) T.f16 (by kernel_rfl) (ca_cons (sv (C.blk s0 H0 _ c0 A0 p0) (by kernel_rfl)) (ca_cons (sv (C.blk s0 H0 _ c0 A0 p0) (by kernel_rfl)) ca_nil)) (lenA_cons (lenA_cons lenA_nil))))) (cs_cons (ssw C (by kernel_rfl) (ce_if (ce_in C.K C.u1 (ce_idx C.K C.u1 (sv C (by kernel_rfl)) ce_int) (sgt C T.g_BINDING (by kernel_rfl))).2 (ce_len C.K (C.glb (by kernel_rfl)) (C.free T.b_len) (ca_cons (sv C (by kernel_rfl)) ca_nil)) ce_non)) (cs_cons (ssw C (by kernel_rfl) (ce_make (fns := Ev.fns) (f := 114) (kc := 0) (init := 15) (np := 3) (pre := false) (frz := true) rfl C (fun j hj => (L2 j hj).d 15 4 rfl) T.k0.1 T.k0.2 (C.glb (by kernel_rfl)) T.c0 (ca_cons (sv C (by kernel_rfl)) (ca_cons (sv C (by kernel_rfl)) (ca_cons (sv C (by kernel_rfl)) ca_nil))) (lenA_cons (lenA_cons (lenA_cons lenA_nil))) (C.ndb (by kernel_rfl)))) (cs_cons (cs_if (ce_notN (sv C (by kernel_rfl))).2 (cs_one (cs_expr (ce_append C.K (sv C (by kernel_rfl)) (ca_cons (sv C (by kernel_rfl)) ca_nil)))) cs_nil) (cs_one (cs_ret (sv C (by kernel_rfl))))))))
theorem d_17 (T : Fx g A) (L : Lv g A k) (L2 : ∀ j, k = j + 1 → Lv g A j) (C : Ctx g X nm_17 (defScope st_17) (fun _ => true) k) (hp : PassesOwn (model X.prog X.w) X.A X.env X.xe) : PSs X (defBody st_17) (tS g.c (Ev.run Ev.fns k) Ev.b_Reading___init__) :=
  (cs_cons (cs_attr C.K T.cls (by decide) T.a8 (sv C (by kernel_rfl)) (sv C (by kernel_rfl))) (cs_one (cs_attr C.K T.cls (by decide) T.a7 (sv C (by kernel_rfl)) (ce_told (C.pr.trans T.P.symm) (C.w.trans T.w.symm)))))
theorem d_18 (T : Fx g A) (L : Lv g A k) (L2 : ∀ j, k = j + 1 → Lv g A j) (C : Ctx g X nm_18 (defScope st_18) (fun _ => true) k) (hp : PassesOwn (model X.prog X.w) X.A X.env X.xe) : PSs X (defBody st_18) (tS g.c (Ev.run Ev.fns k) Ev.b_Reading_flag) :=
  (cs_cons (ssw C (by kernel_rfl) (ce_attr C.K T.cls (by decide) T.a6 (sv C (by kernel_rfl)))) (cs_cons (cs_if (ce_eq (sv C (by kernel_rfl)) (ce_str T.s13.1 T.s13.2)).2 (cs_one (cs_ret (ce_not (ce_meth C (ma_flag_3 T L) run0 T.no_flag (sv C (by kernel_rfl)) (ca_cons (ce_idx C.K C.u1 (ce_attr C.K T.cls (by decide) T.a4 (sv C (by kernel_rfl))) ce_int) (ca_cons (sv C (by kernel_rfl)) (ca_cons (sv C (by kernel_rfl)) ca_nil))) (lenA_cons (lenA_cons (lenA_cons lenA_nil))))))) cs_nil) (cs_cons (cs_if (ce_eq (sv C (by kernel_rfl)) (ce_str T.s11.1 T.s11.2)).2 (cs_one (cs_ret (ce_and (ce_meth C (ma_flag_3 T L) run0 T.no_flag (sv C (by kernel_rfl)) (ca_cons (ce_idx C.K C.u1 (ce_attr C.K T.cls (by decide) T.a4 (sv C (by kernel_rfl))) ce_int) (ca_cons (sv C (by kernel_rfl)) (ca_cons (sv C (by kernel_rfl)) ca_nil))) (lenA_cons (lenA_cons (lenA_cons lenA_nil)))) (ce_one (ce_meth C (ma_flag_3 T L) run0 T.no_flag (sv C (by kernel_rfl)) (ca_cons (ce_idx C.K C.u1 (ce_attr C.K T.cls (by decide) T.a4 (sv C (by kernel_rfl))) ce_int) (ca_cons (sv C (by kernel_rfl)) (ca_cons (sv C (by kernel_rfl)) ca_nil))) (lenA_cons (lenA_cons (lenA_cons lenA_nil)))))))) cs_nil) (cs_cons (cs_if (ce_eq (sv C (by kernel_rfl)) (ce_str T.s12.1 T.s12.2)).2 (cs_one (cs_ret (ce_or (ce_meth C (ma_flag_3 T L) run0 T.no_flag (sv C (by kernel_rfl)) (ca_cons (ce_idx C.K C.u1 (ce_attr C.K T.cls (by decide) T.a4 (sv C (by kernel_rfl))) ce_int) (ca_cons (sv C (by kernel_rfl)) (ca_cons (sv C (by kernel_rfl)) ca_nil))) (lenA_cons (lenA_cons (lenA_cons lenA_nil)))) (ce_one (ce_meth C (ma_flag_3 T L) run0 T.no_flag (sv C (by kernel_rfl)) (ca_cons (ce_idx C.K C.u1 (ce_attr C.K T.cls (by decide) T.a4 (sv C (by kernel_rfl))) ce_int) (ca_cons (sv C (by kernel_rfl)) (ca_cons (sv C (by kernel_rfl)) ca_nil))) (lenA_cons (lenA_cons (lenA_cons lenA_nil)))))))) cs_nil) (cs_cons (cs_if (ce_in C.K C.u1 (sv C (by kernel_rfl)) (ce_tup (ca_cons (ce_str T.s9.1 T.s9.2) (ca_cons (ce_str T.s10.1 T.s10.2) ca_nil)))).2 (cs_one (cs_ret (ce_meth C (ma_bound_flag_3 T L) run0 T.no_bound_flag (sv C (by kernel_rfl)) (ca_cons (sv C (by kernel_rfl)) (ca_cons (sv C (by kernel_rfl)) (ca_cons (sv C (by kernel_rfl)) ca_nil))) (lenA_cons (lenA_cons (lenA_cons lenA_nil)))))) cs_nil) (cs_one (cs_ret (ce_meth C (ma_test_3 T L) run0 T.no_test (sv C (by kernel_rfl)) (ca_cons (sv C (by kernel_rfl)) (ca_cons (sv C (by kernel_rfl)) (ca_cons (sv C (by kernel_rfl)) ca_nil))) (lenA_cons (lenA_cons (lenA_cons lenA_nil)))))))))))
theorem d_19 (T : Fx g A) (L : Lv g A k) (L2 : ∀ j, k = j + 1 → Lv g A j) (C : Ctx g X nm_19 (defScope st_19) (fun _ => true) k) (hp : PassesOwn (model X.prog X.w) X.A X.env X.xe) : PSs X (defBody st_19) (tS g.c (Ev.run Ev.fns k) Ev.b_Reading_test) :=
  (cs_cons (cs_if (ce_eq (ce_attr C.K T.cls (by decide) T.a6 (sv C (by kernel_rfl))) (ce_str T.s8.1 T.s8.2)).2 (cs_one (cs_ret ce_bl)) cs_nil) (cs_cons (sSetLc C (by kernel_rfl) (own := [(("name" : Str), 5)]) (tg1 5) (ci_seq C.K (ce_attr C.K T.cls (by decide) T.a5 (sv C (by kernel_rfl)))) (by kernel_rfl) (fun s0 H0 A0 c0 p0 => (pgn (C.blk s0 H0 _ c0 A0 p0) (by kernel_rfl))) (fun s0 H0 A0 c0 p0 => (cts_one (ce_in (C.blk s0 H0 _ c0 A0 p0).K (C.blk s0 H0 _ c0 A0 p0).u1 (sv (C.blk s0 H0 _ c0 A0 p0) (by kernel_rfl)) (ce_tup (ca_cons (ce_str T.s4.1 T.s4.2) (ca_cons (ce_str T.s5.1 T.s5.2) ca_nil)))).2)) (fun s0 H0 A0 c0 p0 => (ce_if (ce_eq (sv (C.blk s0 H0 _ c0 A0 p0) (by kernel_rfl)) (ce_str T.s4.1 T.s4.2)).2 (sv (C.blk s0 H0 _ c0 A0 p0) (by kernel_rfl)) (sv (C.blk s0 H0 _ c0 A0 p0) (by kernel_rfl))))) (cs_cons (cs_if (ce_eq (ce_attr C.K T.cls (by decide) T.a6 (sv C (by kernel_rfl))) (ce_str T.s7.1 T.s7.2)).2 (cs_one (cs_ret (ce_meth C (ma_has_2 T L) run0 T.no_has (ce_attr C.K T.cls (by decide) T.a8 (sv C (by kernel_rfl))) (ca_cons (ce_idx C.K C.u1 (ce_attr C.K T.cls (by decide) T.a5 (sv C (by kernel_rfl))) ce_int) (ca_cons (ce_idx C.K C.u1 (sv C (by kernel_rfl)) ce_int) ca_nil)) (lenA_cons (lenA_cons lenA_nil))))) cs_nil) (cs_cons (cs_if (ce_eq (ce_attr C.K T.cls (by decide) T.a6 (sv C (by kernel_rfl))) (ce_str T.s2.1 T.s2.2)).2 (cs_one (cs_ret (ce_meth C (ma_leads_3 T L) run0 T.no_leads (ce_attr C.K T.cls (by decide) T.a8 (sv C (by kernel_rfl))) (ca_cons (ce_idx C.K C.u1 (ce_attr C.K T.cls (by decide) T.a5 (sv C (by kernel_rfl))) ce_int) (ca_cons (ce_idx C.K C.u1 (sv C (by kernel_rfl)) ce_int) (ca_cons (ce_idx C.K C.u1 (sv C (by kernel_rfl)) ce_int) ca_nil))) (lenA_cons (lenA_cons (lenA_cons lenA_nil)))))) cs_nil) (cs_one (cs_ret (ce_eq (ce_idx C.K C.u1 (sv C (by kernel_rfl)) ce_int) (ce_idx C.K C.u1 (sv C (by kernel_rfl)) ce_int)).1))))))
theorem d_20 (T : Fx g A) (L : Lv g A k) (L2 : ∀ j, k = j + 1 → Lv g A j) (C : Ctx g X nm_20 (defScope st_20) (fun _ => true) k) (hp : PassesOwn (model X.prog X.w) X.A X.env X.xe) : PSs X (defBody st_20) (tS g.c (Ev.run Ev.fns k) Ev.b_Reading_bound_flag) :=
  (cs_cons (ssw C (by kernel_rfl) ce_non) (cs_cons (cs_if (ct_tr C.K (ce_attr C.K T.cls (by decide) T.a3 (sv C (by kernel_rfl)))) (cs_one (ssw C (by kernel_rfl) (ce_if (ce_eq (ce_idx C.K C.u1 (ce_attr C.K T.cls (by decide) T.a3 (sv C (by kernel_rfl))) ce_int) (ce_str T.s4.1 T.s4.2)).2 (sv C (by kernel_rfl)) (sv C (by kernel_rfl))))) cs_nil) (cs_cons (ssw C (by kernel_rfl) (ce_tup (ca_cons (ce_attr C.K T.cls (by decide) T.a2 (sv C (by kernel_rfl))) (ca_cons (sv C (by kernel_rfl)) ca_nil)))) (cs_cons (cs_if (ce_notInS (C.pr.trans T.P.symm) (C.w.trans T.w.symm) C.u1 (sv C (by kernel_rfl)) (ce_attr C.K T.cls (by decide) T.a7 (sv C (by kernel_rfl)))).2 (cs_one (cs_subS (C.pr.trans T.P.symm) (C.w.trans T.w.symm) C.u1 (ce_attr C.K T.cls (by decide) T.a7 (sv C (by kernel_rfl))) (sv C (by kernel_rfl)) (ce_meth C (ma_searched_3 T L) run0 T.no_searched (sv C (by kernel_rfl)) (ca_cons (sv C (by kernel_rfl)) (ca_cons (sv C (by kernel_rfl)) (ca_cons (sv C (by kernel_rfl)) ca_nil))) (lenA_cons (lenA_cons (lenA_cons lenA_nil)))))) cs_nil) (cs_one (cs_ret (ce_idxS (C.pr.trans T.P.symm) (C.w.trans T.w.symm) C.u1 (ce_attr C.K T.cls (by decide) T.a7 (sv C (by kernel_rfl))) (sv C (by kernel_rfl)))))))))
theorem d_21 (T : Fx g A) (L : Lv g A k) (L2 : ∀ j, k = j + 1 → Lv g A j) (C : Ctx g X nm_21 (defScope st_21) (fun _ => true) k) (hp : PassesOwn (model X.prog X.w) X.A X.env X.xe) : PSs X (defBody st_21) (tS g.c (Ev.run Ev.fns k) Ev.b_Reading_searched) :=
  (cs_cons (ssw C (by kernel_rfl) (ce_eq (ce_attr C.K T.cls (by decide) T.a6 (sv C (by kernel_rfl))) (ce_str T.s10.1 T.s10.2)).1) (cs_cons (cs_for hp C.calm (ci_range (C.glb (by kernel_rfl)) (C.free T.b_range) (ca_cons (ce_attr C.K T.cls (by decide) T.a9 (ce_attr C.K T.cls (by decide) T.a8 (sv C (by kernel_rfl)))) ca_nil)) (pgn C (by kernel_rfl)) (tg1 5) (cs_cons (cs_asg (tg2 (by decide)) (ce_if (ce_eq (ce_idx C.K C.u1 (ce_attr C.K T.cls (by decide) T.a5 (sv C (by kernel_rfl))) ce_int) (ce_str T.s4.1 T.s4.2)).2 (ce_tup (ca_cons (sv C (by kernel_rfl)) (ca_cons (sv C (by kernel_rfl)) ca_nil))) (ce_tup (ca_cons (sv C (by kernel_rfl)) (ca_cons (sv C (by kernel_rfl)) ca_nil)))) (pg2 C (by kernel_rfl) (by kernel_rfl))) (cs_one (cs_if (ce_eq (ce_meth C (ma_flag_3 T L) run0 T.no_flag (sv C (by kernel_rfl)) (ca_cons (ce_idx C.K C.u1 (ce_attr C.K T.cls (by decide) T.a4 (sv C (by kernel_rfl))) ce_int) (ca_cons (sv C (by kernel_rfl)) (ca_cons (sv C (by kernel_rfl)) ca_nil))) (lenA_cons (lenA_cons (lenA_cons lenA_nil)))) (sv C (by kernel_rfl))).2 (cs_one (cs_ret (sv C (by kernel_rfl)))) cs_nil)))) (cs_one (cs_ret (ce_not (sv C (by kernel_rfl)))))))
theorem d_22 (T : Fx g A) (L : Lv g A k) (L2 : ∀ j, k = j + 1 → Lv g A j) (C : Ctx g X nm_22 (defScope st_22) (fun _ => true) k) (hp : PassesOwn (model X.prog X.w) X.A X.env X.xe) : PSs X (defBody st_22) (tS g.c (Ev.run Ev.fns k) Ev.b_is_thing) :=
  (cs_one (cs_ret (sc1 C (L.d 1 3 rfl) T.f1 (by kernel_rfl) (ca_cons (sv C (by kernel_rfl)) (ca_cons ce_int (ca_cons (ce_sub (sv C (by kernel_rfl)) ce_int) ca_nil))) (lenA_cons (lenA_cons (lenA_cons lenA_nil))))))
theorem d_23 (T : Fx g A) (L : Lv g A k) (L2 : ∀ j, k = j + 1 → Lv g A j) (C : Ctx g X nm_23 (defScope st_23) (fun _ => true) k) (hp : PassesOwn (model X.prog X.w) X.A X.env X.xe) : PSs X (defBody st_23) (tS g.c (Ev.run Ev.fns k) Ev.b_is_pair) :=
  (cs_one (cs_ret (ce_and (sc1 C (L.d 3 2 rfl) T.f3 (by kernel_rfl) (ca_cons (sv C (by kernel_rfl)) (ca_cons ce_int ca_nil)) (lenA_cons (lenA_cons lenA_nil))) (ce_and (sc1 C (L.d 22 2 rfl) T.f22 (by kernel_rfl) (ca_cons (ce_idx C.K C.u1 (sv C (by kernel_rfl)) ce_int) (ca_cons (sv C (by kernel_rfl)) ca_nil)) (lenA_cons (lenA_cons lenA_nil))) (ce_one (sc1 C (L.d 22 2 rfl) T.f22 (by kernel_rfl) (ca_cons (ce_idx C.K C.u1 (sv C (by kernel_rfl)) ce_int) (ca_cons (sv C (by kernel_rfl)) ca_nil)) (lenA_cons (lenA_cons lenA_nil))))))))
theorem d_24 (T : Fx g A) (L : Lv g A k) (L2 : ∀ j, k = j + 1 → Lv g A j) (C : Ctx g X nm_24 (defScope st_24) (fun _ => true) k) (hp : PassesOwn (model X.prog X.w) X.A X.env X.xe) : PSs X (defBody st_24) (tS g.c (Ev.run Ev.fns k) Ev.b_is_dict_of) :=
  (cs_cons (cs_if (PW.pt (ct_or (ct_not (ct_tr C.K (ce_isi C.K kb_dict (C.glb (by kernel_rfl)) (C.free T.b_isinstance) (C.glb (by kernel_rfl)) (C.free T.b_dict) (by decide +kernel) (sv C (by kernel_rfl))))) (ct_or1 (ce_ne (ce_len C.K (C.glb (by kernel_rfl)) (C.free T.b_len) (ca_cons (sv C (by kernel_rfl)) ca_nil)) (ce_len C.K (C.glb (by kernel_rfl)) (C.free T.b_len) (ca_cons (sv C (by kernel_rfl)) ca_nil))).2))) (cs_one (cs_ret ce_bl)) cs_nil) (cs_cons (cs_for hp C.calm (ci_keys (sv C (by kernel_rfl))) (pgn C (by kernel_rfl)) (tg1 2) (cs_one (cs_if (ct_not (ct_tr C.K (sc1 C (L.d 5 2 rfl) T.f5 (by kernel_rfl) (ca_cons (sv C (by kernel_rfl)) (ca_cons (sv C (by kernel_rfl)) ca_nil)) (lenA_cons (lenA_cons lenA_nil))))) (cs_one (cs_ret ce_bl)) cs_nil))) (cs_one (cs_ret ce_bl))))
theorem d_25 (T : Fx g A) (L : Lv g A k) (L2 : ∀ j, k = j + 1 → Lv g A j) (C : Ctx g X nm_25 (defScope st_25) (fun _ => true) k) (hp : PassesOwn (model X.prog X.w) X.A X.env X.xe) : PSs X (defBody st_25) (tS g.c (Ev.run Ev.fns k) Ev.b_are_things) :=
  (cs_cons (cs_if (ct_not (ct_tr C.K (sc1 C (L.d 2 1 rfl) T.f2 (by kernel_rfl) (ca_cons (sv C (by kernel_rfl)) ca_nil) (lenA_cons lenA_nil)))) (cs_one (cs_ret ce_bl)) cs_nil) (cs_cons (ssw C (by kernel_rfl) ce_dctK) (cs_cons (cs_for hp C.calm (ci_seq C.K (sv C (by kernel_rfl))) (pgn C (by kernel_rfl)) (tg1 3) (cs_cons (cs_if (PW.pt (ct_or (ct_not (ct_tr C.K (sc1 C (L.d 22 2 rfl) T.f22 (by kernel_rfl) (ca_cons (sv C (by kernel_rfl)) (ca_cons (sv C (by kernel_rfl)) ca_nil)) (lenA_cons (lenA_cons lenA_nil))))) (ct_or1 (ce_in C.K C.u1 (sv C (by kernel_rfl)) (sv C (by kernel_rfl))).2))) (cs_one (cs_ret ce_bl)) cs_nil) (cs_one (cs_sub C.u1 (sv C (by kernel_rfl)) (sv C (by kernel_rfl)) ce_bl)))) (cs_one (cs_ret ce_bl)))))
theorem d_26 (T : Fx g A) (L : Lv g A k) (L2 : ∀ j, k = j + 1 → Lv g A j) (C : Ctx g X nm_26 (defScope st_26) (fun _ => true) k) (hp : PassesOwn (model X.prog X.w) X.A X.env X.xe) : PSs X (defBody st_26) (tS g.c (Ev.run Ev.fns k) Ev.b_are_pairs) :=
  (cs_cons (cs_if (ct_not (ct_tr C.K (sc1 C (L.d 2 1 rfl) T.f2 (by kernel_rfl) (ca_cons (sv C (by kernel_rfl)) ca_nil) (lenA_cons lenA_nil)))) (cs_one (cs_ret ce_bl)) cs_nil) (cs_cons (ssw C (by kernel_rfl) ce_dctT) (cs_cons (cs_for hp C.calm (ci_seq C.K (sv C (by kernel_rfl))) (pgn C (by kernel_rfl)) (tg1 3) (cs_cons (cs_if (PW.pt (ct_or (ct_not (ct_tr C.K (sc1 C (L.d 23 2 rfl) T.f23 (by kernel_rfl) (ca_cons (sv C (by kernel_rfl)) (ca_cons (sv C (by kernel_rfl)) ca_nil)) (lenA_cons (lenA_cons lenA_nil))))) (ct_or1 (ce_in C.K C.u1 (sv C (by kernel_rfl)) (sv C (by kernel_rfl))).2))) (cs_one (cs_ret ce_bl)) cs_nil) (cs_one (cs_sub C.u1 (sv C (by kernel_rfl)) (sv C (by kernel_rfl)) ce_bl)))) (cs_one (cs_ret ce_bl)))))
theorem d_27 (T : Fx g A) (L : Lv g A k) (L2 : ∀ j, k = j + 1 → Lv g A j) (C : Ctx g X nm_27 (defScope st_27) (fun _ => true) k) (hp : PassesOwn (model X.prog X.w) X.A X.env X.xe) : PSs X (defBody st_27) (tS g.c (Ev.run Ev.fns k) Ev.b_check_marks) :=
  (cs_cons (cs_if (ct_not (ct_tr C.K (sc1 C (L.d 24 2 rfl) T.f24 (by kernel_rfl) (ca_cons (sv C (by kernel_rfl)) (ca_cons (sPr_marks T C (sv C (by kernel_rfl))) ca_nil)) (lenA_cons (lenA_cons lenA_nil))))) (cs_one cs_nev) cs_nil) (cs_one (cs_for hp C.calm (ci_keys (sv C (by kernel_rfl))) (pgn C (by kernel_rfl)) (tg1 3) (cs_one (cs_if (ct_not (ct_tr C.K (sc1 C (L.d 25 2 rfl) T.f25 (by kernel_rfl) (ca_cons (ce_idx C.K C.u1 (sv C (by kernel_rfl)) (sv C (by kernel_rfl))) (ca_cons (sv C (by kernel_rfl)) ca_nil)) (lenA_cons (lenA_cons lenA_nil))))) (cs_one cs_nev) cs_nil)))))
theorem d_28 (T : Fx g A) (L : Lv g A k) (L2 : ∀ j, k = j + 1 → Lv g A j) (C : Ctx g X nm_28 (defScope st_28) (fun _ => true) k) (hp : PassesOwn (model X.prog X.w) X.A X.env X.xe) : PSs X (defBody st_28) (tS g.c (Ev.run Ev.fns k) Ev.b_check_ties) :=
  (cs_cons (cs_if (ct_not (ct_tr C.K (sc1 C (L.d 24 2 rfl) T.f24 (by kernel_rfl) (ca_cons (sv C (by kernel_rfl)) (ca_cons (sPr_ties T C (sv C (by kernel_rfl))) ca_nil)) (lenA_cons (lenA_cons lenA_nil))))) (cs_one cs_nev) cs_nil) (cs_one (cs_for hp C.calm (ci_keys (sv C (by kernel_rfl))) (pgn C (by kernel_rfl)) (tg1 3) (cs_cons (cs_if (ct_not (ct_tr C.K (sc1 C (L.d 26 2 rfl) T.f26 (by kernel_rfl) (ca_cons (ce_idx C.K C.u1 (sv C (by kernel_rfl)) (sv C (by kernel_rfl))) (ca_cons (sv C (by kernel_rfl)) ca_nil)) (lenA_cons (lenA_cons lenA_nil))))) (cs_one cs_nev) cs_nil) (cs_one (cs_if (PW.pt (ct_and (ce_in C.K C.u1 (sv C (by kernel_rfl)) (ce_attr C.K T.cls (by decide) T.a10 (sv C (by kernel_rfl)))).2 (ct_and1 (ct_not (ct_tr C.K (sc1 C (L.d 108 2 rfl) T.f108 (by kernel_rfl) (ca_cons (ce_idx C.K C.u1 (sv C (by kernel_rfl)) (sv C (by kernel_rfl))) (ca_cons (sv C (by kernel_rfl)) ca_nil)) (lenA_cons (lenA_cons lenA_nil)))))))) (cs_one cs_nev) cs_nil))))))
end
end Sd
end

section
set_option Elab.async false
set_option linter.all false
set_option maxRecDepth 100000
set_option maxHeartbeats 0

/-! Dv1 (printed by gen2.py): derivations. -/
namespace Sd
open PySem PySem.Spec PyProof.Rows L2
open Ev (Hl Rs Rb Ra So Sr CallT)

section
variable {g : Gb} {A : Nat → Addr} {X : Cx} {k : Nat}
theorem d_29 (T : Fx g A) (L : Lv g A k) (L2 : ∀ j, k = j + 1 → Lv g A j) (C : Ctx g X nm_29 (defScope st_29) (fun _ => true) k) (hp : PassesOwn (model X.prog X.w) X.A X.env X.xe) : PSs X (defBody st_29) (tS g.c (Ev.run Ev.fns k) Ev.b_World___init__) :=
  (cs_cons (cs_if (ct_not (ct_tr C.K (sc1 C (L.d 1 3 rfl) T.f1 (by kernel_rfl) (ca_cons (sv C (by kernel_rfl)) (ca_cons ce_int (ca_cons (sgi C T.g_MOST_THINGS (by kernel_rfl)) ca_nil))) (lenA_cons (lenA_cons (lenA_cons lenA_nil)))))) (cs_one cs_nev) cs_nil) (cs_cons (cs_expr (sc1 C (L.d 27 3 rfl) T.f27 (by kernel_rfl) (ca_cons (sv C (by kernel_rfl)) (ca_cons (sv C (by kernel_rfl)) (ca_cons (sv C (by kernel_rfl)) ca_nil))) (lenA_cons (lenA_cons (lenA_cons lenA_nil))))) (cs_cons (cs_expr (sc1 C (L.d 28 3 rfl) T.f28 (by kernel_rfl) (ca_cons (sv C (by kernel_rfl)) (ca_cons (sv C (by kernel_rfl)) (ca_cons (sv C (by kernel_rfl)) ca_nil))) (lenA_cons (lenA_cons (lenA_cons lenA_nil))))) (cs_cons (cs_attr C.K T.cls (by decide) T.a13 (sv C (by kernel_rfl)) (sv C (by kernel_rfl))) (cs_cons (cs_attr C.K T.cls (by decide) T.a9 (sv C (by kernel_rfl)) (sv C (by kernel_rfl))) (cs_cons (cs_attr C.K T.cls (by decide) T.a12 (sv C (by kernel_rfl)) (sDcK C (own := [(("name" : Str), 5)]) (tg1 5) (ci_seq C.K (sPr_marks T C (sv C (by kernel_rfl)))) (by kernel_rfl) (fun s0 H0 A0 c0 p0 => (pgn (C.blk s0 H0 _ c0 A0 p0) (by kernel_rfl))) (fun s0 H0 A0 c0 p0 => (sv (C.blk s0 H0 _ c0 A0 p0) (by kernel_rfl))) (fun s0 H0 A0 c0 p0 => (sDcK (C.blk s0 H0 _ c0 A0 p0) (own := [(("thing" : Str), 6)]) (tg1 6) (ci_seq (C.blk s0 H0 _ c0 A0 p0).K (ce_idx (C.blk s0 H0 _ c0 A0 p0).K (C.blk s0 H0 _ c0 A0 p0).u1 (sv (C.blk s0 H0 _ c0 A0 p0) (by kernel_rfl)) (sv (C.blk s0 H0 _ c0 A0 p0) (by kernel_rfl)))) (by kernel_rfl) (fun s1 H1 A1 c1 p1 => (pgn ((C.blk s0 H0 _ c0 A0 p0).blk s1 H1 _ c1 A1 p1) (by kernel_rfl))) (fun s1 H1 A1 c1 p1 => (sv ((C.blk s0 H0 _ c0 A0 p0).blk s1 H1 _ c1 A1 p1) (by kernel_rfl))) (fun s1 H1 A1 c1 p1 => ce_bl))))) (cs_one (cs_attr C.K T.cls (by decide) T.a11 (sv C (by kernel_rfl)) (sDcK C (own := [(("name" : Str), 5)]) (tg1 5) (ci_seq C.K (sPr_ties T C (sv C (by kernel_rfl)))) (by kernel_rfl) (fun s0 H0 A0 c0 p0 => (pgn (C.blk s0 H0 _ c0 A0 p0) (by kernel_rfl))) (fun s0 H0 A0 c0 p0 => (sv (C.blk s0 H0 _ c0 A0 p0) (by kernel_rfl))) (fun s0 H0 A0 c0 p0 => (sDcT (C.blk s0 H0 _ c0 A0 p0) (own := [(("pair" : Str), 7)]) (tg1 7) (ci_seq (C.blk s0 H0 _ c0 A0 p0).K (ce_idx (C.blk s0 H0 _ c0 A0 p0).K (C.blk s0 H0 _ c0 A0 p0).u1 (sv (C.blk s0 H0 _ c0 A0 p0) (by kernel_rfl)) (sv (C.blk s0 H0 _ c0 A0 p0) (by kernel_rfl)))) (by kernel_rfl) (fun s1 H1 A1 c1 p1 => (pgn ((C.blk s0 H0 _ c0 A0 p0).blk s1 H1 _ c1 A1 p1) (by kernel_rfl))) (fun s1 H1 A1 c1 p1 => (sv ((C.blk s0 H0 _ c0 A0 p0).blk s1 H1 _ c1 A1 p1) (by kernel_rfl))) (fun s1 H1 A1 c1 p1 => ce_bl))))))))))))
theorem d_30 (T : Fx g A) (L : Lv g A k) (L2 : ∀ j, k = j + 1 → Lv g A j) (C : Ctx g X nm_30 (defScope st_30) (fun _ => true) k) (hp : PassesOwn (model X.prog X.w) X.A X.env X.xe) : PSs X (defBody st_30) (tS g.c (Ev.run Ev.fns k) Ev.b_World_has) :=
  (cs_one (cs_ret (ce_in C.K C.u1 (sv C (by kernel_rfl)) (ce_idx C.K C.u1 (ce_attr C.K T.cls (by decide) T.a12 (sv C (by kernel_rfl))) (sv C (by kernel_rfl)))).1))
theorem d_31 (T : Fx g A) (L : Lv g A k) (L2 : ∀ j, k = j + 1 → Lv g A j) (C : Ctx g X nm_31 (defScope st_31) (fun _ => true) k) (hp : PassesOwn (model X.prog X.w) X.A X.env X.xe) : PSs X (defBody st_31) (tS g.c (Ev.run Ev.fns k) Ev.b_World_leads) :=
  (cs_one (cs_ret (ce_in C.K C.u1 (ce_tup (ca_cons (sv C (by kernel_rfl)) (ca_cons (sv C (by kernel_rfl)) ca_nil))) (ce_idx C.K C.u1 (ce_attr C.K T.cls (by decide) T.a11 (sv C (by kernel_rfl))) (sv C (by kernel_rfl)))).1))
theorem d_32 (T : Fx g A) (L : Lv g A k) (L2 : ∀ j, k = j + 1 → Lv g A j) (C : Ctx g X nm_32 (defScope st_32) (fun _ => true) k) (hp : PassesOwn (model X.prog X.w) X.A X.env X.xe) : PSs X (defBody st_32) (tS g.c (Ev.run Ev.fns k) Ev.b_is_held) :=
  (cs_one (cs_ret (ce_meth C (ma_flag_3 T L) run0 T.no_flag (ce_make (fns := Ev.fns) (f := 115) (kc := 1) (init := 17) (np := 1) (pre := false) (frz := true) rfl C (fun j hj => (L2 j hj).d 17 2 rfl) T.k1.1 T.k1.2 (C.glb (by kernel_rfl)) T.c1 (ca_cons (sv C (by kernel_rfl)) ca_nil) (lenA_cons lenA_nil) (C.ndb (by kernel_rfl))) (ca_cons (sc1 C (L.d 16 2 rfl) T.f16 (by kernel_rfl) (ca_cons (sv C (by kernel_rfl)) (ca_cons (ce_lst ca_nil) ca_nil)) (lenA_cons (lenA_cons lenA_nil))) (ca_cons ce_non (ca_cons ce_non ca_nil))) (lenA_cons (lenA_cons (lenA_cons lenA_nil))))))
theorem d_33 (T : Fx g A) (L : Lv g A k) (L2 : ∀ j, k = j + 1 → Lv g A j) (C : Ctx g X nm_33 (defScope st_33) (fun _ => true) k) (hp : PassesOwn (model X.prog X.w) X.A X.env X.xe) : PSs X (defBody st_33) (tS g.c (Ev.run Ev.fns k) Ev.b_holds) :=
  (cs_cons (cs_expr (sc1 C (L.d 14 2 rfl) T.f14 (by kernel_rfl) (ca_cons (ce_attr C.K T.cls (by decide) T.a13 (sv C (by kernel_rfl))) (ca_cons (sv C (by kernel_rfl)) ca_nil)) (lenA_cons (lenA_cons lenA_nil)))) (cs_one (cs_ret (sc1 C (L.d 32 2 rfl) T.f32 (by kernel_rfl) (ca_cons (sv C (by kernel_rfl)) (ca_cons (sv C (by kernel_rfl)) ca_nil)) (lenA_cons (lenA_cons lenA_nil))))))
theorem d_34 (T : Fx g A) (L : Lv g A k) (L2 : ∀ j, k = j + 1 → Lv g A j) (C : Ctx g X nm_34 (defScope st_34) (fun _ => true) k) (hp : PassesOwn (model X.prog X.w) X.A X.env X.xe) : PSs X (defBody st_34) (tS g.c (Ev.run Ev.fns k) Ev.b_check_plain) :=
  (cs_one (cs_if (ct_tr C.K (ce_attr C.K T.cls (by decide) T.a10 (sv C (by kernel_rfl)))) (cs_one cs_nev) cs_nil))
theorem d_35 (T : Fx g A) (L : Lv g A k) (L2 : ∀ j, k = j + 1 → Lv g A j) (C : Ctx g X nm_35 (defScope st_35) (fun _ => true) k) (hp : PassesOwn (model X.prog X.w) X.A X.env X.xe) : PSs X (defBody st_35) (tS g.c (Ev.run Ev.fns k) Ev.b_cliques) :=
  (cs_cons (ssw C (by kernel_rfl) (ce_lst ca_nil)) (cs_cons (cs_expr (sc1 C (L.d 36 5 rfl) T.f36 (by kernel_rfl) (ca_cons (ce_lstF ca_nil) (ca_cons (ce_list C.K (C.glb (by kernel_rfl)) (C.free T.b_list) (ca_cons (sv C (by kernel_rfl)) ca_nil)) (ca_cons (ce_lstF ca_nil) (ca_cons (sv C (by kernel_rfl)) (ca_cons (sv C (by kernel_rfl)) ca_nil))))) (lenA_cons (lenA_cons (lenA_cons (lenA_cons (lenA_cons lenA_nil))))))) (cs_one (cs_ret (sv C (by kernel_rfl))))))
theorem d_36 (T : Fx g A) (L : Lv g A k) (L2 : ∀ j, k = j + 1 → Lv g A j) (C : Ctx g X nm_36 (defScope st_36) (fun _ => true) k) (hp : PassesOwn (model X.prog X.w) X.A X.env X.xe) : PSs X (defBody st_36) (tS g.c (Ev.run Ev.fns k) Ev.b_grow) :=
  (cs_cons (cs_if (PW.pt (ct_and (ct_not (ct_tr C.K (sv C (by kernel_rfl)))) (ct_and1 (ct_not (ct_tr C.K (sv C (by kernel_rfl))))))) (cs_cons (cs_expr (ce_append C.K (sv C (by kernel_rfl)) (ca_cons (ce_sorted C.K (C.glb (by kernel_rfl)) (C.free T.b_sorted) (ca_cons (sv C (by kernel_rfl)) ca_nil)) ca_nil))) (cs_one cs_retN)) cs_nil) (cs_cons (ssw C (by kernel_rfl) (ce_list C.K (C.glb (by kernel_rfl)) (C.free T.b_list) (ca_cons (sv C (by kernel_rfl)) ca_nil))) (cs_cons (ssw C (by kernel_rfl) (ce_list C.K (C.glb (by kernel_rfl)) (C.free T.b_list) (ca_cons (sv C (by kernel_rfl)) ca_nil))) (cs_one (cs_for hp C.calm (ci_seq C.K (sv C (by kernel_rfl))) (pgn C (by kernel_rfl)) (tg1 7) (cs_cons (sSetLc C (by kernel_rfl) (own := [(("other" : Str), 10)]) (tg1 10) (ci_seq C.K (sv C (by kernel_rfl))) (by kernel_rfl) (fun s0 H0 A0 c0 p0 => (pgn (C.blk s0 H0 _ c0 A0 p0) (by kernel_rfl))) (fun s0 H0 A0 c0 p0 => (cts_one (PW.pt (ct_and (ce_ne (sv (C.blk s0 H0 _ c0 A0 p0) (by kernel_rfl)) (sv (C.blk s0 H0 _ c0 A0 p0) (by kernel_rfl))).2 (ct_and1 (ce_gt (ce_len (C.blk s0 H0 _ c0 A0 p0).K ((C.blk s0 H0 _ c0 A0 p0).glb (by kernel_rfl)) ((C.blk s0 H0 _ c0 A0 p0).free T.b_len) (ca_cons (ce_meth (C.blk s0 H0 _ c0 A0 p0) (ma_options_2 T L) run0 T.no_options (sv (C.blk s0 H0 _ c0 A0 p0) (by kernel_rfl)) (ca_cons (sv (C.blk s0 H0 _ c0 A0 p0) (by kernel_rfl)) (ca_cons (sv (C.blk s0 H0 _ c0 A0 p0) (by kernel_rfl)) ca_nil)) (lenA_cons (lenA_cons lenA_nil))) ca_nil)) ce_int).2))))) (fun s0 H0 A0 c0 p0 => (sv (C.blk s0 H0 _ c0 A0 p0) (by kernel_rfl)))) (cs_cons (sSetLc C (by kernel_rfl) (own := [(("other" : Str), 10)]) (tg1 10) (ci_seq C.K (sv C (by kernel_rfl))) (by kernel_rfl) (fun s0 H0 A0 c0 p0 => (pgn (C.blk s0 H0 _ c0 A0 p0) (by kernel_rfl))) (fun s0 H0 A0 c0 p0 => (cts_one (ce_gt (ce_len (C.blk s0 H0 _ c0 A0 p0).K ((C.blk s0 H0 _ c0 A0 p0).glb (by kernel_rfl)) ((C.blk s0 H0 _ c0 A0 p0).free T.b_len) (ca_cons (ce_meth (C.blk s0 H0 _ c0 A0 p0) (ma_options_2 T L) run0 T.no_options (sv (C.blk s0 H0 _ c0 A0 p0) (by kernel_rfl)) (ca_cons (sv (C.blk s0 H0 _ c0 A0 p0) (by kernel_rfl)) (ca_cons (sv (C.blk s0 H0 _ c0 A0 p0) (by kernel_rfl)) ca_nil)) (lenA_cons (lenA_cons lenA_nil))) ca_nil)) ce_int).2)) (fun s0 H0 A0 c0 p0 => (sv (C.blk s0 H0 _ c0 A0 p0) (by kernel_rfl)))) (cs_cons (cs_expr (sc1 C (L.d 36 5 rfl) T.f36 (by kernel_rfl) (ca_cons (ce_catL (sv C (by kernel_rfl)) (ce_lstF (ca_cons (sv C (by kernel_rfl)) ca_nil))) (ca_cons (sv C (by kernel_rfl)) (ca_cons (sv C (by kernel_rfl)) (ca_cons (sv C (by kernel_rfl)) (ca_cons (sv C (by kernel_rfl)) ca_nil))))) (lenA_cons (lenA_cons (lenA_cons (lenA_cons (lenA_cons lenA_nil))))))) (cs_cons (cs_expr (ce_remove C.K (sv C (by kernel_rfl)) (ca_cons (sv C (by kernel_rfl)) ca_nil))) (cs_one (cs_expr (ce_append C.K (sv C (by kernel_rfl)) (ca_cons (sv C (by kernel_rfl)) ca_nil)))))))))))))
theorem d_37 (T : Fx g A) (L : Lv g A k) (L2 : ∀ j, k = j + 1 → Lv g A j) (C : Ctx g X nm_37 (defScope st_37) (fun _ => true) k) (hp : PassesOwn (model X.prog X.w) X.A X.env X.xe) : PSs X (defBody st_37) (tS g.c (Ev.run Ev.fns k) Ev.b_Case___init__) :=
  (cs_cons (cs_attr C.K T.cls (by decide) T.a16 (sv C (by kernel_rfl)) (sv C (by kernel_rfl))) (cs_cons (cs_attr C.K T.cls (by decide) T.a15 (sv C (by kernel_rfl)) (sv C (by kernel_rfl))) (cs_one (cs_attr C.K T.cls (by decide) T.a14 (sv C (by kernel_rfl)) (sv C (by kernel_rfl))))))
theorem d_38 (T : Fx g A) (L : Lv g A k) (L2 : ∀ j, k = j + 1 → Lv g A j) (C : Ctx g X nm_38 (defScope st_38) (fun _ => true) k) (hp : PassesOwn (model X.prog X.w) X.A X.env X.xe) : PSs X (defBody st_38) (tS g.c (Ev.run Ev.fns k) Ev.b_Case_more) :=
  (cs_cons (ssw C (by kernel_rfl) (ce_copy (ce_attr C.K T.cls (by decide) T.a16 (sv C (by kernel_rfl))))) (cs_cons (cs_sub C.u1 (sv C (by kernel_rfl)) (ce_attr C.K T.cls (by decide) T.a2 (sv C (by kernel_rfl))) (sv C (by kernel_rfl))) (cs_one (cs_ret (ce_make (fns := Ev.fns) (f := 117) (kc := 3) (init := 37) (np := 3) (pre := false) (frz := true) rfl C (fun j hj => (L2 j hj).d 37 4 rfl) T.k3.1 T.k3.2 (C.glb (by kernel_rfl)) T.c3 (ca_cons (sv C (by kernel_rfl)) (ca_cons (ce_if (ct_tr C.K (sv C (by kernel_rfl))) (ce_catL (ce_attr C.K T.cls (by decide) T.a15 (sv C (by kernel_rfl))) (ce_lstF (ca_cons (sv C (by kernel_rfl)) ca_nil))) (ce_attr C.K T.cls (by decide) T.a15 (sv C (by kernel_rfl)))) (ca_cons (ce_mul (ce_attr C.K T.cls (by decide) T.a14 (sv C (by kernel_rfl))) (sv C (by kernel_rfl))) ca_nil))) (lenA_cons (lenA_cons (lenA_cons lenA_nil))) (C.ndb (by kernel_rfl)))))))
theorem d_39 (T : Fx g A) (L : Lv g A k) (L2 : ∀ j, k = j + 1 → Lv g A j) (C : Ctx g X nm_39 (defScope st_39) (fun _ => true) k) (hp : PassesOwn (model X.prog X.w) X.A X.env X.xe) : PSs X (defBody st_39) (tS g.c (Ev.run Ev.fns k) Ev.b_plain_cases) :=
  (cs_cons (ssw C (by kernel_rfl) (ce_lstF (ca_cons (ce_make (fns := Ev.fns) (f := 117) (kc := 3) (init := 37) (np := 3) (pre := false) (frz := true) rfl C (fun j hj => (L2 j hj).d 37 4 rfl) T.k3.1 T.k3.2 (C.glb (by kernel_rfl)) T.c3 (ca_cons ce_dctK (ca_cons (ce_lstF ca_nil) (ca_cons ce_int ca_nil))) (lenA_cons (lenA_cons (lenA_cons lenA_nil))) (C.ndb (by kernel_rfl))) ca_nil))) (cs_cons (cs_for hp C.calm (ci_seq C.K (sv C (by kernel_rfl))) (pgn C (by kernel_rfl)) (tg1 2) (cs_one (cs_if (ct_not (ct_tr C.K (ce_attr C.K T.cls (by decide) T.a3 (sv C (by kernel_rfl))))) (cs_cons (ssw C (by kernel_rfl) (ce_eq (ce_attr C.K T.cls (by decide) T.a6 (sv C (by kernel_rfl))) (ce_str T.s9.1 T.s9.2)).1) (cs_one (sSetLc2 C (by kernel_rfl) (own := [(("case" : Str), 4), (("flag" : Str), 5)]) (tg1 4) (us := [4]) (tg1 5) rfl (ci_seq C.K (sv C (by kernel_rfl))) (by kernel_rfl) (fun s0 H0 A0 c0 p0 => (pgn (C.blk s0 H0 _ c0 A0 p0) (by kernel_rfl))) (fun s0 H0 A0 c0 p0 => (ci_seq (C.blk s0 H0 _ c0 A0 p0).K (ce_tup (ca_cons ce_bl (ca_cons ce_bl ca_nil))))) (fun s0 H0 A0 c0 p0 => (pgn (C.blk s0 H0 _ c0 A0 p0) (by kernel_rfl))) (fun s0 H0 A0 c0 p0 => (ce_meth (C.blk s0 H0 _ c0 A0 p0) (ma_more_4 T L) run0 T.no_more (sv (C.blk s0 H0 _ c0 A0 p0) (by kernel_rfl)) (ca_cons (sv (C.blk s0 H0 _ c0 A0 p0) (by kernel_rfl)) (ca_cons (sv (C.blk s0 H0 _ c0 A0 p0) (by kernel_rfl)) (ca_cons (ce_eq (sv (C.blk s0 H0 _ c0 A0 p0) (by kernel_rfl)) (sv (C.blk s0 H0 _ c0 A0 p0) (by kernel_rfl))).1 (ca_cons ce_int ca_nil)))) (lenA_cons (lenA_cons (lenA_cons (lenA_cons lenA_nil))))))))) cs_nil))) (cs_one (cs_ret (sv C (by kernel_rfl))))))
theorem d_40 (T : Fx g A) (L : Lv g A k) (L2 : ∀ j, k = j + 1 → Lv g A j) (C : Ctx g X nm_40 (defScope st_40) (fun _ => true) k) (hp : PassesOwn (model X.prog X.w) X.A X.env X.xe) : PSs X (defBody st_40) (tS g.c (Ev.run Ev.fns k) Ev.b_meets) :=
  (cs_cons (cs_for hp C.calm (ci_seq C.K (sv C (by kernel_rfl))) (pgn C (by kernel_rfl)) (tg1 3) (cs_one (cs_if (ce_ne (ce_meth C (ma_alone_2 T L) run0 T.no_alone (sv C (by kernel_rfl)) (ca_cons (ce_idx C.K C.u1 (ce_attr C.K T.cls (by decide) T.a4 (sv C (by kernel_rfl))) ce_int) (ca_cons (sv C (by kernel_rfl)) ca_nil)) (lenA_cons (lenA_cons lenA_nil))) (ce_eq (ce_attr C.K T.cls (by decide) T.a6 (sv C (by kernel_rfl))) (ce_str T.s9.1 T.s9.2)).1).2 (cs_one (cs_ret ce_bl)) cs_nil))) (cs_one (cs_ret ce_bl)))
theorem d_41 (T : Fx g A) (L : Lv g A k) (L2 : ∀ j, k = j + 1 → Lv g A j) (C : Ctx g X nm_41 (defScope st_41) (fun _ => true) k) (hp : PassesOwn (model X.prog X.w) X.A X.env X.xe) : PSs X (defBody st_41) (tS g.c (Ev.run Ev.fns k) Ev.b_Kind___init__) :=
  (cs_cons (cs_attr C.K T.cls (by decide) T.a12 (sv C (by kernel_rfl)) (sv C (by kernel_rfl))) (cs_cons (cs_attr C.K T.cls (by decide) T.a19 (sv C (by kernel_rfl)) (sv C (by kernel_rfl))) (cs_cons (cs_attr C.K T.cls (by decide) T.a16 (sv C (by kernel_rfl)) ce_dctK) (cs_cons (cs_attr C.K T.cls (by decide) T.a18 (sv C (by kernel_rfl)) ce_dctK) (cs_cons (cs_attr C.K T.cls (by decide) T.a17 (sv C (by kernel_rfl)) (ce_tup ca_nil)) (cs_cons (cs_attr C.K T.cls (by decide) T.a14 (sv C (by kernel_rfl)) ce_int) (cs_one (cs_attr C.K T.cls (by decide) T.a2 (sv C (by kernel_rfl)) ce_non))))))))
theorem d_42 (T : Fx g A) (L : Lv g A k) (L2 : ∀ j, k = j + 1 → Lv g A j) (C : Ctx g X nm_42 (defScope st_42) (fun _ => true) k) (hp : PassesOwn (model X.prog X.w) X.A X.env X.xe) : PSs X (defBody st_42) (tS g.c (Ev.run Ev.fns k) Ev.b_Kind_with_part) :=
  (cs_cons (ssw C (by kernel_rfl) (ce_make (fns := Ev.fns) (f := 118) (kc := 4) (init := 41) (np := 2) (pre := false) (frz := false) rfl C (fun j hj => (L2 j hj).d 41 3 rfl) T.k4.1 T.k4.2 (C.glb (by kernel_rfl)) T.c4 (ca_cons (ce_attr C.K T.cls (by decide) T.a12 (sv C (by kernel_rfl))) (ca_cons (ce_attr C.K T.cls (by decide) T.a19 (sv C (by kernel_rfl))) ca_nil)) (lenA_cons (lenA_cons lenA_nil)) (C.ndb (by kernel_rfl)))) (cs_cons (cs_attr C.K T.cls (by decide) T.a16 (sv C (by kernel_rfl)) (ce_copy (ce_attr C.K T.cls (by decide) T.a16 (sv C (by kernel_rfl))))) (cs_cons (cs_attr C.K T.cls (by decide) T.a18 (sv C (by kernel_rfl)) (ce_copy (ce_attr C.K T.cls (by decide) T.a18 (sv C (by kernel_rfl))))) (cs_cons (cs_sub C.u1 (ce_attr C.K T.cls (by decide) T.a16 (sv C (by kernel_rfl))) (sv C (by kernel_rfl)) (sv C (by kernel_rfl))) (cs_cons (cs_sub C.u1 (ce_attr C.K T.cls (by decide) T.a18 (sv C (by kernel_rfl))) (sv C (by kernel_rfl)) (sv C (by kernel_rfl))) (cs_cons (cs_attr C.K T.cls (by decide) T.a17 (sv C (by kernel_rfl)) (ce_attr C.K T.cls (by decide) T.a17 (sv C (by kernel_rfl)))) (cs_cons (cs_attr C.K T.cls (by decide) T.a14 (sv C (by kernel_rfl)) (ce_mul (ce_attr C.K T.cls (by decide) T.a14 (sv C (by kernel_rfl))) (sv C (by kernel_rfl)))) (cs_one (cs_ret (sv C (by kernel_rfl)))))))))))
theorem d_43 (T : Fx g A) (L : Lv g A k) (L2 : ∀ j, k = j + 1 → Lv g A j) (C : Ctx g X nm_43 (defScope st_43) (fun _ => true) k) (hp : PassesOwn (model X.prog X.w) X.A X.env X.xe) : PSs X (defBody st_43) (tS g.c (Ev.run Ev.fns k) Ev.b_rows_of_flags) :=
  (cs_cons (ssw C (by kernel_rfl) (ce_lstF (ca_cons (ce_tup ca_nil) ca_nil))) (cs_cons (cs_for hp C.calm (ci_range (C.glb (by kernel_rfl)) (C.free T.b_range) (ca_cons (sv C (by kernel_rfl)) ca_nil)) (pgn C (by kernel_rfl)) (tg1 2) (cs_one (sSetLc2 C (by kernel_rfl) (own := [(("row" : Str), 3), (("flag" : Str), 4)]) (tg1 3) (us := [3]) (tg1 4) rfl (ci_seq C.K (sv C (by kernel_rfl))) (by kernel_rfl) (fun s0 H0 A0 c0 p0 => (pgn (C.blk s0 H0 _ c0 A0 p0) (by kernel_rfl))) (fun s0 H0 A0 c0 p0 => (ci_seq (C.blk s0 H0 _ c0 A0 p0).K (ce_tup (ca_cons ce_bl (ca_cons ce_bl ca_nil))))) (fun s0 H0 A0 c0 p0 => (pgn (C.blk s0 H0 _ c0 A0 p0) (by kernel_rfl))) (fun s0 H0 A0 c0 p0 => (ce_catT (C.blk s0 H0 _ c0 A0 p0).K (sv (C.blk s0 H0 _ c0 A0 p0) (by kernel_rfl)) (ce_tup (ca_cons (sv (C.blk s0 H0 _ c0 A0 p0) (by kernel_rfl)) ca_nil))))))) (cs_one (cs_ret (sv C (by kernel_rfl))))))
theorem d_44 (T : Fx g A) (L : Lv g A k) (L2 : ∀ j, k = j + 1 → Lv g A j) (C : Ctx g X nm_44 (defScope st_44) (fun _ => true) k) (hp : PassesOwn (model X.prog X.w) X.A X.env X.xe) : PSs X (defBody st_44) (tS g.c (Ev.run Ev.fns k) Ev.b_plain_kinds) :=
  (cs_cons (ssw C (by kernel_rfl) (ce_lst ca_nil)) (cs_cons (cs_for hp C.calm (ci_seq C.K (sc1 C (L.d 43 1 rfl) T.f43 (by kernel_rfl) (ca_cons (ce_len C.K (C.glb (by kernel_rfl)) (C.free T.b_len) (ca_cons (sPr_marks T C (sv C (by kernel_rfl))) ca_nil)) ca_nil) (lenA_cons lenA_nil))) (pgn C (by kernel_rfl)) (tg1 2) (cs_one (cs_for hp C.calm (ci_seq C.K (sc1 C (L.d 43 1 rfl) T.f43 (by kernel_rfl) (ca_cons (ce_len C.K (C.glb (by kernel_rfl)) (C.free T.b_len) (ca_cons (sPr_ties T C (sv C (by kernel_rfl))) ca_nil)) ca_nil) (lenA_cons lenA_nil))) (pgn C (by kernel_rfl)) (tg1 3) (cs_one (cs_expr (ce_append C.K (sv C (by kernel_rfl)) (ca_cons (ce_make (fns := Ev.fns) (f := 118) (kc := 4) (init := 41) (np := 2) (pre := false) (frz := false) rfl C (fun j hj => (L2 j hj).d 41 3 rfl) T.k4.1 T.k4.2 (C.glb (by kernel_rfl)) T.c4 (ca_cons (sv C (by kernel_rfl)) (ca_cons (sv C (by kernel_rfl)) ca_nil)) (lenA_cons (lenA_cons lenA_nil)) (C.ndb (by kernel_rfl))) ca_nil))))))) (cs_one (cs_ret (sv C (by kernel_rfl))))))
theorem d_45 (T : Fx g A) (L : Lv g A k) (L2 : ∀ j, k = j + 1 → Lv g A j) (C : Ctx g X nm_45 (defScope st_45) (fun _ => true) k) (hp : PassesOwn (model X.prog X.w) X.A X.env X.xe) : PSs X (defBody st_45) (tS g.c (Ev.run Ev.fns k) Ev.b_is_let) :=
  (cs_cons (cs_for hp C.calm (ci_seq C.K (sv C (by kernel_rfl))) (pgn C (by kernel_rfl)) (tg1 4) (cs_one (cs_if (PW.pt (ct_and (ct_tr C.K (ce_idx C.K C.u1 (ce_attr C.K T.cls (by decide) T.a18 (sv C (by kernel_rfl))) (ce_attr C.K T.cls (by decide) T.a2 (sv C (by kernel_rfl))))) (ct_and1 (ce_ne (ce_meth C (ma_alone_2 T L) run0 T.no_alone (sv C (by kernel_rfl)) (ca_cons (ce_idx C.K C.u1 (ce_attr C.K T.cls (by decide) T.a4 (sv C (by kernel_rfl))) ce_int) (ca_cons (sv C (by kernel_rfl)) ca_nil)) (lenA_cons (lenA_cons lenA_nil))) (ce_eq (ce_attr C.K T.cls (by decide) T.a6 (sv C (by kernel_rfl))) (ce_str T.s9.1 T.s9.2)).1).2))) (cs_one (cs_ret ce_bl)) cs_nil))) (cs_cons (cs_for hp C.calm (ci_enum C.K (C.glb (by kernel_rfl)) (C.free T.b_enumerate) (ca_cons (ce_attr C.K T.cls (by decide) T.a10 (sv C (by kernel_rfl))) ca_nil)) (pg2 C (by kernel_rfl) (by kernel_rfl)) (tg2 (by decide)) (cs_one (cs_if (PW.pt (ct_and (ct_tr C.K (ce_idx C.K C.u1 (ce_attr C.K T.cls (by decide) T.a17 (sv C (by kernel_rfl))) (sv C (by kernel_rfl)))) (ct_and1 (ct_tr C.K (ce_idx C.K C.u1 (ce_attr C.K T.cls (by decide) T.a19 (sv C (by kernel_rfl))) (ce_index C.K (sPr_ties T C (sv C (by kernel_rfl))) (ca_cons (sv C (by kernel_rfl)) ca_nil))))))) (cs_one (cs_ret ce_bl)) cs_nil))) (cs_one (cs_ret ce_bl))))
theorem d_46 (T : Fx g A) (L : Lv g A k) (L2 : ∀ j, k = j + 1 → Lv g A j) (C : Ctx g X nm_46 (defScope st_46) (fun _ => true) k) (hp : PassesOwn (model X.prog X.w) X.A X.env X.xe) : PSs X (defBody st_46) (tS g.c (Ev.run Ev.fns k) Ev.b_Way___init__) :=
  (cs_cons (cs_attr C.K T.cls (by decide) T.a21 (sv C (by kernel_rfl)) (sv C (by kernel_rfl))) (cs_one (cs_attr C.K T.cls (by decide) T.a20 (sv C (by kernel_rfl)) (sc1 C (L.d 48 1 rfl) T.f48 (by kernel_rfl) (ca_cons (sv C (by kernel_rfl)) ca_nil) (lenA_cons lenA_nil)))))
theorem d_47 (T : Fx g A) (L : Lv g A k) (L2 : ∀ j, k = j + 1 → Lv g A j) (C : Ctx g X nm_47 (defScope st_47) (fun _ => true) k) (hp : PassesOwn (model X.prog X.w) X.A X.env X.xe) : PSs X (defBody st_47) (tS g.c (Ev.run Ev.fns k) Ev.b_both_ways) :=
  (cs_cons (ssw C (by kernel_rfl) (ce_lst ca_nil)) (cs_cons (cs_for hp C.calm (ci_seq C.K (sc1 C (L.d 43 1 rfl) T.f43 (by kernel_rfl) (ca_cons (ce_mul ce_int (ce_len C.K (C.glb (by kernel_rfl)) (C.free T.b_len) (ca_cons (sPr_ties T C (sv C (by kernel_rfl))) ca_nil))) ca_nil) (lenA_cons lenA_nil))) (pgn C (by kernel_rfl)) (tg1 2) (cs_cons (ssw C (by kernel_rfl) ce_dctT) (cs_cons (cs_for hp C.calm (ci_enum C.K (C.glb (by kernel_rfl)) (C.free T.b_enumerate) (ca_cons (sPr_ties T C (sv C (by kernel_rfl))) ca_nil)) (pg2 C (by kernel_rfl) (by kernel_rfl)) (tg2 (by decide)) (cs_cons (cs_sub C.u1 (sv C (by kernel_rfl)) (ce_tup (ca_cons (sv C (by kernel_rfl)) (ca_cons (ce_str T.s4.1 T.s4.2) (ca_cons (ce_str T.s5.1 T.s5.2) ca_nil)))) (ce_idx C.K C.u1 (sv C (by kernel_rfl)) (ce_mul ce_int (sv C (by kernel_rfl))))) (cs_one (cs_sub C.u1 (sv C (by kernel_rfl)) (ce_tup (ca_cons (sv C (by kernel_rfl)) (ca_cons (ce_str T.s5.1 T.s5.2) (ca_cons (ce_str T.s4.1 T.s4.2) ca_nil)))) (ce_idx C.K C.u1 (sv C (by kernel_rfl)) (ce_add (ce_mul ce_int (sv C (by kernel_rfl))) ce_int)))))) (cs_one (cs_expr (ce_append C.K (sv C (by kernel_rfl)) (ca_cons (ce_make (fns := Ev.fns) (f := 119) (kc := 5) (init := 46) (np := 1) (pre := true) (frz := true) rfl C (fun j hj => (L2 j hj).d 46 2 rfl) T.k5.1 T.k5.2 (C.glb (by kernel_rfl)) T.c5 (ca_cons (sv C (by kernel_rfl)) ca_nil) (lenA_cons lenA_nil) (C.ndb (by kernel_rfl))) ca_nil))))))) (cs_one (cs_ret (sv C (by kernel_rfl))))))
theorem d_48 (T : Fx g A) (L : Lv g A k) (L2 : ∀ j, k = j + 1 → Lv g A j) (C : Ctx g X nm_48 (defScope st_48) (fun _ => true) k) (hp : PassesOwn (model X.prog X.w) X.A X.env X.xe) : PSs X (defBody st_48) (tS g.c (Ev.run Ev.fns k) Ev.b_turned_ways) :=
  (cs_cons (ssw C (by kernel_rfl) ce_dctT) (cs_cons (cs_for hp C.calm (ci_keys (sv C (by kernel_rfl))) (pg3 C (by kernel_rfl) (by kernel_rfl) (by kernel_rfl)) (tg3 (by decide) (by decide) (by decide)) (cs_one (cs_sub C.u1 (sv C (by kernel_rfl)) (ce_tup (ca_cons (sv C (by kernel_rfl)) (ca_cons (sv C (by kernel_rfl)) (ca_cons (sv C (by kernel_rfl)) ca_nil)))) (ce_idx C.K C.u1 (sv C (by kernel_rfl)) (ce_tup (ca_cons (sv C (by kernel_rfl)) (ca_cons (sv C (by kernel_rfl)) (ca_cons (sv C (by kernel_rfl)) ca_nil)))))))) (cs_one (cs_ret (sv C (by kernel_rfl))))))
theorem d_49 (T : Fx g A) (L : Lv g A k) (L2 : ∀ j, k = j + 1 → Lv g A j) (C : Ctx g X nm_49 (defScope st_49) (fun _ => true) k) (hp : PassesOwn (model X.prog X.w) X.A X.env X.xe) : PSs X (defBody st_49) (tS g.c (Ev.run Ev.fns k) Ev.b_meets_bars) :=
  (cs_cons (cs_for hp C.calm (ci_seq C.K (sv C (by kernel_rfl))) (pgn C (by kernel_rfl)) (tg1 6) (cs_one (cs_if (ct_tr C.K (ce_idx C.K C.u1 (ce_attr C.K T.cls (by decide) T.a18 (sv C (by kernel_rfl))) (ce_attr C.K T.cls (by decide) T.a2 (sv C (by kernel_rfl))))) (cs_cons (cs_if (ce_eq (ce_idx C.K C.u1 (ce_attr C.K T.cls (by decide) T.a3 (sv C (by kernel_rfl))) ce_int) (ce_str T.s4.1 T.s4.2)).2 (cs_one (ssw C (by kernel_rfl) (ce_meth C (ma_flag_4 T L) run0 T.no_flag (sv C (by kernel_rfl)) (ca_cons (ce_idx C.K C.u1 (ce_attr C.K T.cls (by decide) T.a4 (sv C (by kernel_rfl))) ce_int) (ca_cons (sv C (by kernel_rfl)) (ca_cons (sv C (by kernel_rfl)) (ca_cons (sv C (by kernel_rfl)) ca_nil)))) (lenA_cons (lenA_cons (lenA_cons (lenA_cons lenA_nil))))))) (cs_one (ssw C (by kernel_rfl) (ce_meth C (ma_flag_4 T L) run0 T.no_flag (sv C (by kernel_rfl)) (ca_cons (ce_idx C.K C.u1 (ce_attr C.K T.cls (by decide) T.a4 (sv C (by kernel_rfl))) ce_int) (ca_cons (sv C (by kernel_rfl)) (ca_cons (sv C (by kernel_rfl)) (ca_cons (sv C (by kernel_rfl)) ca_nil)))) (lenA_cons (lenA_cons (lenA_cons (lenA_cons lenA_nil)))))))) (cs_one (cs_if (ce_ne (sv C (by kernel_rfl)) (ce_eq (ce_attr C.K T.cls (by decide) T.a6 (sv C (by kernel_rfl))) (ce_str T.s9.1 T.s9.2)).1).2 (cs_one (cs_ret ce_bl)) cs_nil))) cs_nil))) (cs_one (cs_ret ce_bl)))
theorem d_50 (T : Fx g A) (L : Lv g A k) (L2 : ∀ j, k = j + 1 → Lv g A j) (C : Ctx g X nm_50 (defScope st_50) (fun _ => true) k) (hp : PassesOwn (model X.prog X.w) X.A X.env X.xe) : PSs X (defBody st_50) (tS g.c (Ev.run Ev.fns k) Ev.b_meets_shut) :=
  (cs_cons (cs_for hp C.calm (ci_enum C.K (C.glb (by kernel_rfl)) (C.free T.b_enumerate) (ca_cons (ce_attr C.K T.cls (by decide) T.a10 (sv C (by kernel_rfl))) ca_nil)) (pg2 C (by kernel_rfl) (by kernel_rfl)) (tg2 (by decide)) (cs_one (cs_if (PW.pt (ct_and (ct_tr C.K (ce_idx C.K C.u1 (ce_attr C.K T.cls (by decide) T.a17 (sv C (by kernel_rfl))) (sv C (by kernel_rfl)))) (ct_and1 (ct_tr C.K (ce_idx C.K C.u1 (sv C (by kernel_rfl)) (ce_tup (ca_cons (sv C (by kernel_rfl)) (ca_cons (ce_str T.s4.1 T.s4.2) (ca_cons (ce_str T.s5.1 T.s5.2) ca_nil))))))))) (cs_one (cs_ret ce_bl)) cs_nil))) (cs_one (cs_ret ce_bl)))
theorem d_51 (T : Fx g A) (L : Lv g A k) (L2 : ∀ j, k = j + 1 → Lv g A j) (C : Ctx g X nm_51 (defScope st_51) (fun _ => true) k) (hp : PassesOwn (model X.prog X.w) X.A X.env X.xe) : PSs X (defBody st_51) (tS g.c (Ev.run Ev.fns k) Ev.b_are_let) :=
  (cs_cons (sPar C (by kernel_rfl) (ca_cons (ce_attr C.K T.cls (by decide) T.a21 (sv C (by kernel_rfl))) (ca_cons (ce_attr C.K T.cls (by decide) T.a20 (sv C (by kernel_rfl))) ca_nil)) (C.swS (by kernel_rfl) (by kernel_rfl) (by kernel_rfl) (by kernel_rfl) (by kernel_rfl) (by kernel_rfl) (by kernel_rfl) (by kernel_rfl) (by kernel_rfl))) (cs_cons (cs_if (PW.pt (ct_or (ct_not (ct_tr C.K (sc1 C (L.d 50 3 rfl) T.f50 (by kernel_rfl) (ca_cons (sv C (by kernel_rfl)) (ca_cons (sv C (by kernel_rfl)) (ca_cons (sv C (by kernel_rfl)) ca_nil))) (lenA_cons (lenA_cons (lenA_cons lenA_nil)))))) (ct_or1 (ct_not (ct_tr C.K (sc1 C (L.d 50 3 rfl) T.f50 (by kernel_rfl) (ca_cons (sv C (by kernel_rfl)) (ca_cons (sv C (by kernel_rfl)) (ca_cons (sv C (by kernel_rfl)) ca_nil))) (lenA_cons (lenA_cons (lenA_cons lenA_nil))))))))) (cs_one (cs_ret ce_bl)) cs_nil) (cs_one (cs_ret (ce_and (sc1 C (L.d 49 6 rfl) T.f49 (by kernel_rfl) (ca_cons (sv C (by kernel_rfl)) (ca_cons (sv C (by kernel_rfl)) (ca_cons (sv C (by kernel_rfl)) (ca_cons (sv C (by kernel_rfl)) (ca_cons (sv C (by kernel_rfl)) (ca_cons (sv C (by kernel_rfl)) ca_nil)))))) (lenA_cons (lenA_cons (lenA_cons (lenA_cons (lenA_cons (lenA_cons lenA_nil))))))) (ce_one (sc1 C (L.d 49 6 rfl) T.f49 (by kernel_rfl) (ca_cons (sv C (by kernel_rfl)) (ca_cons (sv C (by kernel_rfl)) (ca_cons (sv C (by kernel_rfl)) (ca_cons (sv C (by kernel_rfl)) (ca_cons (sv C (by kernel_rfl)) (ca_cons (sv C (by kernel_rfl)) ca_nil)))))) (lenA_cons (lenA_cons (lenA_cons (lenA_cons (lenA_cons (lenA_cons lenA_nil)))))))))))))
theorem d_52 (T : Fx g A) (L : Lv g A k) (L2 : ∀ j, k = j + 1 → Lv g A j) (C : Ctx g X nm_52 (defScope st_52) (fun _ => true) k) (hp : PassesOwn (model X.prog X.w) X.A X.env X.xe) : PSs X (defBody st_52) (tS g.c (Ev.run Ev.fns k) Ev.b_sort_list) :=
  (cs_cons (ssw C (by kernel_rfl) (sc1 C (L.d 44 1 rfl) T.f44 (by kernel_rfl) (ca_cons (sv C (by kernel_rfl)) ca_nil) (lenA_cons lenA_nil))) (cs_cons (cs_for hp C.calm (ci_seq C.K (sv C (by kernel_rfl))) (pgn C (by kernel_rfl)) (tg1 5) (cs_cons (ssw C (by kernel_rfl) (ce_eq (ce_attr C.K T.cls (by decide) T.a6 (sv C (by kernel_rfl))) (ce_str T.s9.1 T.s9.2)).1) (cs_one (sSetLc2 C (by kernel_rfl) (own := [(("kind" : Str), 7), (("flag" : Str), 8)]) (tg1 7) (us := [7]) (tg1 8) rfl (ci_seq C.K (sv C (by kernel_rfl))) (by kernel_rfl) (fun s0 H0 A0 c0 p0 => (pgn (C.blk s0 H0 _ c0 A0 p0) (by kernel_rfl))) (fun s0 H0 A0 c0 p0 => (ci_seq (C.blk s0 H0 _ c0 A0 p0).K (ce_tup (ca_cons ce_bl (ca_cons ce_bl ca_nil))))) (fun s0 H0 A0 c0 p0 => (pgn (C.blk s0 H0 _ c0 A0 p0) (by kernel_rfl))) (fun s0 H0 A0 c0 p0 => (ce_meth (C.blk s0 H0 _ c0 A0 p0) (ma_with_part_4 T L) run0 T.no_with_part (sv (C.blk s0 H0 _ c0 A0 p0) (by kernel_rfl)) (ca_cons (ce_attr (C.blk s0 H0 _ c0 A0 p0).K T.cls (by decide) T.a2 (sv (C.blk s0 H0 _ c0 A0 p0) (by kernel_rfl))) (ca_cons (sv (C.blk s0 H0 _ c0 A0 p0) (by kernel_rfl)) (ca_cons (ce_eq (sv (C.blk s0 H0 _ c0 A0 p0) (by kernel_rfl)) (sv (C.blk s0 H0 _ c0 A0 p0) (by kernel_rfl))).1 (ca_cons ce_int ca_nil)))) (lenA_cons (lenA_cons (lenA_cons (lenA_cons lenA_nil)))))))))) (cs_cons (sSetLc C (by kernel_rfl) (own := [(("kind" : Str), 7)]) (tg1 7) (ci_seq C.K (sv C (by kernel_rfl))) (by kernel_rfl) (fun s0 H0 A0 c0 p0 => (pgn (C.blk s0 H0 _ c0 A0 p0) (by kernel_rfl))) (fun s0 H0 A0 c0 p0 => (cts_one (ct_tr (C.blk s0 H0 _ c0 A0 p0).K (sc1 (C.blk s0 H0 _ c0 A0 p0) (L.d 45 4 rfl) T.f45 (by kernel_rfl) (ca_cons (sv (C.blk s0 H0 _ c0 A0 p0) (by kernel_rfl)) (ca_cons (sv (C.blk s0 H0 _ c0 A0 p0) (by kernel_rfl)) (ca_cons (sv (C.blk s0 H0 _ c0 A0 p0) (by kernel_rfl)) (ca_cons (sv (C.blk s0 H0 _ c0 A0 p0) (by kernel_rfl)) ca_nil)))) (lenA_cons (lenA_cons (lenA_cons (lenA_cons lenA_nil)))))))) (fun s0 H0 A0 c0 p0 => (sv (C.blk s0 H0 _ c0 A0 p0) (by kernel_rfl)))) (cs_one (cs_ret (sLc C (own := [(("kind" : Str), 7)]) (tg1 7) (ci_seq C.K (sv C (by kernel_rfl))) (by kernel_rfl) (fun s0 H0 A0 c0 p0 => (pgn (C.blk s0 H0 _ c0 A0 p0) (by kernel_rfl))) (fun s0 H0 A0 c0 p0 => (cts_one (ct_tr (C.blk s0 H0 _ c0 A0 p0).K (sc1 (C.blk s0 H0 _ c0 A0 p0) (L.d 40 3 rfl) T.f40 (by kernel_rfl) (ca_cons (sv (C.blk s0 H0 _ c0 A0 p0) (by kernel_rfl)) (ca_cons (sv (C.blk s0 H0 _ c0 A0 p0) (by kernel_rfl)) (ca_cons (sv (C.blk s0 H0 _ c0 A0 p0) (by kernel_rfl)) ca_nil))) (lenA_cons (lenA_cons (lenA_cons lenA_nil))))))) (fun s0 H0 A0 c0 p0 => (sv (C.blk s0 H0 _ c0 A0 p0) (by kernel_rfl)))))))))
theorem d_53 (T : Fx g A) (L : Lv g A k) (L2 : ∀ j, k = j + 1 → Lv g A j) (C : Ctx g X nm_53 (defScope st_53) (fun _ => true) k) (hp : PassesOwn (model X.prog X.w) X.A X.env X.xe) : PSs X (defBody st_53) (tS g.c (Ev.run Ev.fns k) Ev.b_bit_list) :=
  (cs_cons (ssw C (by kernel_rfl) (ce_lst ca_nil)) (cs_cons (ssw C (by kernel_rfl) ce_int) (cs_cons (cs_for hp C.calm (ci_range (C.glb (by kernel_rfl)) (C.free T.b_range) (ca_cons (sv C (by kernel_rfl)) ca_nil)) (pgn C (by kernel_rfl)) (tg1 3) (cs_cons (cs_expr (ce_append C.K (sv C (by kernel_rfl)) (ca_cons (sv C (by kernel_rfl)) ca_nil))) (cs_one (ssw C (by kernel_rfl) (ce_mul ce_int (sv C (by kernel_rfl))))))) (cs_one (cs_ret (sv C (by kernel_rfl)))))))
theorem d_54 (T : Fx g A) (L : Lv g A k) (L2 : ∀ j, k = j + 1 → Lv g A j) (C : Ctx g X nm_54 (defScope st_54) (fun _ => true) k) (hp : PassesOwn (model X.prog X.w) X.A X.env X.xe) : PSs X (defBody st_54) (tS g.c (Ev.run Ev.fns k) Ev.b_Option___init__) :=
  (cs_cons (cs_attr C.K T.cls (by decide) T.a24 (sv C (by kernel_rfl)) (sv C (by kernel_rfl))) (cs_cons (cs_attr C.K T.cls (by decide) T.a23 (sv C (by kernel_rfl)) (sv C (by kernel_rfl))) (cs_one (cs_attr C.K T.cls (by decide) T.a22 (sv C (by kernel_rfl)) (sv C (by kernel_rfl))))))
theorem d_55 (T : Fx g A) (L : Lv g A k) (L2 : ∀ j, k = j + 1 → Lv g A j) (C : Ctx g X nm_55 (defScope st_55) (fun _ => true) k) (hp : PassesOwn (model X.prog X.w) X.A X.env X.xe) : PSs X (defBody st_55) (tS g.c (Ev.run Ev.fns k) Ev.b_Option_turned) :=
  (cs_one (cs_ret (ce_make (fns := Ev.fns) (f := 120) (kc := 6) (init := 54) (np := 3) (pre := false) (frz := true) rfl C (fun j hj => (L2 j hj).d 54 4 rfl) T.k6.1 T.k6.2 (C.glb (by kernel_rfl)) T.c6 (ca_cons (sc1 C (L.d 48 1 rfl) T.f48 (by kernel_rfl) (ca_cons (ce_attr C.K T.cls (by decide) T.a24 (sv C (by kernel_rfl))) ca_nil) (lenA_cons lenA_nil)) (ca_cons (ce_attr C.K T.cls (by decide) T.a22 (sv C (by kernel_rfl))) (ca_cons (ce_attr C.K T.cls (by decide) T.a23 (sv C (by kernel_rfl))) ca_nil))) (lenA_cons (lenA_cons (lenA_cons lenA_nil))) (C.ndb (by kernel_rfl)))))
theorem d_56 (T : Fx g A) (L : Lv g A k) (L2 : ∀ j, k = j + 1 → Lv g A j) (C : Ctx g X nm_56 (defScope st_56) (fun _ => true) k) (hp : PassesOwn (model X.prog X.w) X.A X.env X.xe) : PSs X (defBody st_56) (tS g.c (Ev.run Ev.fns k) Ev.b_Sorts___init__) :=
  (cs_cons (cs_attr C.K T.cls (by decide) T.a13 (sv C (by kernel_rfl)) (sv C (by kernel_rfl))) (cs_cons (cs_attr C.K T.cls (by decide) T.a30 (sv C (by kernel_rfl)) (sv C (by kernel_rfl))) (cs_cons (cs_attr C.K T.cls (by decide) T.a29 (sv C (by kernel_rfl)) (sv C (by kernel_rfl))) (cs_cons (cs_attr C.K T.cls (by decide) T.a27 (sv C (by kernel_rfl)) (sc1 C (L.d 52 4 rfl) T.f52 (by kernel_rfl) (ca_cons (sv C (by kernel_rfl)) (ca_cons (sv C (by kernel_rfl)) (ca_cons (sv C (by kernel_rfl)) (ca_cons (sv C (by kernel_rfl)) ca_nil)))) (lenA_cons (lenA_cons (lenA_cons (lenA_cons lenA_nil)))))) (cs_cons (cs_attr C.K T.cls (by decide) T.a28 (sv C (by kernel_rfl)) (sc1 C (L.d 53 1 rfl) T.f53 (by kernel_rfl) (ca_cons (ce_len C.K (C.glb (by kernel_rfl)) (C.free T.b_len) (ca_cons (sv C (by kernel_rfl)) ca_nil)) ca_nil) (lenA_cons lenA_nil))) (cs_cons (cs_attr C.K T.cls (by decide) T.a26 (sv C (by kernel_rfl)) (sLc C (own := [(("kind" : Str), 5)]) (tg1 5) (ci_seq C.K (ce_attr C.K T.cls (by decide) T.a27 (sv C (by kernel_rfl)))) (by kernel_rfl) (fun s0 H0 A0 c0 p0 => (pgn (C.blk s0 H0 _ c0 A0 p0) (by kernel_rfl))) (fun s0 H0 A0 c0 p0 => cts_nil) (fun s0 H0 A0 c0 p0 => (ce_meth (C.blk s0 H0 _ c0 A0 p0) (ma_own_wishes_1 T L) run0 T.no_own_wishes (sv (C.blk s0 H0 _ c0 A0 p0) (by kernel_rfl)) (ca_cons (sv (C.blk s0 H0 _ c0 A0 p0) (by kernel_rfl)) ca_nil) (lenA_cons lenA_nil))))) (cs_cons (cs_attr C.K T.cls (by decide) T.a25 (sv C (by kernel_rfl)) ce_map) (cs_one (cs_attr C.K T.cls (by decide) T.a24 (sv C (by kernel_rfl)) (sc1 C (L.d 47 1 rfl) T.f47 (by kernel_rfl) (ca_cons (sv C (by kernel_rfl)) ca_nil) (lenA_cons lenA_nil)))))))))))
end
end Sd
end

section
set_option Elab.async false
set_option linter.all false
set_option maxRecDepth 100000
set_option maxHeartbeats 0

/-! Dv2 (printed by gen2.py): derivations. -/
namespace Sd
open PySem PySem.Spec PyProof.Rows L2
open Ev (Hl Rs Rb Ra So Sr CallT)

section
variable {g : Gb} {A : Nat → Addr} {X : Cx} {k : Nat}
theorem d_57 (T : Fx g A) (L : Lv g A k) (L2 : ∀ j, k = j + 1 → Lv g A j) (C : Ctx g X nm_57 (defScope st_57) (fun _ => true) k) (hp : PassesOwn (model X.prog X.w) X.A X.env X.xe) : PSs X (defBody st_57) (tS g.c (Ev.run Ev.fns k) Ev.b_Sorts_own_wishes) :=
  (cs_cons (ssw C (by kernel_rfl) ce_int) (cs_cons (cs_for hp C.calm (ci_zip C.K (C.glb (by kernel_rfl)) (C.free T.b_zip) (ca_cons (ce_attr C.K T.cls (by decide) T.a29 (sv C (by kernel_rfl))) (ca_cons (ce_attr C.K T.cls (by decide) T.a28 (sv C (by kernel_rfl))) ca_nil))) (pg2 C (by kernel_rfl) (by kernel_rfl)) (tg2 (by decide)) (cs_one (cs_if (PW.pt (ct_and (ct_not (ct_tr C.K (ce_idx C.K C.u1 (ce_attr C.K T.cls (by decide) T.a18 (sv C (by kernel_rfl))) (ce_attr C.K T.cls (by decide) T.a2 (sv C (by kernel_rfl)))))) (ct_and1 (ce_ne (ce_meth C (ma_alone_2 T L) run0 T.no_alone (ce_attr C.K T.cls (by decide) T.a30 (sv C (by kernel_rfl))) (ca_cons (ce_idx C.K C.u1 (ce_attr C.K T.cls (by decide) T.a4 (sv C (by kernel_rfl))) ce_int) (ca_cons (sv C (by kernel_rfl)) ca_nil)) (lenA_cons (lenA_cons lenA_nil))) (ce_eq (ce_attr C.K T.cls (by decide) T.a6 (sv C (by kernel_rfl))) (ce_str T.s10.1 T.s10.2)).1).2))) (cs_one (sAugA C (by kernel_rfl) (sv C (by kernel_rfl)))) cs_nil))) (cs_one (cs_ret (sv C (by kernel_rfl))))))
theorem d_58 (T : Fx g A) (L : Lv g A k) (L2 : ∀ j, k = j + 1 → Lv g A j) (C : Ctx g X nm_58 (defScope st_58) (fun _ => true) k) (hp : PassesOwn (model X.prog X.w) X.A X.env X.xe) : PSs X (defBody st_58) (tS g.c (Ev.run Ev.fns k) Ev.b_Sorts_met) :=
  (cs_cons (ssw C (by kernel_rfl) ce_int) (cs_cons (cs_for hp C.calm (ci_zip C.K (C.glb (by kernel_rfl)) (C.free T.b_zip) (ca_cons (ce_attr C.K T.cls (by decide) T.a29 (sv C (by kernel_rfl))) (ca_cons (ce_attr C.K T.cls (by decide) T.a28 (sv C (by kernel_rfl))) ca_nil))) (pg2 C (by kernel_rfl) (by kernel_rfl)) (tg2 (by decide)) (cs_one (cs_if (ct_not (ct_tr C.K (ce_idx C.K C.u1 (ce_attr C.K T.cls (by decide) T.a18 (sv C (by kernel_rfl))) (ce_attr C.K T.cls (by decide) T.a2 (sv C (by kernel_rfl)))))) (cs_cons (cs_if (ce_eq (ce_idx C.K C.u1 (ce_attr C.K T.cls (by decide) T.a3 (sv C (by kernel_rfl))) ce_int) (ce_str T.s4.1 T.s4.2)).2 (cs_one (ssw C (by kernel_rfl) (ce_meth C (ma_flag_4 T L) run0 T.no_flag (ce_attr C.K T.cls (by decide) T.a30 (sv C (by kernel_rfl))) (ca_cons (ce_idx C.K C.u1 (ce_attr C.K T.cls (by decide) T.a4 (sv C (by kernel_rfl))) ce_int) (ca_cons (sv C (by kernel_rfl)) (ca_cons (sv C (by kernel_rfl)) (ca_cons (sv C (by kernel_rfl)) ca_nil)))) (lenA_cons (lenA_cons (lenA_cons (lenA_cons lenA_nil))))))) (cs_one (ssw C (by kernel_rfl) (ce_meth C (ma_flag_4 T L) run0 T.no_flag (ce_attr C.K T.cls (by decide) T.a30 (sv C (by kernel_rfl))) (ca_cons (ce_idx C.K C.u1 (ce_attr C.K T.cls (by decide) T.a4 (sv C (by kernel_rfl))) ce_int) (ca_cons (sv C (by kernel_rfl)) (ca_cons (sv C (by kernel_rfl)) (ca_cons (sv C (by kernel_rfl)) ca_nil)))) (lenA_cons (lenA_cons (lenA_cons (lenA_cons lenA_nil)))))))) (cs_one (cs_if (ce_eq (sv C (by kernel_rfl)) (ce_eq (ce_attr C.K T.cls (by decide) T.a6 (sv C (by kernel_rfl))) (ce_str T.s10.1 T.s10.2)).1).2 (cs_one (sAugA C (by kernel_rfl) (sv C (by kernel_rfl)))) cs_nil))) cs_nil))) (cs_one (cs_ret (sv C (by kernel_rfl))))))
theorem d_59 (T : Fx g A) (L : Lv g A k) (L2 : ∀ j, k = j + 1 → Lv g A j) (C : Ctx g X nm_59 (defScope st_59) (fun _ => true) k) (hp : PassesOwn (model X.prog X.w) X.A X.env X.xe) : PSs X (defBody st_59) (tS g.c (Ev.run Ev.fns k) Ev.b_Sorts_options) :=
  (cs_cons (ssw C (by kernel_rfl) (ce_tup (ca_cons (sv C (by kernel_rfl)) (ca_cons (sv C (by kernel_rfl)) ca_nil)))) (cs_cons (cs_if (ce_notIn C.K C.u1 (sv C (by kernel_rfl)) (ce_attr C.K T.cls (by decide) T.a25 (sv C (by kernel_rfl)))).2 (cs_cons (ssw C (by kernel_rfl) (ce_idx C.K C.u1 (ce_attr C.K T.cls (by decide) T.a27 (sv C (by kernel_rfl))) (sv C (by kernel_rfl)))) (cs_cons (ssw C (by kernel_rfl) (ce_idx C.K C.u1 (ce_attr C.K T.cls (by decide) T.a27 (sv C (by kernel_rfl))) (sv C (by kernel_rfl)))) (cs_cons (ssw C (by kernel_rfl) (ce_lst ca_nil)) (cs_cons (cs_for hp C.calm (ci_seq C.K (ce_attr C.K T.cls (by decide) T.a24 (sv C (by kernel_rfl)))) (pgn C (by kernel_rfl)) (tg1 7) (cs_one (cs_if (ct_tr C.K (sc1 C (L.d 51 6 rfl) T.f51 (by kernel_rfl) (ca_cons (ce_attr C.K T.cls (by decide) T.a13 (sv C (by kernel_rfl))) (ca_cons (ce_attr C.K T.cls (by decide) T.a30 (sv C (by kernel_rfl))) (ca_cons (ce_attr C.K T.cls (by decide) T.a29 (sv C (by kernel_rfl))) (ca_cons (sv C (by kernel_rfl)) (ca_cons (sv C (by kernel_rfl)) (ca_cons (sv C (by kernel_rfl)) ca_nil)))))) (lenA_cons (lenA_cons (lenA_cons (lenA_cons (lenA_cons (lenA_cons lenA_nil)))))))) (cs_cons (ssw C (by kernel_rfl) (ce_meth C (ma_met_4 T L) run0 T.no_met (sv C (by kernel_rfl)) (ca_cons (sv C (by kernel_rfl)) (ca_cons (sv C (by kernel_rfl)) (ca_cons (ce_attr C.K T.cls (by decide) T.a21 (sv C (by kernel_rfl))) (ca_cons (ce_attr C.K T.cls (by decide) T.a20 (sv C (by kernel_rfl))) ca_nil)))) (lenA_cons (lenA_cons (lenA_cons (lenA_cons lenA_nil)))))) (cs_one (cs_expr (ce_append C.K (sv C (by kernel_rfl)) (ca_cons (ce_make (fns := Ev.fns) (f := 120) (kc := 6) (init := 54) (np := 3) (pre := false) (frz := true) rfl C (fun j hj => (L2 j hj).d 54 4 rfl) T.k6.1 T.k6.2 (C.glb (by kernel_rfl)) T.c6 (ca_cons (ce_attr C.K T.cls (by decide) T.a21 (sv C (by kernel_rfl))) (ca_cons (sv C (by kernel_rfl)) (ca_cons (ce_meth C (ma_met_4 T L) run0 T.no_met (sv C (by kernel_rfl)) (ca_cons (sv C (by kernel_rfl)) (ca_cons (sv C (by kernel_rfl)) (ca_cons (ce_attr C.K T.cls (by decide) T.a20 (sv C (by kernel_rfl))) (ca_cons (ce_attr C.K T.cls (by decide) T.a21 (sv C (by kernel_rfl))) ca_nil)))) (lenA_cons (lenA_cons (lenA_cons (lenA_cons lenA_nil))))) ca_nil))) (lenA_cons (lenA_cons (lenA_cons lenA_nil))) (C.ndb (by kernel_rfl))) ca_nil))))) cs_nil))) (cs_one (cs_sub C.u1 (ce_attr C.K T.cls (by decide) T.a25 (sv C (by kernel_rfl))) (sv C (by kernel_rfl)) (sc1 C (L.d 61 1 rfl) T.f61 (by kernel_rfl) (ca_cons (sv C (by kernel_rfl)) ca_nil) (lenA_cons lenA_nil)))))))) cs_nil) (cs_one (cs_ret (ce_idx C.K C.u1 (ce_attr C.K T.cls (by decide) T.a25 (sv C (by kernel_rfl))) (sv C (by kernel_rfl)))))))
theorem d_60 (T : Fx g A) (L : Lv g A k) (L2 : ∀ j, k = j + 1 → Lv g A j) (C : Ctx g X nm_60 (defScope st_60) (fun _ => true) k) (hp : PassesOwn (model X.prog X.w) X.A X.env X.xe) : PSs X (defBody st_60) (tS g.c (Ev.run Ev.fns k) Ev.b_is_less) :=
  (cs_cons (cs_if (ce_eqT C.K C.u64 (ce_tup (ca_cons (ce_attr C.K T.cls (by decide) T.a23 (sv C (by kernel_rfl))) (ca_cons (ce_attr C.K T.cls (by decide) T.a22 (sv C (by kernel_rfl))) ca_nil))) (ce_tup (ca_cons (ce_attr C.K T.cls (by decide) T.a23 (sv C (by kernel_rfl))) (ca_cons (ce_attr C.K T.cls (by decide) T.a22 (sv C (by kernel_rfl))) ca_nil)))).2 (cs_one (cs_ret ce_bl)) cs_nil) (cs_one (cs_ret (ce_and (ce_eq (ce_band (ce_attr C.K T.cls (by decide) T.a23 (sv C (by kernel_rfl))) (ce_attr C.K T.cls (by decide) T.a23 (sv C (by kernel_rfl)))) (ce_attr C.K T.cls (by decide) T.a23 (sv C (by kernel_rfl)))).1 (ce_one (ce_eq (ce_band (ce_attr C.K T.cls (by decide) T.a22 (sv C (by kernel_rfl))) (ce_attr C.K T.cls (by decide) T.a22 (sv C (by kernel_rfl)))) (ce_attr C.K T.cls (by decide) T.a22 (sv C (by kernel_rfl)))).1)))))
theorem d_61 (T : Fx g A) (L : Lv g A k) (L2 : ∀ j, k = j + 1 → Lv g A j) (C : Ctx g X nm_61 (defScope st_61) (fun _ => true) k) (hp : PassesOwn (model X.prog X.w) X.A X.env X.xe) : PSs X (defBody st_61) (tS g.c (Ev.run Ev.fns k) Ev.b_best_options) :=
  (cs_cons (ssw C (by kernel_rfl) ce_dctT) (cs_cons (cs_for hp C.calm (ci_seq C.K (sv C (by kernel_rfl))) (pgn C (by kernel_rfl)) (tg1 2) (cs_one (cs_sub C.u1 (sv C (by kernel_rfl)) (ce_tup (ca_cons (ce_attr C.K T.cls (by decide) T.a23 (sv C (by kernel_rfl))) (ca_cons (ce_attr C.K T.cls (by decide) T.a22 (sv C (by kernel_rfl))) ca_nil))) (sv C (by kernel_rfl))))) (cs_cons (ssw C (by kernel_rfl) (ce_values C.calm (C.glb (by kernel_rfl)) (C.free T.b_list) (sv C (by kernel_rfl)))) (cs_one (cs_ret (sLc C (own := [(("option" : Str), 2)]) (tg1 2) (ci_seq C.K (sv C (by kernel_rfl))) (by kernel_rfl) (fun s0 H0 A0 c0 p0 => (pgn (C.blk s0 H0 _ c0 A0 p0) (by kernel_rfl))) (fun s0 H0 A0 c0 p0 => (cts_one (ct_not (ct_tr (C.blk s0 H0 _ c0 A0 p0).K (ce_any (C.blk s0 H0 _ c0 A0 p0).K (C.blk s0 H0 _ c0 A0 p0).calm ((C.blk s0 H0 _ c0 A0 p0).glb (by kernel_rfl)) ((C.blk s0 H0 _ c0 A0 p0).free T.b_any) (ca_cons (sLc (C.blk s0 H0 _ c0 A0 p0) (own := [(("other" : Str), 4)]) (tg1 4) (ci_seq (C.blk s0 H0 _ c0 A0 p0).K (sv (C.blk s0 H0 _ c0 A0 p0) (by kernel_rfl))) (by kernel_rfl) (fun s1 H1 A1 c1 p1 => (pgn ((C.blk s0 H0 _ c0 A0 p0).blk s1 H1 _ c1 A1 p1) (by kernel_rfl))) (fun s1 H1 A1 c1 p1 => cts_nil) (fun s1 H1 A1 c1 p1 => (sc1 ((C.blk s0 H0 _ c0 A0 p0).blk s1 H1 _ c1 A1 p1) (L.d 60 2 rfl) T.f60 (by kernel_rfl) (ca_cons (sv ((C.blk s0 H0 _ c0 A0 p0).blk s1 H1 _ c1 A1 p1) (by kernel_rfl)) (ca_cons (sv ((C.blk s0 H0 _ c0 A0 p0).blk s1 H1 _ c1 A1 p1) (by kernel_rfl)) ca_nil)) (lenA_cons (lenA_cons lenA_nil))))) ca_nil)))))) (fun s0 H0 A0 c0 p0 => (sv (C.blk s0 H0 _ c0 A0 p0) (by kernel_rfl)))))))))
theorem d_62 (T : Fx g A) (L : Lv g A k) (L2 : ∀ j, k = j + 1 → Lv g A j) (C : Ctx g X nm_62 (defScope st_62) (fun _ => true) k) (hp : PassesOwn (model X.prog X.w) X.A X.env X.xe) : PSs X (defBody st_62) (tS g.c (Ev.run Ev.fns k) Ev.b_Plan___init__) :=
  (cs_cons (cs_attr C.K T.cls (by decide) T.a34 (sv C (by kernel_rfl)) (sv C (by kernel_rfl))) (cs_cons (cs_attr C.K T.cls (by decide) T.a33 (sv C (by kernel_rfl)) (sv C (by kernel_rfl))) (cs_cons (cs_attr C.K T.cls (by decide) T.a32 (sv C (by kernel_rfl)) (sv C (by kernel_rfl))) (cs_one (cs_attr C.K T.cls (by decide) T.a31 (sv C (by kernel_rfl)) (sv C (by kernel_rfl)))))))
theorem d_63 (T : Fx g A) (L : Lv g A k) (L2 : ∀ j, k = j + 1 → Lv g A j) (C : Ctx g X nm_63 (defScope st_63) (fun _ => true) k) (hp : PassesOwn (model X.prog X.w) X.A X.env X.xe) : PSs X (defBody st_63) (tS g.c (Ev.run Ev.fns k) Ev.b_common_wishes) :=
  (cs_cons (ssw C (by kernel_rfl) ce_int) (cs_cons (cs_for hp C.calm (ci_seq C.K (sv C (by kernel_rfl))) (pgn C (by kernel_rfl)) (tg1 4) (cs_one (cs_for hp C.calm (ci_seq C.K (ce_meth C (ma_options_2 T L) run0 T.no_options (sv C (by kernel_rfl)) (ca_cons (sv C (by kernel_rfl)) (ca_cons (sv C (by kernel_rfl)) ca_nil)) (lenA_cons (lenA_cons lenA_nil)))) (pgn C (by kernel_rfl)) (tg1 5) (cs_one (ssw C (by kernel_rfl) (ce_bor (sv C (by kernel_rfl)) (ce_attr C.K T.cls (by decide) T.a23 (sv C (by kernel_rfl))))))))) (cs_one (cs_ret (sv C (by kernel_rfl))))))
theorem d_64 (T : Fx g A) (L : Lv g A k) (L2 : ∀ j, k = j + 1 → Lv g A j) (C : Ctx g X nm_64 (defScope st_64) (fun _ => true) k) (hp : PassesOwn (model X.prog X.w) X.A X.env X.xe) : PSs X (defBody st_64) (tS g.c (Ev.run Ev.fns k) Ev.b_covers) :=
  (cs_cons (ssw C (by kernel_rfl) (ce_lstF (ca_cons (ce_tup (ca_cons ce_int (ca_cons (ce_lstF ca_nil) ca_nil))) ca_nil))) (cs_cons (cs_for hp C.calm (ci_enum C.K (C.glb (by kernel_rfl)) (C.free T.b_enumerate) (ca_cons (sv C (by kernel_rfl)) ca_nil)) (pg2 C (by kernel_rfl) (by kernel_rfl)) (tg2 (by decide)) (cs_cons (ssw C (by kernel_rfl) (ce_if (ce_in C.K C.u1 (sv C (by kernel_rfl)) (sv C (by kernel_rfl))).2 (ce_lstF (ca_cons (ce_idx C.K C.u1 (sv C (by kernel_rfl)) (sv C (by kernel_rfl))) ca_nil)) (ce_meth C (ma_options_2 T L) run0 T.no_options (sv C (by kernel_rfl)) (ca_cons (sv C (by kernel_rfl)) (ca_cons (sv C (by kernel_rfl)) ca_nil)) (lenA_cons (lenA_cons lenA_nil))))) (cs_cons (ssw C (by kernel_rfl) ce_dctK) (cs_cons (cs_for hp C.calm (ci_seq C.K (sv C (by kernel_rfl))) (pg2 C (by kernel_rfl) (by kernel_rfl)) (tg2 (by decide)) (cs_one (cs_for hp C.calm (ci_seq C.K (sv C (by kernel_rfl))) (pgn C (by kernel_rfl)) (tg1 12) (cs_one (cs_expr (ce_setdef (sv C (by kernel_rfl)) (ce_bor (sv C (by kernel_rfl)) (ce_attr C.K T.cls (by decide) T.a23 (sv C (by kernel_rfl)))) (ce_catL (sv C (by kernel_rfl)) (ce_lstF (ca_cons (sv C (by kernel_rfl)) ca_nil))) ⟨rfl, rfl, rfl, rfl⟩)))))) (cs_one (ssw C (by kernel_rfl) (ce_items C.calm (C.glb (by kernel_rfl)) (C.free T.b_list) (sv C (by kernel_rfl))))))))) (cs_cons (cs_for hp C.calm (ci_seq C.K (sv C (by kernel_rfl))) (pg2 C (by kernel_rfl) (by kernel_rfl)) (tg2 (by decide)) (cs_one (cs_if (ce_eq (ce_band (sv C (by kernel_rfl)) (sv C (by kernel_rfl))) (sv C (by kernel_rfl))).2 (cs_one (cs_ret (sv C (by kernel_rfl)))) cs_nil))) (cs_one (cs_ret ce_non)))))
theorem d_65 (T : Fx g A) (L : Lv g A k) (L2 : ∀ j, k = j + 1 → Lv g A j) (C : Ctx g X nm_65 (defScope st_65) (fun _ => true) k) (hp : PassesOwn (model X.prog X.w) X.A X.env X.xe) : PSs X (defBody st_65) (tS g.c (Ev.run Ev.fns k) Ev.b_left_wishes) :=
  (cs_cons (ssw C (by kernel_rfl) (ce_idx C.K C.u1 (ce_attr C.K T.cls (by decide) T.a26 (sv C (by kernel_rfl))) (sv C (by kernel_rfl)))) (cs_one (cs_ret (ce_sub (sv C (by kernel_rfl)) (ce_band (sv C (by kernel_rfl)) (sc1 C (L.d 63 3 rfl) T.f63 (by kernel_rfl) (ca_cons (sv C (by kernel_rfl)) (ca_cons (sv C (by kernel_rfl)) (ca_cons (sv C (by kernel_rfl)) ca_nil))) (lenA_cons (lenA_cons (lenA_cons lenA_nil)))))))))
theorem d_66 (T : Fx g A) (L : Lv g A k) (L2 : ∀ j, k = j + 1 → Lv g A j) (C : Ctx g X nm_66 (defScope st_66) (fun _ => true) k) (hp : PassesOwn (model X.prog X.w) X.A X.env X.xe) : PSs X (defBody st_66) (tS g.c (Ev.run Ev.fns k) Ev.b_lasting) :=
  (cs_cons (ssw C (by kernel_rfl) (sv C (by kernel_rfl))) (cs_one (cs_while hp (ct_tr C.K ce_bl) (cs_cons (sSetLc C (by kernel_rfl) (own := [(("sort" : Str), 5)]) (tg1 5) (ci_seq C.K (sv C (by kernel_rfl))) (by kernel_rfl) (fun s0 H0 A0 c0 p0 => (pgn (C.blk s0 H0 _ c0 A0 p0) (by kernel_rfl))) (fun s0 H0 A0 c0 p0 => (cts_one (ce_notN (sc1 (C.blk s0 H0 _ c0 A0 p0) (L.d 64 5 rfl) T.f64 (by kernel_rfl) (ca_cons (sv (C.blk s0 H0 _ c0 A0 p0) (by kernel_rfl)) (ca_cons (sv (C.blk s0 H0 _ c0 A0 p0) (by kernel_rfl)) (ca_cons (sv (C.blk s0 H0 _ c0 A0 p0) (by kernel_rfl)) (ca_cons (sc1 (C.blk s0 H0 _ c0 A0 p0) (L.d 65 3 rfl) T.f65 (by kernel_rfl) (ca_cons (sv (C.blk s0 H0 _ c0 A0 p0) (by kernel_rfl)) (ca_cons (sv (C.blk s0 H0 _ c0 A0 p0) (by kernel_rfl)) (ca_cons (sv (C.blk s0 H0 _ c0 A0 p0) (by kernel_rfl)) ca_nil))) (lenA_cons (lenA_cons (lenA_cons lenA_nil)))) (ca_cons ce_dctK ca_nil))))) (lenA_cons (lenA_cons (lenA_cons (lenA_cons (lenA_cons lenA_nil))))))).2)) (fun s0 H0 A0 c0 p0 => (sv (C.blk s0 H0 _ c0 A0 p0) (by kernel_rfl)))) (cs_cons (cs_if (ce_eq (ce_len C.K (C.glb (by kernel_rfl)) (C.free T.b_len) (ca_cons (sv C (by kernel_rfl)) ca_nil)) (ce_len C.K (C.glb (by kernel_rfl)) (C.free T.b_len) (ca_cons (sv C (by kernel_rfl)) ca_nil))).2 (cs_one (cs_ret (sv C (by kernel_rfl)))) cs_nil) (cs_one (ssw C (by kernel_rfl) (sv C (by kernel_rfl)))))))))
theorem d_67 (T : Fx g A) (L : Lv g A k) (L2 : ∀ j, k = j + 1 → Lv g A j) (C : Ctx g X nm_67 (defScope st_67) (fun _ => true) k) (hp : PassesOwn (model X.prog X.w) X.A X.env X.xe) : PSs X (defBody st_67) (tS g.c (Ev.run Ev.fns k) Ev.b_court_option) :=
  (cs_cons (cs_for hp C.calm (ci_seq C.K (sv C (by kernel_rfl))) (pgn C (by kernel_rfl)) (tg1 5) (cs_one (cs_for hp C.calm (ci_seq C.K (ce_meth C (ma_options_2 T L) run0 T.no_options (sv C (by kernel_rfl)) (ca_cons (sv C (by kernel_rfl)) (ca_cons (ce_idx C.K C.u1 (sv C (by kernel_rfl)) (sv C (by kernel_rfl))) ca_nil)) (lenA_cons (lenA_cons lenA_nil)))) (pgn C (by kernel_rfl)) (tg1 6) (cs_one (cs_if (ce_eq (ce_band (ce_attr C.K T.cls (by decide) T.a22 (sv C (by kernel_rfl))) (sv C (by kernel_rfl))) (sv C (by kernel_rfl))).2 (cs_cons (ssw C (by kernel_rfl) (sc1 C (L.d 64 5 rfl) T.f64 (by kernel_rfl) (ca_cons (sv C (by kernel_rfl)) (ca_cons (sv C (by kernel_rfl)) (ca_cons (sv C (by kernel_rfl)) (ca_cons (sc1 C (L.d 65 3 rfl) T.f65 (by kernel_rfl) (ca_cons (sv C (by kernel_rfl)) (ca_cons (sv C (by kernel_rfl)) (ca_cons (sv C (by kernel_rfl)) ca_nil))) (lenA_cons (lenA_cons (lenA_cons lenA_nil)))) (ca_cons (ce_dct1 (C.at_ rfl) (C.vis (visB_ok (by kernel_rfl))) (C.at_ rfl) (C.vis (visB_ok (by kernel_rfl)))) ca_nil))))) (lenA_cons (lenA_cons (lenA_cons (lenA_cons (lenA_cons lenA_nil))))))) (cs_one (cs_if (ce_notN (sv C (by kernel_rfl))).2 (cs_one (cs_ret (ce_tup (ca_cons (sv C (by kernel_rfl)) (ca_cons (sv C (by kernel_rfl)) ca_nil))))) cs_nil))) cs_nil))))) (cs_one (cs_ret ce_non)))
theorem d_68 (T : Fx g A) (L : Lv g A k) (L2 : ∀ j, k = j + 1 → Lv g A j) (C : Ctx g X nm_68 (defScope st_68) (fun _ => true) k) (hp : PassesOwn (model X.prog X.w) X.A X.env X.xe) : PSs X (defBody st_68) (tS g.c (Ev.run Ev.fns k) Ev.b_court_wishes) :=
  (cs_cons (ssw C (by kernel_rfl) ce_int) (cs_cons (cs_for hp C.calm (ci_seq C.K (ce_attr C.K T.cls (by decide) T.a28 (sv C (by kernel_rfl)))) (pgn C (by kernel_rfl)) (tg1 5) (cs_one (cs_if (PW.pt (ct_and (ce_eq (ce_band (ce_idx C.K C.u1 (ce_attr C.K T.cls (by decide) T.a26 (sv C (by kernel_rfl))) (ce_idx C.K C.u1 (sv C (by kernel_rfl)) (sv C (by kernel_rfl)))) (sv C (by kernel_rfl))) (sv C (by kernel_rfl))).2 (ct_and1 (ce_notN (sc1 C (L.d 67 5 rfl) T.f67 (by kernel_rfl) (ca_cons (sv C (by kernel_rfl)) (ca_cons (sv C (by kernel_rfl)) (ca_cons (sv C (by kernel_rfl)) (ca_cons (sv C (by kernel_rfl)) (ca_cons (sv C (by kernel_rfl)) ca_nil))))) (lenA_cons (lenA_cons (lenA_cons (lenA_cons (lenA_cons lenA_nil))))))).2))) (cs_one (sAugA C (by kernel_rfl) (sv C (by kernel_rfl)))) cs_nil))) (cs_one (cs_ret (sv C (by kernel_rfl))))))
theorem d_69 (T : Fx g A) (L : Lv g A k) (L2 : ∀ j, k = j + 1 → Lv g A j) (C : Ctx g X nm_69 (defScope st_69) (fun _ => true) k) (hp : PassesOwn (model X.prog X.w) X.A X.env X.xe) : PSs X (defBody st_69) (tS g.c (Ev.run Ev.fns k) Ev.b_chosen_ways) :=
  (cs_cons (sSetLc2 C (by kernel_rfl) (own := [(("second" : Str), 4), (("first" : Str), 5)]) (tg1 4) (us := [4]) (tg1 5) rfl (ci_range (C.glb (by kernel_rfl)) (C.free T.b_range) (ca_cons (ce_len C.K (C.glb (by kernel_rfl)) (C.free T.b_len) (ca_cons (sv C (by kernel_rfl)) ca_nil)) ca_nil)) (by kernel_rfl) (fun s0 H0 A0 c0 p0 => (pgn (C.blk s0 H0 _ c0 A0 p0) (by kernel_rfl))) (fun s0 H0 A0 c0 p0 => (ci_range ((C.blk s0 H0 _ c0 A0 p0).glb (by kernel_rfl)) ((C.blk s0 H0 _ c0 A0 p0).free T.b_range) (ca_cons (sv (C.blk s0 H0 _ c0 A0 p0) (by kernel_rfl)) ca_nil))) (fun s0 H0 A0 c0 p0 => (pgn (C.blk s0 H0 _ c0 A0 p0) (by kernel_rfl))) (fun s0 H0 A0 c0 p0 => (ce_tup (ca_cons (sv (C.blk s0 H0 _ c0 A0 p0) (by kernel_rfl)) (ca_cons (sv (C.blk s0 H0 _ c0 A0 p0) (by kernel_rfl)) ca_nil))))) (cs_one (cs_ret (sc1 C (L.d 70 6 rfl) T.f70 (by kernel_rfl) (ca_cons (sv C (by kernel_rfl)) (ca_cons (sv C (by kernel_rfl)) (ca_cons (sv C (by kernel_rfl)) (ca_cons ce_int (ca_cons (ce_tuple C.K (C.glb (by kernel_rfl)) (C.free T.b_tuple) (sv C (by kernel_rfl))) (ca_cons ce_dctT ca_nil)))))) (lenA_cons (lenA_cons (lenA_cons (lenA_cons (lenA_cons (lenA_cons lenA_nil))))))))))
theorem d_70 (T : Fx g A) (L : Lv g A k) (L2 : ∀ j, k = j + 1 → Lv g A j) (C : Ctx g X nm_70 (defScope st_70) (fun _ => true) k) (hp : PassesOwn (model X.prog X.w) X.A X.env X.xe) : PSs X (defBody st_70) (tS g.c (Ev.run Ev.fns k) Ev.b_chosen_from) :=
  (cs_cons (cs_if (ce_eq (sv C (by kernel_rfl)) (ce_len C.K (C.glb (by kernel_rfl)) (C.free T.b_len) (ca_cons (sv C (by kernel_rfl)) ca_nil))).2 (cs_one (cs_ret (ce_if (ct_not (ct_tr C.K (ce_any C.K C.calm (C.glb (by kernel_rfl)) (C.free T.b_any) (ca_cons (sLc C (own := [(("wish" : Str), 11)]) (tg1 11) (ci_seq C.K (sv C (by kernel_rfl))) (by kernel_rfl) (fun s0 H0 A0 c0 p0 => (pgn (C.blk s0 H0 _ c0 A0 p0) (by kernel_rfl))) (fun s0 H0 A0 c0 p0 => cts_nil) (fun s0 H0 A0 c0 p0 => (ce_gt (sv (C.blk s0 H0 _ c0 A0 p0) (by kernel_rfl)) ce_int).1)) ca_nil)))) (ce_copy (sv C (by kernel_rfl))) ce_non))) cs_nil) (cs_cons (cs_asg (tg2 (by decide)) (ce_idx C.K C.u1 (sv C (by kernel_rfl)) (sv C (by kernel_rfl))) (pg2 C (by kernel_rfl) (by kernel_rfl))) (cs_cons (cs_for hp C.calm (ci_seq C.K (ce_meth C (ma_options_2 T L) run0 T.no_options (sv C (by kernel_rfl)) (ca_cons (ce_idx C.K C.u1 (sv C (by kernel_rfl)) (sv C (by kernel_rfl))) (ca_cons (ce_idx C.K C.u1 (sv C (by kernel_rfl)) (sv C (by kernel_rfl))) ca_nil)) (lenA_cons (lenA_cons lenA_nil)))) (pgn C (by kernel_rfl)) (tg1 8) (cs_cons (ssw C (by kernel_rfl) (ce_list C.K (C.glb (by kernel_rfl)) (C.free T.b_list) (ca_cons (sv C (by kernel_rfl)) ca_nil))) (cs_cons (cs_augL (sv C (by kernel_rfl)) (sv C (by kernel_rfl)) (ce_band (ce_idx C.K C.u1 (sv C (by kernel_rfl)) (sv C (by kernel_rfl))) (ce_attr C.K T.cls (by decide) T.a23 (sv C (by kernel_rfl))))) (cs_cons (cs_augL (sv C (by kernel_rfl)) (sv C (by kernel_rfl)) (ce_band (ce_idx C.K C.u1 (sv C (by kernel_rfl)) (sv C (by kernel_rfl))) (ce_attr C.K T.cls (by decide) T.a22 (sv C (by kernel_rfl))))) (cs_cons (cs_sub C.u1 (sv C (by kernel_rfl)) (ce_tup (ca_cons (sv C (by kernel_rfl)) (ca_cons (sv C (by kernel_rfl)) ca_nil))) (sv C (by kernel_rfl))) (cs_cons (ssw C (by kernel_rfl) (sc1 C (L.d 70 6 rfl) T.f70 (by kernel_rfl) (ca_cons (sv C (by kernel_rfl)) (ca_cons (sv C (by kernel_rfl)) (ca_cons (sv C (by kernel_rfl)) (ca_cons (ce_add (sv C (by kernel_rfl)) ce_int) (ca_cons (ce_tuple C.K (C.glb (by kernel_rfl)) (C.free T.b_tuple) (sv C (by kernel_rfl))) (ca_cons (sv C (by kernel_rfl)) ca_nil)))))) (lenA_cons (lenA_cons (lenA_cons (lenA_cons (lenA_cons (lenA_cons lenA_nil)))))))) (cs_one (cs_if (ce_notN (sv C (by kernel_rfl))).2 (cs_one (cs_ret (sv C (by kernel_rfl)))) cs_nil)))))))) (cs_one (cs_ret ce_non)))))
theorem d_71 (T : Fx g A) (L : Lv g A k) (L2 : ∀ j, k = j + 1 → Lv g A j) (C : Ctx g X nm_71 (defScope st_71) (fun _ => true) k) (hp : PassesOwn (model X.prog X.w) X.A X.env X.xe) : PSs X (defBody st_71) (tS g.c (Ev.run Ev.fns k) Ev.b_has_all) :=
  (cs_cons (cs_for hp C.calm (ci_seq C.K (sv C (by kernel_rfl))) (pgn C (by kernel_rfl)) (tg1 4) (cs_one (cs_if (ct_not (ct_tr C.K (ce_any C.K C.calm (C.glb (by kernel_rfl)) (C.free T.b_any) (ca_cons (sLc C (own := [(("sort" : Str), 5)]) (tg1 5) (ci_seq C.K (sv C (by kernel_rfl))) (by kernel_rfl) (fun s0 H0 A0 c0 p0 => (pgn (C.blk s0 H0 _ c0 A0 p0) (by kernel_rfl))) (fun s0 H0 A0 c0 p0 => cts_nil) (fun s0 H0 A0 c0 p0 => (ce_or (ce_in (C.blk s0 H0 _ c0 A0 p0).K (C.blk s0 H0 _ c0 A0 p0).u1 (sv (C.blk s0 H0 _ c0 A0 p0) (by kernel_rfl)) (sv (C.blk s0 H0 _ c0 A0 p0) (by kernel_rfl))).1 (ce_one (ce_in (C.blk s0 H0 _ c0 A0 p0).K (C.blk s0 H0 _ c0 A0 p0).u1 (sv (C.blk s0 H0 _ c0 A0 p0) (by kernel_rfl)) (sv (C.blk s0 H0 _ c0 A0 p0) (by kernel_rfl))).1)))) ca_nil)))) (cs_one (cs_ret ce_bl)) cs_nil))) (cs_one (cs_ret ce_bl)))
theorem d_72 (T : Fx g A) (L : Lv g A k) (L2 : ∀ j, k = j + 1 → Lv g A j) (C : Ctx g X nm_72 (defScope st_72) (fun _ => true) k) (hp : PassesOwn (model X.prog X.w) X.A X.env X.xe) : PSs X (defBody st_72) (tS g.c (Ev.run Ev.fns k) Ev.b_plan_with) :=
  (cs_cons (cs_if (ct_not (ct_tr C.K (sc1 C (L.d 71 4 rfl) T.f71 (by kernel_rfl) (ca_cons (sv C (by kernel_rfl)) (ca_cons (sv C (by kernel_rfl)) (ca_cons (sv C (by kernel_rfl)) (ca_cons (sv C (by kernel_rfl)) ca_nil)))) (lenA_cons (lenA_cons (lenA_cons (lenA_cons lenA_nil))))))) (cs_one (cs_ret ce_non)) cs_nil) (cs_cons (ssw C (by kernel_rfl) (ce_lst ca_nil)) (cs_cons (cs_for hp C.calm (ci_enum C.K (C.glb (by kernel_rfl)) (C.free T.b_enumerate) (ca_cons (sv C (by kernel_rfl)) ca_nil)) (pg2 C (by kernel_rfl) (by kernel_rfl)) (tg2 (by decide)) (cs_cons (ssw C (by kernel_rfl) (ce_idx C.K C.u1 (ce_attr C.K T.cls (by decide) T.a26 (sv C (by kernel_rfl))) (sv C (by kernel_rfl)))) (cs_one (cs_expr (ce_append C.K (sv C (by kernel_rfl)) (ca_cons (ce_sub (sv C (by kernel_rfl)) (ce_band (sv C (by kernel_rfl)) (sc1 C (L.d 68 4 rfl) T.f68 (by kernel_rfl) (ca_cons (sv C (by kernel_rfl)) (ca_cons (sv C (by kernel_rfl)) (ca_cons (sv C (by kernel_rfl)) (ca_cons (sv C (by kernel_rfl)) ca_nil)))) (lenA_cons (lenA_cons (lenA_cons (lenA_cons lenA_nil))))))) ca_nil)))))) (cs_cons (ssw C (by kernel_rfl) (sc1 C (L.d 69 3 rfl) T.f69 (by kernel_rfl) (ca_cons (sv C (by kernel_rfl)) (ca_cons (sv C (by kernel_rfl)) (ca_cons (sv C (by kernel_rfl)) ca_nil))) (lenA_cons (lenA_cons (lenA_cons lenA_nil))))) (cs_cons (cs_if (ce_isN (sv C (by kernel_rfl))).2 (cs_one (cs_ret ce_non)) cs_nil) (cs_one (cs_ret (ce_make (fns := Ev.fns) (f := 122) (kc := 8) (init := 62) (np := 4) (pre := false) (frz := true) rfl C (fun j hj => (L2 j hj).d 62 5 rfl) T.k8.1 T.k8.2 (C.glb (by kernel_rfl)) T.c8 (ca_cons (sv C (by kernel_rfl)) (ca_cons (sv C (by kernel_rfl)) (ca_cons (sv C (by kernel_rfl)) (ca_cons (sv C (by kernel_rfl)) ca_nil)))) (lenA_cons (lenA_cons (lenA_cons (lenA_cons lenA_nil)))) (C.ndb (by kernel_rfl))))))))))
theorem d_73 (T : Fx g A) (L : Lv g A k) (L2 : ∀ j, k = j + 1 → Lv g A j) (C : Ctx g X nm_73 (defScope st_73) (fun _ => true) k) (hp : PassesOwn (model X.prog X.w) X.A X.env X.xe) : PSs X (defBody st_73) (tS g.c (Ev.run Ev.fns k) Ev.b_is_let_pair) :=
  (cs_one (cs_ret (ce_gt (ce_len C.K (C.glb (by kernel_rfl)) (C.free T.b_len) (ca_cons (ce_meth C (ma_options_2 T L) run0 T.no_options (sv C (by kernel_rfl)) (ca_cons (sv C (by kernel_rfl)) (ca_cons (sv C (by kernel_rfl)) ca_nil)) (lenA_cons (lenA_cons lenA_nil))) ca_nil)) ce_int).1))
theorem d_74 (T : Fx g A) (L : Lv g A k) (L2 : ∀ j, k = j + 1 → Lv g A j) (C : Ctx g X nm_74 (defScope st_74) (fun _ => true) k) (hp : PassesOwn (model X.prog X.w) X.A X.env X.xe) : PSs X (defBody st_74) (tS g.c (Ev.run Ev.fns k) Ev.b_king_lots) :=
  (cs_cons (ssw C (by kernel_rfl) (ce_lst (ca_cons (ce_lstF ca_nil) ca_nil))) (cs_cons (ssw C (by kernel_rfl) ce_int) (cs_cons (cs_while hp (ce_lt (sv C (by kernel_rfl)) (ce_len C.K (C.glb (by kernel_rfl)) (C.free T.b_len) (ca_cons (sv C (by kernel_rfl)) ca_nil))).2 (cs_cons (ssw C (by kernel_rfl) (ce_idx C.K C.u1 (sv C (by kernel_rfl)) (sv C (by kernel_rfl)))) (cs_cons (cs_for hp C.calm (ci_seq C.K (sv C (by kernel_rfl))) (pgn C (by kernel_rfl)) (tg1 5) (cs_one (cs_if (PW.pt (ct_or (ct_not (ct_tr C.K (sv C (by kernel_rfl)))) (ct_or1 (ce_gt (sv C (by kernel_rfl)) (ce_lastI C.K (sv C (by kernel_rfl)))).2))) (cs_one (cs_if (ct_tr C.K (ce_all C.K C.calm (C.glb (by kernel_rfl)) (C.free T.b_all) (ca_cons (sLc C (own := [(("other" : Str), 6)]) (tg1 6) (ci_seq C.K (sv C (by kernel_rfl))) (by kernel_rfl) (fun s0 H0 A0 c0 p0 => (pgn (C.blk s0 H0 _ c0 A0 p0) (by kernel_rfl))) (fun s0 H0 A0 c0 p0 => cts_nil) (fun s0 H0 A0 c0 p0 => (sc1 (C.blk s0 H0 _ c0 A0 p0) (L.d 73 3 rfl) T.f73 (by kernel_rfl) (ca_cons (sv (C.blk s0 H0 _ c0 A0 p0) (by kernel_rfl)) (ca_cons (sv (C.blk s0 H0 _ c0 A0 p0) (by kernel_rfl)) (ca_cons (sv (C.blk s0 H0 _ c0 A0 p0) (by kernel_rfl)) ca_nil))) (lenA_cons (lenA_cons (lenA_cons lenA_nil)))))) ca_nil))) (cs_one (cs_expr (ce_append C.K (sv C (by kernel_rfl)) (ca_cons (ce_catL (sv C (by kernel_rfl)) (ce_lstF (ca_cons (sv C (by kernel_rfl)) ca_nil))) ca_nil)))) cs_nil)) cs_nil))) (cs_one (sAugA C (by kernel_rfl) ce_int))))) (cs_one (cs_ret (sv C (by kernel_rfl)))))))
theorem d_75 (T : Fx g A) (L : Lv g A k) (L2 : ∀ j, k = j + 1 → Lv g A j) (C : Ctx g X nm_75 (defScope st_75) (fun _ => true) k) (hp : PassesOwn (model X.prog X.w) X.A X.env X.xe) : PSs X (defBody st_75) (tS g.c (Ev.run Ev.fns k) Ev.b_Search___init__) :=
  (cs_cons (cs_attr C.K T.cls (by decide) T.a34 (sv C (by kernel_rfl)) (ce_make (fns := Ev.fns) (f := 121) (kc := 7) (init := 56) (np := 4) (pre := false) (frz := true) rfl C (fun j hj => (L2 j hj).d 56 5 rfl) T.k7.1 T.k7.2 (C.glb (by kernel_rfl)) T.c7 (ca_cons (sv C (by kernel_rfl)) (ca_cons (sv C (by kernel_rfl)) (ca_cons (sv C (by kernel_rfl)) (ca_cons (ce_attr C.K T.cls (by decide) T.a15 (sv C (by kernel_rfl))) ca_nil)))) (lenA_cons (lenA_cons (lenA_cons (lenA_cons lenA_nil)))) (C.ndb (by kernel_rfl)))) (cs_cons (ssw C (by kernel_rfl) (ce_range (C.glb (by kernel_rfl)) (C.free T.b_range) (ca_cons (ce_len C.K (C.glb (by kernel_rfl)) (C.free T.b_len) (ca_cons (ce_attr C.K T.cls (by decide) T.a27 (ce_attr C.K T.cls (by decide) T.a34 (sv C (by kernel_rfl)))) ca_nil)) ca_nil))) (cs_cons (cs_attr C.K T.cls (by decide) T.a37 (sv C (by kernel_rfl)) (sLc C (own := [(("sort" : Str), 8)]) (tg1 8) (ci_seq C.K (sv C (by kernel_rfl))) (by kernel_rfl) (fun s0 H0 A0 c0 p0 => (pgn (C.blk s0 H0 _ c0 A0 p0) (by kernel_rfl))) (fun s0 H0 A0 c0 p0 => (cts_one (ct_not (ct_tr (C.blk s0 H0 _ c0 A0 p0).K (sc1 (C.blk s0 H0 _ c0 A0 p0) (L.d 73 3 rfl) T.f73 (by kernel_rfl) (ca_cons (ce_attr (C.blk s0 H0 _ c0 A0 p0).K T.cls (by decide) T.a34 (sv (C.blk s0 H0 _ c0 A0 p0) (by kernel_rfl))) (ca_cons (sv (C.blk s0 H0 _ c0 A0 p0) (by kernel_rfl)) (ca_cons (sv (C.blk s0 H0 _ c0 A0 p0) (by kernel_rfl)) ca_nil))) (lenA_cons (lenA_cons (lenA_cons lenA_nil)))))))) (fun s0 H0 A0 c0 p0 => (sv (C.blk s0 H0 _ c0 A0 p0) (by kernel_rfl))))) (cs_cons (cs_attr C.K T.cls (by decide) T.a36 (sv C (by kernel_rfl)) (sLc C (own := [(("sort" : Str), 8)]) (tg1 8) (ci_seq C.K (sv C (by kernel_rfl))) (by kernel_rfl) (fun s0 H0 A0 c0 p0 => (pgn (C.blk s0 H0 _ c0 A0 p0) (by kernel_rfl))) (fun s0 H0 A0 c0 p0 => (cts_one (ct_tr (C.blk s0 H0 _ c0 A0 p0).K (sc1 (C.blk s0 H0 _ c0 A0 p0) (L.d 73 3 rfl) T.f73 (by kernel_rfl) (ca_cons (ce_attr (C.blk s0 H0 _ c0 A0 p0).K T.cls (by decide) T.a34 (sv (C.blk s0 H0 _ c0 A0 p0) (by kernel_rfl))) (ca_cons (sv (C.blk s0 H0 _ c0 A0 p0) (by kernel_rfl)) (ca_cons (sv (C.blk s0 H0 _ c0 A0 p0) (by kernel_rfl)) ca_nil))) (lenA_cons (lenA_cons (lenA_cons lenA_nil))))))) (fun s0 H0 A0 c0 p0 => (sv (C.blk s0 H0 _ c0 A0 p0) (by kernel_rfl))))) (cs_cons (cs_attr C.K T.cls (by decide) T.a35 (sv C (by kernel_rfl)) (ce_lst ca_nil)) (cs_one (cs_for hp C.calm (ci_seq C.K (sv C (by kernel_rfl))) (pgn C (by kernel_rfl)) (tg1 7) (cs_one (cs_if (PW.pt (ct_and (ct_not (ct_tr C.K (ce_attr C.K T.cls (by decide) T.a3 (sv C (by kernel_rfl))))) (ct_and1 (ce_eq (ce_idx C.K C.u1 (ce_attr C.K T.cls (by decide) T.a16 (sv C (by kernel_rfl))) (ce_attr C.K T.cls (by decide) T.a2 (sv C (by kernel_rfl)))) (ce_eq (ce_attr C.K T.cls (by decide) T.a6 (sv C (by kernel_rfl))) (ce_str T.s10.1 T.s10.2)).1).2))) (cs_one (cs_expr (ce_append C.K (ce_attr C.K T.cls (by decide) T.a35 (sv C (by kernel_rfl))) (ca_cons (ce_meth C (ma_sorts_with_2 T L) run0 T.no_sorts_with (sv C (by kernel_rfl)) (ca_cons (sv C (by kernel_rfl)) (ca_cons (sv C (by kernel_rfl)) ca_nil)) (lenA_cons (lenA_cons lenA_nil))) ca_nil)))) cs_nil)))))))))
theorem d_76 (T : Fx g A) (L : Lv g A k) (L2 : ∀ j, k = j + 1 → Lv g A j) (C : Ctx g X nm_76 (defScope st_76) (fun _ => true) k) (hp : PassesOwn (model X.prog X.w) X.A X.env X.xe) : PSs X (defBody st_76) (tS g.c (Ev.run Ev.fns k) Ev.b_Search_sorts_with) :=
  (cs_cons (ssw C (by kernel_rfl) (ce_eq (ce_attr C.K T.cls (by decide) T.a6 (sv C (by kernel_rfl))) (ce_str T.s10.1 T.s10.2)).1) (cs_one (cs_ret (sLc C (own := [(("sort" : Str), 4), (("kind" : Str), 5)]) (tg2 (by decide)) (ci_enum C.K (C.glb (by kernel_rfl)) (C.free T.b_enumerate) (ca_cons (ce_attr C.K T.cls (by decide) T.a27 (ce_attr C.K T.cls (by decide) T.a34 (sv C (by kernel_rfl)))) ca_nil)) (by kernel_rfl) (fun s0 H0 A0 c0 p0 => (pg2 (C.blk s0 H0 _ c0 A0 p0) (by kernel_rfl) (by kernel_rfl))) (fun s0 H0 A0 c0 p0 => (cts_one (ce_eq (ce_meth (C.blk s0 H0 _ c0 A0 p0) (ma_alone_2 T L) run0 T.no_alone (sv (C.blk s0 H0 _ c0 A0 p0) (by kernel_rfl)) (ca_cons (ce_idx (C.blk s0 H0 _ c0 A0 p0).K (C.blk s0 H0 _ c0 A0 p0).u1 (ce_attr (C.blk s0 H0 _ c0 A0 p0).K T.cls (by decide) T.a4 (sv (C.blk s0 H0 _ c0 A0 p0) (by kernel_rfl))) ce_int) (ca_cons (sv (C.blk s0 H0 _ c0 A0 p0) (by kernel_rfl)) ca_nil)) (lenA_cons (lenA_cons lenA_nil))) (sv (C.blk s0 H0 _ c0 A0 p0) (by kernel_rfl))).2)) (fun s0 H0 A0 c0 p0 => (sv (C.blk s0 H0 _ c0 A0 p0) (by kernel_rfl)))))))
theorem d_77 (T : Fx g A) (L : Lv g A k) (L2 : ∀ j, k = j + 1 → Lv g A j) (C : Ctx g X nm_77 (defScope st_77) (fun _ => true) k) (hp : PassesOwn (model X.prog X.w) X.A X.env X.xe) : PSs X (defBody st_77) (tS g.c (Ev.run Ev.fns k) Ev.b_Search_first_plan) :=
  (cs_cons (cs_for hp C.calm (ci_seq C.K (sc1 C (L.d 74 2 rfl) T.f74 (by kernel_rfl) (ca_cons (ce_attr C.K T.cls (by decide) T.a34 (sv C (by kernel_rfl))) (ca_cons (ce_attr C.K T.cls (by decide) T.a37 (sv C (by kernel_rfl))) ca_nil)) (lenA_cons (lenA_cons lenA_nil)))) (pgn C (by kernel_rfl)) (tg1 1) (cs_cons (sSetLc C (by kernel_rfl) (own := [(("sort" : Str), 6)]) (tg1 6) (ci_seq C.K (ce_attr C.K T.cls (by decide) T.a36 (sv C (by kernel_rfl)))) (by kernel_rfl) (fun s0 H0 A0 c0 p0 => (pgn (C.blk s0 H0 _ c0 A0 p0) (by kernel_rfl))) (fun s0 H0 A0 c0 p0 => (cts_one (ct_tr (C.blk s0 H0 _ c0 A0 p0).K (ce_all (C.blk s0 H0 _ c0 A0 p0).K (C.blk s0 H0 _ c0 A0 p0).calm ((C.blk s0 H0 _ c0 A0 p0).glb (by kernel_rfl)) ((C.blk s0 H0 _ c0 A0 p0).free T.b_all) (ca_cons (sLc (C.blk s0 H0 _ c0 A0 p0) (own := [(("king" : Str), 7)]) (tg1 7) (ci_seq (C.blk s0 H0 _ c0 A0 p0).K (sv (C.blk s0 H0 _ c0 A0 p0) (by kernel_rfl))) (by kernel_rfl) (fun s1 H1 A1 c1 p1 => (pgn ((C.blk s0 H0 _ c0 A0 p0).blk s1 H1 _ c1 A1 p1) (by kernel_rfl))) (fun s1 H1 A1 c1 p1 => cts_nil) (fun s1 H1 A1 c1 p1 => (sc1 ((C.blk s0 H0 _ c0 A0 p0).blk s1 H1 _ c1 A1 p1) (L.d 73 3 rfl) T.f73 (by kernel_rfl) (ca_cons (ce_attr ((C.blk s0 H0 _ c0 A0 p0).blk s1 H1 _ c1 A1 p1).K T.cls (by decide) T.a34 (sv ((C.blk s0 H0 _ c0 A0 p0).blk s1 H1 _ c1 A1 p1) (by kernel_rfl))) (ca_cons (sv ((C.blk s0 H0 _ c0 A0 p0).blk s1 H1 _ c1 A1 p1) (by kernel_rfl)) (ca_cons (sv ((C.blk s0 H0 _ c0 A0 p0).blk s1 H1 _ c1 A1 p1) (by kernel_rfl)) ca_nil))) (lenA_cons (lenA_cons (lenA_cons lenA_nil)))))) ca_nil))))) (fun s0 H0 A0 c0 p0 => (sv (C.blk s0 H0 _ c0 A0 p0) (by kernel_rfl)))) (cs_one (cs_for hp C.calm (ci_seq C.K (sc1 C (L.d 35 2 rfl) T.f35 (by kernel_rfl) (ca_cons (sv C (by kernel_rfl)) (ca_cons (ce_attr C.K T.cls (by decide) T.a34 (sv C (by kernel_rfl))) ca_nil)) (lenA_cons (lenA_cons lenA_nil)))) (pgn C (by kernel_rfl)) (tg1 3) (cs_cons (ssw C (by kernel_rfl) (sc1 C (L.d 66 3 rfl) T.f66 (by kernel_rfl) (ca_cons (ce_attr C.K T.cls (by decide) T.a34 (sv C (by kernel_rfl))) (ca_cons (sv C (by kernel_rfl)) (ca_cons (sv C (by kernel_rfl)) ca_nil))) (lenA_cons (lenA_cons (lenA_cons lenA_nil))))) (cs_one (cs_if (ct_tr C.K (sv C (by kernel_rfl))) (cs_cons (ssw C (by kernel_rfl) (sc1 C (L.d 72 4 rfl) T.f72 (by kernel_rfl) (ca_cons (ce_attr C.K T.cls (by decide) T.a34 (sv C (by kernel_rfl))) (ca_cons (sv C (by kernel_rfl)) (ca_cons (sv C (by kernel_rfl)) (ca_cons (ce_attr C.K T.cls (by decide) T.a35 (sv C (by kernel_rfl))) ca_nil)))) (lenA_cons (lenA_cons (lenA_cons (lenA_cons lenA_nil)))))) (cs_one (cs_if (ce_notN (sv C (by kernel_rfl))).2 (cs_one (cs_ret (ce_meth C (ma_smaller_1 T L) run0 T.no_smaller (sv C (by kernel_rfl)) (ca_cons (sv C (by kernel_rfl)) ca_nil) (lenA_cons lenA_nil)))) cs_nil))) cs_nil))))))) (cs_one (cs_ret ce_non)))
theorem d_78 (T : Fx g A) (L : Lv g A k) (L2 : ∀ j, k = j + 1 → Lv g A j) (C : Ctx g X nm_78 (defScope st_78) (fun _ => true) k) (hp : PassesOwn (model X.prog X.w) X.A X.env X.xe) : PSs X (defBody st_78) (tS g.c (Ev.run Ev.fns k) Ev.b_Search_smaller) :=
  (cs_cons (cs_for hp C.calm (ci_seq C.K (ce_list C.K (C.glb (by kernel_rfl)) (C.free T.b_list) (ca_cons (ce_attr C.K T.cls (by decide) T.a32 (sv C (by kernel_rfl))) ca_nil))) (pgn C (by kernel_rfl)) (tg1 2) (cs_cons (ssw C (by kernel_rfl) (sc1 C (L.d 66 3 rfl) T.f66 (by kernel_rfl) (ca_cons (ce_attr C.K T.cls (by decide) T.a34 (sv C (by kernel_rfl))) (ca_cons (ce_attr C.K T.cls (by decide) T.a33 (sv C (by kernel_rfl))) (ca_cons (sLc C (own := [(("other" : Str), 5)]) (tg1 5) (ci_seq C.K (ce_attr C.K T.cls (by decide) T.a32 (sv C (by kernel_rfl)))) (by kernel_rfl) (fun s0 H0 A0 c0 p0 => (pgn (C.blk s0 H0 _ c0 A0 p0) (by kernel_rfl))) (fun s0 H0 A0 c0 p0 => (cts_one (ce_ne (sv (C.blk s0 H0 _ c0 A0 p0) (by kernel_rfl)) (sv (C.blk s0 H0 _ c0 A0 p0) (by kernel_rfl))).2)) (fun s0 H0 A0 c0 p0 => (sv (C.blk s0 H0 _ c0 A0 p0) (by kernel_rfl)))) ca_nil))) (lenA_cons (lenA_cons (lenA_cons lenA_nil))))) (cs_one (cs_if (ct_tr C.K (sv C (by kernel_rfl))) (cs_cons (ssw C (by kernel_rfl) (sc1 C (L.d 72 4 rfl) T.f72 (by kernel_rfl) (ca_cons (ce_attr C.K T.cls (by decide) T.a34 (sv C (by kernel_rfl))) (ca_cons (ce_attr C.K T.cls (by decide) T.a33 (sv C (by kernel_rfl))) (ca_cons (sv C (by kernel_rfl)) (ca_cons (ce_attr C.K T.cls (by decide) T.a35 (sv C (by kernel_rfl))) ca_nil)))) (lenA_cons (lenA_cons (lenA_cons (lenA_cons lenA_nil)))))) (cs_one (cs_if (ce_notN (sv C (by kernel_rfl))).2 (cs_one (ssw C (by kernel_rfl) (sv C (by kernel_rfl)))) cs_nil))) cs_nil)))) (cs_one (cs_ret (sv C (by kernel_rfl)))))
theorem d_79 (T : Fx g A) (L : Lv g A k) (L2 : ∀ j, k = j + 1 → Lv g A j) (C : Ctx g X nm_79 (defScope st_79) (fun _ => true) k) (hp : PassesOwn (model X.prog X.w) X.A X.env X.xe) : PSs X (defBody st_79) (tS g.c (Ev.run Ev.fns k) Ev.b_Search_lone_plans) :=
  (cs_cons (ssw C (by kernel_rfl) (ce_lst ca_nil)) (cs_cons (cs_for hp C.calm (ci_seq C.K (sc1 C (L.d 74 2 rfl) T.f74 (by kernel_rfl) (ca_cons (ce_attr C.K T.cls (by decide) T.a34 (sv C (by kernel_rfl))) (ca_cons (ce_attr C.K T.cls (by decide) T.a37 (sv C (by kernel_rfl))) ca_nil)) (lenA_cons (lenA_cons lenA_nil)))) (pgn C (by kernel_rfl)) (tg1 2) (cs_one (cs_if (ct_tr C.K (sv C (by kernel_rfl))) (cs_cons (ssw C (by kernel_rfl) (sc1 C (L.d 72 4 rfl) T.f72 (by kernel_rfl) (ca_cons (ce_attr C.K T.cls (by decide) T.a34 (sv C (by kernel_rfl))) (ca_cons (sv C (by kernel_rfl)) (ca_cons (ce_lstF ca_nil) (ca_cons (ce_attr C.K T.cls (by decide) T.a35 (sv C (by kernel_rfl))) ca_nil)))) (lenA_cons (lenA_cons (lenA_cons (lenA_cons lenA_nil)))))) (cs_one (cs_if (ce_notN (sv C (by kernel_rfl))).2 (cs_one (cs_expr (ce_append C.K (sv C (by kernel_rfl)) (ca_cons (sv C (by kernel_rfl)) ca_nil)))) cs_nil))) cs_nil))) (cs_one (cs_ret (sv C (by kernel_rfl))))))
theorem d_80 (T : Fx g A) (L : Lv g A k) (L2 : ∀ j, k = j + 1 → Lv g A j) (C : Ctx g X nm_80 (defScope st_80) (fun _ => true) k) (hp : PassesOwn (model X.prog X.w) X.A X.env X.xe) : PSs X (defBody st_80) (tS g.c (Ev.run Ev.fns k) Ev.b_Builder___init__) :=
  (cs_cons (cs_attr C.K T.cls (by decide) T.a40 (sv C (by kernel_rfl)) (sv C (by kernel_rfl))) (cs_cons (cs_attr C.K T.cls (by decide) T.a34 (sv C (by kernel_rfl)) (ce_attr C.K T.cls (by decide) T.a34 (sv C (by kernel_rfl)))) (cs_cons (cs_attr C.K T.cls (by decide) T.a39 (sv C (by kernel_rfl)) (ce_lst ca_nil)) (cs_cons (cs_attr C.K T.cls (by decide) T.a24 (sv C (by kernel_rfl)) ce_dctT) (cs_one (cs_attr C.K T.cls (by decide) T.a38 (sv C (by kernel_rfl)) ce_dctT))))))
theorem d_81 (T : Fx g A) (L : Lv g A k) (L2 : ∀ j, k = j + 1 → Lv g A j) (C : Ctx g X nm_81 (defScope st_81) (fun _ => true) k) (hp : PassesOwn (model X.prog X.w) X.A X.env X.xe) : PSs X (defBody st_81) (tS g.c (Ev.run Ev.fns k) Ev.b_Builder_put) :=
  (cs_cons (cs_expr (ce_append C.K (ce_attr C.K T.cls (by decide) T.a39 (sv C (by kernel_rfl))) (ca_cons (sv C (by kernel_rfl)) ca_nil))) (cs_one (cs_ret (ce_sub (ce_len C.K (C.glb (by kernel_rfl)) (C.free T.b_len) (ca_cons (ce_attr C.K T.cls (by decide) T.a39 (sv C (by kernel_rfl))) ca_nil)) ce_int))))
theorem d_82 (T : Fx g A) (L : Lv g A k) (L2 : ∀ j, k = j + 1 → Lv g A j) (C : Ctx g X nm_82 (defScope st_82) (fun _ => true) k) (hp : PassesOwn (model X.prog X.w) X.A X.env X.xe) : PSs X (defBody st_82) (tS g.c (Ev.run Ev.fns k) Ev.b_Builder_link) :=
  (cs_one (cs_if (ce_lt (sv C (by kernel_rfl)) (sv C (by kernel_rfl))).2 (cs_one (cs_sub C.u1 (ce_attr C.K T.cls (by decide) T.a24 (sv C (by kernel_rfl))) (ce_tup (ca_cons (sv C (by kernel_rfl)) (ca_cons (sv C (by kernel_rfl)) ca_nil))) (ce_attr C.K T.cls (by decide) T.a24 (sv C (by kernel_rfl))))) (cs_one (cs_sub C.u1 (ce_attr C.K T.cls (by decide) T.a24 (sv C (by kernel_rfl))) (ce_tup (ca_cons (sv C (by kernel_rfl)) (ca_cons (sv C (by kernel_rfl)) ca_nil))) (ce_attr C.K T.cls (by decide) T.a24 (ce_meth0 C (ma_turned_0 T L) run0 T.no_turned (sv C (by kernel_rfl))))))))
theorem d_83 (T : Fx g A) (L : Lv g A k) (L2 : ∀ j, k = j + 1 → Lv g A j) (C : Ctx g X nm_83 (defScope st_83) (fun _ => true) k) (hp : PassesOwn (model X.prog X.w) X.A X.env X.xe) : PSs X (defBody st_83) (tS g.c (Ev.run Ev.fns k) Ev.b_Builder_put_kings) :=
  (cs_cons (cs_for hp C.calm (ci_seq C.K (ce_attr C.K T.cls (by decide) T.a33 (ce_attr C.K T.cls (by decide) T.a40 (sv C (by kernel_rfl))))) (pgn C (by kernel_rfl)) (tg1 1) (cs_one (cs_expr (ce_meth C (ma_put_1 T L) run0 T.no_put (sv C (by kernel_rfl)) (ca_cons (sv C (by kernel_rfl)) ca_nil) (lenA_cons lenA_nil))))) (cs_one (cs_for hp C.calm (ci_keys (ce_attr C.K T.cls (by decide) T.a31 (ce_attr C.K T.cls (by decide) T.a40 (sv C (by kernel_rfl))))) (pg2 C (by kernel_rfl) (by kernel_rfl)) (tg2 (by decide)) (cs_one (cs_expr (ce_meth C (ma_link_3 T L) run0 T.no_link (sv C (by kernel_rfl)) (ca_cons (sv C (by kernel_rfl)) (ca_cons (sv C (by kernel_rfl)) (ca_cons (ce_idx C.K C.u1 (ce_attr C.K T.cls (by decide) T.a31 (ce_attr C.K T.cls (by decide) T.a40 (sv C (by kernel_rfl)))) (ce_tup (ca_cons (sv C (by kernel_rfl)) (ca_cons (sv C (by kernel_rfl)) ca_nil)))) ca_nil))) (lenA_cons (lenA_cons (lenA_cons lenA_nil)))))))))
theorem d_84 (T : Fx g A) (L : Lv g A k) (L2 : ∀ j, k = j + 1 → Lv g A j) (C : Ctx g X nm_84 (defScope st_84) (fun _ => true) k) (hp : PassesOwn (model X.prog X.w) X.A X.env X.xe) : PSs X (defBody st_84) (tS g.c (Ev.run Ev.fns k) Ev.b_Builder_put_common) :=
  (cs_cons (ssw C (by kernel_rfl) (ce_meth C (ma_put_1 T L) run0 T.no_put (sv C (by kernel_rfl)) (ca_cons (sv C (by kernel_rfl)) ca_nil) (lenA_cons lenA_nil))) (cs_cons (cs_for hp C.calm (ci_enum C.K (C.glb (by kernel_rfl)) (C.free T.b_enumerate) (ca_cons (sv C (by kernel_rfl)) ca_nil)) (pg2 C (by kernel_rfl) (by kernel_rfl)) (tg2 (by decide)) (cs_one (cs_expr (ce_meth C (ma_link_3 T L) run0 T.no_link (sv C (by kernel_rfl)) (ca_cons (sv C (by kernel_rfl)) (ca_cons (sv C (by kernel_rfl)) (ca_cons (sv C (by kernel_rfl)) ca_nil))) (lenA_cons (lenA_cons (lenA_cons lenA_nil))))))) (cs_one (cs_ret (sv C (by kernel_rfl))))))
end
end Sd
end

section
set_option Elab.async false
set_option linter.all false
set_option maxRecDepth 100000
set_option maxHeartbeats 0

/-! Dv3 (printed by gen2.py): derivations. -/
namespace Sd
open PySem PySem.Spec PyProof.Rows L2
open Ev (Hl Rs Rb Ra So Sr CallT)

section
variable {g : Gb} {A : Nat → Addr} {X : Cx} {k : Nat}
theorem d_85 (T : Fx g A) (L : Lv g A k) (L2 : ∀ j, k = j + 1 → Lv g A j) (C : Ctx g X nm_85 (defScope st_85) (fun _ => true) k) (hp : PassesOwn (model X.prog X.w) X.A X.env X.xe) : PSs X (defBody st_85) (tS g.c (Ev.run Ev.fns k) Ev.b_Builder_put_courts) :=
  (cs_cons (ssw C (by kernel_rfl) (ce_lst ca_nil)) (cs_cons (cs_for hp C.calm (ci_range (C.glb (by kernel_rfl)) (C.free T.b_range) (ca_cons (ce_len C.K (C.glb (by kernel_rfl)) (C.free T.b_len) (ca_cons (ce_attr C.K T.cls (by decide) T.a33 (ce_attr C.K T.cls (by decide) T.a40 (sv C (by kernel_rfl)))) ca_nil)) ca_nil)) (pgn C (by kernel_rfl)) (tg1 2) (cs_one (cs_for hp C.calm (ci_seq C.K (ce_attr C.K T.cls (by decide) T.a28 (ce_attr C.K T.cls (by decide) T.a34 (sv C (by kernel_rfl))))) (pgn C (by kernel_rfl)) (tg1 3) (cs_one (cs_if (ce_eq (ce_band (ce_meth C (ma_king_left_1 T L) run0 T.no_king_left (sv C (by kernel_rfl)) (ca_cons (sv C (by kernel_rfl)) ca_nil) (lenA_cons lenA_nil)) (sv C (by kernel_rfl))) (sv C (by kernel_rfl))).2 (cs_cons (cs_asg (tg2 (by decide)) (sc1 C (L.d 67 5 rfl) T.f67 (by kernel_rfl) (ca_cons (ce_attr C.K T.cls (by decide) T.a34 (sv C (by kernel_rfl))) (ca_cons (ce_attr C.K T.cls (by decide) T.a33 (ce_attr C.K T.cls (by decide) T.a40 (sv C (by kernel_rfl)))) (ca_cons (ce_attr C.K T.cls (by decide) T.a32 (ce_attr C.K T.cls (by decide) T.a40 (sv C (by kernel_rfl)))) (ca_cons (sv C (by kernel_rfl)) (ca_cons (sv C (by kernel_rfl)) ca_nil))))) (lenA_cons (lenA_cons (lenA_cons (lenA_cons (lenA_cons lenA_nil)))))) (pg2 C (by kernel_rfl) (by kernel_rfl))) (cs_one (cs_expr (ce_append C.K (sv C (by kernel_rfl)) (ca_cons (ce_meth C (ma_put_common_2 T L) run0 T.no_put_common (sv C (by kernel_rfl)) (ca_cons (sv C (by kernel_rfl)) (ca_cons (sv C (by kernel_rfl)) ca_nil)) (lenA_cons (lenA_cons lenA_nil))) ca_nil))))) cs_nil))))) (cs_one (cs_ret (sv C (by kernel_rfl))))))
theorem d_86 (T : Fx g A) (L : Lv g A k) (L2 : ∀ j, k = j + 1 → Lv g A j) (C : Ctx g X nm_86 (defScope st_86) (fun _ => true) k) (hp : PassesOwn (model X.prog X.w) X.A X.env X.xe) : PSs X (defBody st_86) (tS g.c (Ev.run Ev.fns k) Ev.b_Builder_king_left) :=
  (cs_cons (ssw C (by kernel_rfl) (ce_idx C.K C.u1 (ce_attr C.K T.cls (by decide) T.a26 (ce_attr C.K T.cls (by decide) T.a34 (sv C (by kernel_rfl)))) (ce_idx C.K C.u1 (ce_attr C.K T.cls (by decide) T.a33 (ce_attr C.K T.cls (by decide) T.a40 (sv C (by kernel_rfl)))) (sv C (by kernel_rfl))))) (cs_cons (cs_for hp C.calm (ci_keys (ce_attr C.K T.cls (by decide) T.a31 (ce_attr C.K T.cls (by decide) T.a40 (sv C (by kernel_rfl))))) (pg2 C (by kernel_rfl) (by kernel_rfl)) (tg2 (by decide)) (cs_cons (ssw C (by kernel_rfl) (ce_idx C.K C.u1 (ce_attr C.K T.cls (by decide) T.a31 (ce_attr C.K T.cls (by decide) T.a40 (sv C (by kernel_rfl)))) (ce_tup (ca_cons (sv C (by kernel_rfl)) (ca_cons (sv C (by kernel_rfl)) ca_nil))))) (cs_cons (cs_if (ce_eq (sv C (by kernel_rfl)) (sv C (by kernel_rfl))).2 (cs_one (sAugS C (by kernel_rfl) (ce_band (sv C (by kernel_rfl)) (ce_attr C.K T.cls (by decide) T.a23 (sv C (by kernel_rfl)))))) cs_nil) (cs_one (cs_if (ce_eq (sv C (by kernel_rfl)) (sv C (by kernel_rfl))).2 (cs_one (sAugS C (by kernel_rfl) (ce_band (sv C (by kernel_rfl)) (ce_attr C.K T.cls (by decide) T.a22 (sv C (by kernel_rfl)))))) cs_nil))))) (cs_one (cs_ret (sv C (by kernel_rfl))))))
theorem d_87 (T : Fx g A) (L : Lv g A k) (L2 : ∀ j, k = j + 1 → Lv g A j) (C : Ctx g X nm_87 (defScope st_87) (fun _ => true) k) (hp : PassesOwn (model X.prog X.w) X.A X.env X.xe) : PSs X (defBody st_87) (tS g.c (Ev.run Ev.fns k) Ev.b_Builder_put_groups) :=
  (cs_cons (ssw C (by kernel_rfl) (ce_max C.calm (C.glb (by kernel_rfl)) (C.free T.b_max) (ca_cons ce_int (ca_cons (ce_len C.K (C.glb (by kernel_rfl)) (C.free T.b_len) (ca_cons (ce_attr C.K T.cls (by decide) T.a28 (ce_attr C.K T.cls (by decide) T.a34 (sv C (by kernel_rfl)))) ca_nil)) ca_nil)))) (cs_one (cs_for hp C.calm (ci_range (C.glb (by kernel_rfl)) (C.free T.b_range) (ca_cons (sgi C T.g_GROUPS (by kernel_rfl)) ca_nil)) (pgn C (by kernel_rfl)) (tg1 2) (cs_one (cs_for hp C.calm (ci_seq C.K (ce_attr C.K T.cls (by decide) T.a32 (ce_attr C.K T.cls (by decide) T.a40 (sv C (by kernel_rfl))))) (pgn C (by kernel_rfl)) (tg1 3) (cs_cons (ssw C (by kernel_rfl) (sc1 C (L.d 65 3 rfl) T.f65 (by kernel_rfl) (ca_cons (ce_attr C.K T.cls (by decide) T.a34 (sv C (by kernel_rfl))) (ca_cons (ce_attr C.K T.cls (by decide) T.a32 (ce_attr C.K T.cls (by decide) T.a40 (sv C (by kernel_rfl)))) (ca_cons (sv C (by kernel_rfl)) ca_nil))) (lenA_cons (lenA_cons (lenA_cons lenA_nil))))) (cs_cons (ssw C (by kernel_rfl) (sc1 C (L.d 64 5 rfl) T.f64 (by kernel_rfl) (ca_cons (ce_attr C.K T.cls (by decide) T.a34 (sv C (by kernel_rfl))) (ca_cons (ce_attr C.K T.cls (by decide) T.a33 (ce_attr C.K T.cls (by decide) T.a40 (sv C (by kernel_rfl)))) (ca_cons (sv C (by kernel_rfl)) (ca_cons (sv C (by kernel_rfl)) (ca_cons ce_dctK ca_nil))))) (lenA_cons (lenA_cons (lenA_cons (lenA_cons (lenA_cons lenA_nil))))))) (cs_one (cs_sub C.u1 (ce_attr C.K T.cls (by decide) T.a38 (sv C (by kernel_rfl))) (ce_tup (ca_cons (sv C (by kernel_rfl)) (ca_cons (sv C (by kernel_rfl)) ca_nil))) (sLc C (own := [(("turn" : Str), 6)]) (tg1 6) (ci_range (C.glb (by kernel_rfl)) (C.free T.b_range) (ca_cons (sv C (by kernel_rfl)) ca_nil)) (by kernel_rfl) (fun s0 H0 A0 c0 p0 => (pgn (C.blk s0 H0 _ c0 A0 p0) (by kernel_rfl))) (fun s0 H0 A0 c0 p0 => cts_nil) (fun s0 H0 A0 c0 p0 => (ce_meth (C.blk s0 H0 _ c0 A0 p0) (ma_put_common_2 T L) run0 T.no_put_common (sv (C.blk s0 H0 _ c0 A0 p0) (by kernel_rfl)) (ca_cons (sv (C.blk s0 H0 _ c0 A0 p0) (by kernel_rfl)) (ca_cons (sv (C.blk s0 H0 _ c0 A0 p0) (by kernel_rfl)) ca_nil)) (lenA_cons (lenA_cons lenA_nil))))))))))))))
theorem d_88 (T : Fx g A) (L : Lv g A k) (L2 : ∀ j, k = j + 1 → Lv g A j) (C : Ctx g X nm_88 (defScope st_88) (fun _ => true) k) (hp : PassesOwn (model X.prog X.w) X.A X.env X.xe) : PSs X (defBody st_88) (tS g.c (Ev.run Ev.fns k) Ev.b_Builder_meet) :=
  (cs_cons (ssw C (by kernel_rfl) (ce_idx C.K C.u1 (ce_attr C.K T.cls (by decide) T.a39 (sv C (by kernel_rfl))) (sv C (by kernel_rfl)))) (cs_one (cs_for hp C.calm (ci_enum C.K (C.glb (by kernel_rfl)) (C.free T.b_enumerate) (ca_cons (ce_attr C.K T.cls (by decide) T.a28 (ce_attr C.K T.cls (by decide) T.a34 (sv C (by kernel_rfl)))) ca_nil)) (pg2 C (by kernel_rfl) (by kernel_rfl)) (tg2 (by decide)) (cs_one (cs_if (ce_eq (ce_band (ce_idx C.K C.u1 (ce_attr C.K T.cls (by decide) T.a26 (ce_attr C.K T.cls (by decide) T.a34 (sv C (by kernel_rfl)))) (sv C (by kernel_rfl))) (sv C (by kernel_rfl))) (sv C (by kernel_rfl))).2 (cs_cons (ssw C (by kernel_rfl) (ce_meth C (ma_helper_2 T L) run0 T.no_helper (sv C (by kernel_rfl)) (ca_cons (sv C (by kernel_rfl)) (ca_cons (sv C (by kernel_rfl)) ca_nil)) (lenA_cons (lenA_cons lenA_nil)))) (cs_one (cs_if (ce_notN (sv C (by kernel_rfl))).2 (cs_one (cs_expr (ce_meth C (ma_link_3 T L) run0 T.no_link (sv C (by kernel_rfl)) (ca_cons (sv C (by kernel_rfl)) (ca_cons (ce_idx C.K C.u1 (ce_idx C.K C.u1 (ce_attr C.K T.cls (by decide) T.a38 (sv C (by kernel_rfl))) (ce_tup (ca_cons (sv C (by kernel_rfl)) (ca_cons (ce_idx C.K C.u1 (sv C (by kernel_rfl)) ce_int) ca_nil)))) (sv C (by kernel_rfl))) (ca_cons (ce_idx C.K C.u1 (sv C (by kernel_rfl)) ce_int) ca_nil))) (lenA_cons (lenA_cons (lenA_cons lenA_nil)))))) cs_nil))) cs_nil)))))
theorem d_89 (T : Fx g A) (L : Lv g A k) (L2 : ∀ j, k = j + 1 → Lv g A j) (C : Ctx g X nm_89 (defScope st_89) (fun _ => true) k) (hp : PassesOwn (model X.prog X.w) X.A X.env X.xe) : PSs X (defBody st_89) (tS g.c (Ev.run Ev.fns k) Ev.b_Builder_helper) :=
  (cs_cons (cs_for hp C.calm (ci_seq C.K (ce_attr C.K T.cls (by decide) T.a32 (ce_attr C.K T.cls (by decide) T.a40 (sv C (by kernel_rfl))))) (pgn C (by kernel_rfl)) (tg1 3) (cs_one (cs_for hp C.calm (ci_seq C.K (ce_meth C (ma_options_2 T L) run0 T.no_options (ce_attr C.K T.cls (by decide) T.a34 (sv C (by kernel_rfl))) (ca_cons (sv C (by kernel_rfl)) (ca_cons (sv C (by kernel_rfl)) ca_nil)) (lenA_cons (lenA_cons lenA_nil)))) (pgn C (by kernel_rfl)) (tg1 4) (cs_one (cs_if (ce_eq (ce_band (ce_attr C.K T.cls (by decide) T.a23 (sv C (by kernel_rfl))) (sv C (by kernel_rfl))) (sv C (by kernel_rfl))).2 (cs_one (cs_ret (ce_tup (ca_cons (sv C (by kernel_rfl)) (ca_cons (sv C (by kernel_rfl)) ca_nil))))) cs_nil))))) (cs_one (cs_ret ce_non)))
theorem d_90 (T : Fx g A) (L : Lv g A k) (L2 : ∀ j, k = j + 1 → Lv g A j) (C : Ctx g X nm_90 (defScope st_90) (fun _ => true) k) (hp : PassesOwn (model X.prog X.w) X.A X.env X.xe) : PSs X (defBody st_90) (tS g.c (Ev.run Ev.fns k) Ev.b_Builder_run) :=
  (cs_cons (cs_expr (ce_meth0 C (ma_put_kings_0 T L) run0 T.no_put_kings (sv C (by kernel_rfl)))) (cs_cons (cs_if (ct_not (ct_tr C.K (ce_attr C.K T.cls (by decide) T.a32 (ce_attr C.K T.cls (by decide) T.a40 (sv C (by kernel_rfl)))))) (cs_one cs_retN) cs_nil) (cs_cons (ssw C (by kernel_rfl) (ce_meth0 C (ma_put_courts_0 T L) run0 T.no_put_courts (sv C (by kernel_rfl)))) (cs_cons (cs_expr (ce_meth0 C (ma_put_groups_0 T L) run0 T.no_put_groups (sv C (by kernel_rfl)))) (cs_cons (cs_for hp C.calm (ci_seq C.K (sv C (by kernel_rfl))) (pgn C (by kernel_rfl)) (tg1 2) (cs_one (cs_expr (ce_meth C (ma_meet_2 T L) run0 T.no_meet (sv C (by kernel_rfl)) (ca_cons (sv C (by kernel_rfl)) (ca_cons ce_int ca_nil)) (lenA_cons (lenA_cons lenA_nil)))))) (cs_one (cs_for hp C.calm (ci_seq C.K (ce_keys C.calm (C.glb (by kernel_rfl)) (C.free T.b_list) (ca_cons (ce_attr C.K T.cls (by decide) T.a38 (sv C (by kernel_rfl))) ca_nil))) (pg2 C (by kernel_rfl) (by kernel_rfl)) (tg2 (by decide)) (cs_one (cs_for hp C.calm (ci_seq C.K (ce_idx C.K C.u1 (ce_attr C.K T.cls (by decide) T.a38 (sv C (by kernel_rfl))) (ce_tup (ca_cons (sv C (by kernel_rfl)) (ca_cons (sv C (by kernel_rfl)) ca_nil))))) (pgn C (by kernel_rfl)) (tg1 2) (cs_one (cs_expr (ce_meth C (ma_meet_2 T L) run0 T.no_meet (sv C (by kernel_rfl)) (ca_cons (sv C (by kernel_rfl)) (ca_cons (ce_mod (ce_int1 (C.glb (by kernel_rfl)) (C.free T.b_int) (ca_cons (ce_add (sv C (by kernel_rfl)) ce_int) ca_nil)) (sgi C T.g_GROUPS (by kernel_rfl))) ca_nil)) (lenA_cons (lenA_cons lenA_nil))))))))))))))
theorem d_91 (T : Fx g A) (L : Lv g A k) (L2 : ∀ j, k = j + 1 → Lv g A j) (C : Ctx g X nm_91 (defScope st_91) (fun _ => true) k) (hp : PassesOwn (model X.prog X.w) X.A X.env X.xe) : PSs X (defBody st_91) (tS g.c (Ev.run Ev.fns k) Ev.b_Builder_made_world) :=
  (cs_cons (ssw C (by kernel_rfl) (ce_attr C.K T.cls (by decide) T.a13 (ce_attr C.K T.cls (by decide) T.a34 (sv C (by kernel_rfl))))) (cs_cons (sSetDc C (by kernel_rfl) (own := [(("name" : Str), 8)]) (tg1 8) (ci_seq C.K (sPr_marks T C (sv C (by kernel_rfl)))) (by kernel_rfl) (fun s0 H0 A0 c0 p0 => (pgn (C.blk s0 H0 _ c0 A0 p0) (by kernel_rfl))) (fun s0 H0 A0 c0 p0 => (sv (C.blk s0 H0 _ c0 A0 p0) (by kernel_rfl))) (fun s0 H0 A0 c0 p0 => (ce_lst ca_nil))) (cs_cons (sSetDc C (by kernel_rfl) (own := [(("name" : Str), 8)]) (tg1 8) (ci_seq C.K (sPr_ties T C (sv C (by kernel_rfl)))) (by kernel_rfl) (fun s0 H0 A0 c0 p0 => (pgn (C.blk s0 H0 _ c0 A0 p0) (by kernel_rfl))) (fun s0 H0 A0 c0 p0 => (sv (C.blk s0 H0 _ c0 A0 p0) (by kernel_rfl))) (fun s0 H0 A0 c0 p0 => (ce_lst ca_nil))) (cs_cons (cs_for hp C.calm (ci_enum C.K (C.glb (by kernel_rfl)) (C.free T.b_enumerate) (ca_cons (ce_attr C.K T.cls (by decide) T.a39 (sv C (by kernel_rfl))) ca_nil)) (pg2 C (by kernel_rfl) (by kernel_rfl)) (tg2 (by decide)) (cs_cons (ssw C (by kernel_rfl) (ce_idx C.K C.u1 (ce_attr C.K T.cls (by decide) T.a27 (ce_attr C.K T.cls (by decide) T.a34 (sv C (by kernel_rfl)))) (sv C (by kernel_rfl)))) (cs_cons (cs_for hp C.calm (ci_enum C.K (C.glb (by kernel_rfl)) (C.free T.b_enumerate) (ca_cons (sPr_marks T C (sv C (by kernel_rfl))) ca_nil)) (pg2 C (by kernel_rfl) (by kernel_rfl)) (tg2 (by decide)) (cs_one (cs_if (ct_tr C.K (ce_idx C.K C.u1 (ce_attr C.K T.cls (by decide) T.a12 (sv C (by kernel_rfl))) (sv C (by kernel_rfl)))) (cs_one (cs_expr (ce_append C.K (ce_idx C.K C.u1 (sv C (by kernel_rfl)) (sv C (by kernel_rfl))) (ca_cons (sv C (by kernel_rfl)) ca_nil)))) cs_nil))) (cs_cons (cs_for hp C.calm (ci_enum C.K (C.glb (by kernel_rfl)) (C.free T.b_enumerate) (ca_cons (sPr_ties T C (sv C (by kernel_rfl))) ca_nil)) (pg2 C (by kernel_rfl) (by kernel_rfl)) (tg2 (by decide)) (cs_one (cs_if (ct_tr C.K (ce_idx C.K C.u1 (ce_attr C.K T.cls (by decide) T.a19 (sv C (by kernel_rfl))) (sv C (by kernel_rfl)))) (cs_one (cs_expr (ce_append C.K (ce_idx C.K C.u1 (sv C (by kernel_rfl)) (sv C (by kernel_rfl))) (ca_cons (ce_tup (ca_cons (sv C (by kernel_rfl)) (ca_cons (sv C (by kernel_rfl)) ca_nil))) ca_nil)))) cs_nil))) (cs_one (cs_for hp C.calm (ci_range (C.glb (by kernel_rfl)) (C.free T.b_range) (ca_cons (sv C (by kernel_rfl)) ca_nil)) (pgn C (by kernel_rfl)) (tg1 9) (cs_one (cs_expr (ce_meth C (ma_tell_ways_3 T L) run0 T.no_tell_ways (sv C (by kernel_rfl)) (ca_cons (sv C (by kernel_rfl)) (ca_cons (sv C (by kernel_rfl)) (ca_cons (sv C (by kernel_rfl)) ca_nil))) (lenA_cons (lenA_cons (lenA_cons lenA_nil)))))))))))) (cs_one (cs_ret (ce_make (fns := Ev.fns) (f := 116) (kc := 2) (init := 29) (np := 4) (pre := true) (frz := true) rfl C (fun j hj => (L2 j hj).d 29 5 rfl) T.k2.1 T.k2.2 (C.glb (by kernel_rfl)) T.c2 (ca_cons (sv C (by kernel_rfl)) (ca_cons (ce_len C.K (C.glb (by kernel_rfl)) (C.free T.b_len) (ca_cons (ce_attr C.K T.cls (by decide) T.a39 (sv C (by kernel_rfl))) ca_nil)) (ca_cons (sv C (by kernel_rfl)) (ca_cons (sv C (by kernel_rfl)) ca_nil)))) (lenA_cons (lenA_cons (lenA_cons (lenA_cons lenA_nil)))) (C.ndb (by kernel_rfl)))))))))
theorem d_92 (T : Fx g A) (L : Lv g A k) (L2 : ∀ j, k = j + 1 → Lv g A j) (C : Ctx g X nm_92 (defScope st_92) (fun _ => true) k) (hp : PassesOwn (model X.prog X.w) X.A X.env X.xe) : PSs X (defBody st_92) (tS g.c (Ev.run Ev.fns k) Ev.b_Builder_tell_ways) :=
  (cs_cons (ssw C (by kernel_rfl) (ce_get C.u1 (ce_attr C.K T.cls (by decide) T.a24 (sv C (by kernel_rfl))) (ce_tup (ca_cons (sv C (by kernel_rfl)) (ca_cons (sv C (by kernel_rfl)) ca_nil))) ⟨rfl, rfl, rfl, rfl⟩)) (cs_cons (cs_if (ce_isN (sv C (by kernel_rfl))).2 (cs_one (ssw C (by kernel_rfl) (ce_attr C.K T.cls (by decide) T.a24 (ce_idx C.K C.u1 (ce_meth C (ma_options_2 T L) run0 T.no_options (ce_attr C.K T.cls (by decide) T.a34 (sv C (by kernel_rfl))) (ca_cons (ce_idx C.K C.u1 (ce_attr C.K T.cls (by decide) T.a39 (sv C (by kernel_rfl))) (sv C (by kernel_rfl))) (ca_cons (ce_idx C.K C.u1 (ce_attr C.K T.cls (by decide) T.a39 (sv C (by kernel_rfl))) (sv C (by kernel_rfl))) ca_nil)) (lenA_cons (lenA_cons lenA_nil))) ce_int)))) cs_nil) (cs_one (cs_for hp C.calm (ci_keys (sv C (by kernel_rfl))) (pg3 C (by kernel_rfl) (by kernel_rfl) (by kernel_rfl)) (tg3 (by decide) (by decide) (by decide)) (cs_one (cs_if (ct_tr C.K (ce_idx C.K C.u1 (sv C (by kernel_rfl)) (ce_tup (ca_cons (sv C (by kernel_rfl)) (ca_cons (sv C (by kernel_rfl)) (ca_cons (sv C (by kernel_rfl)) ca_nil)))))) (cs_one (cs_expr (ce_append C.K (ce_idx C.K C.u1 (sv C (by kernel_rfl)) (sv C (by kernel_rfl))) (ca_cons (ce_if (ce_eq (sv C (by kernel_rfl)) (ce_str T.s4.1 T.s4.2)).2 (ce_tup (ca_cons (sv C (by kernel_rfl)) (ca_cons (sv C (by kernel_rfl)) ca_nil))) (ce_tup (ca_cons (sv C (by kernel_rfl)) (ca_cons (sv C (by kernel_rfl)) ca_nil)))) ca_nil)))) cs_nil))))))
theorem d_93 (T : Fx g A) (L : Lv g A k) (L2 : ∀ j, k = j + 1 → Lv g A j) (C : Ctx g X nm_93 (defScope st_93) (fun _ => true) k) (hp : PassesOwn (model X.prog X.w) X.A X.env X.xe) : PSs X (defBody st_93) (tS g.c (Ev.run Ev.fns k) Ev.b_built) :=
  (cs_cons (ssw C (by kernel_rfl) (ce_make (fns := Ev.fns) (f := 124) (kc := 10) (init := 80) (np := 1) (pre := false) (frz := false) rfl C (fun j hj => (L2 j hj).d 80 2 rfl) T.k10.1 T.k10.2 (C.glb (by kernel_rfl)) T.c10 (ca_cons (sv C (by kernel_rfl)) ca_nil) (lenA_cons lenA_nil) (C.ndb (by kernel_rfl)))) (cs_cons (cs_expr (ce_meth0 C (ma_run_0 T L) run0 T.no_run (sv C (by kernel_rfl)))) (cs_one (cs_ret (sv C (by kernel_rfl))))))
theorem d_94 (T : Fx g A) (L : Lv g A k) (L2 : ∀ j, k = j + 1 → Lv g A j) (C : Ctx g X nm_94 (defScope st_94) (fun _ => true) k) (hp : PassesOwn (model X.prog X.w) X.A X.env X.xe) : PSs X (defBody st_94) (tS g.c (Ev.run Ev.fns k) Ev.b_Judge___init__) :=
  (cs_cons (cs_attr C.K T.cls (by decide) T.a13 (sv C (by kernel_rfl)) (sv C (by kernel_rfl))) (cs_one (cs_attr C.K T.cls (by decide) T.a41 (sv C (by kernel_rfl)) (sv C (by kernel_rfl)))))
theorem d_95 (T : Fx g A) (L : Lv g A k) (L2 : ∀ j, k = j + 1 → Lv g A j) (C : Ctx g X nm_95 (defScope st_95) (fun _ => true) k) (hp : PassesOwn (model X.prog X.w) X.A X.env X.xe) : PSs X (defBody st_95) (tS g.c (Ev.run Ev.fns k) Ev.b_Judge_alone) :=
  (cs_one (cs_ret (ce_meth C (ma_flag_4 T L) run0 T.no_flag (sv C (by kernel_rfl)) (ca_cons (sv C (by kernel_rfl)) (ca_cons (sv C (by kernel_rfl)) (ca_cons (sv C (by kernel_rfl)) (ca_cons ce_non ca_nil)))) (lenA_cons (lenA_cons (lenA_cons (lenA_cons lenA_nil)))))))
theorem d_96 (T : Fx g A) (L : Lv g A k) (L2 : ∀ j, k = j + 1 → Lv g A j) (C : Ctx g X nm_96 (defScope st_96) (fun _ => true) k) (hp : PassesOwn (model X.prog X.w) X.A X.env X.xe) : PSs X (defBody st_96) (tS g.c (Ev.run Ev.fns k) Ev.b_Judge_closed) :=
  (cs_one (cs_ret (ce_meth C (ma_flag_4 T L) run0 T.no_flag (sv C (by kernel_rfl)) (ca_cons (sv C (by kernel_rfl)) (ca_cons ce_non (ca_cons ce_non (ca_cons ce_non ca_nil)))) (lenA_cons (lenA_cons (lenA_cons (lenA_cons lenA_nil)))))))
theorem d_97 (T : Fx g A) (L : Lv g A k) (L2 : ∀ j, k = j + 1 → Lv g A j) (C : Ctx g X nm_97 (defScope st_97) (fun _ => true) k) (hp : PassesOwn (model X.prog X.w) X.A X.env X.xe) : PSs X (defBody st_97) (tS g.c (Ev.run Ev.fns k) Ev.b_Judge_flag) :=
  (cs_cons (ssw C (by kernel_rfl) (ce_attr C.K T.cls (by decide) T.a6 (sv C (by kernel_rfl)))) (cs_cons (cs_if (ce_eq (sv C (by kernel_rfl)) (ce_str T.s13.1 T.s13.2)).2 (cs_one (cs_ret (ce_not (ce_meth C (ma_flag_4 T L) run0 T.no_flag (sv C (by kernel_rfl)) (ca_cons (ce_idx C.K C.u1 (ce_attr C.K T.cls (by decide) T.a4 (sv C (by kernel_rfl))) ce_int) (ca_cons (sv C (by kernel_rfl)) (ca_cons (sv C (by kernel_rfl)) (ca_cons (sv C (by kernel_rfl)) ca_nil)))) (lenA_cons (lenA_cons (lenA_cons (lenA_cons lenA_nil)))))))) cs_nil) (cs_cons (cs_if (ce_eq (sv C (by kernel_rfl)) (ce_str T.s11.1 T.s11.2)).2 (cs_one (cs_ret (ce_and (ce_meth C (ma_flag_4 T L) run0 T.no_flag (sv C (by kernel_rfl)) (ca_cons (ce_idx C.K C.u1 (ce_attr C.K T.cls (by decide) T.a4 (sv C (by kernel_rfl))) ce_int) (ca_cons (sv C (by kernel_rfl)) (ca_cons (sv C (by kernel_rfl)) (ca_cons (sv C (by kernel_rfl)) ca_nil)))) (lenA_cons (lenA_cons (lenA_cons (lenA_cons lenA_nil))))) (ce_one (ce_meth C (ma_flag_4 T L) run0 T.no_flag (sv C (by kernel_rfl)) (ca_cons (ce_idx C.K C.u1 (ce_attr C.K T.cls (by decide) T.a4 (sv C (by kernel_rfl))) ce_int) (ca_cons (sv C (by kernel_rfl)) (ca_cons (sv C (by kernel_rfl)) (ca_cons (sv C (by kernel_rfl)) ca_nil)))) (lenA_cons (lenA_cons (lenA_cons (lenA_cons lenA_nil))))))))) cs_nil) (cs_cons (cs_if (ce_eq (sv C (by kernel_rfl)) (ce_str T.s12.1 T.s12.2)).2 (cs_one (cs_ret (ce_or (ce_meth C (ma_flag_4 T L) run0 T.no_flag (sv C (by kernel_rfl)) (ca_cons (ce_idx C.K C.u1 (ce_attr C.K T.cls (by decide) T.a4 (sv C (by kernel_rfl))) ce_int) (ca_cons (sv C (by kernel_rfl)) (ca_cons (sv C (by kernel_rfl)) (ca_cons (sv C (by kernel_rfl)) ca_nil)))) (lenA_cons (lenA_cons (lenA_cons (lenA_cons lenA_nil))))) (ce_one (ce_meth C (ma_flag_4 T L) run0 T.no_flag (sv C (by kernel_rfl)) (ca_cons (ce_idx C.K C.u1 (ce_attr C.K T.cls (by decide) T.a4 (sv C (by kernel_rfl))) ce_int) (ca_cons (sv C (by kernel_rfl)) (ca_cons (sv C (by kernel_rfl)) (ca_cons (sv C (by kernel_rfl)) ca_nil)))) (lenA_cons (lenA_cons (lenA_cons (lenA_cons lenA_nil))))))))) cs_nil) (cs_cons (cs_if (ce_eq (sv C (by kernel_rfl)) (ce_str T.s8.1 T.s8.2)).2 (cs_one (cs_ret ce_bl)) cs_nil) (cs_cons (cs_if (ce_in C.K C.u1 (sv C (by kernel_rfl)) (ce_tup (ca_cons (ce_str T.s9.1 T.s9.2) (ca_cons (ce_str T.s10.1 T.s10.2) ca_nil)))).2 (cs_one (cs_ret (ce_meth C (ma_bound_flag_3 T L) run0 T.no_bound_flag (sv C (by kernel_rfl)) (ca_cons (sv C (by kernel_rfl)) (ca_cons (sv C (by kernel_rfl)) (ca_cons (sv C (by kernel_rfl)) ca_nil))) (lenA_cons (lenA_cons (lenA_cons lenA_nil)))))) cs_nil) (cs_one (cs_ret (ce_meth C (ma_test_4 T L) run0 T.no_test (sv C (by kernel_rfl)) (ca_cons (sv C (by kernel_rfl)) (ca_cons (sv C (by kernel_rfl)) (ca_cons (sv C (by kernel_rfl)) (ca_cons (sv C (by kernel_rfl)) ca_nil)))) (lenA_cons (lenA_cons (lenA_cons (lenA_cons lenA_nil)))))))))))))
theorem d_98 (T : Fx g A) (L : Lv g A k) (L2 : ∀ j, k = j + 1 → Lv g A j) (C : Ctx g X nm_98 (defScope st_98) (fun _ => true) k) (hp : PassesOwn (model X.prog X.w) X.A X.env X.xe) : PSs X (defBody st_98) (tS g.c (Ev.run Ev.fns k) Ev.b_Judge_bound_flag) :=
  (cs_cons (cs_if (ct_not (ct_tr C.K (ce_attr C.K T.cls (by decide) T.a3 (sv C (by kernel_rfl))))) (cs_one (cs_ret (ce_idx C.K C.u1 (ce_attr C.K T.cls (by decide) T.a41 (sv C (by kernel_rfl))) (ce_attr C.K T.cls (by decide) T.a2 (sv C (by kernel_rfl)))))) cs_nil) (cs_cons (ssw C (by kernel_rfl) (ce_if (ce_eq (ce_idx C.K C.u1 (ce_attr C.K T.cls (by decide) T.a3 (sv C (by kernel_rfl))) ce_int) (ce_str T.s4.1 T.s4.2)).2 (sv C (by kernel_rfl)) (sv C (by kernel_rfl)))) (cs_one (cs_ret (ce_idx C.K C.u1 (ce_attr C.K T.cls (by decide) T.a16 (sv C (by kernel_rfl))) (ce_attr C.K T.cls (by decide) T.a2 (sv C (by kernel_rfl))))))))
theorem d_99 (T : Fx g A) (L : Lv g A k) (L2 : ∀ j, k = j + 1 → Lv g A j) (C : Ctx g X nm_99 (defScope st_99) (fun _ => true) k) (hp : PassesOwn (model X.prog X.w) X.A X.env X.xe) : PSs X (defBody st_99) (tS g.c (Ev.run Ev.fns k) Ev.b_Judge_test) :=
  (cs_cons (cs_if (ce_eq (ce_attr C.K T.cls (by decide) T.a6 (sv C (by kernel_rfl))) (ce_str T.s7.1 T.s7.2)).2 (cs_cons (ssw C (by kernel_rfl) (ce_if (ce_eq (ce_idx C.K C.u1 (ce_attr C.K T.cls (by decide) T.a5 (sv C (by kernel_rfl))) ce_int) (ce_str T.s4.1 T.s4.2)).2 (sv C (by kernel_rfl)) (sv C (by kernel_rfl)))) (cs_one (cs_ret (ce_idx C.K C.u1 (ce_attr C.K T.cls (by decide) T.a12 (sv C (by kernel_rfl))) (ce_index C.K (sPr_marks T C (ce_attr C.K T.cls (by decide) T.a13 (sv C (by kernel_rfl)))) (ca_cons (ce_idx C.K C.u1 (ce_attr C.K T.cls (by decide) T.a5 (sv C (by kernel_rfl))) ce_int) ca_nil)))))) cs_nil) (cs_cons (cs_asg (tg2 (by decide)) (ce_last2 C.K (ce_attr C.K T.cls (by decide) T.a5 (sv C (by kernel_rfl)))) (pg2 C (by kernel_rfl) (by kernel_rfl))) (cs_cons (cs_if (ce_eq (ce_attr C.K T.cls (by decide) T.a6 (sv C (by kernel_rfl))) (ce_str T.s6.1 T.s6.2)).2 (cs_one (cs_ret (ce_or (ce_eq (sv C (by kernel_rfl)) (sv C (by kernel_rfl))).1 (ce_one (ce_isN (sv C (by kernel_rfl))).1)))) cs_nil) (cs_cons (cs_if (PW.pt (ct_or (ce_eq (sv C (by kernel_rfl)) (sv C (by kernel_rfl))).2 (ct_or1 (ce_isN (sv C (by kernel_rfl))).2))) (cs_cons (ssw C (by kernel_rfl) (ce_if (ce_eq (sv C (by kernel_rfl)) (ce_str T.s4.1 T.s4.2)).2 (sv C (by kernel_rfl)) (sv C (by kernel_rfl)))) (cs_one (cs_ret (ce_idx C.K C.u1 (ce_attr C.K T.cls (by decide) T.a19 (sv C (by kernel_rfl))) (ce_index C.K (sPr_ties T C (ce_attr C.K T.cls (by decide) T.a13 (sv C (by kernel_rfl)))) (ca_cons (ce_idx C.K C.u1 (ce_attr C.K T.cls (by decide) T.a5 (sv C (by kernel_rfl))) ce_int) ca_nil)))))) cs_nil) (cs_one (cs_ret (ce_idx C.K C.u1 (sv C (by kernel_rfl)) (ce_tup (ca_cons (ce_idx C.K C.u1 (ce_attr C.K T.cls (by decide) T.a5 (sv C (by kernel_rfl))) ce_int) (ca_cons (sv C (by kernel_rfl)) (ca_cons (sv C (by kernel_rfl)) ca_nil)))))))))))
theorem d_100 (T : Fx g A) (L : Lv g A k) (L2 : ∀ j, k = j + 1 → Lv g A j) (C : Ctx g X nm_100 (defScope st_100) (fun _ => true) k) (hp : PassesOwn (model X.prog X.w) X.A X.env X.xe) : PSs X (defBody st_100) (tS g.c (Ev.run Ev.fns k) Ev.b_searches) :=
  (cs_cons (ssw C (by kernel_rfl) (ce_lst ca_nil)) (cs_cons (ssw C (by kernel_rfl) (sc1 C (L.d 16 2 rfl) T.f16 (by kernel_rfl) (ca_cons (sv C (by kernel_rfl)) (ca_cons (sv C (by kernel_rfl)) ca_nil)) (lenA_cons (lenA_cons lenA_nil)))) (cs_cons (sSetLc C (by kernel_rfl) (own := [(("node" : Str), 8)]) (tg1 8) (ci_seq C.K (sv C (by kernel_rfl))) (by kernel_rfl) (fun s0 H0 A0 c0 p0 => (pgn (C.blk s0 H0 _ c0 A0 p0) (by kernel_rfl))) (fun s0 H0 A0 c0 p0 => (cts_one (ct_tr (C.blk s0 H0 _ c0 A0 p0).K (ce_attr (C.blk s0 H0 _ c0 A0 p0).K T.cls (by decide) T.a3 (sv (C.blk s0 H0 _ c0 A0 p0) (by kernel_rfl)))))) (fun s0 H0 A0 c0 p0 => (sv (C.blk s0 H0 _ c0 A0 p0) (by kernel_rfl)))) (cs_cons (ssw C (by kernel_rfl) (ce_lst ca_nil)) (cs_cons (cs_for hp C.calm (ci_seq C.K (sc1 C (L.d 39 1 rfl) T.f39 (by kernel_rfl) (ca_cons (sv C (by kernel_rfl)) ca_nil) (lenA_cons lenA_nil))) (pgn C (by kernel_rfl)) (tg1 6) (cs_cons (ssw C (by kernel_rfl) (ce_make (fns := Ev.fns) (f := 125) (kc := 11) (init := 94) (np := 2) (pre := false) (frz := true) rfl C (fun j hj => (L2 j hj).d 94 3 rfl) T.k11.1 T.k11.2 (C.glb (by kernel_rfl)) T.c11 (ca_cons (sv C (by kernel_rfl)) (ca_cons (ce_attr C.K T.cls (by decide) T.a16 (sv C (by kernel_rfl))) ca_nil)) (lenA_cons (lenA_cons lenA_nil)) (C.ndb (by kernel_rfl)))) (cs_one (cs_if (ct_tr C.K (ce_meth C (ma_closed_1 T L) run0 T.no_closed (sv C (by kernel_rfl)) (ca_cons (sv C (by kernel_rfl)) ca_nil) (lenA_cons lenA_nil))) (cs_one (cs_expr (ce_append C.K (sv C (by kernel_rfl)) (ca_cons (ce_make (fns := Ev.fns) (f := 123) (kc := 9) (init := 75) (np := 5) (pre := false) (frz := true) rfl C (fun j hj => (L2 j hj).d 75 6 rfl) T.k9.1 T.k9.2 (C.glb (by kernel_rfl)) T.c9 (ca_cons (sv C (by kernel_rfl)) (ca_cons (sv C (by kernel_rfl)) (ca_cons (sv C (by kernel_rfl)) (ca_cons (sv C (by kernel_rfl)) (ca_cons (sv C (by kernel_rfl)) ca_nil))))) (lenA_cons (lenA_cons (lenA_cons (lenA_cons (lenA_cons lenA_nil))))) (C.ndb (by kernel_rfl))) ca_nil)))) cs_nil)))) (cs_one (cs_ret (sv C (by kernel_rfl)))))))))
theorem d_101 (T : Fx g A) (L : Lv g A k) (L2 : ∀ j, k = j + 1 → Lv g A j) (C : Ctx g X nm_101 (defScope st_101) (fun _ => true) k) (hp : PassesOwn (model X.prog X.w) X.A X.env X.xe) : PSs X (defBody st_101) (tS g.c (Ev.run Ev.fns k) Ev.b_some_world) :=
  (cs_cons (ssw C (by kernel_rfl) (sc1 C (L.d 100 2 rfl) T.f100 (by kernel_rfl) (ca_cons (sv C (by kernel_rfl)) (ca_cons (sv C (by kernel_rfl)) ca_nil)) (lenA_cons (lenA_cons lenA_nil)))) (cs_cons (cs_for hp C.calm (ci_seq C.K (sv C (by kernel_rfl))) (pgn C (by kernel_rfl)) (tg1 3) (cs_one (cs_for hp C.calm (ci_seq C.K (ce_to1 C.K (ce_meth0 C (ma_lone_plans_0 T L) run0 T.no_lone_plans (sv C (by kernel_rfl))))) (pgn C (by kernel_rfl)) (tg1 4) (cs_one (cs_ret (ce_meth0 C (ma_made_world_0 T L) run0 T.no_made_world (sc1 C (L.d 93 1 rfl) T.f93 (by kernel_rfl) (ca_cons (sv C (by kernel_rfl)) ca_nil) (lenA_cons lenA_nil)))))))) (cs_cons (cs_for hp C.calm (ci_seq C.K (sv C (by kernel_rfl))) (pgn C (by kernel_rfl)) (tg1 3) (cs_cons (ssw C (by kernel_rfl) (ce_meth0 C (ma_first_plan_0 T L) run0 T.no_first_plan (sv C (by kernel_rfl)))) (cs_one (cs_if (ce_notN (sv C (by kernel_rfl))).2 (cs_one (cs_ret (ce_meth0 C (ma_made_world_0 T L) run0 T.no_made_world (sc1 C (L.d 93 1 rfl) T.f93 (by kernel_rfl) (ca_cons (sv C (by kernel_rfl)) ca_nil) (lenA_cons lenA_nil))))) cs_nil)))) (cs_one (cs_ret ce_non)))))
theorem d_102 (T : Fx g A) (L : Lv g A k) (L2 : ∀ j, k = j + 1 → Lv g A j) (C : Ctx g X nm_102 (defScope st_102) (fun _ => true) k) (hp : PassesOwn (model X.prog X.w) X.A X.env X.xe) : PSs X (defBody st_102) (tS g.c (Ev.run Ev.fns k) Ev.b_one_without) :=
  (cs_cons (ssw C (by kernel_rfl) (ce_tup (ca_cons (ce_str T.s13.1 T.s13.2) (ca_cons (sv C (by kernel_rfl)) ca_nil)))) (cs_cons (cs_for hp C.calm (ci_seq C.K (sv C (by kernel_rfl))) (pgn C (by kernel_rfl)) (tg1 4) (cs_one (ssw C (by kernel_rfl) (ce_tup (ca_cons (ce_str T.s11.1 T.s11.2) (ca_cons (sv C (by kernel_rfl)) (ca_cons (sv C (by kernel_rfl)) ca_nil))))))) (cs_one (cs_ret (sc1 C (L.d 101 2 rfl) T.f101 (by kernel_rfl) (ca_cons (sv C (by kernel_rfl)) (ca_cons (sv C (by kernel_rfl)) ca_nil)) (lenA_cons (lenA_cons lenA_nil)))))))
theorem d_103 (T : Fx g A) (L : Lv g A k) (L2 : ∀ j, k = j + 1 → Lv g A j) (C : Ctx g X nm_103 (defScope st_103) (fun _ => true) k) (hp : PassesOwn (model X.prog X.w) X.A X.env X.xe) : PSs X (defBody st_103) (tS g.c (Ev.run Ev.fns k) Ev.b_parting) :=
  (cs_cons (cs_expr (sc1 C (L.d 34 1 rfl) T.f34 (by kernel_rfl) (ca_cons (sv C (by kernel_rfl)) ca_nil) (lenA_cons lenA_nil))) (cs_cons (cs_expr (sc1 C (L.d 14 2 rfl) T.f14 (by kernel_rfl) (ca_cons (sv C (by kernel_rfl)) (ca_cons (sv C (by kernel_rfl)) ca_nil)) (lenA_cons (lenA_cons lenA_nil)))) (cs_cons (cs_expr (sc1 C (L.d 14 2 rfl) T.f14 (by kernel_rfl) (ca_cons (sv C (by kernel_rfl)) (ca_cons (sv C (by kernel_rfl)) ca_nil)) (lenA_cons (lenA_cons lenA_nil)))) (cs_cons (ssw C (by kernel_rfl) (sc1 C (L.d 102 3 rfl) T.f102 (by kernel_rfl) (ca_cons (sv C (by kernel_rfl)) (ca_cons (ce_lstF (ca_cons (sv C (by kernel_rfl)) ca_nil)) (ca_cons (sv C (by kernel_rfl)) ca_nil))) (lenA_cons (lenA_cons (lenA_cons lenA_nil))))) (cs_cons (cs_if (ce_notN (sv C (by kernel_rfl))).2 (cs_one (cs_ret (ce_tup (ca_cons (ce_str T.s3.1 T.s3.2) (ca_cons (sv C (by kernel_rfl)) ca_nil))))) cs_nil) (cs_cons (ssw C (by kernel_rfl) (sc1 C (L.d 102 3 rfl) T.f102 (by kernel_rfl) (ca_cons (sv C (by kernel_rfl)) (ca_cons (ce_lstF (ca_cons (sv C (by kernel_rfl)) ca_nil)) (ca_cons (sv C (by kernel_rfl)) ca_nil))) (lenA_cons (lenA_cons (lenA_cons lenA_nil))))) (cs_cons (cs_if (ce_notN (sv C (by kernel_rfl))).2 (cs_one (cs_ret (ce_tup (ca_cons (ce_str T.s14.1 T.s14.2) (ca_cons (sv C (by kernel_rfl)) ca_nil))))) cs_nil) (cs_one (cs_ret ce_non)))))))))
theorem d_104 (T : Fx g A) (L : Lv g A k) (L2 : ∀ j, k = j + 1 → Lv g A j) (C : Ctx g X nm_104 (defScope st_104) (fun _ => true) k) (hp : PassesOwn (model X.prog X.w) X.A X.env X.xe) : PSs X (defBody st_104) (tS g.c (Ev.run Ev.fns k) Ev.b_check_given) :=
  (cs_cons (cs_expr (sc1 C (L.d 34 1 rfl) T.f34 (by kernel_rfl) (ca_cons (sv C (by kernel_rfl)) ca_nil) (lenA_cons lenA_nil))) (cs_cons (cs_if (PW.pt (ct_or (ct_not (ct_tr C.K (sc1 C (L.d 2 1 rfl) T.f2 (by kernel_rfl) (ca_cons (sv C (by kernel_rfl)) ca_nil) (lenA_cons lenA_nil)))) (ct_or1 (ce_gt (ce_len C.K (C.glb (by kernel_rfl)) (C.free T.b_len) (ca_cons (sv C (by kernel_rfl)) ca_nil)) (sgi C T.g_MOST_GIVEN (by kernel_rfl))).2))) (cs_one cs_nev) cs_nil) (cs_cons (cs_for hp C.calm (ci_seq C.K (sv C (by kernel_rfl))) (pgn C (by kernel_rfl)) (tg1 3) (cs_one (cs_expr (sc1 C (L.d 14 2 rfl) T.f14 (by kernel_rfl) (ca_cons (sv C (by kernel_rfl)) (ca_cons (sv C (by kernel_rfl)) ca_nil)) (lenA_cons (lenA_cons lenA_nil)))))) (cs_one (cs_expr (sc1 C (L.d 14 2 rfl) T.f14 (by kernel_rfl) (ca_cons (sv C (by kernel_rfl)) (ca_cons (sv C (by kernel_rfl)) ca_nil)) (lenA_cons (lenA_cons lenA_nil))))))))
theorem d_105 (T : Fx g A) (L : Lv g A k) (L2 : ∀ j, k = j + 1 → Lv g A j) (C : Ctx g X nm_105 (defScope st_105) (fun _ => true) k) (hp : PassesOwn (model X.prog X.w) X.A X.env X.xe) : PSs X (defBody st_105) (tS g.c (Ev.run Ev.fns k) Ev.b_follows) :=
  (cs_cons (cs_expr (sc1 C (L.d 104 3 rfl) T.f104 (by kernel_rfl) (ca_cons (sv C (by kernel_rfl)) (ca_cons (sv C (by kernel_rfl)) (ca_cons (sv C (by kernel_rfl)) ca_nil))) (lenA_cons (lenA_cons (lenA_cons lenA_nil))))) (cs_one (cs_ret (sc1 C (L.d 102 3 rfl) T.f102 (by kernel_rfl) (ca_cons (sv C (by kernel_rfl)) (ca_cons (sv C (by kernel_rfl)) (ca_cons (sv C (by kernel_rfl)) ca_nil))) (lenA_cons (lenA_cons (lenA_cons lenA_nil)))))))
theorem d_106 (T : Fx g A) (L : Lv g A k) (L2 : ∀ j, k = j + 1 → Lv g A j) (C : Ctx g X nm_106 (defScope st_106) (fun _ => true) k) (hp : PassesOwn (model X.prog X.w) X.A X.env X.xe) : PSs X (defBody st_106) (tS g.c (Ev.run Ev.fns k) Ev.b__law_pairs) :=
  (cs_cons (ssw C (by kernel_rfl) (ce_tup (ca_cons (ce_str T.s2.1 T.s2.2) (ca_cons (sv C (by kernel_rfl)) (ca_cons (ce_str T.s4.1 T.s4.2) (ca_cons (ce_str T.s5.1 T.s5.2) ca_nil)))))) (cs_cons (ssw C (by kernel_rfl) (ce_tup (ca_cons (ce_str T.s2.1 T.s2.2) (ca_cons (sv C (by kernel_rfl)) (ca_cons (ce_str T.s5.1 T.s5.2) (ca_cons (ce_str T.s4.1 T.s4.2) ca_nil)))))) (cs_cons (ssw C (by kernel_rfl) (ce_tup (ca_cons (ce_str T.s7.1 T.s7.2) (ca_cons (sv C (by kernel_rfl)) (ca_cons (ce_str T.s4.1 T.s4.2) ca_nil))))) (cs_cons (ssw C (by kernel_rfl) (ce_tup (ca_cons (ce_str T.s9.1 T.s9.2) (ca_cons (ce_str T.s4.1 T.s4.2) (ca_cons (ce_tup (ca_cons (ce_str T.s10.1 T.s10.2) (ca_cons (ce_str T.s5.1 T.s5.2) (ca_cons (sv C (by kernel_rfl)) ca_nil)))) ca_nil))))) (cs_cons (ssw C (by kernel_rfl) (ce_tup (ca_cons (ce_str T.s10.1 T.s10.2) (ca_cons (ce_str T.s5.1 T.s5.2) (ca_cons (ce_tup (ca_cons (ce_str T.s9.1 T.s9.2) (ca_cons (ce_str T.s4.1 T.s4.2) (ca_cons (sv C (by kernel_rfl)) ca_nil)))) ca_nil))))) (cs_cons (ssw C (by kernel_rfl) (ce_tup (ca_cons (ce_str T.s9.1 T.s9.2) (ca_cons (ce_str T.s4.1 T.s4.2) (ca_cons (ce_tup (ca_cons (ce_str T.s9.1 T.s9.2) (ca_cons (ce_str T.s5.1 T.s5.2) (ca_cons (sv C (by kernel_rfl)) ca_nil)))) ca_nil))))) (cs_cons (ssw C (by kernel_rfl) (ce_tup (ca_cons (ce_str T.s10.1 T.s10.2) (ca_cons (ce_str T.s4.1 T.s4.2) (ca_cons (ce_tup (ca_cons (ce_str T.s10.1 T.s10.2) (ca_cons (ce_str T.s5.1 T.s5.2) (ca_cons (sv C (by kernel_rfl)) ca_nil)))) ca_nil))))) (cs_cons (ssw C (by kernel_rfl) (ce_tup (ca_cons (ce_str T.s9.1 T.s9.2) (ca_cons (ce_str T.s4.1 T.s4.2) (ca_cons (ce_tup (ca_cons (ce_str T.s9.1 T.s9.2) (ca_cons (ce_str T.s5.1 T.s5.2) (ca_cons (ce_tup (ca_cons (ce_str T.s12.1 T.s12.2) (ca_cons (ce_tup (ca_cons (ce_str T.s13.1 T.s13.2) (ca_cons (sv C (by kernel_rfl)) ca_nil))) (ca_cons (sv C (by kernel_rfl)) ca_nil)))) ca_nil)))) ca_nil))))) (cs_cons (ssw C (by kernel_rfl) (ce_tup (ca_cons (ce_str T.s9.1 T.s9.2) (ca_cons (ce_str T.s5.1 T.s5.2) (ca_cons (ce_tup (ca_cons (ce_str T.s9.1 T.s9.2) (ca_cons (ce_str T.s4.1 T.s4.2) (ca_cons (ce_tup (ca_cons (ce_str T.s12.1 T.s12.2) (ca_cons (sv C (by kernel_rfl)) (ca_cons (ce_tup (ca_cons (ce_str T.s13.1 T.s13.2) (ca_cons (sv C (by kernel_rfl)) ca_nil))) ca_nil)))) ca_nil)))) ca_nil))))) (cs_cons (ssw C (by kernel_rfl) (ce_tup (ca_cons (ce_str T.s9.1 T.s9.2) (ca_cons (ce_str T.s4.1 T.s4.2) (ca_cons (ce_tup (ca_cons (ce_str T.s2.1 T.s2.2) (ca_cons (sv C (by kernel_rfl)) (ca_cons (ce_str T.s4.1 T.s4.2) (ca_cons (ce_str T.s4.1 T.s4.2) ca_nil))))) ca_nil))))) (cs_cons (ssw C (by kernel_rfl) (ce_lst (ca_cons (ce_tup (ca_cons (sv C (by kernel_rfl)) (ca_cons (sv C (by kernel_rfl)) (ca_cons ce_bl (ca_cons ce_bl ca_nil))))) (ca_cons (ce_tup (ca_cons (sv C (by kernel_rfl)) (ca_cons (sv C (by kernel_rfl)) (ca_cons ce_bl (ca_cons ce_bl ca_nil))))) (ca_cons (ce_tup (ca_cons (sv C (by kernel_rfl)) (ca_cons (sv C (by kernel_rfl)) (ca_cons ce_bl (ca_cons ce_bl ca_nil))))) ca_nil))))) (cs_cons (ssw C (by kernel_rfl) (ce_catM (sv C (by kernel_rfl)) (ce_lstF (ca_cons (ce_tup (ca_cons (sv C (by kernel_rfl)) (ca_cons (sv C (by kernel_rfl)) (ca_cons ce_bl (ca_cons ce_bl ca_nil))))) (ca_cons (ce_tup (ca_cons (sv C (by kernel_rfl)) (ca_cons (sv C (by kernel_rfl)) (ca_cons ce_bl (ca_cons ce_bl ca_nil))))) (ca_cons (ce_tup (ca_cons (sv C (by kernel_rfl)) (ca_cons (sv C (by kernel_rfl)) (ca_cons ce_bl (ca_cons ce_bl ca_nil))))) ca_nil)))))) (cs_cons (cs_expr (ce_append C.K (sv C (by kernel_rfl)) (ca_cons (ce_tup (ca_cons (sv C (by kernel_rfl)) (ca_cons (sv C (by kernel_rfl)) (ca_cons ce_bl (ca_cons ce_bl ca_nil))))) ca_nil))) (cs_cons (cs_expr (ce_append C.K (sv C (by kernel_rfl)) (ca_cons (ce_tup (ca_cons (ce_tup (ca_cons (ce_str T.s9.1 T.s9.2) (ca_cons (ce_str T.s4.1 T.s4.2) (ca_cons (sv C (by kernel_rfl)) ca_nil)))) (ca_cons (ce_tup (ca_cons (ce_str T.s10.1 T.s10.2) (ca_cons (ce_str T.s5.1 T.s5.2) (ca_cons (ce_tup (ca_cons (ce_str T.s7.1 T.s7.2) (ca_cons (sv C (by kernel_rfl)) (ca_cons (ce_str T.s5.1 T.s5.2) ca_nil)))) ca_nil)))) (ca_cons ce_bl (ca_cons ce_bl ca_nil))))) ca_nil))) (cs_cons (cs_expr (ce_append C.K (sv C (by kernel_rfl)) (ca_cons (ce_tup (ca_cons (ce_tup (ca_cons (ce_str T.s10.1 T.s10.2) (ca_cons (ce_str T.s4.1 T.s4.2) (ca_cons (sv C (by kernel_rfl)) ca_nil)))) (ca_cons (ce_tup (ca_cons (ce_str T.s13.1 T.s13.2) (ca_cons (ce_tup (ca_cons (ce_str T.s9.1 T.s9.2) (ca_cons (ce_str T.s5.1 T.s5.2) (ca_cons (ce_tup (ca_cons (ce_str T.s13.1 T.s13.2) (ca_cons (ce_tup (ca_cons (ce_str T.s7.1 T.s7.2) (ca_cons (sv C (by kernel_rfl)) (ca_cons (ce_str T.s5.1 T.s5.2) ca_nil)))) ca_nil))) ca_nil)))) ca_nil))) (ca_cons ce_bl (ca_cons ce_bl ca_nil))))) ca_nil))) (cs_cons (cs_expr (ce_append C.K (sv C (by kernel_rfl)) (ca_cons (ce_tup (ca_cons (sv C (by kernel_rfl)) (ca_cons (sv C (by kernel_rfl)) (ca_cons ce_bl (ca_cons ce_bl ca_nil))))) ca_nil))) (cs_one (cs_ret (sv C (by kernel_rfl))))))))))))))))))))
theorem d_107 (T : Fx g A) (L : Lv g A k) (L2 : ∀ j, k = j + 1 → Lv g A j) (C : Ctx g X nm_107 (defScope st_107) (fun _ => true) k) (hp : PassesOwn (model X.prog X.w) X.A X.env X.xe) : PSs X (defBody st_107) (tS g.c (Ev.run Ev.fns k) Ev.b__law_reads) :=
  (cs_one (cs_ret (ce_isT (sc1 C (L.d 33 2 rfl) T.f33 (by kernel_rfl) (ca_cons (sv C (by kernel_rfl)) (ca_cons (sv C (by kernel_rfl)) ca_nil)) (lenA_cons (lenA_cons lenA_nil))))))
theorem d_108 (T : Fx g A) (L : Lv g A k) (L2 : ∀ j, k = j + 1 → Lv g A j) (C : Ctx g X nm_108 (defScope st_108) (fun _ => true) k) (hp : PassesOwn (model X.prog X.w) X.A X.env X.xe) : PSs X (defBody st_108) (tS g.c (Ev.run Ev.fns k) Ev.b_is_function) :=
  cs_never
theorem d_109 (T : Fx g A) (L : Lv g A k) (L2 : ∀ j, k = j + 1 → Lv g A j) (C : Ctx g X nm_109 (defScope st_109) (fun _ => true) k) (hp : PassesOwn (model X.prog X.w) X.A X.env X.xe) : PSs X (defBody st_109) (tS g.c (Ev.run Ev.fns k) Ev.b_is_integer) :=
  (cs_one (cs_ret (ce_and (ce_isi C.K kb_int (C.glb (by kernel_rfl)) (C.free T.b_isinstance) (C.glb (by kernel_rfl)) (C.free T.b_int) (by decide +kernel) (sv C (by kernel_rfl))) (ce_one (ce_not (ce_isi C.K kb_bool (C.glb (by kernel_rfl)) (C.free T.b_isinstance) (C.glb (by kernel_rfl)) (C.free T.b_bool) (by decide +kernel) (sv C (by kernel_rfl))))))))
theorem d_111 (T : Fx g A) (L : Lv g A k) (L2 : ∀ j, k = j + 1 → Lv g A j) (C : Ctx g X nm_111 (defScope st_111) (fun _ => true) k) (hp : PassesOwn (model X.prog X.w) X.A X.env X.xe) : PSs X (defBody st_111) (tS g.c (Ev.run Ev.fns k) Ev.b_are_names) :=
  (cs_cons (cs_if (PW.pt (ct_or (ct_not (ct_tr C.K (sc1 C (L.d 2 1 rfl) T.f2 (by kernel_rfl) (ca_cons (sv C (by kernel_rfl)) ca_nil) (lenA_cons lenA_nil)))) (ct_or1 (ce_gt (ce_len C.K (C.glb (by kernel_rfl)) (C.free T.b_len) (ca_cons (sv C (by kernel_rfl)) ca_nil)) (sv C (by kernel_rfl))).2))) (cs_one (cs_ret ce_bl)) cs_nil) (cs_cons (ssw C (by kernel_rfl) ce_dctK) (cs_cons (cs_for hp C.calm (ci_seq C.K (sv C (by kernel_rfl))) (pgn C (by kernel_rfl)) (tg1 4) (cs_cons (cs_if (PW.pt (ct_or (ct_not (ct_tr C.K (sc1 C (L.d 110 1 rfl) T.f110 (by kernel_rfl) (ca_cons (sv C (by kernel_rfl)) ca_nil) (lenA_cons lenA_nil)))) (ct_or (ce_inKept C T.kept (sv C (by kernel_rfl)) (by kernel_rfl)).2 (ct_or (ce_in C.K C.u1 (sv C (by kernel_rfl)) (sv C (by kernel_rfl))).2 (ct_or1 (ce_in C.K C.u1 (sv C (by kernel_rfl)) (sv C (by kernel_rfl))).2))))) (cs_one (cs_ret ce_bl)) cs_nil) (cs_one (cs_sub C.u1 (sv C (by kernel_rfl)) (sv C (by kernel_rfl)) ce_bl)))) (cs_one (cs_ret ce_bl)))))
theorem d_112 (T : Fx g A) (L : Lv g A k) (L2 : ∀ j, k = j + 1 → Lv g A j) (C : Ctx g X nm_112 (defScope st_112) (fun _ => true) k) (hp : PassesOwn (model X.prog X.w) X.A X.env X.xe) : PSs X (defBody st_112) (tS g.c (Ev.run Ev.fns k) Ev.b_are_functions) :=
  (cs_cons (cs_if (PW.pt (ct_or (ct_not (ct_tr C.K (sc1 C (L.d 2 1 rfl) T.f2 (by kernel_rfl) (ca_cons (sv C (by kernel_rfl)) ca_nil) (lenA_cons lenA_nil)))) (ct_or1 (ce_gt (ce_len C.K (C.glb (by kernel_rfl)) (C.free T.b_len) (ca_cons (sv C (by kernel_rfl)) ca_nil)) ce_int).2))) (cs_one (cs_ret ce_bl)) cs_nil) (cs_cons (cs_for hp C.calm (ci_seq C.K (sv C (by kernel_rfl))) (pgn C (by kernel_rfl)) (tg1 2) (cs_one (cs_if (ct_not (ct_tr C.K (sc1 C (L.d 5 2 rfl) T.f5 (by kernel_rfl) (ca_cons (sv C (by kernel_rfl)) (ca_cons (sv C (by kernel_rfl)) ca_nil)) (lenA_cons (lenA_cons lenA_nil))))) (cs_one (cs_ret ce_bl)) cs_nil))) (cs_one (cs_ret ce_bl))))
end
end Sd
end

section
set_option Elab.async false
set_option linter.all false
set_option maxRecDepth 100000
set_option maxHeartbeats 0

/-! Dv4 (printed by gen2.py): derivations. -/
namespace Sd
open PySem PySem.Spec PyProof.Rows L2
open Ev (Hl Rs Rb Ra So Sr CallT)

section
variable {g : Gb} {A : Nat → Addr} {X : Cx} {k : Nat}
theorem d_113 (T : Fx g A) (L : Lv g A k) (L2 : ∀ j, k = j + 1 → Lv g A j) (C : Ctx g X nm_113 (defScope st_113) (fun _ => true) k) (hp : PassesOwn (model X.prog X.w) X.A X.env X.xe) : PSs X (defBody st_113) (tS g.c (Ev.run Ev.fns k) Ev.b_Tongue___init__) :=
  (cs_cons (cs_if (ct_not (ct_tr C.K (sc1 C (L.d 111 3 rfl) T.f111 (by kernel_rfl) (ca_cons (sv C (by kernel_rfl)) (ca_cons (sgi C T.g_MOST_MARKS (by kernel_rfl)) (ca_cons (ce_tup ca_nil) ca_nil))) (lenA_cons (lenA_cons (lenA_cons lenA_nil)))))) (cs_one cs_nev) cs_nil) (cs_cons (cs_if (ct_not (ct_tr C.K (sc1 C (L.d 111 3 rfl) T.f111 (by kernel_rfl) (ca_cons (sv C (by kernel_rfl)) (ca_cons (sgi C T.g_MOST_TIES (by kernel_rfl)) (ca_cons (sv C (by kernel_rfl)) ca_nil))) (lenA_cons (lenA_cons (lenA_cons lenA_nil)))))) (cs_one cs_nev) cs_nil) (cs_cons (cs_if (ct_not (ct_tr C.K (sc1 C (L.d 112 2 rfl) T.f112 (by kernel_rfl) (ca_cons (sv C (by kernel_rfl)) (ca_cons (ce_tuple C.K (C.glb (by kernel_rfl)) (C.free T.b_tuple) (sv C (by kernel_rfl))) ca_nil)) (lenA_cons (lenA_cons lenA_nil))))) (cs_one cs_nev) cs_nil) (cs_cons (cs_attr C.K T.cls (by decide) T.a1 (sv C (by kernel_rfl)) (ce_tuple C.K (C.glb (by kernel_rfl)) (C.free T.b_tuple) (sv C (by kernel_rfl)))) (cs_cons (cs_attr C.K T.cls (by decide) T.a0 (sv C (by kernel_rfl)) (ce_tuple C.K (C.glb (by kernel_rfl)) (C.free T.b_tuple) (sv C (by kernel_rfl)))) (cs_one (cs_attr C.K T.cls (by decide) T.a10 (sv C (by kernel_rfl)) (ce_tuple C.K (C.glb (by kernel_rfl)) (C.free T.b_tuple) (sv C (by kernel_rfl))))))))))
end
end Sd
end

section
set_option Elab.async false
set_option linter.all false
set_option maxRecDepth 100000
set_option maxHeartbeats 0

/-! Ix (printed by gen2.py): all defs at every level. -/
namespace Sd
open PySem PySem.Spec PyProof.Rows L2
open Ev (Hl Rs Rb Ra So Sr CallT)

structure Fd (g : Gb) (A : Nat → Addr) : Prop where
  f1 : ∃ fd, FunD g.c.K ("is_within" : Str) ("is_within" : Str) (defArgs st_1) (defBody st_1) (defScope st_1) [] [] (A 1) fd
  f2 : ∃ fd, FunD g.c.K ("is_sequence" : Str) ("is_sequence" : Str) (defArgs st_2) (defBody st_2) (defScope st_2) [] [] (A 2) fd
  f3 : ∃ fd, FunD g.c.K ("is_tuple" : Str) ("is_tuple" : Str) (defArgs st_3) (defBody st_3) (defScope st_3) [] [] (A 3) fd
  f4 : ∃ fd, FunD g.c.K ("is_headed" : Str) ("is_headed" : Str) (defArgs st_4) (defBody st_4) (defScope st_4) [] [] (A 4) fd
  f5 : ∃ fd, FunD g.c.K ("is_key" : Str) ("is_key" : Str) (defArgs st_5) (defBody st_5) (defScope st_5) [] [] (A 5) fd
  f6 : ∃ fd, FunD g.c.K ("is_name" : Str) ("is_name" : Str) (defArgs st_6) (defBody st_6) (defScope st_6) [] [] (A 6) fd
  f7 : ∃ fd, FunD g.c.K ("is_test" : Str) ("is_test" : Str) (defArgs st_7) (defBody st_7) (defScope st_7) [] [] (A 7) fd
  f8 : ∃ fd, FunD g.c.K ("parts_of" : Str) ("parts_of" : Str) (defArgs st_8) (defBody st_8) (defScope st_8) [] [] (A 8) fd
  f9 : ∃ fd, FunD g.c.K ("is_saying" : Str) ("is_saying" : Str) (defArgs st_9) (defBody st_9) (defScope st_9) [] [] (A 9) fd
  f10 : ∃ fd, FunD g.c.K ("sayings_in" : Str) ("sayings_in" : Str) (defArgs st_10) (defBody st_10) (defScope st_10) [] [] (A 10) fd
  f11 : ∃ fd, FunD g.c.K ("own_names" : Str) ("own_names" : Str) (defArgs st_11) (defBody st_11) (defScope st_11) [] [] (A 11) fd
  f12 : ∃ fd, FunD g.c.K ("free_names" : Str) ("free_names" : Str) (defArgs st_12) (defBody st_12) (defScope st_12) [] [] (A 12) fd
  f13 : ∃ fd, FunD g.c.K ("check_saying" : Str) ("check_saying" : Str) (defArgs st_13) (defBody st_13) (defScope st_13) [] [] (A 13) fd
  f14 : ∃ fd, FunD g.c.K ("check_closed" : Str) ("check_closed" : Str) (defArgs st_14) (defBody st_14) (defScope st_14) [] [] (A 14) fd
  f15 : ∃ fd, FunD g.c.K ("__init__" : Str) ("Node.__init__" : Str) (defArgs st_15) (defBody st_15) (defScope st_15) [] [] (A 15) fd
  f16 : ∃ fd, FunD g.c.K ("node_of" : Str) ("node_of" : Str) (defArgs st_16) (defBody st_16) (defScope st_16) [] [] (A 16) fd
  f17 : ∃ fd, FunD g.c.K ("__init__" : Str) ("Reading.__init__" : Str) (defArgs st_17) (defBody st_17) (defScope st_17) [] [] (A 17) fd
  f18 : ∃ fd, FunD g.c.K ("flag" : Str) ("Reading.flag" : Str) (defArgs st_18) (defBody st_18) (defScope st_18) [] [] (A 18) fd
  f19 : ∃ fd, FunD g.c.K ("test" : Str) ("Reading.test" : Str) (defArgs st_19) (defBody st_19) (defScope st_19) [] [] (A 19) fd
  f20 : ∃ fd, FunD g.c.K ("bound_flag" : Str) ("Reading.bound_flag" : Str) (defArgs st_20) (defBody st_20) (defScope st_20) [] [] (A 20) fd
  f21 : ∃ fd, FunD g.c.K ("searched" : Str) ("Reading.searched" : Str) (defArgs st_21) (defBody st_21) (defScope st_21) [] [] (A 21) fd
  f22 : ∃ fd, FunD g.c.K ("is_thing" : Str) ("is_thing" : Str) (defArgs st_22) (defBody st_22) (defScope st_22) [] [] (A 22) fd
  f23 : ∃ fd, FunD g.c.K ("is_pair" : Str) ("is_pair" : Str) (defArgs st_23) (defBody st_23) (defScope st_23) [] [] (A 23) fd
  f24 : ∃ fd, FunD g.c.K ("is_dict_of" : Str) ("is_dict_of" : Str) (defArgs st_24) (defBody st_24) (defScope st_24) [] [] (A 24) fd
  f25 : ∃ fd, FunD g.c.K ("are_things" : Str) ("are_things" : Str) (defArgs st_25) (defBody st_25) (defScope st_25) [] [] (A 25) fd
  f26 : ∃ fd, FunD g.c.K ("are_pairs" : Str) ("are_pairs" : Str) (defArgs st_26) (defBody st_26) (defScope st_26) [] [] (A 26) fd
  f27 : ∃ fd, FunD g.c.K ("check_marks" : Str) ("check_marks" : Str) (defArgs st_27) (defBody st_27) (defScope st_27) [] [] (A 27) fd
  f28 : ∃ fd, FunD g.c.K ("check_ties" : Str) ("check_ties" : Str) (defArgs st_28) (defBody st_28) (defScope st_28) [] [] (A 28) fd
  f29 : ∃ fd, FunD g.c.K ("__init__" : Str) ("World.__init__" : Str) (defArgs st_29) (defBody st_29) (defScope st_29) [] [] (A 29) fd
  f30 : ∃ fd, FunD g.c.K ("has" : Str) ("World.has" : Str) (defArgs st_30) (defBody st_30) (defScope st_30) [] [] (A 30) fd
  f31 : ∃ fd, FunD g.c.K ("leads" : Str) ("World.leads" : Str) (defArgs st_31) (defBody st_31) (defScope st_31) [] [] (A 31) fd
  f32 : ∃ fd, FunD g.c.K ("is_held" : Str) ("is_held" : Str) (defArgs st_32) (defBody st_32) (defScope st_32) [] [] (A 32) fd
  f33 : ∃ fd, FunD g.c.K ("holds" : Str) ("holds" : Str) (defArgs st_33) (defBody st_33) (defScope st_33) [] [] (A 33) fd
  f34 : ∃ fd, FunD g.c.K ("check_plain" : Str) ("check_plain" : Str) (defArgs st_34) (defBody st_34) (defScope st_34) [] [] (A 34) fd
  f35 : ∃ fd, FunD g.c.K ("cliques" : Str) ("cliques" : Str) (defArgs st_35) (defBody st_35) (defScope st_35) [] [] (A 35) fd
  f36 : ∃ fd, FunD g.c.K ("grow" : Str) ("grow" : Str) (defArgs st_36) (defBody st_36) (defScope st_36) [] [] (A 36) fd
  f37 : ∃ fd, FunD g.c.K ("__init__" : Str) ("Case.__init__" : Str) (defArgs st_37) (defBody st_37) (defScope st_37) [] [] (A 37) fd
  f38 : ∃ fd, FunD g.c.K ("more" : Str) ("Case.more" : Str) (defArgs st_38) (defBody st_38) (defScope st_38) [] [] (A 38) fd
  f39 : ∃ fd, FunD g.c.K ("plain_cases" : Str) ("plain_cases" : Str) (defArgs st_39) (defBody st_39) (defScope st_39) [] [] (A 39) fd
  f40 : ∃ fd, FunD g.c.K ("meets" : Str) ("meets" : Str) (defArgs st_40) (defBody st_40) (defScope st_40) [] [] (A 40) fd
  f41 : ∃ fd, FunD g.c.K ("__init__" : Str) ("Kind.__init__" : Str) (defArgs st_41) (defBody st_41) (defScope st_41) [] [] (A 41) fd
  f42 : ∃ fd, FunD g.c.K ("with_part" : Str) ("Kind.with_part" : Str) (defArgs st_42) (defBody st_42) (defScope st_42) [] [] (A 42) fd
  f43 : ∃ fd, FunD g.c.K ("rows_of_flags" : Str) ("rows_of_flags" : Str) (defArgs st_43) (defBody st_43) (defScope st_43) [] [] (A 43) fd
  f44 : ∃ fd, FunD g.c.K ("plain_kinds" : Str) ("plain_kinds" : Str) (defArgs st_44) (defBody st_44) (defScope st_44) [] [] (A 44) fd
  f45 : ∃ fd, FunD g.c.K ("is_let" : Str) ("is_let" : Str) (defArgs st_45) (defBody st_45) (defScope st_45) [] [] (A 45) fd
  f46 : ∃ fd, FunD g.c.K ("__init__" : Str) ("Way.__init__" : Str) (defArgs st_46) (defBody st_46) (defScope st_46) [] [] (A 46) fd
  f47 : ∃ fd, FunD g.c.K ("both_ways" : Str) ("both_ways" : Str) (defArgs st_47) (defBody st_47) (defScope st_47) [] [] (A 47) fd
  f48 : ∃ fd, FunD g.c.K ("turned_ways" : Str) ("turned_ways" : Str) (defArgs st_48) (defBody st_48) (defScope st_48) [] [] (A 48) fd
  f49 : ∃ fd, FunD g.c.K ("meets_bars" : Str) ("meets_bars" : Str) (defArgs st_49) (defBody st_49) (defScope st_49) [] [] (A 49) fd
  f50 : ∃ fd, FunD g.c.K ("meets_shut" : Str) ("meets_shut" : Str) (defArgs st_50) (defBody st_50) (defScope st_50) [] [] (A 50) fd
  f51 : ∃ fd, FunD g.c.K ("are_let" : Str) ("are_let" : Str) (defArgs st_51) (defBody st_51) (defScope st_51) [] [] (A 51) fd
  f52 : ∃ fd, FunD g.c.K ("sort_list" : Str) ("sort_list" : Str) (defArgs st_52) (defBody st_52) (defScope st_52) [] [] (A 52) fd
  f53 : ∃ fd, FunD g.c.K ("bit_list" : Str) ("bit_list" : Str) (defArgs st_53) (defBody st_53) (defScope st_53) [] [] (A 53) fd
  f54 : ∃ fd, FunD g.c.K ("__init__" : Str) ("Option.__init__" : Str) (defArgs st_54) (defBody st_54) (defScope st_54) [] [] (A 54) fd
  f55 : ∃ fd, FunD g.c.K ("turned" : Str) ("Option.turned" : Str) (defArgs st_55) (defBody st_55) (defScope st_55) [] [] (A 55) fd
  f56 : ∃ fd, FunD g.c.K ("__init__" : Str) ("Sorts.__init__" : Str) (defArgs st_56) (defBody st_56) (defScope st_56) [] [] (A 56) fd
  f57 : ∃ fd, FunD g.c.K ("own_wishes" : Str) ("Sorts.own_wishes" : Str) (defArgs st_57) (defBody st_57) (defScope st_57) [] [] (A 57) fd
  f58 : ∃ fd, FunD g.c.K ("met" : Str) ("Sorts.met" : Str) (defArgs st_58) (defBody st_58) (defScope st_58) [] [] (A 58) fd
  f59 : ∃ fd, FunD g.c.K ("options" : Str) ("Sorts.options" : Str) (defArgs st_59) (defBody st_59) (defScope st_59) [] [] (A 59) fd
  f60 : ∃ fd, FunD g.c.K ("is_less" : Str) ("is_less" : Str) (defArgs st_60) (defBody st_60) (defScope st_60) [] [] (A 60) fd
  f61 : ∃ fd, FunD g.c.K ("best_options" : Str) ("best_options" : Str) (defArgs st_61) (defBody st_61) (defScope st_61) [] [] (A 61) fd
  f62 : ∃ fd, FunD g.c.K ("__init__" : Str) ("Plan.__init__" : Str) (defArgs st_62) (defBody st_62) (defScope st_62) [] [] (A 62) fd
  f63 : ∃ fd, FunD g.c.K ("common_wishes" : Str) ("common_wishes" : Str) (defArgs st_63) (defBody st_63) (defScope st_63) [] [] (A 63) fd
  f64 : ∃ fd, FunD g.c.K ("covers" : Str) ("covers" : Str) (defArgs st_64) (defBody st_64) (defScope st_64) [] [] (A 64) fd
  f65 : ∃ fd, FunD g.c.K ("left_wishes" : Str) ("left_wishes" : Str) (defArgs st_65) (defBody st_65) (defScope st_65) [] [] (A 65) fd
  f66 : ∃ fd, FunD g.c.K ("lasting" : Str) ("lasting" : Str) (defArgs st_66) (defBody st_66) (defScope st_66) [] [] (A 66) fd
  f67 : ∃ fd, FunD g.c.K ("court_option" : Str) ("court_option" : Str) (defArgs st_67) (defBody st_67) (defScope st_67) [] [] (A 67) fd
  f68 : ∃ fd, FunD g.c.K ("court_wishes" : Str) ("court_wishes" : Str) (defArgs st_68) (defBody st_68) (defScope st_68) [] [] (A 68) fd
  f69 : ∃ fd, FunD g.c.K ("chosen_ways" : Str) ("chosen_ways" : Str) (defArgs st_69) (defBody st_69) (defScope st_69) [] [] (A 69) fd
  f70 : ∃ fd, FunD g.c.K ("chosen_from" : Str) ("chosen_from" : Str) (defArgs st_70) (defBody st_70) (defScope st_70) [] [] (A 70) fd
  f71 : ∃ fd, FunD g.c.K ("has_all" : Str) ("has_all" : Str) (defArgs st_71) (defBody st_71) (defScope st_71) [] [] (A 71) fd
  f72 : ∃ fd, FunD g.c.K ("plan_with" : Str) ("plan_with" : Str) (defArgs st_72) (defBody st_72) (defScope st_72) [] [] (A 72) fd
  f73 : ∃ fd, FunD g.c.K ("is_let_pair" : Str) ("is_let_pair" : Str) (defArgs st_73) (defBody st_73) (defScope st_73) [] [] (A 73) fd
  f74 : ∃ fd, FunD g.c.K ("king_lots" : Str) ("king_lots" : Str) (defArgs st_74) (defBody st_74) (defScope st_74) [] [] (A 74) fd
  f75 : ∃ fd, FunD g.c.K ("__init__" : Str) ("Search.__init__" : Str) (defArgs st_75) (defBody st_75) (defScope st_75) [] [] (A 75) fd
  f76 : ∃ fd, FunD g.c.K ("sorts_with" : Str) ("Search.sorts_with" : Str) (defArgs st_76) (defBody st_76) (defScope st_76) [] [] (A 76) fd
  f77 : ∃ fd, FunD g.c.K ("first_plan" : Str) ("Search.first_plan" : Str) (defArgs st_77) (defBody st_77) (defScope st_77) [] [] (A 77) fd
  f78 : ∃ fd, FunD g.c.K ("smaller" : Str) ("Search.smaller" : Str) (defArgs st_78) (defBody st_78) (defScope st_78) [] [] (A 78) fd
  f79 : ∃ fd, FunD g.c.K ("lone_plans" : Str) ("Search.lone_plans" : Str) (defArgs st_79) (defBody st_79) (defScope st_79) [] [] (A 79) fd
  f80 : ∃ fd, FunD g.c.K ("__init__" : Str) ("Builder.__init__" : Str) (defArgs st_80) (defBody st_80) (defScope st_80) [] [] (A 80) fd
  f81 : ∃ fd, FunD g.c.K ("put" : Str) ("Builder.put" : Str) (defArgs st_81) (defBody st_81) (defScope st_81) [] [] (A 81) fd
  f82 : ∃ fd, FunD g.c.K ("link" : Str) ("Builder.link" : Str) (defArgs st_82) (defBody st_82) (defScope st_82) [] [] (A 82) fd
  f83 : ∃ fd, FunD g.c.K ("put_kings" : Str) ("Builder.put_kings" : Str) (defArgs st_83) (defBody st_83) (defScope st_83) [] [] (A 83) fd
  f84 : ∃ fd, FunD g.c.K ("put_common" : Str) ("Builder.put_common" : Str) (defArgs st_84) (defBody st_84) (defScope st_84) [] [] (A 84) fd
  f85 : ∃ fd, FunD g.c.K ("put_courts" : Str) ("Builder.put_courts" : Str) (defArgs st_85) (defBody st_85) (defScope st_85) [] [] (A 85) fd
  f86 : ∃ fd, FunD g.c.K ("king_left" : Str) ("Builder.king_left" : Str) (defArgs st_86) (defBody st_86) (defScope st_86) [] [] (A 86) fd
  f87 : ∃ fd, FunD g.c.K ("put_groups" : Str) ("Builder.put_groups" : Str) (defArgs st_87) (defBody st_87) (defScope st_87) [] [] (A 87) fd
  f88 : ∃ fd, FunD g.c.K ("meet" : Str) ("Builder.meet" : Str) (defArgs st_88) (defBody st_88) (defScope st_88) [] [] (A 88) fd
  f89 : ∃ fd, FunD g.c.K ("helper" : Str) ("Builder.helper" : Str) (defArgs st_89) (defBody st_89) (defScope st_89) [] [] (A 89) fd
  f90 : ∃ fd, FunD g.c.K ("run" : Str) ("Builder.run" : Str) (defArgs st_90) (defBody st_90) (defScope st_90) [] [] (A 90) fd
  f91 : ∃ fd, FunD g.c.K ("made_world" : Str) ("Builder.made_world" : Str) (defArgs st_91) (defBody st_91) (defScope st_91) [] [] (A 91) fd
  f92 : ∃ fd, FunD g.c.K ("tell_ways" : Str) ("Builder.tell_ways" : Str) (defArgs st_92) (defBody st_92) (defScope st_92) [] [] (A 92) fd
  f93 : ∃ fd, FunD g.c.K ("built" : Str) ("built" : Str) (defArgs st_93) (defBody st_93) (defScope st_93) [] [] (A 93) fd
  f94 : ∃ fd, FunD g.c.K ("__init__" : Str) ("Judge.__init__" : Str) (defArgs st_94) (defBody st_94) (defScope st_94) [] [] (A 94) fd
  f95 : ∃ fd, FunD g.c.K ("alone" : Str) ("Judge.alone" : Str) (defArgs st_95) (defBody st_95) (defScope st_95) [] [] (A 95) fd
  f96 : ∃ fd, FunD g.c.K ("closed" : Str) ("Judge.closed" : Str) (defArgs st_96) (defBody st_96) (defScope st_96) [] [] (A 96) fd
  f97 : ∃ fd, FunD g.c.K ("flag" : Str) ("Judge.flag" : Str) (defArgs st_97) (defBody st_97) (defScope st_97) [] [] (A 97) fd
  f98 : ∃ fd, FunD g.c.K ("bound_flag" : Str) ("Judge.bound_flag" : Str) (defArgs st_98) (defBody st_98) (defScope st_98) [] [] (A 98) fd
  f99 : ∃ fd, FunD g.c.K ("test" : Str) ("Judge.test" : Str) (defArgs st_99) (defBody st_99) (defScope st_99) [] [] (A 99) fd
  f100 : ∃ fd, FunD g.c.K ("searches" : Str) ("searches" : Str) (defArgs st_100) (defBody st_100) (defScope st_100) [] [] (A 100) fd
  f101 : ∃ fd, FunD g.c.K ("some_world" : Str) ("some_world" : Str) (defArgs st_101) (defBody st_101) (defScope st_101) [] [] (A 101) fd
  f102 : ∃ fd, FunD g.c.K ("one_without" : Str) ("one_without" : Str) (defArgs st_102) (defBody st_102) (defScope st_102) [] [] (A 102) fd
  f103 : ∃ fd, FunD g.c.K ("parting" : Str) ("parting" : Str) (defArgs st_103) (defBody st_103) (defScope st_103) [] [] (A 103) fd
  f104 : ∃ fd, FunD g.c.K ("check_given" : Str) ("check_given" : Str) (defArgs st_104) (defBody st_104) (defScope st_104) [] [] (A 104) fd
  f105 : ∃ fd, FunD g.c.K ("follows" : Str) ("follows" : Str) (defArgs st_105) (defBody st_105) (defScope st_105) [] [] (A 105) fd
  f106 : ∃ fd, FunD g.c.K ("_law_pairs" : Str) ("_law_pairs" : Str) (defArgs st_106) (defBody st_106) (defScope st_106) [] [] (A 106) fd
  f107 : ∃ fd, FunD g.c.K ("_law_reads" : Str) ("_law_reads" : Str) (defArgs st_107) (defBody st_107) (defScope st_107) [] [] (A 107) fd
  f108 : ∃ fd, FunD g.c.K ("is_function" : Str) ("is_function" : Str) (defArgs st_108) (defBody st_108) (defScope st_108) [] [] (A 108) fd
  f109 : ∃ fd, FunD g.c.K ("is_integer" : Str) ("is_integer" : Str) (defArgs st_109) (defBody st_109) (defScope st_109) [] [] (A 109) fd
  f110 : ∃ fd, FunD g.c.K ("is_word" : Str) ("is_word" : Str) (defArgs st_110) (defBody st_110) (defScope st_110) [] [] (A 110) fd
  f111 : ∃ fd, FunD g.c.K ("are_names" : Str) ("are_names" : Str) (defArgs st_111) (defBody st_111) (defScope st_111) [] [] (A 111) fd
  f112 : ∃ fd, FunD g.c.K ("are_functions" : Str) ("are_functions" : Str) (defArgs st_112) (defBody st_112) (defScope st_112) [] [] (A 112) fd
  f113 : ∃ fd, FunD g.c.K ("__init__" : Str) ("Tongue.__init__" : Str) (defArgs st_113) (defBody st_113) (defScope st_113) [] [] (A 113) fd
section
variable {g : Gb} {A : Nat → Addr}
theorem lv_0 {x qual : Str} {st : Stmt} {N ps : List Str} {fa : Addr} {np i : Nat} (F : ∃ fd, FunD g.c.K x qual (defArgs st) (defBody st) (defScope st) [] [] fa fd) (S : FnScope N ps (defScope st)) (hps : ps.length = np)
    (B : ∀ fd, FunD g.c.K x qual (defArgs st) (defBody st) (defScope st) [] [] fa fd → Binds g.c.K fd ps []) : DefAt g (Ev.run Ev.fns 0 i) 2 np fa :=
  let ⟨fd, F⟩ := F
  ⟨⟨fd, ps, def_none F S hps, B fd F⟩, F.kp⟩
theorem lv_s {x qual : Str} {st : Stmt} {N ps : List Str} {fa : Addr} {np i j m k : Nat} {b : Ev.S} (F : ∃ fd, FunD g.c.K x qual (defArgs st) (defBody st) (defScope st) [] [] fa fd) (S : FnScope N ps (defScope st)) (hps : ps.length = np)
    (B : ∀ fd, FunD g.c.K x qual (defArgs st) (defBody st) (defScope st) [] [] fa fd → Binds g.c.K fd ps []) (hN : N.length = np + j) (hfn : Ev.fns i = .fn (List.replicate j .un) m b)
    (hb : ∀ X : Cx, Ctx g X N (defScope st) (fun _ => true) k → PassesOwn (model X.prog X.w) X.A X.env X.xe → PSs X (defBody st) (tS g.c (Ev.run Ev.fns k) b)) : DefAt g (Ev.run Ev.fns (k + 1) i) (k + 3) np fa :=
  let ⟨fd, F⟩ := F
  ⟨⟨fd, ps, def_ok F S hps hN hfn fun X C _ hp => hb X C hp, B fd F⟩, F.kp⟩

theorem sc_1 : FnScope nm_1 ["value", "least", "most"] (defScope st_1) := ⟨rfl, rfl, rfl, by decide +kernel, rfl, by decide +kernel, by decide +kernel⟩
theorem bn_1 {K : PySem.W.Frag} {x qual : Str} {fa : Addr} (fd : FuncData) (F : FunD K x qual (defArgs st_1) (defBody st_1) (defScope st_1) [] [] fa fd) : Binds K fd ["value", "least", "most"] [] := F.bindsN fun _ _ _ _ _ _ us hl => match us, hl with | [_, _, _], _ => rfl
theorem sc_2 : FnScope nm_2 ["value"] (defScope st_2) := ⟨rfl, rfl, rfl, by decide +kernel, rfl, by decide +kernel, by decide +kernel⟩
theorem bn_2 {K : PySem.W.Frag} {x qual : Str} {fa : Addr} (fd : FuncData) (F : FunD K x qual (defArgs st_2) (defBody st_2) (defScope st_2) [] [] fa fd) : Binds K fd ["value"] [] := F.bindsN fun _ _ _ _ _ _ us hl => match us, hl with | [_], _ => rfl
theorem sc_3 : FnScope nm_3 ["value", "size"] (defScope st_3) := ⟨rfl, rfl, rfl, by decide +kernel, rfl, by decide +kernel, by decide +kernel⟩
theorem bn_3 {K : PySem.W.Frag} {x qual : Str} {fa : Addr} (fd : FuncData) (F : FunD K x qual (defArgs st_3) (defBody st_3) (defScope st_3) [] [] fa fd) : Binds K fd ["value", "size"] [] := F.bindsN fun _ _ _ _ _ _ us hl => match us, hl with | [_, _], _ => rfl
theorem sc_4 : FnScope nm_4 ["value", "word", "size"] (defScope st_4) := ⟨rfl, rfl, rfl, by decide +kernel, rfl, by decide +kernel, by decide +kernel⟩
theorem bn_4 {K : PySem.W.Frag} {x qual : Str} {fa : Addr} (fd : FuncData) (F : FunD K x qual (defArgs st_4) (defBody st_4) (defScope st_4) [] [] fa fd) : Binds K fd ["value", "word", "size"] [] := F.bindsN fun _ _ _ _ _ _ us hl => match us, hl with | [_, _, _], _ => rfl
theorem sc_5 : FnScope nm_5 ["value", "table"] (defScope st_5) := ⟨rfl, rfl, rfl, by decide +kernel, rfl, by decide +kernel, by decide +kernel⟩
theorem bn_5 {K : PySem.W.Frag} {x qual : Str} {fa : Addr} (fd : FuncData) (F : FunD K x qual (defArgs st_5) (defBody st_5) (defScope st_5) [] [] fa fd) : Binds K fd ["value", "table"] [] := F.bindsN fun _ _ _ _ _ _ us hl => match us, hl with | [_, _], _ => rfl
theorem sc_6 : FnScope nm_6 ["value"] (defScope st_6) := ⟨rfl, rfl, rfl, by decide +kernel, rfl, by decide +kernel, by decide +kernel⟩
theorem bn_6 {K : PySem.W.Frag} {x qual : Str} {fa : Addr} (fd : FuncData) (F : FunD K x qual (defArgs st_6) (defBody st_6) (defScope st_6) [] [] fa fd) : Binds K fd ["value"] [] := F.bindsN fun _ _ _ _ _ _ us hl => match us, hl with | [_], _ => rfl
theorem sc_7 : FnScope nm_7 ["tongue", "value"] (defScope st_7) := ⟨rfl, rfl, rfl, by decide +kernel, rfl, by decide +kernel, by decide +kernel⟩
theorem bn_7 {K : PySem.W.Frag} {x qual : Str} {fa : Addr} (fd : FuncData) (F : FunD K x qual (defArgs st_7) (defBody st_7) (defScope st_7) [] [] fa fd) : Binds K fd ["tongue", "value"] [] := F.bindsN fun _ _ _ _ _ _ us hl => match us, hl with | [_, _], _ => rfl
theorem sc_8 : FnScope nm_8 ["tongue", "value"] (defScope st_8) := ⟨rfl, rfl, rfl, by decide +kernel, rfl, by decide +kernel, by decide +kernel⟩
theorem bn_8 {K : PySem.W.Frag} {x qual : Str} {fa : Addr} (fd : FuncData) (F : FunD K x qual (defArgs st_8) (defBody st_8) (defScope st_8) [] [] fa fd) : Binds K fd ["tongue", "value"] [] := F.bindsN fun _ _ _ _ _ _ us hl => match us, hl with | [_, _], _ => rfl
theorem sc_9 : FnScope nm_9 ["tongue", "value"] (defScope st_9) := ⟨rfl, rfl, rfl, by decide +kernel, rfl, by decide +kernel, by decide +kernel⟩
theorem bn_9 {K : PySem.W.Frag} {x qual : Str} {fa : Addr} (fd : FuncData) (F : FunD K x qual (defArgs st_9) (defBody st_9) (defScope st_9) [] [] fa fd) : Binds K fd ["tongue", "value"] [] := F.bindsN fun _ _ _ _ _ _ us hl => match us, hl with | [_, _], _ => rfl
theorem sc_10 : FnScope nm_10 ["saying"] (defScope st_10) := ⟨rfl, rfl, rfl, by decide +kernel, rfl, by decide +kernel, by decide +kernel⟩
theorem bn_10 {K : PySem.W.Frag} {x qual : Str} {fa : Addr} (fd : FuncData) (F : FunD K x qual (defArgs st_10) (defBody st_10) (defScope st_10) [] [] fa fd) : Binds K fd ["saying"] [] := F.bindsN fun _ _ _ _ _ _ us hl => match us, hl with | [_], _ => rfl
theorem sc_11 : FnScope nm_11 ["saying"] (defScope st_11) := ⟨rfl, rfl, rfl, by decide +kernel, rfl, by decide +kernel, by decide +kernel⟩
theorem bn_11 {K : PySem.W.Frag} {x qual : Str} {fa : Addr} (fd : FuncData) (F : FunD K x qual (defArgs st_11) (defBody st_11) (defScope st_11) [] [] fa fd) : Binds K fd ["saying"] [] := F.bindsN fun _ _ _ _ _ _ us hl => match us, hl with | [_], _ => rfl
theorem sc_12 : FnScope nm_12 ["saying"] (defScope st_12) := ⟨rfl, rfl, rfl, by decide +kernel, rfl, by decide +kernel, by decide +kernel⟩
theorem bn_12 {K : PySem.W.Frag} {x qual : Str} {fa : Addr} (fd : FuncData) (F : FunD K x qual (defArgs st_12) (defBody st_12) (defScope st_12) [] [] fa fd) : Binds K fd ["saying"] [] := F.bindsN fun _ _ _ _ _ _ us hl => match us, hl with | [_], _ => rfl
theorem sc_13 : FnScope nm_13 ["tongue", "saying"] (defScope st_13) := ⟨rfl, rfl, rfl, by decide +kernel, rfl, by decide +kernel, by decide +kernel⟩
theorem bn_13 {K : PySem.W.Frag} {x qual : Str} {fa : Addr} (fd : FuncData) (F : FunD K x qual (defArgs st_13) (defBody st_13) (defScope st_13) [] [] fa fd) : Binds K fd ["tongue", "saying"] [] := F.bindsN fun _ _ _ _ _ _ us hl => match us, hl with | [_, _], _ => rfl
theorem sc_14 : FnScope nm_14 ["tongue", "saying"] (defScope st_14) := ⟨rfl, rfl, rfl, by decide +kernel, rfl, by decide +kernel, by decide +kernel⟩
theorem bn_14 {K : PySem.W.Frag} {x qual : Str} {fa : Addr} (fd : FuncData) (F : FunD K x qual (defArgs st_14) (defBody st_14) (defScope st_14) [] [] fa fd) : Binds K fd ["tongue", "saying"] [] := F.bindsN fun _ _ _ _ _ _ us hl => match us, hl with | [_, _], _ => rfl
theorem sc_15 : FnScope nm_15 ["self", "saying", "parts", "number"] (defScope st_15) := ⟨rfl, rfl, rfl, by decide +kernel, rfl, by decide +kernel, by decide +kernel⟩
theorem bn_15 {K : PySem.W.Frag} {x qual : Str} {fa : Addr} (fd : FuncData) (F : FunD K x qual (defArgs st_15) (defBody st_15) (defScope st_15) [] [] fa fd) : Binds K fd ["self", "saying", "parts", "number"] [] := F.bindsN fun _ _ _ _ _ _ us hl => match us, hl with | [_, _, _, _], _ => rfl
theorem sc_16 : FnScope nm_16 ["saying", "bound"] (defScope st_16) := ⟨rfl, rfl, rfl, by decide +kernel, rfl, by decide +kernel, by decide +kernel⟩
theorem bn_16 {K : PySem.W.Frag} {x qual : Str} {fa : Addr} (fd : FuncData) (F : FunD K x qual (defArgs st_16) (defBody st_16) (defScope st_16) [] [] fa fd) : Binds K fd ["saying", "bound"] [] := F.bindsN fun _ _ _ _ _ _ us hl => match us, hl with | [_, _], _ => rfl
theorem sc_17 : FnScope nm_17 ["self", "world"] (defScope st_17) := ⟨rfl, rfl, rfl, by decide +kernel, rfl, by decide +kernel, by decide +kernel⟩
theorem bn_17 {K : PySem.W.Frag} {x qual : Str} {fa : Addr} (fd : FuncData) (F : FunD K x qual (defArgs st_17) (defBody st_17) (defScope st_17) [] [] fa fd) : Binds K fd ["self", "world"] [] := F.bindsN fun _ _ _ _ _ _ us hl => match us, hl with | [_, _], _ => rfl
theorem sc_18 : FnScope nm_18 ["self", "node", "x", "y"] (defScope st_18) := ⟨rfl, rfl, rfl, by decide +kernel, rfl, by decide +kernel, by decide +kernel⟩
theorem bn_18 {K : PySem.W.Frag} {x qual : Str} {fa : Addr} (fd : FuncData) (F : FunD K x qual (defArgs st_18) (defBody st_18) (defScope st_18) [] [] fa fd) : Binds K fd ["self", "node", "x", "y"] [] := F.bindsN fun _ _ _ _ _ _ us hl => match us, hl with | [_, _, _, _], _ => rfl
theorem sc_19 : FnScope nm_19 ["self", "node", "x", "y"] (defScope st_19) := ⟨rfl, rfl, rfl, by decide +kernel, rfl, by decide +kernel, by decide +kernel⟩
theorem bn_19 {K : PySem.W.Frag} {x qual : Str} {fa : Addr} (fd : FuncData) (F : FunD K x qual (defArgs st_19) (defBody st_19) (defScope st_19) [] [] fa fd) : Binds K fd ["self", "node", "x", "y"] [] := F.bindsN fun _ _ _ _ _ _ us hl => match us, hl with | [_, _, _, _], _ => rfl
theorem sc_20 : FnScope nm_20 ["self", "node", "x", "y"] (defScope st_20) := ⟨rfl, rfl, rfl, by decide +kernel, rfl, by decide +kernel, by decide +kernel⟩
theorem bn_20 {K : PySem.W.Frag} {x qual : Str} {fa : Addr} (fd : FuncData) (F : FunD K x qual (defArgs st_20) (defBody st_20) (defScope st_20) [] [] fa fd) : Binds K fd ["self", "node", "x", "y"] [] := F.bindsN fun _ _ _ _ _ _ us hl => match us, hl with | [_, _, _, _], _ => rfl
theorem sc_21 : FnScope nm_21 ["self", "node", "x", "y"] (defScope st_21) := ⟨rfl, rfl, rfl, by decide +kernel, rfl, by decide +kernel, by decide +kernel⟩
theorem bn_21 {K : PySem.W.Frag} {x qual : Str} {fa : Addr} (fd : FuncData) (F : FunD K x qual (defArgs st_21) (defBody st_21) (defScope st_21) [] [] fa fd) : Binds K fd ["self", "node", "x", "y"] [] := F.bindsN fun _ _ _ _ _ _ us hl => match us, hl with | [_, _, _, _], _ => rfl
theorem sc_22 : FnScope nm_22 ["value", "things"] (defScope st_22) := ⟨rfl, rfl, rfl, by decide +kernel, rfl, by decide +kernel, by decide +kernel⟩
theorem bn_22 {K : PySem.W.Frag} {x qual : Str} {fa : Addr} (fd : FuncData) (F : FunD K x qual (defArgs st_22) (defBody st_22) (defScope st_22) [] [] fa fd) : Binds K fd ["value", "things"] [] := F.bindsN fun _ _ _ _ _ _ us hl => match us, hl with | [_, _], _ => rfl
theorem sc_23 : FnScope nm_23 ["value", "things"] (defScope st_23) := ⟨rfl, rfl, rfl, by decide +kernel, rfl, by decide +kernel, by decide +kernel⟩
theorem bn_23 {K : PySem.W.Frag} {x qual : Str} {fa : Addr} (fd : FuncData) (F : FunD K x qual (defArgs st_23) (defBody st_23) (defScope st_23) [] [] fa fd) : Binds K fd ["value", "things"] [] := F.bindsN fun _ _ _ _ _ _ us hl => match us, hl with | [_, _], _ => rfl
theorem sc_24 : FnScope nm_24 ["value", "names"] (defScope st_24) := ⟨rfl, rfl, rfl, by decide +kernel, rfl, by decide +kernel, by decide +kernel⟩
theorem bn_24 {K : PySem.W.Frag} {x qual : Str} {fa : Addr} (fd : FuncData) (F : FunD K x qual (defArgs st_24) (defBody st_24) (defScope st_24) [] [] fa fd) : Binds K fd ["value", "names"] [] := F.bindsN fun _ _ _ _ _ _ us hl => match us, hl with | [_, _], _ => rfl
theorem sc_25 : FnScope nm_25 ["value", "things"] (defScope st_25) := ⟨rfl, rfl, rfl, by decide +kernel, rfl, by decide +kernel, by decide +kernel⟩
theorem bn_25 {K : PySem.W.Frag} {x qual : Str} {fa : Addr} (fd : FuncData) (F : FunD K x qual (defArgs st_25) (defBody st_25) (defScope st_25) [] [] fa fd) : Binds K fd ["value", "things"] [] := F.bindsN fun _ _ _ _ _ _ us hl => match us, hl with | [_, _], _ => rfl
theorem sc_26 : FnScope nm_26 ["value", "things"] (defScope st_26) := ⟨rfl, rfl, rfl, by decide +kernel, rfl, by decide +kernel, by decide +kernel⟩
theorem bn_26 {K : PySem.W.Frag} {x qual : Str} {fa : Addr} (fd : FuncData) (F : FunD K x qual (defArgs st_26) (defBody st_26) (defScope st_26) [] [] fa fd) : Binds K fd ["value", "things"] [] := F.bindsN fun _ _ _ _ _ _ us hl => match us, hl with | [_, _], _ => rfl
theorem sc_27 : FnScope nm_27 ["tongue", "things", "marks"] (defScope st_27) := ⟨rfl, rfl, rfl, by decide +kernel, rfl, by decide +kernel, by decide +kernel⟩
theorem bn_27 {K : PySem.W.Frag} {x qual : Str} {fa : Addr} (fd : FuncData) (F : FunD K x qual (defArgs st_27) (defBody st_27) (defScope st_27) [] [] fa fd) : Binds K fd ["tongue", "things", "marks"] [] := F.bindsN fun _ _ _ _ _ _ us hl => match us, hl with | [_, _, _], _ => rfl
theorem sc_28 : FnScope nm_28 ["tongue", "things", "ties"] (defScope st_28) := ⟨rfl, rfl, rfl, by decide +kernel, rfl, by decide +kernel, by decide +kernel⟩
theorem bn_28 {K : PySem.W.Frag} {x qual : Str} {fa : Addr} (fd : FuncData) (F : FunD K x qual (defArgs st_28) (defBody st_28) (defScope st_28) [] [] fa fd) : Binds K fd ["tongue", "things", "ties"] [] := F.bindsN fun _ _ _ _ _ _ us hl => match us, hl with | [_, _, _], _ => rfl
theorem sc_29 : FnScope nm_29 ["self", "tongue", "things", "marks", "ties"] (defScope st_29) := ⟨rfl, rfl, rfl, by decide +kernel, rfl, by decide +kernel, by decide +kernel⟩
theorem bn_29 {K : PySem.W.Frag} {x qual : Str} {fa : Addr} (fd : FuncData) (F : FunD K x qual (defArgs st_29) (defBody st_29) (defScope st_29) [] [] fa fd) : Binds K fd ["self", "tongue", "things", "marks", "ties"] [] := F.bindsN fun _ _ _ _ _ _ us hl => match us, hl with | [_, _, _, _, _], _ => rfl
theorem sc_30 : FnScope nm_30 ["self", "mark", "thing"] (defScope st_30) := ⟨rfl, rfl, rfl, by decide +kernel, rfl, by decide +kernel, by decide +kernel⟩
theorem bn_30 {K : PySem.W.Frag} {x qual : Str} {fa : Addr} (fd : FuncData) (F : FunD K x qual (defArgs st_30) (defBody st_30) (defScope st_30) [] [] fa fd) : Binds K fd ["self", "mark", "thing"] [] := F.bindsN fun _ _ _ _ _ _ us hl => match us, hl with | [_, _, _], _ => rfl
theorem sc_31 : FnScope nm_31 ["self", "tie", "first", "second"] (defScope st_31) := ⟨rfl, rfl, rfl, by decide +kernel, rfl, by decide +kernel, by decide +kernel⟩
theorem bn_31 {K : PySem.W.Frag} {x qual : Str} {fa : Addr} (fd : FuncData) (F : FunD K x qual (defArgs st_31) (defBody st_31) (defScope st_31) [] [] fa fd) : Binds K fd ["self", "tie", "first", "second"] [] := F.bindsN fun _ _ _ _ _ _ us hl => match us, hl with | [_, _, _, _], _ => rfl
theorem sc_32 : FnScope nm_32 ["world", "saying"] (defScope st_32) := ⟨rfl, rfl, rfl, by decide +kernel, rfl, by decide +kernel, by decide +kernel⟩
theorem bn_32 {K : PySem.W.Frag} {x qual : Str} {fa : Addr} (fd : FuncData) (F : FunD K x qual (defArgs st_32) (defBody st_32) (defScope st_32) [] [] fa fd) : Binds K fd ["world", "saying"] [] := F.bindsN fun _ _ _ _ _ _ us hl => match us, hl with | [_, _], _ => rfl
theorem sc_33 : FnScope nm_33 ["world", "saying"] (defScope st_33) := ⟨rfl, rfl, rfl, by decide +kernel, rfl, by decide +kernel, by decide +kernel⟩
theorem bn_33 {K : PySem.W.Frag} {x qual : Str} {fa : Addr} (fd : FuncData) (F : FunD K x qual (defArgs st_33) (defBody st_33) (defScope st_33) [] [] fa fd) : Binds K fd ["world", "saying"] [] := F.bindsN fun _ _ _ _ _ _ us hl => match us, hl with | [_, _], _ => rfl
theorem sc_34 : FnScope nm_34 ["tongue"] (defScope st_34) := ⟨rfl, rfl, rfl, by decide +kernel, rfl, by decide +kernel, by decide +kernel⟩
theorem bn_34 {K : PySem.W.Frag} {x qual : Str} {fa : Addr} (fd : FuncData) (F : FunD K x qual (defArgs st_34) (defBody st_34) (defScope st_34) [] [] fa fd) : Binds K fd ["tongue"] [] := F.bindsN fun _ _ _ _ _ _ us hl => match us, hl with | [_], _ => rfl
theorem sc_35 : FnScope nm_35 ["sorts_left", "sorts"] (defScope st_35) := ⟨rfl, rfl, rfl, by decide +kernel, rfl, by decide +kernel, by decide +kernel⟩
theorem bn_35 {K : PySem.W.Frag} {x qual : Str} {fa : Addr} (fd : FuncData) (F : FunD K x qual (defArgs st_35) (defBody st_35) (defScope st_35) [] [] fa fd) : Binds K fd ["sorts_left", "sorts"] [] := F.bindsN fun _ _ _ _ _ _ us hl => match us, hl with | [_, _], _ => rfl
theorem sc_36 : FnScope nm_36 ["chosen", "left", "done", "sorts", "found"] (defScope st_36) := ⟨rfl, rfl, rfl, by decide +kernel, rfl, by decide +kernel, by decide +kernel⟩
theorem bn_36 {K : PySem.W.Frag} {x qual : Str} {fa : Addr} (fd : FuncData) (F : FunD K x qual (defArgs st_36) (defBody st_36) (defScope st_36) [] [] fa fd) : Binds K fd ["chosen", "left", "done", "sorts", "found"] [] := F.bindsN fun _ _ _ _ _ _ us hl => match us, hl with | [_, _, _, _, _], _ => rfl
theorem sc_37 : FnScope nm_37 ["self", "flags", "needs", "sign"] (defScope st_37) := ⟨rfl, rfl, rfl, by decide +kernel, rfl, by decide +kernel, by decide +kernel⟩
theorem bn_37 {K : PySem.W.Frag} {x qual : Str} {fa : Addr} (fd : FuncData) (F : FunD K x qual (defArgs st_37) (defBody st_37) (defScope st_37) [] [] fa fd) : Binds K fd ["self", "flags", "needs", "sign"] [] := F.bindsN fun _ _ _ _ _ _ us hl => match us, hl with | [_, _, _, _], _ => rfl
theorem sc_38 : FnScope nm_38 ["self", "node", "flag", "asked", "sign"] (defScope st_38) := ⟨rfl, rfl, rfl, by decide +kernel, rfl, by decide +kernel, by decide +kernel⟩
theorem bn_38 {K : PySem.W.Frag} {x qual : Str} {fa : Addr} (fd : FuncData) (F : FunD K x qual (defArgs st_38) (defBody st_38) (defScope st_38) [] [] fa fd) : Binds K fd ["self", "node", "flag", "asked", "sign"] [] := F.bindsN fun _ _ _ _ _ _ us hl => match us, hl with | [_, _, _, _, _], _ => rfl
theorem sc_39 : FnScope nm_39 ["bound"] (defScope st_39) := ⟨rfl, rfl, rfl, by decide +kernel, rfl, by decide +kernel, by decide +kernel⟩
theorem bn_39 {K : PySem.W.Frag} {x qual : Str} {fa : Addr} (fd : FuncData) (F : FunD K x qual (defArgs st_39) (defBody st_39) (defScope st_39) [] [] fa fd) : Binds K fd ["bound"] [] := F.bindsN fun _ _ _ _ _ _ us hl => match us, hl with | [_], _ => rfl
theorem sc_40 : FnScope nm_40 ["judge", "kind", "needs"] (defScope st_40) := ⟨rfl, rfl, rfl, by decide +kernel, rfl, by decide +kernel, by decide +kernel⟩
theorem bn_40 {K : PySem.W.Frag} {x qual : Str} {fa : Addr} (fd : FuncData) (F : FunD K x qual (defArgs st_40) (defBody st_40) (defScope st_40) [] [] fa fd) : Binds K fd ["judge", "kind", "needs"] [] := F.bindsN fun _ _ _ _ _ _ us hl => match us, hl with | [_, _, _], _ => rfl
theorem sc_41 : FnScope nm_41 ["self", "marks", "loops"] (defScope st_41) := ⟨rfl, rfl, rfl, by decide +kernel, rfl, by decide +kernel, by decide +kernel⟩
theorem bn_41 {K : PySem.W.Frag} {x qual : Str} {fa : Addr} (fd : FuncData) (F : FunD K x qual (defArgs st_41) (defBody st_41) (defScope st_41) [] [] fa fd) : Binds K fd ["self", "marks", "loops"] [] := F.bindsN fun _ _ _ _ _ _ us hl => match us, hl with | [_, _, _], _ => rfl
theorem sc_42 : FnScope nm_42 ["self", "number", "flag", "barred", "sign"] (defScope st_42) := ⟨rfl, rfl, rfl, by decide +kernel, rfl, by decide +kernel, by decide +kernel⟩
theorem bn_42 {K : PySem.W.Frag} {x qual : Str} {fa : Addr} (fd : FuncData) (F : FunD K x qual (defArgs st_42) (defBody st_42) (defScope st_42) [] [] fa fd) : Binds K fd ["self", "number", "flag", "barred", "sign"] [] := F.bindsN fun _ _ _ _ _ _ us hl => match us, hl with | [_, _, _, _, _], _ => rfl
theorem sc_43 : FnScope nm_43 ["many"] (defScope st_43) := ⟨rfl, rfl, rfl, by decide +kernel, rfl, by decide +kernel, by decide +kernel⟩
theorem bn_43 {K : PySem.W.Frag} {x qual : Str} {fa : Addr} (fd : FuncData) (F : FunD K x qual (defArgs st_43) (defBody st_43) (defScope st_43) [] [] fa fd) : Binds K fd ["many"] [] := F.bindsN fun _ _ _ _ _ _ us hl => match us, hl with | [_], _ => rfl
theorem sc_44 : FnScope nm_44 ["tongue"] (defScope st_44) := ⟨rfl, rfl, rfl, by decide +kernel, rfl, by decide +kernel, by decide +kernel⟩
theorem bn_44 {K : PySem.W.Frag} {x qual : Str} {fa : Addr} (fd : FuncData) (F : FunD K x qual (defArgs st_44) (defBody st_44) (defScope st_44) [] [] fa fd) : Binds K fd ["tongue"] [] := F.bindsN fun _ _ _ _ _ _ us hl => match us, hl with | [_], _ => rfl
theorem sc_45 : FnScope nm_45 ["tongue", "judge", "kind", "inner"] (defScope st_45) := ⟨rfl, rfl, rfl, by decide +kernel, rfl, by decide +kernel, by decide +kernel⟩
theorem bn_45 {K : PySem.W.Frag} {x qual : Str} {fa : Addr} (fd : FuncData) (F : FunD K x qual (defArgs st_45) (defBody st_45) (defScope st_45) [] [] fa fd) : Binds K fd ["tongue", "judge", "kind", "inner"] [] := F.bindsN fun _ _ _ _ _ _ us hl => match us, hl with | [_, _, _, _], _ => rfl
theorem sc_46 : FnScope nm_46 ["self", "forth"] (defScope st_46) := ⟨rfl, rfl, rfl, by decide +kernel, rfl, by decide +kernel, by decide +kernel⟩
theorem bn_46 {K : PySem.W.Frag} {x qual : Str} {fa : Addr} (fd : FuncData) (F : FunD K x qual (defArgs st_46) (defBody st_46) (defScope st_46) [] [] fa fd) : Binds K fd ["self", "forth"] [] := F.bindsN fun _ _ _ _ _ _ us hl => match us, hl with | [_, _], _ => rfl
theorem sc_47 : FnScope nm_47 ["tongue"] (defScope st_47) := ⟨rfl, rfl, rfl, by decide +kernel, rfl, by decide +kernel, by decide +kernel⟩
theorem bn_47 {K : PySem.W.Frag} {x qual : Str} {fa : Addr} (fd : FuncData) (F : FunD K x qual (defArgs st_47) (defBody st_47) (defScope st_47) [] [] fa fd) : Binds K fd ["tongue"] [] := F.bindsN fun _ _ _ _ _ _ us hl => match us, hl with | [_], _ => rfl
theorem sc_48 : FnScope nm_48 ["ways"] (defScope st_48) := ⟨rfl, rfl, rfl, by decide +kernel, rfl, by decide +kernel, by decide +kernel⟩
theorem bn_48 {K : PySem.W.Frag} {x qual : Str} {fa : Addr} (fd : FuncData) (F : FunD K x qual (defArgs st_48) (defBody st_48) (defScope st_48) [] [] fa fd) : Binds K fd ["ways"] [] := F.bindsN fun _ _ _ _ _ _ us hl => match us, hl with | [_], _ => rfl
theorem sc_49 : FnScope nm_49 ["judge", "inner", "one", "other", "ways", "back"] (defScope st_49) := ⟨rfl, rfl, rfl, by decide +kernel, rfl, by decide +kernel, by decide +kernel⟩
theorem bn_49 {K : PySem.W.Frag} {x qual : Str} {fa : Addr} (fd : FuncData) (F : FunD K x qual (defArgs st_49) (defBody st_49) (defScope st_49) [] [] fa fd) : Binds K fd ["judge", "inner", "one", "other", "ways", "back"] [] := F.bindsN fun _ _ _ _ _ _ us hl => match us, hl with | [_, _, _, _, _, _], _ => rfl
theorem sc_50 : FnScope nm_50 ["tongue", "one", "ways"] (defScope st_50) := ⟨rfl, rfl, rfl, by decide +kernel, rfl, by decide +kernel, by decide +kernel⟩
theorem bn_50 {K : PySem.W.Frag} {x qual : Str} {fa : Addr} (fd : FuncData) (F : FunD K x qual (defArgs st_50) (defBody st_50) (defScope st_50) [] [] fa fd) : Binds K fd ["tongue", "one", "ways"] [] := F.bindsN fun _ _ _ _ _ _ us hl => match us, hl with | [_, _, _], _ => rfl
theorem sc_51 : FnScope nm_51 ["tongue", "judge", "inner", "one", "other", "way"] (defScope st_51) := ⟨rfl, rfl, rfl, by decide +kernel, rfl, by decide +kernel, by decide +kernel⟩
theorem bn_51 {K : PySem.W.Frag} {x qual : Str} {fa : Addr} (fd : FuncData) (F : FunD K x qual (defArgs st_51) (defBody st_51) (defScope st_51) [] [] fa fd) : Binds K fd ["tongue", "judge", "inner", "one", "other", "way"] [] := F.bindsN fun _ _ _ _ _ _ us hl => match us, hl with | [_, _, _, _, _, _], _ => rfl
theorem sc_52 : FnScope nm_52 ["tongue", "judge", "inner", "needs"] (defScope st_52) := ⟨rfl, rfl, rfl, by decide +kernel, rfl, by decide +kernel, by decide +kernel⟩
theorem bn_52 {K : PySem.W.Frag} {x qual : Str} {fa : Addr} (fd : FuncData) (F : FunD K x qual (defArgs st_52) (defBody st_52) (defScope st_52) [] [] fa fd) : Binds K fd ["tongue", "judge", "inner", "needs"] [] := F.bindsN fun _ _ _ _ _ _ us hl => match us, hl with | [_, _, _, _], _ => rfl
theorem sc_53 : FnScope nm_53 ["many"] (defScope st_53) := ⟨rfl, rfl, rfl, by decide +kernel, rfl, by decide +kernel, by decide +kernel⟩
theorem bn_53 {K : PySem.W.Frag} {x qual : Str} {fa : Addr} (fd : FuncData) (F : FunD K x qual (defArgs st_53) (defBody st_53) (defScope st_53) [] [] fa fd) : Binds K fd ["many"] [] := F.bindsN fun _ _ _ _ _ _ us hl => match us, hl with | [_], _ => rfl
theorem sc_54 : FnScope nm_54 ["self", "ways", "first", "second"] (defScope st_54) := ⟨rfl, rfl, rfl, by decide +kernel, rfl, by decide +kernel, by decide +kernel⟩
theorem bn_54 {K : PySem.W.Frag} {x qual : Str} {fa : Addr} (fd : FuncData) (F : FunD K x qual (defArgs st_54) (defBody st_54) (defScope st_54) [] [] fa fd) : Binds K fd ["self", "ways", "first", "second"] [] := F.bindsN fun _ _ _ _ _ _ us hl => match us, hl with | [_, _, _, _], _ => rfl
theorem sc_55 : FnScope nm_55 ["self"] (defScope st_55) := ⟨rfl, rfl, rfl, by decide +kernel, rfl, by decide +kernel, by decide +kernel⟩
theorem bn_55 {K : PySem.W.Frag} {x qual : Str} {fa : Addr} (fd : FuncData) (F : FunD K x qual (defArgs st_55) (defBody st_55) (defScope st_55) [] [] fa fd) : Binds K fd ["self"] [] := F.bindsN fun _ _ _ _ _ _ us hl => match us, hl with | [_], _ => rfl
theorem sc_56 : FnScope nm_56 ["self", "tongue", "judge", "inner", "needs"] (defScope st_56) := ⟨rfl, rfl, rfl, by decide +kernel, rfl, by decide +kernel, by decide +kernel⟩
theorem bn_56 {K : PySem.W.Frag} {x qual : Str} {fa : Addr} (fd : FuncData) (F : FunD K x qual (defArgs st_56) (defBody st_56) (defScope st_56) [] [] fa fd) : Binds K fd ["self", "tongue", "judge", "inner", "needs"] [] := F.bindsN fun _ _ _ _ _ _ us hl => match us, hl with | [_, _, _, _, _], _ => rfl
theorem sc_57 : FnScope nm_57 ["self", "kind"] (defScope st_57) := ⟨rfl, rfl, rfl, by decide +kernel, rfl, by decide +kernel, by decide +kernel⟩
theorem bn_57 {K : PySem.W.Frag} {x qual : Str} {fa : Addr} (fd : FuncData) (F : FunD K x qual (defArgs st_57) (defBody st_57) (defScope st_57) [] [] fa fd) : Binds K fd ["self", "kind"] [] := F.bindsN fun _ _ _ _ _ _ us hl => match us, hl with | [_, _], _ => rfl
theorem sc_58 : FnScope nm_58 ["self", "one", "other", "ways", "back"] (defScope st_58) := ⟨rfl, rfl, rfl, by decide +kernel, rfl, by decide +kernel, by decide +kernel⟩
theorem bn_58 {K : PySem.W.Frag} {x qual : Str} {fa : Addr} (fd : FuncData) (F : FunD K x qual (defArgs st_58) (defBody st_58) (defScope st_58) [] [] fa fd) : Binds K fd ["self", "one", "other", "ways", "back"] [] := F.bindsN fun _ _ _ _ _ _ us hl => match us, hl with | [_, _, _, _, _], _ => rfl
theorem sc_59 : FnScope nm_59 ["self", "first", "second"] (defScope st_59) := ⟨rfl, rfl, rfl, by decide +kernel, rfl, by decide +kernel, by decide +kernel⟩
theorem bn_59 {K : PySem.W.Frag} {x qual : Str} {fa : Addr} (fd : FuncData) (F : FunD K x qual (defArgs st_59) (defBody st_59) (defScope st_59) [] [] fa fd) : Binds K fd ["self", "first", "second"] [] := F.bindsN fun _ _ _ _ _ _ us hl => match us, hl with | [_, _, _], _ => rfl
theorem sc_60 : FnScope nm_60 ["one", "other"] (defScope st_60) := ⟨rfl, rfl, rfl, by decide +kernel, rfl, by decide +kernel, by decide +kernel⟩
theorem bn_60 {K : PySem.W.Frag} {x qual : Str} {fa : Addr} (fd : FuncData) (F : FunD K x qual (defArgs st_60) (defBody st_60) (defScope st_60) [] [] fa fd) : Binds K fd ["one", "other"] [] := F.bindsN fun _ _ _ _ _ _ us hl => match us, hl with | [_, _], _ => rfl
theorem sc_61 : FnScope nm_61 ["options"] (defScope st_61) := ⟨rfl, rfl, rfl, by decide +kernel, rfl, by decide +kernel, by decide +kernel⟩
theorem bn_61 {K : PySem.W.Frag} {x qual : Str} {fa : Addr} (fd : FuncData) (F : FunD K x qual (defArgs st_61) (defBody st_61) (defScope st_61) [] [] fa fd) : Binds K fd ["options"] [] := F.bindsN fun _ _ _ _ _ _ us hl => match us, hl with | [_], _ => rfl
theorem sc_62 : FnScope nm_62 ["self", "sorts", "kings", "commons", "chosen"] (defScope st_62) := ⟨rfl, rfl, rfl, by decide +kernel, rfl, by decide +kernel, by decide +kernel⟩
theorem bn_62 {K : PySem.W.Frag} {x qual : Str} {fa : Addr} (fd : FuncData) (F : FunD K x qual (defArgs st_62) (defBody st_62) (defScope st_62) [] [] fa fd) : Binds K fd ["self", "sorts", "kings", "commons", "chosen"] [] := F.bindsN fun _ _ _ _ _ _ us hl => match us, hl with | [_, _, _, _, _], _ => rfl
theorem sc_63 : FnScope nm_63 ["sorts", "commons", "sort"] (defScope st_63) := ⟨rfl, rfl, rfl, by decide +kernel, rfl, by decide +kernel, by decide +kernel⟩
theorem bn_63 {K : PySem.W.Frag} {x qual : Str} {fa : Addr} (fd : FuncData) (F : FunD K x qual (defArgs st_63) (defBody st_63) (defScope st_63) [] [] fa fd) : Binds K fd ["sorts", "commons", "sort"] [] := F.bindsN fun _ _ _ _ _ _ us hl => match us, hl with | [_, _, _], _ => rfl
theorem sc_64 : FnScope nm_64 ["sorts", "kings", "sort", "wishes", "fixed"] (defScope st_64) := ⟨rfl, rfl, rfl, by decide +kernel, rfl, by decide +kernel, by decide +kernel⟩
theorem bn_64 {K : PySem.W.Frag} {x qual : Str} {fa : Addr} (fd : FuncData) (F : FunD K x qual (defArgs st_64) (defBody st_64) (defScope st_64) [] [] fa fd) : Binds K fd ["sorts", "kings", "sort", "wishes", "fixed"] [] := F.bindsN fun _ _ _ _ _ _ us hl => match us, hl with | [_, _, _, _, _], _ => rfl
theorem sc_65 : FnScope nm_65 ["sorts", "commons", "sort"] (defScope st_65) := ⟨rfl, rfl, rfl, by decide +kernel, rfl, by decide +kernel, by decide +kernel⟩
theorem bn_65 {K : PySem.W.Frag} {x qual : Str} {fa : Addr} (fd : FuncData) (F : FunD K x qual (defArgs st_65) (defBody st_65) (defScope st_65) [] [] fa fd) : Binds K fd ["sorts", "commons", "sort"] [] := F.bindsN fun _ _ _ _ _ _ us hl => match us, hl with | [_, _, _], _ => rfl
theorem sc_66 : FnScope nm_66 ["sorts", "kings", "commons"] (defScope st_66) := ⟨rfl, rfl, rfl, by decide +kernel, rfl, by decide +kernel, by decide +kernel⟩
theorem bn_66 {K : PySem.W.Frag} {x qual : Str} {fa : Addr} (fd : FuncData) (F : FunD K x qual (defArgs st_66) (defBody st_66) (defScope st_66) [] [] fa fd) : Binds K fd ["sorts", "kings", "commons"] [] := F.bindsN fun _ _ _ _ _ _ us hl => match us, hl with | [_, _, _], _ => rfl
theorem sc_67 : FnScope nm_67 ["sorts", "plan_kings", "commons", "place", "bit"] (defScope st_67) := ⟨rfl, rfl, rfl, by decide +kernel, rfl, by decide +kernel, by decide +kernel⟩
theorem bn_67 {K : PySem.W.Frag} {x qual : Str} {fa : Addr} (fd : FuncData) (F : FunD K x qual (defArgs st_67) (defBody st_67) (defScope st_67) [] [] fa fd) : Binds K fd ["sorts", "plan_kings", "commons", "place", "bit"] [] := F.bindsN fun _ _ _ _ _ _ us hl => match us, hl with | [_, _, _, _, _], _ => rfl
theorem sc_68 : FnScope nm_68 ["sorts", "kings", "commons", "place"] (defScope st_68) := ⟨rfl, rfl, rfl, by decide +kernel, rfl, by decide +kernel, by decide +kernel⟩
theorem bn_68 {K : PySem.W.Frag} {x qual : Str} {fa : Addr} (fd : FuncData) (F : FunD K x qual (defArgs st_68) (defBody st_68) (defScope st_68) [] [] fa fd) : Binds K fd ["sorts", "kings", "commons", "place"] [] := F.bindsN fun _ _ _ _ _ _ us hl => match us, hl with | [_, _, _, _], _ => rfl
theorem sc_69 : FnScope nm_69 ["sorts", "kings", "wishes"] (defScope st_69) := ⟨rfl, rfl, rfl, by decide +kernel, rfl, by decide +kernel, by decide +kernel⟩
theorem bn_69 {K : PySem.W.Frag} {x qual : Str} {fa : Addr} (fd : FuncData) (F : FunD K x qual (defArgs st_69) (defBody st_69) (defScope st_69) [] [] fa fd) : Binds K fd ["sorts", "kings", "wishes"] [] := F.bindsN fun _ _ _ _ _ _ us hl => match us, hl with | [_, _, _], _ => rfl
theorem sc_70 : FnScope nm_70 ["sorts", "kings", "pairs", "at", "wishes", "chosen"] (defScope st_70) := ⟨rfl, rfl, rfl, by decide +kernel, rfl, by decide +kernel, by decide +kernel⟩
theorem bn_70 {K : PySem.W.Frag} {x qual : Str} {fa : Addr} (fd : FuncData) (F : FunD K x qual (defArgs st_70) (defBody st_70) (defScope st_70) [] [] fa fd) : Binds K fd ["sorts", "kings", "pairs", "at", "wishes", "chosen"] [] := F.bindsN fun _ _ _ _ _ _ us hl => match us, hl with | [_, _, _, _, _, _], _ => rfl
theorem sc_71 : FnScope nm_71 ["sorts", "kings", "commons", "wanted"] (defScope st_71) := ⟨rfl, rfl, rfl, by decide +kernel, rfl, by decide +kernel, by decide +kernel⟩
theorem bn_71 {K : PySem.W.Frag} {x qual : Str} {fa : Addr} (fd : FuncData) (F : FunD K x qual (defArgs st_71) (defBody st_71) (defScope st_71) [] [] fa fd) : Binds K fd ["sorts", "kings", "commons", "wanted"] [] := F.bindsN fun _ _ _ _ _ _ us hl => match us, hl with | [_, _, _, _], _ => rfl
theorem sc_72 : FnScope nm_72 ["sorts", "kings", "commons", "wanted"] (defScope st_72) := ⟨rfl, rfl, rfl, by decide +kernel, rfl, by decide +kernel, by decide +kernel⟩
theorem bn_72 {K : PySem.W.Frag} {x qual : Str} {fa : Addr} (fd : FuncData) (F : FunD K x qual (defArgs st_72) (defBody st_72) (defScope st_72) [] [] fa fd) : Binds K fd ["sorts", "kings", "commons", "wanted"] [] := F.bindsN fun _ _ _ _ _ _ us hl => match us, hl with | [_, _, _, _], _ => rfl
theorem sc_73 : FnScope nm_73 ["sorts", "first", "second"] (defScope st_73) := ⟨rfl, rfl, rfl, by decide +kernel, rfl, by decide +kernel, by decide +kernel⟩
theorem bn_73 {K : PySem.W.Frag} {x qual : Str} {fa : Addr} (fd : FuncData) (F : FunD K x qual (defArgs st_73) (defBody st_73) (defScope st_73) [] [] fa fd) : Binds K fd ["sorts", "first", "second"] [] := F.bindsN fun _ _ _ _ _ _ us hl => match us, hl with | [_, _, _], _ => rfl
theorem sc_74 : FnScope nm_74 ["sorts", "lone"] (defScope st_74) := ⟨rfl, rfl, rfl, by decide +kernel, rfl, by decide +kernel, by decide +kernel⟩
theorem bn_74 {K : PySem.W.Frag} {x qual : Str} {fa : Addr} (fd : FuncData) (F : FunD K x qual (defArgs st_74) (defBody st_74) (defScope st_74) [] [] fa fd) : Binds K fd ["sorts", "lone"] [] := F.bindsN fun _ _ _ _ _ _ us hl => match us, hl with | [_, _], _ => rfl
theorem sc_75 : FnScope nm_75 ["self", "tongue", "judge", "inner", "case", "bound"] (defScope st_75) := ⟨rfl, rfl, rfl, by decide +kernel, rfl, by decide +kernel, by decide +kernel⟩
theorem bn_75 {K : PySem.W.Frag} {x qual : Str} {fa : Addr} (fd : FuncData) (F : FunD K x qual (defArgs st_75) (defBody st_75) (defScope st_75) [] [] fa fd) : Binds K fd ["self", "tongue", "judge", "inner", "case", "bound"] [] := F.bindsN fun _ _ _ _ _ _ us hl => match us, hl with | [_, _, _, _, _, _], _ => rfl
theorem sc_76 : FnScope nm_76 ["self", "judge", "node"] (defScope st_76) := ⟨rfl, rfl, rfl, by decide +kernel, rfl, by decide +kernel, by decide +kernel⟩
theorem bn_76 {K : PySem.W.Frag} {x qual : Str} {fa : Addr} (fd : FuncData) (F : FunD K x qual (defArgs st_76) (defBody st_76) (defScope st_76) [] [] fa fd) : Binds K fd ["self", "judge", "node"] [] := F.bindsN fun _ _ _ _ _ _ us hl => match us, hl with | [_, _, _], _ => rfl
theorem sc_77 : FnScope nm_77 ["self"] (defScope st_77) := ⟨rfl, rfl, rfl, by decide +kernel, rfl, by decide +kernel, by decide +kernel⟩
theorem bn_77 {K : PySem.W.Frag} {x qual : Str} {fa : Addr} (fd : FuncData) (F : FunD K x qual (defArgs st_77) (defBody st_77) (defScope st_77) [] [] fa fd) : Binds K fd ["self"] [] := F.bindsN fun _ _ _ _ _ _ us hl => match us, hl with | [_], _ => rfl
theorem sc_78 : FnScope nm_78 ["self", "plan"] (defScope st_78) := ⟨rfl, rfl, rfl, by decide +kernel, rfl, by decide +kernel, by decide +kernel⟩
theorem bn_78 {K : PySem.W.Frag} {x qual : Str} {fa : Addr} (fd : FuncData) (F : FunD K x qual (defArgs st_78) (defBody st_78) (defScope st_78) [] [] fa fd) : Binds K fd ["self", "plan"] [] := F.bindsN fun _ _ _ _ _ _ us hl => match us, hl with | [_, _], _ => rfl
theorem sc_79 : FnScope nm_79 ["self"] (defScope st_79) := ⟨rfl, rfl, rfl, by decide +kernel, rfl, by decide +kernel, by decide +kernel⟩
theorem bn_79 {K : PySem.W.Frag} {x qual : Str} {fa : Addr} (fd : FuncData) (F : FunD K x qual (defArgs st_79) (defBody st_79) (defScope st_79) [] [] fa fd) : Binds K fd ["self"] [] := F.bindsN fun _ _ _ _ _ _ us hl => match us, hl with | [_], _ => rfl
theorem sc_80 : FnScope nm_80 ["self", "plan"] (defScope st_80) := ⟨rfl, rfl, rfl, by decide +kernel, rfl, by decide +kernel, by decide +kernel⟩
theorem bn_80 {K : PySem.W.Frag} {x qual : Str} {fa : Addr} (fd : FuncData) (F : FunD K x qual (defArgs st_80) (defBody st_80) (defScope st_80) [] [] fa fd) : Binds K fd ["self", "plan"] [] := F.bindsN fun _ _ _ _ _ _ us hl => match us, hl with | [_, _], _ => rfl
theorem sc_81 : FnScope nm_81 ["self", "sort"] (defScope st_81) := ⟨rfl, rfl, rfl, by decide +kernel, rfl, by decide +kernel, by decide +kernel⟩
theorem bn_81 {K : PySem.W.Frag} {x qual : Str} {fa : Addr} (fd : FuncData) (F : FunD K x qual (defArgs st_81) (defBody st_81) (defScope st_81) [] [] fa fd) : Binds K fd ["self", "sort"] [] := F.bindsN fun _ _ _ _ _ _ us hl => match us, hl with | [_, _], _ => rfl
theorem sc_82 : FnScope nm_82 ["self", "one", "other", "option"] (defScope st_82) := ⟨rfl, rfl, rfl, by decide +kernel, rfl, by decide +kernel, by decide +kernel⟩
theorem bn_82 {K : PySem.W.Frag} {x qual : Str} {fa : Addr} (fd : FuncData) (F : FunD K x qual (defArgs st_82) (defBody st_82) (defScope st_82) [] [] fa fd) : Binds K fd ["self", "one", "other", "option"] [] := F.bindsN fun _ _ _ _ _ _ us hl => match us, hl with | [_, _, _, _], _ => rfl
theorem sc_83 : FnScope nm_83 ["self"] (defScope st_83) := ⟨rfl, rfl, rfl, by decide +kernel, rfl, by decide +kernel, by decide +kernel⟩
theorem bn_83 {K : PySem.W.Frag} {x qual : Str} {fa : Addr} (fd : FuncData) (F : FunD K x qual (defArgs st_83) (defBody st_83) (defScope st_83) [] [] fa fd) : Binds K fd ["self"] [] := F.bindsN fun _ _ _ _ _ _ us hl => match us, hl with | [_], _ => rfl
theorem sc_84 : FnScope nm_84 ["self", "sort", "options"] (defScope st_84) := ⟨rfl, rfl, rfl, by decide +kernel, rfl, by decide +kernel, by decide +kernel⟩
theorem bn_84 {K : PySem.W.Frag} {x qual : Str} {fa : Addr} (fd : FuncData) (F : FunD K x qual (defArgs st_84) (defBody st_84) (defScope st_84) [] [] fa fd) : Binds K fd ["self", "sort", "options"] [] := F.bindsN fun _ _ _ _ _ _ us hl => match us, hl with | [_, _, _], _ => rfl
theorem sc_85 : FnScope nm_85 ["self"] (defScope st_85) := ⟨rfl, rfl, rfl, by decide +kernel, rfl, by decide +kernel, by decide +kernel⟩
theorem bn_85 {K : PySem.W.Frag} {x qual : Str} {fa : Addr} (fd : FuncData) (F : FunD K x qual (defArgs st_85) (defBody st_85) (defScope st_85) [] [] fa fd) : Binds K fd ["self"] [] := F.bindsN fun _ _ _ _ _ _ us hl => match us, hl with | [_], _ => rfl
theorem sc_86 : FnScope nm_86 ["self", "place"] (defScope st_86) := ⟨rfl, rfl, rfl, by decide +kernel, rfl, by decide +kernel, by decide +kernel⟩
theorem bn_86 {K : PySem.W.Frag} {x qual : Str} {fa : Addr} (fd : FuncData) (F : FunD K x qual (defArgs st_86) (defBody st_86) (defScope st_86) [] [] fa fd) : Binds K fd ["self", "place"] [] := F.bindsN fun _ _ _ _ _ _ us hl => match us, hl with | [_, _], _ => rfl
theorem sc_87 : FnScope nm_87 ["self"] (defScope st_87) := ⟨rfl, rfl, rfl, by decide +kernel, rfl, by decide +kernel, by decide +kernel⟩
theorem bn_87 {K : PySem.W.Frag} {x qual : Str} {fa : Addr} (fd : FuncData) (F : FunD K x qual (defArgs st_87) (defBody st_87) (defScope st_87) [] [] fa fd) : Binds K fd ["self"] [] := F.bindsN fun _ _ _ _ _ _ us hl => match us, hl with | [_], _ => rfl
theorem sc_88 : FnScope nm_88 ["self", "thing", "group"] (defScope st_88) := ⟨rfl, rfl, rfl, by decide +kernel, rfl, by decide +kernel, by decide +kernel⟩
theorem bn_88 {K : PySem.W.Frag} {x qual : Str} {fa : Addr} (fd : FuncData) (F : FunD K x qual (defArgs st_88) (defBody st_88) (defScope st_88) [] [] fa fd) : Binds K fd ["self", "thing", "group"] [] := F.bindsN fun _ _ _ _ _ _ us hl => match us, hl with | [_, _, _], _ => rfl
theorem sc_89 : FnScope nm_89 ["self", "sort", "bit"] (defScope st_89) := ⟨rfl, rfl, rfl, by decide +kernel, rfl, by decide +kernel, by decide +kernel⟩
theorem bn_89 {K : PySem.W.Frag} {x qual : Str} {fa : Addr} (fd : FuncData) (F : FunD K x qual (defArgs st_89) (defBody st_89) (defScope st_89) [] [] fa fd) : Binds K fd ["self", "sort", "bit"] [] := F.bindsN fun _ _ _ _ _ _ us hl => match us, hl with | [_, _, _], _ => rfl
theorem sc_90 : FnScope nm_90 ["self"] (defScope st_90) := ⟨rfl, rfl, rfl, by decide +kernel, rfl, by decide +kernel, by decide +kernel⟩
theorem bn_90 {K : PySem.W.Frag} {x qual : Str} {fa : Addr} (fd : FuncData) (F : FunD K x qual (defArgs st_90) (defBody st_90) (defScope st_90) [] [] fa fd) : Binds K fd ["self"] [] := F.bindsN fun _ _ _ _ _ _ us hl => match us, hl with | [_], _ => rfl
theorem sc_91 : FnScope nm_91 ["self"] (defScope st_91) := ⟨rfl, rfl, rfl, by decide +kernel, rfl, by decide +kernel, by decide +kernel⟩
theorem bn_91 {K : PySem.W.Frag} {x qual : Str} {fa : Addr} (fd : FuncData) (F : FunD K x qual (defArgs st_91) (defBody st_91) (defScope st_91) [] [] fa fd) : Binds K fd ["self"] [] := F.bindsN fun _ _ _ _ _ _ us hl => match us, hl with | [_], _ => rfl
theorem sc_92 : FnScope nm_92 ["self", "ties", "first", "second"] (defScope st_92) := ⟨rfl, rfl, rfl, by decide +kernel, rfl, by decide +kernel, by decide +kernel⟩
theorem bn_92 {K : PySem.W.Frag} {x qual : Str} {fa : Addr} (fd : FuncData) (F : FunD K x qual (defArgs st_92) (defBody st_92) (defScope st_92) [] [] fa fd) : Binds K fd ["self", "ties", "first", "second"] [] := F.bindsN fun _ _ _ _ _ _ us hl => match us, hl with | [_, _, _, _], _ => rfl
theorem sc_93 : FnScope nm_93 ["plan"] (defScope st_93) := ⟨rfl, rfl, rfl, by decide +kernel, rfl, by decide +kernel, by decide +kernel⟩
theorem bn_93 {K : PySem.W.Frag} {x qual : Str} {fa : Addr} (fd : FuncData) (F : FunD K x qual (defArgs st_93) (defBody st_93) (defScope st_93) [] [] fa fd) : Binds K fd ["plan"] [] := F.bindsN fun _ _ _ _ _ _ us hl => match us, hl with | [_], _ => rfl
theorem sc_94 : FnScope nm_94 ["self", "tongue", "cases"] (defScope st_94) := ⟨rfl, rfl, rfl, by decide +kernel, rfl, by decide +kernel, by decide +kernel⟩
theorem bn_94 {K : PySem.W.Frag} {x qual : Str} {fa : Addr} (fd : FuncData) (F : FunD K x qual (defArgs st_94) (defBody st_94) (defScope st_94) [] [] fa fd) : Binds K fd ["self", "tongue", "cases"] [] := F.bindsN fun _ _ _ _ _ _ us hl => match us, hl with | [_, _, _], _ => rfl
theorem sc_95 : FnScope nm_95 ["self", "node", "kind"] (defScope st_95) := ⟨rfl, rfl, rfl, by decide +kernel, rfl, by decide +kernel, by decide +kernel⟩
theorem bn_95 {K : PySem.W.Frag} {x qual : Str} {fa : Addr} (fd : FuncData) (F : FunD K x qual (defArgs st_95) (defBody st_95) (defScope st_95) [] [] fa fd) : Binds K fd ["self", "node", "kind"] [] := F.bindsN fun _ _ _ _ _ _ us hl => match us, hl with | [_, _, _], _ => rfl
theorem sc_96 : FnScope nm_96 ["self", "node"] (defScope st_96) := ⟨rfl, rfl, rfl, by decide +kernel, rfl, by decide +kernel, by decide +kernel⟩
theorem bn_96 {K : PySem.W.Frag} {x qual : Str} {fa : Addr} (fd : FuncData) (F : FunD K x qual (defArgs st_96) (defBody st_96) (defScope st_96) [] [] fa fd) : Binds K fd ["self", "node"] [] := F.bindsN fun _ _ _ _ _ _ us hl => match us, hl with | [_, _], _ => rfl
theorem sc_97 : FnScope nm_97 ["self", "node", "first", "second", "ways"] (defScope st_97) := ⟨rfl, rfl, rfl, by decide +kernel, rfl, by decide +kernel, by decide +kernel⟩
theorem bn_97 {K : PySem.W.Frag} {x qual : Str} {fa : Addr} (fd : FuncData) (F : FunD K x qual (defArgs st_97) (defBody st_97) (defScope st_97) [] [] fa fd) : Binds K fd ["self", "node", "first", "second", "ways"] [] := F.bindsN fun _ _ _ _ _ _ us hl => match us, hl with | [_, _, _, _, _], _ => rfl
theorem sc_98 : FnScope nm_98 ["self", "node", "first", "second"] (defScope st_98) := ⟨rfl, rfl, rfl, by decide +kernel, rfl, by decide +kernel, by decide +kernel⟩
theorem bn_98 {K : PySem.W.Frag} {x qual : Str} {fa : Addr} (fd : FuncData) (F : FunD K x qual (defArgs st_98) (defBody st_98) (defScope st_98) [] [] fa fd) : Binds K fd ["self", "node", "first", "second"] [] := F.bindsN fun _ _ _ _ _ _ us hl => match us, hl with | [_, _, _, _], _ => rfl
theorem sc_99 : FnScope nm_99 ["self", "node", "first", "second", "ways"] (defScope st_99) := ⟨rfl, rfl, rfl, by decide +kernel, rfl, by decide +kernel, by decide +kernel⟩
theorem bn_99 {K : PySem.W.Frag} {x qual : Str} {fa : Addr} (fd : FuncData) (F : FunD K x qual (defArgs st_99) (defBody st_99) (defScope st_99) [] [] fa fd) : Binds K fd ["self", "node", "first", "second", "ways"] [] := F.bindsN fun _ _ _ _ _ _ us hl => match us, hl with | [_, _, _, _, _], _ => rfl
theorem sc_100 : FnScope nm_100 ["tongue", "saying"] (defScope st_100) := ⟨rfl, rfl, rfl, by decide +kernel, rfl, by decide +kernel, by decide +kernel⟩
theorem bn_100 {K : PySem.W.Frag} {x qual : Str} {fa : Addr} (fd : FuncData) (F : FunD K x qual (defArgs st_100) (defBody st_100) (defScope st_100) [] [] fa fd) : Binds K fd ["tongue", "saying"] [] := F.bindsN fun _ _ _ _ _ _ us hl => match us, hl with | [_, _], _ => rfl
theorem sc_101 : FnScope nm_101 ["tongue", "saying"] (defScope st_101) := ⟨rfl, rfl, rfl, by decide +kernel, rfl, by decide +kernel, by decide +kernel⟩
theorem bn_101 {K : PySem.W.Frag} {x qual : Str} {fa : Addr} (fd : FuncData) (F : FunD K x qual (defArgs st_101) (defBody st_101) (defScope st_101) [] [] fa fd) : Binds K fd ["tongue", "saying"] [] := F.bindsN fun _ _ _ _ _ _ us hl => match us, hl with | [_, _], _ => rfl
theorem sc_102 : FnScope nm_102 ["tongue", "given", "saying"] (defScope st_102) := ⟨rfl, rfl, rfl, by decide +kernel, rfl, by decide +kernel, by decide +kernel⟩
theorem bn_102 {K : PySem.W.Frag} {x qual : Str} {fa : Addr} (fd : FuncData) (F : FunD K x qual (defArgs st_102) (defBody st_102) (defScope st_102) [] [] fa fd) : Binds K fd ["tongue", "given", "saying"] [] := F.bindsN fun _ _ _ _ _ _ us hl => match us, hl with | [_, _, _], _ => rfl
theorem sc_103 : FnScope nm_103 ["tongue", "one", "other"] (defScope st_103) := ⟨rfl, rfl, rfl, by decide +kernel, rfl, by decide +kernel, by decide +kernel⟩
theorem bn_103 {K : PySem.W.Frag} {x qual : Str} {fa : Addr} (fd : FuncData) (F : FunD K x qual (defArgs st_103) (defBody st_103) (defScope st_103) [] [] fa fd) : Binds K fd ["tongue", "one", "other"] [] := F.bindsN fun _ _ _ _ _ _ us hl => match us, hl with | [_, _, _], _ => rfl
theorem sc_104 : FnScope nm_104 ["tongue", "given", "saying"] (defScope st_104) := ⟨rfl, rfl, rfl, by decide +kernel, rfl, by decide +kernel, by decide +kernel⟩
theorem bn_104 {K : PySem.W.Frag} {x qual : Str} {fa : Addr} (fd : FuncData) (F : FunD K x qual (defArgs st_104) (defBody st_104) (defScope st_104) [] [] fa fd) : Binds K fd ["tongue", "given", "saying"] [] := F.bindsN fun _ _ _ _ _ _ us hl => match us, hl with | [_, _, _], _ => rfl
theorem sc_105 : FnScope nm_105 ["tongue", "given", "saying"] (defScope st_105) := ⟨rfl, rfl, rfl, by decide +kernel, rfl, by decide +kernel, by decide +kernel⟩
theorem bn_105 {K : PySem.W.Frag} {x qual : Str} {fa : Addr} (fd : FuncData) (F : FunD K x qual (defArgs st_105) (defBody st_105) (defScope st_105) [] [] fa fd) : Binds K fd ["tongue", "given", "saying"] [] := F.bindsN fun _ _ _ _ _ _ us hl => match us, hl with | [_, _, _], _ => rfl
theorem sc_106 : FnScope nm_106 ["_law_mark", "_law_tie"] (defScope st_106) := ⟨rfl, rfl, rfl, by decide +kernel, rfl, by decide +kernel, by decide +kernel⟩
theorem bn_106 {K : PySem.W.Frag} {x qual : Str} {fa : Addr} (fd : FuncData) (F : FunD K x qual (defArgs st_106) (defBody st_106) (defScope st_106) [] [] fa fd) : Binds K fd ["_law_mark", "_law_tie"] [] := F.bindsN fun _ _ _ _ _ _ us hl => match us, hl with | [_, _], _ => rfl
theorem sc_107 : FnScope nm_107 ["_law_world", "_law_saying"] (defScope st_107) := ⟨rfl, rfl, rfl, by decide +kernel, rfl, by decide +kernel, by decide +kernel⟩
theorem bn_107 {K : PySem.W.Frag} {x qual : Str} {fa : Addr} (fd : FuncData) (F : FunD K x qual (defArgs st_107) (defBody st_107) (defScope st_107) [] [] fa fd) : Binds K fd ["_law_world", "_law_saying"] [] := F.bindsN fun _ _ _ _ _ _ us hl => match us, hl with | [_, _], _ => rfl
theorem sc_108 : FnScope nm_108 ["pairs", "things"] (defScope st_108) := ⟨rfl, rfl, rfl, by decide +kernel, rfl, by decide +kernel, by decide +kernel⟩
theorem bn_108 {K : PySem.W.Frag} {x qual : Str} {fa : Addr} (fd : FuncData) (F : FunD K x qual (defArgs st_108) (defBody st_108) (defScope st_108) [] [] fa fd) : Binds K fd ["pairs", "things"] [] := F.bindsN fun _ _ _ _ _ _ us hl => match us, hl with | [_, _], _ => rfl
theorem sc_109 : FnScope nm_109 ["value"] (defScope st_109) := ⟨rfl, rfl, rfl, by decide +kernel, rfl, by decide +kernel, by decide +kernel⟩
theorem bn_109 {K : PySem.W.Frag} {x qual : Str} {fa : Addr} (fd : FuncData) (F : FunD K x qual (defArgs st_109) (defBody st_109) (defScope st_109) [] [] fa fd) : Binds K fd ["value"] [] := F.bindsN fun _ _ _ _ _ _ us hl => match us, hl with | [_], _ => rfl
theorem sc_110 : FnScope nm_110 ["value"] (defScope st_110) := ⟨rfl, rfl, rfl, by decide +kernel, rfl, by decide +kernel, by decide +kernel⟩
theorem bn_110 {K : PySem.W.Frag} {x qual : Str} {fa : Addr} (fd : FuncData) (F : FunD K x qual (defArgs st_110) (defBody st_110) (defScope st_110) [] [] fa fd) : Binds K fd ["value"] [] := F.bindsN fun _ _ _ _ _ _ us hl => match us, hl with | [_], _ => rfl
theorem sc_111 : FnScope nm_111 ["value", "most", "taken"] (defScope st_111) := ⟨rfl, rfl, rfl, by decide +kernel, rfl, by decide +kernel, by decide +kernel⟩
theorem bn_111 {K : PySem.W.Frag} {x qual : Str} {fa : Addr} (fd : FuncData) (F : FunD K x qual (defArgs st_111) (defBody st_111) (defScope st_111) [] [] fa fd) : Binds K fd ["value", "most", "taken"] [] := F.bindsN fun _ _ _ _ _ _ us hl => match us, hl with | [_, _, _], _ => rfl
theorem sc_112 : FnScope nm_112 ["value", "ties"] (defScope st_112) := ⟨rfl, rfl, rfl, by decide +kernel, rfl, by decide +kernel, by decide +kernel⟩
theorem bn_112 {K : PySem.W.Frag} {x qual : Str} {fa : Addr} (fd : FuncData) (F : FunD K x qual (defArgs st_112) (defBody st_112) (defScope st_112) [] [] fa fd) : Binds K fd ["value", "ties"] [] := F.bindsN fun _ _ _ _ _ _ us hl => match us, hl with | [_, _], _ => rfl
theorem sc_113 : FnScope nm_113 ["self", "marks", "ties", "functions"] (defScope st_113) := ⟨rfl, rfl, rfl, by decide +kernel, rfl, by decide +kernel, by decide +kernel⟩
theorem bn_113 {K : PySem.W.Frag} {x qual : Str} {fa : Addr} (fd : FuncData) (F : FunD K x qual (defArgs st_113) (defBody st_113) (defScope st_113) [] [] fa fd) : Binds K fd ["self", "marks", "ties", "functions"] [] := F.bindsN fun _ _ _ _ _ _ us hl => match us, hl with | [_, _, _, _], _ => rfl
theorem lv_base (D : Fd g A) : Lv g A 0 := ⟨fun i np h => by
  match i, h with
  | 0, h => cases h
  | 1, h => cases h; exact lv_0 D.f1 sc_1 rfl bn_1
  | 2, h => cases h; exact lv_0 D.f2 sc_2 rfl bn_2
  | 3, h => cases h; exact lv_0 D.f3 sc_3 rfl bn_3
  | 4, h => cases h; exact lv_0 D.f4 sc_4 rfl bn_4
  | 5, h => cases h; exact lv_0 D.f5 sc_5 rfl bn_5
  | 6, h => cases h; exact lv_0 D.f6 sc_6 rfl bn_6
  | 7, h => cases h; exact lv_0 D.f7 sc_7 rfl bn_7
  | 8, h => cases h; exact lv_0 D.f8 sc_8 rfl bn_8
  | 9, h => cases h; exact lv_0 D.f9 sc_9 rfl bn_9
  | 10, h => cases h; exact lv_0 D.f10 sc_10 rfl bn_10
  | 11, h => cases h; exact lv_0 D.f11 sc_11 rfl bn_11
  | 12, h => cases h; exact lv_0 D.f12 sc_12 rfl bn_12
  | 13, h => cases h; exact lv_0 D.f13 sc_13 rfl bn_13
  | 14, h => cases h; exact lv_0 D.f14 sc_14 rfl bn_14
  | 15, h => cases h; exact lv_0 D.f15 sc_15 rfl bn_15
  | 16, h => cases h; exact lv_0 D.f16 sc_16 rfl bn_16
  | 17, h => cases h; exact lv_0 D.f17 sc_17 rfl bn_17
  | 18, h => cases h; exact lv_0 D.f18 sc_18 rfl bn_18
  | 19, h => cases h; exact lv_0 D.f19 sc_19 rfl bn_19
  | 20, h => cases h; exact lv_0 D.f20 sc_20 rfl bn_20
  | 21, h => cases h; exact lv_0 D.f21 sc_21 rfl bn_21
  | 22, h => cases h; exact lv_0 D.f22 sc_22 rfl bn_22
  | 23, h => cases h; exact lv_0 D.f23 sc_23 rfl bn_23
  | 24, h => cases h; exact lv_0 D.f24 sc_24 rfl bn_24
  | 25, h => cases h; exact lv_0 D.f25 sc_25 rfl bn_25
  | 26, h => cases h; exact lv_0 D.f26 sc_26 rfl bn_26
  | 27, h => cases h; exact lv_0 D.f27 sc_27 rfl bn_27
  | 28, h => cases h; exact lv_0 D.f28 sc_28 rfl bn_28
  | 29, h => cases h; exact lv_0 D.f29 sc_29 rfl bn_29
  | 30, h => cases h; exact lv_0 D.f30 sc_30 rfl bn_30
  | 31, h => cases h; exact lv_0 D.f31 sc_31 rfl bn_31
  | 32, h => cases h; exact lv_0 D.f32 sc_32 rfl bn_32
  | 33, h => cases h; exact lv_0 D.f33 sc_33 rfl bn_33
  | 34, h => cases h; exact lv_0 D.f34 sc_34 rfl bn_34
  | 35, h => cases h; exact lv_0 D.f35 sc_35 rfl bn_35
  | 36, h => cases h; exact lv_0 D.f36 sc_36 rfl bn_36
  | 37, h => cases h; exact lv_0 D.f37 sc_37 rfl bn_37
  | 38, h => cases h; exact lv_0 D.f38 sc_38 rfl bn_38
  | 39, h => cases h; exact lv_0 D.f39 sc_39 rfl bn_39
  | 40, h => cases h; exact lv_0 D.f40 sc_40 rfl bn_40
  | 41, h => cases h; exact lv_0 D.f41 sc_41 rfl bn_41
  | 42, h => cases h; exact lv_0 D.f42 sc_42 rfl bn_42
  | 43, h => cases h; exact lv_0 D.f43 sc_43 rfl bn_43
  | 44, h => cases h; exact lv_0 D.f44 sc_44 rfl bn_44
  | 45, h => cases h; exact lv_0 D.f45 sc_45 rfl bn_45
  | 46, h => cases h; exact lv_0 D.f46 sc_46 rfl bn_46
  | 47, h => cases h; exact lv_0 D.f47 sc_47 rfl bn_47
  | 48, h => cases h; exact lv_0 D.f48 sc_48 rfl bn_48
  | 49, h => cases h; exact lv_0 D.f49 sc_49 rfl bn_49
  | 50, h => cases h; exact lv_0 D.f50 sc_50 rfl bn_50
  | 51, h => cases h; exact lv_0 D.f51 sc_51 rfl bn_51
  | 52, h => cases h; exact lv_0 D.f52 sc_52 rfl bn_52
  | 53, h => cases h; exact lv_0 D.f53 sc_53 rfl bn_53
  | 54, h => cases h; exact lv_0 D.f54 sc_54 rfl bn_54
  | 55, h => cases h; exact lv_0 D.f55 sc_55 rfl bn_55
  | 56, h => cases h; exact lv_0 D.f56 sc_56 rfl bn_56
  | 57, h => cases h; exact lv_0 D.f57 sc_57 rfl bn_57
  | 58, h => cases h; exact lv_0 D.f58 sc_58 rfl bn_58
  | 59, h => cases h; exact lv_0 D.f59 sc_59 rfl bn_59
  | 60, h => cases h; exact lv_0 D.f60 sc_60 rfl bn_60
  | 61, h => cases h; exact lv_0 D.f61 sc_61 rfl bn_61
  | 62, h => cases h; exact lv_0 D.f62 sc_62 rfl bn_62
  | 63, h => cases h; exact lv_0 D.f63 sc_63 rfl bn_63
  | 64, h => cases h; exact lv_0 D.f64 sc_64 rfl bn_64
  | 65, h => cases h; exact lv_0 D.f65 sc_65 rfl bn_65
  | 66, h => cases h; exact lv_0 D.f66 sc_66 rfl bn_66
  | 67, h => cases h; exact lv_0 D.f67 sc_67 rfl bn_67
  | 68, h => cases h; exact lv_0 D.f68 sc_68 rfl bn_68
  | 69, h => cases h; exact lv_0 D.f69 sc_69 rfl bn_69
  | 70, h => cases h; exact lv_0 D.f70 sc_70 rfl bn_70
  | 71, h => cases h; exact lv_0 D.f71 sc_71 rfl bn_71
  | 72, h => cases h; exact lv_0 D.f72 sc_72 rfl bn_72
  | 73, h => cases h; exact lv_0 D.f73 sc_73 rfl bn_73
  | 74, h => cases h; exact lv_0 D.f74 sc_74 rfl bn_74
  | 75, h => cases h; exact lv_0 D.f75 sc_75 rfl bn_75
  | 76, h => cases h; exact lv_0 D.f76 sc_76 rfl bn_76
  | 77, h => cases h; exact lv_0 D.f77 sc_77 rfl bn_77
  | 78, h => cases h; exact lv_0 D.f78 sc_78 rfl bn_78
  | 79, h => cases h; exact lv_0 D.f79 sc_79 rfl bn_79
  | 80, h => cases h; exact lv_0 D.f80 sc_80 rfl bn_80
  | 81, h => cases h; exact lv_0 D.f81 sc_81 rfl bn_81
  | 82, h => cases h; exact lv_0 D.f82 sc_82 rfl bn_82
  | 83, h => cases h; exact lv_0 D.f83 sc_83 rfl bn_83
  | 84, h => cases h; exact lv_0 D.f84 sc_84 rfl bn_84
  | 85, h => cases h; exact lv_0 D.f85 sc_85 rfl bn_85
  | 86, h => cases h; exact lv_0 D.f86 sc_86 rfl bn_86
  | 87, h => cases h; exact lv_0 D.f87 sc_87 rfl bn_87
  | 88, h => cases h; exact lv_0 D.f88 sc_88 rfl bn_88
  | 89, h => cases h; exact lv_0 D.f89 sc_89 rfl bn_89
  | 90, h => cases h; exact lv_0 D.f90 sc_90 rfl bn_90
  | 91, h => cases h; exact lv_0 D.f91 sc_91 rfl bn_91
  | 92, h => cases h; exact lv_0 D.f92 sc_92 rfl bn_92
  | 93, h => cases h; exact lv_0 D.f93 sc_93 rfl bn_93
  | 94, h => cases h; exact lv_0 D.f94 sc_94 rfl bn_94
  | 95, h => cases h; exact lv_0 D.f95 sc_95 rfl bn_95
  | 96, h => cases h; exact lv_0 D.f96 sc_96 rfl bn_96
  | 97, h => cases h; exact lv_0 D.f97 sc_97 rfl bn_97
  | 98, h => cases h; exact lv_0 D.f98 sc_98 rfl bn_98
  | 99, h => cases h; exact lv_0 D.f99 sc_99 rfl bn_99
  | 100, h => cases h; exact lv_0 D.f100 sc_100 rfl bn_100
  | 101, h => cases h; exact lv_0 D.f101 sc_101 rfl bn_101
  | 102, h => cases h; exact lv_0 D.f102 sc_102 rfl bn_102
  | 103, h => cases h; exact lv_0 D.f103 sc_103 rfl bn_103
  | 104, h => cases h; exact lv_0 D.f104 sc_104 rfl bn_104
  | 105, h => cases h; exact lv_0 D.f105 sc_105 rfl bn_105
  | 106, h => cases h; exact lv_0 D.f106 sc_106 rfl bn_106
  | 107, h => cases h; exact lv_0 D.f107 sc_107 rfl bn_107
  | 108, h => cases h; exact lv_0 D.f108 sc_108 rfl bn_108
  | 109, h => cases h; exact lv_0 D.f109 sc_109 rfl bn_109
  | 110, h => cases h; exact lv_0 D.f110 sc_110 rfl bn_110
  | 111, h => cases h; exact lv_0 D.f111 sc_111 rfl bn_111
  | 112, h => cases h; exact lv_0 D.f112 sc_112 rfl bn_112
  | 113, h => cases h; exact lv_0 D.f113 sc_113 rfl bn_113
  | n + 114, h => exact nomatch (show none = some np from h)⟩
theorem lv_step (T : Fx g A) (D : Fd g A) (k : Nat) (L : Lv g A k) (L2 : ∀ j, k = j + 1 → Lv g A j) : Lv g A (k + 1) := ⟨fun i np h => by
  match i, h with
  | 0, h => cases h
  | 1, h => cases h; exact lv_s (j := 0) D.f1 sc_1 rfl bn_1 rfl rfl fun X C hp => d_1 T L L2 C hp
  | 2, h => cases h; exact lv_s (j := 0) D.f2 sc_2 rfl bn_2 rfl rfl fun X C hp => d_2 T L L2 C hp
  | 3, h => cases h; exact lv_s (j := 0) D.f3 sc_3 rfl bn_3 rfl rfl fun X C hp => d_3 T L L2 C hp
  | 4, h => cases h; exact lv_s (j := 0) D.f4 sc_4 rfl bn_4 rfl rfl fun X C hp => d_4 T L L2 C hp
  | 5, h => cases h; exact lv_s (j := 0) D.f5 sc_5 rfl bn_5 rfl rfl fun X C hp => d_5 T L L2 C hp
  | 6, h => cases h; exact lv_s (j := 0) D.f6 sc_6 rfl bn_6 rfl rfl fun X C hp => d_6 T L L2 C hp
  | 7, h => cases h; exact lv_s (j := 0) D.f7 sc_7 rfl bn_7 rfl rfl fun X C hp => d_7 T L L2 C hp
  | 8, h => cases h; exact lv_s (j := 0) D.f8 sc_8 rfl bn_8 rfl rfl fun X C hp => d_8 T L L2 C hp
  | 9, h => cases h; exact lv_s (j := 6) D.f9 sc_9 rfl bn_9 rfl rfl fun X C hp => d_9 T L L2 C hp
  | 10, h => cases h; exact lv_s (j := 0) D.f10 sc_10 rfl bn_10 rfl rfl fun X C hp => d_10 T L L2 C hp
  | 11, h => cases h; exact lv_s (j := 0) D.f11 sc_11 rfl bn_11 rfl rfl fun X C hp => d_11 T L L2 C hp
  | 12, h => cases h; exact lv_s (j := 3) D.f12 sc_12 rfl bn_12 rfl rfl fun X C hp => d_12 T L L2 C hp
  | 13, h => cases h; exact lv_s (j := 0) D.f13 sc_13 rfl bn_13 rfl rfl fun X C hp => d_13 T L L2 C hp
  | 14, h => cases h; exact lv_s (j := 0) D.f14 sc_14 rfl bn_14 rfl rfl fun X C hp => d_14 T L L2 C hp
  | 15, h => cases h; exact lv_s (j := 1) D.f15 sc_15 rfl bn_15 rfl rfl fun X C hp => d_15 T L L2 C hp
  | 16, h => cases h; exact lv_s (j := 4) D.f16 sc_16 rfl bn_16 rfl rfl fun X C hp => d_16 T L L2 C hp
  | 17, h => cases h; exact lv_s (j := 0) D.f17 sc_17 rfl bn_17 rfl rfl fun X C hp => d_17 T L L2 C hp
  | 18, h => cases h; exact lv_s (j := 1) D.f18 sc_18 rfl bn_18 rfl rfl fun X C hp => d_18 T L L2 C hp
  | 19, h => cases h; exact lv_s (j := 2) D.f19 sc_19 rfl bn_19 rfl rfl fun X C hp => d_19 T L L2 C hp
  | 20, h => cases h; exact lv_s (j := 2) D.f20 sc_20 rfl bn_20 rfl rfl fun X C hp => d_20 T L L2 C hp
  | 21, h => cases h; exact lv_s (j := 4) D.f21 sc_21 rfl bn_21 rfl rfl fun X C hp => d_21 T L L2 C hp
  | 22, h => cases h; exact lv_s (j := 0) D.f22 sc_22 rfl bn_22 rfl rfl fun X C hp => d_22 T L L2 C hp
  | 23, h => cases h; exact lv_s (j := 0) D.f23 sc_23 rfl bn_23 rfl rfl fun X C hp => d_23 T L L2 C hp
  | 24, h => cases h; exact lv_s (j := 1) D.f24 sc_24 rfl bn_24 rfl rfl fun X C hp => d_24 T L L2 C hp
  | 25, h => cases h; exact lv_s (j := 2) D.f25 sc_25 rfl bn_25 rfl rfl fun X C hp => d_25 T L L2 C hp
  | 26, h => cases h; exact lv_s (j := 2) D.f26 sc_26 rfl bn_26 rfl rfl fun X C hp => d_26 T L L2 C hp
  | 27, h => cases h; exact lv_s (j := 1) D.f27 sc_27 rfl bn_27 rfl rfl fun X C hp => d_27 T L L2 C hp
  | 28, h => cases h; exact lv_s (j := 1) D.f28 sc_28 rfl bn_28 rfl rfl fun X C hp => d_28 T L L2 C hp
  | 29, h => cases h; exact lv_s (j := 3) D.f29 sc_29 rfl bn_29 rfl rfl fun X C hp => d_29 T L L2 C hp
  | 30, h => cases h; exact lv_s (j := 0) D.f30 sc_30 rfl bn_30 rfl rfl fun X C hp => d_30 T L L2 C hp
  | 31, h => cases h; exact lv_s (j := 0) D.f31 sc_31 rfl bn_31 rfl rfl fun X C hp => d_31 T L L2 C hp
  | 32, h => cases h; exact lv_s (j := 0) D.f32 sc_32 rfl bn_32 rfl rfl fun X C hp => d_32 T L L2 C hp
  | 33, h => cases h; exact lv_s (j := 0) D.f33 sc_33 rfl bn_33 rfl rfl fun X C hp => d_33 T L L2 C hp
  | 34, h => cases h; exact lv_s (j := 0) D.f34 sc_34 rfl bn_34 rfl rfl fun X C hp => d_34 T L L2 C hp
  | 35, h => cases h; exact lv_s (j := 1) D.f35 sc_35 rfl bn_35 rfl rfl fun X C hp => d_35 T L L2 C hp
  | 36, h => cases h; exact lv_s (j := 6) D.f36 sc_36 rfl bn_36 rfl rfl fun X C hp => d_36 T L L2 C hp
  | 37, h => cases h; exact lv_s (j := 0) D.f37 sc_37 rfl bn_37 rfl rfl fun X C hp => d_37 T L L2 C hp
  | 38, h => cases h; exact lv_s (j := 1) D.f38 sc_38 rfl bn_38 rfl rfl fun X C hp => d_38 T L L2 C hp
  | 39, h => cases h; exact lv_s (j := 5) D.f39 sc_39 rfl bn_39 rfl rfl fun X C hp => d_39 T L L2 C hp
  | 40, h => cases h; exact lv_s (j := 1) D.f40 sc_40 rfl bn_40 rfl rfl fun X C hp => d_40 T L L2 C hp
  | 41, h => cases h; exact lv_s (j := 0) D.f41 sc_41 rfl bn_41 rfl rfl fun X C hp => d_41 T L L2 C hp
  | 42, h => cases h; exact lv_s (j := 1) D.f42 sc_42 rfl bn_42 rfl rfl fun X C hp => d_42 T L L2 C hp
  | 43, h => cases h; exact lv_s (j := 4) D.f43 sc_43 rfl bn_43 rfl rfl fun X C hp => d_43 T L L2 C hp
  | 44, h => cases h; exact lv_s (j := 3) D.f44 sc_44 rfl bn_44 rfl rfl fun X C hp => d_44 T L L2 C hp
  | 45, h => cases h; exact lv_s (j := 3) D.f45 sc_45 rfl bn_45 rfl rfl fun X C hp => d_45 T L L2 C hp
  | 46, h => cases h; exact lv_s (j := 0) D.f46 sc_46 rfl bn_46 rfl rfl fun X C hp => d_46 T L L2 C hp
  | 47, h => cases h; exact lv_s (j := 5) D.f47 sc_47 rfl bn_47 rfl rfl fun X C hp => d_47 T L L2 C hp
  | 48, h => cases h; exact lv_s (j := 4) D.f48 sc_48 rfl bn_48 rfl rfl fun X C hp => d_48 T L L2 C hp
  | 49, h => cases h; exact lv_s (j := 2) D.f49 sc_49 rfl bn_49 rfl rfl fun X C hp => d_49 T L L2 C hp
  | 50, h => cases h; exact lv_s (j := 2) D.f50 sc_50 rfl bn_50 rfl rfl fun X C hp => d_50 T L L2 C hp
  | 51, h => cases h; exact lv_s (j := 2) D.f51 sc_51 rfl bn_51 rfl rfl fun X C hp => d_51 T L L2 C hp
  | 52, h => cases h; exact lv_s (j := 5) D.f52 sc_52 rfl bn_52 rfl rfl fun X C hp => d_52 T L L2 C hp
  | 53, h => cases h; exact lv_s (j := 3) D.f53 sc_53 rfl bn_53 rfl rfl fun X C hp => d_53 T L L2 C hp
  | 54, h => cases h; exact lv_s (j := 0) D.f54 sc_54 rfl bn_54 rfl rfl fun X C hp => d_54 T L L2 C hp
  | 55, h => cases h; exact lv_s (j := 0) D.f55 sc_55 rfl bn_55 rfl rfl fun X C hp => d_55 T L L2 C hp
  | 56, h => cases h; exact lv_s (j := 1) D.f56 sc_56 rfl bn_56 rfl rfl fun X C hp => d_56 T L L2 C hp
  | 57, h => cases h; exact lv_s (j := 3) D.f57 sc_57 rfl bn_57 rfl rfl fun X C hp => d_57 T L L2 C hp
  | 58, h => cases h; exact lv_s (j := 4) D.f58 sc_58 rfl bn_58 rfl rfl fun X C hp => d_58 T L L2 C hp
  | 59, h => cases h; exact lv_s (j := 6) D.f59 sc_59 rfl bn_59 rfl rfl fun X C hp => d_59 T L L2 C hp
  | 60, h => cases h; exact lv_s (j := 0) D.f60 sc_60 rfl bn_60 rfl rfl fun X C hp => d_60 T L L2 C hp
  | 61, h => cases h; exact lv_s (j := 4) D.f61 sc_61 rfl bn_61 rfl rfl fun X C hp => d_61 T L L2 C hp
  | 62, h => cases h; exact lv_s (j := 0) D.f62 sc_62 rfl bn_62 rfl rfl fun X C hp => d_62 T L L2 C hp
  | 63, h => cases h; exact lv_s (j := 3) D.f63 sc_63 rfl bn_63 rfl rfl fun X C hp => d_63 T L L2 C hp
  | 64, h => cases h; exact lv_s (j := 8) D.f64 sc_64 rfl bn_64 rfl rfl fun X C hp => d_64 T L L2 C hp
  | 65, h => cases h; exact lv_s (j := 1) D.f65 sc_65 rfl bn_65 rfl rfl fun X C hp => d_65 T L L2 C hp
  | 66, h => cases h; exact lv_s (j := 3) D.f66 sc_66 rfl bn_66 rfl rfl fun X C hp => d_66 T L L2 C hp
  | 67, h => cases h; exact lv_s (j := 3) D.f67 sc_67 rfl bn_67 rfl rfl fun X C hp => d_67 T L L2 C hp
  | 68, h => cases h; exact lv_s (j := 2) D.f68 sc_68 rfl bn_68 rfl rfl fun X C hp => d_68 T L L2 C hp
  | 69, h => cases h; exact lv_s (j := 3) D.f69 sc_69 rfl bn_69 rfl rfl fun X C hp => d_69 T L L2 C hp
  | 70, h => cases h; exact lv_s (j := 6) D.f70 sc_70 rfl bn_70 rfl rfl fun X C hp => d_70 T L L2 C hp
  | 71, h => cases h; exact lv_s (j := 2) D.f71 sc_71 rfl bn_71 rfl rfl fun X C hp => d_71 T L L2 C hp
  | 72, h => cases h; exact lv_s (j := 5) D.f72 sc_72 rfl bn_72 rfl rfl fun X C hp => d_72 T L L2 C hp
  | 73, h => cases h; exact lv_s (j := 0) D.f73 sc_73 rfl bn_73 rfl rfl fun X C hp => d_73 T L L2 C hp
  | 74, h => cases h; exact lv_s (j := 5) D.f74 sc_74 rfl bn_74 rfl rfl fun X C hp => d_74 T L L2 C hp
  | 75, h => cases h; exact lv_s (j := 3) D.f75 sc_75 rfl bn_75 rfl rfl fun X C hp => d_75 T L L2 C hp
  | 76, h => cases h; exact lv_s (j := 3) D.f76 sc_76 rfl bn_76 rfl rfl fun X C hp => d_76 T L L2 C hp
  | 77, h => cases h; exact lv_s (j := 7) D.f77 sc_77 rfl bn_77 rfl rfl fun X C hp => d_77 T L L2 C hp
  | 78, h => cases h; exact lv_s (j := 4) D.f78 sc_78 rfl bn_78 rfl rfl fun X C hp => d_78 T L L2 C hp
  | 79, h => cases h; exact lv_s (j := 3) D.f79 sc_79 rfl bn_79 rfl rfl fun X C hp => d_79 T L L2 C hp
  | 80, h => cases h; exact lv_s (j := 0) D.f80 sc_80 rfl bn_80 rfl rfl fun X C hp => d_80 T L L2 C hp
  | 81, h => cases h; exact lv_s (j := 0) D.f81 sc_81 rfl bn_81 rfl rfl fun X C hp => d_81 T L L2 C hp
  | 82, h => cases h; exact lv_s (j := 0) D.f82 sc_82 rfl bn_82 rfl rfl fun X C hp => d_82 T L L2 C hp
  | 83, h => cases h; exact lv_s (j := 3) D.f83 sc_83 rfl bn_83 rfl rfl fun X C hp => d_83 T L L2 C hp
  | 84, h => cases h; exact lv_s (j := 3) D.f84 sc_84 rfl bn_84 rfl rfl fun X C hp => d_84 T L L2 C hp
  | 85, h => cases h; exact lv_s (j := 5) D.f85 sc_85 rfl bn_85 rfl rfl fun X C hp => d_85 T L L2 C hp
  | 86, h => cases h; exact lv_s (j := 4) D.f86 sc_86 rfl bn_86 rfl rfl fun X C hp => d_86 T L L2 C hp
  | 87, h => cases h; exact lv_s (j := 6) D.f87 sc_87 rfl bn_87 rfl rfl fun X C hp => d_87 T L L2 C hp
  | 88, h => cases h; exact lv_s (j := 4) D.f88 sc_88 rfl bn_88 rfl rfl fun X C hp => d_88 T L L2 C hp
  | 89, h => cases h; exact lv_s (j := 2) D.f89 sc_89 rfl bn_89 rfl rfl fun X C hp => d_89 T L L2 C hp
  | 90, h => cases h; exact lv_s (j := 4) D.f90 sc_90 rfl bn_90 rfl rfl fun X C hp => d_90 T L L2 C hp
  | 91, h => cases h; exact lv_s (j := 9) D.f91 sc_91 rfl bn_91 rfl rfl fun X C hp => d_91 T L L2 C hp
  | 92, h => cases h; exact lv_s (j := 4) D.f92 sc_92 rfl bn_92 rfl rfl fun X C hp => d_92 T L L2 C hp
  | 93, h => cases h; exact lv_s (j := 1) D.f93 sc_93 rfl bn_93 rfl rfl fun X C hp => d_93 T L L2 C hp
  | 94, h => cases h; exact lv_s (j := 0) D.f94 sc_94 rfl bn_94 rfl rfl fun X C hp => d_94 T L L2 C hp
  | 95, h => cases h; exact lv_s (j := 0) D.f95 sc_95 rfl bn_95 rfl rfl fun X C hp => d_95 T L L2 C hp
  | 96, h => cases h; exact lv_s (j := 0) D.f96 sc_96 rfl bn_96 rfl rfl fun X C hp => d_96 T L L2 C hp
  | 97, h => cases h; exact lv_s (j := 1) D.f97 sc_97 rfl bn_97 rfl rfl fun X C hp => d_97 T L L2 C hp
  | 98, h => cases h; exact lv_s (j := 1) D.f98 sc_98 rfl bn_98 rfl rfl fun X C hp => d_98 T L L2 C hp
  | 99, h => cases h; exact lv_s (j := 3) D.f99 sc_99 rfl bn_99 rfl rfl fun X C hp => d_99 T L L2 C hp
  | 100, h => cases h; exact lv_s (j := 7) D.f100 sc_100 rfl bn_100 rfl rfl fun X C hp => d_100 T L L2 C hp
  | 101, h => cases h; exact lv_s (j := 3) D.f101 sc_101 rfl bn_101 rfl rfl fun X C hp => d_101 T L L2 C hp
  | 102, h => cases h; exact lv_s (j := 2) D.f102 sc_102 rfl bn_102 rfl rfl fun X C hp => d_102 T L L2 C hp
  | 103, h => cases h; exact lv_s (j := 1) D.f103 sc_103 rfl bn_103 rfl rfl fun X C hp => d_103 T L L2 C hp
  | 104, h => cases h; exact lv_s (j := 1) D.f104 sc_104 rfl bn_104 rfl rfl fun X C hp => d_104 T L L2 C hp
  | 105, h => cases h; exact lv_s (j := 0) D.f105 sc_105 rfl bn_105 rfl rfl fun X C hp => d_105 T L L2 C hp
  | 106, h => cases h; exact lv_s (j := 11) D.f106 sc_106 rfl bn_106 rfl rfl fun X C hp => d_106 T L L2 C hp
  | 107, h => cases h; exact lv_s (j := 0) D.f107 sc_107 rfl bn_107 rfl rfl fun X C hp => d_107 T L L2 C hp
  | 108, h => cases h; exact lv_s (j := 2) D.f108 sc_108 rfl bn_108 rfl rfl fun X C hp => d_108 T L L2 C hp
  | 109, h => cases h; exact lv_s (j := 0) D.f109 sc_109 rfl bn_109 rfl rfl fun X C hp => d_109 T L L2 C hp
  | 110, h => cases h; exact lv_word T (by first | exact .inl rfl | exact .inr rfl) D.f110 sc_110 bn_110
  | 111, h => cases h; exact lv_s (j := 2) D.f111 sc_111 rfl bn_111 rfl rfl fun X C hp => d_111 T L L2 C hp
  | 112, h => cases h; exact lv_s (j := 1) D.f112 sc_112 rfl bn_112 rfl rfl fun X C hp => d_112 T L L2 C hp
  | 113, h => cases h; exact lv_s (j := 0) D.f113 sc_113 rfl bn_113 rfl rfl fun X C hp => d_113 T L L2 C hp
  | n + 114, h => exact nomatch (show none = some np from h)⟩
theorem lv_all (T : Fx g A) (D : Fd g A) : ∀ k, Lv g A k ∧ ∀ j, k = j + 1 → Lv g A j
  | 0 => ⟨lv_base D, fun j h => by cases h⟩
  | k + 1 => let ⟨h1, h2⟩ := lv_all T D k; ⟨lv_step T D k h1 h2, fun j h => by cases h; exact h1⟩
end
end Sd
end

section
set_option Elab.async false
set_option linter.all false
set_option maxRecDepth 100000
set_option maxHeartbeats 0
/-! Hl: what is drawn. -/
namespace Sd
open PySem PySem.Spec PyProof.Rows L2
/-- the names that the law's own helpers lean on -/
structure Lf (mg : Str → Option Value) : Prop where
  len : mg "len" = none
  int : mg "int" = none
  sum : mg "sum" = none
  abs : mg "abs" = none
  range : mg "range" = none
/-- the pool: a seed, a count, a list of ints at q -/
def PoolAt (H : Hp) (p q : Addr) : Prop := ∃ (s c : Int) (cells : List Int), H p = some (.lst [.int s, .int c, .ref q]) ∧ H q = some (.lst (cells.map V.int)) ∧ cells.length ≤ 63
theorem PoolAt.ne {H : Hp} {p q : Addr} (h : PoolAt H p q) : p ≠ q := by
  obtain ⟨s, c, cells, h1, h2, _⟩ := h
  refine ne_of h1 h2 fun z => ?_
  injection z with z
  match cells, z with
  | [], z => cases z
  | [_], z => cases z
  | [_, _], z => cases z
  | _ :: _ :: _ :: _, z =>
    injection z with _ z
    injection z with _ z
    injection z with z _
    cases z
/-- all but p and q stands as it was -/
def Off (p q : Addr) (H H' : Hp) : Prop := ∀ a, a ≠ p → a ≠ q → H' a = H a
theorem Off.refl {p q : Addr} {H : Hp} : Off p q H H := fun _ _ _ => rfl
theorem Off.trans {p q : Addr} {H H1 H2 : Hp} (a : Off p q H H1) (b : Off p q H1 H2) : Off p q H H2 := fun x h1 h2 => (b x h1 h2).trans (a x h1 h2)
theorem Off.p {p q : Addr} {H : Hp} {o : HO} : Off p q H (upd H p o) := fun _ h _ => upd_ne h
theorem Off.q {p q : Addr} {H : Hp} {o : HO} : Off p q H (upd H q o) := fun _ _ h => upd_ne h
theorem ixN_0 (v : V) (r : List V) : ixN (v :: r).length 0 = some 0 := by
  unfold ixN
  rw [if_pos (by decide), if_pos (by rw [List.length_cons]; omega)]
  rfl
def spDraw : Sp := fun vs H Q _ => ∃ (p q : Addr) (m : Int), vs = [.ref p, .int m] ∧ 0 < m ∧ m < 1000 ∧ PoolAt H p q ∧ ∀ H' d, PoolAt H' p q → Off p q H H' → 0 ≤ d → d < m → Q (.int d) H'
def nmDraw : List Str := ["_law_pool_here", "_law_many", "_law_cells", "_law_digit", "_law_mixed"]
section
variable {P : Program} {w : World} {K : PySem.W.Frag} {mg : Str → Option Value} {base : Heap}
theorem scDraw : FnScope nmDraw ["_law_pool_here", "_law_many"] (defScope st_115) := ⟨rfl, rfl, rfl, by decide +kernel, rfl, by decide +kernel, by decide +kernel⟩
theorem ok_draw {x qual : Str} {params : Arguments} {f : Addr} {fd : FuncData} (F : FunD K x qual params (defBody st_115) (defScope st_115) [] [] f fd) (T : Lf mg) : FnOk P w K mg base CX0 1 f fd ["_law_pool_here", "_law_many"] spDraw := by
  refine F.ok scDraw (fun vs H Q E h => ?_) (fun cdv A outer s H vs Q E hr h => ?_)
  · obtain ⟨p, q, m, rfl, _⟩ := h
    rfl
  · obtain ⟨p, q, m, rfl, m0, m1, hp, kk⟩ := h
    have npq := hp.ne
    obtain ⟨sd, c, cells, h1, h2, h3⟩ := hp
    refine ⟨_, PSs.nox (pss_cons (ps_asg (pe_op op_add (pe_ix ix_list (pv 0) pe_int (fun _ _ => rfl)) pe_int) (pg_sub (pv 0) pe_int set_list))
      (pss_cons (ps_set (i := 2) scDraw.nd rfl (.inl rfl) (pe_ix ix_list (pv 0) pe_int (fun _ _ => rfl)))
      (pss_cons (ps_if (pt_cmpR op_gt (pe_callB call_len_seq (by rfl) T.len boot_len (pa_cons (pv 2) pa_nil)) pe_int (nomark _))
        (pss_cons (ps_set (i := 3) scDraw.nd rfl (.inl rfl) (pe_op op_mod (pe_callTy call_int1 (by rfl) T.int (by decide +kernel) (pa_cons (pe_ix ix_list (pv 2) pe_int (fun _ _ => rfl)) pa_nil)) (pv 1)))
        (pss_cons (ps_asg (pe_op op_fdivN (pe_callTy call_int1 (by rfl) T.int (by decide +kernel) (pa_cons (pe_ix ix_list (pv 2) pe_int (fun _ _ => rfl)) pa_nil)) (pv 1)) (pg_sub (pv 2) pe_int set_list))
        (pss_cons (ps_if (pt_cmpR op_eq (pe_ix ix_list (pv 2) pe_int (fun _ _ => rfl)) pe_int (nomark _))
          (pss_one (ps_expr (pe_bm PySem.F.plainAttrs_list PySem.F.slot_list_pop PySem.F.type_list_pop mt_popAt (pv 2) (pa_cons pe_int pa_nil)))) pss_nil)
        (pss_one (ps_ret (pv 3)))))) pss_nil)
      (pss_cons (ps_set (i := 4) scDraw.nd rfl (.inl rfl) (pe_op op_mod (pe_callTy call_int1 (by rfl) T.int (by decide +kernel) (pa_cons (pe_op op_mul (pe_op op_add (pe_ix ix_list (pv 0) pe_int (fun _ _ => rfl)) (pe_op op_mul pe_int (pe_ix ix_list (pv 0) pe_int (fun _ _ => rfl)))) pe_int) pa_nil)) pe_int))
      (pss_cons (ps_set (i := 4) scDraw.nd rfl (.inl rfl) (pe_op op_mod (pe_callTy call_int1 (by rfl) T.int (by decide +kernel) (pa_cons (pe_op op_mul (pv 4) (pe_op op_add (pe_op op_fdiv (pv 4) pe_int) pe_int)) pa_nil)) pe_int))
      (pss_cons (ps_set (i := 4) scDraw.nd rfl (.inl rfl) (pe_op op_mod (pe_callTy call_int1 (by rfl) T.int (by decide +kernel) (pa_cons (pe_op op_mul (pv 4) (pe_op op_add (pe_op op_fdiv (pv 4) pe_int) pe_int)) pa_nil)) pe_int))
      (pss_one (ps_ret (pe_op op_mod (pe_callTy call_int1 (by rfl) T.int (by decide +kernel) (pa_cons (pe_op op_fdiv (pv 4) pe_int) pa_nil)) (pv 1)))))))))), ?_⟩
    -- pool[1] = pool[1] + 1
    refine ⟨_, rfl, p, _, _, _, rfl, rfl, SqL.of h1, atI_nat (j := 1) rfl, _, _, rfl, rfl, _, rfl, p, _, _, 1, rfl, rfl, h1, rfl, ?_⟩
    have g1 : (upd H p (.lst [.int sd, .int (c + 1), .ref q])) p = some (.lst [.int sd, .int (c + 1), .ref q]) := upd_same
    have g2 : (upd H p (.lst [.int sd, .int (c + 1), .ref q])) q = some (.lst (cells.map V.int)) := (upd_ne npq.symm).trans h2
    -- cells = pool[2]
    refine ⟨_, rfl, p, _, _, _, rfl, rfl, SqL.of g1, atI_nat (j := 2) rfl, ?_⟩
    refine ⟨_, rfl, q, _, rfl, .inl (SqL.of g2), _, _, rfl, rfl, _, rfl, ?_⟩
    refine ite2 (fun hgt => ?_) (fun _ => ?_)
    · match cells, h2, h3, g2, hgt with
      | [], _, _, _, hgt => exact absurd hgt (by decide)
      | c0 :: rest, h2, h3, g2, _ =>
        have g2 : (upd H p (.lst [.int sd, .int (c + 1), .ref q])) q = some (.lst (V.int c0 :: rest.map V.int)) := g2
        refine ⟨_, rfl, q, _, _, _, rfl, rfl, SqL.of g2, atI_nat (j := 0) rfl, .inl ⟨_, rfl, _, rfl, _, _, rfl, rfl, m0, ?_⟩⟩
        refine ⟨_, rfl, q, _, _, _, rfl, rfl, SqL.of g2, atI_nat (j := 0) rfl, .inl ⟨_, rfl, _, rfl, _, _, rfl, rfl, ⟨by omega, by omega⟩, _, rfl, q, _, _, 0, rfl, rfl, g2, ixN_0 _ _, ?_⟩⟩
        have o1 : Off p q H (upd (upd H p (.lst [.int sd, .int (c + 1), .ref q])) q (.lst (V.int (c0.fdiv m) :: rest.map V.int))) := Off.p.trans Off.q
        have k1 : (upd (upd H p (.lst [.int sd, .int (c + 1), .ref q])) q (.lst (V.int (c0.fdiv m) :: rest.map V.int))) p = some (.lst [.int sd, .int (c + 1), .ref q]) := (upd_ne npq).trans upd_same
        refine ⟨_, rfl, q, _, _, _, rfl, rfl, SqL.of upd_same, atI_nat (j := 0) rfl, rfl, _, rfl, ?_⟩
        refine ite2 (fun _ => ?_) (fun _ => ?_)
        · refine ⟨_, rfl, .inl ⟨rfl, _, SqL.of upd_same⟩, q, _, _, 0, _, rfl, rfl, upd_same, by decide, by decide, (ixN_seq (ixN_0 _ _)).1, rfl, ?_⟩
          refine ⟨_, rfl, ?_⟩
          rw [upd_upd]
          have o2 : Off p q H (upd (upd H p (.lst [.int sd, .int (c + 1), .ref q])) q (.lst (rest.map V.int))) := Off.p.trans Off.q
          exact kk _ _ ⟨sd, c + 1, rest, (upd_ne npq).trans upd_same, upd_same, by have : rest.length + 1 ≤ 63 := h3; omega⟩ o2 (Int.emod_nonneg _ (by omega)) (Int.emod_lt_of_pos _ m0)
        · refine ⟨_, rfl, ?_⟩
          exact kk _ _ ⟨sd, c + 1, c0.fdiv m :: rest, k1, upd_same, h3⟩ o1 (Int.emod_nonneg _ (by omega)) (Int.emod_lt_of_pos _ m0)
    · refine ⟨_, rfl, p, _, _, _, rfl, rfl, SqL.of g1, atI_nat (j := 0) rfl, _, rfl, p, _, _, _, rfl, rfl, SqL.of g1, atI_nat (j := 1) rfl, _, _, rfl, rfl, .inl ⟨by decide, by decide⟩, _, _, rfl, rfl, _, _, rfl, rfl, .inr ⟨by decide, by decide⟩, .inl ⟨_, rfl, _, _, rfl, rfl, (by show (0 : Int) < 2147483647; decide), ?_⟩⟩
      generalize hA : (sd + 7919 * (c + 1)) * 48271 % 2147483647 = a1
      have a0 : 0 ≤ a1 := by rw [← hA]; exact Int.emod_nonneg _ (by decide)
      have a2 : a1 < 2147483647 := by rw [← hA]; exact Int.emod_lt_of_pos _ (by decide)
      refine ⟨_, rfl, _, rfl, _, _, rfl, rfl, ⟨by decide, by decide⟩, _, _, rfl, rfl, _, _, rfl, rfl, .inl ⟨by omega, by omega⟩, .inl ⟨_, rfl, _, _, rfl, rfl, (by show (0 : Int) < 2147483647; decide), ?_⟩⟩
      generalize hB : a1 * (a1 / 1009 + 69621) % 2147483647 = b1
      have b0 : 0 ≤ b1 := by rw [← hB]; exact Int.emod_nonneg _ (by decide)
      have b2 : b1 < 2147483647 := by rw [← hB]; exact Int.emod_lt_of_pos _ (by decide)
      refine ⟨_, rfl, _, rfl, _, _, rfl, rfl, ⟨by decide, by decide⟩, _, _, rfl, rfl, _, _, rfl, rfl, .inl ⟨by omega, by omega⟩, .inl ⟨_, rfl, _, _, rfl, rfl, (by show (0 : Int) < 2147483399; decide), ?_⟩⟩
      generalize hC : b1 * (b1 / 2003 + 40692) % 2147483399 = c1
      refine ⟨_, rfl, _, _, rfl, rfl, ⟨by decide, by decide⟩, .inl ⟨_, rfl, _, rfl, _, _, rfl, rfl, m0, ?_⟩⟩
      exact kk _ _ ⟨sd, c + 1, cells, g1, g2, h3⟩ Off.p (Int.emod_nonneg _ (by omega)) (Int.emod_lt_of_pos _ m0)
/-! ### the pool -/
theorem cutV_map (ns : List Int) (lo hi : Option Int) : ∃ ms : List Int, cutV (ns.map V.int) lo hi = ms.map V.int ∧ ms.length ≤ ns.length := by
  refine ⟨(ns.drop (HT.sIx (ns.map V.int).length 0 lo)).take (HT.sIx (ns.map V.int).length (ns.map V.int).length hi - HT.sIx (ns.map V.int).length 0 lo), ?_, ?_⟩
  · unfold cutV
    rw [← List.map_drop, ← List.map_take]
  · rw [List.length_take, List.length_drop]
    omega
theorem get_int {ns : List Int} {i : Nat} {x : V} (h : (ns.map V.int)[i]? = some x) : i < ns.length ∧ ∃ k, x = .int k := by
  rw [List.getElem?_map] at h
  cases e : ns[i]? with
  | none => rw [e] at h; cases h
  | some k =>
    rw [e] at h
    exact ⟨(List.getElem?_eq_some_iff.mp e).1, k, (Option.some.inj h).symm⟩
def spPool (K : PySem.W.Frag) : Sp := fun vs H Q _ => ∃ (a : Addr) (ns : List Int), vs = [.ref a] ∧ SqL K H a (ns.map V.int) ∧ ns.length ≤ 63 ∧ ∀ H' p q, PoolAt H' p q → Q (.ref p) H'
def nmPool : List Str := ["_law_script", "_law_seed", "_law_cell"]
theorem scPool : FnScope nmPool ["_law_script"] (defScope st_114) := ⟨rfl, rfl, rfl, by decide +kernel, rfl, by decide +kernel, by decide +kernel⟩
theorem same_upd {H : Hp} {p : Addr} {o : HO} (h : H p = none) : Same H (upd H p o) := fun b u e => (upd_ne (ne_of_none e h)).trans e
theorem ok_pool {x qual : Str} {params : Arguments} {f : Addr} {fd : FuncData} (F : FunD K x qual params (defBody st_114) (defScope st_114) [] [] f fd) (T : Lf mg) : FnOk P w K mg base CX0 1 f fd ["_law_script"] (spPool K) := by
  refine F.ok scPool (fun vs H Q E h => ?_) (fun cdv A outer s H vs Q E hr h => ?_)
  · obtain ⟨a, ns, rfl, _⟩ := h
    rfl
  · obtain ⟨a, ns, rfl, hS, hlen, kk⟩ := h
    refine ⟨_, PSs.nox (pss_cons (ps_set (i := 1) scPool.nd rfl (.inl rfl) (pe_op op_add (pe_op op_add (pe_op op_mod (pe_callTy call_int1 (by rfl) T.int (by decide +kernel) (pa_cons (pe_callB (cr_sum rfl) (by rfl) T.sum (by decide +kernel) (pa_cons (pe_slice sl_list (pv 0) po_none (po_some pe_int)) pa_nil)) pa_nil)) pe_int)
        (pe_callB call_len_seq (by rfl) T.len boot_len (pa_cons (pv 0) pa_nil))) pe_int))
      (pss_cons (ps_for PassesOwn.never rfl (pi_list (pe_slice sl_list (pv 0) po_none (po_some pe_int))) (pg_name (i := 2) scPool.nd rfl (.inl rfl))
        (pss_one (ps_set (i := 1) scPool.nd rfl (.inl rfl) (pe_op op_mod (pe_callTy call_int1 (by rfl) T.int (by decide +kernel) (pa_cons (pe_op op_add (pe_op op_add (pe_op op_mul (pv 1) pe_int) (pe_op op_mod (pe_callTy call_int1 (by rfl) T.int (by decide +kernel) (pa_cons (pv 2) pa_nil)) pe_int)) pe_int) pa_nil)) pe_int))))
      (pss_one (ps_ret (pe_lst (pa_cons (pv 1) (pa_cons pe_int (pa_cons (pe_lc (own := [("_law_cell", 2)]) (g := gName 2) (tt := tTest (tOp (rI0 fun i j => .bl (decide (i ≥ j))) (tCB (fun xs H Q => ∃ i, xs = [.int i] ∧ Q (.int (if i < 0 then -i else i)) H) (tCons (tVar 2) tNil)) (tOp (fun x y H Q => ∃ i j : Int, x = .int i ∧ y = .int j ∧ (0 ≤ j ∧ j ≤ 1000000 ∧ i.natAbs < 2 ^ 64) ∧ Q (.int (i ^ j.toNat)) H) (tC (.int 10)) (tC (.int 18))))) (by rfl) scPool.nd
          (pi_list (pe_slice sl_list (pv 0) po_none (po_some pe_int))) (blkOk_by (N := nmPool) (sc := defScope st_114) (by decide +kernel)) (fun _ _ _ _ _ => pg_name (i := 2) scPool.nd rfl (Or.inl rfl))
          (fun _ _ _ _ _ => pts_one (pt_cmpR op_ge (pe_callB call_abs (by rfl) T.abs (by decide +kernel) (pa_cons (pv 2) pa_nil)) (pe_op op_pow pe_int pe_int) (nomark _)))
          (fun _ _ _ _ _ => pe_callB call_abs (by rfl) T.abs (by decide +kernel) (pa_cons (pv 2) pa_nil))) pa_nil)))))))), ?_⟩
    obtain ⟨ma, ca, la⟩ := cutV_map ns none (some 1)
    obtain ⟨mb, cb, lb⟩ := cutV_map ns none (some 63)
    refine ⟨_, rfl, 1, rfl, a, _, rfl, hS, fun p1 n1 => ?_⟩
    rw [ca]
    refine ⟨p1, ma, rfl, SqL.of upd_same, .inl ⟨_, rfl, _, _, rfl, rfl, (by show (0 : Int) < 1000003; decide), ?_⟩⟩
    have S1 := (same_upd (o := .lst (ma.map V.int)) n1).seq hS
    refine ⟨_, rfl, a, _, rfl, .inl S1, _, _, rfl, rfl, _, _, rfl, rfl, ?_⟩
    refine ⟨_, rfl, 63, rfl, a, _, rfl, S1, fun p2 n2 => ?_⟩
    rw [cb]
    generalize hH2 : upd (upd H p1 (.lst (ma.map V.int))) p2 (.lst (mb.map V.int)) = H2
    have hL : H2 p2 = some (.lst (mb.map V.int)) := by rw [← hH2]; exact upd_same
    have S2 : SqL K H2 a (ns.map V.int) := by rw [← hH2]; exact (same_upd n2).seq S1
    refine ⟨p2, rfl, ⟨_, SqL.of hL⟩, for_list (K := K) (a := p2) (xs := mb.map V.int) (fun i σ H' => H' = H2 ∧ ∃ z v, σ = [some (.ref a), some (.int z), v]) ⟨rfl, _, none, rfl⟩ (fun i σ H' _ ⟨e, _⟩ => by rw [e]; exact SqL.of hL) ?_ ?_⟩
    · rintro i y σ H' hi ⟨rfl, z, v, rfl⟩
      obtain ⟨_, kx, rfl⟩ := get_int hi
      refine ⟨_, rfl, _, _, rfl, rfl, .inr ⟨by decide, by decide⟩, _, rfl, .inl ⟨_, rfl, _, _, rfl, rfl, (by show (0 : Int) < 2147483629; decide), _, _, rfl, rfl, _, _, rfl, rfl, .inl ⟨_, rfl, _, _, rfl, rfl, (by show (0 : Int) < 2147483647; decide), ?_⟩⟩⟩
      exact ⟨rfl, _, _, rfl⟩
    · rintro σ H' ⟨rfl, z, v, rfl⟩
      refine ⟨_, rfl, _, rfl, 63, rfl, a, _, rfl, S2, fun p3 n3 => ?_⟩
      rw [cb]
      generalize hH3 : upd H' p3 (.lst (mb.map V.int)) = H3
      have hL3 : H3 p3 = some (.lst (mb.map V.int)) := by rw [← hH3]; exact upd_same
      refine ⟨p3, rfl, ⟨_, SqL.of hL3⟩, fun D hD => lc_list (K := K) (a := p3) (xs := mb.map V.int) (fun i Hh => ∃ acc : List Int, Hh = upd H3 D (.lst (acc.map V.int)) ∧ acc.length ≤ i) ⟨[], rfl, Nat.le_refl _⟩ (fun i Hh _ ⟨acc, e, _⟩ => by
        rw [e]
        exact SqL.of ((upd_ne (ne_of_none hL3 hD)).trans hL3)) ?_ ?_⟩
      · rintro i y Hh hi ⟨acc, rfl, hacc⟩
        obtain ⟨hlt, kx, rfl⟩ := get_int hi
        have hsz : acc.length < sizeLine := by rw [sizeLine_eq]; omega
        refine ⟨rfl, _, rfl, _, rfl, _, _, rfl, rfl, ⟨by decide, by decide, by decide⟩, _, _, rfl, rfl, _, rfl, ?_⟩
        refine ite2 (fun _ => ?_) (fun _ => ?_)
        · refine ⟨_, rfl, _, rfl, _, upd_same, by rw [List.length_map]; exact hsz, acc ++ [if kx < 0 then -kx else kx], ?_, by rw [List.length_append]; exact Nat.succ_le_succ hacc⟩
          rw [upd_upd, List.map_append]
          rfl
        · exact ⟨acc, rfl, Nat.le_succ_of_le hacc⟩
      · rintro Hh ⟨acc, rfl, hacc⟩
        refine ⟨by show 3 ≤ sizeLine; rw [sizeLine_eq]; decide, fun l hl => ?_⟩
        refine kk _ l D ⟨z, 0, acc, upd_same, (upd_ne (ne_of_none upd_same hl)).trans upd_same, ?_⟩
        rw [List.length_map] at hacc
        omega
end
end Sd
end

section
set_option Elab.async false
set_option linter.all false
set_option maxRecDepth 100000
set_option maxHeartbeats 0
/-! Hn: the drawn names. -/
namespace Sd
open PySem PySem.Spec PyProof.Rows L2
/-! ### what a drawn name is -/
def five : List Str := ["x", "y", "not", "and", "or"]
/-- the k-th name: letters, one of them (at its place) tells the names apart; an own letter behind it where the word is taken -/
def NmK (pl : Nat) (st sp : Int) (k : Nat) (n : Str) : Prop :=
  ∃ w : List Nat, pl < w.length ∧ w.length ≤ 3 ∧ (∀ c ∈ w, 97 ≤ c ∧ c ≤ 122) ∧ w[pl]? = some (97 + ((st + sp * (k : Int)) % 26).toNat) ∧ ((n = ⟨w.toArray⟩ ∧ n ∉ five) ∨ ((⟨w.toArray⟩ : Str) ∈ five ∧ n = ⟨(w ++ [113]).toArray⟩))
def abc : Str := "abcdefghijklmnopqrstuvwxyz"
theorem abc_eq : abc.cps.toList = List.range' 97 26 := by decide +kernel
theorem abc_at {d : Int} (h0 : 0 ≤ d) (h1 : d < 26) : atI abc.cps.toList d = some (97 + d.toNat) := by
  obtain ⟨n, rfl⟩ := Int.eq_ofNat_of_zero_le h0
  have hn : n < 26 := by omega
  rw [abc_eq]
  have e : (List.range' 97 26)[n]? = some (97 + n) := by
    rw [List.getElem?_range' (by omega)]
    simp
  exact atI_nat e
theorem abc_len : abc.length ≤ sizeLine := by rw [sizeLine_eq]; decide +kernel
theorem str_ext {a b : Str} (h : a.cps.toList = b.cps.toList) : a = b := by
  obtain ⟨x⟩ := a
  obtain ⟨y⟩ := b
  have : x.toList = y.toList := h
  rw [Array.toList_inj.mp this]
/-- signs joined -/
theorem join_signs : ∀ cs : List Nat, Str.join (Str.ofString "") (cs.map fun c => (⟨#[c]⟩ : Str)) = ⟨cs.toArray⟩ := by
  intro cs
  refine str_ext ?_
  have e := TL.tl_join (Str.ofString "") (cs.map fun c => (⟨#[c]⟩ : Str))
  have ee : TL.tl (Str.ofString "") = [] := by decide +kernel
  have key : ∀ cs : List Nat, TL.joinL [] ((cs.map fun c => (⟨#[c]⟩ : Str)).map TL.tl) = cs := by
    intro cs
    induction cs with
    | nil => rfl
    | cons c r ih =>
      cases r with
      | nil => rfl
      | cons d r => exact congrArg (List.cons c) ih
  rw [ee, key] at e
  simpa using e
def spNames : Sp := fun vs H Q _ => ∃ p q, vs = [.ref p, .int 2] ∧ PoolAt H p q ∧ ∀ H' r n0 n1 (pl : Nat) (st sp : Int), PoolAt H' p q → H' r = some (.lst [.str n0, .str n1]) → NmK pl st sp 0 n0 → NmK pl st sp 1 n1 → 1 ≤ sp → sp ≤ 25 → Q (.ref r) H'
def nmNames : List Str := ["_law_pool_here", "_law_many", "_law_place", "_law_start", "_law_step", "_law_letters", "_law_names_here", "_law_k", "_law_word", "_law_name", "_law_at"]
section
variable {P : Program} {w : World} {K : PySem.W.Frag} {mg : Str → Option Value} {base : Heap}
theorem scNames : FnScope nmNames ["_law_pool_here", "_law_many"] (defScope st_116) := ⟨rfl, rfl, rfl, by decide +kernel, rfl, by decide +kernel, by decide +kernel⟩
theorem ok_names {x qual : Str} {params : Arguments} {f fD : Addr} {fd fdD : FuncData} (F : FunD K x qual params (defBody st_116) (defScope st_116) [] [] f fd) (T : Lf mg) (GD : FnOk P w K mg base CX0 1 fD fdD ["_law_pool_here", "_law_many"] spDraw) (mgD : mg "_law_draw" = some (.ref fD))
    (kpD : PySem.W.keepIn K (.ref fD) = true) (bD : Binds K fdD ["_law_pool_here", "_law_many"] []) : FnOk P w K mg base CX0 2 f fd ["_law_pool_here", "_law_many"] spNames := by
  refine F.ok scNames (fun vs H Q E h => ?_) (fun cdv A outer s H vs Q E hr h => ?_)
  · obtain ⟨p, q, rfl, _⟩ := h
    rfl
  · obtain ⟨p, q, rfl, hp, kk⟩ := h
    refine ⟨_, PSs.nox (pss_cons (ps_set (i := 2) scNames.nd rfl (.inl rfl) (pe_call GD hr (by rfl) mgD kpD bD .nil pass0 (pa_cons (pv 0) (pa_cons pe_int pa_nil))))
      (pss_cons (ps_set (i := 3) scNames.nd rfl (.inl rfl) (pe_call GD hr (by rfl) mgD kpD bD .nil pass0 (pa_cons (pv 0) (pa_cons pe_int pa_nil))))
      (pss_cons (ps_set (i := 4) scNames.nd rfl (.inl rfl) (pe_ix ix_list (pe_lst (pa_cons pe_int (pa_cons pe_int (pa_cons pe_int (pa_cons pe_int (pa_cons pe_int (pa_cons pe_int (pa_cons pe_int (pa_cons pe_int (pa_cons pe_int (pa_cons pe_int (pa_cons pe_int (pa_cons pe_int pa_nil)))))))))))))
        (pe_call GD hr (by rfl) mgD kpD bD .nil pass0 (pa_cons (pv 0) (pa_cons pe_int pa_nil))) (fun _ _ => rfl)))
      (pss_cons (ps_set (i := 5) scNames.nd rfl (.inr rfl) pe_str)
      (pss_cons (ps_set (i := 6) scNames.nd rfl (.inl rfl) (pe_lst pa_nil))
      (pss_cons (ps_for PassesOwn.never rfl (pi_range1 (by rfl) T.range (pa_cons (pv 1) pa_nil)) (pg_name (i := 7) scNames.nd rfl (.inl rfl))
        (pss_cons (ps_setLc (i := 8) (own := [("_law_at", 10)]) (g := gName 10) (tt := tYes) rfl scNames.nd rfl rfl (sw_true rfl rfl rfl (by decide +kernel))
          (pi_range1 (by rfl) T.range (pa_cons (pe_op op_add (pe_op op_add (pv 2) pe_int) (pe_call GD hr (by rfl) mgD kpD bD .nil pass0 (pa_cons (pv 0) (pa_cons (pe_op op_sub pe_int (pv 2)) pa_nil)))) pa_nil))
          (blkOk_by (N := nmNames) (sc := defScope st_116) (by decide +kernel)) (fun _ _ _ _ _ => pg_name (i := 10) scNames.nd rfl (Or.inl rfl)) (fun _ _ _ _ _ => pts_nil)
          (fun _ _ _ _ _ => pe_ix ix_str (pv 5) (pe_call GD hr (by rfl) mgD kpD bD .nil pass0 (pa_cons (pv 0) (pa_cons pe_int pa_nil))) (fun _ _ => rfl)))
        (pss_cons (ps_asg (pe_ix ix_str (pv 5) (pe_op op_mod (pe_callTy call_int1 (by rfl) T.int (by decide +kernel) (pa_cons (pe_op op_add (pv 3) (pe_op op_mul (pv 4) (pv 7))) pa_nil)) pe_int) (fun _ _ => rfl)) (pg_sub (pv 8) (pv 2) set_list))
        (pss_cons (ps_set (i := 9) scNames.nd rfl (.inl rfl) (pe_join pe_str (pv 8)))
        (pss_cons (ps_if (pt_cmpR op_in_seq (pv 9) (pe_lst (pa_cons pe_str (pa_cons pe_str (pa_cons pe_str (pa_cons pe_str (pa_cons pe_str pa_nil)))))) (by rfl)) (pss_one (ps_set (i := 9) scNames.nd rfl (.inl rfl) (pe_op op_add_str (pv 9) pe_str))) pss_nil)
        (pss_one (ps_expr (pe_bm PySem.F.plainAttrs_list PySem.F.slot_list_append PySem.F.type_list_append mt_append (pv 6) (pa_cons (pv 9) pa_nil)))))))))
      (pss_one (ps_ret (pv 6))))))))), ?_⟩
    -- three draws
    refine ⟨_, rfl, p, q, 3, rfl, by decide, by decide, hp, fun H1 d1 P1 _ d10 d11 => ?_⟩
    obtain ⟨pl, rfl⟩ := Int.eq_ofNat_of_zero_le d10
    refine ⟨_, rfl, p, q, 26, rfl, by decide, by decide, P1, fun H2 st P2 _ st0 st1 => ?_⟩
    refine ⟨by show 12 ≤ sizeLine; rw [sizeLine_eq]; decide, fun l0 hl0 => ?_⟩
    have nl0p : p ≠ l0 := by obtain ⟨_, _, _, h, _⟩ := P2; exact ne_of_none h hl0
    have nl0q : q ≠ l0 := by obtain ⟨_, _, _, _, h, _⟩ := P2; exact ne_of_none h hl0
    have P3 : PoolAt (upd H2 l0 (.lst [.int 1, .int 3, .int 5, .int 7, .int 9, .int 11, .int 15, .int 17, .int 19, .int 21, .int 23, .int 25])) p q := by
      obtain ⟨a, b, c, h1, h2, h3⟩ := P2
      exact ⟨a, b, c, (upd_ne nl0p).trans h1, (upd_ne nl0q).trans h2, h3⟩
    refine ⟨_, rfl, p, q, 12, rfl, by decide, by decide, P3, fun H4 d3 P4 O4 d30 d31 => ?_⟩
    have hl4 : H4 l0 = some (.lst [.int 1, .int 3, .int 5, .int 7, .int 9, .int 11, .int 15, .int 17, .int 19, .int 21, .int 23, .int 25]) := (O4 l0 nl0p.symm nl0q.symm).trans upd_same
    obtain ⟨m3, rfl⟩ := Int.eq_ofNat_of_zero_le d30
    have hm3 : m3 < 12 := by omega
    obtain ⟨sp, hsp, sp0, sp1⟩ : ∃ sp : Int, ([.int 1, .int 3, .int 5, .int 7, .int 9, .int 11, .int 15, .int 17, .int 19, .int 21, .int 23, .int 25] : List V)[m3]? = some (.int sp) ∧ 1 ≤ sp ∧ sp ≤ 25 := by
      have : ∀ m : Nat, m < 12 → ∃ sp : Int, ([.int 1, .int 3, .int 5, .int 7, .int 9, .int 11, .int 15, .int 17, .int 19, .int 21, .int 23, .int 25] : List V)[m]? = some (.int sp) ∧ 1 ≤ sp ∧ sp ≤ 25 := fun m hm => by
        match m, hm with
        | 0, _ => exact ⟨1, rfl, by decide, by decide⟩
        | 1, _ => exact ⟨3, rfl, by decide, by decide⟩
        | 2, _ => exact ⟨5, rfl, by decide, by decide⟩
        | 3, _ => exact ⟨7, rfl, by decide, by decide⟩
        | 4, _ => exact ⟨9, rfl, by decide, by decide⟩
        | 5, _ => exact ⟨11, rfl, by decide, by decide⟩
        | 6, _ => exact ⟨15, rfl, by decide, by decide⟩
        | 7, _ => exact ⟨17, rfl, by decide, by decide⟩
        | 8, _ => exact ⟨19, rfl, by decide, by decide⟩
        | 9, _ => exact ⟨21, rfl, by decide, by decide⟩
        | 10, _ => exact ⟨23, rfl, by decide, by decide⟩
        | 11, _ => exact ⟨25, rfl, by decide, by decide⟩
        | n + 12, hm => omega
      exact this m3 hm3
    refine ⟨l0, _, _, _, rfl, rfl, SqL.of hl4, atI_nat hsp, ?_⟩
    -- the list of the names
    refine ⟨Nat.zero_le _, fun r hr0 => ?_⟩
    have nrp : p ≠ r := by obtain ⟨_, _, _, h, _⟩ := P4; exact ne_of_none h hr0
    have nrq : q ≠ r := by obtain ⟨_, _, _, _, h, _⟩ := P4; exact ne_of_none h hr0
    have P5 : PoolAt (upd H4 r (.lst [])) p q := by
      obtain ⟨a, b, c, h1, h2, h3⟩ := P4
      exact ⟨a, b, c, (upd_ne nrp).trans h1, (upd_ne nrq).trans h2, h3⟩
    refine ⟨_, rfl, 2, rfl, by decide, by decide, for_range (lo := 0) (n := 2) (fun i σ Hi => ∃ ns : List Str, ns.length = i ∧ (∀ j n, ns[j]? = some n → NmK pl st sp j n) ∧ PoolAt Hi p q ∧ Hi r = some (.lst (ns.map V.str)) ∧
      ∃ a b c d, σ = [some (.ref p), some (.int 2), some (.int (pl : Int)), some (.int st), some (.int sp), some (.str abc), some (.ref r), a, b, c, d]) ⟨[], rfl, fun j n z => by simp at z, P5, upd_same, none, none, none, none, rfl⟩ ?_ ?_⟩
    · rintro k σ Hk hk ⟨ns, hns, hnm, Pk, hrk, a, b, c, d, rfl⟩
      have hk2 : k < 2 := hk
      -- the word's letters
      refine ⟨_, rfl, _, _, rfl, rfl, _, rfl, _, rfl, _, _, rfl, rfl, p, q, _, rfl, by omega, by omega, Pk, fun Ha dd Pa Oa dd0 dd1 => ⟨_, _, rfl, rfl, ?_⟩⟩
      obtain ⟨de, rfl⟩ := Int.eq_ofNat_of_zero_le dd0
      have hlen : pl + 1 + de ≤ 3 := by omega
      have hra : Ha r = some (.lst (ns.map V.str)) := (Oa r nrp.symm nrq.symm).trans hrk
      refine ⟨(pl : Int) + 1 + (de : Int), rfl, by omega, by omega, fun D hD => ?_⟩
      have nDp : p ≠ D := by obtain ⟨_, _, _, h, _⟩ := Pa; exact ne_of_none h hD
      have nDq : q ≠ D := by obtain ⟨_, _, _, _, h, _⟩ := Pa; exact ne_of_none h hD
      have nDr : r ≠ D := ne_of_none hra hD
      have eN : ((pl : Int) + 1 + (de : Int)).toNat = pl + 1 + de := by omega
      rw [eN]
      refine lc_range (lo := 0) (n := pl + 1 + de) (fun j Hh => ∃ cs : List Nat, cs.length = j ∧ (∀ c ∈ cs, 97 ≤ c ∧ c ≤ 122) ∧ PoolAt Hh p q ∧ Hh D = some (.lst (cs.map fun c => V.str ⟨#[c]⟩)) ∧ Hh r = some (.lst (ns.map V.str)))
        ⟨[], rfl, fun c hc => (by cases hc), ?_, upd_same, (upd_ne nDr).trans hra⟩ ?_ ?_
      · obtain ⟨x1, x2, x3, h1, h2, h3⟩ := Pa
        exact ⟨x1, x2, x3, (upd_ne nDp).trans h1, (upd_ne nDq).trans h2, h3⟩
      · rintro j Hh hj ⟨cs, hcs, hab, Ph, hDh, hrh⟩
        refine ⟨rfl, ?_⟩
        refine ⟨_, rfl, _, rfl, p, q, 26, rfl, by decide, by decide, Ph, fun Hi di Pi Oi di0 di1 => ?_⟩
        refine ⟨_, _, 97 + di.toNat, rfl, rfl, abc_len, abc_at di0 di1, ?_⟩
        have hDi : Hi D = some (.lst (cs.map fun c => V.str ⟨#[c]⟩)) := (Oi D nDp.symm nDq.symm).trans hDh
        refine ⟨_, hDi, by rw [List.length_map, sizeLine_eq]; omega, cs ++ [97 + di.toNat], by rw [List.length_append, hcs]; rfl, fun c hc => ?_, ?_, ?_, (upd_ne nDr).trans ((Oi r nrp.symm nrq.symm).trans hrh)⟩
        · rcases List.mem_append.mp hc with hc | hc
          · exact hab c hc
          · rw [List.mem_singleton.mp hc]
            omega
        · obtain ⟨x1, x2, x3, h1, h2, h3⟩ := Pi
          exact ⟨x1, x2, x3, (upd_ne nDp).trans h1, (upd_ne nDq).trans h2, h3⟩
        · rw [upd_same, List.map_append]
          rfl
      · rintro Hh ⟨cs, hcs, hab, Ph, hDh, hrh⟩
        -- the letter that tells
        have e0 : 0 ≤ (st + sp * (k : Int)) % 26 := Int.emod_nonneg _ (by decide)
        have e1 : (st + sp * (k : Int)) % 26 < 26 := Int.emod_lt_of_pos _ (by decide)
        have e2 : (st + sp * (0 + (k : Int))) % 26 = (st + sp * (k : Int)) % 26 := by rw [Int.zero_add]
        refine ⟨_, rfl, _, rfl, _, rfl, _, rfl, _, _, rfl, rfl, .inl ⟨by omega, by omega⟩, _, _, rfl, rfl, .inl ⟨_, rfl, _, _, rfl, rfl, (by show (0 : Int) < 26; decide), ?_⟩⟩
        refine ⟨_, _, 97 + ((st + sp * (k : Int)) % 26).toNat, rfl, rfl, abc_len, by rw [e2]; exact abc_at e0 e1, ?_⟩
        have hix : ixN ((cs.map fun c => V.str ⟨#[c]⟩).length) (pl : Int) = some pl := by
          unfold ixN
          rw [if_pos (by omega), if_pos (by rw [List.length_map, hcs]; omega)]
          simp
        refine ⟨_, rfl, _, rfl, D, _, _, pl, rfl, rfl, hDh, hix, ?_⟩
        generalize hw : cs.set pl (97 + ((st + sp * (k : Int)) % 26).toNat) = w
        have ew : (cs.map fun c => V.str ⟨#[c]⟩).set pl (.str ⟨#[97 + ((st + sp * (k : Int)) % 26).toNat]⟩) = (w.map fun c => (⟨#[c]⟩ : Str)).map V.str := by
          rw [← hw, List.map_map]
          exact List.map_set.symm
        have wl : w.length = pl + 1 + de := by rw [← hw, List.length_set]; exact hcs
        have wab : ∀ c ∈ w, 97 ≤ c ∧ c ≤ 122 := fun c hc => by
          rw [← hw] at hc
          rcases List.mem_or_eq_of_mem_set hc with hc | hc
          · exact hab c hc
          · rw [hc]
            omega
        have wat : w[pl]? = some (97 + ((st + sp * (k : Int)) % 26).toNat) := by
          rw [← hw, List.getElem?_set_self (by omega)]
        rw [ew]
        generalize hHj : upd Hh D (.lst ((w.map fun c => (⟨#[c]⟩ : Str)).map V.str)) = Hj
        have hDj : Hj D = some (.lst ((w.map fun c => (⟨#[c]⟩ : Str)).map V.str)) := by rw [← hHj]; exact upd_same
        have Pj : PoolAt Hj p q := by
          rw [← hHj]
          obtain ⟨x1, x2, x3, h1, h2, h3⟩ := Ph
          exact ⟨x1, x2, x3, (upd_ne nDp).trans h1, (upd_ne nDq).trans h2, h3⟩
        have hrj : Hj r = some (.lst (ns.map V.str)) := by rw [← hHj]; exact (upd_ne nDr).trans hrh
        -- joined
        have one : ∀ l : List Nat, ((l.map fun c => (⟨#[c]⟩ : Str)).map (·.length)).sum = l.length := fun l => by
          induction l with
          | nil => rfl
          | cons c l ih =>
            rw [List.map_cons, List.map_cons, List.sum_cons, ih, List.length_cons]
            show 1 + l.length = l.length + 1
            omega
        refine ⟨⟨_, rfl⟩, _, rfl, _, D, w.map fun c => (⟨#[c]⟩ : Str), rfl, rfl, .inl (SqL.of hDj), ?_, ?_⟩
        · rw [one, List.length_map]
          have : (Str.ofString "").length = 0 := by decide +kernel
          rw [this]
          omega
        have ej : Txt.join (Str.ofString "") (w.map fun c => (⟨#[c]⟩ : Str)) = ⟨w.toArray⟩ := (PySem.StrLaws.glued_eq_join _ _).trans (join_signs w)
        rw [ej]
        -- one of the words of the language?
        refine ⟨_, rfl, by show 5 ≤ sizeLine; rw [sizeLine_eq]; decide, fun l hl => ?_⟩
        have nlp : p ≠ l := by obtain ⟨_, _, _, h, _⟩ := Pj; exact ne_of_none h hl
        have nlq : q ≠ l := by obtain ⟨_, _, _, _, h, _⟩ := Pj; exact ne_of_none h hl
        have nlr : r ≠ l := ne_of_none hrj hl
        refine ⟨l, _, rfl, .inl (SqL.of upd_same), rfl, rfl, _, rfl, ?_⟩
        have Pl : PoolAt (upd Hj l (.lst [.str "x", .str "y", .str "not", .str "and", .str "or"])) p q := by
          obtain ⟨x1, x2, x3, h1, h2, h3⟩ := Pj
          exact ⟨x1, x2, x3, (upd_ne nlp).trans h1, (upd_ne nlq).trans h2, h3⟩
        have hrl : (upd Hj l (.lst [.str "x", .str "y", .str "not", .str "and", .str "or"])) r = some (.lst (ns.map V.str)) := (upd_ne nlr).trans hrj
        have inV5 : inV (.str ⟨w.toArray⟩) [.str "x", .str "y", .str "not", .str "and", .str "or"] = decide ((⟨w.toArray⟩ : Str) ∈ five) := by
          rw [show inV (.str ⟨w.toArray⟩) [.str "x", .str "y", .str "not", .str "and", .str "or"] = five.any (fun y => y == (⟨w.toArray⟩ : Str)) from rfl]
          by_cases hm : (⟨w.toArray⟩ : Str) ∈ five
          · rw [decide_eq_true hm]
            exact List.any_eq_true.mpr ⟨_, hm, by simp⟩
          · rw [decide_eq_false hm]
            cases z : five.any (fun y => y == (⟨w.toArray⟩ : Str)) with
            | false => rfl
            | true =>
              obtain ⟨y, hy, he⟩ := List.any_eq_true.mp z
              rw [beq_iff_eq] at he
              exact absurd (he ▸ hy) hm
        -- the name is kept
        have fin : ∀ n : Str, NmK pl st sp k n → ∀ (e : Option V), ∀ Hz, PoolAt Hz p q → Hz r = some (.lst (ns.map V.str)) → ∃ ms : List Str, ms.length = k + 1 ∧ (∀ j n, ms[j]? = some n → NmK pl st sp j n) ∧ PoolAt (upd Hz r (.lst (ns.map V.str ++ [.str n]))) p q ∧ (upd Hz r (.lst (ns.map V.str ++ [.str n]))) r = some (.lst (ms.map V.str)) := fun n hn e Hz Pz hz => by
          refine ⟨ns ++ [n], by rw [List.length_append, hns]; rfl, fun j m hj => ?_, ?_, ?_⟩
          · by_cases hj2 : j < ns.length
            · rw [List.getElem?_append_left hj2] at hj
              exact hnm j m hj
            · rw [List.getElem?_append_right (by omega)] at hj
              have : j = k := by
                have := (List.getElem?_eq_some_iff.mp hj).1
                rw [List.length_singleton] at this
                omega
              subst this
              rw [show j - ns.length = 0 by omega] at hj
              have hj : some n = some m := hj
              rw [← Option.some.inj hj]
              exact hn
          · obtain ⟨x1, x2, x3, h1, h2, h3⟩ := Pz
            exact ⟨x1, x2, x3, (upd_ne nrp).trans h1, (upd_ne nrq).trans h2, h3⟩
          · rw [upd_same, List.map_append]
            rfl
        have hsz : (ns.map V.str).length < sizeLine := by rw [List.length_map, hns, sizeLine_eq]; omega
        have hin : (if false = true then !inV (V.str ⟨w.toArray⟩) [.str "x", .str "y", .str "not", .str "and", .str "or"] else inV (V.str ⟨w.toArray⟩) [.str "x", .str "y", .str "not", .str "and", .str "or"]) = decide ((⟨w.toArray⟩ : Str) ∈ five) := by rw [if_neg Bool.false_ne_true, inV5]
        refine ite2 (fun hb => ?_) (fun hb => ?_)
        · have hm : (⟨w.toArray⟩ : Str) ∈ five := of_decide_eq_true (hin.symm.trans hb)
          have eq : (⟨w.toArray⟩ : Str) ++ ("q" : Str) = ⟨(w ++ [113]).toArray⟩ := by
            refine str_ext ?_
            show ((w.toArray : Array Nat) ++ (Str.ofString "q").cps).toList = _
            have : (Str.ofString "q").cps = #[113] := by decide +kernel
            rw [this]
            simp
          have hnk : NmK pl st sp k ((⟨w.toArray⟩ : Str) ++ ("q" : Str)) := ⟨w, by omega, by omega, wab, wat, .inr ⟨hm, eq⟩⟩
          obtain ⟨ms, f1, f2, f3, f4⟩ := fin _ hnk none _ Pl hrl
          refine ⟨_, rfl, _, _, rfl, rfl, ?_, ?_⟩
          · have h1 : (⟨w.toArray⟩ : Str).length = w.length := by show w.toArray.size = _; simp
            have h2 : (Str.ofString "q").length = 1 := by decide +kernel
            rw [h1, h2, sizeLine_eq]
            omega
          · exact ⟨_, rfl, .inl ⟨rfl, _, SqL.of hrl⟩, _, rfl, r, _, _, rfl, rfl, hrl, hsz, ms, f1, f2, f3, f4, _, _, _, _, rfl⟩
        · have hm : (⟨w.toArray⟩ : Str) ∉ five := fun hm => hb (hin.trans (decide_eq_true hm))
          have hnk : NmK pl st sp k (⟨w.toArray⟩ : Str) := ⟨w, by omega, by omega, wab, wat, .inl ⟨rfl, hm⟩⟩
          obtain ⟨ms, f1, f2, f3, f4⟩ := fin _ hnk none _ Pl hrl
          exact ⟨_, rfl, .inl ⟨rfl, _, SqL.of hrl⟩, _, rfl, r, _, _, rfl, rfl, hrl, hsz, ms, f1, f2, f3, f4, _, _, _, _, rfl⟩
    · rintro σ Hk ⟨ns, hns, hnm, Pk, hrk, a, b, c, d, rfl⟩
      match ns, hns with
      | [n0, n1], _ => exact ⟨_, rfl, kk Hk r n0 n1 pl st sp Pk hrk (hnm 0 n0 rfl) (hnm 1 n1 rfl) sp0 sp1⟩
end
end Sd
end

section
set_option Elab.async false
set_option linter.all false
set_option maxRecDepth 100000
set_option maxHeartbeats 0
/-! Hg: the texts by number, the attributes by number. -/
namespace Sd
open PySem PySem.Spec PyProof.Rows L2
/-- the program's texts from 4 on; 2 and 3 -/
def words : List Str := ["x", "y", "same", "mark", "true", "each", "some", "and", "or", "not", "other"]
def texts : List Str := ["tie", "one", "x", "y", "same", "mark", "true", "each", "some", "and", "or", "not", "other"]
/-- two drawn names -/
structure Nms (n0 n1 : Str) : Prop where
  g0 : GoodW n0
  g1 : GoodW n1
  ne : n0 ≠ n1
  w0 : n0 ∉ words
  w1 : n1 ∉ words
theorem texts_inj : ∀ i j, i < 13 → j < 13 → texts.getD i "" = texts.getD j "" → i = j := by
  have h : (List.range 13).all (fun i => (List.range 13).all fun j => decide (texts.getD i "" = texts.getD j "" → i = j)) = true := by decide +kernel
  intro i j hi hj
  have h1 := List.all_eq_true.mp h i (List.mem_range.mpr hi)
  have h2 := List.all_eq_true.mp h1 j (List.mem_range.mpr hj)
  exact of_decide_eq_true h2
def nu (n0 n1 : Str) (i : Nat) : Str := match i with
  | 0 => n0
  | 1 => n1
  | i + 2 => texts.getD i ""
theorem word_at {j : Nat} (h2 : 2 ≤ j) (h : j < 13) : texts.getD j "" ∈ words := by
  have : (List.range 13).all (fun j => decide (2 ≤ j → texts.getD j "" ∈ words)) = true := by decide +kernel
  exact of_decide_eq_true (List.all_eq_true.mp this j (List.mem_range.mpr h)) h2
theorem nu_inj {n0 n1 : Str} (N : Nms n0 n1) : ∀ i j, i < 15 → j < 15 → Ev.sep i j = true → nu n0 n1 i = nu n0 n1 j → i = j := by
  intro i j hi hj hs h
  rw [sep_eq] at hs
  match i, j, hi, hj, hs, h with
  | 0, 0, _, _, _, _ => rfl
  | 1, 1, _, _, _, _ => rfl
  | 0, 1, _, _, _, h => exact absurd h N.ne
  | 1, 0, _, _, _, h => exact absurd h.symm N.ne
  | 0, j + 2, _, hj, hs, h =>
    have h : n0 = texts.getD j "" := h
    exact absurd (h ▸ word_at (by omega) (by omega)) N.w0
  | 1, j + 2, _, hj, hs, h =>
    have h : n1 = texts.getD j "" := h
    exact absurd (h ▸ word_at (by omega) (by omega)) N.w1
  | i + 2, 0, hi, _, hs, h =>
    have h : texts.getD i "" = n0 := h
    exact absurd (h ▸ word_at (by omega) (by omega)) N.w0
  | i + 2, 1, hi, _, hs, h =>
    have h : texts.getD i "" = n1 := h
    exact absurd (h ▸ word_at (by omega) (by omega)) N.w1
  | i + 2, j + 2, hi, hj, hs, h => rw [texts_inj i j (by omega) (by omega) h]
def keptW : List Str := ["x", "y", "true", "not", "and", "or", "each", "some"]
theorem kept_sub : ∀ z ∈ keptW, z ∈ words := by
  have : keptW.all (fun z => decide (z ∈ words)) = true := by decide +kernel
  exact fun z hz => of_decide_eq_true (List.all_eq_true.mp this z hz)
theorem kept_out {n0 n1 : Str} (N : Nms n0 n1) {i : Nat} (hi : i < 2) : nu n0 n1 i ∉ keptW := fun z => by
  match i, hi, z with
  | 0, _, z => exact N.w0 (kept_sub _ z)
  | 1, _, z => exact N.w1 (kept_sub _ z)
/-! ### the attributes' names -/
def FNf (i : Nat) : Str := match Nat.blt i 42 with
  | true => fnm i
  | false => ⟨(List.replicate (i + 100) 97).toArray⟩
theorem FNf_lt {i : Nat} (h : i < 42) : FNf i = fnm i := by
  unfold FNf
  rw [show Nat.blt i 42 = true from Nat.ble_eq_true_of_le h]
theorem FNf_ge {i : Nat} (h : ¬ i < 42) : FNf i = ⟨(List.replicate (i + 100) 97).toArray⟩ := by
  unfold FNf
  rw [show Nat.blt i 42 = false from by
    cases q : Nat.blt i 42 with
    | false => rfl
    | true => exact absurd (Nat.le_of_ble_eq_true q) h]
theorem fnm_short : ∀ i, i < 42 → (fnm i).length < 100 := by
  have h : (List.range 42).all (fun i => decide ((fnm i).length < 100)) = true := by decide +kernel
  exact fun i hi => of_decide_eq_true (List.all_eq_true.mp h i (List.mem_range.mpr hi))
theorem fnm_inj : ∀ i j, i < 42 → j < 42 → fnm i = fnm j → i = j := by
  have h : (List.range 42).all (fun i => (List.range 42).all fun j => decide (fnm i = fnm j → i = j)) = true := by decide +kernel
  intro i j hi hj
  exact of_decide_eq_true (List.all_eq_true.mp (List.all_eq_true.mp h i (List.mem_range.mpr hi)) j (List.mem_range.mpr hj))
theorem rep_len (n : Nat) : (⟨(List.replicate n 97).toArray⟩ : Str).length = n := by
  show (List.replicate n 97).toArray.size = n
  simp
theorem FN_inj : ∀ i j, FNf i = FNf j → i = j := by
  intro i j h
  by_cases hi : i < 42
  · by_cases hj : j < 42
    · rw [FNf_lt hi, FNf_lt hj] at h
      exact fnm_inj i j hi hj h
    · rw [FNf_lt hi, FNf_ge hj] at h
      have h1 := fnm_short i hi
      rw [h, rep_len] at h1
      omega
  · by_cases hj : j < 42
    · rw [FNf_ge hi, FNf_lt hj] at h
      have h1 := fnm_short j hj
      rw [← h, rep_len] at h1
      omega
    · rw [FNf_ge hi, FNf_ge hj] at h
      have h1 := rep_len (i + 100)
      rw [h, rep_len] at h1
      omega
theorem FN_no {m : Str} (hl : m.length < 100) (h : (List.range 42).all (fun i => decide (fnm i ≠ m)) = true) : ∀ i, FNf i ≠ m := by
  intro i e
  by_cases hi : i < 42
  · rw [FNf_lt hi] at e
    exact of_decide_eq_true (List.all_eq_true.mp h i (List.mem_range.mpr hi)) e
  · rw [FNf_ge hi] at e
    rw [← e, rep_len] at hl
    omega
/-! ### the drawn names are good -/
theorem five_words {n : Str} {w : List Nat} (h : (⟨w.toArray⟩ : Str) ∈ five) (e : n = ⟨(w ++ [113]).toArray⟩) : n ∉ words ∧ w.length ≤ 3 := by
  have : five.all (fun z => decide ((⟨(z.cps.toList ++ [113]).toArray⟩ : Str) ∉ words ∧ z.cps.toList.length ≤ 3)) = true := by decide +kernel
  have h1 := of_decide_eq_true (List.all_eq_true.mp this _ h)
  rw [e]
  simpa using h1
theorem short_words : ∀ z ∈ words, z ∉ five → 4 ≤ z.cps.toList.length := by
  have : words.all (fun z => decide (z ∉ five → 4 ≤ z.cps.toList.length)) = true := by decide +kernel
  exact fun z hz => of_decide_eq_true (List.all_eq_true.mp this z hz)
theorem NmK.out {pl : Nat} {st sp : Int} {k : Nat} {n : Str} (h : NmK pl st sp k n) : n ∉ words := by
  obtain ⟨w, h1, h2, h3, h4, h5⟩ := h
  rcases h5 with ⟨e, nf⟩ | ⟨hf, e⟩
  · intro hw
    have := short_words n hw nf
    rw [e] at this
    have : 4 ≤ w.length := by simpa using this
    omega
  · exact (five_words hf e).1
theorem NmK.good {pl : Nat} {st sp : Int} {k : Nat} {n : Str} (h : NmK pl st sp k n) : GoodW n := by
  obtain ⟨w, h1, h2, h3, h4, h5⟩ := h
  rcases h5 with ⟨e, nf⟩ | ⟨hf, e⟩
  · rw [e]
    refine ⟨?_, ?_, ?_⟩
    · show 1 ≤ w.toArray.toList.length
      simp; omega
    · show w.toArray.toList.length ≤ 6
      simp; omega
    · intro c hc
      exact h3 c (by simpa using hc)
  · rw [e]
    refine ⟨?_, ?_, ?_⟩
    · show 1 ≤ ((w ++ [113]).toArray).toList.length
      simp
    · show ((w ++ [113]).toArray).toList.length ≤ 6
      simp; omega
    · intro c hc
      have hc : c ∈ w ++ [113] := by simpa using hc
      rcases List.mem_append.mp hc with hc | hc
      · exact h3 c hc
      · rw [List.mem_singleton.mp hc]
        decide
theorem NmK.at_ {pl : Nat} {st sp : Int} {k : Nat} {n : Str} (h : NmK pl st sp k n) : n.cps.toList[pl]? = some (97 + ((st + sp * (k : Int)) % 26).toNat) := by
  obtain ⟨w, h1, h2, h3, h4, h5⟩ := h
  rcases h5 with ⟨e, _⟩ | ⟨_, e⟩
  · rw [e]
    simpa using h4
  · rw [e]
    have : ((w ++ [113]).toArray).toList[pl]? = w[pl]? := by
      simp only [List.append_toArray, List.toList_toArray]
      rw [List.getElem?_append_left h1]
    exact this.trans h4
theorem nms_of {pl : Nat} {st sp : Int} {n0 n1 : Str} (h0 : NmK pl st sp 0 n0) (h1 : NmK pl st sp 1 n1) (s0 : 1 ≤ sp) (s1 : sp ≤ 25) : Nms n0 n1 := by
  refine ⟨h0.good, h1.good, fun e => ?_, h0.out, h1.out⟩
  have a := h0.at_
  rw [e, h1.at_] at a
  have a := Option.some.inj a
  have e0 : st + sp * ((0 : Nat) : Int) = st := by simp
  have e1 : st + sp * ((1 : Nat) : Int) = st + sp := by simp
  rw [e0, e1] at a
  omega
end Sd
end

section
set_option Elab.async false
set_option linter.all false
set_option maxRecDepth 100000
set_option maxHeartbeats 0

/-! Hx (printed by gen3.py): what the head tells, as Fx and Fd want it. -/
namespace Sd
open PySem PySem.Spec PyProof.Rows L2
open Ev (Hl Rs Rb Ra So Sr CallT)

theorem keptNone {K : PySem.W.Frag} {P : Params} {a : Addr} {ks : List Str} (h : He.dicW K a = some (He.keysIn P ks)) {z : Str} (hz : z ∉ ks) : PySem.W.nsIn K a z = some none := by
  unfold He.dicW at h
  cases q : K.lookup a with
  | none => rw [q] at h; cases h
  | some o =>
    obtain ⟨oc, od, dt, osl⟩ := o
    rw [q] at h
    cases oc with
    | type c =>
      cases od with
      | none =>
        cases dt with
        | dict es n =>
          have h1 : (match decide (c = "dict") && (osl.isEmpty && !(a == sysModules)) with
            | true => some (es.toList.map He.keyOf)
            | false => none) = some (He.keysIn P ks) := h
          cases b : decide (c = "dict") && (osl.isEmpty && !(a == sysModules)) with
          | false => rw [b] at h1; cases h1
          | true =>
            rw [b] at h1
            have h2 : es.toList.map He.keyOf = He.keysIn P ks := Option.some.inj h1
            have key : ∀ e ∈ es.toList, e.key.isStr z = false ∧ e.refKey = false := fun e he => by
              have h3 : He.keyOf e ∈ He.keysIn P ks := by rw [← h2]; exact List.mem_map_of_mem he
              obtain ⟨k, hk, h4⟩ := List.mem_map.mp h3
              unfold He.keyOf at h4
              split at h4
              · rename_i x t ex
                have h5 := Option.some.inj h4
                have h6 : k = x := (Prod.mk.inj h5).1
                subst h6
                have h7 : ¬ k = z := fun q => hz (q ▸ hk)
                constructor
                · rw [ex]
                  simp [Value.isStr, h7]
                · simp [DictEntry.refKey, ex]
              · cases h4
            unfold PySem.W.nsIn
            rw [q]
            have f1 : es.toList.find? (fun e => e.key.isStr z) = none := List.find?_eq_none.mpr fun e he => by rw [(key e he).1]; exact Bool.false_ne_true
            have f2 : es.toList.any (fun e => e.refKey) = false := List.any_eq_false.mpr fun e he => by rw [(key e he).2]; exact Bool.false_ne_true
            show (match es.toList.find? (fun e => e.key.isStr z) with | some e => some (some e.val) | none => if es.toList.any (fun e => e.refKey) then none else some none) = _
            rw [f1, f2]
            rfl
        | _ => cases h
      | some d => cases dt <;> cases h
    | _ => cases od <;> cases dt <;> cases h
noncomputable def mkC (K : PySem.W.Frag) (P : Program) (w : World) (n0 n1 : Str) (N : Nms n0 n1) : Cn := ⟨K, nu n0 n1, 15, fun j => He.ga K (cnm j), 13, FNf, nu_inj N, FN_inj, P, w⟩
noncomputable def mkG (K : PySem.W.Frag) (P : Program) (w : World) (mg : Str → Option Value) (base : Heap) (n0 n1 : Str) (N : Nms n0 n1) : Gb := ⟨mkC K P w n0 n1 N, P, w, mg, base⟩
def Aof (K : PySem.W.Frag) (i : Nat) : Addr := He.fAd K (pl i)
section
variable {K : PySem.W.Frag} {h : Heap} {mg : Str → Option Value} {w : World}
theorem SaysP.one (c : SaysP w K) : obs1 K = true := congrArg (fun z : AlP => z.1) c
theorem SaysP.two (c : SaysP w K) : obs2 K = val2 w := congrArg (fun z : AlP => z.2) c
theorem SaysP.fact (c : SaysP w K) (i : Nat) {f : He.Fa} (e : fa[i]? = some f) : f.ok K = true := List.all_eq_true.mp (He.ba c.one).1 f (List.mem_of_getElem? e)
theorem SaysP.noat (c : SaysP w K) {j f : Nat} (hj : j < 13) (hf : f < 42) : NoAttr K (He.ga K (cnm j)) (fnm f) := by
  have hm : He.Fa.noat (cnm j) (fnm f) ∈ fa := by
    unfold fa faN
    refine List.mem_append_right _ (List.mem_append_right _ (List.mem_append_right _ (List.mem_append_right _ (List.mem_append_right _ (List.mem_append_left _ ?_)))))
    exact List.mem_flatMap.mpr ⟨j, List.mem_range.mpr hj, List.mem_map.mpr ⟨f, List.mem_range.mpr hf, rfl⟩⟩
  exact He.noat_ok (List.all_eq_true.mp (He.ba c.one).1 _ hm)
theorem SaysP.cls (c : SaysP w K) {j : Nat} (hj : j < 13) : Cls K (He.ga K (cnm j)) := by
  have hm : He.Fa.cls (cnm j) ∈ fa := by
    unfold fa faC
    refine List.mem_append_right _ (List.mem_append_right _ (List.mem_append_right _ (List.mem_append_right _ (List.mem_append_left _ ?_))))
    exact List.mem_map.mpr ⟨j, List.mem_range.mpr hj, rfl⟩
  exact He.cls_ok (List.all_eq_true.mp (He.ba c.one).1 _ hm)
theorem SaysP.def_ (c : SaysP w K) (i : Nat) {d : He.DefD} (e : fn[i]? = some d) : ∃ fd, FunD K d.name d.qual d.params d.body d.scope (d.dvs K) (d.kws K) (He.fAd K d.at_) fd := by
  have c1 : (fn.all fun d => d.ok K) = true := congrArg (fun z : Al2 => z.1) c.two
  have c2 : (fn.map fun d => He.fnW K d.at_) = fn.map He.DefD.val := congrArg (fun z : Al2 => z.2.1) c.two
  have e2 : (fn.map fun d => He.fnW K d.at_)[i]? = (fn.map He.DefD.val)[i]? := by rw [c2]
  rw [List.getElem?_map, List.getElem?_map, e] at e2
  exact He.DefD.funD (Option.some.inj e2) (List.all_eq_true.mp c1 d (List.mem_of_getElem? e))
theorem SaysP.kept (c : SaysP w K) : He.dicW K (He.ga K "KEPT_WORDS") = some (He.keysIn w.params [("x" : Str), ("y" : Str), ("true" : Str), ("not" : Str), ("and" : Str), ("or" : Str), ("each" : Str), ("some" : Str)]) := by
  have c2 : (tabs.map fun t => He.dicW K (t.1 K)) = tabs.map fun t => some (He.keysIn w.params t.2) := congrArg (fun z : Al2 => z.2.2.1) c.two
  exact (List.cons.inj c2).1
theorem ex_ok (c : SaysP w K) : ex K = true := (He.ba c.one).2
theorem SaysP.marks (c : SaysP w K) : ∃ fd, FunD K "marks" "Tongue.marks" (defArgs st_marks) (defBody st_marks) (defScope st_marks) [] [] (getAt K "Tongue" "marks") fd := by
  obtain ⟨_, e⟩ := He.ba (ex_ok c)
  obtain ⟨_, e⟩ := He.ba e
  obtain ⟨_, e⟩ := He.ba e
  exact funA (congrArg (fun z : Al2 => z.2.2.2.1) c.two) (He.ba e).1
theorem sc_marks : FnScope ["self"] ["self"] (defScope st_marks) := ⟨rfl, rfl, rfl, by decide +kernel, rfl, by decide +kernel, by decide +kernel⟩
theorem SaysP.ties (c : SaysP w K) : ∃ fd, FunD K "ties" "Tongue.ties" (defArgs st_ties) (defBody st_ties) (defScope st_ties) [] [] (getAt K "Tongue" "ties") fd := by
  obtain ⟨_, e⟩ := He.ba (ex_ok c)
  obtain ⟨_, e⟩ := He.ba e
  obtain ⟨_, e⟩ := He.ba e
  exact funA (congrArg (fun z : Al2 => z.2.2.2.2) c.two) (He.ba e).2
theorem sc_ties : FnScope ["self"] ["self"] (defScope st_ties) := ⟨rfl, rfl, rfl, by decide +kernel, rfl, by decide +kernel, by decide +kernel⟩
theorem mkFx {P : Program} {base : Heap} {n0 n1 : Str} (X : K.In h) (G : h.Ns mainGlobals mg) (c : SaysP w K) (N : Nms n0 n1) : Fx (mkG K P w mg base n0 n1 N) (Aof K) where
  kept := ⟨He.ga K "KEPT_WORDS", (He.dicW_ok (w := w) c.kept).choose, (He.dicW_ok (w := w) c.kept).choose_spec.choose, He.glo_ok X G (c.fact 87 (by kernel_rfl)), (He.dicW_ok (w := w) c.kept).choose_spec.choose_spec, fun i hi => keptNone c.kept (kept_out N hi)⟩
  word := fun i hi => by
    match i, hi with
    | 0, _ => exact N.g0
    | 1, _ => exact N.g1
  letters := He.str_ok X G (c.fact 718 (by kernel_rfl))
  mostL := He.int_ok X G (c.fact 710 (by kernel_rfl))
  P := rfl
  w := rfl
  cls := ⟨fun k hk => c.cls hk, fun k f hk hf => by
    show NoAttr K (He.ga K (cnm k)) (FNf f)
    rw [FNf_lt hf]
    exact c.noat hk hf⟩
  f1 := He.glo_ok X G (x := "is_within") (c.fact 0 (by kernel_rfl))
  f2 := He.glo_ok X G (x := "is_sequence") (c.fact 1 (by kernel_rfl))
  f3 := He.glo_ok X G (x := "is_tuple") (c.fact 2 (by kernel_rfl))
  f4 := He.glo_ok X G (x := "is_headed") (c.fact 3 (by kernel_rfl))
  f5 := He.glo_ok X G (x := "is_key") (c.fact 4 (by kernel_rfl))
  f6 := He.glo_ok X G (x := "is_name") (c.fact 5 (by kernel_rfl))
  f7 := He.glo_ok X G (x := "is_test") (c.fact 6 (by kernel_rfl))
  f8 := He.glo_ok X G (x := "parts_of") (c.fact 7 (by kernel_rfl))
  f9 := He.glo_ok X G (x := "is_saying") (c.fact 8 (by kernel_rfl))
  f10 := He.glo_ok X G (x := "sayings_in") (c.fact 9 (by kernel_rfl))
  f11 := He.glo_ok X G (x := "own_names") (c.fact 10 (by kernel_rfl))
  f12 := He.glo_ok X G (x := "free_names") (c.fact 11 (by kernel_rfl))
  f13 := He.glo_ok X G (x := "check_saying") (c.fact 12 (by kernel_rfl))
  f14 := He.glo_ok X G (x := "check_closed") (c.fact 13 (by kernel_rfl))
  f16 := He.glo_ok X G (x := "node_of") (c.fact 14 (by kernel_rfl))
  f22 := He.glo_ok X G (x := "is_thing") (c.fact 15 (by kernel_rfl))
  f23 := He.glo_ok X G (x := "is_pair") (c.fact 16 (by kernel_rfl))
  f24 := He.glo_ok X G (x := "is_dict_of") (c.fact 17 (by kernel_rfl))
  f25 := He.glo_ok X G (x := "are_things") (c.fact 18 (by kernel_rfl))
  f26 := He.glo_ok X G (x := "are_pairs") (c.fact 19 (by kernel_rfl))
  f27 := He.glo_ok X G (x := "check_marks") (c.fact 20 (by kernel_rfl))
  f28 := He.glo_ok X G (x := "check_ties") (c.fact 21 (by kernel_rfl))
  f32 := He.glo_ok X G (x := "is_held") (c.fact 22 (by kernel_rfl))
  f33 := He.glo_ok X G (x := "holds") (c.fact 23 (by kernel_rfl))
  f34 := He.glo_ok X G (x := "check_plain") (c.fact 24 (by kernel_rfl))
  f35 := He.glo_ok X G (x := "cliques") (c.fact 25 (by kernel_rfl))
  f36 := He.glo_ok X G (x := "grow") (c.fact 26 (by kernel_rfl))
  f39 := He.glo_ok X G (x := "plain_cases") (c.fact 27 (by kernel_rfl))
  f40 := He.glo_ok X G (x := "meets") (c.fact 28 (by kernel_rfl))
  f43 := He.glo_ok X G (x := "rows_of_flags") (c.fact 29 (by kernel_rfl))
  f44 := He.glo_ok X G (x := "plain_kinds") (c.fact 30 (by kernel_rfl))
  f45 := He.glo_ok X G (x := "is_let") (c.fact 31 (by kernel_rfl))
  f47 := He.glo_ok X G (x := "both_ways") (c.fact 32 (by kernel_rfl))
  f48 := He.glo_ok X G (x := "turned_ways") (c.fact 33 (by kernel_rfl))
  f49 := He.glo_ok X G (x := "meets_bars") (c.fact 34 (by kernel_rfl))
  f50 := He.glo_ok X G (x := "meets_shut") (c.fact 35 (by kernel_rfl))
  f51 := He.glo_ok X G (x := "are_let") (c.fact 36 (by kernel_rfl))
  f52 := He.glo_ok X G (x := "sort_list") (c.fact 37 (by kernel_rfl))
  f53 := He.glo_ok X G (x := "bit_list") (c.fact 38 (by kernel_rfl))
  f60 := He.glo_ok X G (x := "is_less") (c.fact 39 (by kernel_rfl))
  f61 := He.glo_ok X G (x := "best_options") (c.fact 40 (by kernel_rfl))
  f63 := He.glo_ok X G (x := "common_wishes") (c.fact 41 (by kernel_rfl))
  f64 := He.glo_ok X G (x := "covers") (c.fact 42 (by kernel_rfl))
  f65 := He.glo_ok X G (x := "left_wishes") (c.fact 43 (by kernel_rfl))
  f66 := He.glo_ok X G (x := "lasting") (c.fact 44 (by kernel_rfl))
  f67 := He.glo_ok X G (x := "court_option") (c.fact 45 (by kernel_rfl))
  f68 := He.glo_ok X G (x := "court_wishes") (c.fact 46 (by kernel_rfl))
  f69 := He.glo_ok X G (x := "chosen_ways") (c.fact 47 (by kernel_rfl))
  f70 := He.glo_ok X G (x := "chosen_from") (c.fact 48 (by kernel_rfl))
  f71 := He.glo_ok X G (x := "has_all") (c.fact 49 (by kernel_rfl))
  f72 := He.glo_ok X G (x := "plan_with") (c.fact 50 (by kernel_rfl))
  f73 := He.glo_ok X G (x := "is_let_pair") (c.fact 51 (by kernel_rfl))
  f74 := He.glo_ok X G (x := "king_lots") (c.fact 52 (by kernel_rfl))
  f93 := He.glo_ok X G (x := "built") (c.fact 53 (by kernel_rfl))
  f100 := He.glo_ok X G (x := "searches") (c.fact 54 (by kernel_rfl))
  f101 := He.glo_ok X G (x := "some_world") (c.fact 55 (by kernel_rfl))
  f102 := He.glo_ok X G (x := "one_without") (c.fact 56 (by kernel_rfl))
  f103 := He.glo_ok X G (x := "parting") (c.fact 57 (by kernel_rfl))
  f104 := He.glo_ok X G (x := "check_given") (c.fact 58 (by kernel_rfl))
  f105 := He.glo_ok X G (x := "follows") (c.fact 59 (by kernel_rfl))
  f106 := He.glo_ok X G (x := "_law_pairs") (c.fact 60 (by kernel_rfl))
  f107 := He.glo_ok X G (x := "_law_reads") (c.fact 61 (by kernel_rfl))
  f108 := He.glo_ok X G (x := "is_function") (c.fact 62 (by kernel_rfl))
  f109 := He.glo_ok X G (x := "is_integer") (c.fact 63 (by kernel_rfl))
  f110 := He.glo_ok X G (x := "is_word") (c.fact 64 (by kernel_rfl))
  f111 := He.glo_ok X G (x := "are_names") (c.fact 65 (by kernel_rfl))
  f112 := He.glo_ok X G (x := "are_functions") (c.fact 66 (by kernel_rfl))
  c0 := He.glo_ok X G (x := "Node") (c.fact 71 (by kernel_rfl))
  k0 := ⟨show 0 < 13 by decide, He.mkr_ok (x := "Node") (c.fact 105 (by kernel_rfl))⟩
  c1 := He.glo_ok X G (x := "Reading") (c.fact 72 (by kernel_rfl))
  k1 := ⟨show 1 < 13 by decide, He.mkr_ok (x := "Reading") (c.fact 106 (by kernel_rfl))⟩
  c2 := He.glo_ok X G (x := "World") (c.fact 73 (by kernel_rfl))
  k2 := ⟨show 2 < 13 by decide, He.mkr_ok (x := "World") (c.fact 107 (by kernel_rfl))⟩
  c3 := He.glo_ok X G (x := "Case") (c.fact 74 (by kernel_rfl))
  k3 := ⟨show 3 < 13 by decide, He.mkr_ok (x := "Case") (c.fact 108 (by kernel_rfl))⟩
  c4 := He.glo_ok X G (x := "Kind") (c.fact 75 (by kernel_rfl))
  k4 := ⟨show 4 < 13 by decide, He.mkr_ok (x := "Kind") (c.fact 109 (by kernel_rfl))⟩
  c5 := He.glo_ok X G (x := "Way") (c.fact 76 (by kernel_rfl))
  k5 := ⟨show 5 < 13 by decide, He.mkr_ok (x := "Way") (c.fact 110 (by kernel_rfl))⟩
  c6 := He.glo_ok X G (x := "Option") (c.fact 77 (by kernel_rfl))
  k6 := ⟨show 6 < 13 by decide, He.mkr_ok (x := "Option") (c.fact 111 (by kernel_rfl))⟩
  c7 := He.glo_ok X G (x := "Sorts") (c.fact 78 (by kernel_rfl))
  k7 := ⟨show 7 < 13 by decide, He.mkr_ok (x := "Sorts") (c.fact 112 (by kernel_rfl))⟩
  c8 := He.glo_ok X G (x := "Plan") (c.fact 79 (by kernel_rfl))
  k8 := ⟨show 8 < 13 by decide, He.mkr_ok (x := "Plan") (c.fact 113 (by kernel_rfl))⟩
  c9 := He.glo_ok X G (x := "Search") (c.fact 80 (by kernel_rfl))
  k9 := ⟨show 9 < 13 by decide, He.mkr_ok (x := "Search") (c.fact 114 (by kernel_rfl))⟩
  c10 := He.glo_ok X G (x := "Builder") (c.fact 81 (by kernel_rfl))
  k10 := ⟨show 10 < 13 by decide, He.mkr_ok (x := "Builder") (c.fact 115 (by kernel_rfl))⟩
  c11 := He.glo_ok X G (x := "Judge") (c.fact 82 (by kernel_rfl))
  k11 := ⟨show 11 < 13 by decide, He.mkr_ok (x := "Judge") (c.fact 116 (by kernel_rfl))⟩
  c12 := He.glo_ok X G (x := "Tongue") (c.fact 83 (by kernel_rfl))
  k12 := ⟨show 12 < 13 by decide, He.mkr_ok (x := "Tongue") (c.fact 117 (by kernel_rfl))⟩
  b_all := He.free_ok X G (c.fact 89 (by kernel_rfl))
  b_any := He.free_ok X G (c.fact 90 (by kernel_rfl))
  b_bool := He.free_ok X G (c.fact 91 (by kernel_rfl))
  b_dict := He.free_ok X G (c.fact 92 (by kernel_rfl))
  b_enumerate := He.free_ok X G (c.fact 93 (by kernel_rfl))
  b_int := He.free_ok X G (c.fact 94 (by kernel_rfl))
  b_isinstance := He.free_ok X G (c.fact 95 (by kernel_rfl))
  b_len := He.free_ok X G (c.fact 96 (by kernel_rfl))
  b_list := He.free_ok X G (c.fact 97 (by kernel_rfl))
  b_max := He.free_ok X G (c.fact 98 (by kernel_rfl))
  b_range := He.free_ok X G (c.fact 99 (by kernel_rfl))
  b_sorted := He.free_ok X G (c.fact 100 (by kernel_rfl))
  b_str := He.free_ok X G (c.fact 101 (by kernel_rfl))
  b_tuple := He.free_ok X G (c.fact 103 (by kernel_rfl))
  b_zip := He.free_ok X G (c.fact 104 (by kernel_rfl))
  s2 := ⟨show 2 < 15 by decide, rfl⟩
  s3 := ⟨show 3 < 15 by decide, rfl⟩
  s4 := ⟨show 4 < 15 by decide, rfl⟩
  s5 := ⟨show 5 < 15 by decide, rfl⟩
  s6 := ⟨show 6 < 15 by decide, rfl⟩
  s7 := ⟨show 7 < 15 by decide, rfl⟩
  s8 := ⟨show 8 < 15 by decide, rfl⟩
  s9 := ⟨show 9 < 15 by decide, rfl⟩
  s10 := ⟨show 10 < 15 by decide, rfl⟩
  s11 := ⟨show 11 < 15 by decide, rfl⟩
  s12 := ⟨show 12 < 15 by decide, rfl⟩
  s13 := ⟨show 13 < 15 by decide, rfl⟩
  s14 := ⟨show 14 < 15 by decide, rfl⟩
  a0 := rfl
  a1 := rfl
  a2 := rfl
  a3 := rfl
  a4 := rfl
  a5 := rfl
  a6 := rfl
  a7 := rfl
  a8 := rfl
  a9 := rfl
  a10 := rfl
  a11 := rfl
  a12 := rfl
  a13 := rfl
  a14 := rfl
  a15 := rfl
  a16 := rfl
  a17 := rfl
  a18 := rfl
  a19 := rfl
  a20 := rfl
  a21 := rfl
  a22 := rfl
  a23 := rfl
  a24 := rfl
  a25 := rfl
  a26 := rfl
  a27 := rfl
  a28 := rfl
  a29 := rfl
  a30 := rfl
  a31 := rfl
  a32 := rfl
  a33 := rfl
  a34 := rfl
  a35 := rfl
  a36 := rfl
  a37 := rfl
  a38 := rfl
  a39 := rfl
  a40 := rfl
  a41 := rfl
  no_alone := FN_no (by decide +kernel) (by decide +kernel)
  no_bound_flag := FN_no (by decide +kernel) (by decide +kernel)
  no_closed := FN_no (by decide +kernel) (by decide +kernel)
  no_first_plan := FN_no (by decide +kernel) (by decide +kernel)
  no_flag := FN_no (by decide +kernel) (by decide +kernel)
  no_has := FN_no (by decide +kernel) (by decide +kernel)
  no_helper := FN_no (by decide +kernel) (by decide +kernel)
  no_king_left := FN_no (by decide +kernel) (by decide +kernel)
  no_leads := FN_no (by decide +kernel) (by decide +kernel)
  no_link := FN_no (by decide +kernel) (by decide +kernel)
  no_lone_plans := FN_no (by decide +kernel) (by decide +kernel)
  no_made_world := FN_no (by decide +kernel) (by decide +kernel)
  no_meet := FN_no (by decide +kernel) (by decide +kernel)
  no_met := FN_no (by decide +kernel) (by decide +kernel)
  no_more := FN_no (by decide +kernel) (by decide +kernel)
  no_options := FN_no (by decide +kernel) (by decide +kernel)
  no_own_wishes := FN_no (by decide +kernel) (by decide +kernel)
  no_put := FN_no (by decide +kernel) (by decide +kernel)
  no_put_common := FN_no (by decide +kernel) (by decide +kernel)
  no_put_courts := FN_no (by decide +kernel) (by decide +kernel)
  no_put_groups := FN_no (by decide +kernel) (by decide +kernel)
  no_put_kings := FN_no (by decide +kernel) (by decide +kernel)
  no_run := FN_no (by decide +kernel) (by decide +kernel)
  no_searched := FN_no (by decide +kernel) (by decide +kernel)
  no_smaller := FN_no (by decide +kernel) (by decide +kernel)
  no_sorts_with := FN_no (by decide +kernel) (by decide +kernel)
  no_tell_ways := FN_no (by decide +kernel) (by decide +kernel)
  no_test := FN_no (by decide +kernel) (by decide +kernel)
  no_turned := FN_no (by decide +kernel) (by decide +kernel)
  no_with_part := FN_no (by decide +kernel) (by decide +kernel)
  m18 := ⟨c.cls (j := 1) (by decide), He.meth_ok (x := "Reading") (m := "flag") (c.fact 677 (by kernel_rfl))⟩
  m19 := ⟨c.cls (j := 1) (by decide), He.meth_ok (x := "Reading") (m := "test") (c.fact 678 (by kernel_rfl))⟩
  m20 := ⟨c.cls (j := 1) (by decide), He.meth_ok (x := "Reading") (m := "bound_flag") (c.fact 679 (by kernel_rfl))⟩
  m21 := ⟨c.cls (j := 1) (by decide), He.meth_ok (x := "Reading") (m := "searched") (c.fact 680 (by kernel_rfl))⟩
  m30 := ⟨c.cls (j := 2) (by decide), He.meth_ok (x := "World") (m := "has") (c.fact 681 (by kernel_rfl))⟩
  m31 := ⟨c.cls (j := 2) (by decide), He.meth_ok (x := "World") (m := "leads") (c.fact 682 (by kernel_rfl))⟩
  m38 := ⟨c.cls (j := 3) (by decide), He.meth_ok (x := "Case") (m := "more") (c.fact 683 (by kernel_rfl))⟩
  m42 := ⟨c.cls (j := 4) (by decide), He.meth_ok (x := "Kind") (m := "with_part") (c.fact 684 (by kernel_rfl))⟩
  m55 := ⟨c.cls (j := 6) (by decide), He.meth_ok (x := "Option") (m := "turned") (c.fact 685 (by kernel_rfl))⟩
  m57 := ⟨c.cls (j := 7) (by decide), He.meth_ok (x := "Sorts") (m := "own_wishes") (c.fact 686 (by kernel_rfl))⟩
  m58 := ⟨c.cls (j := 7) (by decide), He.meth_ok (x := "Sorts") (m := "met") (c.fact 687 (by kernel_rfl))⟩
  m59 := ⟨c.cls (j := 7) (by decide), He.meth_ok (x := "Sorts") (m := "options") (c.fact 688 (by kernel_rfl))⟩
  m76 := ⟨c.cls (j := 9) (by decide), He.meth_ok (x := "Search") (m := "sorts_with") (c.fact 689 (by kernel_rfl))⟩
  m77 := ⟨c.cls (j := 9) (by decide), He.meth_ok (x := "Search") (m := "first_plan") (c.fact 690 (by kernel_rfl))⟩
  m78 := ⟨c.cls (j := 9) (by decide), He.meth_ok (x := "Search") (m := "smaller") (c.fact 691 (by kernel_rfl))⟩
  m79 := ⟨c.cls (j := 9) (by decide), He.meth_ok (x := "Search") (m := "lone_plans") (c.fact 692 (by kernel_rfl))⟩
  m81 := ⟨c.cls (j := 10) (by decide), He.meth_ok (x := "Builder") (m := "put") (c.fact 693 (by kernel_rfl))⟩
  m82 := ⟨c.cls (j := 10) (by decide), He.meth_ok (x := "Builder") (m := "link") (c.fact 694 (by kernel_rfl))⟩
  m83 := ⟨c.cls (j := 10) (by decide), He.meth_ok (x := "Builder") (m := "put_kings") (c.fact 695 (by kernel_rfl))⟩
  m84 := ⟨c.cls (j := 10) (by decide), He.meth_ok (x := "Builder") (m := "put_common") (c.fact 696 (by kernel_rfl))⟩
  m85 := ⟨c.cls (j := 10) (by decide), He.meth_ok (x := "Builder") (m := "put_courts") (c.fact 697 (by kernel_rfl))⟩
  m86 := ⟨c.cls (j := 10) (by decide), He.meth_ok (x := "Builder") (m := "king_left") (c.fact 698 (by kernel_rfl))⟩
  m87 := ⟨c.cls (j := 10) (by decide), He.meth_ok (x := "Builder") (m := "put_groups") (c.fact 699 (by kernel_rfl))⟩
  m88 := ⟨c.cls (j := 10) (by decide), He.meth_ok (x := "Builder") (m := "meet") (c.fact 700 (by kernel_rfl))⟩
  m89 := ⟨c.cls (j := 10) (by decide), He.meth_ok (x := "Builder") (m := "helper") (c.fact 701 (by kernel_rfl))⟩
  m90 := ⟨c.cls (j := 10) (by decide), He.meth_ok (x := "Builder") (m := "run") (c.fact 702 (by kernel_rfl))⟩
  m91 := ⟨c.cls (j := 10) (by decide), He.meth_ok (x := "Builder") (m := "made_world") (c.fact 703 (by kernel_rfl))⟩
  m92 := ⟨c.cls (j := 10) (by decide), He.meth_ok (x := "Builder") (m := "tell_ways") (c.fact 704 (by kernel_rfl))⟩
  m95 := ⟨c.cls (j := 11) (by decide), He.meth_ok (x := "Judge") (m := "alone") (c.fact 705 (by kernel_rfl))⟩
  m96 := ⟨c.cls (j := 11) (by decide), He.meth_ok (x := "Judge") (m := "closed") (c.fact 706 (by kernel_rfl))⟩
  m97 := ⟨c.cls (j := 11) (by decide), He.meth_ok (x := "Judge") (m := "flag") (c.fact 707 (by kernel_rfl))⟩
  m98 := ⟨c.cls (j := 11) (by decide), He.meth_ok (x := "Judge") (m := "bound_flag") (c.fact 708 (by kernel_rfl))⟩
  m99 := ⟨c.cls (j := 11) (by decide), He.meth_ok (x := "Judge") (m := "test") (c.fact 709 (by kernel_rfl))⟩
  g_BINDING := ⟨He.ga K "BINDING", He.glo_ok X G (c.fact 85 (by kernel_rfl)), fun M => ⟨_, _, rfl, .inl (tupT_ok (He.ba (He.ba (He.ba (ex_ok c)).1).1).2), ⟨_, _, rfl, ⟨by show _ < 15; decide, rfl⟩, _, _, rfl, ⟨by show _ < 15; decide, rfl⟩, rfl⟩⟩⟩
  g_GROUPS := He.int_ok X G (i := 3) (c.fact 714 (by kernel_rfl))
  g_JOINING := ⟨He.ga K "JOINING", He.glo_ok X G (c.fact 86 (by kernel_rfl)), fun M => ⟨_, _, rfl, .inl (tupT_ok (He.ba (He.ba (ex_ok c)).1).2), ⟨_, _, rfl, ⟨by show _ < 15; decide, rfl⟩, _, _, rfl, ⟨by show _ < 15; decide, rfl⟩, rfl⟩⟩⟩
  g_MOST_DEEP := He.int_ok X G (i := 20) (c.fact 712 (by kernel_rfl))
  g_MOST_GIVEN := He.int_ok X G (i := 5) (c.fact 715 (by kernel_rfl))
  g_MOST_MARKS := He.int_ok X G (i := 3) (c.fact 716 (by kernel_rfl))
  g_MOST_THINGS := He.int_ok X G (i := 300) (c.fact 713 (by kernel_rfl))
  g_MOST_TIES := He.int_ok X G (i := 2) (c.fact 717 (by kernel_rfl))
  g_MOST_TUPLES := He.int_ok X G (i := 100) (c.fact 711 (by kernel_rfl))
  g_NAMES := ⟨He.ga K "NAMES", He.glo_ok X G (c.fact 84 (by kernel_rfl)), fun M => ⟨_, _, rfl, .inl (tupT_ok (He.ba (He.ba (He.ba (ex_ok c)).1).1).1), ⟨_, _, rfl, ⟨by show _ < 15; decide, rfl⟩, _, _, rfl, ⟨by show _ < 15; decide, rfl⟩, rfl⟩⟩⟩
  pr_marks := by
    obtain ⟨fd, F⟩ := c.marks
    refine ⟨propAt K "Tongue" "marks", getAt K "Tongue" "marks", fd, c.cls (j := 12) (by decide), propB_ok (He.ba (He.ba (ex_ok c)).2).1, ?_, F.bindsN fun _ _ _ _ _ _ us hl => match us, hl with | [_], _ => rfl⟩
    obtain ⟨oc, od, dV, kV, doc, pm, an, cdv, ct, osl, rfl, lk, hcd, _, _⟩ := F.ex
    exact fn_getter (N := ["self"]) lk hcd sc_marks rfl rfl (c.cls (j := 12) (by decide)) (by
      have := c.noat (j := 12) (f := 1) (by decide) (by decide)
      exact this)
  pr_ties := by
    obtain ⟨fd, F⟩ := c.ties
    refine ⟨propAt K "Tongue" "ties", getAt K "Tongue" "ties", fd, c.cls (j := 12) (by decide), propB_ok (He.ba (He.ba (He.ba (ex_ok c)).2).2).1, ?_, F.bindsN fun _ _ _ _ _ _ us hl => match us, hl with | [_], _ => rfl⟩
    obtain ⟨oc, od, dV, kV, doc, pm, an, cdv, ct, osl, rfl, lk, hcd, _, _⟩ := F.ex
    exact fn_getter (N := ["self"]) lk hcd sc_ties rfl rfl (c.cls (j := 12) (by decide)) (by
      have := c.noat (j := 12) (f := 0) (by decide) (by decide)
      exact this)
theorem mkFd {P : Program} {base : Heap} {n0 n1 : Str} (c : SaysP w K) (N : Nms n0 n1) : Fd (mkG K P w mg base n0 n1 N) (Aof K) where
  f1 := c.def_ 0 (d := ⟨pl 1, "is_within", "is_within", defArgs st_1, defBody st_1, defScope st_1, [], []⟩) (by kernel_rfl)
  f2 := c.def_ 1 (d := ⟨pl 2, "is_sequence", "is_sequence", defArgs st_2, defBody st_2, defScope st_2, [], []⟩) (by kernel_rfl)
  f3 := c.def_ 2 (d := ⟨pl 3, "is_tuple", "is_tuple", defArgs st_3, defBody st_3, defScope st_3, [], []⟩) (by kernel_rfl)
  f4 := c.def_ 3 (d := ⟨pl 4, "is_headed", "is_headed", defArgs st_4, defBody st_4, defScope st_4, [], []⟩) (by kernel_rfl)
  f5 := c.def_ 4 (d := ⟨pl 5, "is_key", "is_key", defArgs st_5, defBody st_5, defScope st_5, [], []⟩) (by kernel_rfl)
  f6 := c.def_ 5 (d := ⟨pl 6, "is_name", "is_name", defArgs st_6, defBody st_6, defScope st_6, [], []⟩) (by kernel_rfl)
  f7 := c.def_ 6 (d := ⟨pl 7, "is_test", "is_test", defArgs st_7, defBody st_7, defScope st_7, [], []⟩) (by kernel_rfl)
  f8 := c.def_ 7 (d := ⟨pl 8, "parts_of", "parts_of", defArgs st_8, defBody st_8, defScope st_8, [], []⟩) (by kernel_rfl)
  f9 := c.def_ 8 (d := ⟨pl 9, "is_saying", "is_saying", defArgs st_9, defBody st_9, defScope st_9, [], []⟩) (by kernel_rfl)
  f10 := c.def_ 9 (d := ⟨pl 10, "sayings_in", "sayings_in", defArgs st_10, defBody st_10, defScope st_10, [], []⟩) (by kernel_rfl)
  f11 := c.def_ 10 (d := ⟨pl 11, "own_names", "own_names", defArgs st_11, defBody st_11, defScope st_11, [], []⟩) (by kernel_rfl)
  f12 := c.def_ 11 (d := ⟨pl 12, "free_names", "free_names", defArgs st_12, defBody st_12, defScope st_12, [], []⟩) (by kernel_rfl)
  f13 := c.def_ 12 (d := ⟨pl 13, "check_saying", "check_saying", defArgs st_13, defBody st_13, defScope st_13, [], []⟩) (by kernel_rfl)
  f14 := c.def_ 13 (d := ⟨pl 14, "check_closed", "check_closed", defArgs st_14, defBody st_14, defScope st_14, [], []⟩) (by kernel_rfl)
  f15 := c.def_ 14 (d := ⟨pl 15, "__init__", "Node.__init__", defArgs st_15, defBody st_15, defScope st_15, [], []⟩) (by kernel_rfl)
  f16 := c.def_ 15 (d := ⟨pl 16, "node_of", "node_of", defArgs st_16, defBody st_16, defScope st_16, [], []⟩) (by kernel_rfl)
  f17 := c.def_ 16 (d := ⟨pl 17, "__init__", "Reading.__init__", defArgs st_17, defBody st_17, defScope st_17, [], []⟩) (by kernel_rfl)
  f18 := c.def_ 17 (d := ⟨pl 18, "flag", "Reading.flag", defArgs st_18, defBody st_18, defScope st_18, [], []⟩) (by kernel_rfl)
  f19 := c.def_ 18 (d := ⟨pl 19, "test", "Reading.test", defArgs st_19, defBody st_19, defScope st_19, [], []⟩) (by kernel_rfl)
  f20 := c.def_ 19 (d := ⟨pl 20, "bound_flag", "Reading.bound_flag", defArgs st_20, defBody st_20, defScope st_20, [], []⟩) (by kernel_rfl)
  f21 := c.def_ 20 (d := ⟨pl 21, "searched", "Reading.searched", defArgs st_21, defBody st_21, defScope st_21, [], []⟩) (by kernel_rfl)
  f22 := c.def_ 21 (d := ⟨pl 22, "is_thing", "is_thing", defArgs st_22, defBody st_22, defScope st_22, [], []⟩) (by kernel_rfl)
  f23 := c.def_ 22 (d := ⟨pl 23, "is_pair", "is_pair", defArgs st_23, defBody st_23, defScope st_23, [], []⟩) (by kernel_rfl)
  f24 := c.def_ 23 (d := ⟨pl 24, "is_dict_of", "is_dict_of", defArgs st_24, defBody st_24, defScope st_24, [], []⟩) (by kernel_rfl)
  f25 := c.def_ 24 (d := ⟨pl 25, "are_things", "are_things", defArgs st_25, defBody st_25, defScope st_25, [], []⟩) (by kernel_rfl)
  f26 := c.def_ 25 (d := ⟨pl 26, "are_pairs", "are_pairs", defArgs st_26, defBody st_26, defScope st_26, [], []⟩) (by kernel_rfl)
  f27 := c.def_ 26 (d := ⟨pl 27, "check_marks", "check_marks", defArgs st_27, defBody st_27, defScope st_27, [], []⟩) (by kernel_rfl)
  f28 := c.def_ 27 (d := ⟨pl 28, "check_ties", "check_ties", defArgs st_28, defBody st_28, defScope st_28, [], []⟩) (by kernel_rfl)
  f29 := c.def_ 28 (d := ⟨pl 29, "__init__", "World.__init__", defArgs st_29, defBody st_29, defScope st_29, [], []⟩) (by kernel_rfl)
  f30 := c.def_ 29 (d := ⟨pl 30, "has", "World.has", defArgs st_30, defBody st_30, defScope st_30, [], []⟩) (by kernel_rfl)
  f31 := c.def_ 30 (d := ⟨pl 31, "leads", "World.leads", defArgs st_31, defBody st_31, defScope st_31, [], []⟩) (by kernel_rfl)
  f32 := c.def_ 31 (d := ⟨pl 32, "is_held", "is_held", defArgs st_32, defBody st_32, defScope st_32, [], []⟩) (by kernel_rfl)
  f33 := c.def_ 32 (d := ⟨pl 33, "holds", "holds", defArgs st_33, defBody st_33, defScope st_33, [], []⟩) (by kernel_rfl)
  f34 := c.def_ 33 (d := ⟨pl 34, "check_plain", "check_plain", defArgs st_34, defBody st_34, defScope st_34, [], []⟩) (by kernel_rfl)
  f35 := c.def_ 34 (d := ⟨pl 35, "cliques", "cliques", defArgs st_35, defBody st_35, defScope st_35, [], []⟩) (by kernel_rfl)
  f36 := c.def_ 35 (d := ⟨pl 36, "grow", "grow", defArgs st_36, defBody st_36, defScope st_36, [], []⟩) (by kernel_rfl)
  f37 := c.def_ 36 (d := ⟨pl 37, "__init__", "Case.__init__", defArgs st_37, defBody st_37, defScope st_37, [], []⟩) (by kernel_rfl)
  f38 := c.def_ 37 (d := ⟨pl 38, "more", "Case.more", defArgs st_38, defBody st_38, defScope st_38, [], []⟩) (by kernel_rfl)
  f39 := c.def_ 38 (d := ⟨pl 39, "plain_cases", "plain_cases", defArgs st_39, defBody st_39, defScope st_39, [], []⟩) (by kernel_rfl)
  f40 := c.def_ 39 (d := ⟨pl 40, "meets", "meets", defArgs st_40, defBody st_40, defScope st_40, [], []⟩) (by kernel_rfl)
  f41 := c.def_ 40 (d := ⟨pl 41, "__init__", "Kind.__init__", defArgs st_41, defBody st_41, defScope st_41, [], []⟩) (by kernel_rfl)
  f42 := c.def_ 41 (d := ⟨pl 42, "with_part", "Kind.with_part", defArgs st_42, defBody st_42, defScope st_42, [], []⟩) (by kernel_rfl)
  f43 := c.def_ 42 (d := ⟨pl 43, "rows_of_flags", "rows_of_flags", defArgs st_43, defBody st_43, defScope st_43, [], []⟩) (by kernel_rfl)
  f44 := c.def_ 43 (d := ⟨pl 44, "plain_kinds", "plain_kinds", defArgs st_44, defBody st_44, defScope st_44, [], []⟩) (by kernel_rfl)
  f45 := c.def_ 44 (d := ⟨pl 45, "is_let", "is_let", defArgs st_45, defBody st_45, defScope st_45, [], []⟩) (by kernel_rfl)
  f46 := c.def_ 45 (d := ⟨pl 46, "__init__", "Way.__init__", defArgs st_46, defBody st_46, defScope st_46, [], []⟩) (by kernel_rfl)
  f47 := c.def_ 46 (d := ⟨pl 47, "both_ways", "both_ways", defArgs st_47, defBody st_47, defScope st_47, [], []⟩) (by kernel_rfl)
  f48 := c.def_ 47 (d := ⟨pl 48, "turned_ways", "turned_ways", defArgs st_48, defBody st_48, defScope st_48, [], []⟩) (by kernel_rfl)
  f49 := c.def_ 48 (d := ⟨pl 49, "meets_bars", "meets_bars", defArgs st_49, defBody st_49, defScope st_49, [], []⟩) (by kernel_rfl)
  f50 := c.def_ 49 (d := ⟨pl 50, "meets_shut", "meets_shut", defArgs st_50, defBody st_50, defScope st_50, [], []⟩) (by kernel_rfl)
  f51 := c.def_ 50 (d := ⟨pl 51, "are_let", "are_let", defArgs st_51, defBody st_51, defScope st_51, [], []⟩) (by kernel_rfl)
  f52 := c.def_ 51 (d := ⟨pl 52, "sort_list", "sort_list", defArgs st_52, defBody st_52, defScope st_52, [], []⟩) (by kernel_rfl)
  f53 := c.def_ 52 (d := ⟨pl 53, "bit_list", "bit_list", defArgs st_53, defBody st_53, defScope st_53, [], []⟩) (by kernel_rfl)
  f54 := c.def_ 53 (d := ⟨pl 54, "__init__", "Option.__init__", defArgs st_54, defBody st_54, defScope st_54, [], []⟩) (by kernel_rfl)
  f55 := c.def_ 54 (d := ⟨pl 55, "turned", "Option.turned", defArgs st_55, defBody st_55, defScope st_55, [], []⟩) (by kernel_rfl)
  f56 := c.def_ 55 (d := ⟨pl 56, "__init__", "Sorts.__init__", defArgs st_56, defBody st_56, defScope st_56, [], []⟩) (by kernel_rfl)
  f57 := c.def_ 56 (d := ⟨pl 57, "own_wishes", "Sorts.own_wishes", defArgs st_57, defBody st_57, defScope st_57, [], []⟩) (by kernel_rfl)
  f58 := c.def_ 57 (d := ⟨pl 58, "met", "Sorts.met", defArgs st_58, defBody st_58, defScope st_58, [], []⟩) (by kernel_rfl)
  f59 := c.def_ 58 (d := ⟨pl 59, "options", "Sorts.options", defArgs st_59, defBody st_59, defScope st_59, [], []⟩) (by kernel_rfl)
  f60 := c.def_ 59 (d := ⟨pl 60, "is_less", "is_less", defArgs st_60, defBody st_60, defScope st_60, [], []⟩) (by kernel_rfl)
  f61 := c.def_ 60 (d := ⟨pl 61, "best_options", "best_options", defArgs st_61, defBody st_61, defScope st_61, [], []⟩) (by kernel_rfl)
  f62 := c.def_ 61 (d := ⟨pl 62, "__init__", "Plan.__init__", defArgs st_62, defBody st_62, defScope st_62, [], []⟩) (by kernel_rfl)
  f63 := c.def_ 62 (d := ⟨pl 63, "common_wishes", "common_wishes", defArgs st_63, defBody st_63, defScope st_63, [], []⟩) (by kernel_rfl)
  f64 := c.def_ 63 (d := ⟨pl 64, "covers", "covers", defArgs st_64, defBody st_64, defScope st_64, [], []⟩) (by kernel_rfl)
  f65 := c.def_ 64 (d := ⟨pl 65, "left_wishes", "left_wishes", defArgs st_65, defBody st_65, defScope st_65, [], []⟩) (by kernel_rfl)
  f66 := c.def_ 65 (d := ⟨pl 66, "lasting", "lasting", defArgs st_66, defBody st_66, defScope st_66, [], []⟩) (by kernel_rfl)
  f67 := c.def_ 66 (d := ⟨pl 67, "court_option", "court_option", defArgs st_67, defBody st_67, defScope st_67, [], []⟩) (by kernel_rfl)
  f68 := c.def_ 67 (d := ⟨pl 68, "court_wishes", "court_wishes", defArgs st_68, defBody st_68, defScope st_68, [], []⟩) (by kernel_rfl)
  f69 := c.def_ 68 (d := ⟨pl 69, "chosen_ways", "chosen_ways", defArgs st_69, defBody st_69, defScope st_69, [], []⟩) (by kernel_rfl)
  f70 := c.def_ 69 (d := ⟨pl 70, "chosen_from", "chosen_from", defArgs st_70, defBody st_70, defScope st_70, [], []⟩) (by kernel_rfl)
  f71 := c.def_ 70 (d := ⟨pl 71, "has_all", "has_all", defArgs st_71, defBody st_71, defScope st_71, [], []⟩) (by kernel_rfl)
  f72 := c.def_ 71 (d := ⟨pl 72, "plan_with", "plan_with", defArgs st_72, defBody st_72, defScope st_72, [], []⟩) (by kernel_rfl)
  f73 := c.def_ 72 (d := ⟨pl 73, "is_let_pair", "is_let_pair", defArgs st_73, defBody st_73, defScope st_73, [], []⟩) (by kernel_rfl)
  f74 := c.def_ 73 (d := ⟨pl 74, "king_lots", "king_lots", defArgs st_74, defBody st_74, defScope st_74, [], []⟩) (by kernel_rfl)
  f75 := c.def_ 74 (d := ⟨pl 75, "__init__", "Search.__init__", defArgs st_75, defBody st_75, defScope st_75, [], []⟩) (by kernel_rfl)
  f76 := c.def_ 75 (d := ⟨pl 76, "sorts_with", "Search.sorts_with", defArgs st_76, defBody st_76, defScope st_76, [], []⟩) (by kernel_rfl)
  f77 := c.def_ 76 (d := ⟨pl 77, "first_plan", "Search.first_plan", defArgs st_77, defBody st_77, defScope st_77, [], []⟩) (by kernel_rfl)
  f78 := c.def_ 77 (d := ⟨pl 78, "smaller", "Search.smaller", defArgs st_78, defBody st_78, defScope st_78, [], []⟩) (by kernel_rfl)
  f79 := c.def_ 78 (d := ⟨pl 79, "lone_plans", "Search.lone_plans", defArgs st_79, defBody st_79, defScope st_79, [], []⟩) (by kernel_rfl)
  f80 := c.def_ 79 (d := ⟨pl 80, "__init__", "Builder.__init__", defArgs st_80, defBody st_80, defScope st_80, [], []⟩) (by kernel_rfl)
  f81 := c.def_ 80 (d := ⟨pl 81, "put", "Builder.put", defArgs st_81, defBody st_81, defScope st_81, [], []⟩) (by kernel_rfl)
  f82 := c.def_ 81 (d := ⟨pl 82, "link", "Builder.link", defArgs st_82, defBody st_82, defScope st_82, [], []⟩) (by kernel_rfl)
  f83 := c.def_ 82 (d := ⟨pl 83, "put_kings", "Builder.put_kings", defArgs st_83, defBody st_83, defScope st_83, [], []⟩) (by kernel_rfl)
  f84 := c.def_ 83 (d := ⟨pl 84, "put_common", "Builder.put_common", defArgs st_84, defBody st_84, defScope st_84, [], []⟩) (by kernel_rfl)
  f85 := c.def_ 84 (d := ⟨pl 85, "put_courts", "Builder.put_courts", defArgs st_85, defBody st_85, defScope st_85, [], []⟩) (by kernel_rfl)
  f86 := c.def_ 85 (d := ⟨pl 86, "king_left", "Builder.king_left", defArgs st_86, defBody st_86, defScope st_86, [], []⟩) (by kernel_rfl)
  f87 := c.def_ 86 (d := ⟨pl 87, "put_groups", "Builder.put_groups", defArgs st_87, defBody st_87, defScope st_87, [], []⟩) (by kernel_rfl)
  f88 := c.def_ 87 (d := ⟨pl 88, "meet", "Builder.meet", defArgs st_88, defBody st_88, defScope st_88, [], []⟩) (by kernel_rfl)
  f89 := c.def_ 88 (d := ⟨pl 89, "helper", "Builder.helper", defArgs st_89, defBody st_89, defScope st_89, [], []⟩) (by kernel_rfl)
  f90 := c.def_ 89 (d := ⟨pl 90, "run", "Builder.run", defArgs st_90, defBody st_90, defScope st_90, [], []⟩) (by kernel_rfl)
  f91 := c.def_ 90 (d := ⟨pl 91, "made_world", "Builder.made_world", defArgs st_91, defBody st_91, defScope st_91, [], []⟩) (by kernel_rfl)
  f92 := c.def_ 91 (d := ⟨pl 92, "tell_ways", "Builder.tell_ways", defArgs st_92, defBody st_92, defScope st_92, [], []⟩) (by kernel_rfl)
  f93 := c.def_ 92 (d := ⟨pl 93, "built", "built", defArgs st_93, defBody st_93, defScope st_93, [], []⟩) (by kernel_rfl)
  f94 := c.def_ 93 (d := ⟨pl 94, "__init__", "Judge.__init__", defArgs st_94, defBody st_94, defScope st_94, [], []⟩) (by kernel_rfl)
  f95 := c.def_ 94 (d := ⟨pl 95, "alone", "Judge.alone", defArgs st_95, defBody st_95, defScope st_95, [], []⟩) (by kernel_rfl)
  f96 := c.def_ 95 (d := ⟨pl 96, "closed", "Judge.closed", defArgs st_96, defBody st_96, defScope st_96, [], []⟩) (by kernel_rfl)
  f97 := c.def_ 96 (d := ⟨pl 97, "flag", "Judge.flag", defArgs st_97, defBody st_97, defScope st_97, [], []⟩) (by kernel_rfl)
  f98 := c.def_ 97 (d := ⟨pl 98, "bound_flag", "Judge.bound_flag", defArgs st_98, defBody st_98, defScope st_98, [], []⟩) (by kernel_rfl)
  f99 := c.def_ 98 (d := ⟨pl 99, "test", "Judge.test", defArgs st_99, defBody st_99, defScope st_99, [], []⟩) (by kernel_rfl)
  f100 := c.def_ 99 (d := ⟨pl 100, "searches", "searches", defArgs st_100, defBody st_100, defScope st_100, [], []⟩) (by kernel_rfl)
  f101 := c.def_ 100 (d := ⟨pl 101, "some_world", "some_world", defArgs st_101, defBody st_101, defScope st_101, [], []⟩) (by kernel_rfl)
  f102 := c.def_ 101 (d := ⟨pl 102, "one_without", "one_without", defArgs st_102, defBody st_102, defScope st_102, [], []⟩) (by kernel_rfl)
  f103 := c.def_ 102 (d := ⟨pl 103, "parting", "parting", defArgs st_103, defBody st_103, defScope st_103, [], []⟩) (by kernel_rfl)
  f104 := c.def_ 103 (d := ⟨pl 104, "check_given", "check_given", defArgs st_104, defBody st_104, defScope st_104, [], []⟩) (by kernel_rfl)
  f105 := c.def_ 104 (d := ⟨pl 105, "follows", "follows", defArgs st_105, defBody st_105, defScope st_105, [], []⟩) (by kernel_rfl)
  f106 := c.def_ 105 (d := ⟨pl 106, "_law_pairs", "_law_pairs", defArgs st_106, defBody st_106, defScope st_106, [], []⟩) (by kernel_rfl)
  f107 := c.def_ 106 (d := ⟨pl 107, "_law_reads", "_law_reads", defArgs st_107, defBody st_107, defScope st_107, [], []⟩) (by kernel_rfl)
  f108 := c.def_ 107 (d := ⟨pl 108, "is_function", "is_function", defArgs st_108, defBody st_108, defScope st_108, [], []⟩) (by kernel_rfl)
  f109 := c.def_ 108 (d := ⟨pl 109, "is_integer", "is_integer", defArgs st_109, defBody st_109, defScope st_109, [], []⟩) (by kernel_rfl)
  f110 := c.def_ 109 (d := ⟨pl 110, "is_word", "is_word", defArgs st_110, defBody st_110, defScope st_110, [], []⟩) (by kernel_rfl)
  f111 := c.def_ 110 (d := ⟨pl 111, "are_names", "are_names", defArgs st_111, defBody st_111, defScope st_111, [], []⟩) (by kernel_rfl)
  f112 := c.def_ 111 (d := ⟨pl 112, "are_functions", "are_functions", defArgs st_112, defBody st_112, defScope st_112, [], []⟩) (by kernel_rfl)
  f113 := c.def_ 112 (d := ⟨pl 113, "__init__", "Tongue.__init__", defArgs st_113, defBody st_113, defScope st_113, [], []⟩) (by kernel_rfl)
theorem mkLf (X : K.In h) (G : h.Ns mainGlobals mg) (c : SaysP w K) : Lf mg := ⟨He.free_ok X G (c.fact 96 (by kernel_rfl)), He.free_ok X G (c.fact 94 (by kernel_rfl)), He.free_ok X G (c.fact 102 (by kernel_rfl)), He.free_ok X G (c.fact 88 (by kernel_rfl)), He.free_ok X G (c.fact 99 (by kernel_rfl))⟩
theorem mg_law_pool (X : K.In h) (G : h.Ns mainGlobals mg) (c : SaysP w K) : mg "_law_pool" = some (.ref (Aof K 114)) := He.glo_ok X G (x := "_law_pool") (c.fact 67 (by kernel_rfl))
theorem def_law_pool (c : SaysP w K) : ∃ fd, FunD K "_law_pool" "_law_pool" (defArgs st_114) (defBody st_114) (defScope st_114) [] [] (Aof K 114) fd := c.def_ 113 (d := ⟨pl 114, "_law_pool", "_law_pool", defArgs st_114, defBody st_114, defScope st_114, [], []⟩) (by kernel_rfl)
theorem mg_law_draw (X : K.In h) (G : h.Ns mainGlobals mg) (c : SaysP w K) : mg "_law_draw" = some (.ref (Aof K 115)) := He.glo_ok X G (x := "_law_draw") (c.fact 68 (by kernel_rfl))
theorem def_law_draw (c : SaysP w K) : ∃ fd, FunD K "_law_draw" "_law_draw" (defArgs st_115) (defBody st_115) (defScope st_115) [] [] (Aof K 115) fd := c.def_ 114 (d := ⟨pl 115, "_law_draw", "_law_draw", defArgs st_115, defBody st_115, defScope st_115, [], []⟩) (by kernel_rfl)
theorem mg_law_names (X : K.In h) (G : h.Ns mainGlobals mg) (c : SaysP w K) : mg "_law_names" = some (.ref (Aof K 116)) := He.glo_ok X G (x := "_law_names") (c.fact 69 (by kernel_rfl))
theorem def_law_names (c : SaysP w K) : ∃ fd, FunD K "_law_names" "_law_names" (defArgs st_116) (defBody st_116) (defScope st_116) [] [] (Aof K 116) fd := c.def_ 115 (d := ⟨pl 116, "_law_names", "_law_names", defArgs st_116, defBody st_116, defScope st_116, [], []⟩) (by kernel_rfl)
theorem mg_law (X : K.In h) (G : h.Ns mainGlobals mg) (c : SaysP w K) : mg "law" = some (.ref (Aof K 117)) := He.glo_ok X G (x := "law") (c.fact 70 (by kernel_rfl))
theorem def_law (c : SaysP w K) : ∃ fd, FunD K "law" "law" (defArgs st_117) (defBody st_117) (defScope st_117) [] [] (Aof K 117) fd := c.def_ 116 (d := ⟨pl 117, "law", "law", defArgs st_117, defBody st_117, defScope st_117, [], []⟩) (by kernel_rfl)
end
end Sd
end

section
set_option Elab.async false
set_option linter.all false
set_option maxRecDepth 100000
set_option maxHeartbeats 0

/-! La (printed by gen3.py): the statements of the law that the machine runs. -/
namespace Sd
open PySem PySem.Spec PyProof.Rows L2
open Ev (Hl Rs Rb Ra So Sr CallT)

def nmLaw : List Str := [("_law_script" : Str), ("_law_pool_here" : Str), ("_law_names_here" : Str), ("_law_tongue" : Str), ("_law_turn" : Str), ("_law_rows" : Str), ("_law_one" : Str), ("_law_other" : Str), ("_law_forth" : Str), ("_law_back" : Str), ("_law_told" : Str)]
def stL (i : Nat) : Stmt := (defBody st_117).getD i (.Pass ⟨0, 0, 0, 0⟩)
def forBody (s : Stmt) : List Stmt := match s with
  | .For _ _ b _ _ => b
  | _ => []
def turnB : List Stmt := forBody (stL 3)
def turnAt (i : Nat) : Stmt := turnB.getD i (.Pass ⟨0, 0, 0, 0⟩)
section
variable {g : Gb} {A : Nat → Addr} {X : Cx} {k : Nat}
theorem dl_3 (T : Fx g A) (L : Lv g A k) (L2 : ∀ j, k = j + 1 → Lv g A j) (C : Ctx g X nmLaw (defScope st_117) (fun _ => true) k) (hp : PassesOwn (model X.prog X.w) X.A X.env X.xe) : PS X (stL 2) (tS g.c (Ev.run Ev.fns k) Ev.b_l3) :=
  (ssw C (by kernel_rfl) (ce_make (fns := Ev.fns) (f := 126) (kc := 12) (init := 113) (np := 3) (pre := false) (frz := true) rfl C (fun j hj => (L2 j hj).d 113 4 rfl) T.k12.1 T.k12.2 (C.glb (by kernel_rfl)) T.c12 (ca_cons (ce_tupW (ca_cons (ce_idx C.K C.u1 (sv C (by kernel_rfl)) ce_int) ca_nil)) (ca_cons (ce_tupW (ca_cons (ce_idx C.K C.u1 (sv C (by kernel_rfl)) ce_int) ca_nil)) (ca_cons (ce_tup ca_nil) ca_nil))) (lenA_cons (lenA_cons (lenA_cons lenA_nil))) (C.ndb (by kernel_rfl))))
theorem dl_5 (T : Fx g A) (L : Lv g A k) (L2 : ∀ j, k = j + 1 → Lv g A j) (C : Ctx g X nmLaw (defScope st_117) (fun _ => true) k) (hp : PassesOwn (model X.prog X.w) X.A X.env X.xe) : PS X (turnAt 0) (tS g.c (Ev.run Ev.fns k) Ev.b_l5) :=
  (ssw C (by kernel_rfl) (sc1 C (L.d 106 2 rfl) T.f106 (by kernel_rfl) (ca_cons (ce_idx C.K C.u1 (sv C (by kernel_rfl)) ce_int) (ca_cons (ce_idx C.K C.u1 (sv C (by kernel_rfl)) ce_int) ca_nil)) (lenA_cons (lenA_cons lenA_nil))))
theorem dl_s2 (T : Fx g A) (L : Lv g A k) (L2 : ∀ j, k = j + 1 → Lv g A j) (C : Ctx g X nmLaw (defScope st_117) (fun _ => true) k) (hp : PassesOwn (model X.prog X.w) X.A X.env X.xe) : PS X (turnAt 2) (tS g.c (Ev.run Ev.fns k) Ev.b_s2) :=
  (ssw C (by kernel_rfl) (sc1 C (L.d 105 3 rfl) T.f105 (by kernel_rfl) (ca_cons (sv C (by kernel_rfl)) (ca_cons (ce_lstF (ca_cons (sv C (by kernel_rfl)) ca_nil)) (ca_cons (sv C (by kernel_rfl)) ca_nil))) (lenA_cons (lenA_cons (lenA_cons lenA_nil)))))
theorem dl_s3 (T : Fx g A) (L : Lv g A k) (L2 : ∀ j, k = j + 1 → Lv g A j) (C : Ctx g X nmLaw (defScope st_117) (fun _ => true) k) (hp : PassesOwn (model X.prog X.w) X.A X.env X.xe) : PS X (turnAt 3) (tS g.c (Ev.run Ev.fns k) Ev.b_s3) :=
  (cs_if (PW.pt (ct_or (ce_ne (ce_isN (sv C (by kernel_rfl))).1 (sv C (by kernel_rfl))).2 (ct_or1 (PW.pt (ct_and (ce_notN (sv C (by kernel_rfl))).2 (ct_and1 (PW.pt (ct_or (ct_not (ct_tr C.K (sc1 C (L.d 107 2 rfl) T.f107 (by kernel_rfl) (ca_cons (sv C (by kernel_rfl)) (ca_cons (sv C (by kernel_rfl)) ca_nil)) (lenA_cons (lenA_cons lenA_nil))))) (ct_or1 (ct_tr C.K (sc1 C (L.d 107 2 rfl) T.f107 (by kernel_rfl) (ca_cons (sv C (by kernel_rfl)) (ca_cons (sv C (by kernel_rfl)) ca_nil)) (lenA_cons (lenA_cons lenA_nil))))))))))))) (cs_one (cs_ret ce_bl)) cs_nil)
theorem dl_s4 (T : Fx g A) (L : Lv g A k) (L2 : ∀ j, k = j + 1 → Lv g A j) (C : Ctx g X nmLaw (defScope st_117) (fun _ => true) k) (hp : PassesOwn (model X.prog X.w) X.A X.env X.xe) : PS X (turnAt 4) (tS g.c (Ev.run Ev.fns k) Ev.b_s4) :=
  (ssw C (by kernel_rfl) (sc1 C (L.d 105 3 rfl) T.f105 (by kernel_rfl) (ca_cons (sv C (by kernel_rfl)) (ca_cons (ce_tup (ca_cons (sv C (by kernel_rfl)) ca_nil)) (ca_cons (sv C (by kernel_rfl)) ca_nil))) (lenA_cons (lenA_cons (lenA_cons lenA_nil)))))
theorem dl_s5 (T : Fx g A) (L : Lv g A k) (L2 : ∀ j, k = j + 1 → Lv g A j) (C : Ctx g X nmLaw (defScope st_117) (fun _ => true) k) (hp : PassesOwn (model X.prog X.w) X.A X.env X.xe) : PS X (turnAt 5) (tS g.c (Ev.run Ev.fns k) Ev.b_s5) :=
  (cs_if (PW.pt (ct_or (ce_ne (ce_isN (sv C (by kernel_rfl))).1 (sv C (by kernel_rfl))).2 (ct_or1 (PW.pt (ct_and (ce_notN (sv C (by kernel_rfl))).2 (ct_and1 (PW.pt (ct_or (ct_not (ct_tr C.K (sc1 C (L.d 107 2 rfl) T.f107 (by kernel_rfl) (ca_cons (sv C (by kernel_rfl)) (ca_cons (sv C (by kernel_rfl)) ca_nil)) (lenA_cons (lenA_cons lenA_nil))))) (ct_or1 (ct_tr C.K (sc1 C (L.d 107 2 rfl) T.f107 (by kernel_rfl) (ca_cons (sv C (by kernel_rfl)) (ca_cons (sv C (by kernel_rfl)) ca_nil)) (lenA_cons (lenA_cons lenA_nil))))))))))))) (cs_one (cs_ret ce_bl)) cs_nil)
theorem dl_s6 (T : Fx g A) (L : Lv g A k) (L2 : ∀ j, k = j + 1 → Lv g A j) (C : Ctx g X nmLaw (defScope st_117) (fun _ => true) k) (hp : PassesOwn (model X.prog X.w) X.A X.env X.xe) : PS X (turnAt 6) (tS g.c (Ev.run Ev.fns k) Ev.b_s6) :=
  (ssw C (by kernel_rfl) (sc1 C (L.d 103 3 rfl) T.f103 (by kernel_rfl) (ca_cons (sv C (by kernel_rfl)) (ca_cons (sv C (by kernel_rfl)) (ca_cons (sv C (by kernel_rfl)) ca_nil))) (lenA_cons (lenA_cons (lenA_cons lenA_nil)))))
theorem dl_s7 (T : Fx g A) (L : Lv g A k) (L2 : ∀ j, k = j + 1 → Lv g A j) (C : Ctx g X nmLaw (defScope st_117) (fun _ => true) k) (hp : PassesOwn (model X.prog X.w) X.A X.env X.xe) : PS X (turnAt 7) (tS g.c (Ev.run Ev.fns k) Ev.b_s7) :=
  (cs_if (ce_ne (ce_isN (sv C (by kernel_rfl))).1 (ce_and (sv C (by kernel_rfl)) (ce_one (sv C (by kernel_rfl))))).2 (cs_one (cs_ret ce_bl)) cs_nil)
theorem dl_s8 (T : Fx g A) (L : Lv g A k) (L2 : ∀ j, k = j + 1 → Lv g A j) (C : Ctx g X nmLaw (defScope st_117) (fun _ => true) k) (hp : PassesOwn (model X.prog X.w) X.A X.env X.xe) : PS X (turnAt 8) (tS g.c (Ev.run Ev.fns k) Ev.b_s8) :=
  (cs_if (PW.pt (ct_and (ce_notN (sv C (by kernel_rfl))).2 (ct_and1 (ce_ne (sc1 C (L.d 107 2 rfl) T.f107 (by kernel_rfl) (ca_cons (ce_idx C.K C.u1 (sv C (by kernel_rfl)) ce_int) (ca_cons (sv C (by kernel_rfl)) ca_nil)) (lenA_cons (lenA_cons lenA_nil))) (ce_eq (ce_idx C.K C.u1 (sv C (by kernel_rfl)) ce_int) (ce_str T.s3.1 T.s3.2)).1).2))) (cs_one (cs_ret ce_bl)) cs_nil)
end
end Sd
end

section
set_option Elab.async false
set_option linter.all false
set_option maxRecDepth 100000
set_option maxHeartbeats 0
/-! Lw: the law. -/
namespace Sd
open PySem PySem.Spec PyProof.Rows L2
open Ev (Hl Rs Rb Ra So Sr CallT)
/-! ### values without references move to any state that keeps what they hold -/
mutual
def refOk : Ev.W → Bool
  | .tup ws => refsOk ws
  | .wtup ws => refsOk ws
  | .lst ws => refsOk ws
  | .dct _ _ vs => refsOk vs
  | .obj _ _ vs => refsOk vs
  | .ref i => Nat.beq i 0
  | _ => true
def refsOk : List Ev.W → Bool
  | [] => true
  | w :: r => refOk w && refsOk r
end
structure Kp (M M' : Ms) : Prop where
  r0 : 0 < M'.n
  ρ : M'.ρ 0 = M.ρ 0
  keep : ∀ a o, M.H a = some o → ¬ M.P a → M'.H a = some o ∧ ¬ M'.P a
theorem Kp.rd {M M' : Ms} (e : Kp M M') {a : Addr} {u : HO} (n : ¬ M.P a) (h : Rd M.H a u) : Rd M'.H a u ∧ ¬ M'.P a := by
  rcases h with h | ⟨o, h⟩
  · exact ⟨.inl (e.keep _ _ h n).1, (e.keep _ _ h n).2⟩
  · exact ⟨.inr ⟨o, (e.keep _ _ h n).1⟩, (e.keep _ _ h n).2⟩
mutual
theorem RV.move {c : Cn} {M M' : Ms} (e : Kp M M') : ∀ (w : Ev.W) (v : V), refOk w = true → RV c M w v → RV c M' w v
  | .un, _, _, h => h
  | .non, _, _, h => h
  | .bl _, _, _, h => h
  | .nat _, _, _, h => h
  | .str _, _, _, h => h
  | .tup ws, v, q, h => by
    obtain ⟨a, xs, h1, h2, h3, h4⟩ := h
    obtain ⟨k1, k2⟩ := e.keep _ _ h3 h2
    exact ⟨a, xs, h1, k2, k1, RVs.move e ws xs q h4⟩
  | .wtup ws, v, q, h => by
    obtain ⟨a, xs, h1, h2, h4⟩ := h
    exact ⟨a, xs, h1, h2.imp id (fun ⟨n, o, z1, z2⟩ => ⟨(e.keep _ _ z1 n).2, o, (e.keep _ _ z1 n).1, z2⟩), RVs.move e ws xs q h4⟩
  | .lst ws, v, q, h => by
    obtain ⟨a, xs, h1, h2, h3, h4⟩ := h
    obtain ⟨k1, k2⟩ := e.keep _ _ h3 h2
    exact ⟨a, xs, h1, k2, k1, RVs.move e ws xs q h4⟩
  | .dct false ks vs, v, q, h => by
    obtain ⟨a, h1, h2, kvs, h3, h4, h5⟩ := h
    obtain ⟨k1, k2⟩ := e.rd h2 h3
    exact ⟨a, h1, k2, kvs, k1, h4, RVs.move e vs _ q h5⟩
  | .dct true ks vs, v, q, h => by
    obtain ⟨a, h1, h2, kvs, h3, h4, h5⟩ := h
    obtain ⟨k1, k2⟩ := e.rd h2 h3
    exact ⟨a, h1, k2, kvs, k1, h4, RVs.move e vs _ q h5⟩
  | .obj k ids vs, v, q, h => by
    obtain ⟨h0, a, dx, fs, h1, h2, h3, h4, h5⟩ := h
    obtain ⟨k1, k2⟩ := e.keep _ _ h3 h2
    exact ⟨h0, a, dx, fs, h1, k2, k1, h4, RVs.move e vs _ q h5⟩
  | .ref i, v, q, h => by
    have hi : i = 0 := nbq.mp q
    subst hi
    exact ⟨e.r0, by rw [e.ρ]; exact h.2⟩
  | .rng k, v, _, h => by
    obtain ⟨a, h1, h2, h3⟩ := h
    obtain ⟨k1, k2⟩ := e.keep _ _ h3 h2
    exact ⟨a, h1, k2, k1⟩
theorem RVs.move {c : Cn} {M M' : Ms} (e : Kp M M') : ∀ (ws : List Ev.W) (xs : List V), refsOk ws = true → RVs c M ws xs → RVs c M' ws xs
  | [], _, _, h => h
  | w :: ws, xs, q, h => by
    obtain ⟨x, r, h1, h2, h3⟩ := h
    have q : (refOk w && refsOk ws) = true := q
    rw [Bool.and_eq_true] at q
    exact ⟨x, r, h1, RV.move e w x q.1 h2, RVs.move e ws r q.2 h3⟩
end
/-- the state between the machine's runs: the pool's lists set apart, its own one under number 0 -/
def Mr (p q : Addr) (H : Hp) : Ms := ⟨fun _ => p, 1, fun a => a = p ∨ a = q, H, fun a => a = p ∨ a = q⟩
theorem rep_r {c : Cn} {p q : Addr} {H : Hp} (h : PoolAt H p q) : Rep c (Mr p q H) .nil := by
  obtain ⟨s, k, cells, h1, h2, _⟩ := h
  refine ⟨trivial, fun i o e => (by cases e), fun i j oi oj e => (by cases e), fun a => ⟨fun z => .inr z, fun z => z.elim (fun ⟨_, _, e, _⟩ => (by cases e)) id⟩, fun a e => ⟨?_, fun i o e => (by cases e)⟩⟩
  rcases e with e | e
  · have e : a = p := e
    subst e
    exact ⟨_, h1, fun xs z => by cases z⟩
  · have e : a = q := e
    subst e
    exact ⟨_, h2, fun xs z => by cases z⟩
theorem pool_keep {p q : Addr} {H : Hp} {M' : Ms} (h : PoolAt H p q) (x : Ext (Mr p q H) M') : PoolAt M'.H p q ∧ M'.ρ 0 = p := by
  obtain ⟨s, k, cells, h1, h2, h3⟩ := h
  refine ⟨⟨s, k, cells, ((x.hold p (.inl rfl)).2).trans h1, ((x.hold q (.inr rfl)).2).trans h2, h3⟩, x.ρ 0 Nat.zero_lt_one⟩
/-- behind a run -/
theorem kp_r {c : Cn} {p q : Addr} {M' : Ms} {H0 : Hp} {l' : Hl} (r : Rep c M' l') (x : Ext (Mr p q H0) M') : Kp M' (Mr p q M'.H) :=
  ⟨Nat.zero_lt_one, (x.ρ 0 Nat.zero_lt_one).symm, fun a o h n => ⟨h, fun z => n ((r.P a).mpr (.inr (x.hold a z).1))⟩⟩
theorem mask_at : ∀ (m : List Bool) (s : List Ev.W) (i : Nat) (w : Ev.W), (Ev.maskL m s)[i]? = some w → w = .un ∨ s[i]? = some w
  | [], s, i, w, h => .inr h
  | b :: m, [], i, w, h => by
    have h : ([] : List Ev.W)[i]? = some w := h
    simp at h
  | b :: m, u :: s, 0, w, h => by
    have h : some (Bool.rec (motive := fun _ => Ev.W) .un u b) = some w := h
    cases b with
    | false => exact .inl (Option.some.inj h).symm
    | true => exact .inr h
  | b :: m, u :: s, i + 1, w, h => mask_at m s i w h
theorem mask_len : ∀ (m : List Bool) (s : List Ev.W), (Ev.maskL m s).length = s.length
  | [], s => rfl
  | b :: m, [] => rfl
  | b :: m, u :: s => congrArg Nat.succ (mask_len m s)
theorem fin_of {m : List Bool} {r : So} {t : List Ev.W} (h : Ev.finS m r = some t) : ∃ s' n' l', r = .nx s' n' l' ∧ Ev.maskL m s' = t := by
  cases r with
  | nx s n l => exact ⟨s, n, l, rfl, Option.some.inj h⟩
  | _ => cases h
theorem refs_at : ∀ {t : List Ev.W} {i : Nat} {w : Ev.W}, refsOk t = true → t[i]? = some w → refOk w = true
  | [], i, w, _, e => by simp at e
  | u :: t, 0, w, h, e => by
    have h : (refOk u && refsOk t) = true := h
    rw [Bool.and_eq_true] at h
    rw [← Option.some.inj e]
    exact h.1
  | u :: t, i + 1, w, h, e => by
    have h : (refOk u && refsOk t) = true := h
    rw [Bool.and_eq_true] at h
    exact refs_at h.2 e
theorem sl_next {c : Cn} {p q : Addr} {M' : Ms} {H0 : Hp} {l' : Hl} {s' t : List Ev.W} {σ' : L2.St} {m : List Bool} (r : Rep c M' l') (x : Ext (Mr p q H0) M') (sl : Sl c M' s' σ') (hm : Ev.maskL m s' = t) (hr : refsOk t = true) : Sl c (Mr p q M'.H) t σ' := by
  subst hm
  refine ⟨(mask_len m s').trans sl.len, fun i w e => ?_⟩
  rcases mask_at m s' i w e with h | h
  · exact .inl h
  · rcases sl.at_ i w h with h2 | ⟨v, h2, h3⟩
    · exact .inl h2
    · exact .inr ⟨v, h2, RV.move (kp_r r x) w v (refs_at hr e) h3⟩
theorem sl_setUn {c : Cn} {M : Ms} {s : List Ev.W} {σ : L2.St} (h : Sl c M s σ) {i : Nat} (hi : s[i]? = some .un) (v : Option V) : Sl c M s (σ.set i v) := by
  refine ⟨by rw [List.length_set]; exact h.len, fun j w e => ?_⟩
  by_cases q : i = j
  · subst q
    rw [hi] at e
    exact .inl (Option.some.inj e).symm
  · rw [List.getElem?_set_ne q]
    exact h.at_ j w e
/-- the pool changes: what else is there stays -/
theorem kp_draw {p q : Addr} {H H' : Hp} (o : Off p q H H') : Kp (Mr p q H) (Mr p q H') :=
  ⟨Nat.zero_lt_one, rfl, fun a u h n => ⟨(o a (fun z => n (.inl z)) (fun z => n (.inr z))).trans h, n⟩⟩
theorem sl_draw {c : Cn} {p q : Addr} {H H' : Hp} {s : List Ev.W} {σ : L2.St} (o : Off p q H H') (h : Sl c (Mr p q H) s σ) (hr : refsOk s = true) : Sl c (Mr p q H') s σ :=
  ⟨h.len, fun i w e => (h.at_ i w e).imp id fun ⟨v, h1, h2⟩ => ⟨v, h1, RV.move (kp_draw o) w v (refs_at hr e) h2⟩⟩
theorem sl_get {c : Cn} {M : Ms} {s : List Ev.W} {σ : L2.St} (h : Sl c M s σ) {i : Nat} {w : Ev.W} (e : s[i]? = some w) (ne : w ≠ .un) : ∃ v, σ[i]? = some (some v) ∧ RV c M w v := (h.at_ i w e).resolve_left ne
theorem ps_any {X : Cx} {st : Stmt} {ι : Type} {t : ι → TS} (h : ∀ i, PS X st (t i)) : PS X st (fun D σ H => ∃ i, t i D σ H) := ⟨fun pins s σ H D I ⟨i, q⟩ => (h i).run pins s σ H D I q⟩
theorem pss_any {X : Cx} {st : List Stmt} {ι : Type} {t : ι → TS} (h : ∀ i, PSs X st (t i)) : PSs X st (fun D σ H => ∃ i, t i D σ H) := ⟨fun pins s σ H D I ⟨i, q⟩ => (h i).run pins s σ H D I q⟩
/-- a run of the machine from such a state: it ends in another -/
theorem run_next {c : Cn} {cl : CallT} {b : Ev.S} {p q : Addr} {H : Hp} {s t : List Ev.W} {m : List Bool} {σ : L2.St} {D : Ends} (hb : Ev.finS m (b cl s 1 .nil) = some t) (hr : refsOk t = true) (P : PoolAt H p q) (sl : Sl c (Mr p q H) s σ)
    (k : ∀ (σ' : L2.St) (H' : Hp), PoolAt H' p q → Sl c (Mr p q H') t σ' → D.nx σ' H') : tS c cl b D σ H := by
  obtain ⟨s', n', l', e, hm⟩ := fin_of hb
  refine ⟨Mr p q H, .nil, s, rfl, rep_r P, sl, ?_⟩
  have e2 : b cl s (Mr p q H).n .nil = .nx s' n' l' := e
  rw [e2]
  intro M' σ' hn r' x' sl'
  exact k σ' M'.H (pool_keep P x').1 (sl_next r' x' sl' hm hr)
theorem sl_mask {c : Cn} {M : Ms} {s : List Ev.W} {σ : L2.St} (h : Sl c M s σ) (m : List Bool) : Sl c M (Ev.maskL m s) σ :=
  ⟨(mask_len m s).trans h.len, fun i w e => (mask_at m s i w e).elim .inl fun z => h.at_ i w z⟩
theorem seq_imp {c : Cn} {cl : CallT} {ms mr : Ev.S} {D : Ends} {σ : L2.St} {H : Hp} (h : tS c cl (Ev.sSeq ms mr) D σ H) : tSeq (tS c cl ms) (tS c cl mr) D σ H := by
  obtain ⟨M, l, s, eH, r, sl, fin⟩ := h
  subst eH
  refine ⟨M, l, s, rfl, r, sl, ?_⟩
  have f : Fin c M D (So.rec (motive := fun _ => So) .err (fun s1 n1 l1 => mr cl s1 n1 l1) .rt .bk .ct (ms cl s M.n l)) := fin
  cases q : ms cl s M.n l with
  | err => rw [q] at f; exact f
  | nx s1 n1 l1 =>
    rw [q] at f
    intro M1 σ1 hn r1 x1 sl1
    subst hn
    exact ⟨M1, l1, s1, rfl, r1, sl1, Fin.mono x1 f⟩
  | rt w n1 l1 => rw [q] at f; exact f
  | bk s1 n1 l1 => rw [q] at f; exact f
  | ct s1 n1 l1 => rw [q] at f; exact f
/-- two statements that the machine runs, the rest behind them -/
theorem pss_blk {X : Cx} {c : Cn} {cl : CallT} {s1 s2 : Stmt} {m1 m2 : Ev.S} {rest : List Stmt} {u : TS} (h1 : PS X s1 (tS c cl m1)) (h2 : PS X s2 (tS c cl m2)) (h3 : PSs X rest u) : PSs X (s1 :: s2 :: rest) (tSeq (tS c cl (Ev.sSeq m1 m2)) u) :=
  pss_imp (pss_cons h1 (pss_cons h2 h3)) fun D σ H h => seq_imp (D := { D with nx := u D }) h
theorem sl_names {c : Cn} {p q r : Addr} {H : Hp} {n0 n1 : Str} (e0 : 1 < c.ns) (e1 : c.ν 0 = n0) (e2 : c.ν 1 = n1) (hp : PoolAt H p q) (hr : H r = some (.lst [.str n0, .str n1])) {x0 x3 x4 x5 x6 x7 x8 x9 x10 : Option V} :
    Sl c (Mr p q H) Ev.s3 [x0, some (.ref p), some (.ref r), x3, x4, x5, x6, x7, x8, x9, x10] := by
  have nr : ¬ (r = p ∨ r = q) := by
    obtain ⟨s, k, cells, h1, h2, _⟩ := hp
    rintro (rfl | rfl)
    · rw [h1] at hr
      cases hr
    · rw [h2] at hr
      have z := Option.some.inj hr
      injection z with z
      match cells, z with
      | [], z => cases z
      | [_], z => cases z
      | _ :: _ :: _ :: _, z => cases z
      | [_, _], z => cases z
  refine ⟨rfl, fun i w e => ?_⟩
  match i, e with
  | 0, e => exact .inl (Option.some.inj e).symm
  | 1, e => exact .inr ⟨.ref p, rfl, by rw [← Option.some.inj e]; exact ⟨Nat.zero_lt_one, rfl⟩⟩
  | 2, e => exact .inr ⟨.ref r, rfl, by
      rw [← Option.some.inj e]
      exact ⟨r, _, rfl, nr, hr, _, _, rfl, ⟨Nat.lt_of_succ_lt e0, by rw [e1]⟩, _, _, rfl, ⟨e0, by rw [e2]⟩, rfl⟩⟩
  | 3, e => exact .inl (Option.some.inj e).symm
  | 4, e => exact .inl (Option.some.inj e).symm
  | 5, e => exact .inl (Option.some.inj e).symm
  | 6, e => exact .inl (Option.some.inj e).symm
  | 7, e => exact .inl (Option.some.inj e).symm
  | 8, e => exact .inl (Option.some.inj e).symm
  | 9, e => exact .inl (Option.some.inj e).symm
  | 10, e => exact .inl (Option.some.inj e).symm
  | n + 11, e => cases e
/-! ### the law -/
def NmI : Type := { z : Str × Str // Nms z.1 z.2 }
def spLaw (K : PySem.W.Frag) : Sp := fun vs H Q _ => ∃ (a : Addr) (ns : List Int), vs = [.ref a] ∧ SqL K H a (ns.map V.int) ∧ ns.length ≤ 63 ∧ ∀ H', Q (.bl true) H'
theorem scLaw : FnScope nmLaw ["_law_script"] (defScope st_117) := ⟨rfl, rfl, rfl, by decide +kernel, rfl, by decide +kernel, by decide +kernel⟩
section
variable {P : Program} {w : World} {K : PySem.W.Frag} {mg : Str → Option Value} {base h : Heap}
/-- the turns' runs -/
structure Trn : Prop where
  t : ∀ d, d < 10 → ∃ a b f g, Ev.rowsW[d]? = some (Ev.rowW (a, b, f, g)) ∧ refsOk (Ev.sD a b f g) = true ∧ Ev.finS Ev.mD (Ev.b_lA (Ev.run Ev.fns 60) (Ev.sD a b f g) 1 .nil) = some (Ev.sD a b f g) ∧
    Ev.finS Ev.mD (Ev.b_lB (Ev.run Ev.fns 60) (Ev.sD a b f g) 1 .nil) = some (Ev.sD a b f g) ∧ Ev.finS Ev.mC (Ev.b_lC (Ev.run Ev.fns 60) (Ev.sD a b f g) 1 .nil) = some Ev.s0
theorem ok_law {x qual : Str} {params : Arguments} {f fP fN fD : Addr} {fd fdP fdN fdD : FuncData} (X : K.In h) (G : h.Ns mainGlobals mg) (c : SaysP w K) (TT : Trn) (F : FunD K x qual params (defBody st_117) (defScope st_117) [] [] f fd) (T : Lf mg)
    (GP : FnOk P w K mg base CX0 1 fP fdP ["_law_script"] (spPool K)) (mgP : mg "_law_pool" = some (.ref fP)) (kpP : PySem.W.keepIn K (.ref fP) = true) (bP : Binds K fdP ["_law_script"] [])
    (GN : FnOk P w K mg base CX0 2 fN fdN ["_law_pool_here", "_law_many"] spNames) (mgN : mg "_law_names" = some (.ref fN)) (kpN : PySem.W.keepIn K (.ref fN) = true) (bN : Binds K fdN ["_law_pool_here", "_law_many"] [])
    (GD : FnOk P w K mg base CX0 1 fD fdD ["_law_pool_here", "_law_many"] spDraw) (mgD : mg "_law_draw" = some (.ref fD)) (kpD : PySem.W.keepIn K (.ref fD) = true) (bD : Binds K fdD ["_law_pool_here", "_law_many"] []) :
    FnOk P w K mg base CX0 63 f fd ["_law_script"] (spLaw K) := by
  refine F.ok (k := 62) scLaw (fun vs H Q E h => ?_) (fun cdv A outer s H vs Q E hr h => ?_)
  · obtain ⟨a, ns, rfl, _⟩ := h
    rfl
  · obtain ⟨a, ns, rfl, hS, hlen, kk⟩ := h
    have TX : ∀ i : NmI, Fx (mkG K P w mg base i.1.1 i.1.2 i.2) (Aof K) := fun i => mkFx X G c i.2
    have LL := fun i : NmI => lv_all (TX i) (mkFd c i.2) 60
    have CC : ∀ i : NmI, Ctx (mkG K P w mg base i.1.1 i.1.2 i.2) (cxOf CX0 P w K mg base nmLaw qual (defScope st_117) f cdv A outer s H E).nox nmLaw (defScope st_117) (fun _ => true) 60 := fun i => ⟨rfl, rfl, rfl, rfl, rfl, scLaw.nd, rfl, rfl, rfl, rfl, hr⟩
    refine ⟨_, PSs.nox (pss_cons (ps_set (i := 1) scLaw.nd rfl (.inl rfl) (pe_call GP (hr.mono (by decide)) (by rfl) mgP kpP bP .nil pass0 (pa_cons (pv 0) pa_nil)))
      (pss_cons (ps_set (i := 2) scLaw.nd rfl (.inl rfl) (pe_call GN (hr.mono (by decide)) (by rfl) mgN kpN bN .nil pass0 (pa_cons (pv 1) (pa_cons pe_int pa_nil))))
      (pss_cons (ps_any fun i => dl_3 (TX i) (LL i).1 (LL i).2 (CC i) PassesOwn.never)
      (pss_cons (ps_for PassesOwn.never rfl (pi_range1 (by rfl) T.range (pa_cons pe_int pa_nil)) (pg_name (i := 4) scLaw.nd rfl (.inl rfl))
        (pss_cons (ps_any fun i => dl_5 (TX i) (LL i).1 (LL i).2 (CC i) PassesOwn.never)
        (pss_cons (ps_asg (pe_ix ix_list (pv 5) (pe_call GD (hr.mono (by decide)) (by rfl) mgD kpD bD .nil pass0 (pa_cons (pv 1) (pa_cons (pe_callB call_len_seq (by rfl) T.len boot_len (pa_cons (pv 5) pa_nil)) pa_nil))) (fun _ _ => rfl))
            (pg_tup rfl (pgs_cons (pg_name (i := 6) scLaw.nd rfl (.inl rfl)) (pgs_cons (pg_name (i := 7) scLaw.nd rfl (.inl rfl)) (pgs_cons (pg_name (i := 8) scLaw.nd rfl (.inl rfl)) (pgs_cons (pg_name (i := 9) scLaw.nd rfl (.inl rfl)) pgs_nil))))))
        (pss_any fun i => pss_blk (dl_s2 (TX i) (LL i).1 (LL i).2 (CC i) PassesOwn.never) (dl_s3 (TX i) (LL i).1 (LL i).2 (CC i) PassesOwn.never)
        (pss_any fun i => pss_blk (dl_s4 (TX i) (LL i).1 (LL i).2 (CC i) PassesOwn.never) (dl_s5 (TX i) (LL i).1 (LL i).2 (CC i) PassesOwn.never)
        (pss_any fun i => cs_cons (dl_s6 (TX i) (LL i).1 (LL i).2 (CC i) PassesOwn.never) (cs_cons (dl_s7 (TX i) (LL i).1 (LL i).2 (CC i) PassesOwn.never) (cs_one (dl_s8 (TX i) (LL i).1 (LL i).2 (CC i) PassesOwn.never)))))))))
      (pss_one (ps_ret pe_bl)))))), ?_⟩
    refine ⟨_, rfl, a, ns, rfl, hS, hlen, fun H1 p q P1 => ?_⟩
    refine ⟨_, rfl, p, q, rfl, P1, fun H2 r n0 n1 pl st sp P2 hr2 k0 k1 s0 s1 => ?_⟩
    have N := nms_of k0 k1 s0 s1
    let I : NmI := ⟨(n0, n1), N⟩
    refine ⟨I, run_next Ev.ev3 (by rfl) P2 (sl_names (by show 1 < 15; decide) rfl rfl P2 hr2) fun σ3 H3 P3 sl3 => ?_⟩
    refine ⟨3, rfl, by decide, by decide, for_range (lo := 0) (n := 3) (fun _ σ H => PoolAt H p q ∧ Sl (mkC K P w n0 n1 N) (Mr p q H) Ev.s0 σ) ⟨P3, sl3⟩ ?_ ?_⟩
    · rintro k σ Hk hk ⟨Pk, slk⟩
      refine ⟨I, run_next Ev.ev5 (by rfl) Pk (sl_setUn slk rfl _) fun σ5 H5 P5 sl5 => ?_⟩
      obtain ⟨v5, g5, rv5⟩ := sl_get sl5 (i := 5) rfl (fun z => by cases z)
      obtain ⟨v1, g1, rv1⟩ := sl_get sl5 (i := 1) rfl (fun z => by cases z)
      have ev1 : v1 = .ref p := rv1.2
      subst ev1
      have rv5' := rv5
      obtain ⟨ra, xs, rfl, hra, hxs, hrs⟩ := rv5'
      have lxs : xs.length = 10 := hrs.length.symm
      refine ⟨_, g5, _, g1, _, g5, ra, xs, rfl, .inl (SqL.of hxs), p, q, 10, by rw [lxs]; rfl, by decide, by decide, P5, fun H6 d P6 O6 d0 d1 => ?_⟩
      obtain ⟨dn, rfl⟩ := Int.eq_ofNat_of_zero_le d0
      obtain ⟨ta, tb, tf, tg, e0, eR, eA, eB, eC⟩ := TT.t dn (by omega)
      obtain ⟨ra2, xs2, era, hra2, hxs2, hrs2⟩ := RV.move (kp_draw O6) _ _ (by rfl) rv5
      cases era
      obtain ⟨xv, exv, rvx⟩ := hrs2.get e0
      obtain ⟨t, zs, rfl, ht, hzs, z1, r1, rfl, rz1, z2, r2, rfl, rz2, z3, r3, rfl, rz3, z4, r4, rfl, rz4, rfl⟩ := rvx
      refine ⟨ra, xs2, _, _, rfl, rfl, SqL.of hxs2, atI_nat exv, t, _, rfl, SqT.of hzs, rfl, z1, _, rfl, z2, _, rfl, z3, _, rfl, z4, _, rfl, rfl, ?_⟩
      have slD : Sl (mkC K P w n0 n1 N) (Mr p q H6) (Ev.sD ta tb tf tg) ((((σ5.set 6 (some z1)).set 7 (some z2)).set 8 (some z3)).set 9 (some z4)) :=
        ((((sl_mask (sl_draw O6 sl5 (by rfl)) Ev.m0).set rz1 6).set rz2 7).set rz3 8).set rz4 9
      refine ⟨I, run_next eA eR P6 slD fun σ7 H7 P7 sl7 => ⟨I, run_next eB eR P7 sl7 fun σ8 H8 P8 sl8 => ⟨I, run_next eC (by rfl) P8 sl8 fun σ9 H9 P9 sl9 => ⟨P9, sl9⟩⟩⟩⟩
    · rintro σ Hk ⟨Pk, slk⟩
      exact kk Hk
end
end Sd
end

section
set_option Elab.async false
set_option linter.all false
set_option maxRecDepth 100000
set_option maxHeartbeats 0
/-! En (printed by genq.py from end.txt): the end. -/
namespace Sd
open PySem PySem.Spec PyProof.Rows L2
theorem turns : Trn := ⟨fun d hd => match d, hd with
  | 0, _ => ⟨Ev.qSE, Ev.qES, true, false, rfl, rfl, Ev.turnA0, Ev.turnB0, Ev.turnC0⟩
  | 1, _ => ⟨Ev.qEE, Ev.qSE, true, false, rfl, rfl, Ev.turnA1, Ev.turnB1, Ev.turnC1⟩
  | 2, _ => ⟨Ev.qES, Ev.qSS, true, false, rfl, rfl, Ev.turnA2, Ev.turnB2, Ev.turnC2⟩
  | 3, _ => ⟨Ev.qB, Ev.qT, true, true, rfl, rfl, Ev.turnA3, Ev.turnB3, Ev.turnC3⟩
  | 4, _ => ⟨Ev.qL, Ev.qES, true, false, rfl, rfl, Ev.turnA4, Ev.turnB4, Ev.turnC4⟩
  | 5, _ => ⟨Ev.qEE, Ev.qL, true, false, rfl, rfl, Ev.turnA5, Ev.turnB5, Ev.turnC5⟩
  | 6, _ => ⟨Ev.qEE, Ev.qB, true, false, rfl, rfl, Ev.turnA6, Ev.turnB6, Ev.turnC6⟩
  | 7, _ => ⟨Ev.qER, Ev.qSR, true, false, rfl, rfl, Ev.turnA7, Ev.turnB7, Ev.turnC7⟩
  | 8, _ => ⟨Ev.qSX, Ev.qNR, true, true, rfl, rfl, Ev.turnA8, Ev.turnB8, Ev.turnC8⟩
  | 9, _ => ⟨Ev.qL, Ev.qB, false, false, rfl, rfl, Ev.turnA9, Ev.turnB9, Ev.turnC9⟩
  | n + 10, hd => absurd hd (by omega)⟩
theorem facts {P : Program} {w : World} {K : PySem.W.Frag} {h : Heap} {mg : Str → Option Value} {f : Addr} (X : K.In h) (G : h.Ns mainGlobals mg) (hfa : mg ("law" : Str) = some (.ref f)) (c : SaysP w K) :
    ∃ fd : FuncData, (∀ (s : Shared) (v : Value), BindsTo s fd ⟨[v], []⟩ [("_law_script", v)]) ∧ ∀ base : Heap, K.In base → base.Ns mainGlobals mg → FnOk P w K mg base CX0 63 f fd ["_law_script"] (spLaw K) := by
  obtain ⟨fdP, FP⟩ := def_law_pool c
  obtain ⟨fdD, FD⟩ := def_law_draw c
  obtain ⟨fdN, FN⟩ := def_law_names c
  obtain ⟨fd, FL⟩ := def_law c
  have e := hfa.symm.trans (mg_law X G c)
  cases e
  have T := mkLf X G c
  have bl := FunD.bindsA (ps := ["_law_script"]) FL fun _ _ _ _ _ _ us hl => match us, hl with | [_], _ => rfl
  have bP : Binds K fdP ["_law_script"] [] := FP.bindsN fun _ _ _ _ _ _ us hl => match us, hl with | [_], _ => rfl
  have bD : Binds K fdD ["_law_pool_here", "_law_many"] [] := FD.bindsN fun _ _ _ _ _ _ us hl => match us, hl with | [_, _], _ => rfl
  have bN : Binds K fdN ["_law_pool_here", "_law_many"] [] := FN.bindsN fun _ _ _ _ _ _ us hl => match us, hl with | [_, _], _ => rfl
  refine ⟨fd, fun s v => bl s [v] rfl, fun base _ _ => ?_⟩
  exact ok_law X G c turns FL T (ok_pool FP T) (mg_law_pool X G c) FP.kp bP (ok_names FN T (ok_draw FD T) (mg_law_draw X G c) FD.kp bD) (mg_law_names X G c) FN.kp bN (ok_draw FD T) (mg_law_draw X G c) FD.kp bD
theorem runs : ∀ w : World, HandSHeadRun.RunEq R vw hk ob 40000 loose w :=
  PySem.W.byRow2 "special-get-raises" (fun w => run_of _ (run1f w) (run2f w)) (fun w => run_of _ (run1t w) (run2t w))
end Sd
open PySem PySem.W PySem.Calls PyProof.Rows
theorem PySem.Challenge.cw_pairsayings_k64_whole_known_followings_holds : PySem.Challenge.rw_pairsayings_k64_whole_known_followings.Holds := by
  w_on; o_law
  refine HandSHeadRun.head_any (r := Sd.R) (q := Sd.vw) (H := Sd.hk) (ob := Sd.ob) (M := 40000) (loose := Sd.loose) (d := HandSHeadRun.topDef Sd.R.prog Sd.lawAt) (kwd := []) Sd.ob_eq
    (by kernel_rfl) (fun s => by kernel_rfl) Sd.runs (by kernel_rfl) (by kernel_rfl) (by kernel_rfl) (by rfl) (by first | assumption | decide +kernel) (by decide +kernel) ⟨rfl, rfl, rfl, rfl, rfl, by decide +kernel⟩ ?hw ?hc
  case hw => w_witness2
  case hc =>
    refine L2.walk_ofE (l := PySem.Challenge.rw_pairsayings_k64_whole_known_followings) (n := 63) (k := 63) (x := "_law_script") (CX := L2.CX0) rfl (by decide) (by kernel_rfl) ⟨rfl, by decide, by decide⟩ ?F (fun _ _ _ _ z => z)
    intro w mg fa h Y G hmg0
    obtain ⟨K, KX, c⟩ := Y
    have hmg : mg ("law" : PySem.Str) = some (.ref fa) := by
      have e : (HandSHeadRun.topDef Sd.R.prog Sd.lawAt).name = ("law" : PySem.Str) := by kernel_rfl
      rw [← e]
      exact hmg0
    obtain ⟨fd, hb, hF⟩ := Sd.facts (P := (PySem.Challenge.rw_pairsayings_k64_whole_known_followings).prog) (w := w) KX G hmg c
    exact ⟨K, fd, Sd.spLaw K, KX, hb, fun H a ns hl _ hS => ⟨a, ns, rfl, hS, hl, fun _ => rfl⟩, hF⟩
end

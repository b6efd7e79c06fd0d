import PyProof.Rows.All
import Wide.All
import OpenK.AllK
import Wide.FinOn
import KE.KStateDown
import HandS.Base
import HandS.Call
import HandS.Ends
import HandS.More
import HandS.Words
import HandS.WordsExc
import HandS.Defaults
import HandS.Property
import HandS.Lambda
import HandS.EndTab
import HandS.Head0
import HandS.Head1
import HandS.Head2
import HandS.HeadEnd
import HandS.HeadHook1
import HandS.HeadHook2
import HandS.HeadHook3
import HandS.HeadHook4
import HandS.HeadWalk
import PySem.Challenge.RW_sworntypes_k78_whole_one_registration_mo
import HandS.ForMost
import HandS.Nested
import HandS.Walk
import HandS.Exc
import HandS.Zip
import HandS.Conv
import HandS.SetKeys
import HandS.DictComp
import HandS.ListItems
import HandS.Flow
import HandS.Style
import HandS.CallLocal
import HandS.IsInst
import HandS.Star
import HandS.Iter
import HandS.SetTxt0
import HandS.SetFor
import HandS.SetBool
import HandS.Strs
import PyProof.Rows.SortShellK
import PyProof.Rows.SortStr
import HandS.TupAny
import KE.KItemsList
import KE.KSortTupG
import KE.KDictSum
import PyProof.Rows.StrInSeq3
import KE.GoesMore
import KE.KUnpackStar
import HandS.NoneIn
import HandS.Codes
set_option Elab.async false
set_option linter.all false
set_option maxRecDepth 100000
set_option maxHeartbeats 0
noncomputable section
namespace SW
open PySem PySem.Spec PyProof.Rows L2 He
/-! ### the text -/
def topS (i : Nat) : Stmt := PySem.Challenge.pw_sworntypes_k78_whole_one_registration_mo.main.body.getD i (.Pass ⟨0, 0, 0, 0⟩)
abbrev s_roads_from : Stmt := topS 15
abbrev s_is_name : Stmt := topS 19
abbrev s_is_clause : Stmt := topS 21
abbrev s_hook_fault : Stmt := topS 22
abbrev s_hook_answer : Stmt := topS 23
abbrev s_is_mark : Stmt := topS 30
abbrev s_look_marks : Stmt := topS 31
abbrev s_is_sworn : Stmt := topS 32
abbrev s_hook_for : Stmt := topS 37
abbrev s_answer_by_hook : Stmt := topS 38
abbrev s_subclasses : Stmt := topS 39
abbrev s_methods_in : Stmt := topS 41
abbrev s_patterns_in : Stmt := topS 46
abbrev s_held_by : Stmt := topS 47
abbrev s_declines : Stmt := topS 48
abbrev s_next_in : Stmt := topS 49
abbrev s_led_to : Stmt := topS 50
abbrev s_is_reached : Stmt := topS 51
abbrev s_outcome_in : Stmt := topS 52
abbrev s_has_road : Stmt := topS 53
abbrev s_state_of : Stmt := topS 54
abbrev s_outcome : Stmt := topS 55
abbrev s_is_needless_in : Stmt := topS 56
abbrev s_is_needless : Stmt := topS 57
abbrev s_look_same : Stmt := topS 58
abbrev s_first_difference : Stmt := topS 59
abbrev s_alike : Stmt := topS 60
abbrev s_can_be_first : Stmt := topS 64
abbrev s_merged : Stmt := topS 65
abbrev s_look_bases : Stmt := topS 67
abbrev s_look_hook : Stmt := topS 68
abbrev s_new_entry : Stmt := topS 69
abbrev s__law_bag : Stmt := topS 76
abbrev s__law_take : Stmt := topS 77
abbrev s__law_pick : Stmt := topS 78
abbrev s__law_merge : Stmt := topS 79
abbrev s__law_new : Stmt := topS 80
abbrev s__law_copy : Stmt := topS 81
abbrev s__law_sworn : Stmt := topS 82
abbrev s__law_next : Stmt := topS 83
abbrev s__law_led : Stmt := topS 84
abbrev s__law_make : Stmt := topS 85
abbrev s__law_new_rule : Stmt := topS 86
abbrev s__law_class : Stmt := topS 87
abbrev s__law_admits : Stmt := topS 88
abbrev s__law_admit : Stmt := topS 89
abbrev s__law_some_admitted : Stmt := topS 90
abbrev s__law_drawn : Stmt := topS 91
abbrev s__law_made_in : Stmt := topS 92
abbrev s__law_made : Stmt := topS 93
abbrev s__law_held : Stmt := topS 94
abbrev s__law_road_held : Stmt := topS 95
abbrev s__law_methods : Stmt := topS 96
abbrev s__law_patterns : Stmt := topS 97
abbrev s__law_two_classes : Stmt := topS 98
abbrev s__law_rises : Stmt := topS 99
abbrev s__law_right : Stmt := topS 100
abbrev s_law : Stmt := topS 101
abbrev s_Entry_init : Stmt := inClass (topS 29) 0
abbrev s_Cache_init : Stmt := inClass (topS 62) 0
abbrev s_Cache_refresh : Stmt := inClass (topS 62) 6
abbrev s_Table_init : Stmt := inClass (topS 71) 0
abbrev s_Table_copied : Stmt := inClass (topS 71) 1
abbrev s_Table_has : Stmt := inClass (topS 71) 2
abbrev s_Table_all_names : Stmt := inClass (topS 71) 3
abbrev s_Table_add_class : Stmt := inClass (topS 71) 4
abbrev s_Table_add_registration : Stmt := inClass (topS 71) 7
abbrev s_Table_remove_registration : Stmt := inClass (topS 71) 8
abbrev s_Table_is_above : Stmt := inClass (topS 71) 10
abbrev s_Table_sworn : Stmt := inClass (topS 71) 11
abbrev s_Table_below : Stmt := inClass (topS 71) 12
abbrev s_Table_next_of : Stmt := inClass (topS 71) 13
abbrev s_Table_answer_for : Stmt := inClass (topS 71) 15
abbrev s_Table_shortest_road : Stmt := inClass (topS 71) 19
abbrev s_Table_ring_by : Stmt := inClass (topS 71) 20
abbrev s_World_init : Stmt := inClass (topS 74) 0
abbrev s_World_class_picture : Stmt := inClass (topS 74) 6
abbrev s_World_look : Stmt := inClass (topS 74) 8
abbrev s_World_refresh : Stmt := inClass (topS 74) 9
abbrev s_World_make : Stmt := inClass (topS 74) 11
abbrev s_World_look_registration : Stmt := inClass (topS 74) 14
abbrev s_World_admit : Stmt := inClass (topS 74) 15
abbrev s_World_names : Stmt := inClass (topS 74) 7
def d_roads_from : He.DefD := ⟨("roads_from", none), "roads_from", "roads_from", defArgs s_roads_from, defBody s_roads_from, defScope s_roads_from, [], []⟩
def d_is_name : He.DefD := ⟨("is_name", none), "is_name", "is_name", defArgs s_is_name, defBody s_is_name, defScope s_is_name, [], []⟩
def d_is_clause : He.DefD := ⟨("is_clause", none), "is_clause", "is_clause", defArgs s_is_clause, defBody s_is_clause, defScope s_is_clause, [], []⟩
def d_hook_fault : He.DefD := ⟨("hook_fault", none), "hook_fault", "hook_fault", defArgs s_hook_fault, defBody s_hook_fault, defScope s_hook_fault, [], []⟩
def d_hook_answer : He.DefD := ⟨("hook_answer", none), "hook_answer", "hook_answer", defArgs s_hook_answer, defBody s_hook_answer, defScope s_hook_answer, [], []⟩
def d_is_mark : He.DefD := ⟨("is_mark", none), "is_mark", "is_mark", defArgs s_is_mark, defBody s_is_mark, defScope s_is_mark, [], []⟩
def d_look_marks : He.DefD := ⟨("look_marks", none), "look_marks", "look_marks", defArgs s_look_marks, defBody s_look_marks, defScope s_look_marks, [], []⟩
def d_is_sworn : He.DefD := ⟨("is_sworn", none), "is_sworn", "is_sworn", defArgs s_is_sworn, defBody s_is_sworn, defScope s_is_sworn, [], []⟩
def d_hook_for : He.DefD := ⟨("hook_for", none), "hook_for", "hook_for", defArgs s_hook_for, defBody s_hook_for, defScope s_hook_for, [], []⟩
def d_answer_by_hook : He.DefD := ⟨("answer_by_hook", none), "answer_by_hook", "answer_by_hook", defArgs s_answer_by_hook, defBody s_answer_by_hook, defScope s_answer_by_hook, [], []⟩
def d_subclasses : He.DefD := ⟨("subclasses", none), "subclasses", "subclasses", defArgs s_subclasses, defBody s_subclasses, defScope s_subclasses, [], []⟩
def d_methods_in : He.DefD := ⟨("methods_in", none), "methods_in", "methods_in", defArgs s_methods_in, defBody s_methods_in, defScope s_methods_in, [], []⟩
def d_patterns_in : He.DefD := ⟨("patterns_in", none), "patterns_in", "patterns_in", defArgs s_patterns_in, defBody s_patterns_in, defScope s_patterns_in, [], []⟩
def d_held_by : He.DefD := ⟨("held_by", none), "held_by", "held_by", defArgs s_held_by, defBody s_held_by, defScope s_held_by, [], []⟩
def d_declines : He.DefD := ⟨("declines", none), "declines", "declines", defArgs s_declines, defBody s_declines, defScope s_declines, [], []⟩
def d_next_in : He.DefD := ⟨("next_in", none), "next_in", "next_in", defArgs s_next_in, defBody s_next_in, defScope s_next_in, [], []⟩
def d_led_to : He.DefD := ⟨("led_to", none), "led_to", "led_to", defArgs s_led_to, defBody s_led_to, defScope s_led_to, [], []⟩
def d_is_reached : He.DefD := ⟨("is_reached", none), "is_reached", "is_reached", defArgs s_is_reached, defBody s_is_reached, defScope s_is_reached, [], []⟩
def d_outcome_in : He.DefD := ⟨("outcome_in", none), "outcome_in", "outcome_in", defArgs s_outcome_in, defBody s_outcome_in, defScope s_outcome_in, [], []⟩
def d_has_road : He.DefD := ⟨("has_road", none), "has_road", "has_road", defArgs s_has_road, defBody s_has_road, defScope s_has_road, [], []⟩
def d_state_of : He.DefD := ⟨("state_of", none), "state_of", "state_of", defArgs s_state_of, defBody s_state_of, defScope s_state_of, [], []⟩
def d_outcome : He.DefD := ⟨("outcome", none), "outcome", "outcome", defArgs s_outcome, defBody s_outcome, defScope s_outcome, [], []⟩
def d_is_needless_in : He.DefD := ⟨("is_needless_in", none), "is_needless_in", "is_needless_in", defArgs s_is_needless_in, defBody s_is_needless_in, defScope s_is_needless_in, [], []⟩
def d_is_needless : He.DefD := ⟨("is_needless", none), "is_needless", "is_needless", defArgs s_is_needless, defBody s_is_needless, defScope s_is_needless, [], []⟩
def d_look_same : He.DefD := ⟨("look_same", none), "look_same", "look_same", defArgs s_look_same, defBody s_look_same, defScope s_look_same, [], []⟩
def d_first_difference : He.DefD := ⟨("first_difference", none), "first_difference", "first_difference", defArgs s_first_difference, defBody s_first_difference, defScope s_first_difference, [], []⟩
def d_alike : He.DefD := ⟨("alike", none), "alike", "alike", defArgs s_alike, defBody s_alike, defScope s_alike, [], []⟩
def d_can_be_first : He.DefD := ⟨("can_be_first", none), "can_be_first", "can_be_first", defArgs s_can_be_first, defBody s_can_be_first, defScope s_can_be_first, [], []⟩
def d_merged : He.DefD := ⟨("merged", none), "merged", "merged", defArgs s_merged, defBody s_merged, defScope s_merged, [], []⟩
def d_look_bases : He.DefD := ⟨("look_bases", none), "look_bases", "look_bases", defArgs s_look_bases, defBody s_look_bases, defScope s_look_bases, [], []⟩
def d_look_hook : He.DefD := ⟨("look_hook", none), "look_hook", "look_hook", defArgs s_look_hook, defBody s_look_hook, defScope s_look_hook, [], []⟩
def d_new_entry : He.DefD := ⟨("new_entry", none), "new_entry", "new_entry", defArgs s_new_entry, defBody s_new_entry, defScope s_new_entry, [], []⟩
def d__law_bag : He.DefD := ⟨("_law_bag", none), "_law_bag", "_law_bag", defArgs s__law_bag, defBody s__law_bag, defScope s__law_bag, [], []⟩
def d__law_take : He.DefD := ⟨("_law_take", none), "_law_take", "_law_take", defArgs s__law_take, defBody s__law_take, defScope s__law_take, [], []⟩
def d__law_pick : He.DefD := ⟨("_law_pick", none), "_law_pick", "_law_pick", defArgs s__law_pick, defBody s__law_pick, defScope s__law_pick, [], []⟩
def d__law_merge : He.DefD := ⟨("_law_merge", none), "_law_merge", "_law_merge", defArgs s__law_merge, defBody s__law_merge, defScope s__law_merge, [], []⟩
def d__law_new : He.DefD := ⟨("_law_new", none), "_law_new", "_law_new", defArgs s__law_new, defBody s__law_new, defScope s__law_new, [], []⟩
def d__law_copy : He.DefD := ⟨("_law_copy", none), "_law_copy", "_law_copy", defArgs s__law_copy, defBody s__law_copy, defScope s__law_copy, [], []⟩
def d__law_sworn : He.DefD := ⟨("_law_sworn", none), "_law_sworn", "_law_sworn", defArgs s__law_sworn, defBody s__law_sworn, defScope s__law_sworn, [], []⟩
def d__law_next : He.DefD := ⟨("_law_next", none), "_law_next", "_law_next", defArgs s__law_next, defBody s__law_next, defScope s__law_next, [], []⟩
def d__law_led : He.DefD := ⟨("_law_led", none), "_law_led", "_law_led", defArgs s__law_led, defBody s__law_led, defScope s__law_led, [], []⟩
def d__law_make : He.DefD := ⟨("_law_make", none), "_law_make", "_law_make", defArgs s__law_make, defBody s__law_make, defScope s__law_make, [], []⟩
def d__law_new_rule : He.DefD := ⟨("_law_new_rule", none), "_law_new_rule", "_law_new_rule", defArgs s__law_new_rule, defBody s__law_new_rule, defScope s__law_new_rule, [], []⟩
def d__law_class : He.DefD := ⟨("_law_class", none), "_law_class", "_law_class", defArgs s__law_class, defBody s__law_class, defScope s__law_class, [], []⟩
def d__law_admits : He.DefD := ⟨("_law_admits", none), "_law_admits", "_law_admits", defArgs s__law_admits, defBody s__law_admits, defScope s__law_admits, [], []⟩
def d__law_admit : He.DefD := ⟨("_law_admit", none), "_law_admit", "_law_admit", defArgs s__law_admit, defBody s__law_admit, defScope s__law_admit, [], []⟩
def d__law_some_admitted : He.DefD := ⟨("_law_some_admitted", none), "_law_some_admitted", "_law_some_admitted", defArgs s__law_some_admitted, defBody s__law_some_admitted, defScope s__law_some_admitted, [], []⟩
def d__law_drawn : He.DefD := ⟨("_law_drawn", none), "_law_drawn", "_law_drawn", defArgs s__law_drawn, defBody s__law_drawn, defScope s__law_drawn, [], []⟩
def d__law_made_in : He.DefD := ⟨("_law_made_in", none), "_law_made_in", "_law_made_in", defArgs s__law_made_in, defBody s__law_made_in, defScope s__law_made_in, [], []⟩
def d__law_made : He.DefD := ⟨("_law_made", none), "_law_made", "_law_made", defArgs s__law_made, defBody s__law_made, defScope s__law_made, [], []⟩
def d__law_held : He.DefD := ⟨("_law_held", none), "_law_held", "_law_held", defArgs s__law_held, defBody s__law_held, defScope s__law_held, [], []⟩
def d__law_road_held : He.DefD := ⟨("_law_road_held", none), "_law_road_held", "_law_road_held", defArgs s__law_road_held, defBody s__law_road_held, defScope s__law_road_held, [], []⟩
def d__law_methods : He.DefD := ⟨("_law_methods", none), "_law_methods", "_law_methods", defArgs s__law_methods, defBody s__law_methods, defScope s__law_methods, [], []⟩
def d__law_patterns : He.DefD := ⟨("_law_patterns", none), "_law_patterns", "_law_patterns", defArgs s__law_patterns, defBody s__law_patterns, defScope s__law_patterns, [], []⟩
def d__law_two_classes : He.DefD := ⟨("_law_two_classes", none), "_law_two_classes", "_law_two_classes", defArgs s__law_two_classes, defBody s__law_two_classes, defScope s__law_two_classes, [], []⟩
def d__law_rises : He.DefD := ⟨("_law_rises", none), "_law_rises", "_law_rises", defArgs s__law_rises, defBody s__law_rises, defScope s__law_rises, [], []⟩
def d__law_right : He.DefD := ⟨("_law_right", none), "_law_right", "_law_right", defArgs s__law_right, defBody s__law_right, defScope s__law_right, [], []⟩
def d_law : He.DefD := ⟨("law", none), "law", "law", defArgs s_law, defBody s_law, defScope s_law, [], []⟩
def d_Entry_init : He.DefD := ⟨("Entry", some "__init__"), "__init__", "Entry.__init__", defArgs s_Entry_init, defBody s_Entry_init, defScope s_Entry_init, [], []⟩
def d_Cache_init : He.DefD := ⟨("Cache", some "__init__"), "__init__", "Cache.__init__", defArgs s_Cache_init, defBody s_Cache_init, defScope s_Cache_init, [], []⟩
def d_Cache_refresh : He.DefD := ⟨("Cache", some "refresh"), "refresh", "Cache.refresh", defArgs s_Cache_refresh, defBody s_Cache_refresh, defScope s_Cache_refresh, [], []⟩
def d_Table_init : He.DefD := ⟨("Table", some "__init__"), "__init__", "Table.__init__", defArgs s_Table_init, defBody s_Table_init, defScope s_Table_init, [], []⟩
def d_Table_copied : He.DefD := ⟨("Table", some "copied"), "copied", "Table.copied", defArgs s_Table_copied, defBody s_Table_copied, defScope s_Table_copied, [], []⟩
def d_Table_has : He.DefD := ⟨("Table", some "has"), "has", "Table.has", defArgs s_Table_has, defBody s_Table_has, defScope s_Table_has, [], []⟩
def d_Table_all_names : He.DefD := ⟨("Table", some "all_names"), "all_names", "Table.all_names", defArgs s_Table_all_names, defBody s_Table_all_names, defScope s_Table_all_names, [], []⟩
def d_Table_add_class : He.DefD := ⟨("Table", some "add_class"), "add_class", "Table.add_class", defArgs s_Table_add_class, defBody s_Table_add_class, defScope s_Table_add_class, [], []⟩
def d_Table_add_registration : He.DefD := ⟨("Table", some "add_registration"), "add_registration", "Table.add_registration", defArgs s_Table_add_registration, defBody s_Table_add_registration, defScope s_Table_add_registration, [], []⟩
def d_Table_remove_registration : He.DefD := ⟨("Table", some "remove_registration"), "remove_registration", "Table.remove_registration", defArgs s_Table_remove_registration, defBody s_Table_remove_registration, defScope s_Table_remove_registration, [], []⟩
def d_Table_is_above : He.DefD := ⟨("Table", some "is_above"), "is_above", "Table.is_above", defArgs s_Table_is_above, defBody s_Table_is_above, defScope s_Table_is_above, [], []⟩
def d_Table_sworn : He.DefD := ⟨("Table", some "sworn"), "sworn", "Table.sworn", defArgs s_Table_sworn, defBody s_Table_sworn, defScope s_Table_sworn, [], []⟩
def d_Table_below : He.DefD := ⟨("Table", some "below"), "below", "Table.below", defArgs s_Table_below, defBody s_Table_below, defScope s_Table_below, [], []⟩
def d_Table_next_of : He.DefD := ⟨("Table", some "next_of"), "next_of", "Table.next_of", defArgs s_Table_next_of, defBody s_Table_next_of, defScope s_Table_next_of, [], []⟩
def d_Table_answer_for : He.DefD := ⟨("Table", some "answer_for"), "answer_for", "Table.answer_for", defArgs s_Table_answer_for, defBody s_Table_answer_for, defScope s_Table_answer_for, [], []⟩
def d_Table_shortest_road : He.DefD := ⟨("Table", some "shortest_road"), "shortest_road", "Table.shortest_road", defArgs s_Table_shortest_road, defBody s_Table_shortest_road, defScope s_Table_shortest_road, [], []⟩
def d_Table_ring_by : He.DefD := ⟨("Table", some "ring_by"), "ring_by", "Table.ring_by", defArgs s_Table_ring_by, defBody s_Table_ring_by, defScope s_Table_ring_by, [], []⟩
def d_World_init : He.DefD := ⟨("World", some "__init__"), "__init__", "World.__init__", defArgs s_World_init, defBody s_World_init, defScope s_World_init, [], []⟩
def d_World_class_picture : He.DefD := ⟨("World", some "class_picture"), "class_picture", "World.class_picture", defArgs s_World_class_picture, defBody s_World_class_picture, defScope s_World_class_picture, [], []⟩
def d_World_look : He.DefD := ⟨("World", some "look"), "look", "World.look", defArgs s_World_look, defBody s_World_look, defScope s_World_look, [], []⟩
def d_World_refresh : He.DefD := ⟨("World", some "refresh"), "refresh", "World.refresh", defArgs s_World_refresh, defBody s_World_refresh, defScope s_World_refresh, [], []⟩
def d_World_make : He.DefD := ⟨("World", some "make"), "make", "World.make", defArgs s_World_make, defBody s_World_make, defScope s_World_make, [], []⟩
def d_World_look_registration : He.DefD := ⟨("World", some "look_registration"), "look_registration", "World.look_registration", defArgs s_World_look_registration, defBody s_World_look_registration, defScope s_World_look_registration, [], []⟩
def d_World_admit : He.DefD := ⟨("World", some "admit"), "admit", "World.admit", defArgs s_World_admit, defBody s_World_admit, defScope s_World_admit, [], []⟩
def fnl0 : List He.DefD := [d_roads_from, d_is_name, d_is_clause, d_hook_fault, d_hook_answer, d_is_mark, d_look_marks, d_is_sworn, d_hook_for, d_answer_by_hook, d_subclasses, d_methods_in, d_patterns_in, d_held_by, d_declines, d_next_in, d_led_to, d_is_reached, d_outcome_in, d_has_road, d_state_of, d_outcome, d_is_needless_in, d_is_needless, d_look_same, d_first_difference, d_alike, d_can_be_first, d_merged, d_look_bases]
def fnl1 : List He.DefD := [d_look_hook, d_new_entry, d__law_bag, d__law_take, d__law_pick, d__law_merge, d__law_new, d__law_copy, d__law_sworn, d__law_next, d__law_led, d__law_make, d__law_new_rule, d__law_class, d__law_admits, d__law_admit, d__law_some_admitted, d__law_drawn, d__law_made_in, d__law_made, d__law_held, d__law_road_held, d__law_methods, d__law_patterns, d__law_two_classes, d__law_rises, d__law_right, d_law, d_Entry_init, d_Cache_init]
def fnl2 : List He.DefD := [d_Cache_refresh, d_Table_init, d_Table_copied, d_Table_has, d_Table_all_names, d_Table_add_class, d_Table_add_registration, d_Table_remove_registration, d_Table_is_above, d_Table_sworn, d_Table_below, d_Table_next_of, d_Table_answer_for, d_Table_shortest_road, d_Table_ring_by, d_World_init, d_World_class_picture, d_World_look, d_World_refresh, d_World_make, d_World_look_registration, d_World_admit]
def fnl : List He.DefD := fnl0 ++ fnl1 ++ fnl2
def fal0 : List He.Fa := [.glo "roads_from", .glo "is_name", .glo "is_clause", .glo "hook_fault", .glo "hook_answer", .glo "is_mark", .glo "look_marks", .glo "is_sworn", .glo "hook_for", .glo "answer_by_hook", .glo "subclasses", .glo "methods_in", .glo "patterns_in", .glo "held_by", .glo "declines", .glo "next_in", .glo "led_to", .glo "is_reached", .glo "outcome_in", .glo "has_road", .glo "state_of", .glo "outcome", .glo "is_needless_in", .glo "is_needless", .glo "look_same", .glo "first_difference", .glo "alike", .glo "can_be_first", .glo "merged", .glo "look_bases"]
def fal1 : List He.Fa := [.glo "look_hook", .glo "new_entry", .glo "_law_bag", .glo "_law_take", .glo "_law_pick", .glo "_law_merge", .glo "_law_new", .glo "_law_copy", .glo "_law_sworn", .glo "_law_next", .glo "_law_led", .glo "_law_make", .glo "_law_new_rule", .glo "_law_class", .glo "_law_admits", .glo "_law_admit", .glo "_law_some_admitted", .glo "_law_drawn", .glo "_law_made_in", .glo "_law_made", .glo "_law_held", .glo "_law_road_held", .glo "_law_methods", .glo "_law_patterns", .glo "_law_two_classes", .glo "_law_rises", .glo "_law_right", .glo "law", .glo "Entry", .glo "Table"]
def fal2 : List He.Fa := [.glo "Cache", .glo "World", .free "len", .free "list", .free "tuple", .free "dict", .free "set", .free "sorted", .free "isinstance", .free "str", .free "bool", .free "any", .free "all", .free "enumerate", .free "min", .free "max", .free "zip", .free "int", .free "abs", .free "range", .str "WON" "won", .str "REACHED" "reached", .str "NEITHER" "neither", .str "LETTERS" "abcdefghijklmnopqrstuvwxyz", .int "MOST_LETTERS" 8, .cls "Entry", .mkr "Entry", .noat "Entry" "label", .noat "Entry" "parents", .noat "Entry" "own_sworn"]
def fal3 : List He.Fa := [.noat "Entry" "given_marks", .noat "Entry" "own_hook", .noat "Entry" "passed_on", .noat "Entry" "line", .cls "Table", .mkr "Table", .noat "Table" "records", .noat "Table" "numbers", .noat "Table" "lists", .noat "Table" "made", .cls "Cache", .mkr "Cache", .noat "Cache" "kept", .cls "World", .mkr "World", .noat "World" "table", .noat "World" "cache", .noat "World" "visits", .noat "World" "things", .noat "World" "choice_lists", .meth "Entry" "__init__", .meth "Cache" "__init__", .meth "Cache" "refresh", .meth "Table" "__init__", .meth "Table" "copied", .meth "Table" "has", .meth "Table" "all_names", .meth "Table" "add_class", .meth "Table" "add_registration", .meth "Table" "remove_registration"]
def fal4 : List He.Fa := [.meth "Table" "is_above", .meth "Table" "sworn", .meth "Table" "below", .meth "Table" "next_of", .meth "Table" "answer_for", .meth "Table" "shortest_road", .meth "Table" "ring_by", .meth "World" "__init__", .meth "World" "class_picture", .meth "World" "look", .meth "World" "refresh", .meth "World" "make", .meth "World" "look_registration", .meth "World" "admit", .glo "MARKS"]
def fal : List He.Fa := fal0 ++ fal1 ++ fal2 ++ fal3 ++ fal4
def loose0 : List PySem.Str := ["_wall", "WorldError", "BadName", "BadMark", "BadHook", "UnknownClass", "NoOrder", "Taken", "Ring", "Repeated", "Different", "NotSworn", "Abstract", "roads_from", "is_name", "is_clause", "hook_fault", "hook_answer", "Entry", "is_mark", "look_marks", "is_sworn", "found_mark", "all_found", "methods_had", "methods_left", "hook_for", "answer_by_hook", "subclasses", "methods_in"]
def loose1 : List PySem.Str := ["patterns_in", "held_by", "declines", "next_in", "led_to", "is_reached", "outcome_in", "has_road", "state_of", "outcome", "is_needless_in", "is_needless", "look_same", "first_difference", "alike", "Cache", "can_be_first", "merged", "look_bases", "look_hook", "new_entry", "Table", "Thing", "World", "_law_bag", "_law_take", "_law_pick", "_law_merge", "_law_new", "_law_copy"]
def loose2 : List PySem.Str := ["_law_sworn", "_law_next", "_law_led", "_law_make", "_law_new_rule", "_law_class", "_law_admits", "_law_admit", "_law_some_admitted", "_law_drawn", "_law_made_in", "_law_made", "_law_held", "_law_road_held", "_law_methods", "_law_patterns", "_law_two_classes", "_law_rises", "_law_right", "__name__", "MOST_LETTERS", "LETTERS", "PLAIN", "ABSTRACT", "BLOCKED", "MARKS", "WON", "REACHED", "NEITHER"]
def loose : List PySem.Str := loose0 ++ loose1 ++ loose2
/-! ### the property's getter -/
def propA (K : PySem.W.Frag) : Addr := ma K (ga K "World") "names"
def getA (K : PySem.W.Frag) : Addr := match PySem.W.recIn K (propA K) "property" with
  | some (.ref g :: _) => g
  | _ => 0
def propB (K : PySem.W.Frag) : Bool := He.eqO (PySem.W.findIn K (.ref (ga K "World")) "names") (some (some (.ref (propA K)))) && (He.eqO (PySem.W.specialIn K (.ref (propA K)) "__get__") (some (some (.builtin "property.__get__"))) &&
  (decide (PySem.W.takesIn K (.ref (propA K)) = some true) && (match PySem.W.recIn K (propA K) "property" with
    | some (.ref g :: _) => decide (g = getA K)
    | _ => false)))
def getterB (K : PySem.W.Frag) : Bool := PySem.W.keepIn K (.ref (getA K)) && (match K.lookup (getA K) with
  | some ⟨_, _, .func fd, _⟩ => PySem.W.codeIn K fd.code "World.names" && He.dflB K fd.defaults []
  | _ => false)
def getterW (K : PySem.W.Frag) : He.FnW := match K.lookup (getA K) with
  | some ⟨_, _, .func fd, _⟩ => some (fd.name, fd.qualname, fd.params, fd.body, fd.scope, fd.globals, fd.closure, fd.builtins)
  | _ => none
def exB (K : PySem.W.Frag) : Bool := He.tupB K "MARKS" [.str "plain", .str "abstract", .str "blocked"] && (propB K && (getterB K && !decide ((He.cT K ("led_to", none)).2 = (He.cT K ("has_road", none)).2)))
def tfl : List He.Defn := [("led_to", none), ("has_road", none)]
def getterV : He.FnW := some ("names", "World.names", defArgs s_World_names, .stmts (defBody s_World_names), defScope s_World_names, mainGlobals, [], builtinsNs)
/-! ### what is looked at behind the top -/
def frL {A B : Type} : List A → (List A → B) → B
  | [], k => k []
  | x :: r, k => frL r fun r' => k (x :: r')
theorem frL_eq {A B : Type} : ∀ (l : List A) (k : List A → B), frL l k = k l
  | [], _ => rfl
  | _ :: r, k => frL_eq r _
def nms : List PySem.Str := fal.filterMap fun | .glo x => some x | _ => none
def cnms : List PySem.Str := ["Entry", "Table", "Cache", "World"]
def refsQ (g : Addr → Option Obj) (as : List Addr) : List Addr := as.flatMap fun a => match g a with
  | some o => refsD o
  | none => []
def glK (g : Addr → Option Obj) : PySem.W.Frag := frG g [mainGlobals]
def f1 (g : Addr → Option Obj) : List Addr := ga (glK g) "MARKS" :: nms.map (ga (glK g))
def c1 (g : Addr → Option Obj) : List Addr := cnms.map (ga (glK g))
def asP (g : Addr → Option Obj) : List Addr := mainGlobals :: (f1 g ++ (refsQ g (f1 g) ++ (refsQ g (refsQ g (c1 g)) ++ (refsQ g (refsQ g (refsQ g (c1 g)))))))
def asF (g : Addr → Option Obj) : List Addr := asP g ++ refsQ g (refsQ g [propA (He.frT g (asP g))])
abbrev AlS : Type := (Bool × Bool) × (List He.FnW × He.FnW)
def obsK (g : Addr → Option Obj) (K : PySem.W.Frag) : AlS := (((fal.all fun f => f.ok K) && fnl.all fun d => d.ok K, exB K && He.tabsB g tfl K), (fnl.map fun d => He.fnW K d.at_, getterW K))
def obsS (g : Addr → Option Obj) : AlS := frL (asF g) fun as => frL (He.frT g as) fun K => obsK g K
def valS : AlS := ((true, true), (fnl.map He.DefD.val, getterV))
structure SaysS (h : Heap) (K : PySem.W.Frag) : Prop where
  d : He.SaysD fal fnl K
  more : exB K = true
  hd : ∀ p ∈ tfl, PySem.W.codeHdIn K (He.cT K p).1 (He.cT K p).2 = true
  out : ∀ p ∈ tfl, K.lookup (He.cT K p).2 = none
  empty : ∀ p ∈ tfl, h.get? (He.cT K p).2 = some { cls := .none, data := .fields #[] }
  g : getterW K = getterV
theorem says_of {h : Heap} (e : obsS h.get? = valS) : ∃ K : PySem.W.Frag, K.In h ∧ SaysS h K := by
  unfold obsS at e
  rw [frL_eq, frL_eq] at e
  generalize hK : He.frT h.get? (asF h.get?) = K at e
  unfold obsK valS at e
  obtain ⟨e1, e2⟩ := Prod.mk.inj e
  obtain ⟨a1, a2⟩ := Prod.mk.inj e1
  obtain ⟨b1, b2⟩ := Prod.mk.inj e2
  obtain ⟨c1, c2⟩ := He.ba a2
  have key : ∀ p ∈ tfl, PySem.W.codeHdIn K (He.cT K p).1 (He.cT K p).2 = true ∧ ∃ o, h.get? (He.cT K p).2 = some o ∧ He.emptyTab o = true := fun p hp => by
    obtain ⟨d1, d2⟩ := He.ba (List.all_eq_true.mp (show (tfl.all fun p => PySem.W.codeHdIn K (He.cT K p).1 (He.cT K p).2 && (match h.get? (He.cT K p).2 with
      | some o => He.emptyTab o
      | none => false)) = true from c2) p hp)
    refine ⟨d1, ?_⟩
    cases q : h.get? (He.cT K p).2 with
    | none =>
      rw [q] at d2
      cases d2
    | some o =>
      rw [q] at d2
      exact ⟨o, rfl, d2⟩
  refine ⟨K, by rw [← hK]; exact He.frT_in, ⟨Prod.ext a1 b1, c1, fun p hp => (key p hp).1, fun p hp => ?_, fun p hp => ?_, b2⟩⟩
  · obtain ⟨_, o, q, z⟩ := key p hp
    have r := He.frT_none (as := asF h.get?) q z
    rw [hK] at r
    exact r
  · obtain ⟨_, o, q, z⟩ := key p hp
    rw [q, He.emptyTab_eq z]
def hk : PySem.W.Hook where
  α := AlS
  obs := fun s => obsS s.heap.get?
  val := fun _ => valS
  says := fun _ h => ∃ K : PySem.W.Frag, K.In h ∧ SaysS h K
  of := fun w s e => says_of e
  keeps := fun _ _ _ ⟨K, hK, c⟩ k => ⟨K, PySem.W.Frag.In.keeps hK k, ⟨c.d, c.more, c.hd, c.out, fun p hp => k _ _ (c.empty p hp), c.g⟩⟩
def ob (s : PySem.W.SharedT) : AlS := obsS (HandSHeadRun.getT s)
theorem ob_eq (s : PySem.W.SharedT) : ob s = hk.obs s.abs := by
  have e : HandSHeadRun.getT s = s.abs.heap.get? := funext (HandSHeadRun.getT_eq s)
  unfold ob
  rw [e] <;> rfl
abbrev R : PySem.W.OpenRow := PySem.W.OpenLaw.row PySem.Challenge.rw_sworntypes_k78_whole_one_registration_mo
theorem run (w : World) : HandSHeadRun.RunEq R (PySem.W.view R.prog [101]) hk ob 20000 loose w := by
  intro os
  kernel_rfl
end SW

set_option maxHeartbeats 2000000
/-! ## The pure model: classes in the order of making, registrations; and the plain law -/
namespace SW.M
section
variable {A : Type} [DecidableEq A]

inductive Reach (f : A → A → Prop) : A → A → Prop where
  | refl (a : A) : Reach f a a
  | tail {a b c : A} (h : Reach f a b) (e : f b c) : Reach f a c
theorem Reach.one {f : A → A → Prop} {a b : A} (e : f a b) : Reach f a b := .tail (.refl a) e
theorem Reach.trans {f : A → A → Prop} {a b c : A} (h : Reach f a b) (g : Reach f b c) : Reach f a c := by
  induction g with
  | refl => exact h
  | tail _ e ih => exact .tail ih e
theorem Reach.mono {f g : A → A → Prop} (h : ∀ x y, f x y → g x y) {a b : A} (r : Reach f a b) : Reach g a b := by
  induction r with
  | refl => exact .refl _
  | tail _ e ih => exact .tail ih (h _ _ e)
theorem Reach.head {f : A → A → Prop} {a b c : A} (e : f a b) (h : Reach f b c) : Reach f a c := (Reach.one e).trans h
theorem Reach.cases_head {f : A → A → Prop} {a c : A} (h : Reach f a c) : a = c ∨ ∃ b, f a b ∧ Reach f b c := by
  induction h with
  | refl => exact .inl rfl
  | tail h e ih =>
    rcases ih with rfl | ⟨b, e', h'⟩
    · exact .inr ⟨_, e, .refl _⟩
    · exact .inr ⟨b, e', h'.tail e⟩
/-- the first use of an edge -/
theorem Reach.first {f g : A → A → Prop} {a b : A} (h : ∀ x y, g x y → f x y ∨ (x = a ∧ y = b)) {c y : A} (r : Reach g c y) : Reach f c y ∨ (Reach f c a ∧ g a b) := by
  induction r with
  | refl => exact .inl (.refl _)
  | tail _ e ih =>
    rcases ih with ih | ih
    · rcases h _ _ e with e' | ⟨rfl, rfl⟩
      · exact .inl (ih.tail e')
      · exact .inr ⟨ih, e⟩
    · exact .inr ih
/-- the last use of an edge -/
theorem Reach.last {f g : A → A → Prop} {a b : A} (h : ∀ x y, g x y → f x y ∨ (x = a ∧ y = b)) {c y : A} (r : Reach g c y) : Reach f c y ∨ (Reach g c a ∧ g a b ∧ Reach f b y) := by
  induction r with
  | refl => exact .inl (.refl _)
  | tail r e ih =>
    rcases h _ _ e with e' | ⟨rfl, rfl⟩
    · rcases ih with ih | ⟨h1, h2, h3⟩
      · exact .inl (ih.tail e')
      · exact .inr ⟨h1, h2, h3.tail e'⟩
    · exact .inr ⟨r, e, .refl _⟩
theorem Reach.uses {f g : A → A → Prop} {a b : A} (h : ∀ x y, g x y → f x y ∨ (x = a ∧ y = b)) {c y : A} (r : Reach g c y) : Reach f c y ∨ (Reach f c a ∧ g a b ∧ Reach f b y) := by
  rcases r.last h with r' | ⟨h1, h2, h3⟩
  · exact .inl r'
  · rcases h1.first h with h1' | ⟨h1', _⟩
    · exact .inr ⟨h1', h2, h3⟩
    · exact .inr ⟨h1', h2, h3⟩

/-- a class -/
structure Ent (A : Type) where
  label : A
  parents : List A
  own : Bool
  marks : List (A × A)
  hook : Option (List (List A × Bool))
  passed : Bool
  line : List A
/-- the classes in the order of making; what is registered at each -/
structure Tb (A : Type) where
  es : List (Ent A)
  rg : A → List A

def names (es : List (Ent A)) : List A := es.map (·.label)
def find (es : List (Ent A)) (n : A) : Option (Ent A) := es.find? fun e => decide (e.label = n)
def line (es : List (Ent A)) (n : A) : List A := match find es n with | some e => e.line | none => []
def own (es : List (Ent A)) (n : A) : Bool := match find es n with | some e => e.own | none => false
def parents (es : List (Ent A)) (n : A) : List A := match find es n with | some e => e.parents | none => []
def hookOf (es : List (Ent A)) (n : A) : Option (List (List A × Bool)) := match find es n with | some e => e.hook | none => none
def passedOf (es : List (Ent A)) (n : A) : Bool := match find es n with | some e => e.passed | none => false
def sworn (es : List (Ent A)) (n : A) : Bool := (line es n).any (own es)
def below (es : List (Ent A)) (n : A) : List A := (names es).filter fun o => decide (n ∈ parents es o)
def next (T : Tb A) (n : A) : List A := if sworn T.es n = true then T.rg n ++ (below T.es n).filter (fun o => !decide (o ∈ T.rg n)) else []
def hookAns (ms : List A) : List (List A × Bool) → Option Bool
  | [] => none
  | (w, b) :: r => if w.all (fun m => decide (m ∈ ms)) = true then some b else hookAns ms r
def hookFor (es : List (Ent A)) (n : A) : List A → Option (List (List A × Bool))
  | [] => none
  | o :: r => match hookOf es o with
    | some h => if o = n ∨ passedOf es o = true then some h else none
    | none => hookFor es n r
def ans (es : List (Ent A)) (n : A) (ms : List A) : Option Bool := if sworn es n = true then (hookFor es n (line es n)).bind (hookAns ms) else none
def declines (es : List (Ent A)) (n : A) (ms : List A) : Bool := sworn es n && (ans es n ms).isNone
def heldL (es : List (Ent A)) (c x : A) : List A := line es c ++ line es x

/-- a step of a road in held classes, all but the last declining -/
def stepD (T : Tb A) (c x : A) (ms : List A) (u v : A) : Prop := declines T.es u ms = true ∧ v ∈ next T u ∧ v ∈ heldL T.es c x
/-- .. whatever the hooks answer -/
def stepR (T : Tb A) (c x : A) (u v : A) : Prop := v ∈ next T u ∧ v ∈ heldL T.es c x
def won (T : Tb A) (c x : A) (ms : List A) : Prop := ∃ y, Reach (stepD T c x ms) c y ∧ ans T.es y ms = some true
def reached (T : Tb A) (c x : A) (ms : List A) : Prop :=
  if sworn T.es x = true then Reach (stepD T c x ms) c x ∧ declines T.es x ms = true
  else ∃ y, Reach (stepD T c x ms) c y ∧ sworn T.es y = false ∧ y ∈ line T.es x
inductive Oc where | won | reached | neither deriving DecidableEq
open Classical in
noncomputable def oc (T : Tb A) (c x : A) (ms : List A) : Option Oc :=
  if declines T.es c ms = true then some (if won T c x ms then .won else if reached T c x ms then .reached else .neither) else none
open Classical in
noncomputable def hasRoad (T : Tb A) (c x : A) : Bool := sworn T.es x && decide (Reach (stepR T c x) c x)
noncomputable def state (T : Tb A) (c x : A) (ps : List (List A)) : List (Option Oc) × Bool := (ps.map (oc T c x), hasRoad T c x)
def admit (T : Tb A) (a b : A) : Tb A := ⟨T.es, fun n => if n = a then T.rg a ++ [b] else T.rg n⟩
def Acyc (T : Tb A) : Prop := ∀ u v, v ∈ next T u → ¬ Reach (fun x y => y ∈ next T x) v u
/-- what the law leans on of the classes' lines -/
structure Lines (es : List (Ent A)) : Prop where
  self : ∀ n, n ∈ names es → n ∈ line es n
  trans : ∀ x y z, x ∈ line es y → y ∈ line es z → x ∈ line es z

def rank : Option Oc → Nat
  | some .reached => 1
  | some .won => 2
  | _ => 0

theorem mem_next {T : Tb A} {n y : A} : y ∈ next T n ↔ sworn T.es n = true ∧ (y ∈ T.rg n ∨ y ∈ below T.es n) := by
  unfold next
  by_cases h : sworn T.es n = true
  · simp only [h, if_true, List.mem_append, List.mem_filter, true_and]
    by_cases g : y ∈ T.rg n <;> simp [g]
  · simp [h]
theorem next_admit {T : Tb A} {a b u v : A} (hs : sworn T.es a = true) : v ∈ next (admit T a b) u ↔ v ∈ next T u ∨ (u = a ∧ v = b) := by
  rw [mem_next, mem_next]
  show sworn T.es u = true ∧ (v ∈ (if u = a then T.rg a ++ [b] else T.rg u) ∨ v ∈ below T.es u) ↔ _
  by_cases h : u = a
  · subst h
    simp [hs]
    constructor
    · rintro ((h | h) | h)
      · exact .inl (.inl h)
      · exact .inr h
      · exact .inl (.inr h)
    · rintro ((h | h) | h)
      · exact .inl (.inl h)
      · exact .inr h
      · exact .inl (.inr h)
  · simp [h]
theorem stepD_admit {T : Tb A} {a b c x : A} {ms : List A} (hs : sworn T.es a = true) : ∀ u v, stepD (admit T a b) c x ms u v → stepD T c x ms u v ∨ (u = a ∧ v = b) := by
  rintro u v ⟨h1, h2, h3⟩
  rcases (next_admit hs).mp h2 with h | h
  · exact .inl ⟨h1, h, h3⟩
  · exact .inr h
theorem stepR_admit {T : Tb A} {a b c x : A} (hs : sworn T.es a = true) : ∀ u v, stepR (admit T a b) c x u v → stepR T c x u v ∨ (u = a ∧ v = b) := by
  rintro u v ⟨h2, h3⟩
  rcases (next_admit hs).mp h2 with h | h
  · exact .inl ⟨h, h3⟩
  · exact .inr h
theorem stepD_up {T : Tb A} {a b c x : A} {ms : List A} (hs : sworn T.es a = true) : ∀ u v, stepD T c x ms u v → stepD (admit T a b) c x ms u v :=
  fun _ _ ⟨h1, h2, h3⟩ => ⟨h1, (next_admit hs).mpr (.inl h2), h3⟩
theorem stepR_up {T : Tb A} {a b c x : A} (hs : sworn T.es a = true) : ∀ u v, stepR T c x u v → stepR (admit T a b) c x u v :=
  fun _ _ ⟨h2, h3⟩ => ⟨(next_admit hs).mpr (.inl h2), h3⟩
theorem won_up {T : Tb A} {a b c x : A} {ms : List A} (hs : sworn T.es a = true) (h : won T c x ms) : won (admit T a b) c x ms :=
  let ⟨y, r, e⟩ := h
  ⟨y, r.mono (stepD_up hs), e⟩
theorem reached_up {T : Tb A} {a b c x : A} {ms : List A} (hs : sworn T.es a = true) (h : reached T c x ms) : reached (admit T a b) c x ms := by
  unfold reached at h ⊢
  show if sworn T.es x = true then _ else _
  by_cases g : sworn T.es x = true
  · rw [if_pos g] at h ⊢
    exact ⟨h.1.mono (stepD_up hs), h.2⟩
  · rw [if_neg g] at h ⊢
    obtain ⟨y, r, e⟩ := h
    exact ⟨y, r.mono (stepD_up hs), e⟩
theorem oc_none {T : Tb A} {c x : A} {ms : List A} : oc T c x ms = none ↔ declines T.es c ms = false := by
  unfold oc
  by_cases h : declines T.es c ms = true
  · simp [h]
  · simp [h]
/-- the outcomes only rise -/
theorem rises {T : Tb A} {a b : A} (hs : sworn T.es a = true) (c x : A) (ms : List A) : rank (oc T c x ms) ≤ rank (oc (admit T a b) c x ms) ∧ (oc T c x ms = none ↔ oc (admit T a b) c x ms = none) := by
  constructor
  · unfold oc
    show rank (if declines T.es c ms = true then _ else _) ≤ rank (if declines T.es c ms = true then _ else _)
    by_cases h : declines T.es c ms = true
    · rw [if_pos h, if_pos h]
      by_cases hw : won T c x ms
      · rw [if_pos hw, if_pos (won_up hs hw)]
        exact Nat.le_refl _
      · rw [if_neg hw]
        by_cases hr : reached T c x ms
        · rw [if_pos hr]
          by_cases hw' : won (admit T a b) c x ms
          · rw [if_pos hw']
            decide
          · rw [if_neg hw', if_pos (reached_up hs hr)]
            exact Nat.le_refl _
        · rw [if_neg hr]
          exact Nat.zero_le _
    · rw [if_neg h, if_neg h]
      exact Nat.le_refl _
  · rw [oc_none, oc_none]
    exact Iff.rfl
theorem line_mem {es : List (Ent A)} {n y : A} (h : y ∈ line es n) : n ∈ names es := by
  unfold line at h
  cases e : find es n with
  | none =>
    rw [e] at h
    cases h
  | some E =>
    unfold find at e
    have h1 := List.mem_of_find?_eq_some e
    have h2 := List.find?_some e
    have h3 : E.label = n := of_decide_eq_true h2
    exact List.mem_map.mpr ⟨E, h1, h3⟩
theorem sworn_mem {es : List (Ent A)} {n : A} (h : sworn es n = true) : n ∈ names es := by
  unfold sworn at h
  obtain ⟨y, hy, _⟩ := List.any_eq_true.mp h
  exact line_mem hy
theorem declines_sworn {es : List (Ent A)} {n : A} {ms : List A} (h : declines es n ms = true) : sworn es n = true := (Bool.and_eq_true_iff.mp h).1

/-- a class that a road reaches is held -/
theorem held_of {T : Tb A} {c x y : A} {f : A → A → Prop} (L : Lines T.es) (hc : c ∈ names T.es) (hf : ∀ u v, f u v → v ∈ heldL T.es c x) (r : Reach f c y) : y ∈ heldL T.es c x := by
  cases r with
  | refl => exact List.mem_append_left _ (L.self _ hc)
  | tail _ e => exact hf _ _ e
theorem held_sub {es : List (Ent A)} (L : Lines es) {a b c x y : A} (ha : a ∈ heldL es c x) (hb : b ∈ heldL es c x) (hy : y ∈ heldL es a b) : y ∈ heldL es c x := by
  unfold heldL at *
  rcases List.mem_append.mp hy with hy | hy
  · rcases List.mem_append.mp ha with h | h
    · exact List.mem_append_left _ (L.trans _ _ _ hy h)
    · exact List.mem_append_right _ (L.trans _ _ _ hy h)
  · rcases List.mem_append.mp hb with h | h
    · exact List.mem_append_left _ (L.trans _ _ _ hy h)
    · exact List.mem_append_right _ (L.trans _ _ _ hy h)

section
variable {T : Tb A} {a b : A} (L : Lines T.es) (hs : sworn T.es a = true) (hb : b ∈ names T.es)
include L hs hb
/-- where a road of the greater world uses the edge: what the pair (a, b) knows -/
theorem used {c x y : A} {ms : List A} (hc : c ∈ names T.es) (r : Reach (stepD (admit T a b) c x ms) c y) (eq : oc T a b ms = oc (admit T a b) a b ms) :
    Reach (stepD T c x ms) c y ∨ won T c x ms ∨
      (Reach (stepD T c x ms) c a ∧ y = b ∧ b ∈ heldL T.es c x ∧ sworn T.es b = true ∧ ans T.es b ms = some false) ∨
      (Reach (stepD T c x ms) c a ∧ y = b ∧ b ∈ heldL T.es c x ∧ sworn T.es b = false ∧ ∃ z, Reach (stepD T c x ms) c z ∧ sworn T.es z = false ∧ z ∈ line T.es b) := by
  rcases r.uses (stepD_admit hs) with r | ⟨r1, e, r2⟩
  · exact .inl r
  have hab : a ∈ heldL T.es c x := held_of L hc (fun _ _ h => h.2.2) r1
  have hbb : b ∈ heldL T.es c x := e.2.2
  have hd : declines T.es a ms = true := e.1
  have up : ∀ u v, stepD T a b ms u v → stepD T c x ms u v := fun u v ⟨h1, h2, h3⟩ => ⟨h1, h2, held_sub L hab hbb h3⟩
  have e0 : stepD (admit T a b) a b ms a b := ⟨e.1, e.2.1, List.mem_append_right _ (L.self _ hb)⟩
  have wc : won T a b ms → won T c x ms := fun ⟨z, rz, hz⟩ => ⟨z, r1.trans (rz.mono up), hz⟩
  have stay : ∀ z, declines T.es b ms = false → Reach (stepD T c x ms) b z → z = b := fun z hb' rz => by
    rcases rz.cases_head with h | ⟨v, h, _⟩
    · exact h.symm
    · rw [h.1] at hb'
      cases hb'
  unfold oc at eq
  rw [if_pos hd, if_pos (show declines (admit T a b).es a ms = true from hd)] at eq
  have eq := Option.some.inj eq
  by_cases hw : won T a b ms
  · exact .inr (.inl (wc hw))
  have hw' : ¬ won (admit T a b) a b ms := fun h => by
    rw [if_pos h, if_neg hw] at eq
    by_cases hr : reached T a b ms
    · rw [if_pos hr] at eq
      cases eq
    · rw [if_neg hr] at eq
      cases eq
  rw [if_neg hw, if_neg hw'] at eq
  by_cases sb : sworn T.es b = true
  · cases ea : ans T.es b ms with
    | none =>
      have db : declines T.es b ms = true := by
        unfold declines
        rw [sb, ea] <;> rfl
      have hr' : reached (admit T a b) a b ms := by
        unfold reached
        rw [if_pos (show sworn (admit T a b).es b = true from sb)]
        exact ⟨.one e0, db⟩
      have hr : reached T a b ms := by
        by_cases h : reached T a b ms
        · exact h
        · rw [if_neg h, if_pos hr'] at eq
          cases eq
      unfold reached at hr
      rw [if_pos sb] at hr
      exact .inl (r1.trans ((hr.1.mono up).trans r2))
    | some k =>
      have db : declines T.es b ms = false := by
        unfold declines
        rw [sb, ea] <;> rfl
      cases k with
      | true => exact absurd ⟨b, .one e0, ea⟩ hw'
      | false => exact .inr (.inr (.inl ⟨r1, stay _ db r2, hbb, sb, rfl⟩))
  · have sb : sworn T.es b = false := by
      cases h : sworn T.es b with
      | true => exact absurd h sb
      | false => rfl
    have db : declines T.es b ms = false := by
      unfold declines
      rw [sb] <;> rfl
    have hr' : reached (admit T a b) a b ms := by
      unfold reached
      rw [if_neg (show ¬ sworn (admit T a b).es b = true by rw [show sworn (admit T a b).es b = false from sb]; decide)]
      exact ⟨b, .one e0, sb, L.self _ hb⟩
    have hr : reached T a b ms := by
      by_cases h : reached T a b ms
      · exact h
      · rw [if_neg h, if_pos hr'] at eq
        cases eq
    unfold reached at hr
    rw [if_neg (by rw [sb]; decide)] at hr
    obtain ⟨z, rz, hz, hl⟩ := hr
    exact .inr (.inr (.inr ⟨r1, stay _ db r2, hbb, sb, z, r1.trans (rz.mono up), hz, hl⟩))
/-- an outcome that stays at (a, b) stays everywhere -/
theorem oc_all {ms : List A} (eq : oc T a b ms = oc (admit T a b) a b ms) {c x : A} (hc : c ∈ names T.es) : oc T c x ms = oc (admit T a b) c x ms := by
  have w : won (admit T a b) c x ms → won T c x ms := fun ⟨y, r, hy⟩ => by
    rcases used L hs hb hc r eq with r | h | ⟨_, rfl, _, _, e⟩ | ⟨_, rfl, _, e, _⟩
    · exact ⟨y, r, hy⟩
    · exact h
    · rw [show ans (admit T a y).es y ms = ans T.es y ms from rfl, e] at hy
      cases hy
    · unfold ans at hy
      rw [if_neg (by rw [show sworn (admit T a y).es y = false from e]; decide)] at hy
      cases hy
  have rr : reached (admit T a b) c x ms → won T c x ms ∨ reached T c x ms := fun h => by
    unfold reached at h ⊢
    by_cases sx : sworn T.es x = true
    · rw [if_pos (show sworn (admit T a b).es x = true from sx)] at h
      rw [if_pos sx]
      rcases used L hs hb hc h.1 eq with r | h' | ⟨_, rfl, _, sb, e⟩ | ⟨_, rfl, _, e, _⟩
      · exact .inr ⟨r, h.2⟩
      · exact .inl h'
      · have q : declines T.es x ms = true := h.2
        unfold declines at q
        rw [sb, e] at q
        cases q
      · rw [sx] at e
        cases e
    · rw [if_neg (show ¬ sworn (admit T a b).es x = true from sx)] at h
      rw [if_neg sx]
      obtain ⟨y, r, h1, h2⟩ := h
      have h1 : sworn T.es y = false := h1
      have h2 : y ∈ line T.es x := h2
      rcases used L hs hb hc r eq with r | h' | ⟨_, rfl, _, sb, _⟩ | ⟨_, rfl, _, _, z, rz, hz, hl⟩
      · exact .inr ⟨y, r, h1, h2⟩
      · exact .inl h'
      · have h1' : sworn T.es _ = false := h1
        rw [show sworn T.es _ = true from sb] at h1'
        cases h1'
      · exact .inr ⟨z, rz, hz, L.trans _ _ _ hl h2⟩
  unfold oc
  show (if declines T.es c ms = true then _ else _) = if declines T.es c ms = true then _ else _
  by_cases hd : declines T.es c ms = true
  · rw [if_pos hd, if_pos hd]
    by_cases h1 : won T c x ms
    · rw [if_pos h1, if_pos (won_up hs h1)]
    · rw [if_neg h1, if_neg (fun z => h1 (w z))]
      by_cases h2 : reached T c x ms
      · rw [if_pos h2, if_pos (reached_up hs h2)]
      · rw [if_neg h2, if_neg]
        intro z
        rcases rr z with h | h
        · exact h1 h
        · exact h2 h
  · rw [if_neg hd, if_neg hd]
theorem road_all (eq : hasRoad T a b = hasRoad (admit T a b) a b) {c x : A} (hc : c ∈ names T.es) : hasRoad T c x = hasRoad (admit T a b) c x := by
  unfold hasRoad
  show (sworn T.es x && _) = (sworn T.es x && _)
  cases sx : sworn T.es x with
  | false => rfl
  | true =>
    rw [Bool.true_and, Bool.true_and]
    refine decide_eq_decide.mpr ⟨fun r => r.mono (stepR_up hs), fun r => ?_⟩
    rcases r.uses (stepR_admit hs) with r | ⟨r1, e, r2⟩
    · exact r
    have hab : a ∈ heldL T.es c x := held_of L hc (fun _ _ h => h.2) r1
    have hbb : b ∈ heldL T.es c x := e.2
    have up : ∀ u v, stepR T a b u v → stepR T c x u v := fun u v ⟨h2, h3⟩ => ⟨h2, held_sub L hab hbb h3⟩
    have e0 : stepR (admit T a b) a b a b := ⟨e.1, List.mem_append_right _ (L.self _ hb)⟩
    cases sb : sworn T.es b with
    | true =>
      have q : hasRoad (admit T a b) a b = true := by
        unfold hasRoad
        rw [show sworn (admit T a b).es b = true from sb, Bool.true_and]
        exact @decide_eq_true _ (Classical.propDecidable _) (.one e0)
      rw [← eq] at q
      unfold hasRoad at q
      rw [sb, Bool.true_and] at q
      exact r1.trans (((@of_decide_eq_true _ (Classical.propDecidable _) q).mono up).trans r2)
    | false =>
      rcases r2.cases_head with h | ⟨v, h, _⟩
      · rw [← h, sb] at sx
        cases sx
      · rw [(mem_next.mp h.1).1] at sb
        cases sb
/-- a state that stays at (a, b) stays everywhere -/
theorem state_all {ps : List (List A)} (eq : state T a b ps = state (admit T a b) a b ps) {c x : A} (hc : c ∈ names T.es) : state T c x ps = state (admit T a b) c x ps := by
  unfold state at eq ⊢
  obtain ⟨e1, e2⟩ := Prod.mk.inj eq
  rw [road_all L hs hb e2 hc]
  refine Prod.ext ?_ rfl
  refine List.map_congr_left fun ms hm => oc_all L hs hb ?_ hc
  exact List.map_inj_left.mp e1 ms hm
end
theorem acyc_admit {T : Tb A} {a b : A} (hT : Acyc T) (hs : sworn T.es a = true) (hab : a ≠ b) (hr : ¬ Reach (fun x y => y ∈ next T x) b a) : Acyc (admit T a b) := by
  have st : ∀ u v, v ∈ next (admit T a b) u → v ∈ next T u ∨ (u = a ∧ v = b) := fun u v h => (next_admit hs).mp h
  intro u v h r0
  rcases r0.uses (f := fun x y => y ∈ next T x) st with r | ⟨r1, _, r2⟩
  · rcases st u v h with h | ⟨rfl, rfl⟩
    · exact hT u v h r
    · exact hr r
  · rcases st u v h with h | ⟨rfl, rfl⟩
    · exact hr (r2.trans (.head h r1))
    · exact hr r1
end
end SW.M

set_option maxHeartbeats 2000000
/-! ## the merge of orders -/
namespace SW.M
section
variable {A : Type} [DecidableEq A]
/-- the heads, the first good one -/
def heads (ls : List (List A)) : List A := ls.filterMap List.head?
def goodH (ls : List (List A)) (h : A) : Bool := ls.all fun l => !decide (h ∈ l.tail)
def mstep (ls : List (List A)) : Option A := (heads ls).find? (goodH ls)
def without (h : A) (ls : List (List A)) : List (List A) := ls.map fun l => l.filter fun x => decide (x ≠ h)
inductive Mg : List (List A) → Option (List A) → Prop where
  | done {ls : List (List A)} (h : ∀ l ∈ ls, l = []) : Mg ls (some [])
  | stuck {ls : List (List A)} (h : ¬ ∀ l ∈ ls, l = []) (e : mstep ls = none) : Mg ls none
  | step {ls : List (List A)} {x : A} {r : Option (List A)} (e : mstep ls = some x) (m : Mg (without x ls) r) : Mg ls (r.map (x :: ·))
theorem mstep_some {ls : List (List A)} {x : A} (e : mstep ls = some x) : (∃ l ∈ ls, l.head? = some x) ∧ ∀ l ∈ ls, x ∉ l.tail := by
  unfold mstep at e
  have h1 := List.mem_of_find?_eq_some e
  have h2 := List.find?_some e
  refine ⟨?_, fun l hl hx => ?_⟩
  · obtain ⟨l, hl, e2⟩ := List.mem_filterMap.mp h1
    exact ⟨l, hl, e2⟩
  · unfold goodH at h2
    have h3 := List.all_eq_true.mp h2 l hl
    simp [hx] at h3
theorem mstep_ne {ls : List (List A)} {x : A} (e : mstep ls = some x) : ¬ ∀ l ∈ ls, l = [] := fun h => by
  obtain ⟨⟨l, hl, e2⟩, _⟩ := mstep_some e
  rw [h l hl] at e2
  cases e2
theorem Mg.unique {ls : List (List A)} {r r' : Option (List A)} (h : Mg ls r) (g : Mg ls r') : r = r' := by
  induction h generalizing r' with
  | done h =>
    cases g with
    | done _ => rfl
    | stuck h' _ => exact absurd h h'
    | step e _ => exact absurd h (mstep_ne e)
  | stuck h e =>
    cases g with
    | done h' => exact absurd h' h
    | stuck _ _ => rfl
    | step e' _ =>
      rw [e] at e'
      cases e'
  | step e m ih =>
    cases g with
    | done h' => exact absurd h' (mstep_ne e)
    | stuck _ e' =>
      rw [e] at e'
      cases e'
    | step e' m' =>
      rw [e] at e'
      cases e'
      rw [ih m']
theorem mem_without {x y : A} {ls : List (List A)} : (∃ l ∈ without x ls, y ∈ l) ↔ y ≠ x ∧ ∃ l ∈ ls, y ∈ l := by
  unfold without
  constructor
  · rintro ⟨l, hl, hy⟩
    obtain ⟨l', hl', rfl⟩ := List.mem_map.mp hl
    obtain ⟨h1, h2⟩ := List.mem_filter.mp hy
    exact ⟨of_decide_eq_true h2, l', hl', h1⟩
  · rintro ⟨hne, l, hl, hy⟩
    exact ⟨_, List.mem_map.mpr ⟨l, hl, rfl⟩, List.mem_filter.mpr ⟨hy, decide_eq_true hne⟩⟩
/-- the members of the merge; none twice -/
theorem Mg.mem {ls : List (List A)} {r : Option (List A)} (h : Mg ls r) : ∀ {m : List A}, r = some m → (∀ y, y ∈ m ↔ ∃ l ∈ ls, y ∈ l) ∧ m.Nodup := by
  induction h with
  | done h =>
    intro m e
    cases e
    refine ⟨fun y => ⟨fun z => (by cases z), fun ⟨l, hl, hy⟩ => (by rw [h l hl] at hy; cases hy)⟩, List.nodup_nil⟩
  | stuck _ _ =>
    intro m e
    cases e
  | @step ls x r e _ ih =>
    intro m e2
    cases r with
    | none => cases e2
    | some k =>
      cases e2
      obtain ⟨h1, h2⟩ := ih rfl
      obtain ⟨⟨l0, hl0, he0⟩, _⟩ := mstep_some e
      have hx : x ∈ l0 := List.mem_of_mem_head? (by rw [he0]; rfl)
      refine ⟨fun y => ?_, List.nodup_cons.mpr ⟨fun z => ?_, h2⟩⟩
      · rw [List.mem_cons, h1 y, mem_without]
        constructor
        · rintro (rfl | ⟨_, h⟩)
          · exact ⟨l0, hl0, hx⟩
          · exact h
        · intro h
          by_cases hy : y = x
          · exact .inl hy
          · exact .inr ⟨hy, h⟩
      · exact (mem_without.mp ((h1 x).mp z)).1 rfl
/-- empty lists do not matter -/
theorem heads_filter (ls : List (List A)) : heads (ls.filter fun l => !l.isEmpty) = heads ls := by
  unfold heads
  induction ls with
  | nil => rfl
  | cons l ls ih =>
    cases l with
    | nil =>
      rw [List.filter_cons_of_neg (by simp), ih] <;> rfl
    | cons a l =>
      rw [List.filter_cons_of_pos (by simp)]
      show (a :: _) = a :: _
      rw [ih]
theorem good_filter (ls : List (List A)) (h : A) : goodH (ls.filter fun l => !l.isEmpty) h = goodH ls h := by
  unfold goodH
  induction ls with
  | nil => rfl
  | cons l ls ih =>
    cases l with
    | nil =>
      rw [List.filter_cons_of_neg (by simp), ih]
      simp
    | cons a l =>
      rw [List.filter_cons_of_pos (by simp), List.all_cons, ih, List.all_cons]
theorem mstep_filter (ls : List (List A)) : mstep (ls.filter fun l => !l.isEmpty) = mstep ls := by
  unfold mstep
  rw [heads_filter]
  congr 1
  funext h
  exact good_filter ls h
/-- a class and its own line alone -/
theorem Mg.one : ∀ {L : List A} {ls : List (List A)}, L.Nodup → (∀ l ∈ ls, l = [] ∨ l = L.take 1 ∨ l = L) → L ∈ ls → Mg ls (some L)
  | [], ls, _, h, _ => .done fun l hl => by
    rcases h l hl with e | e | e
    · exact e
    · simpa using e
    · exact e
  | x :: L, ls, nd, h, hm => by
    obtain ⟨n1, n2⟩ := List.nodup_cons.mp nd
    have hx : mstep ls = some x := by
      unfold mstep
      cases q : (heads ls).find? (goodH ls) with
      | none =>
        have z := List.find?_eq_none.mp q x (List.mem_filterMap.mpr ⟨x :: L, hm, rfl⟩)
        refine absurd ?_ z
        unfold goodH
        rw [List.all_eq_true]
        intro l hl
        rcases h l hl with e | e | e
        · rw [e] <;> simp
        · rw [e] <;> simp
        · rw [e]
          simp [n1]
      | some y =>
        have y1 := List.mem_of_find?_eq_some q
        obtain ⟨l, hl, e2⟩ := List.mem_filterMap.mp y1
        rcases h l hl with e | e | e
        · rw [e] at e2
          cases e2
        · rw [e] at e2
          simp at e2
          rw [e2]
        · rw [e] at e2
          simp at e2
          rw [e2]
    have hL : (x :: L).filter (fun y => decide (y ≠ x)) = L := by
      rw [List.filter_cons_of_neg (by simp)]
      exact List.filter_eq_self.mpr fun y hy => decide_eq_true fun e => n1 (e ▸ hy)
    refine Mg.step (r := some L) hx (Mg.one n2 (fun l hl => ?_) ?_)
    · unfold without at hl
      obtain ⟨l', hl', rfl⟩ := List.mem_map.mp hl
      rcases h l' hl' with e | e | e
      · rw [e]
        exact .inl rfl
      · rw [e]
        left
        simp
      · rw [e, hL]
        exact .inr (.inr rfl)
    · unfold without
      exact List.mem_map.mpr ⟨x :: L, hm, hL⟩
def tot (ls : List (List A)) : Nat := (ls.map List.length).sum
theorem tot_le (x : A) (ls : List (List A)) : tot (without x ls) ≤ tot ls := by
  unfold tot without
  induction ls with
  | nil => exact Nat.le_refl _
  | cons l ls ih =>
    have h := List.length_filter_le (fun y => decide (y ≠ x)) l
    simp only [List.map_cons, List.sum_cons] at ih ⊢
    omega
theorem tot_lt {x : A} {ls : List (List A)} (h : ∃ l ∈ ls, x ∈ l) : tot (without x ls) < tot ls := by
  obtain ⟨l, hl, hx⟩ := h
  induction ls with
  | nil => cases hl
  | cons l0 ls ih =>
    have h0 := List.length_filter_le (fun y => decide (y ≠ x)) l0
    have h1 := tot_le x ls
    unfold tot without at h1 ih ⊢
    simp only [List.map_cons, List.sum_cons] at h1 ih ⊢
    rcases List.mem_cons.mp hl with rfl | hl
    · have h2 : (l.filter fun y => decide (y ≠ x)).length < l.length := by
        rcases Nat.lt_or_ge (l.filter fun y => decide (y ≠ x)).length l.length with z | z
        · exact z
        · have e := List.length_filter_eq_length_iff.mp (Nat.le_antisymm h0 z) x hx
          simp at e
      omega
    · have := ih hl
      omega
theorem tot_filter (ls : List (List A)) : tot (ls.filter fun l => !l.isEmpty) = tot ls := by
  unfold tot
  induction ls with
  | nil => rfl
  | cons l ls ih =>
    cases l with
    | nil =>
      rw [List.filter_cons_of_neg (by simp), ih]
      simp
    | cons a l =>
      rw [List.filter_cons_of_pos (by simp), List.map_cons, List.sum_cons, ih, List.map_cons, List.sum_cons]
theorem without_filter (x : A) (ls : List (List A)) : (without x (ls.filter fun l => !l.isEmpty)).filter (fun l => !l.isEmpty) = (without x ls).filter fun l => !l.isEmpty := by
  unfold without
  induction ls with
  | nil => rfl
  | cons l ls ih =>
    cases l with
    | nil =>
      rw [List.filter_cons_of_neg (by simp), List.map_cons, List.filter_cons_of_neg (by simp)]
      exact ih
    | cons a l =>
      rw [List.filter_cons_of_pos (by simp), List.map_cons, List.map_cons]
      generalize List.filter (fun y => decide (y ≠ x)) (a :: l) = k
      rw [List.filter_cons, List.filter_cons, ih]
/-- empty lists may be left out -/
theorem Mg.of_filter {ls : List (List A)} {r : Option (List A)} (h : Mg ls r) : ∀ {ms : List (List A)}, (ms.filter fun l => !l.isEmpty) = (ls.filter fun l => !l.isEmpty) → Mg ms r := by
  have all_nil : ∀ {ls : List (List A)}, (∀ l ∈ ls, l = []) ↔ (ls.filter fun l => !l.isEmpty) = [] := fun {ls} => by
    rw [List.filter_eq_nil_iff]
    exact ⟨fun h l hl => by simp [h l hl], fun h l hl => by simpa using h l hl⟩
  induction h with
  | done h =>
    intro ms e
    exact .done (all_nil.mpr (e.trans (all_nil.mp h)))
  | @stuck ls h e1 =>
    intro ms e
    refine .stuck (fun z => h (all_nil.mpr (e.symm.trans (all_nil.mp z)))) ?_
    rw [← mstep_filter, e, mstep_filter, e1]
  | @step ls x r e1 _ ih =>
    intro ms e
    refine .step (by rw [← mstep_filter, e, mstep_filter, e1]) (ih ?_)
    rw [← without_filter x ms, e, without_filter]
end
end SW.M

set_option maxHeartbeats 2000000
/-! ## classes made one behind another -/
namespace SW.M
section
variable {A : Type} [DecidableEq A]
inductive Built (R : List (Ent A) → Ent A → Prop) : List (Ent A) → Prop where
  | nil : Built R []
  | snoc {es : List (Ent A)} {E : Ent A} (h : Built R es) (r : R es E) : Built R (es ++ [E])
theorem snoc_inv {B : Type} {es fs : List B} {E F : B} (h : es ++ [E] = fs ++ [F]) : es = fs ∧ E = F := by
  have h1 := List.append_inj' h rfl
  exact ⟨h1.1, by simpa using h1.2⟩
theorem Built.last {R : List (Ent A) → Ent A → Prop} {es : List (Ent A)} {E : Ent A} (h : Built R (es ++ [E])) : Built R es ∧ R es E := by
  generalize e : es ++ [E] = fs at h
  cases h with
  | nil => simp at e
  | snoc h r =>
    obtain ⟨e1, e2⟩ := snoc_inv e
    subst e1 e2
    exact ⟨h, r⟩
theorem Built.pre {R : List (Ent A) → Ent A → Prop} {es : List (Ent A)} (h : Built R es) : ∀ i, Built R (es.take i) := by
  induction h with
  | nil =>
    intro i
    rw [List.take_nil]
    exact .nil
  | @snoc es E h r ih =>
    intro i
    by_cases hi : i ≤ es.length
    · rw [List.take_append_of_le_length hi]
      exact ih i
    · rw [List.take_of_length_le (by simp; omega)]
      exact .snoc h r
theorem Built.at {R : List (Ent A) → Ent A → Prop} {es : List (Ent A)} (h : Built R es) {i : Nat} {E : Ent A} (hi : es[i]? = some E) : R (es.take i) E := by
  have h1 := h.pre (i + 1)
  rw [List.take_succ, hi] at h1
  exact (h1.last).2
theorem Built.all {R : List (Ent A) → Ent A → Prop} {es : List (Ent A)} (h : Built R es) {E : Ent A} (hE : E ∈ es) : ∃ i, es[i]? = some E ∧ R (es.take i) E := by
  obtain ⟨i, hi⟩ := List.mem_iff_getElem?.mp hE
  exact ⟨i, hi, h.at hi⟩
/-- a class's line is the merge -/
structure LnOk (es : List (Ent A)) (E : Ent A) : Prop where
  new : E.label ∉ names es
  par : ∀ b ∈ E.parents, b ∈ names es
  ord : ∃ m, E.line = E.label :: m ∧ Mg (E.parents.map (line es) ++ [E.parents]) (some m)
theorem names_snoc {es : List (Ent A)} {E : Ent A} : names (es ++ [E]) = names es ++ [E.label] := by
  unfold names
  rw [List.map_append] <;> rfl
theorem mem_names_snoc {es : List (Ent A)} {E : Ent A} {n : A} : n ∈ names (es ++ [E]) ↔ n ∈ names es ∨ n = E.label := by
  rw [names_snoc, List.mem_append, List.mem_singleton]
theorem find_isSome {es : List (Ent A)} {n : A} : n ∈ names es ↔ ∃ E, find es n = some E := by
  unfold names find
  constructor
  · intro h
    obtain ⟨E, hE, e⟩ := List.mem_map.mp h
    cases q : es.find? fun e => decide (e.label = n) with
    | none =>
      have := List.find?_eq_none.mp q E hE
      simp [e] at this
    | some E' => exact ⟨E', rfl⟩
  · rintro ⟨E, e⟩
    have h1 := List.mem_of_find?_eq_some e
    have h2 := List.find?_some e
    exact List.mem_map.mpr ⟨E, h1, of_decide_eq_true h2⟩
theorem find_old {es : List (Ent A)} {E : Ent A} {n : A} (h : n ∈ names es) : find (es ++ [E]) n = find es n := by
  obtain ⟨F, e⟩ := find_isSome.mp h
  unfold find at e ⊢
  rw [List.find?_append, e] <;> rfl
theorem find_new {es : List (Ent A)} {E : Ent A} (h : E.label ∉ names es) : find (es ++ [E]) E.label = some E := by
  have e : find es E.label = none := by
    cases q : find es E.label with
    | none => rfl
    | some F => exact absurd (find_isSome.mpr ⟨F, q⟩) h
  unfold find at e ⊢
  rw [List.find?_append, e]
  simp
theorem find_out {es : List (Ent A)} {n : A} (h : n ∉ names es) : find es n = none := by
  cases q : find es n with
  | none => rfl
  | some F => exact absurd (find_isSome.mpr ⟨F, q⟩) h
section
variable {es : List (Ent A)} {E : Ent A} {n : A}
theorem line_old (h : n ∈ names es) : line (es ++ [E]) n = line es n := by unfold line; rw [find_old h]
theorem own_old (h : n ∈ names es) : own (es ++ [E]) n = own es n := by unfold own; rw [find_old h]
theorem parents_old (h : n ∈ names es) : parents (es ++ [E]) n = parents es n := by unfold parents; rw [find_old h]
theorem hookOf_old (h : n ∈ names es) : hookOf (es ++ [E]) n = hookOf es n := by unfold hookOf; rw [find_old h]
theorem passedOf_old (h : n ∈ names es) : passedOf (es ++ [E]) n = passedOf es n := by unfold passedOf; rw [find_old h]
theorem line_new (h : E.label ∉ names es) : line (es ++ [E]) E.label = E.line := by unfold line; rw [find_new h]
theorem own_new (h : E.label ∉ names es) : own (es ++ [E]) E.label = E.own := by unfold own; rw [find_new h]
theorem parents_new (h : E.label ∉ names es) : parents (es ++ [E]) E.label = E.parents := by unfold parents; rw [find_new h]
theorem hookOf_new (h : E.label ∉ names es) : hookOf (es ++ [E]) E.label = E.hook := by unfold hookOf; rw [find_new h]
theorem line_out (h : n ∉ names es) : line es n = [] := by unfold line; rw [find_out h]
end
/-- the lines are as the law leans on them -/
structure LnFacts (es : List (Ent A)) : Prop extends Lines es where
  nd : (names es).Nodup
  sub : ∀ n o, o ∈ line es n → o ∈ names es
  one : ∀ n, (line es n).Nodup
theorem LnFacts.nil : LnFacts ([] : List (Ent A)) where
  self := fun n h => by cases h
  trans := fun x y z h _ => by cases h
  nd := List.nodup_nil
  sub := fun n o h => by cases h
  one := fun n => List.nodup_nil
theorem line_cases {es : List (Ent A)} {E : Ent A} {n : A} : (n ∈ names es ∧ line (es ++ [E]) n = line es n) ∨ (n ∉ names es ∧ n = E.label ∧ line (es ++ [E]) n = E.line) ∨ (n ∉ names (es ++ [E]) ∧ line (es ++ [E]) n = []) := by
  by_cases h : n ∈ names es
  · exact .inl ⟨h, line_old h⟩
  · by_cases g : n = E.label
    · subst g
      exact .inr (.inl ⟨h, rfl, line_new h⟩)
    · have h2 : n ∉ names (es ++ [E]) := fun z => (mem_names_snoc.mp z).elim h g
      exact .inr (.inr ⟨h2, line_out h2⟩)
theorem LnOk.mem {es : List (Ent A)} {E : Ent A} (r : LnOk es E) : ∃ m, E.line = E.label :: m ∧ (∀ y, y ∈ m ↔ y ∈ E.parents ∨ ∃ b ∈ E.parents, y ∈ line es b) ∧ m.Nodup := by
  obtain ⟨m, e, g⟩ := r.ord
  obtain ⟨h1, h2⟩ := g.mem rfl
  refine ⟨m, e, fun y => ?_, h2⟩
  rw [h1 y]
  constructor
  · rintro ⟨l, hl, hy⟩
    rcases List.mem_append.mp hl with hl | hl
    · obtain ⟨b, hb, rfl⟩ := List.mem_map.mp hl
      exact .inr ⟨b, hb, hy⟩
    · rw [List.mem_singleton.mp hl] at hy
      exact .inl hy
  · rintro (h | ⟨b, hb, hy⟩)
    · exact ⟨E.parents, List.mem_append_right _ List.mem_cons_self, h⟩
    · exact ⟨line es b, List.mem_append_left _ (List.mem_map.mpr ⟨b, hb, rfl⟩), hy⟩
theorem LnFacts.snoc {es : List (Ent A)} {E : Ent A} (f : LnFacts es) (r : LnOk es E) : LnFacts (es ++ [E]) := by
  obtain ⟨m, e, hm, mnd⟩ := r.mem
  have mn : ∀ y ∈ m, y ∈ names es := fun y hy => by
    rcases (hm y).mp hy with h | ⟨b, hb, h⟩
    · exact r.par y h
    · exact f.sub b y h
  have lb : ∀ n o, o ∈ line (es ++ [E]) n → o ∈ names (es ++ [E]) := fun n o h => by
    rcases line_cases (es := es) (E := E) (n := n) with ⟨h1, h2⟩ | ⟨_, h1, h2⟩ | ⟨h1, h2⟩
    · rw [h2] at h
      exact mem_names_snoc.mpr (.inl (f.sub n o h))
    · rw [h2, e] at h
      rcases List.mem_cons.mp h with h | h
      · exact mem_names_snoc.mpr (.inr h)
      · exact mem_names_snoc.mpr (.inl (mn o h))
    · rw [h2] at h
      cases h
  refine ⟨⟨fun n hn => ?_, fun x y z hx hy => ?_⟩, ?_, lb, fun n => ?_⟩
  · rcases line_cases (es := es) (E := E) (n := n) with ⟨h1, h2⟩ | ⟨_, h1, h2⟩ | ⟨h1, h2⟩
    · rw [h2]
      exact f.self n h1
    · rw [h2, e, h1]
      exact List.mem_cons_self
    · exact absurd hn h1
  · rcases line_cases (es := es) (E := E) (n := z) with ⟨h1, h2⟩ | ⟨g0, h1, h2⟩ | ⟨h1, h2⟩
    · rw [h2] at hy ⊢
      have yn := f.sub _ _ hy
      rw [line_old yn] at hx
      exact f.trans x y z hx hy
    · rw [h2, e] at hy ⊢
      rcases List.mem_cons.mp hy with hy | hy
      · rw [hy, line_new r.new, e] at hx
        exact hx
      · have yn := mn y hy
        rw [line_old yn] at hx
        refine List.mem_cons_of_mem _ ((hm x).mpr (.inr ?_))
        rcases (hm y).mp hy with h | ⟨b, hb, h⟩
        · exact ⟨y, h, hx⟩
        · exact ⟨b, hb, f.trans x y b hx h⟩
    · rw [h2] at hy
      cases hy
  · rw [names_snoc]
    exact List.nodup_append.mpr ⟨f.nd, by simp, fun x hx y hy z => r.new (by rw [← List.mem_singleton.mp hy, ← z]; exact hx)⟩
  · rcases line_cases (es := es) (E := E) (n := n) with ⟨h1, h2⟩ | ⟨_, h1, h2⟩ | ⟨h1, h2⟩
    · rw [h2]
      exact f.one n
    · rw [h2, e]
      exact List.nodup_cons.mpr ⟨fun z => r.new (mn _ z), mnd⟩
    · rw [h2]
      exact List.nodup_nil
theorem Built.facts {R : List (Ent A) → Ent A → Prop} (hR : ∀ es E, R es E → LnOk es E) {es : List (Ent A)} (h : Built R es) : LnFacts es := by
  induction h with
  | nil => exact .nil
  | snoc _ r ih => exact ih.snoc (hR _ _ r)
theorem sworn_old {es : List (Ent A)} {E : Ent A} {n : A} (f : LnFacts es) (h : n ∈ names es) : sworn (es ++ [E]) n = sworn es n := by
  unfold sworn
  rw [line_old h]
  have h1 : ∀ l : List A, (∀ o ∈ l, o ∈ names es) → l.any (own (es ++ [E])) = l.any (own es) := fun l => by
    induction l with
    | nil => intro _; rfl
    | cons a l ih =>
      intro hl
      rw [List.any_cons, List.any_cons, own_old (hl a List.mem_cons_self), ih fun o ho => hl o (List.mem_cons_of_mem _ ho)]
  exact h1 _ fun o ho => f.sub n o ho
/-- a new class is sworn -/
theorem sworn_new {es : List (Ent A)} {E : Ent A} (f : LnFacts es) (r : LnOk es E) : sworn (es ++ [E]) E.label = true ↔ E.own = true ∨ ∃ b ∈ E.parents, sworn es b = true := by
  obtain ⟨m, e, hm, _⟩ := r.mem
  have mn : ∀ y ∈ m, y ∈ names es := fun y hy => by
    rcases (hm y).mp hy with h | ⟨b, hb, h⟩
    · exact r.par y h
    · exact f.sub b y h
  unfold sworn
  rw [line_new r.new, e, List.any_cons, own_new r.new, Bool.or_eq_true_iff, List.any_eq_true]
  constructor
  · rintro (h | ⟨y, hy, h⟩)
    · exact .inl h
    · right
      rw [own_old (mn y hy)] at h
      rcases (hm y).mp hy with h1 | ⟨b, hb, h1⟩
      · exact ⟨y, h1, List.any_eq_true.mpr ⟨y, f.self y (r.par y h1), h⟩⟩
      · exact ⟨b, hb, List.any_eq_true.mpr ⟨y, h1, h⟩⟩
  · rintro (h | ⟨b, hb, h⟩)
    · exact .inl h
    · right
      obtain ⟨y, hy, h2⟩ := List.any_eq_true.mp h
      have yn := f.sub b y hy
      refine ⟨y, (hm y).mpr (.inr ⟨b, hb, hy⟩), ?_⟩
      rw [own_old yn]
      exact h2
theorem nodup_len {A : Type} [DecidableEq A] : ∀ {xs ys : List A}, xs.Nodup → (∀ x ∈ xs, x ∈ ys) → xs.length ≤ ys.length
  | [], _, _, _ => Nat.zero_le _
  | x :: xs, ys, nd, h => by
    have h1 := List.nodup_cons.mp nd
    have hx := h x List.mem_cons_self
    have ih := nodup_len (xs := xs) (ys := ys.erase x) h1.2 fun y hy => by
      have hne : y ≠ x := fun z => h1.1 (z ▸ hy)
      exact (List.mem_erase_of_ne hne).mpr (h y (List.mem_cons_of_mem _ hy))
    rw [List.length_erase_of_mem hx] at ih
    have : 0 < ys.length := List.length_pos_of_mem hx
    rw [List.length_cons]
    omega
theorem len_tot {l : List A} {ls : List (List A)} (h : l ∈ ls) : l.length ≤ tot ls := by
  unfold tot
  induction ls with
  | nil => cases h
  | cons a r ih =>
    rw [List.map_cons, List.sum_cons]
    rcases List.mem_cons.mp h with rfl | h
    · omega
    · have := ih h
      omega
theorem LnFacts.short {es : List (Ent A)} (f : LnFacts es) (n : A) : (line es n).length ≤ (names es).length := nodup_len (f.one n) (f.sub n)
/-! ### acyclic with fewer registrations -/
theorem next_sub {es : List (Ent A)} {r r' : A → List A} (h : ∀ n o, o ∈ r' n → o ∈ r n) {n o : A} (g : o ∈ next ⟨es, r'⟩ n) : o ∈ next ⟨es, r⟩ n := by
  rw [mem_next] at g ⊢
  exact ⟨g.1, g.2.imp (h n o) id⟩
theorem no_ring {es : List (Ent A)} {r r' : A → List A} (h : ∀ n o, o ∈ r' n → o ∈ r n) (ac : Acyc ⟨es, r⟩) {n o : A} (hs : sworn es n = true) (ho : o ∈ r n) : n ≠ o ∧ ¬ Reach (fun x y => y ∈ next ⟨es, r'⟩ x) o n := by
  have e : o ∈ next ⟨es, r⟩ n := mem_next.mpr ⟨hs, .inl ho⟩
  refine ⟨fun z => ?_, fun z => ac n o e (z.mono fun x y => next_sub h)⟩
  subst z
  exact ac n n e (.refl _)
/-- in the order of making alone there is no ring -/
theorem acyc_below {es : List (Ent A)} {R : List (Ent A) → Ent A → Prop} (hR : ∀ es E, R es E → LnOk es E) (h : Built R es) : Acyc ⟨es, fun _ => []⟩ := by
  have f := h.facts hR
  -- a next class stands later
  have pos : ∀ u v, v ∈ next ⟨es, fun _ => []⟩ u → (names es).idxOf u < (names es).idxOf v := fun u v hv => by
    have h1 := (mem_next.mp hv).2
    rcases h1 with h1 | h1
    · cases h1
    · unfold below at h1
      obtain ⟨h2, h3⟩ := List.mem_filter.mp h1
      have h3 := of_decide_eq_true h3
      obtain ⟨E, hE⟩ := find_isSome.mp h2
      have hE' : es.find? (fun e => decide (e.label = v)) = some E := hE
      have hEm := List.mem_of_find?_eq_some hE'
      have hEl0 := List.find?_some hE'
      have hEl : E.label = v := of_decide_eq_true hEl0
      obtain ⟨i, hi, r⟩ := h.all hEm
      have hp : parents es v = E.parents := by unfold parents; rw [hE]
      rw [hp] at h3
      have hu := (hR _ _ r).par u h3
      have hiv : (names es)[i]? = some v := by unfold names; rw [List.getElem?_map, hi, ← hEl] <;> rfl
      obtain ⟨hil, hie⟩ := List.getElem?_eq_some_iff.mp hiv
      have e2 : (names es).idxOf v = i := by
        rw [← hie]
        exact f.nd.idxOf_getElem i hil
      rw [e2]
      have hu' : u ∈ (names es).take i := by
        unfold names at hu ⊢
        rw [← List.map_take]
        exact hu
      obtain ⟨j, hj⟩ := List.mem_iff_getElem?.mp hu'
      rw [List.getElem?_take] at hj
      split at hj
      · rename_i hji
        obtain ⟨hjl, hje⟩ := List.getElem?_eq_some_iff.mp hj
        rw [← hje, f.nd.idxOf_getElem j hjl]
        exact hji
      · cases hj
  intro u v hv r
  have : (names es).idxOf v ≤ (names es).idxOf u := by
    have h1 := pos u v hv
    generalize hc : v = c at r h1
    have key : ∀ {a b : A}, Reach (fun x y => y ∈ next ⟨es, fun _ => []⟩ x) a b → (names es).idxOf a ≤ (names es).idxOf b := fun r => by
      induction r with
      | refl => exact Nat.le_refl _
      | tail _ e ih => exact Nat.le_trans ih (Nat.le_of_lt (pos _ _ e))
    exact key r
  have := pos u v hv
  omega
end
end SW.M

set_option maxHeartbeats 2000000
namespace SW
open PySem PySem.Spec PyProof.Rows L2 He LamX NdefX
/-! ## heaps that grow -/
/-- the tables of code objects that may be written -/
abbrev Tbs := List (Addr × Str)
def Gr (T : Tbs) (H H' : Hp) : Prop := ExtN H H' ∧ (Tabs T H → Tabs T H')
def NoTbl (o : HO) : Prop := ∀ ps, o ≠ .tbl ps
theorem nt_lst {xs} : NoTbl (.lst xs) := fun _ h => by cases h
theorem nt_tup {xs} : NoTbl (.tup xs) := fun _ h => by cases h
theorem nt_dK {xs} : NoTbl (.dK xs) := fun _ h => by cases h
theorem nt_ins {C dx fs} : NoTbl (.ins C dx fs) := fun _ h => by cases h
theorem nt_own {x} : NoTbl (.own x) := fun _ h => by cases h
theorem nt_ext {x} : NoTbl (.ext x) := fun _ h => by cases h
theorem nt_frz {o x} : NoTbl (.frz o x) := fun _ h => by cases h
section
variable {T : Tbs} {H H1 H2 H' : Hp} {a p : Addr} {o : HO} {xs : List V}
theorem Gr.refl (H : Hp) : Gr T H H := ⟨ExtN.refl H, id⟩
theorem Gr.trans (a : Gr T H H1) (b : Gr T H1 H2) : Gr T H H2 := ⟨a.1.trans b.1, fun h => b.2 (a.2 h)⟩
theorem Gr.new (h : H p = none) : Gr T H (upd H p o) := by
  have e : ∀ b u, H b = some u → upd H p o b = some u := fun b u q => by
    rw [upd_ne (ne_of_none q h)]
    exact q
  exact ⟨ExtN.of e, fun t => t.ext e⟩
theorem Gr.lst (g : Gr T H H') (h : H a = some (.lst xs)) : H' a = some (.lst xs) := g.1 _ _ h nt_lst
theorem Gr.tup (g : Gr T H H') (h : H a = some (.tup xs)) : H' a = some (.tup xs) := g.1 _ _ h nt_tup
theorem Gr.dK {kvs} (g : Gr T H H') (h : H a = some (.dK kvs)) : H' a = some (.dK kvs) := g.1 _ _ h nt_dK
theorem Gr.ins {C dx fs} (g : Gr T H H') (h : H a = some (.ins C dx fs)) : H' a = some (.ins C dx fs) := g.1 _ _ h nt_ins
theorem Gr.rd {u : HO} (g : Gr T H H') (n : NoTbl u) (h : Rd H a u) : Rd H' a u := by
  rcases h with h | ⟨o, h⟩
  · exact .inl (g.1 _ _ h n)
  · exact .inr ⟨o, g.1 _ _ h nt_frz⟩
theorem Gr.sqL {K : PySem.W.Frag} (g : Gr T H H') (h : SqL K H a xs) : SqL K H' a xs := by
  rcases h with h | h
  · exact .inl (g.rd nt_lst h)
  · exact .inr h
theorem Gr.sqT {K : PySem.W.Frag} (g : Gr T H H') (h : SqT K H a xs) : SqT K H' a xs := by
  rcases h with h | h
  · exact .inl (g.rd nt_tup h)
  · exact .inr h
/-- an object that is not of the old heap is written: a list, a dict, an instance, never a table or a code object -/
theorem Gr.mut {u : HO} (g : Gr T H H') (hp : ∀ v, H p = some v → ¬ NoTbl v) (ho : H' p = some o) (n1 : NoTbl o) (n2 : ∀ c q, o ≠ CodeO c q) : Gr T H (upd H' p u) := by
  refine ⟨fun b v e n => ?_, fun t => ?_⟩
  · have hb : b ≠ p := fun z => by
      rw [z] at e
      exact hp v e n
    rw [upd_ne hb]
    exact g.1 _ _ e n
  · intro q hq
    obtain ⟨ps, h1, h2, h3⟩ := g.2 t q hq
    have hne : q.1 ≠ p := fun z => by
      rw [z, ho] at h1
      exact n1 ps (Option.some.inj h1)
    refine ⟨ps, by rw [upd_ne hne]; exact h1, h2, fun pos cv hc => ?_⟩
    obtain ⟨c, e1, e2⟩ := h3 pos cv hc
    refine ⟨c, e1, ?_⟩
    have hc : c ≠ p := fun z => by
      rw [z, ho] at e2
      exact n2 _ _ (Option.some.inj e2)
    rw [upd_ne hc]
    exact e2
/-- fresh behind a growth: nothing but a table may have stood there -/
theorem Gr.fresh (g : Gr T H H') (h : H' p = none) : ∀ v, H p = some v → ¬ NoTbl v := fun v e n => by
  have := g.1 _ _ e n
  rw [h] at this
  cases this
theorem code_lst {c q xs} : HO.lst xs ≠ CodeO c q := fun z => by
  unfold CodeO at z
  cases z
theorem code_dK {c q xs} : HO.dK xs ≠ CodeO c q := fun z => by
  unfold CodeO at z
  cases z
theorem code_ins {c q C dx fs} : HO.ins C dx fs ≠ CodeO c q := fun z => by
  unfold CodeO at z
  cases z
theorem Gr.appd {ys zs : List V} (g : Gr T H H') (hp : ∀ v, H p = some v → ¬ NoTbl v) (ho : H' p = some (.lst ys)) : Gr T H (upd H' p (.lst zs)) := g.mut hp ho nt_lst fun _ _ => code_lst
theorem fresh_none (h : H p = none) : ∀ v, H p = some v → ¬ NoTbl v := fun v e => by
  rw [h] at e
  cases e
end
/-- a property of heaps that growth keeps -/
def Mo (T : Tbs) (R : Hp → Prop) : Prop := ∀ H H', Gr T H H' → R H → R H'
def Prd {α β : Type} (R : α → β → Prop) : List α → List β → Prop := Paired R
theorem prd_mono {α β : Type} {R S : α → β → Prop} {xs : List α} {ys : List β} (h : Paired R xs ys) (m : ∀ a b, R a b → S a b) : Paired S xs ys := by
  induction h with
  | nil => exact .nil
  | cons h _ ih => exact .cons (m _ _ h) ih
theorem prd_snoc {α β : Type} {R : α → β → Prop} {xs : List α} {ys : List β} {a : α} {b : β} (h : Paired R xs ys) (r : R a b) : Paired R (xs ++ [a]) (ys ++ [b]) := by
  induction h with
  | nil => exact .cons r .nil
  | cons h _ ih => exact .cons h ih
theorem prd_get {α β : Type} {R : α → β → Prop} : ∀ {xs : List α} {ys : List β}, Paired R xs ys → ∀ {i : Nat} {b : β}, ys[i]? = some b → ∃ a, xs[i]? = some a ∧ R a b
  | _, _, .nil, _, _, h => by simp at h
  | _, _, .cons r t, 0, b, h => by
    simp at h
    subst h
    exact ⟨_, rfl, r⟩
  | _, _, .cons r t, i + 1, b, h => by
    obtain ⟨a, h1, h2⟩ := prd_get t (i := i) (by simpa using h)
    exact ⟨a, by simpa using h1, h2⟩
theorem prd_getL {α β : Type} {R : α → β → Prop} : ∀ {xs : List α} {ys : List β}, Paired R xs ys → ∀ {i : Nat} {a : α}, xs[i]? = some a → ∃ b, ys[i]? = some b ∧ R a b
  | _, _, .nil, _, _, h => by simp at h
  | _, _, .cons r t, 0, b, h => by
    simp at h
    subst h
    exact ⟨_, rfl, r⟩
  | _, _, .cons r t, i + 1, b, h => by
    obtain ⟨a, h1, h2⟩ := prd_getL t (i := i) (by simpa using h)
    exact ⟨a, by simpa using h1, h2⟩
theorem prd_len {α β : Type} {R : α → β → Prop} {xs : List α} {ys : List β} (h : Paired R xs ys) : xs.length = ys.length := by
  induction h with
  | nil => rfl
  | cons _ _ ih => simp [ih]
theorem prd_map {α β γ : Type} {R : α → β → Prop} {xs : List α} {ys : List β} (f : α → γ) (g : β → γ) (h : Paired R xs ys) (m : ∀ a b, R a b → f a = g b) : xs.map f = ys.map g := by
  induction h with
  | nil => rfl
  | cons r _ ih => rw [List.map_cons, List.map_cons, ih, m _ _ r]

/-! ## a heap without one address -/
def wo (D : Addr) (H : Hp) : Hp := fun b => if b = D then none else H b
section
variable {T : Tbs} {H H1 H' : Hp} {D p a : Addr} {o : HO} {xs ys : List V}
theorem wo_ne (h : a ≠ D) : wo D H a = H a := if_neg h
theorem wo_at : wo D H D = none := if_pos rfl
theorem of_wo (h : wo D H a = some o) : a ≠ D ∧ H a = some o := by
  unfold wo at h
  split at h
  · cases h
  · exact ⟨by assumption, h⟩
theorem wo_upd : wo D (upd H D o) = wo D H := by
  funext b
  by_cases h : b = D <;> simp [wo, upd, h]
theorem wo_new (h : p ≠ D) : wo D (upd H p o) = upd (wo D H) p o := by
  funext b
  by_cases h1 : b = D
  · subst h1
    simp [wo, upd, Ne.symm h]
  · simp [wo, upd, h1]
theorem tabs_wo (t : Tabs T H) (h : H D = some o) (n1 : NoTbl o) (n2 : ∀ c q, o ≠ CodeO c q) : Tabs T (wo D H) := fun q hq => by
  obtain ⟨ps, h1, h2, h3⟩ := t q hq
  refine ⟨ps, ?_, h2, fun pos cv hc => ?_⟩
  · rw [wo_ne]
    · exact h1
    · intro z
      rw [z, h] at h1
      exact n1 ps (Option.some.inj h1)
  · obtain ⟨c, e1, e2⟩ := h3 pos cv hc
    refine ⟨c, e1, ?_⟩
    rw [wo_ne]
    · exact e2
    · intro z
      rw [z, h] at e2
      exact n2 _ _ (Option.some.inj e2)
theorem tabs_of_wo (t : Tabs T (wo D H)) : Tabs T H := t.ext fun b u e => (of_wo e).2
theorem gr_of_wo : Gr T (wo D H) H := ⟨fun b u e _ => (of_wo e).2, tabs_of_wo⟩
/-- what was there before D was made -/
theorem Gr.wo (g : Gr T H1 H) (hD : H1 D = none) (h : H D = some (.lst xs)) : Gr T H1 (wo D H) := by
  refine ⟨fun b u e n => ?_, fun t => tabs_wo (g.2 t) h nt_lst fun _ _ => code_lst⟩
  rw [wo_ne (ne_of_none e hD)]
  exact g.1 _ _ e n
theorem Gr.wo2 (g : Gr T H H') (h' : H' D = some (.lst ys)) : Gr T (SW.wo D H) (SW.wo D H') := by
  refine ⟨fun b u e n => ?_, fun t => tabs_wo (g.2 (tabs_of_wo t)) h' nt_lst fun _ _ => code_lst⟩
  obtain ⟨h1, h2⟩ := of_wo e
  rw [wo_ne h1]
  exact g.1 _ _ h2 n
end

/-! ## comprehensions -/
/-- a comprehension over any walk: what it yields of each item, in a heap that only grows -/
theorem lcR {T : Tbs} {J : It} {n : Nat} {G : Hp → Prop} {Y : Nat → Hp → V → Hp → Prop} (w : Walk J n G Y) {B : Type} (bs : List B) (hn : n = bs.length) (hsz : bs.length ≤ 100000) (R : Hp → B → V → Prop) (hR : ∀ b v, Mo T fun H => R H b v) (pr : B → Bool)
    {g : TG} {tt : TT} {te : TE} {vs : List Nat} {σ : L2.St} {H1 : Hp} {D : Addr} {Qd : Hp → Prop} (hD : H1 D = none) (hG : ∀ H, Gr T H1 H → G H)
    (hs : ∀ i b x H H' ys, bs[i]? = some b → Gr T H1 H → H D = some (.lst ys) → Y i H x H' → ∀ (Kp : V → Hp → Prop) (Ks : Hp → Prop), (pr b = true → ∀ y H4, Gr T H H4 → R (wo D H4) b y → Kp y H4) → (pr b = false → ∀ H4, Gr T H H4 → Ks H4) →
      g x (wipe σ vs) H' fun σ2 H2 => wipe σ2 vs = wipe σ vs ∧ tt σ2 H2 fun c H3 => if c = true then te σ2 H3 Kp else Ks H3)
    (hd : ∀ H ys, Gr T H1 H → H D = some (.lst ys) → Paired (fun y b => R H b y) ys (bs.filter pr) → Qd H) :
    ∃ W : Nat → Nat → Hp → Prop, (∃ m, W 0 m (upd H1 D (.lst []))) ∧ ∀ i m H, W i m H →
      (J.stop i H ∧ Qd H) ∨ (J.go i H ∧ ∃ Nx : Hp → Prop, (∀ H', Nx H' → ∃ m', m' < m ∧ W (i + 1) m' H') ∧ ∀ x H', J.yld i H x H' → g x (wipe σ vs) H' fun σ2 H2 => wipe σ2 vs = wipe σ vs ∧ tt σ2 H2 fun b H3 =>
        if b = true then te σ2 H3 fun y H4 => ∃ acc, H4 D = some (.lst acc) ∧ acc.length < sizeLine ∧ Nx (upd H4 D (.lst (acc ++ [y]))) else Nx H3) := by
  subst hn
  refine lc_it w (fun i H => Gr T H1 H ∧ ∃ ys, H D = some (.lst ys) ∧ Paired (fun y b => R (wo D H) b y) ys ((bs.take i).filter pr)) ⟨Gr.new hD, [], upd_same, by simp; exact .nil⟩ (fun i H _ h => hG H h.1) (fun i x H H' hi h y => ?_) (fun H h => ?_)
  · obtain ⟨gr, ys, hy, hp⟩ := h
    have hb : bs[i]? = some bs[i] := List.getElem?_eq_getElem hi
    have ht : (bs.take (i + 1)).filter pr = (bs.take i).filter pr ++ if pr bs[i] = true then [bs[i]] else [] := by
      rw [List.take_succ, hb, List.filter_append]
      congr 1
      show List.filter pr [bs[i]] = _
      cases e : pr bs[i] <;> simp [e]
    refine hs i bs[i] x H H' ys hb gr hy y _ _ (fun e v H4 g4 r => ?_) (fun e H4 g4 => ?_)
    · have hl : ys.length ≤ bs.length := by
        rw [prd_len hp]
        exact Nat.le_trans (List.length_filter_le _ _) (List.length_take_le' _ _)
      refine ⟨ys, g4.lst hy, Nat.lt_of_le_of_lt (Nat.le_trans hl hsz) (by decide), (gr.trans g4).appd (fresh_none hD) (g4.lst hy), ys ++ [v], upd_same, ?_⟩
      rw [ht, if_pos e, wo_upd]
      exact prd_snoc (prd_mono hp fun y b q => hR b y _ _ (g4.wo2 (g4.lst hy)) q) r
    · refine ⟨gr.trans g4, ys, g4.lst hy, ?_⟩
      rw [ht, if_neg (by rw [e]; decide), List.append_nil]
      exact prd_mono hp fun y b q => hR b y _ _ (g4.wo2 (g4.lst hy)) q
  · obtain ⟨gr, ys, hy, hp⟩ := h
    rw [List.take_length] at hp
    exact hd H ys gr hy (prd_mono hp fun y b q => hR b y _ _ gr_of_wo q)
/-- .. where each item's value is a function of the item -/
theorem lcF {T : Tbs} {J : It} {n : Nat} {G : Hp → Prop} {Y : Nat → Hp → V → Hp → Prop} (w : Walk J n G Y) {B : Type} (bs : List B) (hn : n = bs.length) (hsz : bs.length ≤ 100000) (f : B → V) (pr : B → Bool)
    {g : TG} {tt : TT} {te : TE} {vs : List Nat} {σ : L2.St} {H1 : Hp} {D : Addr} {Qd : Hp → Prop} (hD : H1 D = none) (hG : ∀ H, Gr T H1 H → G H)
    (hs : ∀ i b x H H', bs[i]? = some b → Gr T H1 H → Y i H x H' → ∀ (Kp : V → Hp → Prop) (Ks : Hp → Prop), (pr b = true → ∀ H4, Gr T H H4 → Kp (f b) H4) → (pr b = false → ∀ H4, Gr T H H4 → Ks H4) →
      g x (wipe σ vs) H' fun σ2 H2 => wipe σ2 vs = wipe σ vs ∧ tt σ2 H2 fun c H3 => if c = true then te σ2 H3 Kp else Ks H3)
    (hd : ∀ H, Gr T H1 H → H D = some (.lst ((bs.filter pr).map f)) → Qd H) :
    ∃ W : Nat → Nat → Hp → Prop, (∃ m, W 0 m (upd H1 D (.lst []))) ∧ ∀ i m H, W i m H →
      (J.stop i H ∧ Qd H) ∨ (J.go i H ∧ ∃ Nx : Hp → Prop, (∀ H', Nx H' → ∃ m', m' < m ∧ W (i + 1) m' H') ∧ ∀ x H', J.yld i H x H' → g x (wipe σ vs) H' fun σ2 H2 => wipe σ2 vs = wipe σ vs ∧ tt σ2 H2 fun b H3 =>
        if b = true then te σ2 H3 fun y H4 => ∃ acc, H4 D = some (.lst acc) ∧ acc.length < sizeLine ∧ Nx (upd H4 D (.lst (acc ++ [y]))) else Nx H3) := by
  refine lcR (T := T) w bs hn hsz (fun _ b v => v = f b) (fun _ _ _ _ _ h => h) pr hD hG (fun i b x H H' ys hb gr _ hy Kp Ks h1 h2 => hs i b x H H' hb gr hy Kp Ks (fun e H4 g4 => h1 e _ H4 g4 rfl) h2) fun H ys gr hy hp => hd H gr ?_
  rw [hy]
  congr 2
  have := prd_map id f hp fun _ _ h => h
  simpa using this
end SW

set_option maxHeartbeats 2000000
namespace SW
open PySem PySem.Spec PyProof.Rows L2 He LamX NdefX
open SW.M (Ent Tb)
abbrev En := Ent Str
/-! ## what lies in the heap -/
def sv (xs : List Str) : List V := xs.map V.str
/-- a hook's value -/
def ClauseAt (H : Hp) (x : V) (c : List Str × Bool) : Prop := ∃ p q, x = .ref p ∧ H p = some (.tup [.ref q, .bl c.2]) ∧ H q = some (.tup (sv c.1))
def HookAt (H : Hp) (v : V) : Option (List (List Str × Bool)) → Prop
  | none => v = .non
  | some cl => ∃ a xs, v = .ref a ∧ H a = some (.tup xs) ∧ Paired (ClauseAt H) xs cl
def marksKV (ms : List (Str × Str)) : List (Key × V) := ms.map fun p => (Sum.inr p.1, V.str p.2)
def entF (E : En) (pa ma li : Addr) (hv : V) : List (Str × V) :=
  [("label", .str E.label), ("parents", .ref pa), ("own_sworn", .bl E.own), ("given_marks", .ref ma), ("own_hook", hv), ("passed_on", .bl E.passed), ("line", .ref li)]
def EntAt (K : PySem.W.Frag) (H : Hp) (e : Addr) (E : En) : Prop := ∃ dx pa ma li hv, H e = some (.ins (ga K "Entry") dx (entF E pa ma li hv)) ∧ H pa = some (.tup (sv E.parents)) ∧ H ma = some (.dK (marksKV E.marks)) ∧ HookAt H hv E.hook ∧ H li = some (.lst (sv E.line))
def EntV (K : PySem.W.Frag) (H : Hp) (p : Key × V) (E : En) : Prop := p.1 = .inr E.label ∧ ∃ e, p.2 = .ref e ∧ EntAt K H e E
/-- the records -/
def RecAt (K : PySem.W.Frag) (H : Hp) (r : Addr) (es : List En) : Prop := ∃ kr, H r = some (.dK kr) ∧ Paired (EntV K H) kr es
def RegV (H : Hp) (rg : Str → List Str) (p : Key × V) (E : En) : Prop := p.1 = .inr E.label ∧ ∃ a, p.2 = .ref a ∧ H a = some (.lst (sv (rg E.label)))
def RegAt (H : Hp) (l : Addr) (T : Tb Str) : Prop := ∃ kl, H l = some (.dK kl) ∧ Paired (RegV H T.rg) kl T.es
def tabF (r nu l : Addr) (m : Int) : List (Str × V) := [("records", .ref r), ("numbers", .ref nu), ("lists", .ref l), ("made", .int m)]
def TabAt (K : PySem.W.Frag) (H : Hp) (t : Addr) (T : Tb Str) : Prop := ∃ dx r nu l m kn, H t = some (.ins (ga K "Table") dx (tabF r nu l m)) ∧ RecAt K H r T.es ∧ H nu = some (.dK kn) ∧ RegAt H l T
section
variable {B : Tbs} {K : PySem.W.Frag} {H H' : Hp}
theorem HookAt.mono {v : V} {o} (g : Gr B H H') (h : HookAt H v o) : HookAt H' v o := by
  cases o with
  | none => exact h
  | some cl =>
    obtain ⟨a, xs, e, ha, hp⟩ := h
    refine ⟨a, xs, e, g.tup ha, prd_mono hp fun x c ⟨p, q, e, h1, h2⟩ => ⟨p, q, e, g.tup h1, g.tup h2⟩⟩
theorem EntAt.mono {e : Addr} {E : En} (g : Gr B H H') (h : EntAt K H e E) : EntAt K H' e E := by
  obtain ⟨dx, pa, ma, li, hv, h1, h2, h3, h4, h5⟩ := h
  exact ⟨dx, pa, ma, li, hv, g.ins h1, g.tup h2, g.dK h3, h4.mono g, g.lst h5⟩
theorem RecAt.mono {r : Addr} {es : List En} (g : Gr B H H') (h : RecAt K H r es) : RecAt K H' r es := by
  obtain ⟨kr, h1, h2⟩ := h
  exact ⟨kr, g.dK h1, prd_mono h2 fun p E ⟨e1, e, e2, h⟩ => ⟨e1, e, e2, h.mono g⟩⟩
theorem RegAt.mono {l : Addr} {T : Tb Str} (g : Gr B H H') (h : RegAt H l T) : RegAt H' l T := by
  obtain ⟨kr, h1, h2⟩ := h
  exact ⟨kr, g.dK h1, prd_mono h2 fun p E ⟨e1, e, e2, h⟩ => ⟨e1, e, e2, g.lst h⟩⟩
theorem TabAt.mono {t : Addr} {T : Tb Str} (g : Gr B H H') (h : TabAt K H t T) : TabAt K H' t T := by
  obtain ⟨dx, r, nu, l, m, kn, h1, h2, h3, h4⟩ := h
  exact ⟨dx, r, nu, l, m, kn, g.ins h1, h2.mono g, g.dK h3, h4.mono g⟩
end
/-! ### look-ups -/
theorem inr_inj {a b : Str} (h : (Sum.inr a : Key) = Sum.inr b) : a = b := Sum.inr.inj h
theorem find_cons (E : En) (es : List En) (n : Str) : M.find (E :: es) n = if E.label = n then some E else M.find es n := by
  unfold M.find
  rw [List.find?_cons]
  by_cases h : E.label = n <;> simp [h]
theorem val_of {R : Key × V → En → Prop} (hk : ∀ p E, R p E → p.1 = .inr E.label) {n : Str} : ∀ {kr : List (Key × V)} {es : List En}, Paired R kr es → n ∈ M.names es → ∃ p E, valV kr (.inr n) = some p.2 ∧ R p E ∧ M.find es n = some E ∧ E.label = n ∧ E ∈ es
  | _, _, .nil, h => by cases h
  | p :: kr, E :: es, .cons r t, h => by
    by_cases e : E.label = n
    · refine ⟨p, E, valV_pos (by rw [hk p E r, e]), r, by rw [find_cons, if_pos e], e, List.mem_cons_self⟩
    · have h' : n ∈ M.names es := by
        rcases List.mem_cons.mp h with z | z
        · exact absurd z.symm e
        · exact z
      obtain ⟨p', E', h1, h2, h3, h4, h5⟩ := val_of hk t h'
      refine ⟨p', E', ?_, h2, by rw [find_cons, if_neg e]; exact h3, h4, List.mem_cons_of_mem _ h5⟩
      rw [valV_neg (fun z => e (inr_inj (by rw [← hk p E r]; exact z)))]
      exact h1
theorem val_none {R : Key × V → En → Prop} (hk : ∀ p E, R p E → p.1 = .inr E.label) {n : Str} : ∀ {kr : List (Key × V)} {es : List En}, Paired R kr es → n ∉ M.names es → valV kr (.inr n) = none
  | _, _, .nil, h => rfl
  | p :: kr, E :: es, .cons r t, h => by
    have e : ¬ E.label = n := fun z => h (by rw [← z]; exact List.mem_cons_self)
    rw [valV_neg (fun z => e (inr_inj (by rw [← hk p E r]; exact z)))]
    exact val_none hk t fun z => h (List.mem_cons_of_mem _ z)
theorem line_find {es : List En} {n : Str} {E : En} (h : M.find es n = some E) : M.line es n = E.line := by unfold M.line; rw [h]
theorem own_find {es : List En} {n : Str} {E : En} (h : M.find es n = some E) : M.own es n = E.own := by unfold M.own; rw [h]
theorem par_find {es : List En} {n : Str} {E : En} (h : M.find es n = some E) : M.parents es n = E.parents := by unfold M.parents; rw [h]
theorem hook_find {es : List En} {n : Str} {E : En} (h : M.find es n = some E) : M.hookOf es n = E.hook := by unfold M.hookOf; rw [h]
theorem pass_find {es : List En} {n : Str} {E : En} (h : M.find es n = some E) : M.passedOf es n = E.passed := by unfold M.passedOf; rw [h]
theorem RecAt.get {K : PySem.W.Frag} {H : Hp} {r : Addr} {es : List En} {n : Str} (h : RecAt K H r es) (hn : n ∈ M.names es) : ∃ e E, DGet H r (.str n) (some (.ref e)) ∧ EntAt K H e E ∧ M.find es n = some E ∧ E.label = n ∧ E ∈ es := by
  obtain ⟨kr, h1, h2⟩ := h
  obtain ⟨p, E, h3, ⟨_, e, h4, h5⟩, h6, h7, h8⟩ := val_of (fun _ _ r => r.1) h2 hn
  refine ⟨e, E, ?_, h5, h6, h7, h8⟩
  rw [← h4, ← h3]
  exact DGet.k (k := .inr n) h1
theorem RegAt.get {H : Hp} {l : Addr} {T : Tb Str} {n : Str} (h : RegAt H l T) (hn : n ∈ M.names T.es) : ∃ a, DGet H l (.str n) (some (.ref a)) ∧ H a = some (.lst (sv (T.rg n))) := by
  obtain ⟨kr, h1, h2⟩ := h
  obtain ⟨p, E, h3, ⟨_, e, h4, h5⟩, h6, h7, h8⟩ := val_of (fun _ _ r => r.1) h2 hn
  refine ⟨e, ?_, by rw [← h7]; exact h5⟩
  rw [← h4, ← h3]
  exact DGet.k (k := .inr n) h1
/-- well-formed classes -/
structure Wf (es : List En) : Prop where
  nd : (M.names es).Nodup
  sub : ∀ n o, o ∈ M.line es n → o ∈ M.names es
  few : (M.names es).length ≤ 12
  short : ∀ n, (M.line es n).length ≤ 12
  hk : ∀ n cl, M.hookOf es n = some cl → cl.length ≤ 100 ∧ ∀ c ∈ cl, c.1.length ≤ 100
/-! ### texts in lists -/
theorem flat_sv (xs : List Str) : (sv xs).all flatV = true := by
  rw [List.all_eq_true]
  intro v hv
  obtain ⟨s, _, rfl⟩ := List.mem_map.mp hv
  rfl
theorem eqV_str (a b : Str) : eqV (.str a) (.str b) = decide (a = b) := by
  first | rfl | (unfold eqV; simp) | (simp [eqV])
theorem inV_sv (n : Str) (xs : List Str) : inV (.str n) (sv xs) = decide (n ∈ xs) := by
  unfold inV sv
  rw [List.any_map]
  induction xs with
  | nil => simp
  | cons x r ih =>
    rw [List.any_cons, ih]
    show (eqV (.str x) (.str n) || _) = _
    rw [eqV_str]
    by_cases h : x = n
    · simp [h]
    · simp [h, Ne.symm h]
end SW

set_option maxHeartbeats 2000000
namespace SW
open PySem PySem.Spec PyProof.Rows L2 He LamX NdefX
/-- all that is known of the text behind the top -/
structure Tx (K : PySem.W.Frag) (mg : Str → Option Value) (base : Heap) : Prop where
  d : He.SaysD fal fnl K
  x : exB K = true
  gw : getterW K = getterV
  g : ∃ h, K.In h ∧ h.Ns mainGlobals mg
  tb : ∀ p ∈ tfl, TabB base mg (He.cT K p).1 (He.cT K p).2
section
variable {K : PySem.W.Frag} {mg : Str → Option Value} {base : Heap}
theorem Tx.glo (c : Tx K mg base) (i : Nat) {x : Str} (h : fal[i]? = some (.glo x)) : mg x = some (.ref (ga K x)) :=
  let ⟨_, X, G⟩ := c.g
  glo_ok X G (c.d.fact i h)
theorem Tx.free (c : Tx K mg base) (i : Nat) {x : Str} (h : fal[i]? = some (.free x)) : mg x = none :=
  let ⟨_, X, G⟩ := c.g
  free_ok X G (c.d.fact i h)
theorem Tx.str (c : Tx K mg base) (i : Nat) {x z : Str} (h : fal[i]? = some (.str x z)) : ∃ t, mg x = some (.str z t) :=
  let ⟨_, X, G⟩ := c.g
  str_ok X G (c.d.fact i h)
theorem Tx.int (c : Tx K mg base) (i : Nat) {x : Str} {z : Int} (h : fal[i]? = some (.int x z)) : ∃ t, mg x = some (.int z t) :=
  let ⟨_, X, G⟩ := c.g
  int_ok X G (c.d.fact i h)
theorem g_roads_from (c : Tx K mg base) : mg "roads_from" = some (.ref (ga K "roads_from")) := c.glo 0 rfl
theorem g_is_name (c : Tx K mg base) : mg "is_name" = some (.ref (ga K "is_name")) := c.glo 1 rfl
theorem g_is_clause (c : Tx K mg base) : mg "is_clause" = some (.ref (ga K "is_clause")) := c.glo 2 rfl
theorem g_hook_fault (c : Tx K mg base) : mg "hook_fault" = some (.ref (ga K "hook_fault")) := c.glo 3 rfl
theorem g_hook_answer (c : Tx K mg base) : mg "hook_answer" = some (.ref (ga K "hook_answer")) := c.glo 4 rfl
theorem g_is_mark (c : Tx K mg base) : mg "is_mark" = some (.ref (ga K "is_mark")) := c.glo 5 rfl
theorem g_look_marks (c : Tx K mg base) : mg "look_marks" = some (.ref (ga K "look_marks")) := c.glo 6 rfl
theorem g_is_sworn (c : Tx K mg base) : mg "is_sworn" = some (.ref (ga K "is_sworn")) := c.glo 7 rfl
theorem g_hook_for (c : Tx K mg base) : mg "hook_for" = some (.ref (ga K "hook_for")) := c.glo 8 rfl
theorem g_answer_by_hook (c : Tx K mg base) : mg "answer_by_hook" = some (.ref (ga K "answer_by_hook")) := c.glo 9 rfl
theorem g_subclasses (c : Tx K mg base) : mg "subclasses" = some (.ref (ga K "subclasses")) := c.glo 10 rfl
theorem g_methods_in (c : Tx K mg base) : mg "methods_in" = some (.ref (ga K "methods_in")) := c.glo 11 rfl
theorem g_patterns_in (c : Tx K mg base) : mg "patterns_in" = some (.ref (ga K "patterns_in")) := c.glo 12 rfl
theorem g_held_by (c : Tx K mg base) : mg "held_by" = some (.ref (ga K "held_by")) := c.glo 13 rfl
theorem g_declines (c : Tx K mg base) : mg "declines" = some (.ref (ga K "declines")) := c.glo 14 rfl
theorem g_next_in (c : Tx K mg base) : mg "next_in" = some (.ref (ga K "next_in")) := c.glo 15 rfl
theorem g_led_to (c : Tx K mg base) : mg "led_to" = some (.ref (ga K "led_to")) := c.glo 16 rfl
theorem g_is_reached (c : Tx K mg base) : mg "is_reached" = some (.ref (ga K "is_reached")) := c.glo 17 rfl
theorem g_outcome_in (c : Tx K mg base) : mg "outcome_in" = some (.ref (ga K "outcome_in")) := c.glo 18 rfl
theorem g_has_road (c : Tx K mg base) : mg "has_road" = some (.ref (ga K "has_road")) := c.glo 19 rfl
theorem g_state_of (c : Tx K mg base) : mg "state_of" = some (.ref (ga K "state_of")) := c.glo 20 rfl
theorem g_outcome (c : Tx K mg base) : mg "outcome" = some (.ref (ga K "outcome")) := c.glo 21 rfl
theorem g_is_needless_in (c : Tx K mg base) : mg "is_needless_in" = some (.ref (ga K "is_needless_in")) := c.glo 22 rfl
theorem g_is_needless (c : Tx K mg base) : mg "is_needless" = some (.ref (ga K "is_needless")) := c.glo 23 rfl
theorem g_look_same (c : Tx K mg base) : mg "look_same" = some (.ref (ga K "look_same")) := c.glo 24 rfl
theorem g_first_difference (c : Tx K mg base) : mg "first_difference" = some (.ref (ga K "first_difference")) := c.glo 25 rfl
theorem g_alike (c : Tx K mg base) : mg "alike" = some (.ref (ga K "alike")) := c.glo 26 rfl
theorem g_can_be_first (c : Tx K mg base) : mg "can_be_first" = some (.ref (ga K "can_be_first")) := c.glo 27 rfl
theorem g_merged (c : Tx K mg base) : mg "merged" = some (.ref (ga K "merged")) := c.glo 28 rfl
theorem g_look_bases (c : Tx K mg base) : mg "look_bases" = some (.ref (ga K "look_bases")) := c.glo 29 rfl
theorem g_look_hook (c : Tx K mg base) : mg "look_hook" = some (.ref (ga K "look_hook")) := c.glo 30 rfl
theorem g_new_entry (c : Tx K mg base) : mg "new_entry" = some (.ref (ga K "new_entry")) := c.glo 31 rfl
theorem g__law_bag (c : Tx K mg base) : mg "_law_bag" = some (.ref (ga K "_law_bag")) := c.glo 32 rfl
theorem g__law_take (c : Tx K mg base) : mg "_law_take" = some (.ref (ga K "_law_take")) := c.glo 33 rfl
theorem g__law_pick (c : Tx K mg base) : mg "_law_pick" = some (.ref (ga K "_law_pick")) := c.glo 34 rfl
theorem g__law_merge (c : Tx K mg base) : mg "_law_merge" = some (.ref (ga K "_law_merge")) := c.glo 35 rfl
theorem g__law_new (c : Tx K mg base) : mg "_law_new" = some (.ref (ga K "_law_new")) := c.glo 36 rfl
theorem g__law_copy (c : Tx K mg base) : mg "_law_copy" = some (.ref (ga K "_law_copy")) := c.glo 37 rfl
theorem g__law_sworn (c : Tx K mg base) : mg "_law_sworn" = some (.ref (ga K "_law_sworn")) := c.glo 38 rfl
theorem g__law_next (c : Tx K mg base) : mg "_law_next" = some (.ref (ga K "_law_next")) := c.glo 39 rfl
theorem g__law_led (c : Tx K mg base) : mg "_law_led" = some (.ref (ga K "_law_led")) := c.glo 40 rfl
theorem g__law_make (c : Tx K mg base) : mg "_law_make" = some (.ref (ga K "_law_make")) := c.glo 41 rfl
theorem g__law_new_rule (c : Tx K mg base) : mg "_law_new_rule" = some (.ref (ga K "_law_new_rule")) := c.glo 42 rfl
theorem g__law_class (c : Tx K mg base) : mg "_law_class" = some (.ref (ga K "_law_class")) := c.glo 43 rfl
theorem g__law_admits (c : Tx K mg base) : mg "_law_admits" = some (.ref (ga K "_law_admits")) := c.glo 44 rfl
theorem g__law_admit (c : Tx K mg base) : mg "_law_admit" = some (.ref (ga K "_law_admit")) := c.glo 45 rfl
theorem g__law_some_admitted (c : Tx K mg base) : mg "_law_some_admitted" = some (.ref (ga K "_law_some_admitted")) := c.glo 46 rfl
theorem g__law_drawn (c : Tx K mg base) : mg "_law_drawn" = some (.ref (ga K "_law_drawn")) := c.glo 47 rfl
theorem g__law_made_in (c : Tx K mg base) : mg "_law_made_in" = some (.ref (ga K "_law_made_in")) := c.glo 48 rfl
theorem g__law_made (c : Tx K mg base) : mg "_law_made" = some (.ref (ga K "_law_made")) := c.glo 49 rfl
theorem g__law_held (c : Tx K mg base) : mg "_law_held" = some (.ref (ga K "_law_held")) := c.glo 50 rfl
theorem g__law_road_held (c : Tx K mg base) : mg "_law_road_held" = some (.ref (ga K "_law_road_held")) := c.glo 51 rfl
theorem g__law_methods (c : Tx K mg base) : mg "_law_methods" = some (.ref (ga K "_law_methods")) := c.glo 52 rfl
theorem g__law_patterns (c : Tx K mg base) : mg "_law_patterns" = some (.ref (ga K "_law_patterns")) := c.glo 53 rfl
theorem g__law_two_classes (c : Tx K mg base) : mg "_law_two_classes" = some (.ref (ga K "_law_two_classes")) := c.glo 54 rfl
theorem g__law_rises (c : Tx K mg base) : mg "_law_rises" = some (.ref (ga K "_law_rises")) := c.glo 55 rfl
theorem g__law_right (c : Tx K mg base) : mg "_law_right" = some (.ref (ga K "_law_right")) := c.glo 56 rfl
theorem g_law (c : Tx K mg base) : mg "law" = some (.ref (ga K "law")) := c.glo 57 rfl
theorem g_Entry (c : Tx K mg base) : mg "Entry" = some (.ref (ga K "Entry")) := c.glo 58 rfl
theorem g_Table (c : Tx K mg base) : mg "Table" = some (.ref (ga K "Table")) := c.glo 59 rfl
theorem g_Cache (c : Tx K mg base) : mg "Cache" = some (.ref (ga K "Cache")) := c.glo 60 rfl
theorem g_World (c : Tx K mg base) : mg "World" = some (.ref (ga K "World")) := c.glo 61 rfl
theorem n_len (c : Tx K mg base) : mg "len" = none := c.free 62 rfl
theorem n_list (c : Tx K mg base) : mg "list" = none := c.free 63 rfl
theorem n_tuple (c : Tx K mg base) : mg "tuple" = none := c.free 64 rfl
theorem n_dict (c : Tx K mg base) : mg "dict" = none := c.free 65 rfl
theorem n_set (c : Tx K mg base) : mg "set" = none := c.free 66 rfl
theorem n_sorted (c : Tx K mg base) : mg "sorted" = none := c.free 67 rfl
theorem n_isinstance (c : Tx K mg base) : mg "isinstance" = none := c.free 68 rfl
theorem n_str (c : Tx K mg base) : mg "str" = none := c.free 69 rfl
theorem n_bool (c : Tx K mg base) : mg "bool" = none := c.free 70 rfl
theorem n_any (c : Tx K mg base) : mg "any" = none := c.free 71 rfl
theorem n_all (c : Tx K mg base) : mg "all" = none := c.free 72 rfl
theorem n_enumerate (c : Tx K mg base) : mg "enumerate" = none := c.free 73 rfl
theorem n_min (c : Tx K mg base) : mg "min" = none := c.free 74 rfl
theorem n_max (c : Tx K mg base) : mg "max" = none := c.free 75 rfl
theorem n_zip (c : Tx K mg base) : mg "zip" = none := c.free 76 rfl
theorem n_int (c : Tx K mg base) : mg "int" = none := c.free 77 rfl
theorem n_abs (c : Tx K mg base) : mg "abs" = none := c.free 78 rfl
theorem n_range (c : Tx K mg base) : mg "range" = none := c.free 79 rfl
theorem k_WON (c : Tx K mg base) : ∃ t, mg "WON" = some (.str "won" t) := c.str 80 rfl
theorem k_REACHED (c : Tx K mg base) : ∃ t, mg "REACHED" = some (.str "reached" t) := c.str 81 rfl
theorem k_NEITHER (c : Tx K mg base) : ∃ t, mg "NEITHER" = some (.str "neither" t) := c.str 82 rfl
theorem k_LETTERS (c : Tx K mg base) : ∃ t, mg "LETTERS" = some (.str "abcdefghijklmnopqrstuvwxyz" t) := c.str 83 rfl
theorem k_MOST_LETTERS (c : Tx K mg base) : ∃ t, mg "MOST_LETTERS" = some (.int 8 t) := c.int 84 rfl
theorem cl_Entry (c : Tx K mg base) : Cls K (ga K "Entry") := cls_ok (c.d.fact 85 rfl)
theorem mk_Entry (c : Tx K mg base) : Mk K (ga K "Entry") (ma K (ga K "Entry") "__init__") := mkr_ok (c.d.fact 86 rfl)
theorem na_Entry_label (c : Tx K mg base) : NoAttr K (ga K "Entry") "label" := noat_ok (c.d.fact 87 rfl)
theorem na_Entry_parents (c : Tx K mg base) : NoAttr K (ga K "Entry") "parents" := noat_ok (c.d.fact 88 rfl)
theorem na_Entry_own_sworn (c : Tx K mg base) : NoAttr K (ga K "Entry") "own_sworn" := noat_ok (c.d.fact 89 rfl)
theorem na_Entry_given_marks (c : Tx K mg base) : NoAttr K (ga K "Entry") "given_marks" := noat_ok (c.d.fact 90 rfl)
theorem na_Entry_own_hook (c : Tx K mg base) : NoAttr K (ga K "Entry") "own_hook" := noat_ok (c.d.fact 91 rfl)
theorem na_Entry_passed_on (c : Tx K mg base) : NoAttr K (ga K "Entry") "passed_on" := noat_ok (c.d.fact 92 rfl)
theorem na_Entry_line (c : Tx K mg base) : NoAttr K (ga K "Entry") "line" := noat_ok (c.d.fact 93 rfl)
theorem cl_Table (c : Tx K mg base) : Cls K (ga K "Table") := cls_ok (c.d.fact 94 rfl)
theorem mk_Table (c : Tx K mg base) : Mk K (ga K "Table") (ma K (ga K "Table") "__init__") := mkr_ok (c.d.fact 95 rfl)
theorem na_Table_records (c : Tx K mg base) : NoAttr K (ga K "Table") "records" := noat_ok (c.d.fact 96 rfl)
theorem na_Table_numbers (c : Tx K mg base) : NoAttr K (ga K "Table") "numbers" := noat_ok (c.d.fact 97 rfl)
theorem na_Table_lists (c : Tx K mg base) : NoAttr K (ga K "Table") "lists" := noat_ok (c.d.fact 98 rfl)
theorem na_Table_made (c : Tx K mg base) : NoAttr K (ga K "Table") "made" := noat_ok (c.d.fact 99 rfl)
theorem cl_Cache (c : Tx K mg base) : Cls K (ga K "Cache") := cls_ok (c.d.fact 100 rfl)
theorem mk_Cache (c : Tx K mg base) : Mk K (ga K "Cache") (ma K (ga K "Cache") "__init__") := mkr_ok (c.d.fact 101 rfl)
theorem na_Cache_kept (c : Tx K mg base) : NoAttr K (ga K "Cache") "kept" := noat_ok (c.d.fact 102 rfl)
theorem cl_World (c : Tx K mg base) : Cls K (ga K "World") := cls_ok (c.d.fact 103 rfl)
theorem mk_World (c : Tx K mg base) : Mk K (ga K "World") (ma K (ga K "World") "__init__") := mkr_ok (c.d.fact 104 rfl)
theorem na_World_table (c : Tx K mg base) : NoAttr K (ga K "World") "table" := noat_ok (c.d.fact 105 rfl)
theorem na_World_cache (c : Tx K mg base) : NoAttr K (ga K "World") "cache" := noat_ok (c.d.fact 106 rfl)
theorem na_World_visits (c : Tx K mg base) : NoAttr K (ga K "World") "visits" := noat_ok (c.d.fact 107 rfl)
theorem na_World_things (c : Tx K mg base) : NoAttr K (ga K "World") "things" := noat_ok (c.d.fact 108 rfl)
theorem na_World_choice_lists (c : Tx K mg base) : NoAttr K (ga K "World") "choice_lists" := noat_ok (c.d.fact 109 rfl)
theorem me_Entry_init (c : Tx K mg base) : Meth K (ga K "Entry") "__init__" (ma K (ga K "Entry") "__init__") := meth_ok (c.d.fact 110 rfl)
theorem me_Cache_init (c : Tx K mg base) : Meth K (ga K "Cache") "__init__" (ma K (ga K "Cache") "__init__") := meth_ok (c.d.fact 111 rfl)
theorem me_Cache_refresh (c : Tx K mg base) : Meth K (ga K "Cache") "refresh" (ma K (ga K "Cache") "refresh") := meth_ok (c.d.fact 112 rfl)
theorem me_Table_init (c : Tx K mg base) : Meth K (ga K "Table") "__init__" (ma K (ga K "Table") "__init__") := meth_ok (c.d.fact 113 rfl)
theorem me_Table_copied (c : Tx K mg base) : Meth K (ga K "Table") "copied" (ma K (ga K "Table") "copied") := meth_ok (c.d.fact 114 rfl)
theorem me_Table_has (c : Tx K mg base) : Meth K (ga K "Table") "has" (ma K (ga K "Table") "has") := meth_ok (c.d.fact 115 rfl)
theorem me_Table_all_names (c : Tx K mg base) : Meth K (ga K "Table") "all_names" (ma K (ga K "Table") "all_names") := meth_ok (c.d.fact 116 rfl)
theorem me_Table_add_class (c : Tx K mg base) : Meth K (ga K "Table") "add_class" (ma K (ga K "Table") "add_class") := meth_ok (c.d.fact 117 rfl)
theorem me_Table_add_registration (c : Tx K mg base) : Meth K (ga K "Table") "add_registration" (ma K (ga K "Table") "add_registration") := meth_ok (c.d.fact 118 rfl)
theorem me_Table_remove_registration (c : Tx K mg base) : Meth K (ga K "Table") "remove_registration" (ma K (ga K "Table") "remove_registration") := meth_ok (c.d.fact 119 rfl)
theorem me_Table_is_above (c : Tx K mg base) : Meth K (ga K "Table") "is_above" (ma K (ga K "Table") "is_above") := meth_ok (c.d.fact 120 rfl)
theorem me_Table_sworn (c : Tx K mg base) : Meth K (ga K "Table") "sworn" (ma K (ga K "Table") "sworn") := meth_ok (c.d.fact 121 rfl)
theorem me_Table_below (c : Tx K mg base) : Meth K (ga K "Table") "below" (ma K (ga K "Table") "below") := meth_ok (c.d.fact 122 rfl)
theorem me_Table_next_of (c : Tx K mg base) : Meth K (ga K "Table") "next_of" (ma K (ga K "Table") "next_of") := meth_ok (c.d.fact 123 rfl)
theorem me_Table_answer_for (c : Tx K mg base) : Meth K (ga K "Table") "answer_for" (ma K (ga K "Table") "answer_for") := meth_ok (c.d.fact 124 rfl)
theorem me_Table_shortest_road (c : Tx K mg base) : Meth K (ga K "Table") "shortest_road" (ma K (ga K "Table") "shortest_road") := meth_ok (c.d.fact 125 rfl)
theorem me_Table_ring_by (c : Tx K mg base) : Meth K (ga K "Table") "ring_by" (ma K (ga K "Table") "ring_by") := meth_ok (c.d.fact 126 rfl)
theorem me_World_init (c : Tx K mg base) : Meth K (ga K "World") "__init__" (ma K (ga K "World") "__init__") := meth_ok (c.d.fact 127 rfl)
theorem me_World_class_picture (c : Tx K mg base) : Meth K (ga K "World") "class_picture" (ma K (ga K "World") "class_picture") := meth_ok (c.d.fact 128 rfl)
theorem me_World_look (c : Tx K mg base) : Meth K (ga K "World") "look" (ma K (ga K "World") "look") := meth_ok (c.d.fact 129 rfl)
theorem me_World_refresh (c : Tx K mg base) : Meth K (ga K "World") "refresh" (ma K (ga K "World") "refresh") := meth_ok (c.d.fact 130 rfl)
theorem me_World_make (c : Tx K mg base) : Meth K (ga K "World") "make" (ma K (ga K "World") "make") := meth_ok (c.d.fact 131 rfl)
theorem me_World_look_registration (c : Tx K mg base) : Meth K (ga K "World") "look_registration" (ma K (ga K "World") "look_registration") := meth_ok (c.d.fact 132 rfl)
theorem me_World_admit (c : Tx K mg base) : Meth K (ga K "World") "admit" (ma K (ga K "World") "admit") := meth_ok (c.d.fact 133 rfl)
theorem g_MARKS (c : Tx K mg base) : mg "MARKS" = some (.ref (ga K "MARKS")) := c.glo 134 rfl
theorem fd_roads_from (c : Tx K mg base) : ∃ fd, FunD K "roads_from" "roads_from" (defArgs s_roads_from) (defBody s_roads_from) (defScope s_roads_from) [] [] (ga K "roads_from") fd := c.d.def_ 0 rfl
theorem fd_is_name (c : Tx K mg base) : ∃ fd, FunD K "is_name" "is_name" (defArgs s_is_name) (defBody s_is_name) (defScope s_is_name) [] [] (ga K "is_name") fd := c.d.def_ 1 rfl
theorem fd_is_clause (c : Tx K mg base) : ∃ fd, FunD K "is_clause" "is_clause" (defArgs s_is_clause) (defBody s_is_clause) (defScope s_is_clause) [] [] (ga K "is_clause") fd := c.d.def_ 2 rfl
theorem fd_hook_fault (c : Tx K mg base) : ∃ fd, FunD K "hook_fault" "hook_fault" (defArgs s_hook_fault) (defBody s_hook_fault) (defScope s_hook_fault) [] [] (ga K "hook_fault") fd := c.d.def_ 3 rfl
theorem fd_hook_answer (c : Tx K mg base) : ∃ fd, FunD K "hook_answer" "hook_answer" (defArgs s_hook_answer) (defBody s_hook_answer) (defScope s_hook_answer) [] [] (ga K "hook_answer") fd := c.d.def_ 4 rfl
theorem fd_is_mark (c : Tx K mg base) : ∃ fd, FunD K "is_mark" "is_mark" (defArgs s_is_mark) (defBody s_is_mark) (defScope s_is_mark) [] [] (ga K "is_mark") fd := c.d.def_ 5 rfl
theorem fd_look_marks (c : Tx K mg base) : ∃ fd, FunD K "look_marks" "look_marks" (defArgs s_look_marks) (defBody s_look_marks) (defScope s_look_marks) [] [] (ga K "look_marks") fd := c.d.def_ 6 rfl
theorem fd_is_sworn (c : Tx K mg base) : ∃ fd, FunD K "is_sworn" "is_sworn" (defArgs s_is_sworn) (defBody s_is_sworn) (defScope s_is_sworn) [] [] (ga K "is_sworn") fd := c.d.def_ 7 rfl
theorem fd_hook_for (c : Tx K mg base) : ∃ fd, FunD K "hook_for" "hook_for" (defArgs s_hook_for) (defBody s_hook_for) (defScope s_hook_for) [] [] (ga K "hook_for") fd := c.d.def_ 8 rfl
theorem fd_answer_by_hook (c : Tx K mg base) : ∃ fd, FunD K "answer_by_hook" "answer_by_hook" (defArgs s_answer_by_hook) (defBody s_answer_by_hook) (defScope s_answer_by_hook) [] [] (ga K "answer_by_hook") fd := c.d.def_ 9 rfl
theorem fd_subclasses (c : Tx K mg base) : ∃ fd, FunD K "subclasses" "subclasses" (defArgs s_subclasses) (defBody s_subclasses) (defScope s_subclasses) [] [] (ga K "subclasses") fd := c.d.def_ 10 rfl
theorem fd_methods_in (c : Tx K mg base) : ∃ fd, FunD K "methods_in" "methods_in" (defArgs s_methods_in) (defBody s_methods_in) (defScope s_methods_in) [] [] (ga K "methods_in") fd := c.d.def_ 11 rfl
theorem fd_patterns_in (c : Tx K mg base) : ∃ fd, FunD K "patterns_in" "patterns_in" (defArgs s_patterns_in) (defBody s_patterns_in) (defScope s_patterns_in) [] [] (ga K "patterns_in") fd := c.d.def_ 12 rfl
theorem fd_held_by (c : Tx K mg base) : ∃ fd, FunD K "held_by" "held_by" (defArgs s_held_by) (defBody s_held_by) (defScope s_held_by) [] [] (ga K "held_by") fd := c.d.def_ 13 rfl
theorem fd_declines (c : Tx K mg base) : ∃ fd, FunD K "declines" "declines" (defArgs s_declines) (defBody s_declines) (defScope s_declines) [] [] (ga K "declines") fd := c.d.def_ 14 rfl
theorem fd_next_in (c : Tx K mg base) : ∃ fd, FunD K "next_in" "next_in" (defArgs s_next_in) (defBody s_next_in) (defScope s_next_in) [] [] (ga K "next_in") fd := c.d.def_ 15 rfl
theorem fd_led_to (c : Tx K mg base) : ∃ fd, FunD K "led_to" "led_to" (defArgs s_led_to) (defBody s_led_to) (defScope s_led_to) [] [] (ga K "led_to") fd := c.d.def_ 16 rfl
theorem fd_is_reached (c : Tx K mg base) : ∃ fd, FunD K "is_reached" "is_reached" (defArgs s_is_reached) (defBody s_is_reached) (defScope s_is_reached) [] [] (ga K "is_reached") fd := c.d.def_ 17 rfl
theorem fd_outcome_in (c : Tx K mg base) : ∃ fd, FunD K "outcome_in" "outcome_in" (defArgs s_outcome_in) (defBody s_outcome_in) (defScope s_outcome_in) [] [] (ga K "outcome_in") fd := c.d.def_ 18 rfl
theorem fd_has_road (c : Tx K mg base) : ∃ fd, FunD K "has_road" "has_road" (defArgs s_has_road) (defBody s_has_road) (defScope s_has_road) [] [] (ga K "has_road") fd := c.d.def_ 19 rfl
theorem fd_state_of (c : Tx K mg base) : ∃ fd, FunD K "state_of" "state_of" (defArgs s_state_of) (defBody s_state_of) (defScope s_state_of) [] [] (ga K "state_of") fd := c.d.def_ 20 rfl
theorem fd_outcome (c : Tx K mg base) : ∃ fd, FunD K "outcome" "outcome" (defArgs s_outcome) (defBody s_outcome) (defScope s_outcome) [] [] (ga K "outcome") fd := c.d.def_ 21 rfl
theorem fd_is_needless_in (c : Tx K mg base) : ∃ fd, FunD K "is_needless_in" "is_needless_in" (defArgs s_is_needless_in) (defBody s_is_needless_in) (defScope s_is_needless_in) [] [] (ga K "is_needless_in") fd := c.d.def_ 22 rfl
theorem fd_is_needless (c : Tx K mg base) : ∃ fd, FunD K "is_needless" "is_needless" (defArgs s_is_needless) (defBody s_is_needless) (defScope s_is_needless) [] [] (ga K "is_needless") fd := c.d.def_ 23 rfl
theorem fd_look_same (c : Tx K mg base) : ∃ fd, FunD K "look_same" "look_same" (defArgs s_look_same) (defBody s_look_same) (defScope s_look_same) [] [] (ga K "look_same") fd := c.d.def_ 24 rfl
theorem fd_first_difference (c : Tx K mg base) : ∃ fd, FunD K "first_difference" "first_difference" (defArgs s_first_difference) (defBody s_first_difference) (defScope s_first_difference) [] [] (ga K "first_difference") fd := c.d.def_ 25 rfl
theorem fd_alike (c : Tx K mg base) : ∃ fd, FunD K "alike" "alike" (defArgs s_alike) (defBody s_alike) (defScope s_alike) [] [] (ga K "alike") fd := c.d.def_ 26 rfl
theorem fd_can_be_first (c : Tx K mg base) : ∃ fd, FunD K "can_be_first" "can_be_first" (defArgs s_can_be_first) (defBody s_can_be_first) (defScope s_can_be_first) [] [] (ga K "can_be_first") fd := c.d.def_ 27 rfl
theorem fd_merged (c : Tx K mg base) : ∃ fd, FunD K "merged" "merged" (defArgs s_merged) (defBody s_merged) (defScope s_merged) [] [] (ga K "merged") fd := c.d.def_ 28 rfl
theorem fd_look_bases (c : Tx K mg base) : ∃ fd, FunD K "look_bases" "look_bases" (defArgs s_look_bases) (defBody s_look_bases) (defScope s_look_bases) [] [] (ga K "look_bases") fd := c.d.def_ 29 rfl
theorem fd_look_hook (c : Tx K mg base) : ∃ fd, FunD K "look_hook" "look_hook" (defArgs s_look_hook) (defBody s_look_hook) (defScope s_look_hook) [] [] (ga K "look_hook") fd := c.d.def_ 30 rfl
theorem fd_new_entry (c : Tx K mg base) : ∃ fd, FunD K "new_entry" "new_entry" (defArgs s_new_entry) (defBody s_new_entry) (defScope s_new_entry) [] [] (ga K "new_entry") fd := c.d.def_ 31 rfl
theorem fd__law_bag (c : Tx K mg base) : ∃ fd, FunD K "_law_bag" "_law_bag" (defArgs s__law_bag) (defBody s__law_bag) (defScope s__law_bag) [] [] (ga K "_law_bag") fd := c.d.def_ 32 rfl
theorem fd__law_take (c : Tx K mg base) : ∃ fd, FunD K "_law_take" "_law_take" (defArgs s__law_take) (defBody s__law_take) (defScope s__law_take) [] [] (ga K "_law_take") fd := c.d.def_ 33 rfl
theorem fd__law_pick (c : Tx K mg base) : ∃ fd, FunD K "_law_pick" "_law_pick" (defArgs s__law_pick) (defBody s__law_pick) (defScope s__law_pick) [] [] (ga K "_law_pick") fd := c.d.def_ 34 rfl
theorem fd__law_merge (c : Tx K mg base) : ∃ fd, FunD K "_law_merge" "_law_merge" (defArgs s__law_merge) (defBody s__law_merge) (defScope s__law_merge) [] [] (ga K "_law_merge") fd := c.d.def_ 35 rfl
theorem fd__law_new (c : Tx K mg base) : ∃ fd, FunD K "_law_new" "_law_new" (defArgs s__law_new) (defBody s__law_new) (defScope s__law_new) [] [] (ga K "_law_new") fd := c.d.def_ 36 rfl
theorem fd__law_copy (c : Tx K mg base) : ∃ fd, FunD K "_law_copy" "_law_copy" (defArgs s__law_copy) (defBody s__law_copy) (defScope s__law_copy) [] [] (ga K "_law_copy") fd := c.d.def_ 37 rfl
theorem fd__law_sworn (c : Tx K mg base) : ∃ fd, FunD K "_law_sworn" "_law_sworn" (defArgs s__law_sworn) (defBody s__law_sworn) (defScope s__law_sworn) [] [] (ga K "_law_sworn") fd := c.d.def_ 38 rfl
theorem fd__law_next (c : Tx K mg base) : ∃ fd, FunD K "_law_next" "_law_next" (defArgs s__law_next) (defBody s__law_next) (defScope s__law_next) [] [] (ga K "_law_next") fd := c.d.def_ 39 rfl
theorem fd__law_led (c : Tx K mg base) : ∃ fd, FunD K "_law_led" "_law_led" (defArgs s__law_led) (defBody s__law_led) (defScope s__law_led) [] [] (ga K "_law_led") fd := c.d.def_ 40 rfl
theorem fd__law_make (c : Tx K mg base) : ∃ fd, FunD K "_law_make" "_law_make" (defArgs s__law_make) (defBody s__law_make) (defScope s__law_make) [] [] (ga K "_law_make") fd := c.d.def_ 41 rfl
theorem fd__law_new_rule (c : Tx K mg base) : ∃ fd, FunD K "_law_new_rule" "_law_new_rule" (defArgs s__law_new_rule) (defBody s__law_new_rule) (defScope s__law_new_rule) [] [] (ga K "_law_new_rule") fd := c.d.def_ 42 rfl
theorem fd__law_class (c : Tx K mg base) : ∃ fd, FunD K "_law_class" "_law_class" (defArgs s__law_class) (defBody s__law_class) (defScope s__law_class) [] [] (ga K "_law_class") fd := c.d.def_ 43 rfl
theorem fd__law_admits (c : Tx K mg base) : ∃ fd, FunD K "_law_admits" "_law_admits" (defArgs s__law_admits) (defBody s__law_admits) (defScope s__law_admits) [] [] (ga K "_law_admits") fd := c.d.def_ 44 rfl
theorem fd__law_admit (c : Tx K mg base) : ∃ fd, FunD K "_law_admit" "_law_admit" (defArgs s__law_admit) (defBody s__law_admit) (defScope s__law_admit) [] [] (ga K "_law_admit") fd := c.d.def_ 45 rfl
theorem fd__law_some_admitted (c : Tx K mg base) : ∃ fd, FunD K "_law_some_admitted" "_law_some_admitted" (defArgs s__law_some_admitted) (defBody s__law_some_admitted) (defScope s__law_some_admitted) [] [] (ga K "_law_some_admitted") fd := c.d.def_ 46 rfl
theorem fd__law_drawn (c : Tx K mg base) : ∃ fd, FunD K "_law_drawn" "_law_drawn" (defArgs s__law_drawn) (defBody s__law_drawn) (defScope s__law_drawn) [] [] (ga K "_law_drawn") fd := c.d.def_ 47 rfl
theorem fd__law_made_in (c : Tx K mg base) : ∃ fd, FunD K "_law_made_in" "_law_made_in" (defArgs s__law_made_in) (defBody s__law_made_in) (defScope s__law_made_in) [] [] (ga K "_law_made_in") fd := c.d.def_ 48 rfl
theorem fd__law_made (c : Tx K mg base) : ∃ fd, FunD K "_law_made" "_law_made" (defArgs s__law_made) (defBody s__law_made) (defScope s__law_made) [] [] (ga K "_law_made") fd := c.d.def_ 49 rfl
theorem fd__law_held (c : Tx K mg base) : ∃ fd, FunD K "_law_held" "_law_held" (defArgs s__law_held) (defBody s__law_held) (defScope s__law_held) [] [] (ga K "_law_held") fd := c.d.def_ 50 rfl
theorem fd__law_road_held (c : Tx K mg base) : ∃ fd, FunD K "_law_road_held" "_law_road_held" (defArgs s__law_road_held) (defBody s__law_road_held) (defScope s__law_road_held) [] [] (ga K "_law_road_held") fd := c.d.def_ 51 rfl
theorem fd__law_methods (c : Tx K mg base) : ∃ fd, FunD K "_law_methods" "_law_methods" (defArgs s__law_methods) (defBody s__law_methods) (defScope s__law_methods) [] [] (ga K "_law_methods") fd := c.d.def_ 52 rfl
theorem fd__law_patterns (c : Tx K mg base) : ∃ fd, FunD K "_law_patterns" "_law_patterns" (defArgs s__law_patterns) (defBody s__law_patterns) (defScope s__law_patterns) [] [] (ga K "_law_patterns") fd := c.d.def_ 53 rfl
theorem fd__law_two_classes (c : Tx K mg base) : ∃ fd, FunD K "_law_two_classes" "_law_two_classes" (defArgs s__law_two_classes) (defBody s__law_two_classes) (defScope s__law_two_classes) [] [] (ga K "_law_two_classes") fd := c.d.def_ 54 rfl
theorem fd__law_rises (c : Tx K mg base) : ∃ fd, FunD K "_law_rises" "_law_rises" (defArgs s__law_rises) (defBody s__law_rises) (defScope s__law_rises) [] [] (ga K "_law_rises") fd := c.d.def_ 55 rfl
theorem fd__law_right (c : Tx K mg base) : ∃ fd, FunD K "_law_right" "_law_right" (defArgs s__law_right) (defBody s__law_right) (defScope s__law_right) [] [] (ga K "_law_right") fd := c.d.def_ 56 rfl
theorem fd_law (c : Tx K mg base) : ∃ fd, FunD K "law" "law" (defArgs s_law) (defBody s_law) (defScope s_law) [] [] (ga K "law") fd := c.d.def_ 57 rfl
theorem fd_Entry_init (c : Tx K mg base) : ∃ fd, FunD K "__init__" "Entry.__init__" (defArgs s_Entry_init) (defBody s_Entry_init) (defScope s_Entry_init) [] [] (ma K (ga K "Entry") "__init__") fd := c.d.def_ 58 rfl
theorem fd_Cache_init (c : Tx K mg base) : ∃ fd, FunD K "__init__" "Cache.__init__" (defArgs s_Cache_init) (defBody s_Cache_init) (defScope s_Cache_init) [] [] (ma K (ga K "Cache") "__init__") fd := c.d.def_ 59 rfl
theorem fd_Cache_refresh (c : Tx K mg base) : ∃ fd, FunD K "refresh" "Cache.refresh" (defArgs s_Cache_refresh) (defBody s_Cache_refresh) (defScope s_Cache_refresh) [] [] (ma K (ga K "Cache") "refresh") fd := c.d.def_ 60 rfl
theorem fd_Table_init (c : Tx K mg base) : ∃ fd, FunD K "__init__" "Table.__init__" (defArgs s_Table_init) (defBody s_Table_init) (defScope s_Table_init) [] [] (ma K (ga K "Table") "__init__") fd := c.d.def_ 61 rfl
theorem fd_Table_copied (c : Tx K mg base) : ∃ fd, FunD K "copied" "Table.copied" (defArgs s_Table_copied) (defBody s_Table_copied) (defScope s_Table_copied) [] [] (ma K (ga K "Table") "copied") fd := c.d.def_ 62 rfl
theorem fd_Table_has (c : Tx K mg base) : ∃ fd, FunD K "has" "Table.has" (defArgs s_Table_has) (defBody s_Table_has) (defScope s_Table_has) [] [] (ma K (ga K "Table") "has") fd := c.d.def_ 63 rfl
theorem fd_Table_all_names (c : Tx K mg base) : ∃ fd, FunD K "all_names" "Table.all_names" (defArgs s_Table_all_names) (defBody s_Table_all_names) (defScope s_Table_all_names) [] [] (ma K (ga K "Table") "all_names") fd := c.d.def_ 64 rfl
theorem fd_Table_add_class (c : Tx K mg base) : ∃ fd, FunD K "add_class" "Table.add_class" (defArgs s_Table_add_class) (defBody s_Table_add_class) (defScope s_Table_add_class) [] [] (ma K (ga K "Table") "add_class") fd := c.d.def_ 65 rfl
theorem fd_Table_add_registration (c : Tx K mg base) : ∃ fd, FunD K "add_registration" "Table.add_registration" (defArgs s_Table_add_registration) (defBody s_Table_add_registration) (defScope s_Table_add_registration) [] [] (ma K (ga K "Table") "add_registration") fd := c.d.def_ 66 rfl
theorem fd_Table_remove_registration (c : Tx K mg base) : ∃ fd, FunD K "remove_registration" "Table.remove_registration" (defArgs s_Table_remove_registration) (defBody s_Table_remove_registration) (defScope s_Table_remove_registration) [] [] (ma K (ga K "Table") "remove_registration") fd := c.d.def_ 67 rfl
theorem fd_Table_is_above (c : Tx K mg base) : ∃ fd, FunD K "is_above" "Table.is_above" (defArgs s_Table_is_above) (defBody s_Table_is_above) (defScope s_Table_is_above) [] [] (ma K (ga K "Table") "is_above") fd := c.d.def_ 68 rfl
theorem fd_Table_sworn (c : Tx K mg base) : ∃ fd, FunD K "sworn" "Table.sworn" (defArgs s_Table_sworn) (defBody s_Table_sworn) (defScope s_Table_sworn) [] [] (ma K (ga K "Table") "sworn") fd := c.d.def_ 69 rfl
theorem fd_Table_below (c : Tx K mg base) : ∃ fd, FunD K "below" "Table.below" (defArgs s_Table_below) (defBody s_Table_below) (defScope s_Table_below) [] [] (ma K (ga K "Table") "below") fd := c.d.def_ 70 rfl
theorem fd_Table_next_of (c : Tx K mg base) : ∃ fd, FunD K "next_of" "Table.next_of" (defArgs s_Table_next_of) (defBody s_Table_next_of) (defScope s_Table_next_of) [] [] (ma K (ga K "Table") "next_of") fd := c.d.def_ 71 rfl
theorem fd_Table_answer_for (c : Tx K mg base) : ∃ fd, FunD K "answer_for" "Table.answer_for" (defArgs s_Table_answer_for) (defBody s_Table_answer_for) (defScope s_Table_answer_for) [] [] (ma K (ga K "Table") "answer_for") fd := c.d.def_ 72 rfl
theorem fd_Table_shortest_road (c : Tx K mg base) : ∃ fd, FunD K "shortest_road" "Table.shortest_road" (defArgs s_Table_shortest_road) (defBody s_Table_shortest_road) (defScope s_Table_shortest_road) [] [] (ma K (ga K "Table") "shortest_road") fd := c.d.def_ 73 rfl
theorem fd_Table_ring_by (c : Tx K mg base) : ∃ fd, FunD K "ring_by" "Table.ring_by" (defArgs s_Table_ring_by) (defBody s_Table_ring_by) (defScope s_Table_ring_by) [] [] (ma K (ga K "Table") "ring_by") fd := c.d.def_ 74 rfl
theorem fd_World_init (c : Tx K mg base) : ∃ fd, FunD K "__init__" "World.__init__" (defArgs s_World_init) (defBody s_World_init) (defScope s_World_init) [] [] (ma K (ga K "World") "__init__") fd := c.d.def_ 75 rfl
theorem fd_World_class_picture (c : Tx K mg base) : ∃ fd, FunD K "class_picture" "World.class_picture" (defArgs s_World_class_picture) (defBody s_World_class_picture) (defScope s_World_class_picture) [] [] (ma K (ga K "World") "class_picture") fd := c.d.def_ 76 rfl
theorem fd_World_look (c : Tx K mg base) : ∃ fd, FunD K "look" "World.look" (defArgs s_World_look) (defBody s_World_look) (defScope s_World_look) [] [] (ma K (ga K "World") "look") fd := c.d.def_ 77 rfl
theorem fd_World_refresh (c : Tx K mg base) : ∃ fd, FunD K "refresh" "World.refresh" (defArgs s_World_refresh) (defBody s_World_refresh) (defScope s_World_refresh) [] [] (ma K (ga K "World") "refresh") fd := c.d.def_ 78 rfl
theorem fd_World_make (c : Tx K mg base) : ∃ fd, FunD K "make" "World.make" (defArgs s_World_make) (defBody s_World_make) (defScope s_World_make) [] [] (ma K (ga K "World") "make") fd := c.d.def_ 79 rfl
theorem fd_World_look_registration (c : Tx K mg base) : ∃ fd, FunD K "look_registration" "World.look_registration" (defArgs s_World_look_registration) (defBody s_World_look_registration) (defScope s_World_look_registration) [] [] (ma K (ga K "World") "look_registration") fd := c.d.def_ 80 rfl
theorem fd_World_admit (c : Tx K mg base) : ∃ fd, FunD K "admit" "World.admit" (defArgs s_World_admit) (defBody s_World_admit) (defScope s_World_admit) [] [] (ma K (ga K "World") "admit") fd := c.d.def_ 81 rfl
end
end SW

set_option maxHeartbeats 2000000
namespace SW
open PySem PySem.Spec PyProof.Rows L2 He LamX NdefX
/-! ## a def, its promise, its calls -/
/-- a def that raises nothing keeps its promise at level k -/
structure Ok (P : Program) (w : World) (K : PySem.W.Frag) (mg : Str → Option Value) (base : Heap) (k : Nat) (f : Addr) (ps : List Str) (sp : Sp) : Prop where
  ex : ∃ fd, FnOk P w K mg base CX0 k f fd ps sp ∧ Binds K fd ps []
  kp : PySem.W.keepIn K (.ref f) = true
section
variable {P : Program} {w : World} {K : PySem.W.Frag} {mg : Str → Option Value} {base : Heap} {x qual : Str} {params : Arguments} {body : List Stmt} {scope : Scope} {f : Addr} {N ps : List Str} {k : Nat} {sp : Sp}
theorem Ok.mk' (F : ∃ fd, FunD K x qual params body scope [] [] f fd) (S : FnScope N ps scope)
    (hb : ∀ (kV doc pm : Value) (an : Option Addr) (cdv ct : Value) (us : List Value), us.length = ps.length → bindArgs (PySem.W.fnOf x qual params body scope .none kV doc pm an cdv ct) ⟨us, []⟩ = pure (ps.zip us))
    (len : ∀ vs H Q E, sp vs H Q E → vs.length = ps.length)
    (hbody : ∀ (cdv : Value) (A : Around) (outer : List Env) (s : Shared) (H : Hp) (vs : List V) (Q : VK) (E : XK), Room k (A.deeper (envOfC qual scope s.heap.objs.size f cdv)) → sp vs H Q E →
      ∃ t, PSs (cxOf CX0 P w K mg base N qual scope f cdv A outer s H E).nox body t ∧ t { nx := fun _ H' => Q .non H', rt := Q } (start N vs) H) : Ok P w K mg base (k + 1) f ps sp := by
  obtain ⟨fd, F⟩ := F
  refine ⟨⟨fd, F.ok S len fun cdv A outer s H vs Q E hr h => ?_, F.bindsN hb⟩, F.kp⟩
  obtain ⟨t, h1, h2⟩ := hbody cdv A outer s H vs Q E hr h
  exact ⟨t, h1.nox, h2⟩
end
section
variable {X : Cx} {k j : Nat} {f C : Addr} {ps : List Str} {sp : Sp} {x m : Str} {p pos apos : Pos} {e o : Expr} {es : List Expr} {ta : TE} {t : TA}
theorem Ok.call (F : Ok X.prog X.w X.K X.mg X.base k f ps sp) (hr : Room j X.A) (hk : k ≤ j) (hm : X.mg x = some (.ref f)) (ha : PA X (e :: es) t) (hg : Gl X x := by rfl)
    (hdb : (x == ("__debug__" : Str)) = false := by decide) (he : starEach (e :: es) X.env = (false, eval e X.env) :: starEach es X.env := by rfl) (hpl : (backTo pos (starEach es X.env)).any (·.1) = false := by rfl) :
    PE X (.Call (.Name x p) (e :: es) [] pos) (tCall sp [] E0 t) := by
  obtain ⟨fd, G, b⟩ := F.ex
  exact pe_call (pos := pos) G (hr.mono hk) hg hm F.kp b .nil pass0 ha hdb he hpl
theorem Ok.call0 (F : Ok X.prog X.w X.K X.mg X.base k f ps sp) (hr : Room j X.A) (hk : k ≤ j) (hm : X.mg x = some (.ref f)) (hg : Gl X x := by rfl)
    (hdb : (x == ("__debug__" : Str)) = false := by decide) : PE X (.Call (.Name x p) [] [] pos) (tCall sp [] E0 tNil) := by
  obtain ⟨fd, G, b⟩ := F.ex
  exact pe_call0 G (hr.mono hk) hg hm F.kp b .nil pass0 hdb
theorem Ok.meth {pl : Sem Bool} (F : Ok X.prog X.w X.K X.mg X.base k f ps sp) (hr : Room j X.A) (hk : k ≤ j) (c : Cls X.K C) (hm : Meth X.K C m f) (ho : PE X o ta) (ha : PA X (e :: es) t)
    (hst : starEach (e :: es) X.env = (false, eval e X.env) :: starEach es X.env := by rfl) (hpl : (backTo pos (starEach es X.env)).any (·.1) = false := by rfl)
    (ht : eval (.Call (.Attribute o m apos) (e :: es) [] pos) X.env = (do
      let ov ← eval o X.env
      standAt apos.atName
      let (f, first) ← holding [ov] (getMethod ov m pl)
      callWith pos f first (backTo pos (starEach (e :: es) X.env)) (backToKw pos (keywordEach [] X.env))) := by rfl) :
    PE X (.Call (.Attribute o m apos) (e :: es) [] pos) (tMeth C m sp [] E0 ta t) := by
  obtain ⟨fd, G, b⟩ := F.ex
  exact pe_meth ho c hm G (hr.mono hk) b .nil pass0 ha hst hpl ht
theorem Ok.meth0 {pl : Sem Bool} (F : Ok X.prog X.w X.K X.mg X.base k f ps sp) (hr : Room j X.A) (hk : k ≤ j) (c : Cls X.K C) (hm : Meth X.K C m f) (ho : PE X o ta)
    (ht : eval (.Call (.Attribute o m apos) [] [] pos) X.env = (do
      let ov ← eval o X.env
      standAt apos.atName
      let (f, first) ← holding [ov] (getMethod ov m pl)
      callWith pos f first (backTo pos (starEach [] X.env)) (backToKw pos (keywordEach [] X.env))) := by rfl) :
    PE X (.Call (.Attribute o m apos) [] [] pos) (tMeth C m sp [] E0 ta tNil) := by
  obtain ⟨fd, G, b⟩ := F.ex
  exact pe_meth0 ho c hm G (hr.mono hk) b .nil pass0 ht
theorem Ok.make (F : Ok X.prog X.w X.K X.mg X.base k f ps sp) (hr : Room j X.A) (hk : k + 1 ≤ j) (M : Mk X.K C f) (hm : X.mg x = some (.ref C)) (ha : PA X (e :: es) t) (hg : Gl X x := by rfl)
    (hdb : (x == ("__debug__" : Str)) = false := by decide) (he : starEach (e :: es) X.env = (false, eval e X.env) :: starEach es X.env := by rfl) (hpl : (backTo pos (starEach es X.env)).any (·.1) = false := by rfl) :
    PE X (.Call (.Name x p) (e :: es) [] pos) (tMake C sp [] E0 t) := by
  obtain ⟨fd, G, b⟩ := F.ex
  exact pe_make (pos := pos) M G (hr.mono hk) hg hm b .nil pass0 ha hdb he hpl
theorem Ok.make0 (F : Ok X.prog X.w X.K X.mg X.base k f ps sp) (hr : Room j X.A) (hk : k + 1 ≤ j) (M : Mk X.K C f) (hm : X.mg x = some (.ref C)) (hg : Gl X x := by rfl)
    (hdb : (x == ("__debug__" : Str)) = false := by decide) : PE X (.Call (.Name x p) [] [] pos) (tMake C sp [] E0 tNil) := by
  obtain ⟨fd, G, b⟩ := F.ex
  exact pe_make0 M G (hr.mono hk) hg hm b .nil pass0 hdb
/-- a text that the module's name stands for -/
theorem pe_kstr {z : Str} (h : ∃ t, X.mg x = some (.str z t)) (hg : Gl X x := by rfl) (hd : (x == ("__debug__" : Str)) = false := by decide) : PE X (.Name x pos) (tC (.str z)) :=
  let ⟨t, e⟩ := h
  pe_glob hg e ⟨t, rfl⟩ hd
theorem pe_kint {z : Int} (h : ∃ t, X.mg x = some (.int z t)) (hg : Gl X x := by rfl) (hd : (x == ("__debug__" : Str)) = false := by decide) : PE X (.Name x pos) (tC (.int z)) :=
  let ⟨t, e⟩ := h
  pe_glob hg e ⟨t, rfl⟩ hd
end
/-! ## the rules with the written part told (for the blocks of comprehensions) -/
section
variable {X : Cx} (K : PySem.W.Frag) {a b e : Expr} {f : Str} {es : List Expr} {pos : Pos} {ta tb : TE} {tg : Expr}
theorem fldK (hK : X.K = K) (he : PE X e ta) (hb : attributeBase e f X.env (eval e X.env) = eval e X.env) : PE X (.Attribute e f pos) (tFld K ta f) := by
  subst hK
  exact pe_fld he hb
theorem inK (hK : X.K = K) : OpR X (compareOp .In) (rIn K false) := by
  subst hK
  exact op_in_seq
theorem ninK (hK : X.K = K) : OpR X (compareOp .NotIn) (rIn K true) := by
  subst hK
  exact op_notIn_seq
theorem ixLK (hK : X.K = K) : IxR X (rIxL K) := by
  subst hK
  exact ix_list
theorem ixTK (hK : X.K = K) : IxR X (rIxT K) := by
  subst hK
  exact ix_tup
theorem slLK (hK : X.K = K) : SlR X (rSlL K) := by
  subst hK
  exact sl_list
theorem slTK (hK : X.K = K) : SlR X (rSlT K) := by
  subst hK
  exact sl_tup
def rLenK (K : PySem.W.Frag) : List V → Hp → VK → Prop := fun xs H Q => ∃ p ys, xs = [.ref p] ∧ (SqL K H p ys ∨ SqT K H p ys) ∧ Q (.int ys.length) H
theorem lenK (hK : X.K = K) : CallR X (.builtin "len") (rLenK K) := by
  subst hK
  exact call_len_seq
def rListK (K : PySem.W.Frag) : List V → Hp → VK → Prop := fun xs H Q => ∃ p ys, xs = [.ref p] ∧ (SqL K H p ys ∨ SqT K H p ys) ∧ ∀ l, H l = none → Q (.ref l) (upd H l (.lst ys))
theorem listK (hK : X.K = K) : CallR X (.type "list") (rListK K) := by
  subst hK
  exact call_list_of
def rTupK (K : PySem.W.Frag) : List V → Hp → VK → Prop := fun xs H Q => ∃ p ys, xs = [.ref p] ∧ ((SqL K H p ys ∧ ∀ l, H l = none → Q (.ref l) (upd H l (.tup ys))) ∨ (SqT K H p ys ∧ Q (.ref p) H))
theorem tupK (hK : X.K = K) : CallR X (.type "tuple") (rTupK K) := by
  subst hK
  exact call_tuple_of
theorem piL (hK : X.K = K) (hl : PE X e ta) : PI X tg e (iList K ta) := by
  subst hK
  exact pi_list hl
theorem piT (hK : X.K = K) (hl : PE X e ta) : PI X tg e (iTup K ta) := by
  subst hK
  exact pi_tup hl
theorem eqDK (hK : X.K = K) (hu : X.A.units + 64 < cLine) : OpR X (compareOp .Eq) (rEqD K) := by
  subst hK
  exact op_eqD hu
theorem neDK (hK : X.K = K) (hu : X.A.units + 64 < cLine) : OpR X (compareOp .NotEq) (rNeD K) := by
  subst hK
  exact op_neD hu
theorem anyK (hK : X.K = K) (hc : X.calm = true) : CallR X (.builtin "any") (rAny K) := by
  subst hK
  exact cr_any hc
theorem allK (hK : X.K = K) (hc : X.calm = true) : CallR X (.builtin "all") (rAll K) := by
  subst hK
  exact cr_all hc
theorem catTK (hK : X.K = K) : OpR X (binaryOp .Add) (rCatT K) := by
  subst hK
  exact op_catT
theorem isiK (hK : X.K = K) : CallR X (.builtin "isinstance") (rIsi K) := by
  subst hK
  exact call_isi
theorem isiTK (hK : X.K = K) : CallR X (.builtin "isinstance") (rIsiT K) := by
  subst hK
  exact call_isiT
theorem gtupK (hK : X.K = K) {k : Nat} {t : TGs} {n : Nat} (hc : X.calm = true) (h : PGs X es t)
    (hn : (assignEach es X.env).length = n := by rfl) (hst : (assignEach es X.env).findIdx? (·.1) = none := by rfl) : PG X (.Tuple es k pos) (gTup K n t) := by
  subst hK
  exact pg_tup hc h hn hst
end
/-! ## comprehensions over lists and tuples -/
section
variable {T : Tbs} {K : PySem.W.Frag} {a : Addr} {B : Type} {g : TG} {tc : TT} {te : TE} {vs : List Nat} {σ : L2.St} {H1 : Hp} {D : Addr} {Qd : Hp → Prop}
theorem lcLR (e : B → V) (bs : List B) (hS : SqL K H1 a (bs.map e)) (hsz : bs.length ≤ 100000) (R : Hp → B → V → Prop) (hR : ∀ b v, Mo T fun H => R H b v) (pr : B → Bool) (hD : H1 D = none)
    (hs : ∀ b ∈ bs, ∀ H ys, Gr T H1 H → H D = some (.lst ys) → ∀ (Kp : V → Hp → Prop) (Ks : Hp → Prop), (pr b = true → ∀ y H4, Gr T H H4 → R (wo D H4) b y → Kp y H4) → (pr b = false → ∀ H4, Gr T H H4 → Ks H4) →
      g (e b) (wipe σ vs) H fun σ2 H2 => wipe σ2 vs = wipe σ vs ∧ tc σ2 H2 fun c H3 => if c = true then te σ2 H3 Kp else Ks H3)
    (hd : ∀ H ys, Gr T H1 H → H D = some (.lst ys) → Paired (fun y b => R H b y) ys (bs.filter pr) → Qd H) :
    ∃ W : Nat → Nat → Hp → Prop, (∃ m, W 0 m (upd H1 D (.lst []))) ∧ ∀ i m H, W i m H →
      ((Itl K a).stop i H ∧ Qd H) ∨ ((Itl K a).go i H ∧ ∃ Nx : Hp → Prop, (∀ H', Nx H' → ∃ m', m' < m ∧ W (i + 1) m' H') ∧ ∀ x H', (Itl K a).yld i H x H' → g x (wipe σ vs) H' fun σ2 H2 => wipe σ2 vs = wipe σ vs ∧ tc σ2 H2 fun b H3 =>
        if b = true then te σ2 H3 fun y H4 => ∃ acc, H4 D = some (.lst acc) ∧ acc.length < sizeLine ∧ Nx (upd H4 D (.lst (acc ++ [y]))) else Nx H3) := by
  refine lcR (T := T) (walk_list (xs := bs.map e)) bs (by simp) hsz R hR pr hD (fun H g => g.sqL hS) (fun i b x H H' ys hb gr hy y Kp Ks h1 h2 => ?_) hd
  obtain ⟨rfl, hx⟩ := y
  rw [List.getElem?_map, hb] at hx
  cases hx
  exact hs b (List.mem_of_getElem? hb) _ ys gr hy Kp Ks h1 h2
theorem lcL (e : B → V) (bs : List B) (hS : SqL K H1 a (bs.map e)) (hsz : bs.length ≤ 100000) (f : B → V) (pr : B → Bool) (hD : H1 D = none)
    (hs : ∀ b ∈ bs, ∀ H, Gr T H1 H → ∀ (Kp : V → Hp → Prop) (Ks : Hp → Prop), (pr b = true → ∀ H4, Gr T H H4 → Kp (f b) H4) → (pr b = false → ∀ H4, Gr T H H4 → Ks H4) →
      g (e b) (wipe σ vs) H fun σ2 H2 => wipe σ2 vs = wipe σ vs ∧ tc σ2 H2 fun c H3 => if c = true then te σ2 H3 Kp else Ks H3)
    (hd : ∀ H, Gr T H1 H → H D = some (.lst ((bs.filter pr).map f)) → Qd H) :
    ∃ W : Nat → Nat → Hp → Prop, (∃ m, W 0 m (upd H1 D (.lst []))) ∧ ∀ i m H, W i m H →
      ((Itl K a).stop i H ∧ Qd H) ∨ ((Itl K a).go i H ∧ ∃ Nx : Hp → Prop, (∀ H', Nx H' → ∃ m', m' < m ∧ W (i + 1) m' H') ∧ ∀ x H', (Itl K a).yld i H x H' → g x (wipe σ vs) H' fun σ2 H2 => wipe σ2 vs = wipe σ vs ∧ tc σ2 H2 fun b H3 =>
        if b = true then te σ2 H3 fun y H4 => ∃ acc, H4 D = some (.lst acc) ∧ acc.length < sizeLine ∧ Nx (upd H4 D (.lst (acc ++ [y]))) else Nx H3) := by
  refine lcF (T := T) (walk_list (xs := bs.map e)) bs (by simp) hsz f pr hD (fun H g => g.sqL hS) (fun i b x H H' hb gr y Kp Ks h1 h2 => ?_) hd
  obtain ⟨rfl, hx⟩ := y
  rw [List.getElem?_map, hb] at hx
  cases hx
  exact hs b (List.mem_of_getElem? hb) _ gr Kp Ks h1 h2
theorem lcTu (e : B → V) (bs : List B) (hS : SqT K H1 a (bs.map e)) (hsz : bs.length ≤ 100000) (f : B → V) (pr : B → Bool) (hD : H1 D = none)
    (hs : ∀ b ∈ bs, ∀ H, Gr T H1 H → ∀ (Kp : V → Hp → Prop) (Ks : Hp → Prop), (pr b = true → ∀ H4, Gr T H H4 → Kp (f b) H4) → (pr b = false → ∀ H4, Gr T H H4 → Ks H4) →
      g (e b) (wipe σ vs) H fun σ2 H2 => wipe σ2 vs = wipe σ vs ∧ tc σ2 H2 fun c H3 => if c = true then te σ2 H3 Kp else Ks H3)
    (hd : ∀ H, Gr T H1 H → H D = some (.lst ((bs.filter pr).map f)) → Qd H) :
    ∃ W : Nat → Nat → Hp → Prop, (∃ m, W 0 m (upd H1 D (.lst []))) ∧ ∀ i m H, W i m H →
      ((Itt K a).stop i H ∧ Qd H) ∨ ((Itt K a).go i H ∧ ∃ Nx : Hp → Prop, (∀ H', Nx H' → ∃ m', m' < m ∧ W (i + 1) m' H') ∧ ∀ x H', (Itt K a).yld i H x H' → g x (wipe σ vs) H' fun σ2 H2 => wipe σ2 vs = wipe σ vs ∧ tc σ2 H2 fun b H3 =>
        if b = true then te σ2 H3 fun y H4 => ∃ acc, H4 D = some (.lst acc) ∧ acc.length < sizeLine ∧ Nx (upd H4 D (.lst (acc ++ [y]))) else Nx H3) := by
  refine lcF (T := T) (walk_tup (xs := bs.map e)) bs (by simp) hsz f pr hD (fun H g => g.sqT hS) (fun i b x H H' hb gr y Kp Ks h1 h2 => ?_) hd
  obtain ⟨rfl, hx⟩ := y
  rw [List.getElem?_map, hb] at hx
  cases hx
  exact hs b (List.mem_of_getElem? hb) _ gr Kp Ks h1 h2
end
theorem yesT {te : TE} {σ : L2.St} {H : Hp} {Kp : VK} {Ks : Hp → Prop} (h : te σ H Kp) : tYes σ H (fun c H3 => if c = true then te σ H3 Kp else Ks H3) := by
  show if true = true then te σ H Kp else Ks H
  rw [if_pos rfl]
  exact h
theorem yesP {σ : L2.St} {H : Hp} {A B : Hp → Prop} (h : A H) : tYes σ H (fun c H3 => if c = true then A H3 else B H3) := by
  show if true = true then A H else B H
  rw [if_pos rfl]
  exact h
theorem big {n : Nat} (h : n ≤ 1000) : n ≤ 100000 := Nat.le_trans h (by decide)
theorem filter_yes {B : Type} (bs : List B) : bs.filter (fun _ => true) = bs := by simp
/-- what a reader promises: its answer v, in a heap that has grown -/
abbrev Ans (B : Tbs) (H : Hp) (Q : VK) (v : V) : Prop := ∀ H', Gr B H H' → Q v H'
/-- .. a new object o -/
abbrev AnsN (B : Tbs) (H : Hp) (Q : VK) (o : HO) : Prop := ∀ H' p, Gr B H H' → H' p = some o → Q (.ref p) H'
/-- the tables of this program -/
def tt (K : PySem.W.Frag) : Tbs := [((cT K ("led_to", none)).2, ("led_to" : Str) ++ ".<locals>." ++ "<lambda>"), ((cT K ("has_road", none)).2, ("has_road" : Str) ++ ".<locals>." ++ "<lambda>")]
end SW

set_option maxHeartbeats 2000000
namespace SW
open PySem PySem.Spec PyProof.Rows L2 He LamX NdefX
open SW.M (Ent Tb)
section
variable {P : Program} {w : World} {K : PySem.W.Frag} {mg : Str → Option Value} {base : Heap}
/-! ## the classes -/
theorem map_at {B : Type} {e : B → V} {bs : List B} {i : Nat} {z : V} (hi : (bs.map e)[i]? = some z) : ∃ b, bs[i]? = some b ∧ z = e b := by
  rw [List.getElem?_map] at hi
  cases q : bs[i]? with
  | none =>
    rw [q] at hi
    cases hi
  | some o =>
    rw [q] at hi
    exact ⟨o, rfl, (Option.some.inj hi).symm⟩
theorem sv_at {xs : List Str} {i : Nat} {z : V} (hi : (sv xs)[i]? = some z) : ∃ o, xs[i]? = some o ∧ z = .str o := map_at hi
theorem drop_at {B : Type} {bs : List B} {i : Nat} {b : B} (h : bs[i]? = some b) : bs.drop i = b :: bs.drop (i + 1) := by
  obtain ⟨hi, e⟩ := List.getElem?_eq_some_iff.mp h
  rw [List.drop_eq_getElem_cons hi, e]
theorem sv_len (xs : List Str) : (sv xs).length = xs.length := by simp [sv]
theorem Wf.lineN {es : List En} (wf : Wf es) {n : Str} {E : En} (h : M.find es n = some E) : E.line.length ≤ 1000 := by
  rw [← line_find h]
  exact Nat.le_trans (wf.short n) (by decide)
theorem Wf.lineM {es : List En} (wf : Wf es) {n o : Str} {E : En} (h : M.find es n = some E) (ho : o ∈ E.line) : o ∈ M.names es := wf.sub n o (by rw [line_find h]; exact ho)
def spSworn (K : PySem.W.Frag) : Sp := fun vs H Q _ => ∃ (r : Addr) (es : List En) (n : Str), vs = [.ref r, .str n] ∧ RecAt K H r es ∧ Wf es ∧ n ∈ M.names es ∧ Ans (tt K) H Q (.bl (M.sworn es n))
theorem sc_is_sworn : FnScope ["table", "name", "one"] ["table", "name"] (defScope s_is_sworn) := ⟨rfl, rfl, rfl, by decide +kernel, rfl, by decide +kernel, by decide +kernel⟩
theorem ok_is_sworn (c : Tx K mg base) : Ok P w K mg base 1 (ga K "is_sworn") ["table", "name"] (spSworn K) := by
  refine Ok.mk' (fd_is_sworn c) sc_is_sworn (fun _ _ _ _ _ _ us hl => match us, hl with | [_, _], _ => rfl) (fun vs H Q E h => ?_) (fun cdv A outer s H vs Q E hr h => ?_)
  · obtain ⟨r, es, n, rfl, _⟩ := h
    rfl
  · obtain ⟨r, es, n, rfl, hR, wf, hn, k⟩ := h
    refine ⟨_, (pss_one (ps_ret (pe_callB (anyK K rfl rfl) (by rfl) (n_any c) (by first | exact PySem.boot_any | exact boot_any | decide +kernel) (pa_cons (pe_lc (own := [("one", 2)]) (g := (gName 2)) (tt := tYes) rfl sc_is_sworn.nd (piL K rfl (fldK K rfl (pe_dget (hu_of hr) (pv 0) (pv 1) (fun _ _ => rfl)) rfl)) (blkOk_by (N := ["table", "name", "one"]) (sc := defScope s_is_sworn) (by decide +kernel)) (fun _ _ _ _ _ => (pg_name (i := 2) sc_is_sworn.nd rfl (by first | exact Or.inl rfl | exact Or.inr rfl))) (fun _ _ _ _ _ => by exact pts_nil) (fun _ _ _ _ _ => by exact (fldK K rfl (pe_dget (hu_of hr) (pv 0) (pv 2) (fun _ _ => rfl)) rfl))) pa_nil)))), ?_⟩
    obtain ⟨e, E, h1, ⟨dx, pa, ma, li, hv, h2, h3, h4, h5, h6⟩, h7, h8, h9⟩ := hR.get hn
    refine ⟨_, rfl, _, rfl, r, _, rfl, h1, e, _, dx, _, _, rfl, h2, cl_Entry c, na_Entry_line c, rfl, li, rfl, ⟨_, SqL.of h6⟩, fun D hD => ?_⟩
    refine lcL (T := tt K) V.str E.line (SqL.of h6) (big (wf.lineN h7)) (fun o => .bl (M.own es o)) (fun _ => true) hD (fun o ho H' g Kp Ks kp ks => ?_) (fun H' g hl => ?_)
    · obtain ⟨e', E', h1', ⟨dx', pa', ma', li', hv', h2', _⟩, h7', _⟩ := (hR.mono g).get (wf.lineM h7 ho)
      refine ⟨rfl, yesT ⟨_, rfl, _, rfl, r, _, rfl, h1', e', _, dx', _, _, rfl, h2', cl_Entry c, na_Entry_own_sworn c, rfl, ?_⟩⟩
      rw [← own_find h7']
      exact kp rfl _ (Gr.refl _)
    · refine ⟨D, E.line.map (M.own es), rfl, SqL.of ?_, ?_⟩
      · rw [hl, filter_yes, List.map_map] <;> rfl
      · have e : (E.line.map (M.own es)).any id = M.sworn es n := by
          rw [List.any_map]
          unfold M.sworn
          rw [line_find h7] <;> rfl
        rw [e]
        exact k _ g

def spTsworn (K : PySem.W.Frag) : Sp := fun vs H Q _ => ∃ (t : Addr) (T : Tb Str) (n : Str), vs = [.ref t, .str n] ∧ TabAt K H t T ∧ Wf T.es ∧ n ∈ M.names T.es ∧ Ans (tt K) H Q (.bl (M.sworn T.es n))
theorem sc_Table_sworn : FnScope ["self", "name"] ["self", "name"] (defScope s_Table_sworn) := ⟨rfl, rfl, rfl, by decide +kernel, rfl, by decide +kernel, by decide +kernel⟩
theorem ok_Table_sworn (c : Tx K mg base) : Ok P w K mg base 2 (ma K (ga K "Table") "sworn") ["self", "name"] (spTsworn K) := by
  refine Ok.mk' (fd_Table_sworn c) sc_Table_sworn (fun _ _ _ _ _ _ us hl => match us, hl with | [_, _], _ => rfl) (fun vs H Q E h => ?_) (fun cdv A outer s H vs Q E hr h => ?_)
  · obtain ⟨t, T, n, rfl, _⟩ := h
    rfl
  · obtain ⟨t, T, n, rfl, ⟨dx, r, nu, l, m, kn, h1, h2, h3, h4⟩, wf, hn, k⟩ := h
    refine ⟨_, (pss_one (ps_ret ((ok_is_sworn c).call hr (by decide) (g_is_sworn c) (pa_cons (fldK K rfl (pv 0) rfl) (pa_cons (pv 1) pa_nil))))), ?_⟩
    exact ⟨_, rfl, t, _, dx, _, _, rfl, h1, cl_Table c, na_Table_records c, rfl, _, rfl, r, T.es, n, rfl, h2, wf, hn, k⟩
/-- the hook that decides, as a value -/
def spHookFor (K : PySem.W.Frag) : Sp := fun vs H Q _ => ∃ (r : Addr) (es : List En) (n : Str), vs = [.ref r, .str n] ∧ RecAt K H r es ∧ Wf es ∧ n ∈ M.names es ∧ ∀ v H', Gr (tt K) H H' → HookAt H' v (M.hookFor es n (M.line es n)) → Q v H'
theorem sc_hook_for : FnScope ["table", "name", "one", "entry"] ["table", "name"] (defScope s_hook_for) := ⟨rfl, rfl, rfl, by decide +kernel, rfl, by decide +kernel, by decide +kernel⟩
theorem ok_hook_for (c : Tx K mg base) : Ok P w K mg base 1 (ga K "hook_for") ["table", "name"] (spHookFor K) := by
  refine Ok.mk' (fd_hook_for c) sc_hook_for (fun _ _ _ _ _ _ us hl => match us, hl with | [_, _], _ => rfl) (fun vs H Q E h => ?_) (fun cdv A outer s H vs Q E hr h => ?_)
  · obtain ⟨r, es, n, rfl, _⟩ := h
    rfl
  · obtain ⟨r, es, n, rfl, hR, wf, hn, k⟩ := h
    refine ⟨_, (pss_cons (ps_for PassesOwn.never rfl (piL K rfl (fldK K rfl (pe_dget (hu_of hr) (pv 0) (pv 1) (fun _ _ => rfl)) rfl)) (pg_name (i := 2) sc_hook_for.nd rfl (Or.inl rfl)) (pss_cons (ps_set (i := 3) sc_hook_for.nd rfl (Or.inl rfl) (pe_dget (hu_of hr) (pv 0) (pv 2) (fun _ _ => rfl))) (pss_one (ps_if (pt_cmpR op_notN (fldK K rfl (pv 3) rfl) pe_non (nomark _)) (pss_one (ps_ret (pe_ifExp (PW.pt (pw_or (pt_cmpR op_eq (pv 2) (pv 1) (nomark _)) (pw_or1 (pt_val (fldK K rfl (pv 3) rfl))))) (fldK K rfl (pv 3) rfl) pe_non))) pss_nil)))) (pss_one (ps_ret pe_non))), ?_⟩
    obtain ⟨e, E, h1, ⟨dx, pa, ma, li, hv, h2, h3, h4, h5, h6⟩, h7, h8, h9⟩ := hR.get hn
    refine ⟨_, rfl, _, rfl, r, _, rfl, h1, e, _, dx, _, _, rfl, h2, cl_Entry c, na_Entry_line c, rfl, li, rfl, ⟨_, SqL.of h6⟩, ?_⟩
    refine for_list (K := K) (a := li) (xs := sv E.line) (fun i σ H' => Gr (tt K) H H' ∧ M.hookFor es n (M.line es n) = M.hookFor es n (E.line.drop i) ∧ ∃ x y, σ = [some (.ref r), some (.str n), x, y]) ⟨Gr.refl _, by rw [line_find h7] <;> rfl, _, _, rfl⟩ (fun i σ H' _ h => h.1.sqL (SqL.of h6)) ?_ ?_
    · rintro i z σ H' hi ⟨g, eq, x, y, rfl⟩
      obtain ⟨o, ho, rfl⟩ := sv_at hi
      have hd := drop_at ho
      obtain ⟨e', E', h1', ⟨dx', pa', ma', li', hv', h2', _, _, h5', _⟩, h7', _⟩ := (hR.mono g).get (wf.lineM h7 (List.mem_of_getElem? ho))
      refine ⟨_, rfl, _, rfl, r, _, rfl, h1', ?_⟩
      refine ⟨_, rfl, e', _, dx', _, _, rfl, h2', cl_Entry c, na_Entry_own_hook c, rfl, rfl, _, rfl, ?_⟩
      rw [hd] at eq
      have eh : M.hookOf es o = E'.hook := hook_find h7'
      cases q : E'.hook with
      | none =>
        rw [q] at h5'
        have hv0 : hv' = .non := h5'
        subst hv0
        refine iteF ⟨g, ?_, _, _, rfl⟩
        rw [eq]
        simp only [M.hookFor, eh, q]
      | some cl =>
        rw [q] at h5'
        have eq2 : M.hookFor es n (M.line es n) = if o = n ∨ M.passedOf es o = true then some cl else none := by
          rw [eq]
          simp only [M.hookFor, eh, q]
        obtain ⟨ha, xs, rfl, h5a, h5b⟩ := h5'
        refine iteT ?_
        show tIf _ _ _ _ _ _
        refine ⟨_, rfl, _, rfl, rfl, _, rfl, ?_⟩
        by_cases ho' : o = n
        · have e1 : decide (V.str o = V.str n) = true := decide_eq_true (by rw [ho'])
          rw [e1]
          refine iteT ?_
          refine iteT ⟨_, rfl, e', _, dx', _, _, rfl, h2', cl_Entry c, na_Entry_own_hook c, rfl, ?_⟩
          refine k _ _ g ?_
          rw [eq2, if_pos (.inl ho')]
          exact ⟨ha, xs, rfl, h5a, h5b⟩
        · have e1 : decide (V.str o = V.str n) = false := decide_eq_false (fun z => ho' (by cases z; rfl))
          rw [e1]
          refine iteF ⟨_, rfl, e', _, dx', _, _, rfl, h2', cl_Entry c, na_Entry_passed_on c, rfl, _, rfl, ?_⟩
          cases q2 : E'.passed with
          | true =>
            refine iteT ⟨_, rfl, e', _, dx', _, _, rfl, h2', cl_Entry c, na_Entry_own_hook c, rfl, ?_⟩
            refine k _ _ g ?_
            rw [eq2, if_pos (.inr (by rw [pass_find h7', q2]))]
            exact ⟨ha, xs, rfl, h5a, h5b⟩
          | false =>
            refine iteF ?_
            refine k _ _ g ?_
            rw [eq2, if_neg (fun z => z.elim ho' (fun z => by rw [pass_find h7', q2] at z; cases z))]
            rfl
    · rintro σ H' ⟨g, eq, _⟩
      refine k _ _ g ?_
      rw [eq, show (sv E.line).length = E.line.length by simp [sv], List.drop_length]
      rfl

def optB : Option Bool → V
  | none => .non
  | some b => .bl b
def MsAt (K : PySem.W.Frag) (H : Hp) (m : Addr) (ms : List Str) : Prop := SqL K H m (sv ms) ∨ SqT K H m (sv ms)
theorem MsAt.mono {B : Tbs} {H H' : Hp} {m : Addr} {ms : List Str} (g : Gr B H H') (h : MsAt K H m ms) : MsAt K H' m ms := h.imp g.sqL g.sqT
def spHookAns (K : PySem.W.Frag) : Sp := fun vs H Q _ => ∃ (v : V) (m : Addr) (cl : List (List Str × Bool)) (ms : List Str), vs = [v, .ref m] ∧ HookAt H v (some cl) ∧ MsAt K H m ms ∧ (∀ c ∈ cl, c.1.length ≤ 100) ∧ Ans (tt K) H Q (optB (M.hookAns ms cl))
theorem sc_hook_answer : FnScope ["hook", "methods", "wanted", "answer", "method"] ["hook", "methods"] (defScope s_hook_answer) := ⟨rfl, rfl, rfl, by decide +kernel, rfl, by decide +kernel, by decide +kernel⟩
theorem ok_hook_answer (c : Tx K mg base) : Ok P w K mg base 1 (ga K "hook_answer") ["hook", "methods"] (spHookAns K) := by
  refine Ok.mk' (fd_hook_answer c) sc_hook_answer (fun _ _ _ _ _ _ us hl => match us, hl with | [_, _], _ => rfl) (fun vs H Q E h => ?_) (fun cdv A outer s H vs Q E hr h => ?_)
  · obtain ⟨v, m, cl, ms, rfl, _⟩ := h
    rfl
  · obtain ⟨v, m, cl, ms, rfl, ⟨a, xs, rfl, ha, hp⟩, hm, hz, k⟩ := h
    refine ⟨_, (pss_cons (ps_for PassesOwn.never rfl (piT K rfl (pv 0)) (gtupK K (n := 2) rfl rfl (pgs_cons (pg_name (i := 2) sc_hook_answer.nd rfl (Or.inl rfl)) (pgs_cons (pg_name (i := 3) sc_hook_answer.nd rfl (Or.inl rfl)) pgs_nil))) (pss_one (ps_if (pt_val (pe_callB (allK K rfl rfl) (by rfl) (n_all c) (by first | exact PySem.boot_all | exact boot_all | decide +kernel) (pa_cons (pe_lc (own := [("method", 4)]) (g := (gName 4)) (tt := tYes) rfl sc_hook_answer.nd (piT K rfl (pv 2)) (blkOk_by (N := ["hook", "methods", "wanted", "answer", "method"]) (sc := defScope s_hook_answer) (by decide +kernel)) (fun _ _ _ _ _ => (pg_name (i := 4) sc_hook_answer.nd rfl (by first | exact Or.inl rfl | exact Or.inr rfl))) (fun _ _ _ _ _ => by exact pts_nil) (fun _ _ _ _ _ => by exact (pe_cmpR (inK K rfl) (pv 4) (pv 1) rfl))) pa_nil))) (pss_one (ps_ret (pv 3))) pss_nil))) (pss_one (ps_ret pe_non))), ?_⟩
    refine ⟨_, rfl, a, rfl, ⟨_, SqT.of ha⟩, ?_⟩
    refine for_tup (K := K) (a := a) (xs := xs) (fun i σ H' => Gr (tt K) H H' ∧ M.hookAns ms cl = M.hookAns ms (cl.drop i) ∧ ∃ x y, σ = [some (.ref a), some (.ref m), x, y, none]) ⟨Gr.refl _, rfl, _, _, rfl⟩ (fun i σ H' _ h => h.1.sqT (SqT.of ha)) ?_ ?_
    · rintro i z σ H' hi ⟨g, eq, x, y, rfl⟩
      obtain ⟨cc, hc, p, q, rfl, h1, h2⟩ := prd_getL hp hi
      have hd := drop_at hc
      rw [hd] at eq
      refine ⟨p, _, rfl, SqT.of (g.tup h1), rfl, _, _, rfl, _, _, rfl, rfl, ?_⟩
      refine ⟨_, rfl, q, rfl, ⟨_, SqT.of (g.tup h2)⟩, fun D hD => ?_⟩
      refine lcTu (T := tt K) V.str cc.1 (SqT.of (g.tup h2)) (big (Nat.le_trans (hz cc (List.mem_of_getElem? hc)) (by decide))) (fun o => .bl (decide (o ∈ ms))) (fun _ => true) hD (fun o ho H2 g2 Kp Ks kp ks => ?_) (fun H2 g2 hl => ?_)
      · refine ⟨rfl, yesT ⟨_, rfl, _, rfl, m, sv ms, rfl, hm.mono (g.trans g2), rfl, flat_sv ms, ?_⟩⟩
        rw [inV_sv]
        exact kp rfl _ (Gr.refl _)
      · refine ⟨D, cc.1.map (fun o => decide (o ∈ ms)), rfl, SqL.of ?_, _, rfl, ?_⟩
        · rw [hl, filter_yes, List.map_map] <;> rfl
        · rw [List.all_map]
          show if (cc.1.all (fun o => decide (o ∈ ms))) = true then _ else _
          obtain ⟨w0, b0⟩ := cc
          by_cases hall : (w0.all (fun o => decide (o ∈ ms))) = true
          · rw [if_pos hall]
            refine ⟨_, rfl, ?_⟩
            have e : M.hookAns ms cl = some b0 := by
              rw [eq]
              simp only [M.hookAns, if_pos hall]
            rw [e] at k
            exact k _ (g.trans g2)
          · rw [if_neg hall]
            refine ⟨g.trans g2, ?_, _, _, rfl⟩
            rw [eq]
            simp only [M.hookAns, if_neg hall]
    · rintro σ H' ⟨g, eq, _⟩
      rw [eq, prd_len hp, List.drop_length] at k
      exact k _ g
def spAns (K : PySem.W.Frag) : Sp := fun vs H Q _ => ∃ (r : Addr) (es : List En) (n : Str) (m : Addr) (ms : List Str), vs = [.ref r, .str n, .ref m] ∧ RecAt K H r es ∧ Wf es ∧ n ∈ M.names es ∧ MsAt K H m ms ∧ Ans (tt K) H Q (optB (M.ans es n ms))
theorem hookFor_some {es : List En} {n : Str} {cl : List (List Str × Bool)} : ∀ {l : List Str}, M.hookFor es n l = some cl → ∃ o, M.hookOf es o = some cl
  | [], h => by cases h
  | o :: r, h => by
    unfold M.hookFor at h
    cases q : M.hookOf es o with
    | none =>
      rw [q] at h
      exact hookFor_some (l := r) h
    | some cl' =>
      rw [q] at h
      have h : (if o = n ∨ M.passedOf es o = true then some cl' else none) = some cl := h
      split at h
      · cases h
        exact ⟨o, q⟩
      · cases h
theorem sc_answer_by_hook : FnScope ["table", "name", "methods", "hook"] ["table", "name", "methods"] (defScope s_answer_by_hook) := ⟨rfl, rfl, rfl, by decide +kernel, rfl, by decide +kernel, by decide +kernel⟩
theorem ok_answer_by_hook (c : Tx K mg base) : Ok P w K mg base 2 (ga K "answer_by_hook") ["table", "name", "methods"] (spAns K) := by
  refine Ok.mk' (fd_answer_by_hook c) sc_answer_by_hook (fun _ _ _ _ _ _ us hl => match us, hl with | [_, _, _], _ => rfl) (fun vs H Q E h => ?_) (fun cdv A outer s H vs Q E hr h => ?_)
  · obtain ⟨r, es, n, m, ms, rfl, _⟩ := h
    rfl
  · obtain ⟨r, es, n, m, ms, rfl, hR, wf, hn, hm, k⟩ := h
    refine ⟨_, (pss_cons (ps_set (i := 3) sc_answer_by_hook.nd rfl (Or.inl rfl) (pe_ifExp (pt_val ((ok_is_sworn c).call hr (by decide) (g_is_sworn c) (pa_cons (pv 0) (pa_cons (pv 1) pa_nil)))) ((ok_hook_for c).call hr (by decide) (g_hook_for c) (pa_cons (pv 0) (pa_cons (pv 1) pa_nil))) pe_non)) (pss_one (ps_ret (pe_ifExp (pt_cmpR op_isN (pv 3) pe_non (nomark _)) pe_non ((ok_hook_answer c).call hr (by decide) (g_hook_answer c) (pa_cons (pv 3) (pa_cons (pv 2) pa_nil))))))), ?_⟩
    refine ⟨_, rfl, _, rfl, r, es, n, rfl, hR, wf, hn, fun H1 g1 => ⟨_, rfl, ?_⟩⟩
    cases q : M.sworn es n with
    | false =>
      refine iteF ⟨_, rfl, rfl, _, rfl, iteT ?_⟩
      unfold M.ans at k
      rw [q] at k
      exact k _ g1
    | true =>
      refine iteT ⟨_, rfl, _, rfl, r, es, n, rfl, hR.mono g1, wf, hn, fun v H2 g2 hv => ?_⟩
      have ek : M.ans es n ms = (M.hookFor es n (M.line es n)).bind (M.hookAns ms) := by
        unfold M.ans
        rw [if_pos q]
      rw [ek] at k
      refine ⟨_, rfl, rfl, _, rfl, ?_⟩
      cases q2 : M.hookFor es n (M.line es n) with
      | none =>
        rw [q2] at hv k
        have hv : v = .non := hv
        subst hv
        exact iteT (k _ (g1.trans g2))
      | some cl =>
        rw [q2] at hv k
        have hv' := hv
        obtain ⟨a, xs, rfl, _⟩ := hv
        refine iteF ⟨_, rfl, _, rfl, _, m, cl, ms, rfl, hv', hm.mono (g1.trans g2), ?_, fun H3 g3 => k _ ((g1.trans g2).trans g3)⟩
        obtain ⟨o, ho⟩ := hookFor_some q2
        exact (wf.hk o cl ho).2
def spTans (K : PySem.W.Frag) : Sp := fun vs H Q _ => ∃ (t : Addr) (T : Tb Str) (n : Str) (m : Addr) (ms : List Str), vs = [.ref t, .str n, .ref m] ∧ TabAt K H t T ∧ Wf T.es ∧ n ∈ M.names T.es ∧ MsAt K H m ms ∧ Ans (tt K) H Q (optB (M.ans T.es n ms))
theorem sc_Table_answer_for : FnScope ["self", "name", "methods"] ["self", "name", "methods"] (defScope s_Table_answer_for) := ⟨rfl, rfl, rfl, by decide +kernel, rfl, by decide +kernel, by decide +kernel⟩
theorem ok_Table_answer_for (c : Tx K mg base) : Ok P w K mg base 3 (ma K (ga K "Table") "answer_for") ["self", "name", "methods"] (spTans K) := by
  refine Ok.mk' (fd_Table_answer_for c) sc_Table_answer_for (fun _ _ _ _ _ _ us hl => match us, hl with | [_, _, _], _ => rfl) (fun vs H Q E h => ?_) (fun cdv A outer s H vs Q E hr h => ?_)
  · obtain ⟨t, T, n, m, ms, rfl, _⟩ := h
    rfl
  · obtain ⟨t, T, n, m, ms, rfl, ⟨dx, r, nu, l, mm, kn, h1, h2, h3, h4⟩, wf, hn, hm, k⟩ := h
    refine ⟨_, (pss_one (ps_ret ((ok_answer_by_hook c).call hr (by decide) (g_answer_by_hook c) (pa_cons (fldK K rfl (pv 0) rfl) (pa_cons (pv 1) (pa_cons (pv 2) pa_nil)))))), ?_⟩
    exact ⟨_, rfl, t, _, dx, _, _, rfl, h1, cl_Table c, na_Table_records c, rfl, _, rfl, _, rfl, r, T.es, n, m, ms, rfl, h2, wf, hn, hm, k⟩
/-- declines(table, name, methods) -/
def spDecl (K : PySem.W.Frag) : Sp := fun vs H Q _ => ∃ (t : Addr) (T : Tb Str) (n : Str) (m : Addr) (ms : List Str), vs = [.ref t, .str n, .ref m] ∧ TabAt K H t T ∧ Wf T.es ∧ n ∈ M.names T.es ∧ MsAt K H m ms ∧ Ans (tt K) H Q (.bl (M.declines T.es n ms))
theorem sc_declines : FnScope ["table", "name", "methods"] ["table", "name", "methods"] (defScope s_declines) := ⟨rfl, rfl, rfl, by decide +kernel, rfl, by decide +kernel, by decide +kernel⟩
theorem ok_declines (c : Tx K mg base) : Ok P w K mg base 4 (ga K "declines") ["table", "name", "methods"] (spDecl K) := by
  refine Ok.mk' (fd_declines c) sc_declines (fun _ _ _ _ _ _ us hl => match us, hl with | [_, _, _], _ => rfl) (fun vs H Q E h => ?_) (fun cdv A outer s H vs Q E hr h => ?_)
  · obtain ⟨t, T, n, m, ms, rfl, _⟩ := h
    rfl
  · obtain ⟨t, T, n, m, ms, rfl, hT, wf, hn, hm, k⟩ := h
    refine ⟨_, (pss_one (ps_ret (pe_and ((ok_Table_sworn c).meth hr (by decide) (cl_Table c) (me_Table_sworn c) (pv 0) (pa_cons (pv 1) pa_nil)) (pe_one (pe_cmpR op_isN ((ok_Table_answer_for c).meth hr (by decide) (cl_Table c) (me_Table_answer_for c) (pv 0) (pa_cons (pv 1) (pa_cons (pv 2) pa_nil))) pe_non (nomark _)))))), ?_⟩
    have hT' := hT
    obtain ⟨dx, r, nu, l, mm, kn, h1, h2, h3, h4⟩ := hT'
    refine ⟨_, rfl, t, dx, _, rfl, h1, rfl, _, rfl, t, T, n, rfl, hT, wf, hn, fun H1 g1 => ⟨_, rfl, ?_⟩⟩
    unfold M.declines at k
    cases q : M.sworn T.es n with
    | false =>
      rw [q] at k
      exact iteF (k _ g1)
    | true =>
      rw [q, Bool.true_and] at k
      refine iteT ⟨_, rfl, t, dx, _, rfl, g1.ins h1, rfl, _, rfl, _, rfl, t, T, n, m, ms, rfl, hT.mono g1, wf, hn, hm.mono g1, fun H2 g2 => ?_⟩
      refine ⟨rfl, ?_⟩
      cases q2 : M.ans T.es n ms with
      | none =>
        rw [q2] at k
        exact k _ (g1.trans g2)
      | some b =>
        rw [q2] at k
        exact k _ (g1.trans g2)
/-- whether a class is above another one -/
def spAbove (K : PySem.W.Frag) : Sp := fun vs H Q _ => ∃ (t : Addr) (T : Tb Str) (n o : Str), vs = [.ref t, .str n, .str o] ∧ TabAt K H t T ∧ o ∈ M.names T.es ∧ Ans (tt K) H Q (.bl (decide (n ∈ M.line T.es o)))
theorem sc_Table_is_above : FnScope ["self", "name", "other"] ["self", "name", "other"] (defScope s_Table_is_above) := ⟨rfl, rfl, rfl, by decide +kernel, rfl, by decide +kernel, by decide +kernel⟩
theorem ok_Table_is_above (c : Tx K mg base) : Ok P w K mg base 1 (ma K (ga K "Table") "is_above") ["self", "name", "other"] (spAbove K) := by
  refine Ok.mk' (fd_Table_is_above c) sc_Table_is_above (fun _ _ _ _ _ _ us hl => match us, hl with | [_, _, _], _ => rfl) (fun vs H Q E h => ?_) (fun cdv A outer s H vs Q E hr h => ?_)
  · obtain ⟨t, T, n, o, rfl, _⟩ := h
    rfl
  · obtain ⟨t, T, n, o, rfl, ⟨dx, r, nu, l, mm, kn, h1, h2, h3, h4⟩, ho, k⟩ := h
    refine ⟨_, (pss_one (ps_ret (pe_cmpR (inK K rfl) (pv 1) (fldK K rfl (pe_dget (hu_of hr) (fldK K rfl (pv 0) rfl) (pv 2) (fun _ _ => rfl)) rfl) rfl))), ?_⟩
    obtain ⟨e, E, h1', ⟨dx', pa', ma', li', hv', h2', _, _, _, h6'⟩, h7', _⟩ := h2.get ho
    refine ⟨_, rfl, _, rfl, t, _, dx, _, _, rfl, h1, cl_Table c, na_Table_records c, rfl, _, rfl, r, _, rfl, h1', e, _, dx', _, _, rfl, h2', cl_Entry c, na_Entry_line c, rfl, li', _, rfl, .inl (SqL.of h6'), rfl, flat_sv _, ?_⟩
    rw [inV_sv, ← line_find h7']
    exact k _ (Gr.refl _)
end
end SW


set_option maxHeartbeats 2000000
namespace SW
open PySem PySem.Spec PyProof.Rows L2 He LamX NdefX
open SW.M (Ent Tb)
/-! ## a dict while it is walked -/
section
variable {T : Tbs} {H H1 H' : Hp} {d p a : Addr} {o u : HO} {ob : Obj}
theorem gr_at (g : Gr T H H') (h : H a = some o) (n : NoTbl o) : H' a = some o := g.1 _ _ h n
theorem lock_ne (hd : H d = some u) (h : H a = some o) (ne : o ≠ u) : upd H d (.frz ob u) a = some o := by
  rw [upd_ne]
  · exact h
  · intro z
    rw [z, hd] at h
    exact ne (Option.some.inj h).symm
theorem tabs_lock {o' : HO} (t : Tabs T H) (h : H d = some u) (n1 : NoTbl u) (n2 : ∀ c q, u ≠ CodeO c q) : Tabs T (upd H d o') := fun q hq => by
  obtain ⟨ps, h1, h2, h3⟩ := t q hq
  refine ⟨ps, ?_, h2, fun pos cv hc => ?_⟩
  · rw [upd_ne]
    · exact h1
    · intro z
      rw [z, h] at h1
      exact n1 ps (Option.some.inj h1)
  · obtain ⟨c, e1, e2⟩ := h3 pos cv hc
    refine ⟨c, e1, ?_⟩
    rw [upd_ne]
    · exact e2
    · intro z
      rw [z, h] at e2
      exact n2 _ _ (Option.some.inj e2)
theorem frz_code {c q} : HO.frz ob u ≠ CodeO c q := fun z => by
  unfold CodeO at z
  cases z
/-- behind the walk -/
theorem Gr.unlock (hd : H d = some u) (n1 : NoTbl u) (n2 : ∀ c q, u ≠ CodeO c q) (g : Gr T (upd H d (.frz ob u)) H') : Gr T H (upd H' d u) := by
  have hl : H' d = some (.frz ob u) := g.1 _ _ upd_same nt_frz
  refine ⟨fun b v e n => ?_, fun t => tabs_lock (g.2 (tabs_lock t hd n1 n2)) hl nt_frz fun _ _ => frz_code⟩
  by_cases hb : b = d
  · subst hb
    rw [hd] at e
    cases e
    exact upd_same
  · rw [upd_ne hb]
    exact g.1 _ _ (by rw [upd_ne hb]; exact e) n
end
theorem keys_eq {R : Key × V → En → Prop} (hk : ∀ p E, R p E → p.1 = .inr E.label) {kr : List (Key × V)} {es : List En} (h : Paired R kr es) : kr.map (fun p => kV p.1) = sv (M.names es) := by
  unfold sv M.names
  rw [List.map_map]
  exact prd_map _ _ h fun p E r => by rw [hk p E r] <;> rfl
theorem keys_at {R : Key × V → En → Prop} (hk : ∀ p E, R p E → p.1 = .inr E.label) {kr : List (Key × V)} {es : List En} (h : Paired R kr es) {i : Nat} {n : Str} {k : Key} {v : V} (e : (M.names es)[i]? = some n) (e2 : kr[i]? = some (k, v)) : k = .inr n := by
  obtain ⟨E, h1, h2⟩ := prd_getL h e2
  unfold M.names at e
  rw [List.getElem?_map, h1] at e
  cases e
  exact hk _ _ h2
/-! ## dict comprehensions -/
theorem dc_it {J : It} {n : Nat} {G : Hp → Prop} {Y : Nat → Hp → V → Hp → Prop} (w : Walk J n G Y) {g : TG} {tc : TT} {tk tv : TE} {vs : List Nat} {σ : L2.St} {H1 : Hp} {D : Addr} {Qd : Hp → Prop} (Pv : Nat → Hp → Prop) (h0 : Pv 0 (upd H1 D (.dK []))) (hG : ∀ i H, i ≤ n → Pv i H → G H)
    (hs : ∀ i x H H', i < n → Pv i H → Y i H x H' → g x (wipe σ vs) H' fun σ2 H2 => wipe σ2 vs = wipe σ vs ∧ tc σ2 H2 fun b H3 =>
      if b = true then tk σ2 H3 fun y H4 => tv σ2 H4 fun z H5 => ∃ kvs k, y = kV k ∧ H5 D = some (.dK kvs) ∧ kvs.length < sizeLine ∧ Pv (i + 1) (upd H5 D (.dK (putK kvs k z))) else Pv (i + 1) H3) (hd : ∀ H, Pv n H → Qd H) :
    ∃ W : Nat → Nat → Hp → Prop, (∃ m, W 0 m (upd H1 D (.dK []))) ∧ ∀ i m H, W i m H →
      (J.stop i H ∧ Qd H) ∨ (J.go i H ∧ ∃ Nx : Hp → Prop, (∀ H', Nx H' → ∃ m', m' < m ∧ W (i + 1) m' H') ∧ ∀ x H', J.yld i H x H' → g x (wipe σ vs) H' fun σ2 H2 => wipe σ2 vs = wipe σ vs ∧ tc σ2 H2 fun b H3 =>
        if b = true then tk σ2 H3 fun y H4 => tv σ2 H4 fun z H5 => ∃ kvs k, y = kV k ∧ H5 D = some (.dK kvs) ∧ kvs.length < sizeLine ∧ Nx (upd H5 D (.dK (putK kvs k z))) else Nx H3) := by
  refine ⟨fun i m H => m = n - i ∧ i ≤ n ∧ Pv i H, ⟨n, by simp, Nat.zero_le _, h0⟩, ?_⟩
  rintro i m H ⟨rfl, hi, p⟩
  have q := hG i H hi p
  by_cases hlt : i < n
  · exact .inr ⟨w.goes i H hlt q, Pv (i + 1), fun H' p' => ⟨n - (i + 1), by omega, rfl, hlt, p'⟩, fun x H' y => hs i x H H' hlt p (w.yields i H x H' hlt q y)⟩
  · have e : i = n := by omega
    subst e
    exact .inl ⟨w.stops H q, hd H p⟩
theorem Gr.mutK {T : Tbs} {H H' : Hp} {p : Addr} {ys zs : List (Key × V)} (g : Gr T H H') (hp : ∀ v, H p = some v → ¬ NoTbl v) (ho : H' p = some (.dK ys)) : Gr T H (upd H' p (.dK zs)) := g.mut hp ho nt_dK fun _ _ => code_dK
/-- a dict that tells who is in it -/
def HeldAt (H : Hp) (d : Addr) (L : List Str) : Prop := ∃ kvs, H d = some (.dK kvs) ∧ ∀ s, (valV kvs (.inr s)).isSome = decide (s ∈ L)
theorem HeldAt.mono {T : Tbs} {H H' : Hp} {d : Addr} {L : List Str} (g : Gr T H H') (h : HeldAt H d L) : HeldAt H' d L :=
  let ⟨kvs, h1, h2⟩ := h
  ⟨kvs, g.dK h1, h2⟩
theorem paStar {X : Cx} (K : PySem.W.Frag) (hK : X.K = K) {e : Expr} {es : List Expr} {p : Pos} {te : TE} {t : TA} (he : PE X e te) (hr : PA X es t) : PA X (.Starred e p :: es) (StX.tStar K te t) := by
  subst hK
  exact StX.pa_star he hr
section
variable {P : Program} {w : World} {K : PySem.W.Frag} {mg : Str → Option Value} {base : Heap}
def spSubcl (K : PySem.W.Frag) : Sp := fun vs H Q _ => ∃ (r : Addr) (es : List En) (n : Str), vs = [.ref r, .str n] ∧ RecAt K H r es ∧ Wf es ∧ AnsN (tt K) H Q (.lst (sv (M.below es n)))
theorem sc_subclasses : FnScope ["table", "name", "one"] ["table", "name"] (defScope s_subclasses) := ⟨rfl, rfl, rfl, by decide +kernel, rfl, by decide +kernel, by decide +kernel⟩
theorem ok_subclasses (c : Tx K mg base) : Ok P w K mg base 1 (ga K "subclasses") ["table", "name"] (spSubcl K) := by
  refine Ok.mk' (fd_subclasses c) sc_subclasses (fun _ _ _ _ _ _ us hl => match us, hl with | [_, _], _ => rfl) (fun vs H Q E h => ?_) (fun cdv A outer s H vs Q E hr h => ?_)
  · obtain ⟨r, es, n, rfl, _⟩ := h
    rfl
  · obtain ⟨r, es, n, rfl, hR, wf, k⟩ := h
    refine ⟨_, (pss_one (ps_ret (pe_lock (pe_lc (own := [("one", 2)]) (g := (gName 2)) rfl sc_subclasses.nd (pi_keys (pv 0)) (blkOk_by (N := ["table", "name", "one"]) (sc := defScope s_subclasses) (by decide +kernel)) (fun _ _ _ _ _ => (pg_name (i := 2) sc_subclasses.nd rfl (by first | exact Or.inl rfl | exact Or.inr rfl))) (fun _ _ _ _ _ => by exact (pts_one (pt_cmpR (inK K rfl) (pv 1) (fldK K rfl (pe_dget (hu_of hr) (pv 0) (pv 2) (fun _ _ => rfl)) rfl) rfl))) (fun _ _ _ _ _ => by exact (pv 2)))))), ?_⟩
    obtain ⟨kr, hr0, hp⟩ := hR
    refine ⟨r, _, hr0, trivial, fun od => ?_⟩
    have hlk : upd H r (.frz od (.dK kr)) r = some (.frz od (.dK kr)) := upd_same
    refine ⟨_, rfl, r, od, rfl, .inl ⟨kr, upd_same, fun D hD => ?_⟩⟩
    refine lcF (T := tt K) (walk_keys (d := r) (o := od) (kvs := kr)) (M.names es) (by rw [prd_len hp]; simp [M.names]) (big (Nat.le_trans wf.few (by decide))) V.str (fun o => decide (n ∈ M.parents es o)) hD (fun H' g => gr_at g hlk nt_frz) (fun i o x H' H'' ho g y Kp Ks kp ks => ?_) (fun H' g hl => ?_)
    · obtain ⟨rfl, kk, vv, hk1, rfl⟩ := y
      have ek := keys_at (fun _ _ r => r.1) hp ho hk1
      subst ek
      have hn : o ∈ M.names es := List.mem_of_getElem? ho
      obtain ⟨e, E, h1, ⟨dx, pa, ma, li, hv, h2, h3, _⟩, h7, _⟩ := RecAt.get (K := K) (H := H) (r := r) (es := es) ⟨kr, hr0, hp⟩ hn
      obtain ⟨p, E', q1, ⟨_, e', q2, q3⟩, q4, _⟩ := val_of (fun _ _ r => r.1) hp hn
      have hget : DGet H'' r (.str o) (some (.ref e')) := .inl ⟨kr, .inr o, .inr ⟨od, gr_at g hlk nt_frz⟩, rfl, by rw [q1, q2]⟩
      obtain ⟨dx, pa, ma, li, hv, h2, h3, _⟩ := q3
      have g2 := gr_at g (lock_ne (ob := od) hr0 h2 (fun z => by cases z)) nt_ins
      have g3 := gr_at g (lock_ne (ob := od) hr0 h3 (fun z => by cases z)) nt_tup
      refine ⟨rfl, _, rfl, _, rfl, _, rfl, r, _, rfl, hget, e', _, dx, _, _, rfl, g2, cl_Entry c, na_Entry_parents c, rfl, pa, sv E'.parents, rfl, .inr (SqT.of g3), rfl, flat_sv _, _, rfl, ?_⟩
      rw [inV_sv, ← par_find q4]
      show if decide (n ∈ M.parents es o) = true then _ else _
      cases hc : decide (n ∈ M.parents es o) with
      | true => exact iteT ⟨_, rfl, kp hc _ (Gr.refl _)⟩
      | false => exact iteF (ks hc _ (Gr.refl _))
    · refine ⟨gr_at g hlk nt_frz, ?_⟩
      have nDr : D ≠ r := fun z => by
        rw [z, hlk] at hD
        cases hD
      refine k _ D (g.unlock hr0 nt_dK fun _ _ => code_dK) ?_
      rw [upd_ne nDr, hl] <;> rfl
def spBelow (K : PySem.W.Frag) : Sp := fun vs H Q _ => ∃ (t : Addr) (T : Tb Str) (n : Str), vs = [.ref t, .str n] ∧ TabAt K H t T ∧ Wf T.es ∧ AnsN (tt K) H Q (.lst (sv (M.below T.es n)))
theorem sc_Table_below : FnScope ["self", "name"] ["self", "name"] (defScope s_Table_below) := ⟨rfl, rfl, rfl, by decide +kernel, rfl, by decide +kernel, by decide +kernel⟩
theorem ok_Table_below (c : Tx K mg base) : Ok P w K mg base 2 (ma K (ga K "Table") "below") ["self", "name"] (spBelow K) := by
  refine Ok.mk' (fd_Table_below c) sc_Table_below (fun _ _ _ _ _ _ us hl => match us, hl with | [_, _], _ => rfl) (fun vs H Q E h => ?_) (fun cdv A outer s H vs Q E hr h => ?_)
  · obtain ⟨t, T, n, rfl, _⟩ := h
    rfl
  · obtain ⟨t, T, n, rfl, ⟨dx, r, nu, l, m, kn, h1, h2, h3, h4⟩, wf, k⟩ := h
    refine ⟨_, (pss_one (ps_ret ((ok_subclasses c).call hr (by decide) (g_subclasses c) (pa_cons (fldK K rfl (pv 0) rfl) (pa_cons (pv 1) pa_nil))))), ?_⟩
    exact ⟨_, rfl, t, _, dx, _, _, rfl, h1, cl_Table c, na_Table_records c, rfl, _, rfl, r, T.es, n, rfl, h2, wf, k⟩
/-- what is registered is there, and few -/
structure WfT (T : Tb Str) : Prop extends Wf T.es where
  reg : ∀ n o, o ∈ T.rg n → o ∈ M.names T.es
  regs : ∀ n, (T.rg n).length ≤ 12
theorem below_mem {es : List En} {n o : Str} (h : o ∈ M.below es n) : o ∈ M.names es := (List.mem_filter.mp h).1
theorem WfT.next {T : Tb Str} (wf : WfT T) {n o : Str} (h : o ∈ M.next T n) : o ∈ M.names T.es := by
  obtain ⟨_, h⟩ := M.mem_next.mp h
  rcases h with h | h
  · exact wf.reg _ _ h
  · exact below_mem h
theorem WfT.belowLen {T : Tb Str} (wf : WfT T) (n : Str) : (M.below T.es n).length ≤ 12 := Nat.le_trans (List.length_filter_le _ _) wf.few
theorem WfT.nextLen {T : Tb Str} (wf : WfT T) (n : Str) : (M.next T n).length ≤ 24 := by
  unfold M.next
  split
  · rw [List.length_append]
    have h1 := wf.regs n
    have h2 := wf.belowLen n
    have h3 := List.length_filter_le (fun o => !decide (o ∈ T.rg n)) (M.below T.es n)
    omega
  · exact Nat.zero_le _
def spNext (K : PySem.W.Frag) : Sp := fun vs H Q _ => ∃ (t : Addr) (T : Tb Str) (n : Str), vs = [.ref t, .str n] ∧ TabAt K H t T ∧ WfT T ∧ n ∈ M.names T.es ∧ AnsN (tt K) H Q (.lst (sv (M.next T n)))
theorem sc_Table_next_of : FnScope ["self", "name", "listed", "other"] ["self", "name"] (defScope s_Table_next_of) := ⟨rfl, rfl, rfl, by decide +kernel, rfl, by decide +kernel, by decide +kernel⟩
theorem ok_Table_next_of (c : Tx K mg base) : Ok P w K mg base 3 (ma K (ga K "Table") "next_of") ["self", "name"] (spNext K) := by
  refine Ok.mk' (fd_Table_next_of c) sc_Table_next_of (fun _ _ _ _ _ _ us hl => match us, hl with | [_, _], _ => rfl) (fun vs H Q E h => ?_) (fun cdv A outer s H vs Q E hr h => ?_)
  · obtain ⟨t, T, n, rfl, _⟩ := h
    rfl
  · obtain ⟨t, T, n, rfl, hT, wf, hn, k⟩ := h
    refine ⟨_, (pss_cons (ps_if (pt_not (pt_val ((ok_Table_sworn c).meth hr (by decide) (cl_Table c) (me_Table_sworn c) (pv 0) (pa_cons (pv 1) pa_nil)))) (pss_one (ps_ret (pe_lst pa_nil))) pss_nil) (pss_cons (ps_set (i := 2) sc_Table_next_of.nd rfl (Or.inr rfl) (pe_dget (hu_of hr) (fldK K rfl (pv 0) rfl) (pv 1) (fun _ _ => rfl))) (pss_one (ps_ret (pe_op op_cat (pv 2) (pe_lc (own := [("other", 3)]) (g := (gName 3)) rfl sc_Table_next_of.nd (piL K rfl ((ok_Table_below c).meth hr (by decide) (cl_Table c) (me_Table_below c) (pv 0) (pa_cons (pv 1) pa_nil))) (blkOk_by (N := ["self", "name", "listed", "other"]) (sc := defScope s_Table_next_of) (by decide +kernel)) (fun _ _ _ _ _ => (pg_name (i := 3) sc_Table_next_of.nd rfl (by first | exact Or.inl rfl | exact Or.inr rfl))) (fun _ _ _ _ _ => by exact (pts_one (pt_cmpR (ninK K rfl) (pv 3) (pv 2) rfl))) (fun _ _ _ _ _ => by exact (pv 3)))))))), ?_⟩
    have hT' := hT
    obtain ⟨dx, r, nu, l, m, kn, h1, h2, h3, h4⟩ := hT'
    refine ⟨_, rfl, t, dx, _, rfl, h1, rfl, _, rfl, t, T, n, rfl, hT, wf.toWf, hn, fun H1 g1 => ⟨_, rfl, ?_⟩⟩
    cases q : M.sworn T.es n with
    | false =>
      have e : M.next T n = [] := by
        unfold M.next
        rw [if_neg (by rw [q]; decide)]
      rw [e] at k
      exact iteT ⟨Nat.zero_le _, fun p hp => k _ p (g1.trans (Gr.new hp)) upd_same⟩
    | true =>
      refine iteF ?_
      obtain ⟨la, hg, hla⟩ := (h4.mono g1).get hn
      refine ⟨_, rfl, t, _, dx, _, _, rfl, g1.ins h1, cl_Table c, na_Table_lists c, rfl, _, rfl, l, _, rfl, hg, ?_⟩
      refine ⟨_, rfl, _, rfl, t, dx, _, rfl, g1.ins h1, rfl, _, rfl, t, T, n, rfl, hT.mono g1, wf.toWf, fun H2 p g2 hp => ?_⟩
      refine ⟨p, rfl, ⟨_, SqL.of hp⟩, fun D hD => ?_⟩
      refine lcL (T := tt K) V.str (M.below T.es n) (SqL.of hp) (big (Nat.le_trans (wf.belowLen n) (by decide))) V.str (fun o => !decide (o ∈ T.rg n)) hD (fun o ho H' g Kp Ks kp ks => ?_) (fun H' g hl => ?_)
      · refine ⟨rfl, _, rfl, _, rfl, la, sv (T.rg n), rfl, .inl (SqL.of ((g2.trans g).lst hla)), rfl, flat_sv _, _, rfl, ?_⟩
        rw [inV_sv]
        show if (!decide (o ∈ T.rg n)) = true then _ else _
        cases hc : !decide (o ∈ T.rg n) with
        | true => exact iteT ⟨_, rfl, kp hc _ (Gr.refl _)⟩
        | false => exact iteF (ks hc _ (Gr.refl _))
      · refine ⟨la, D, _, _, rfl, rfl, (g2.trans g).lst hla, hl, ?_, fun p2 hp2 => ?_⟩
        · rw [sv_len, List.length_map]
          have h1 := wf.regs n
          have h2 := List.length_filter_le (fun o => !decide (o ∈ T.rg n)) (M.below T.es n)
          have h3 := wf.belowLen n
          exact Nat.le_trans (show _ ≤ 1000 by omega) (by decide)
        · refine k _ p2 (((g1.trans g2).trans g).trans (Gr.new hp2)) ?_
          rw [upd_same]
          unfold M.next
          rw [if_pos q]
          unfold sv
          rw [List.map_append]
/-- the held ones among the next -/
def spNextIn (K : PySem.W.Frag) : Sp := fun vs H Q _ => ∃ (t : Addr) (T : Tb Str) (d : Addr) (L : List Str) (n : Str), vs = [.ref t, .ref d, .str n] ∧ TabAt K H t T ∧ WfT T ∧ n ∈ M.names T.es ∧ HeldAt H d L ∧ AnsN (tt K) H Q (.lst (sv ((M.next T n).filter (fun o => decide (o ∈ L)))))
theorem sc_next_in : FnScope ["table", "held", "name", "other"] ["table", "held", "name"] (defScope s_next_in) := ⟨rfl, rfl, rfl, by decide +kernel, rfl, by decide +kernel, by decide +kernel⟩
theorem ok_next_in (c : Tx K mg base) : Ok P w K mg base 4 (ga K "next_in") ["table", "held", "name"] (spNextIn K) := by
  refine Ok.mk' (fd_next_in c) sc_next_in (fun _ _ _ _ _ _ us hl => match us, hl with | [_, _, _], _ => rfl) (fun vs H Q E h => ?_) (fun cdv A outer s H vs Q E hr h => ?_)
  · obtain ⟨t, T, d, L, n, rfl, _⟩ := h
    rfl
  · obtain ⟨t, T, d, L, n, rfl, hT, wf, hn, hL, k⟩ := h
    refine ⟨_, (pss_one (ps_ret (pe_lc (own := [("other", 3)]) (g := (gName 3)) rfl sc_next_in.nd (piL K rfl ((ok_Table_next_of c).meth hr (by decide) (cl_Table c) (me_Table_next_of c) (pv 0) (pa_cons (pv 2) pa_nil))) (blkOk_by (N := ["table", "held", "name", "other"]) (sc := defScope s_next_in) (by decide +kernel)) (fun _ _ _ _ _ => (pg_name (i := 3) sc_next_in.nd rfl (by first | exact Or.inl rfl | exact Or.inr rfl))) (fun _ _ _ _ _ => by exact (pts_one (pt_cmp (pc_din (hu_of hr) (pv 3) (pv 1))))) (fun _ _ _ _ _ => by exact (pv 3))))), ?_⟩
    have hT' := hT
    obtain ⟨dx, r, nu, l, m, kn, h1, h2, h3, h4⟩ := hT'
    refine ⟨_, rfl, t, dx, _, rfl, h1, rfl, _, rfl, t, T, n, rfl, hT, wf, hn, fun H2 p g2 hp => ?_⟩
    refine ⟨p, rfl, ⟨_, SqL.of hp⟩, fun D hD => ?_⟩
    refine lcL (T := tt K) V.str (M.next T n) (SqL.of hp) (big (Nat.le_trans (wf.nextLen n) (by decide))) V.str (fun o => decide (o ∈ L)) hD (fun o ho H' g Kp Ks kp ks => ?_) (fun H' g hl => ?_)
    · obtain ⟨kvs, hd, hv⟩ := hL
      refine ⟨rfl, _, rfl, _, rfl, d, _, rfl, DGet.k (k := .inr o) ((g2.trans g).dK hd), _, rfl, ?_⟩
      rw [hv o]
      cases hc : decide (o ∈ L) with
      | true => exact iteT ⟨_, rfl, kp hc _ (Gr.refl _)⟩
      | false => exact iteF (ks hc _ (Gr.refl _))
    · exact k _ D (g2.trans g) hl
/-- the classes above one of two -/
def spHeld (K : PySem.W.Frag) : Sp := fun vs H Q _ => ∃ (t : Addr) (T : Tb Str) (a b : Str), vs = [.ref t, .str a, .str b] ∧ TabAt K H t T ∧ Wf T.es ∧ a ∈ M.names T.es ∧ b ∈ M.names T.es ∧ ∀ H' d, Gr (tt K) H H' → HeldAt H' d (M.heldL T.es a b) → Q (.ref d) H'
theorem sc_held_by : FnScope ["table", "cls", "other", "name"] ["table", "cls", "other"] (defScope s_held_by) := ⟨rfl, rfl, rfl, by decide +kernel, rfl, by decide +kernel, by decide +kernel⟩
theorem ok_held_by (c : Tx K mg base) : Ok P w K mg base 1 (ga K "held_by") ["table", "cls", "other"] (spHeld K) := by
  refine Ok.mk' (fd_held_by c) sc_held_by (fun _ _ _ _ _ _ us hl => match us, hl with | [_, _, _], _ => rfl) (fun vs H Q E h => ?_) (fun cdv A outer s H vs Q E hr h => ?_)
  · obtain ⟨t, T, a, b, rfl, _⟩ := h
    rfl
  · obtain ⟨t, T, a, b, rfl, ⟨dx, r, nu, l, m, kn, h1, h2, h3, h4⟩, wf, ha, hb, k⟩ := h
    refine ⟨_, (pss_one (ps_ret (pe_dc (own := [("name", 3)]) (g := gName 3) (tt := tYes) rfl sc_held_by.nd (piL K rfl (pe_lst (paStar K rfl (fldK K rfl (pe_dget (hu_of hr) (fldK K rfl (pv 0) rfl) (pv 1) (fun _ _ => rfl)) rfl) (paStar K rfl (fldK K rfl (pe_dget (hu_of hr) (fldK K rfl (pv 0) rfl) (pv 2) (fun _ _ => rfl)) rfl) pa_nil)))) (blkOk_by (N := ["table", "cls", "other", "name"]) (sc := defScope s_held_by) (by decide +kernel)) (fun _ _ _ _ _ => (pg_name (i := 3) sc_held_by.nd rfl (by first | exact Or.inl rfl | exact Or.inr rfl))) (fun _ _ _ _ _ => pts_nil) (fun _ _ _ _ _ => by exact (pv 3)) (fun _ _ _ _ _ => by exact pe_bl)))), ?_⟩
    obtain ⟨e, E, h1', ⟨dx', pa', ma', li', hv', h2', _, _, _, h6'⟩, h7', _⟩ := h2.get ha
    obtain ⟨e2, E2, h1'', ⟨dx'', pa'', ma'', li'', hv'', h2'', _, _, _, h6''⟩, h7'', _⟩ := h2.get hb
    refine ⟨_, rfl, t, _, dx, _, _, rfl, h1, cl_Table c, na_Table_records c, rfl, _, rfl, r, _, rfl, h1', e, _, dx', _, _, rfl, h2', cl_Entry c, na_Entry_line c, rfl, li', _, rfl, .inr (SqL.of h6'), ?_⟩
    refine ⟨_, rfl, t, _, dx, _, _, rfl, h1, cl_Table c, na_Table_records c, rfl, _, rfl, r, _, rfl, h1'', e2, _, dx'', _, _, rfl, h2'', cl_Entry c, na_Entry_line c, rfl, li'', _, rfl, .inr (SqL.of h6''), ?_⟩
    have e0 : sv E.line ++ (sv E2.line ++ []) = sv (M.heldL T.es a b) := by
      unfold M.heldL sv
      rw [line_find h7', line_find h7'', List.append_nil, List.map_append]
    dsimp only [tNil]
    rw [e0]
    have hlen : (M.heldL T.es a b).length ≤ 24 := by
      unfold M.heldL
      rw [List.length_append]
      have q1 := wf.short a
      have q2 := wf.short b
      omega
    refine ⟨by rw [sv_len]; exact Nat.le_trans hlen (by decide), fun p hp => ⟨p, rfl, ⟨_, SqL.of upd_same⟩, fun D hD => ?_⟩⟩
    have gp : Gr (tt K) H (upd H p (.lst (sv (M.heldL T.es a b)))) := Gr.new hp
    refine dc_it (walk_list (K := K) (a := p) (xs := sv (M.heldL T.es a b))) (fun i H' => Gr (tt K) (upd H p (.lst (sv (M.heldL T.es a b)))) H' ∧ ∃ kvs, H' D = some (.dK kvs) ∧ kvs.length ≤ i ∧ ∀ s, (valV kvs (.inr s)).isSome = decide (s ∈ (M.heldL T.es a b).take i)) ⟨Gr.new hD, [], upd_same, Nat.le_refl _, fun s => by simp [valV]⟩ (fun i H' _ h => h.1.sqL (SqL.of upd_same)) (fun i x H' H'' hi h y => ?_) (fun H' h => ?_)
    · obtain ⟨rfl, hx⟩ := y
      obtain ⟨g, kvs, q1, q2, q3⟩ := h
      obtain ⟨o, ho, rfl⟩ := sv_at hx
      rw [sv_len] at hi
      refine ⟨rfl, yesP ?_⟩
      refine ⟨_, rfl, kvs, .inr o, rfl, q1, Nat.lt_of_le_of_lt (Nat.le_trans q2 (Nat.le_trans (Nat.le_of_lt hi) hlen)) (by decide), g.mutK (fresh_none hD) q1, _, upd_same, Nat.le_trans (length_putK _ _ _) (by omega), fun s => ?_⟩
      rw [valV_put, List.take_succ, ho]
      by_cases hs : s = o
      · subst hs
        simp
      · rw [if_neg (fun z => hs (inr_inj z)), q3 s]
        simp [hs]
    · obtain ⟨g, kvs, q1, q2, q3⟩ := h
      rw [sv_len, List.take_length] at q3
      exact k _ D (gp.trans g) ⟨kvs, q1, q3⟩
end
end SW


set_option maxHeartbeats 2000000
namespace SW
open PySem PySem.Spec PyProof.Rows L2 He LamX NdefX
/-! ## a lambda with parameters, handed to a def that calls it -/
/-- a lambda's words, without its expression -/
abbrev lamF (q : Str) (params : Arguments) (scope : Scope) (cl : List (Str × Addr)) (c : Addr) : NF := ⟨"<lambda>", q, params, [], scope, cl, c⟩
/-- the object at f is the lambda F with the expression e -/
def LamAt (h : Heap) (f : Addr) (F : NF) (e : Expr) : Prop := ∃ pm ctv, h.get? f = some (PySem.W.kla_obj "<lambda>" F.qual F.params e F.scope F.cl pm F.c ctv)
structure LOk (P : Program) (w : World) (K : PySem.W.Frag) (mg : Str → Option Value) (base : Heap) (k : Nat) (f : Addr) (F : NF) (e : Expr) (ps fr : List Str) (sp : List (Option V) → Sp) : Prop where
  run : ∀ (A : Around) (outer : List Env) (s : Shared) (H : Hp) (us : List Value) (vs : List V) (ws : List (Option V)) (Q : VK) (E : XK), Room k A → Env0 P w K mg base A outer s H → LamAt s.heap f F e → H F.c = some (CodeO F.c F.qual) →
    CellsAt F.cl fr ws s.heap H → Vals vs us → sp ws vs H Q E → codeAny (model P w) A (.call (.ref f) ⟨us, []⟩) (CR CX0 outer P w H s Q E) s
section
variable {P : Program} {w : World} {K : PySem.W.Frag} {mg : Str → Option Value} {base : Heap} {N ps fr : List Str} {F : NF} {f : Addr} {k j : Nat} {sp : List (Option V) → Sp} {e : Expr}
/-- a lambda by its expression -/
theorem lok_of (S : NScope N ps fr F.scope) (hb : ∀ (pm ctv : Value) (us : List Value), us.length = ps.length → bindArgs (PySem.W.kla_fn "<lambda>" F.qual F.params e F.scope F.cl pm (.ref F.c) ctv) ⟨us, []⟩ = pure (ps.zip us))
    (len : ∀ ws vs H Q E, sp ws vs H Q E → vs.length = ps.length)
    (hbody : ∀ (A : Around) (outer : List Env) (s : Shared) (H : Hp) (vs : List V) (ws : List (Option V)) (Q : VK) (E : XK), Room k (A.deeper (envF F f s.heap.objs.size)) → ws.length = fr.length → sp ws vs H Q E →
      ∃ t, PE (ncx CX0 P w K mg base N F f A outer s H E).nox e t ∧ t (startF N vs ws) H Q) : LOk P w K mg base (k + 1) f F e ps fr sp := by
  refine ⟨fun A outer s H us vs ws Q E hr e0 hf hc C r hsp => ?_⟩
  have hl := len _ _ _ _ _ hsp
  have lim : s.heap.NoLimit := e0.mod.nolimit.keeps fun b o e => (e0.bs b o e).1
  obtain ⟨pm, ctv, ho⟩ := hf
  refine PySem.W.kla_callFunE hr.depth ho rfl S.co S.gen rfl (codeO_at e0.hok hc) ?_
  rw [hb pm ctv us (by rw [← r.length]; exact hl)]
  refine wpAny_pure (wpAny_newFunctionEnv S.nocell (fun ⟨n, _⟩ hy => S.par n (List.of_mem_zip hy).1) (fun h₁ hns hsb => ⟨lim.fresh _ hsb, ?_⟩) S.kind)
  show codeAny _ _ (.expr e (envF F f s.heap.objs.size)) _ _
  have kp : ∀ b o, s.heap.get? b = some o → h₁.get? b = some o := fun b o q => hsb.extBut b o (Nat.ne_of_lt (Heap.lt_size q)) (Heap.get?_push_of_some _ q)
  obtain ⟨t, ht, hq⟩ := hbody A outer s H vs ws Q E (hr.deeper _) C.len hsp
  have I : Inv (ncx CX0 P w K mg base N F f A outer s H E) [] (startF N vs ws) H { s with heap := h₁, toks := s.toks + (ps.zip us).length } := inv_startN S hr.hd e0 hl r C hns kp
  refine PySem.W.kla_codeExpr (wpAny_mono (ht.nox.run [] _ (startF N vs ws) H Q I hq) (fun v s' hs => ?_) fun e s' hs => hs)
  obtain ⟨x, H', J, rv, q⟩ := hs
  exact ⟨x, H', J.os, J.bare, J.base, J.hok, rv, q⟩
end
/-! ### the def that calls it -/
/-- in the context Z a call of f keeps spf; f is a function through all of Z -/
structure Cal (Z : Cx) (f : Addr) (spf : V → Hp → VK → Prop) : Prop where
  fn : ∀ (pins : List (Addr × Obj)) (σ : L2.St) (H : Hp) (s : Shared), Inv Z pins σ H s → PySem.W.FnAt f s.heap
  run : ∀ (pins : List (Addr × Obj)) (σ : L2.St) (H : Hp) (s : Shared) (x : V) (u : Value) (Q : VK), Inv Z pins σ H s → RelV x u → spf x H Q → wpAny (model Z.prog Z.w) Z.A (call (.ref f) [u]) (EP Z pins σ Q) Z.xe s
/-- a(e), a the name that holds f -/
def tCal (i : Nat) (f : Addr) (spf : V → Hp → VK → Prop) (t : TA) : TE := fun σ H Q => σ[i]? = some (some (.ref f)) ∧ t σ H fun vs H1 => ∃ x, vs = [x] ∧ spf x H1 Q
theorem pe_cal {Z : Cx} {f : Addr} {spf : V → Hp → VK → Prop} (c : Cal Z f spf) {i : Nat} {a : Str} {e : Expr} {t : TA} {p pos : Pos} (ha : PA Z [e] t) (hN : Z.N[i]? = some a := by rfl) (hv : Vis Z.env.scope a := by first | exact Or.inl rfl | exact Or.inr (Or.inl rfl) | exact Or.inr (Or.inr rfl))
    (hd : (a == ("__debug__" : Str)) = false := by decide) (hcd : (a == ("__classdict__" : Str)) = false := by decide)
    (hs : starEach [e] Z.env = (false, eval e Z.env) :: starEach [] Z.env := by rfl) (hpl : (backTo pos (starEach [] Z.env)).any (·.1) = false := by rfl) :
    PE Z (.Call (.Name a p) [e] [] pos) (tCal i f spf t) := by
  refine ⟨fun pins s σ H Q I h => ?_⟩
  obtain ⟨h1, h2⟩ := h
  refine wpAny_Call_Name_kw (thn ((pe_var (pos := p) hN hv hd hcd).run pins s σ H (fun v H1 => v = .ref f ∧ H1 = H) I ⟨.ref f, h1, rfl, rfl⟩) fun u s1 ⟨v, H1, I1, r1, q1⟩ => ?_)
  obtain ⟨ev, eH⟩ := q1
  subst ev
  rw [eH] at I1
  obtain rfl : u = Value.ref f := r1
  refine PySem.W.callWith_F (first := []) (c.fn _ _ _ _ I1) (thn (ha.run pos pins s1 σ H _ I1 h2) fun us s2 ⟨vs, H2, I2, r, x, ev, q⟩ => ?_) hs hpl
  subst ev
  obtain ⟨u, rfl, ru⟩ := vals1 r
  exact ⟨c.fn _ _ _ _ I2, c.run _ _ _ _ x u _ I2 ru q⟩
section
variable {X : Cx} {pins : List (Addr × Obj)} {σ : L2.St} {H : Hp} {s : Shared}
/-- what the cells held at a frame's entry they hold still -/
theorem cells_later {cl : List (Str × Addr)} {fr : List Str} {ws : List (Option V)} (C : CellsAt cl fr ws X.s_0.heap X.H_0) (hx : X.ex = []) (I : Inv X pins σ H s) : CellsAt cl fr ws s.heap H := by
  have nx : ∀ c, c ∉ X.ex := fun c z => by
    rw [hx] at z
    cases z
  have kp : ∀ c, X.H_0 c = none → ∀ v, X.s_0.heap.IsCell c v → s.heap.IsCell c v := fun c n v ⟨o, ho, hd⟩ => by
    obtain ⟨sl, q⟩ := I.base.any ho n (nx c)
    exact ⟨_, q, hd⟩
  refine ⟨C.len, fun y c e => ?_, C.inj, fun i y e => ?_⟩
  · obtain ⟨n, v, z⟩ := C.all y c e
    refine ⟨?_, v, kp c n v z⟩
    obtain ⟨o, ho, _⟩ := z
    exact I.base.free c o ho n (nx c)
  · obtain ⟨c, hc, hv⟩ := C.has i y e
    refine ⟨c, hc, fun v ev => ?_⟩
    obtain ⟨u, r, z⟩ := hv v ev
    exact ⟨u, r, kp c (C.all y c hc).1 _ z⟩
end
/-- g(e, lambda ..: body): g's def is walked in its own context, where the lambda may be called -/
theorem run_given {X : Cx} {pins : List (Addr × Obj)} {σ : L2.St} {H : Hp} {s : Shared} {f g : Addr} {F : NF} {e : Expr} {pa : Str} {fr Ng pg : List Str} {js : List Nat} {sp : List (Option V) → Sp} {k : Nat} {x : Str} {params : Arguments} {bg : List Stmt} {sg : Scope} {dV kV doc pm cdv ct oc : Value} {an od : Option Addr} {osl : Array (Option Value)} {us : List Value} {vs : List V} {Q : VK}
    (I : Inv X pins σ H s) (hr : Room (k + 1) X.A) (L : LOk X.prog X.w X.K X.mg X.base k f F e [pa] fr sp) (hf : LamAt s.heap f F e) (hfn : H f = none) (hfr : f ∉ frs X.stack) (hc : H F.c = some (CodeO F.c F.qual)) (cp : Caps X F.cl fr js)
    (lk : X.K.lookup g = some ⟨oc, od, .func (PySem.W.fnOf x x params bg sg dV kV doc pm an cdv ct), osl⟩) (hcg : PySem.W.codeIn X.K cdv x = true) (Sg : FnScope Ng pg sg) (hb : L2.Binds X.K (PySem.W.fnOf x x params bg sg dV kV doc pm an cdv ct) pg []) (r : Vals vs us) (hl : vs.length = pg.length)
    (hbody : Room k (X.A.deeper (envOfC x sg s.heap.objs.size g cdv)) → Cal (cxOf CX0 X.prog X.w X.K X.mg X.base Ng x sg g cdv X.A X.stack s H E0).nox f (fun y H' Q' => H' F.c = some (CodeO F.c F.qual) ∧ sp (js.map (slotAt σ)) [y] H' Q' E0) →
      ∃ t, PSs (cxOf CX0 X.prog X.w X.K X.mg X.base Ng x sg g cdv X.A X.stack s H E0).nox bg t ∧ t { nx := fun _ H' => Q .non H', rt := Q } (L2.start Ng vs) H) :
    wpAny (model X.prog X.w) X.A (call (.ref g) us) (EP X pins σ Q) X.xe s := by
  have C0 : CellsAt F.cl fr (js.map (slotAt σ)) s.heap H := cells_of I cp
  have rc : codeAny (model X.prog X.w) X.A (.call (.ref g) ⟨us, []⟩) (CR CX0 X.stack X.prog X.w H s Q E0) s := by
    refine run_ofS (N := Ng) (ps := pg) (us := us) (vs := vs) lk hcg Sg hr I.env0 (by have q := hb s us I.kIn (by rw [List.append_nil, ← r.length]; exact hl); rw [List.append_nil] at q; exact q) r hl fun hr' => ?_
    have cal : Cal (cxOf CX0 X.prog X.w X.K X.mg X.base Ng x sg g cdv X.A X.stack s H E0).nox f (fun y H' Q' => H' F.c = some (CodeO F.c F.qual) ∧ sp (js.map (slotAt σ)) [y] H' Q' E0) := by
      have at_ : ∀ (pins : List (Addr × Obj)) (σ' : L2.St) (H' : Hp) (s' : Shared), Inv (cxOf CX0 X.prog X.w X.K X.mg X.base Ng x sg g cdv X.A X.stack s H E0).nox pins σ' H' s' → LamAt s'.heap f F e := fun pins σ' H' s' J => by
        obtain ⟨pm', ctv', ho⟩ := hf
        exact ⟨pm', ctv', J.base.keep f _ ho hfn hfr (fun z => nomatch (show f ∈ ([] : List Addr) from z))⟩
      refine ⟨fun pins σ' H' s' J => ?_, fun pins σ' H' s' y u Q' J ry hq => ?_⟩
      · obtain ⟨pm', ctv', ho⟩ := at_ _ _ _ _ J
        exact ⟨_, _, _, _, ho⟩
      · obtain ⟨h1, h2⟩ := hq
        have C1 : CellsAt F.cl fr (js.map (slotAt σ)) s'.heap H' := cells_later (X := (cxOf CX0 X.prog X.w X.K X.mg X.base Ng x sg g cdv X.A X.stack s H E0).nox) C0 rfl J
        refine wpAny_call (codeAny_mono (L.run _ _ s' H' [u] [y] _ Q' E0 hr' J.env0 (at_ _ _ _ _ J) h1 C1 (.cons ry .nil) h2) fun r s2 hq => ?_)
        cases r with
        | error e => exact (show False from hq).elim
        | ok fl =>
          cases fl with
          | ret u => exact J.after hq
          | next => exact False.elim hq
          | brk => exact False.elim hq
          | cont => exact False.elim hq
    obtain ⟨t, ht, hq⟩ := hbody hr' cal
    exact ⟨t, ht.nox, hq⟩
  refine wpAny_call (codeAny_mono rc fun r s2 hq => ?_)
  cases r with
  | error e => exact (show False from hq).elim
  | ok fl =>
    cases fl with
    | ret u => exact I.after hq
    | next => exact False.elim hq
    | brk => exact False.elim hq
    | cont => exact False.elim hq
end SW

set_option maxHeartbeats 2000000
namespace SW
open PySem PySem.Spec PyProof.Rows L2 He LamX NdefX
open SW.M (Ent Tb)
theorem nodup_le {A : Type} [DecidableEq A] : ∀ {xs ys : List A}, xs.Nodup → (∀ x ∈ xs, x ∈ ys) → xs.length ≤ ys.length
  | [], _, _, _ => Nat.zero_le _
  | x :: xs, ys, nd, h => by
    have h1 := List.nodup_cons.mp nd
    have hx := h x List.mem_cons_self
    have ih := nodup_le (xs := xs) (ys := ys.erase x) h1.2 fun y hy => by
      have hne : y ≠ x := fun z => h1.1 (z ▸ hy)
      exact (List.mem_erase_of_ne hne).mpr (h y (List.mem_cons_of_mem _ hy))
    rw [List.length_erase_of_mem hx] at ih
    have : 0 < ys.length := List.length_pos_of_mem hx
    rw [List.length_cons]
    omega
/-- what roads_from asks, what it gives -/
def Ro (T : Tbs) (spf : V → Hp → VK → Prop) (x : V) (H : Hp) (Q : VK) : Prop := ∃ (f : Str → List Str) (c : Str) (U : List Str), x = .str c ∧ c ∈ U ∧ U.length ≤ 12 ∧ (∀ y ∈ U, ∀ o ∈ f y, o ∈ U) ∧
  (∀ y ∈ U, ∀ H3 Q', Gr T H H3 → AnsN T H3 Q' (.lst (sv (f y))) → spf (.str y) H3 Q') ∧
  ∀ H' d kvs (ks : List Str), Gr T H H' → H' d = some (.dK kvs) → kvs.map (·.1) = ks.map Sum.inr → (∀ y, y ∈ ks ↔ M.Reach (fun a b => b ∈ f a) c y) → ks.length ≤ 12 → Q (.ref d) H'
theorem keys_val {kvs : List (Key × V)} {ks : List Str} (h : kvs.map (·.1) = ks.map Sum.inr) {y : Str} : (valV kvs (.inr y)).isSome = decide (y ∈ ks) := by
  rw [← valV_any]
  have e : (kvs.any fun kv => decide (kv.1 = Sum.inr y)) = ((kvs.map (·.1)).any fun k => decide (k = Sum.inr y)) := by rw [List.any_map] <;> rfl
  rw [e, h, List.any_map]
  induction ks generalizing kvs with
  | nil => simp
  | cons k r ih =>
    rw [List.any_cons]
    have := ih (kvs := r.map fun k => (Sum.inr k, V.non)) (by simp) (by simp [List.any_map, Function.comp_def])
    rw [this]
    by_cases e : k = y
    · simp [e]
    · have e2 : ¬ (Sum.inr k : Key) = Sum.inr y := fun z => e (inr_inj z)
      simp [e, Ne.symm e]
/-- the paths -/
def PathsAt (H : Hp) (kvs : List (Key × V)) (n : Nat) : Prop := ∀ k v, valV kvs k = some v → ∃ a ys, v = .ref a ∧ H a = some (.lst ys) ∧ ys.length ≤ n
theorem PathsAt.mono {T : Tbs} {H H' : Hp} {kvs : List (Key × V)} {n m : Nat} (g : Gr T H H') (hm : n ≤ m) (h : PathsAt H kvs n) : PathsAt H' kvs m := fun k v e => by
  obtain ⟨a, ys, h1, h2, h3⟩ := h k v e
  exact ⟨a, ys, h1, g.lst h2, Nat.le_trans h3 hm⟩
section
variable {P : Program} {w : World} {K : PySem.W.Frag} {mg : Str → Option Value} {base : Heap}
theorem sc_roads_from : FnScope ["start", "next_of", "found", "at", "here", "other"] ["start", "next_of"] (defScope s_roads_from) := ⟨rfl, rfl, rfl, by decide +kernel, rfl, by decide +kernel, by decide +kernel⟩
abbrev sN_roads_from : List Str := ["start", "next_of", "found", "at", "here", "other"]
theorem roads_body (c : Tx K mg base) {T : Tbs} {k : Nat} {g : Addr} {cdv : Value} {A : Around} {outer : List Env} {s : Shared} {H : Hp} {f : Addr} {spf : V → Hp → VK → Prop} {x : V} {Q : VK} (hr : Room k (A.deeper (envOfC "roads_from" (defScope s_roads_from) s.heap.objs.size g cdv)))
    (cal : Cal (cxOf CX0 P w K mg base sN_roads_from "roads_from" (defScope s_roads_from) g cdv A outer s H E0).nox f spf) (h : Ro T spf x H Q) :
    ∃ t, PSs (cxOf CX0 P w K mg base sN_roads_from "roads_from" (defScope s_roads_from) g cdv A outer s H E0).nox (defBody s_roads_from) t ∧ t { nx := fun _ H' => Q .non H', rt := Q } (start sN_roads_from [x, .ref f]) H := by
  obtain ⟨nf, st, U, rfl, hU, hU12, hcl, hsp, k⟩ := h
  refine ⟨_, (pss_cons (ps_par (i := 2) (j := 3) rfl sc_roads_from.nd rfl rfl (by decide) rfl rfl (pa_cons (pe_disp (pps_cons (pv 0) (pe_lst (pa_cons (pv 0) pa_nil)) pps_nil) (by rfl) (by rfl) (fun z => by cases z) (by decide)) (pa_cons pe_int pa_nil)) (by rfl)) (pss_cons (ps_while PassesOwn.never (pt_cmpR op_lt (pv 3) (pe_callB call_lenD (by rfl) (n_len c) (by first | exact PySem.boot_len | exact boot_len | decide +kernel) (pa_cons (pv 2) pa_nil)) (nomark _)) (pss_cons (ps_set (i := 4) sc_roads_from.nd rfl (Or.inl rfl) (pe_ix (ixLK K rfl) (pe_callTy (call_list_dK rfl) (by rfl) (n_list c) (by first | exact PySem.boot_list | exact boot_list | decide +kernel) (pa_cons (pv 2) pa_nil)) (pv 3) (fun _ _ => rfl))) (pss_cons (ps_for PassesOwn.never rfl (piL K rfl (pe_cal (i := 1) cal (pa_cons (pv 4) pa_nil))) (pg_name (i := 5) sc_roads_from.nd rfl (Or.inl rfl)) (pss_one (ps_expr (pe_dsetd (pv 2) (pv 5) (pe_op op_cat (pe_dget (hu_of hr) (pv 2) (pv 4) (fun _ _ => rfl)) (pe_lst (pa_cons (pv 5) pa_nil))) ⟨rfl, rfl, rfl, rfl⟩)))) (pss_one (ps_aug (i := 3) sc_roads_from.nd rfl (Or.inl rfl) pe_int ip_add))))) (pss_one (ps_ret (pv 2))))), ?_⟩
  intro d hd
  have hdd : upd H d (.dK []) d = some (.dK []) := upd_same
  refine ⟨_, rfl, _, rfl, by show 1 ≤ sizeLine; decide, fun p hp => ?_⟩
  have ndp : d ≠ p := fun z => by
    rw [z, ← z, hdd] at hp
    cases hp
  refine ⟨by rw [upd_ne ndp]; exact hdd, [(Sum.inr st, .ref p)], rfl, by show 1 ≤ 15; decide, _, _, rfl, ?_⟩
  have pd : p ≠ d := ndp.symm
  have hp0 : H p = none := by
    rw [upd_ne pd] at hp
    exact hp
  have e0 : upd (upd (upd H d (.dK [])) p (.lst [.str st])) d (.dK (mergeK [] [(Sum.inr st, .ref p)])) d = some (.dK [(Sum.inr st, .ref p)]) := by rw [upd_same] <;> rfl
  have g0 : Gr T H (upd (upd (upd H d (.dK [])) p (.lst [.str st])) d (.dK (mergeK [] [(Sum.inr st, .ref p)]))) :=
    Gr.mutK ((Gr.new hd).trans (Gr.new hp)) (fresh_none hd) (ys := []) (by rw [upd_ne ndp]; exact hdd)
  refine ⟨fun m σ H' => ∃ (i : Nat) (kvs : List (Key × V)) (ks : List Str) (y z : Option V), m = 13 - i ∧ σ = [some (.str st), some (.ref f), some (.ref d), some (.int i), y, z] ∧ Gr T H H' ∧ H' d = some (.dK kvs) ∧ kvs.map (·.1) = ks.map Sum.inr ∧ ks.Nodup ∧ st ∈ ks ∧
    (∀ y ∈ ks, y ∈ U) ∧ (∀ y ∈ ks, M.Reach (fun a b => b ∈ nf a) st y) ∧ i ≤ ks.length ∧ (∀ j < i, ∀ y, ks[j]? = some y → ∀ o ∈ nf y, o ∈ ks) ∧ PathsAt H' kvs (i + 1), ⟨13, 0, [(Sum.inr st, .ref p)], [st], none, none, rfl, rfl, g0, e0, rfl, by simp, by simp, by simpa using hU, ?_, Nat.zero_le _, fun j hj => absurd hj (Nat.not_lt_zero _), ?_⟩, ?_⟩
  · intro y hy
    rw [List.mem_singleton.mp hy]
    exact .refl _
  · intro kk v e
    by_cases e1 : (Sum.inr st : Key) = kk
    · rw [valV_pos (p := (Sum.inr st, V.ref p)) e1] at e
      cases e
      refine ⟨p, [.str st], rfl, ?_, Nat.le_refl _⟩
      rw [upd_ne pd, upd_same]
    · rw [valV_neg (p := (Sum.inr st, V.ref p)) e1] at e
      cases e
  · rintro m σ H' ⟨i, kvs, ks, y0, z0, rfl, rfl, g, hd', hk, nd, hst, hksU, hre, hi, hdone, hpa⟩
    have hlen : kvs.length = ks.length := by
      have := congrArg List.length hk
      simpa using this
    have hks12 : ks.length ≤ 12 := Nat.le_trans (nodup_le nd hksU) hU12
    refine ⟨_, rfl, _, rfl, d, kvs, rfl, hd', _, _, rfl, rfl, _, rfl, ?_⟩
    by_cases hlt : i < ks.length
    · have ed : decide ((i : Int) < (kvs.length : Int)) = true := decide_eq_true (by rw [hlen]; omega)
      rw [ed]
      refine iteT ⟨fun σ' H' => ∃ m', m' < 13 - i ∧ _, fun _ _ h => h, ?_⟩
      obtain ⟨hh, hhe⟩ : ∃ hh, ks[i]? = some hh := ⟨ks[i], List.getElem?_eq_getElem hlt⟩
      have hhm : hh ∈ ks := List.mem_of_getElem? hhe
      have hkl : (kvs.map fun kv => kV kv.1) = sv ks := by
        have : kvs.map (fun kv => kV kv.1) = (kvs.map (·.1)).map kV := by rw [List.map_map] <;> rfl
        rw [this, hk, List.map_map] <;> rfl
      refine ⟨_, rfl, d, kvs, rfl, hd', fun q hq => ?_⟩
      rw [hkl]
      have gq : Gr T H (upd H' q (.lst (sv ks))) := g.trans (Gr.new hq)
      have nqd : d ≠ q := ne_of_none hd' hq
      refine ⟨_, rfl, q, sv ks, (i : Int), .str hh, rfl, rfl, SqL.of upd_same, atI_nat (by unfold sv; rw [List.getElem?_map, hhe] <;> rfl), ?_⟩
      refine ⟨rfl, _, rfl, .str hh, rfl, hsp hh (hksU hh hhm) _ _ gq fun H2 a g2 ha => ?_⟩
      refine ⟨a, rfl, ⟨_, SqL.of ha⟩, ?_⟩
      have hd2 : H2 d = some (.dK kvs) := g2.dK (by rw [upd_ne nqd]; exact hd')
      refine for_list (K := K) (a := a) (xs := sv (nf hh)) (fun j σ H3 => ∃ (kvs3 : List (Key × V)) (ks3 : List Str) (z : Option V), σ = [some (.str st), some (.ref f), some (.ref d), some (.int i), some (.str hh), z] ∧ Gr T H H3 ∧ H3 a = some (.lst (sv (nf hh))) ∧ H3 d = some (.dK kvs3) ∧ kvs3.map (·.1) = ks3.map Sum.inr ∧ ks3.Nodup ∧
          (∃ more, ks3 = ks ++ more) ∧ (∀ y ∈ ks3, y ∈ U) ∧ (∀ y ∈ ks3, M.Reach (fun a b => b ∈ nf a) st y) ∧ (∀ o ∈ (nf hh).take j, o ∈ ks3) ∧ PathsAt H3 kvs3 (i + 2) ∧ (∃ pa ys, valV kvs3 (.inr hh) = some (.ref pa) ∧ H3 pa = some (.lst ys) ∧ ys.length ≤ i + 1))
        ⟨kvs, ks, z0, rfl, gq.trans g2, ha, hd2, hk, nd, ⟨[], by simp⟩, hksU, hre, by simp, hpa.mono ((Gr.new hq).trans g2) (Nat.le_succ _), ?_⟩ (fun j σ H3 _ ⟨_, _, _, _, _, h, _⟩ => SqL.of h) ?_ ?_
      · have h1 : (valV kvs (.inr hh)).isSome = true := by rw [keys_val hk]; exact decide_eq_true hhm
        obtain ⟨v, hv⟩ := Option.isSome_iff_exists.mp h1
        obtain ⟨pa, ys, rfl, h3, h4⟩ := hpa _ v hv
        exact ⟨pa, ys, hv, ((Gr.new hq).trans g2).lst h3, h4⟩
      · rintro j zz σ H3 hj ⟨kvs3, ks3, z, rfl, g3, ha3, hd3, hk3, nd3, ⟨more, hmore⟩, hU3, hre3, htk, hpa3, pa, ys, hv, hpy, hyl⟩
        obtain ⟨o, ho, rfl⟩ := sv_at hj
        have hom : o ∈ nf hh := List.mem_of_getElem? ho
        have hoU : o ∈ U := hcl hh (hksU hh hhm) o hom
        have hl3 : kvs3.length ≤ 12 := by
          have := congrArg List.length hk3
          simp at this
          rw [this]
          exact Nat.le_trans (nodup_le nd3 hU3) hU12
        refine ⟨_, rfl, d, rfl, .inl ⟨_, .inl hd3⟩, _, rfl, _, rfl, _, rfl, d, .ref pa, rfl, ?_, ?_⟩
        · have := DGet.k (k := .inr hh) hd3
          rw [hv] at this
          exact this
        refine ⟨_, rfl, by show 1 ≤ sizeLine; decide, fun b hb => ?_⟩
        have nb : b ≠ d := (ne_of_none hd3 hb).symm
        refine ⟨pa, b, ys, [.str o], rfl, rfl, (Gr.new (T := T) hb).lst hpy, upd_same, Nat.le_trans (Nat.add_le_add hyl (Nat.le_refl _)) (Nat.le_trans (show _ ≤ 1000 by show i + 1 + 1 ≤ 1000; omega) (by decide)), fun b2 hb2 => ?_⟩
        have gb : Gr T H3 (upd (upd H3 b (.lst [.str o])) b2 (.lst (ys ++ [.str o]))) := (Gr.new hb).trans (Gr.new hb2)
        have hd4 := gb.dK hd3
        have htake : ∀ {ks4 : List Str}, (∀ x ∈ ks3, x ∈ ks4) → o ∈ ks4 → ∀ x ∈ (nf hh).take (j + 1), x ∈ ks4 := fun h1 h2 x hx => by
          rw [List.take_succ, ho] at hx
          rcases List.mem_append.mp hx with hx | hx
          · exact h1 x (htk x hx)
          · rw [List.mem_singleton.mp (show x ∈ [o] from hx)]
            exact h2
        refine ⟨kvs3, .inr o, hd4, rfl, Nat.lt_of_le_of_lt hl3 (by decide), fun v hvo => ?_, fun hvo => ?_⟩
        · have ho3 : o ∈ ks3 := by
            have q := keys_val hk3 (y := o)
            rw [hvo] at q
            exact of_decide_eq_true q.symm
          exact ⟨kvs3, ks3, _, rfl, g3.trans gb, gb.lst ha3, hd4, hk3, nd3, ⟨more, hmore⟩, hU3, hre3, htake (fun _ h => h) ho3, hpa3.mono gb (Nat.le_refl _), pa, ys, hv, gb.lst hpy, hyl⟩
        · have ho3 : o ∉ ks3 := fun z => by
            have q := keys_val hk3 (y := o)
            rw [hvo] at q
            have : decide (o ∈ ks3) = true := decide_eq_true z
            rw [this] at q
            cases q
          have n1 : ¬ hh = o := fun z => ho3 (by rw [← z, hmore]; exact List.mem_append_left _ hhm)
          have npd : pa ≠ d := fun z => by
            rw [z, hd3] at hpy
            cases hpy
          have nb2 : b2 ≠ d := (ne_of_none ((Gr.new (T := T) hb).dK hd3) hb2).symm
          have g5 : Gr T H (upd (upd (upd H3 b (.lst [.str o])) b2 (.lst (ys ++ [.str o]))) d (.dK (putK kvs3 (.inr o) (.ref b2)))) := (g3.trans gb).mutK (fresh_none hd) hd4
          have ads : a ≠ d := fun z => by
            rw [z, hd3] at ha3
            cases ha3
          refine ⟨putK kvs3 (.inr o) (.ref b2), ks3 ++ [o], _, rfl, g5, by rw [upd_ne ads]; exact gb.lst ha3, upd_same, ?_, ?_, ⟨more ++ [o], by rw [hmore, List.append_assoc]⟩, ?_, ?_, htake (fun _ h => List.mem_append_left _ h) (by simp), ?_, pa, ys, ?_, by rw [upd_ne npd]; exact gb.lst hpy, hyl⟩
          · rw [putK_new _ hvo, List.map_append, hk3, List.map_append] <;> rfl
          · exact List.nodup_append.mpr ⟨nd3, by simp, fun x hx y hy => by rw [List.mem_singleton.mp hy]; exact fun z => ho3 (z ▸ hx)⟩
          · intro x hx
            rcases List.mem_append.mp hx with hx | hx
            · exact hU3 x hx
            · rw [List.mem_singleton.mp hx]
              exact hoU
          · intro x hx
            rcases List.mem_append.mp hx with hx | hx
            · exact hre3 x hx
            · rw [List.mem_singleton.mp hx]
              exact .tail (hre hh hhm) hom
          · intro kk v e
            rw [valV_put] at e
            by_cases e1 : kk = .inr o
            · rw [if_pos e1] at e
              cases e
              refine ⟨b2, _, rfl, by rw [upd_ne nb2, upd_same], ?_⟩
              rw [List.length_append]
              show ys.length + 1 ≤ i + 2
              omega
            · rw [if_neg e1] at e
              obtain ⟨a9, y9, r1, r2, r3⟩ := hpa3 kk v e
              refine ⟨a9, y9, r1, ?_, r3⟩
              rw [upd_ne]
              · exact gb.lst r2
              · intro z
                rw [z, hd3] at r2
                cases r2
          · rw [valV_put, if_neg (fun z => n1 (inr_inj z))]
            exact hv
      · rintro σ H3 ⟨kvs3, ks3, z, rfl, g3, ha3, hd3, hk3, nd3, ⟨more, hmore⟩, hU3, hre3, htk, hpa3, _⟩
        refine ⟨_, rfl, _, _, rfl, rfl, 13 - (i + 1), by omega, i + 1, kvs3, ks3, _, _, rfl, rfl, g3, hd3, hk3, nd3, by rw [hmore]; exact List.mem_append_left _ hst, hU3, hre3, ?_, ?_, hpa3⟩
        · rw [hmore, List.length_append]
          omega
        · intro j hj y hy o ho
          rw [hmore] at hy ⊢
          by_cases hji : j = i
          · subst hji
            rw [List.getElem?_append_left hlt, hhe] at hy
            cases hy
            rw [← hmore]
            rw [sv_len, List.take_length] at htk
            exact htk o ho
          · have hj2 : j < i := by omega
            rw [List.getElem?_append_left (by omega)] at hy
            exact List.mem_append_left _ (hdone j hj2 y hy o ho)
    · have ed : decide ((i : Int) < (kvs.length : Int)) = false := decide_eq_false (by rw [hlen]; omega)
      rw [ed]
      refine iteF ⟨_, rfl, ?_⟩
      refine k _ d kvs ks g hd' hk (fun y => ⟨hre y, fun r => ?_⟩) hks12
      have hie : i = ks.length := by omega
      induction r with
      | refl => exact hst
      | tail _ e ih =>
        obtain ⟨j, hj⟩ := List.mem_iff_getElem?.mp ih
        have hjl := (List.getElem?_eq_some_iff.mp hj).1
        exact hdone j (by omega) _ hj _ e
end
end SW


set_option maxHeartbeats 2000000
namespace SW
open PySem PySem.Spec PyProof.Rows L2 He LamX NdefX
open SW.M (Ent Tb)
/-! ## a def that hands a lambda on -/
theorem Ok.mkC {P : Program} {w : World} {K : PySem.W.Frag} {mg : Str → Option Value} {base : Heap} {x : Str} {params : Arguments} {body : List Stmt} {scope : Scope} {N ps : List Str} {k : Nat} {sp : Sp} (F : ∃ fd, FunD K x x params body scope [] [] (ga K x) fd) (S : FnScope N ps scope)
    (hb : ∀ (kV doc pm : Value) (an : Option Addr) (cdv ct : Value) (us : List Value), us.length = ps.length → bindArgs (PySem.W.fnOf x x params body scope .none kV doc pm an cdv ct) ⟨us, []⟩ = pure (ps.zip us))
    (len : ∀ vs H Q E, sp vs H Q E → vs.length = ps.length)
    (hbody : ∀ (cdv : Value) (_ : cdv = .ref (He.codeOf K (x, none))) (A : Around) (outer : List Env) (s : Shared) (H : Hp) (vs : List V) (Q : VK) (E : XK), Room k (A.deeper (envOfC x scope s.heap.objs.size (ga K x) cdv)) → sp vs H Q E →
      ∃ t, PSs (cxOf CX0 P w K mg base N x scope (ga K x) cdv A outer s H E).nox body t ∧ t { nx := fun _ H' => Q .non H', rt := Q } (start N vs) H) : Ok P w K mg base (k + 1) (ga K x) ps sp := by
  obtain ⟨fd, F⟩ := F
  have hB : L2.Binds K fd ps [] := F.bindsN hb
  have kp := F.kp
  obtain ⟨oc, od, dV, kV, doc, pm, an, cdv, ct, osl, rfl, lk, hcd, _, _⟩ := F.ex
  refine ⟨⟨_, fn_of lk hcd S len fun A outer s H vs Q E hr hsp => ?_, hB⟩, kp⟩
  have e : cdv = .ref (He.codeOf K (x, none)) := by
    obtain ⟨cc, e⟩ := He.codeIn_ref hcd
    rw [e, He.codeOf_eq (p := (x, none)) lk e]
  obtain ⟨t, h1, h2⟩ := hbody cdv e A outer s H vs Q E hr hsp
  exact ⟨t, h1.nox, h2⟩
def tRoads (T : Tbs) (js : List Nat) (sp : List (Option V) → Sp) (te : TE) : TE := fun σ H Q => te σ H fun x H1 => Tabs T H1 ∧ ∀ H2, ExtN H1 H2 → Tabs T H2 → Ro T (fun y H' Q' => sp (js.map (slotAt σ)) [y] H' Q' E0) x H2 Q
theorem Ro.code {T : Tbs} {spf : V → Hp → VK → Prop} {x : V} {H : Hp} {Q : VK} {cc : Addr} {q : Str} (h : Ro T spf x H Q) (hc : H cc = some (CodeO cc q)) : Ro T (fun y H' Q' => H' cc = some (CodeO cc q) ∧ spf y H' Q') x H Q := by
  obtain ⟨f, st, U, h1, h2, h3, h4, h5, h6⟩ := h
  exact ⟨f, st, U, h1, h2, h3, h4, fun y hy H3 Q' g a => ⟨g.1 _ _ hc nt_ext, h5 y hy H3 Q' g a⟩, h6⟩
theorem pe_roads {X : Cx} (c : Tx X.K X.mg X.base) (T : Tbs) {e1 : Expr} {te : TE} {params : Arguments} {body : Expr} {scope : Scope} {lpos p pos : Pos} {pa : Str} {fr : List Str} {js : List Nat} {sp : List (Option V) → Sp} {cc Pt : Addr} {k : Nat}
    (he : PE X e1 te) (TB : TabB X.base X.mg cc Pt) (hcode : X.env.code = .ref cc) (hm : (Pt, X.env.qual ++ "<lambda>") ∈ T) (hu : ∀ p ∈ T, p.1 = Pt → p.2 = X.env.qual ++ "<lambda>") (hr : Room (k + 1) X.A) (hdef : defaultsOf params X.env = ([], []))
    (hfr : ndefB X.env.scope scope fr = true) (hjs : js.map (fun j => X.N[j]?) = fr.map some)
    (L : ∀ f c', LOk X.prog X.w X.K X.mg X.base k f (lamF (X.env.qual ++ "<lambda>") params scope (cloFrom X.env.cells scope.names []) c') body [pa] fr sp) (hg : Gl X "roads_from" := by rfl)
    (hs : starEach [e1, .Lambda params body scope lpos] X.env = (false, eval e1 X.env) :: starEach [.Lambda params body scope lpos] X.env := by rfl) :
    PE X (.Call (.Name "roads_from" p) [e1, .Lambda params body scope lpos] [] pos) (tRoads T js sp te) := by
  obtain ⟨fd, F⟩ := fd_roads_from c
  have hB : L2.Binds X.K fd ["start", "next_of"] [] := F.bindsN (fun _ _ _ _ _ _ us hl => match us, hl with | [_, _], _ => rfl)
  have kp := F.kp
  obtain ⟨oc, od, dV, kV, doc, pm, an, cdv, ct, osl, rfl, lk, hcd, _, _⟩ := F.ex
  refine ⟨fun pins s σ H Q I h => ?_⟩
  refine wpAny_Call_Name_kw (ld_glob I hg (g_roads_from c) ?_ (by decide))
  refine PySem.W.callWith_K (h₀ := X.base) I.ok.mod.kin kp ?_ hs (by rfl)
  rw [hs]
  show wpAny _ _ (spliced ((false, eval e1 X.env) :: (false, eval (.Lambda params body scope lpos) X.env) :: backTo pos (starEach [] X.env))) _ _ s
  refine Calls.spliced_cons (thn (he.run pins s σ H _ I h) fun u1 s1 ⟨x, H1, I1, r1, hT, hRo⟩ => ?_)
  have hfree := ndef_free hfr
  refine Calls.spliced_cons (lam_make2 I1 TB hcode hm hu hT hdef (fun y hy e => (hfree y hy e).elim (fun z => I1.ok.has _ (.inl z)) fun z => I1.ok.has _ (.inr z)) fun f c' pm' ctv H2 s2 I2 eN T2 hf hfn hfrm hco => ?_)
  refine Calls.spliced_nil ⟨I2.kIn, ?_⟩
  have cp : Caps X (lamF (X.env.qual ++ "<lambda>") params scope (cloFrom X.env.cells scope.names []) c').cl fr js := Caps.made I2.ok hfree (ndef_fr hfr) hjs
  refine run_given (Ng := sN_roads_from) (vs := [x, .ref f]) (us := [u1, .ref f]) (js := js) I2 hr (L f c') ⟨pm', ctv, hf⟩ hfn hfrm hco cp lk hcd sc_roads_from hB (.cons r1 (.cons rfl .nil)) rfl fun hr' cal => ?_
  exact roads_body c hr' cal (Ro.code (hRo H2 eN T2) hco)
section
variable {P : Program} {w : World} {K : PySem.W.Frag} {mg : Str → Option Value} {base : Heap}
theorem Tx.ne (c : Tx K mg base) : (He.cT K ("led_to", none)).2 ≠ (He.cT K ("has_road", none)).2 := by
  have h := c.x
  unfold exB at h
  have h1 := (He.ba (He.ba (He.ba h).2).2).2
  intro z
  rw [decide_eq_true z] at h1
  cases h1
/-- the lambda of led_to -/
def stepL (T : Tb Str) (L ms : List Str) (n : Str) : List Str := if M.declines T.es n ms = true then (M.next T n).filter (fun o => decide (o ∈ L)) else []
def spLam1 (K : PySem.W.Frag) : List (Option V) → Sp := fun ws vs H Q _ => ∃ (t : Addr) (T : Tb Str) (d : Addr) (L : List Str) (m : Addr) (ms : List Str) (n : Str), ws = [some (.ref t), some (.ref d), some (.ref m)] ∧ vs = [.str n] ∧ TabAt K H t T ∧ WfT T ∧ n ∈ M.names T.es ∧ HeldAt H d L ∧ MsAt K H m ms ∧ AnsN (tt K) H Q (.lst (sv (stepL T L ms n)))
def spLed (K : PySem.W.Frag) : Sp := fun vs H Q _ => ∃ (t : Addr) (T : Tb Str) (d : Addr) (L : List Str) (a : Str) (m : Addr) (ms : List Str), vs = [.ref t, .ref d, .str a, .ref m] ∧ TabAt K H t T ∧ WfT T ∧ a ∈ M.names T.es ∧ HeldAt H d L ∧ MsAt K H m ms ∧ Tabs (tt K) H ∧
  ∀ H' p ks, Gr (tt K) H H' → H' p = some (.lst (sv ks)) → (∀ y, y ∈ ks ↔ M.Reach (fun a b => b ∈ stepL T L ms a) a y) → ks.length ≤ 12 → Q (.ref p) H'
def lamX : Expr → Arguments × Expr × Scope
  | .Lambda p b sc _ => (p, b, sc)
  | _ => ({ posonlyargs := [], args := [], vararg := none, kwonlyargs := [], kw_defaults := [], kwarg := none, defaults := [] }, .Constant .none 0 ⟨0, 0, 0, 0⟩, { kind := .function, names := [], isGenerator := false, isCoroutine := false })
def lam1 : Arguments × Expr × Scope := match defBody s_led_to with
  | [.Return (some (.Call _ [.Call _ [_, e] _ _] _ _)) _] => lamX e
  | _ => lamX (.Constant .none 0 ⟨0, 0, 0, 0⟩)
theorem nsc1 : nscB ["name", "table", "held", "methods"] ["name"] ["table", "held", "methods"] lam1.2.2 = true := by decide +kernel
theorem ndf1 : ndefB (defScope s_led_to) lam1.2.2 ["table", "held", "methods"] = true := by decide +kernel
theorem lok_led (c : Tx K mg base) (f c' : Addr) (q : Str) (cl : List (Str × Addr)) : LOk P w K mg base 5 f (lamF q lam1.1 lam1.2.2 cl c') lam1.2.1 ["name"] ["table", "held", "methods"] (spLam1 K) := by
  refine lok_of (N := ["name", "table", "held", "methods"]) (nscope_by nsc1) (fun _ _ us hl => match us, hl with | [_], _ => rfl) (fun ws vs H Q E h => ?_) (fun A outer s H vs ws Q E hr hl h => ?_)
  · obtain ⟨t, T, d, L, m, ms, n, _, rfl, _⟩ := h
    rfl
  · obtain ⟨t, T, d, L, m, ms, n, rfl, rfl, hT, wf, hn, hL, hm, k⟩ := h
    refine ⟨_, pe_ifExp (pt_val ((ok_declines c).call hr (by decide) (g_declines c) (pa_cons (pv 1) (pa_cons (pv 0) (pa_cons (pv 3) pa_nil))))) ((ok_next_in c).call hr (by decide) (g_next_in c) (pa_cons (pv 1) (pa_cons (pv 2) (pa_cons (pv 0) pa_nil)))) (pe_lst pa_nil), ?_⟩
    refine ⟨_, rfl, _, rfl, _, rfl, t, T, n, m, ms, rfl, hT, wf.toWf, hn, hm, fun H1 g1 => ⟨_, rfl, ?_⟩⟩
    unfold stepL at k
    cases q : M.declines T.es n ms with
    | true =>
      rw [if_pos q] at k
      exact iteT ⟨_, rfl, _, rfl, _, rfl, t, T, d, L, n, rfl, hT.mono g1, wf, hn, hL.mono g1, fun H2 p g2 hp => k _ p (g1.trans g2) hp⟩
    | false =>
      rw [if_neg (by rw [q]; decide)] at k
      exact iteF ⟨Nat.zero_le _, fun p hp => k _ p (g1.trans (Gr.new hp)) upd_same⟩
theorem keys_sv {kvs : List (Key × V)} {ks : List Str} (h : kvs.map (·.1) = ks.map Sum.inr) : (kvs.map fun kv => kV kv.1) = sv ks := by
  have : kvs.map (fun kv => kV kv.1) = (kvs.map (·.1)).map kV := by rw [List.map_map] <;> rfl
  rw [this, h, List.map_map] <;> rfl
theorem stepL_mem {T : Tb Str} {L ms : List Str} {n y : Str} (wf : WfT T) (h : y ∈ stepL T L ms n) : y ∈ M.names T.es := by
  unfold stepL at h
  split at h
  · exact wf.next (List.mem_filter.mp h).1
  · cases h
theorem sc_led_to : FnScope ["table", "held", "cls", "methods"] ["table", "held", "cls", "methods"] (defScope s_led_to) := ⟨rfl, rfl, rfl, by decide +kernel, rfl, by decide +kernel, by decide +kernel⟩
abbrev sN_led_to : List Str := ["table", "held", "cls", "methods"]
theorem ok_led_to (c : Tx K mg base) : Ok P w K mg base 7 (ga K "led_to") ["table", "held", "cls", "methods"] (spLed K) := by
  refine Ok.mkC (fd_led_to c) sc_led_to (fun _ _ _ _ _ _ us hl => match us, hl with | [_, _, _, _], _ => rfl) (fun vs H Q E h => ?_) (fun cdv hcd A outer s H vs Q E hr h => ?_)
  · obtain ⟨t, T, d, L, a, m, ms, rfl, _⟩ := h
    rfl
  · obtain ⟨t, T, d, L, a, m, ms, rfl, hT, wf, ha, hL, hm, hTab, k⟩ := h
    refine ⟨_, pss_one (ps_ret (pe_callTy (call_list_dK rfl) (by rfl) (n_list c) (by first | exact PySem.boot_list | exact boot_list | decide +kernel) (pa_cons (pe_roads c (tt K) (fr := ["table", "held", "methods"]) (js := [0, 1, 3]) (pv 2) (c.tb ("led_to", none) (by simp [tfl])) hcd (List.mem_cons_self) (fun p hp e => ?_) hr rfl ndf1 rfl (fun f c' => lok_led c f c' _ _)) pa_nil))), ?_⟩
    · rcases List.mem_cons.mp hp with rfl | hp
      · rfl
      · rw [List.mem_singleton.mp hp] at e
        exact absurd e.symm c.ne
    · refine ⟨_, rfl, hTab, fun H2 eN T2 => ⟨stepL T L ms, a, M.names T.es, rfl, ha, wf.few, fun y hy o ho => stepL_mem wf ho, fun y hy H3 Q' g3 kk => ?_, fun H' dd kvs ks g3 hd hk hre h12 => ?_⟩⟩
      · have g : Gr (tt K) H H3 := Gr.trans ⟨eN, fun _ => T2⟩ g3
        exact ⟨t, T, d, L, m, ms, y, rfl, rfl, hT.mono g, wf, hy, hL.mono g, hm.mono g, kk⟩
      · have g : Gr (tt K) H H' := Gr.trans ⟨eN, fun _ => T2⟩ g3
        refine ⟨dd, kvs, rfl, hd, fun p hp => k _ p ks (g.trans (Gr.new hp)) ?_ hre h12⟩
        rw [upd_same, keys_sv hk]
/-- a road whatever the hooks answer -/
def stepN (T : Tb Str) (L : List Str) (n : Str) : List Str := (M.next T n).filter (fun o => decide (o ∈ L))
def spLam2 (K : PySem.W.Frag) : List (Option V) → Sp := fun ws vs H Q _ => ∃ (t : Addr) (T : Tb Str) (d : Addr) (L : List Str) (n : Str), ws = [some (.ref t), some (.ref d)] ∧ vs = [.str n] ∧ TabAt K H t T ∧ WfT T ∧ n ∈ M.names T.es ∧ HeldAt H d L ∧ AnsN (tt K) H Q (.lst (sv (stepN T L n)))
def lam2 : Arguments × Expr × Scope := match defBody s_has_road with
  | [.Return (some (.BoolOp _ [_, .Compare _ _ [.Call _ [_, e] _ _] _] _)) _] => lamX e
  | _ => lamX (.Constant .none 0 ⟨0, 0, 0, 0⟩)
theorem nsc2 : nscB ["name", "table", "held"] ["name"] ["table", "held"] lam2.2.2 = true := by decide +kernel
theorem ndf2 : ndefB (defScope s_has_road) lam2.2.2 ["table", "held"] = true := by decide +kernel
theorem lok_road (c : Tx K mg base) (f c' : Addr) (q : Str) (cl : List (Str × Addr)) : LOk P w K mg base 5 f (lamF q lam2.1 lam2.2.2 cl c') lam2.2.1 ["name"] ["table", "held"] (spLam2 K) := by
  refine lok_of (N := ["name", "table", "held"]) (nscope_by nsc2) (fun _ _ us hl => match us, hl with | [_], _ => rfl) (fun ws vs H Q E h => ?_) (fun A outer s H vs ws Q E hr hl h => ?_)
  · obtain ⟨t, T, d, L, n, _, rfl, _⟩ := h
    rfl
  · obtain ⟨t, T, d, L, n, rfl, rfl, hT, wf, hn, hL, k⟩ := h
    refine ⟨_, (ok_next_in c).call hr (by decide) (g_next_in c) (pa_cons (pv 1) (pa_cons (pv 2) (pa_cons (pv 0) pa_nil))), ?_⟩
    exact ⟨_, rfl, _, rfl, _, rfl, t, T, d, L, n, rfl, hT, wf, hn, hL, k⟩
open Classical in
noncomputable def roadB (T : Tb Str) (L : List Str) (a b : Str) : Bool := M.sworn T.es b && decide (M.Reach (fun x y => y ∈ stepN T L x) a b)
def spRoad (K : PySem.W.Frag) : Sp := fun vs H Q _ => ∃ (t : Addr) (T : Tb Str) (d : Addr) (L : List Str) (a b : Str), vs = [.ref t, .ref d, .str a, .str b] ∧ TabAt K H t T ∧ WfT T ∧ a ∈ M.names T.es ∧ b ∈ M.names T.es ∧ HeldAt H d L ∧ Tabs (tt K) H ∧ Ans (tt K) H Q (.bl (roadB T L a b))
theorem sc_has_road : FnScope ["table", "held", "cls", "other"] ["table", "held", "cls", "other"] (defScope s_has_road) := ⟨rfl, rfl, rfl, by decide +kernel, rfl, by decide +kernel, by decide +kernel⟩
abbrev sN_has_road : List Str := ["table", "held", "cls", "other"]
theorem ok_has_road (c : Tx K mg base) : Ok P w K mg base 7 (ga K "has_road") ["table", "held", "cls", "other"] (spRoad K) := by
  refine Ok.mkC (fd_has_road c) sc_has_road (fun _ _ _ _ _ _ us hl => match us, hl with | [_, _, _, _], _ => rfl) (fun vs H Q E h => ?_) (fun cdv hcd A outer s H vs Q E hr h => ?_)
  · obtain ⟨t, T, d, L, a, b, rfl, _⟩ := h
    rfl
  · obtain ⟨t, T, d, L, a, b, rfl, hT, wf, ha, hb, hL, hTab, k⟩ := h
    refine ⟨_, pss_one (ps_ret (pe_and ((ok_Table_sworn c).meth hr (by decide) (cl_Table c) (me_Table_sworn c) (pv 0) (pa_cons (pv 3) pa_nil)) (pe_one (pe_cmp (pc_din (hu_of hr) (pv 3) (pe_roads c (tt K) (fr := ["table", "held"]) (js := [0, 1]) (pv 2) (c.tb ("has_road", none) (by simp [tfl])) hcd (List.mem_cons_of_mem _ List.mem_cons_self) (fun p hp e => ?_) hr rfl ndf2 rfl (fun f c' => lok_road c f c' _ _))))))), ?_⟩
    · rcases List.mem_cons.mp hp with rfl | hp
      · exact absurd e c.ne
      · rw [List.mem_singleton.mp hp] <;> rfl
    · have hT' := hT
      obtain ⟨dx, r, nu, l, m, kn, h1, h2, h3, h4⟩ := hT'
      refine ⟨_, rfl, t, dx, _, rfl, h1, rfl, _, rfl, t, T, b, rfl, hT, wf.toWf, hb, fun H1 g1 => ⟨_, rfl, ?_⟩⟩
      unfold roadB at k
      cases q : M.sworn T.es b with
      | false =>
        rw [q] at k
        exact iteF (k _ g1)
      | true =>
        rw [q, Bool.true_and] at k
        refine iteT ⟨_, rfl, _, rfl, g1.2 hTab, fun H2 eN T2 => ⟨stepN T L, a, M.names T.es, rfl, ha, wf.few, fun y hy o ho => wf.next (List.mem_filter.mp ho).1, fun y hy H3 Q' g3 kk => ?_, fun H' dd kvs ks g3 hd hk hre h12 => ?_⟩⟩
        · have g : Gr (tt K) H H3 := (g1.trans ⟨eN, fun _ => T2⟩).trans g3
          exact ⟨t, T, d, L, y, rfl, rfl, hT.mono g, wf, hy, hL.mono g, kk⟩
        · have g : Gr (tt K) H H' := (g1.trans ⟨eN, fun _ => T2⟩).trans g3
          refine ⟨dd, _, rfl, DGet.k (k := .inr b) hd, ?_⟩
          have e : decide (b ∈ ks) = @decide (M.Reach (fun x y => y ∈ stepN T L x) a b) (Classical.propDecidable _) := decide_eq_decide.mpr (hre b)
          rw [keys_val hk, e]
          exact k _ g
end
end SW


set_option maxHeartbeats 2000000
namespace SW
open PySem PySem.Spec PyProof.Rows L2 He LamX NdefX
open SW.M (Ent Tb Oc)
/-- x is True, x a truth value or None -/
theorem op_isTrue {X : Cx} : OpR X (compareOp .Is) (fun x y H Q => ∃ o : Option Bool, x = optB o ∧ y = .bl true ∧ Q (.bl (decide (o = some true))) H) := by
  intro pins s σ H x y v u Q I rx ry h
  obtain ⟨o, rfl, rfl, q⟩ := h
  cases ry
  cases o with
  | none =>
    cases (show v = Value.none from rx)
    exact wpAny_is_other rfl (by intro z; cases z) ⟨.bl false, H, I, rfl, q⟩
  | some b =>
    cases (show v = Value.bool b from rx)
    cases b with
    | true => exact wpAny_is_self rfl ⟨.bl true, H, I, rfl, q⟩
    | false => exact wpAny_is_other rfl (by intro z; cases z) ⟨.bl false, H, I, rfl, q⟩
def isStr {K : PySem.W.Frag} {H : Hp} (n : Str) {Q : VK} (q : Q (.bl true) H) : rIsi K [.str n, .ty "str"] H Q := ⟨.str n, .ty "str", .type "str", .type "str", true, rfl, .ty _, .base (.str _), kit_ty (by decide +kernel), q⟩
section
variable {P : Program} {w : World} {K : PySem.W.Frag} {mg : Str → Option Value} {base : Heap}
def reachedB (T : Tb Str) (ks : List Str) (o : Str) (ms : List Str) : Bool := if M.sworn T.es o = true then (decide (o ∈ ks) && M.declines T.es o ms) else ks.any fun n => !M.sworn T.es n && decide (n ∈ M.line T.es o)
def spReached (K : PySem.W.Frag) : Sp := fun vs H Q _ => ∃ (t : Addr) (T : Tb Str) (p : Addr) (ks : List Str) (o : Str) (m : Addr) (ms : List Str), vs = [.ref t, .ref p, .str o, .ref m] ∧ TabAt K H t T ∧ WfT T ∧ o ∈ M.names T.es ∧ (∀ n ∈ ks, n ∈ M.names T.es) ∧ ks.length ≤ 12 ∧ H p = some (.lst (sv ks)) ∧ MsAt K H m ms ∧ Ans (tt K) H Q (.bl (reachedB T ks o ms))
theorem sc_is_reached : FnScope ["table", "ends", "other", "methods", "name"] ["table", "ends", "other", "methods"] (defScope s_is_reached) := ⟨rfl, rfl, rfl, by decide +kernel, rfl, by decide +kernel, by decide +kernel⟩
theorem ok_is_reached (c : Tx K mg base) : Ok P w K mg base 5 (ga K "is_reached") ["table", "ends", "other", "methods"] (spReached K) := by
  refine Ok.mk' (fd_is_reached c) sc_is_reached (fun _ _ _ _ _ _ us hl => match us, hl with | [_, _, _, _], _ => rfl) (fun vs H Q E h => ?_) (fun cdv A outer s H vs Q E hr h => ?_)
  · obtain ⟨t, T, p, ks, o, m, ms, rfl, _⟩ := h
    rfl
  · obtain ⟨t, T, p, ks, o, m, ms, rfl, hT, wf, ho, hks, h12, hp, hm, k⟩ := h
    refine ⟨_, (pss_cons (ps_if (pt_val ((ok_Table_sworn c).meth hr (by decide) (cl_Table c) (me_Table_sworn c) (pv 0) (pa_cons (pv 2) pa_nil))) (pss_one (ps_ret (pe_and (pe_cmpR (inK K rfl) (pv 2) (pv 1) rfl) (pe_one ((ok_declines c).call hr (by decide) (g_declines c) (pa_cons (pv 0) (pa_cons (pv 2) (pa_cons (pv 3) pa_nil)))))))) pss_nil) (pss_one (ps_ret (pe_callB (anyK K rfl rfl) (by rfl) (n_any c) (by first | exact PySem.boot_any | exact boot_any | decide +kernel) (pa_cons (pe_lc (own := [("name", 4)]) (g := (gName 4)) (tt := tYes) rfl sc_is_reached.nd (piL K rfl (pv 1)) (blkOk_by (N := ["table", "ends", "other", "methods", "name"]) (sc := defScope s_is_reached) (by decide +kernel)) (fun _ _ _ _ _ => (pg_name (i := 4) sc_is_reached.nd rfl (by first | exact Or.inl rfl | exact Or.inr rfl))) (fun _ _ _ _ _ => by exact pts_nil) (fun _ _ _ _ _ => by exact (pe_and (pe_not ((ok_Table_sworn c).meth hr (by decide) (cl_Table c) (me_Table_sworn c) (pv 0) (pa_cons (pv 4) pa_nil))) (pe_one ((ok_Table_is_above c).meth hr (by decide) (cl_Table c) (me_Table_is_above c) (pv 0) (pa_cons (pv 4) (pa_cons (pv 2) pa_nil))))))) pa_nil))))), ?_⟩
    have hT' := hT
    obtain ⟨dx, r, nu, l, mm, kn, h1, h2, h3, h4⟩ := hT'
    refine ⟨_, rfl, t, dx, _, rfl, h1, rfl, _, rfl, t, T, o, rfl, hT, wf.toWf, ho, fun H1 g1 => ⟨_, rfl, ?_⟩⟩
    unfold reachedB at k
    cases q : M.sworn T.es o with
    | true =>
      rw [if_pos q] at k
      refine iteT ⟨_, rfl, _, rfl, p, sv ks, rfl, .inl (SqL.of (g1.lst hp)), rfl, flat_sv _, _, rfl, ?_⟩
      rw [inV_sv]
      cases q2 : decide (o ∈ ks) with
      | false =>
        rw [q2] at k
        exact iteF (k _ g1)
      | true =>
        rw [q2, Bool.true_and] at k
        exact iteT ⟨_, rfl, _, rfl, _, rfl, t, T, o, m, ms, rfl, hT.mono g1, wf.toWf, ho, hm.mono g1, fun H2 g2 => k _ (g1.trans g2)⟩
    | false =>
      rw [if_neg (by rw [q]; decide)] at k
      refine iteF ⟨_, rfl, p, rfl, ⟨_, SqL.of (g1.lst hp)⟩, fun D hD => ?_⟩
      refine lcL (T := tt K) V.str ks (SqL.of (g1.lst hp)) (big (Nat.le_trans h12 (by decide))) (fun n => .bl (!M.sworn T.es n && decide (n ∈ M.line T.es o))) (fun _ => true) hD (fun n hn H' g Kp Ks kp ks => ?_) (fun H' g hl => ?_)
      · refine ⟨rfl, yesT ⟨_, rfl, t, dx, _, rfl, (g1.trans g).ins h1, rfl, _, rfl, t, T, n, rfl, hT.mono (g1.trans g), wf.toWf, hks n hn, fun H2 g2 => ⟨_, rfl, _, rfl, ?_⟩⟩⟩
        cases q3 : M.sworn T.es n with
        | true =>
          refine iteF ?_
          have kp := kp rfl
          rw [q3] at kp
          exact kp _ g2
        | false =>
          have kp := kp rfl
          rw [q3] at kp
          exact iteT ⟨_, rfl, t, dx, _, rfl, ((g1.trans g).trans g2).ins h1, rfl, _, rfl, _, rfl, t, T, n, o, rfl, hT.mono ((g1.trans g).trans g2), ho, fun H3 g3 => kp _ (g2.trans g3)⟩
      · refine ⟨D, ks.map (fun n => !M.sworn T.es n && decide (n ∈ M.line T.es o)), rfl, SqL.of ?_, ?_⟩
        · rw [hl, filter_yes, List.map_map] <;> rfl
        · rw [List.any_map]
          exact k _ (g1.trans g)
def ocV : Option Oc → V
  | none => .non
  | some .won => .str "won"
  | some .reached => .str "reached"
  | some .neither => .str "neither"
theorem stepL_iff {T : Tb Str} {a b : Str} {ms : List Str} {u v : Str} : v ∈ stepL T (M.heldL T.es a b) ms u ↔ M.stepD T a b ms u v := by
  unfold stepL M.stepD
  by_cases h : M.declines T.es u ms = true
  · rw [if_pos h]
    simp [h]
  · rw [if_neg h]
    simp [h]
theorem stepN_iff {T : Tb Str} {a b : Str} {u v : Str} : v ∈ stepN T (M.heldL T.es a b) u ↔ M.stepR T a b u v := by
  unfold stepN M.stepR
  simp
theorem reach_congr {f g : Str → Str → Prop} (h : ∀ x y, f x y ↔ g x y) {a b : Str} : M.Reach f a b ↔ M.Reach g a b := ⟨M.Reach.mono fun x y => (h x y).mp, M.Reach.mono fun x y => (h x y).mpr⟩
theorem ans_sworn {es : List En} {n : Str} {ms : List Str} {b : Bool} (h : M.ans es n ms = some b) : M.sworn es n = true := by
  unfold M.ans at h
  split at h
  · assumption
  · cases h
theorem won_iff {T : Tb Str} {a b : Str} {ms ks : List Str} (h : ∀ y, y ∈ ks ↔ M.Reach (fun u v => v ∈ stepL T (M.heldL T.es a b) ms u) a y) : (ks.any fun n => M.sworn T.es n && decide (M.ans T.es n ms = some true)) = true ↔ M.won T a b ms := by
  rw [List.any_eq_true]
  constructor
  · rintro ⟨n, hn, e⟩
    have e2 := of_decide_eq_true (Bool.and_eq_true_iff.mp e).2
    exact ⟨n, (reach_congr fun _ _ => stepL_iff).mp ((h n).mp hn), e2⟩
  · rintro ⟨n, r, e⟩
    exact ⟨n, (h n).mpr ((reach_congr fun _ _ => stepL_iff).mpr r), by rw [ans_sworn e, decide_eq_true e] <;> rfl⟩
theorem reached_iff {T : Tb Str} {a b : Str} {ms ks : List Str} (h : ∀ y, y ∈ ks ↔ M.Reach (fun u v => v ∈ stepL T (M.heldL T.es a b) ms u) a y) : reachedB T ks b ms = true ↔ M.reached T a b ms := by
  unfold reachedB M.reached
  by_cases q : M.sworn T.es b = true
  · rw [if_pos q, if_pos q, Bool.and_eq_true_iff, decide_eq_true_iff, h b, reach_congr fun _ _ => stepL_iff]
  · rw [if_neg q, if_neg q, List.any_eq_true]
    constructor
    · rintro ⟨n, hn, e⟩
      obtain ⟨e1, e2⟩ := Bool.and_eq_true_iff.mp e
      refine ⟨n, (reach_congr fun _ _ => stepL_iff).mp ((h n).mp hn), by simpa using e1, of_decide_eq_true e2⟩
    · rintro ⟨n, r, e1, e2⟩
      exact ⟨n, (h n).mpr ((reach_congr fun _ _ => stepL_iff).mpr r), by rw [e1, decide_eq_true e2] <;> rfl⟩
theorem reach_names {T : Tb Str} (wf : WfT T) {L ms : List Str} {a y : Str} (ha : a ∈ M.names T.es) (r : M.Reach (fun u v => v ∈ stepL T L ms u) a y) : y ∈ M.names T.es := by
  cases r with
  | refl => exact ha
  | tail _ e => exact stepL_mem wf e
def spOut (K : PySem.W.Frag) : Sp := fun vs H Q _ => ∃ (t : Addr) (T : Tb Str) (d : Addr) (a b : Str) (m : Addr) (ms : List Str), vs = [.ref t, .ref d, .str a, .str b, .ref m] ∧ TabAt K H t T ∧ WfT T ∧ a ∈ M.names T.es ∧ b ∈ M.names T.es ∧ HeldAt H d (M.heldL T.es a b) ∧ MsAt K H m ms ∧ Tabs (tt K) H ∧ Ans (tt K) H Q (ocV (M.oc T a b ms))
theorem sc_outcome_in : FnScope ["table", "held", "cls", "other", "methods", "ends", "name"] ["table", "held", "cls", "other", "methods"] (defScope s_outcome_in) := ⟨rfl, rfl, rfl, by decide +kernel, rfl, by decide +kernel, by decide +kernel⟩
theorem ok_outcome_in (c : Tx K mg base) : Ok P w K mg base 8 (ga K "outcome_in") ["table", "held", "cls", "other", "methods"] (spOut K) := by
  refine Ok.mk' (fd_outcome_in c) sc_outcome_in (fun _ _ _ _ _ _ us hl => match us, hl with | [_, _, _, _, _], _ => rfl) (fun vs H Q E h => ?_) (fun cdv A outer s H vs Q E hr h => ?_)
  · obtain ⟨t, T, d, a, b, m, ms, rfl, _⟩ := h
    rfl
  · obtain ⟨t, T, d, a, b, m, ms, rfl, hT, wf, ha, hb, hL, hm, hTab, k⟩ := h
    refine ⟨_, (pss_cons (ps_if (pt_not (pt_val ((ok_declines c).call hr (by decide) (g_declines c) (pa_cons (pv 0) (pa_cons (pv 2) (pa_cons (pv 4) pa_nil)))))) (pss_one (ps_ret pe_non)) pss_nil) (pss_cons (ps_set (i := 5) sc_outcome_in.nd rfl (Or.inl rfl) ((ok_led_to c).call hr (by decide) (g_led_to c) (pa_cons (pv 0) (pa_cons (pv 1) (pa_cons (pv 2) (pa_cons (pv 4) pa_nil)))))) (pss_cons (ps_if (pt_val (pe_callB (anyK K rfl rfl) (by rfl) (n_any c) (by first | exact PySem.boot_any | exact boot_any | decide +kernel) (pa_cons (pe_lc (own := [("name", 6)]) (g := (gName 6)) (tt := tYes) rfl sc_outcome_in.nd (piL K rfl (pv 5)) (blkOk_by (N := ["table", "held", "cls", "other", "methods", "ends", "name"]) (sc := defScope s_outcome_in) (by decide +kernel)) (fun _ _ _ _ _ => (pg_name (i := 6) sc_outcome_in.nd rfl (by first | exact Or.inl rfl | exact Or.inr rfl))) (fun _ _ _ _ _ => by exact pts_nil) (fun _ _ _ _ _ => by exact (pe_and ((ok_Table_sworn c).meth hr (by decide) (cl_Table c) (me_Table_sworn c) (pv 0) (pa_cons (pv 6) pa_nil)) (pe_one (pe_cmpR op_isTrue ((ok_Table_answer_for c).meth hr (by decide) (cl_Table c) (me_Table_answer_for c) (pv 0) (pa_cons (pv 6) (pa_cons (pv 4) pa_nil))) pe_bl (nomark _)))))) pa_nil))) (pss_one (ps_ret (pe_kstr (k_WON c)))) pss_nil) (pss_one (ps_ret (pe_ifExp (pt_val ((ok_is_reached c).call hr (by decide) (g_is_reached c) (pa_cons (pv 0) (pa_cons (pv 5) (pa_cons (pv 3) (pa_cons (pv 4) pa_nil)))))) (pe_kstr (k_REACHED c)) (pe_kstr (k_NEITHER c)))))))), ?_⟩
    have hT' := hT
    obtain ⟨dx, r, nu, l, mm, kn, h1, h2, h3, h4⟩ := hT'
    refine ⟨_, rfl, _, rfl, _, rfl, t, T, a, m, ms, rfl, hT, wf.toWf, ha, hm, fun H1 g1 => ⟨_, rfl, ?_⟩⟩
    unfold M.oc at k
    cases q : M.declines T.es a ms with
    | false =>
      rw [if_neg (by rw [q]; decide)] at k
      exact iteT (k _ g1)
    | true =>
      rw [if_pos q] at k
      refine iteF ⟨_, rfl, _, rfl, _, rfl, _, rfl, t, T, d, _, a, m, ms, rfl, hT.mono g1, wf, ha, hL.mono g1, hm.mono g1, g1.2 hTab, fun H2 p ks g2 hp hre h12 => ?_⟩
      have g12 := g1.trans g2
      refine ⟨_, rfl, p, rfl, ⟨_, SqL.of hp⟩, fun D hD => ?_⟩
      refine lcL (T := tt K) V.str ks (SqL.of hp) (big (Nat.le_trans h12 (by decide))) (fun n => .bl (M.sworn T.es n && decide (M.ans T.es n ms = some true))) (fun _ => true) hD (fun n hn H' g Kp Ks kp ks => ?_) (fun H' g hl => ?_)
      · have hn' := reach_names wf ha ((hre n).mp hn)
        have kp := kp rfl
        refine ⟨rfl, yesT ⟨_, rfl, t, dx, _, rfl, (g12.trans g).ins h1, rfl, _, rfl, t, T, n, rfl, hT.mono (g12.trans g), wf.toWf, hn', fun H3 g3 => ⟨_, rfl, ?_⟩⟩⟩
        cases q3 : M.sworn T.es n with
        | false =>
          rw [q3] at kp
          exact iteF (kp _ g3)
        | true =>
          rw [q3, Bool.true_and] at kp
          exact iteT ⟨_, rfl, t, dx, _, rfl, ((g12.trans g).trans g3).ins h1, rfl, _, rfl, _, rfl, t, T, n, m, ms, rfl, hT.mono ((g12.trans g).trans g3), wf.toWf, hn', hm.mono ((g12.trans g).trans g3), fun H4 g4 => ⟨_, rfl, rfl, kp _ (g3.trans g4)⟩⟩
      · refine ⟨D, ks.map (fun n => M.sworn T.es n && decide (M.ans T.es n ms = some true)), rfl, SqL.of ?_, _, rfl, ?_⟩
        · rw [hl, filter_yes, List.map_map] <;> rfl
        · rw [List.any_map]
          by_cases hw : M.won T a b ms
          · rw [if_pos hw] at k
            have e : (ks.any (id ∘ fun n => M.sworn T.es n && decide (M.ans T.es n ms = some true))) = true := (won_iff hre).mpr hw
            rw [e]
            exact iteT (k _ (g12.trans g))
          · rw [if_neg hw] at k
            have e : (ks.any (id ∘ fun n => M.sworn T.es n && decide (M.ans T.es n ms = some true))) = false := by
              cases z : ks.any (id ∘ fun n => M.sworn T.es n && decide (M.ans T.es n ms = some true)) with
              | false => rfl
              | true => exact absurd ((won_iff hre).mp z) hw
            rw [e]
            refine iteF ⟨_, rfl, _, rfl, _, rfl, _, rfl, t, T, p, ks, b, m, ms, rfl, hT.mono (g12.trans g), wf, hb, fun n hn => reach_names wf ha ((hre n).mp hn), h12, g.lst hp, hm.mono (g12.trans g), fun H5 g5 => ⟨_, rfl, ?_⟩⟩
            by_cases hr : M.reached T a b ms
            · rw [if_pos hr] at k
              rw [(reached_iff hre).mpr hr]
              exact iteT (k _ ((g12.trans g).trans g5))
            · rw [if_neg hr] at k
              have e2 : reachedB T ks b ms = false := by
                cases z : reachedB T ks b ms with
                | false => rfl
                | true => exact absurd ((reached_iff hre).mp z) hr
              rw [e2]
              exact iteF (k _ ((g12.trans g).trans g5))
end
end SW


set_option maxHeartbeats 2000000
namespace SW
open PySem PySem.Spec PyProof.Rows L2 He LamX NdefX
open SW.M (Ent Tb Oc)
/-! ## a method with a star, called -/
structure OkR (P : Program) (w : World) (K : PySem.W.Frag) (mg : Str → Option Value) (base : Heap) (k : Nat) (f : Addr) (sp : Sp) : Prop where
  F : FnR P w K mg base CX0 k f sp
theorem OkR.meth {X : Cx} {k j : Nat} {f C : Addr} {sp : Sp} {m : Str} {pos apos : Pos} {e o : Expr} {es : List Expr} {ta : TE} {t : TA} {pl : Sem Bool} (F : OkR X.prog X.w X.K X.mg X.base k f sp) (hr : Room j X.A) (hk : k ≤ j) (c : Cls X.K C) (hm : Meth X.K C m f) (ho : PE X o ta) (ha : PA X (e :: es) t)
    (hst : starEach (e :: es) X.env = (false, eval e X.env) :: starEach es X.env := by rfl) (hpl : (backTo pos (starEach es X.env)).any (·.1) = false := by rfl)
    (ht : eval (.Call (.Attribute o m apos) (e :: es) [] pos) X.env = (do
      let ov ← eval o X.env
      standAt apos.atName
      let (f, first) ← holding [ov] (getMethod ov m pl)
      callWith pos f first (backTo pos (starEach (e :: es) X.env)) (backToKw pos (keywordEach [] X.env))) := by rfl) :
    PE X (.Call (.Attribute o m apos) (e :: es) [] pos) (tMeth C m sp [] E0 ta t) := by
  refine ⟨fun pins s σ H Q I h => ?_⟩
  refine PySem.W.methodCall_KW (pl := pl) (thn (ho.run pins s σ H _ I h) fun u s1 ⟨x, H1, I1, rx, a, dx, fs, ex, ea, l, q⟩ => ?_) ht
  subst ex
  obtain rfl : u = Value.ref a := rx
  refine getmeth_ok I1 ea c hm l ?_
  refine PySem.W.callWith_K (first := [.ref a]) (h₀ := X.base) I.ok.mod.kin hm.kp (thn (ha.run pos pins s1 σ H1 _ I1 q) fun us s2 ⟨vs, H2, I2, r, q2⟩ => ⟨I2.kIn, ?_⟩) hst hpl
  dsimp only at q2
  rw [List.append_nil] at q2
  exact wpAny_call (codeAny_mono (run_fnR F.F (hr.mono hk) pass0 I2 (us := .ref a :: us) (vs := .ref a :: vs) (.cons rfl r) q2) fun r s' hq => by
    cases r with
    | error e => exact hq
    | ok fl =>
      cases fl with
      | ret u => exact hq
      | next => exact hq
      | brk => exact hq
      | cont => exact hq)
section
variable {P : Program} {w : World} {K : PySem.W.Frag} {mg : Str → Option Value} {base : Heap}
theorem RecAt.isIn {H : Hp} {r : Addr} {es : List En} (h : RecAt K H r es) (n : Str) : ∃ o, DGet H r (.str n) o ∧ o.isSome = decide (n ∈ M.names es) := by
  by_cases hn : n ∈ M.names es
  · obtain ⟨e, E, h1, _⟩ := h.get hn
    exact ⟨_, h1, (decide_eq_true hn).symm⟩
  · obtain ⟨kr, h1, h2⟩ := h
    refine ⟨_, DGet.k (k := .inr n) h1, ?_⟩
    rw [val_none (fun _ _ r => r.1) h2 hn, decide_eq_false hn] <;> rfl
def spHas (K : PySem.W.Frag) : Sp := fun vs H Q _ => ∃ (t : Addr) (T : Tb Str) (n : Str), vs = [.ref t, .str n] ∧ TabAt K H t T ∧ Ans (tt K) H Q (.bl (decide (n ∈ M.names T.es)))
theorem sc_Table_has : FnScope ["self", "name"] ["self", "name"] (defScope s_Table_has) := ⟨rfl, rfl, rfl, by decide +kernel, rfl, by decide +kernel, by decide +kernel⟩
theorem ok_Table_has (c : Tx K mg base) : Ok P w K mg base 1 (ma K (ga K "Table") "has") ["self", "name"] (spHas K) := by
  refine Ok.mk' (fd_Table_has c) sc_Table_has (fun _ _ _ _ _ _ us hl => match us, hl with | [_, _], _ => rfl) (fun vs H Q E h => ?_) (fun cdv A outer s H vs Q E hr h => ?_)
  · obtain ⟨t, T, n, rfl, _⟩ := h
    rfl
  · obtain ⟨t, T, n, rfl, ⟨dx, r, nu, l, mm, kn, h1, h2, h3, h4⟩, k⟩ := h
    refine ⟨_, (pss_one (ps_ret (pe_and (pe_callB (isiK K rfl) (by rfl) (n_isinstance c) (by first | exact PySem.boot_isinstance | exact boot_isinstance | decide +kernel) (pa_cons (pv 1) (pa_cons (pe_bltn (v := .ty "str") (by rfl) (n_str c) (by first | exact PySem.boot_str | exact boot_str | decide +kernel) rfl) pa_nil))) (pe_one (pe_cmp (pc_din (hu_of hr) (pv 1) (fldK K rfl (pv 0) rfl))))))), ?_⟩
    obtain ⟨o, q1, q2⟩ := h2.isIn n
    refine ⟨_, rfl, .str n, .ty "str", .type "str", .type "str", true, rfl, .ty _, .base (.str _), kit_ty (by decide +kernel), _, rfl, iteT ⟨_, rfl, _, rfl, t, _, dx, _, _, rfl, h1, cl_Table c, na_Table_records c, rfl, r, o, rfl, q1, ?_⟩⟩
    rw [q2]
    exact k _ (Gr.refl _)
def worF (t ca vi th cl : Addr) : List (Str × V) := [("table", .ref t), ("cache", .ref ca), ("visits", .ref vi), ("things", .ref th), ("choice_lists", .ref cl)]
/-- a world, to be read -/
def WorAt (K : PySem.W.Frag) (H : Hp) (wd : Addr) (T : Tb Str) : Prop := ∃ dx t ca vi th cl, H wd = some (.ins (ga K "World") dx (worF t ca vi th cl)) ∧ TabAt K H t T
theorem WorAt.mono {B : Tbs} {H H' : Hp} {wd : Addr} {T : Tb Str} (g : Gr B H H') (h : WorAt K H wd T) : WorAt K H' wd T := by
  obtain ⟨dx, t, ca, vi, th, cl, h1, h2⟩ := h
  exact ⟨dx, t, ca, vi, th, cl, g.ins h1, h2.mono g⟩
def spLookT (K : PySem.W.Frag) : Sp := fun vs H Q _ => ∃ (wd : Addr) (T : Tb Str) (p : Addr) (ns : List Str), vs = [.ref wd, .ref p] ∧ WorAt K H wd T ∧ H p = some (.tup (sv ns)) ∧ (∀ n ∈ ns, n ∈ M.names T.es) ∧ Ans (tt K) H Q .non
def spLook (K : PySem.W.Frag) : Sp := fun vs H Q _ => ∃ (wd : Addr) (T : Tb Str) (ns : List Str), vs = .ref wd :: sv ns ∧ WorAt K H wd T ∧ ns.length ≤ 1000 ∧ (∀ n ∈ ns, n ∈ M.names T.es) ∧ Ans (tt K) H Q .non
theorem sc_World_look : FnScope ["self", "names", "name"] ["self", "names"] (defScope s_World_look) := ⟨rfl, rfl, rfl, by decide +kernel, rfl, by decide +kernel, by decide +kernel⟩
abbrev sN_World_look : List Str := ["self", "names", "name"]
theorem ok_World_look (c : Tx K mg base) : OkR P w K mg base 3 (ma K (ga K "World") "look") (spLook K) := by
  obtain ⟨fd, F⟩ := fd_World_look c
  obtain ⟨oc, od, dV, kV, doc, pm, an, cdv, ct, osl, rfl, lk, hcd, hD, _⟩ := F.ex
  have hd : dV = .none := by
    rcases hD with ⟨e, _⟩ | ⟨e, _⟩
    · first | exact e | assumption
    · exact absurd rfl e
  subst hd
  refine ⟨(StX.fn_star (ps := ["self"]) (pv := "names") (sp := spLookT K) (k := 2) lk hcd sc_World_look StX.cxUp_none (StX.bind_star1 (B := fun us => bindArgs (PySem.W.fnOf "look" "World.look" (defArgs s_World_look) (defBody s_World_look) (defScope s_World_look) .none kV doc pm an cdv ct) ⟨us, []⟩) (p1 := "self") (pv := "names") (fun a => by rfl) (fun a r rs => by rfl)) fun A outer s H vs Q E hr h => ?_).imp fun vs H Q E h => ?_⟩
  · obtain ⟨wd, T, p, ns, rfl, ⟨dx, t, ca, vi, th, cl, h1, h2⟩, hp, hns, k⟩ := h
    refine ⟨_, PSs.nox (pss_one (ps_for PassesOwn.never rfl (piT K rfl (pv 1)) (pg_name (i := 2) sc_World_look.nd rfl (Or.inl rfl)) (pss_one (ps_if (pt_not (pt_val ((ok_Table_has c).meth hr (by decide) (cl_Table c) (me_Table_has c) (fldK K rfl (pv 0) rfl) (pa_cons (pv 2) pa_nil)))) pss_never pss_nil)))), ?_⟩
    refine ⟨_, rfl, p, rfl, ⟨_, SqT.of hp⟩, ?_⟩
    refine for_tup (K := K) (a := p) (xs := sv ns) (fun i σ H' => Gr (tt K) H H' ∧ ∃ x, σ = [some (.ref wd), some (.ref p), x]) ⟨Gr.refl _, _, rfl⟩ (fun i σ H' _ h => h.1.sqT (SqT.of hp)) ?_ ?_
    · rintro i z σ H' hi ⟨g, x, rfl⟩
      obtain ⟨o, ho, rfl⟩ := sv_at hi
      have h2' := h2
      obtain ⟨dx', r, nu, l, mm, kn, h1', _⟩ := h2'
      refine ⟨_, rfl, wd, _, dx, _, _, rfl, g.ins h1, cl_World c, na_World_table c, rfl, t, dx', _, rfl, g.ins h1', rfl, _, rfl, t, T, o, rfl, h2.mono g, fun H2 g2 => ⟨_, rfl, ?_⟩⟩
      rw [decide_eq_true (hns o (List.mem_of_getElem? ho))]
      exact iteF ⟨g.trans g2, _, rfl⟩
    · rintro σ H' ⟨g, _⟩
      exact k _ g
  · obtain ⟨wd, T, ns, rfl, hW, hlen, hns, k⟩ := h
    exact ⟨[.ref wd], sv ns, rfl, rfl, by rw [sv_len]; exact Nat.le_trans hlen (by decide), fun p hp => ⟨wd, T, p, ns, rfl, hW.mono (B := tt K) (Gr.new hp), upd_same, hns, fun H' g => k _ ((Gr.new hp).trans g)⟩⟩
def spOutcome (K : PySem.W.Frag) : Sp := fun vs H Q _ => ∃ (wd : Addr) (T : Tb Str) (a b : Str) (m : Addr) (ms : List Str), vs = [.ref wd, .str a, .str b, .ref m] ∧ WorAt K H wd T ∧ WfT T ∧ a ∈ M.names T.es ∧ b ∈ M.names T.es ∧ MsAt K H m ms ∧ Tabs (tt K) H ∧ Ans (tt K) H Q (ocV (M.oc T a b ms))
theorem sc_outcome : FnScope ["world", "cls", "other", "methods"] ["world", "cls", "other", "methods"] (defScope s_outcome) := ⟨rfl, rfl, rfl, by decide +kernel, rfl, by decide +kernel, by decide +kernel⟩
theorem ok_outcome (c : Tx K mg base) : Ok P w K mg base 9 (ga K "outcome") ["world", "cls", "other", "methods"] (spOutcome K) := by
  refine Ok.mk' (fd_outcome c) sc_outcome (fun _ _ _ _ _ _ us hl => match us, hl with | [_, _, _, _], _ => rfl) (fun vs H Q E h => ?_) (fun cdv A outer s H vs Q E hr h => ?_)
  · obtain ⟨wd, T, a, b, m, ms, rfl, _⟩ := h
    rfl
  · obtain ⟨wd, T, a, b, m, ms, rfl, hW, wf, ha, hb, hm, hTab, k⟩ := h
    refine ⟨_, (pss_cons (ps_expr ((ok_World_look c).meth hr (by decide) (cl_World c) (me_World_look c) (pv 0) (pa_cons (pv 1) (pa_cons (pv 2) pa_nil)))) (pss_one (ps_ret ((ok_outcome_in c).call hr (by decide) (g_outcome_in c) (pa_cons (fldK K rfl (pv 0) rfl) (pa_cons ((ok_held_by c).call hr (by decide) (g_held_by c) (pa_cons (fldK K rfl (pv 0) rfl) (pa_cons (pv 1) (pa_cons (pv 2) pa_nil)))) (pa_cons (pv 1) (pa_cons (pv 2) (pa_cons (pv 3) pa_nil))))))))), ?_⟩
    have hW' := hW
    obtain ⟨dx, t, ca, vi, th, cl, h1, h2⟩ := hW'
    refine ⟨_, rfl, wd, dx, _, rfl, h1, rfl, _, rfl, _, rfl, wd, T, [a, b], rfl, hW, (by show 2 ≤ 1000; decide), ?_, fun H1 g1 => ?_⟩
    · intro n hn
      rcases List.mem_cons.mp hn with rfl | hn
      · exact ha
      · rw [List.mem_singleton.mp hn]
        exact hb
    · refine ⟨_, rfl, wd, _, dx, _, _, rfl, g1.ins h1, cl_World c, na_World_table c, rfl, _, rfl, wd, _, dx, _, _, rfl, g1.ins h1, cl_World c, na_World_table c, rfl, _, rfl, _, rfl, t, T, a, b, rfl, h2.mono g1, wf.toWf, ha, hb, fun H2 d g2 hd => ?_⟩
      exact ⟨_, rfl, _, rfl, _, rfl, t, T, d, a, b, m, ms, rfl, h2.mono (g1.trans g2), wf, ha, hb, hd, hm.mono (g1.trans g2), (g1.trans g2).2 hTab, fun H3 g3 => k _ ((g1.trans g2).trans g3)⟩
/-- a list of patterns -/
def PatsAt (K : PySem.W.Frag) (H : Hp) (p : Addr) (ps : List (List Str)) : Prop := ∃ qs : List Addr, H p = some (.lst (qs.map V.ref)) ∧ Paired (fun q ms => MsAt K H q ms) qs ps
theorem PatsAt.mono {B : Tbs} {H H' : Hp} {p : Addr} {ps : List (List Str)} (g : Gr B H H') (h : PatsAt K H p ps) : PatsAt K H' p ps := by
  obtain ⟨qs, h1, h2⟩ := h
  exact ⟨qs, g.lst h1, prd_mono h2 fun q ms h => h.mono g⟩
def StAt (H : Hp) (p : Addr) (st : List (Option Oc) × Bool) : Prop := ∃ o, H p = some (.tup [.ref o, .bl st.2]) ∧ H o = some (.lst (st.1.map ocV))
theorem StAt.mono {B : Tbs} {H H' : Hp} {p : Addr} {st} (g : Gr B H H') (h : StAt H p st) : StAt H' p st :=
  let ⟨o, h1, h2⟩ := h
  ⟨o, g.tup h1, g.lst h2⟩
def spState (K : PySem.W.Frag) : Sp := fun vs H Q _ => ∃ (t : Addr) (T : Tb Str) (a b : Str) (p : Addr) (ps : List (List Str)), vs = [.ref t, .str a, .str b, .ref p] ∧ TabAt K H t T ∧ WfT T ∧ a ∈ M.names T.es ∧ b ∈ M.names T.es ∧ PatsAt K H p ps ∧ ps.length ≤ 1000 ∧ Tabs (tt K) H ∧ ∀ H' q, Gr (tt K) H H' → StAt H' q (M.state T a b ps) → Q (.ref q) H'
theorem sc_state_of : FnScope ["table", "cls", "other", "patterns", "held", "outcomes", "methods"] ["table", "cls", "other", "patterns"] (defScope s_state_of) := ⟨rfl, rfl, rfl, by decide +kernel, rfl, by decide +kernel, by decide +kernel⟩
theorem ok_state_of (c : Tx K mg base) : Ok P w K mg base 9 (ga K "state_of") ["table", "cls", "other", "patterns"] (spState K) := by
  refine Ok.mk' (fd_state_of c) sc_state_of (fun _ _ _ _ _ _ us hl => match us, hl with | [_, _, _, _], _ => rfl) (fun vs H Q E h => ?_) (fun cdv A outer s H vs Q E hr h => ?_)
  · obtain ⟨t, T, a, b, p, ps, rfl, _⟩ := h
    rfl
  · obtain ⟨t, T, a, b, p, ps, rfl, hT, wf, ha, hb, ⟨qs, hp, hq⟩, hps, hTab, k⟩ := h
    refine ⟨_, (pss_cons (ps_set (i := 4) sc_state_of.nd rfl (Or.inr rfl) ((ok_held_by c).call hr (by decide) (g_held_by c) (pa_cons (pv 0) (pa_cons (pv 1) (pa_cons (pv 2) pa_nil))))) (pss_cons (ps_setLc (i := 5) (own := [("methods", 6)]) (g := (gName 6)) (tt := tYes) rfl sc_state_of.nd rfl rfl (sw_true rfl rfl rfl (by decide +kernel)) (piL K rfl (pv 3)) (blkOk_by (N := ["table", "cls", "other", "patterns", "held", "outcomes", "methods"]) (sc := defScope s_state_of) (by decide +kernel)) (fun _ _ _ _ _ => (pg_name (i := 6) sc_state_of.nd rfl (by first | exact Or.inl rfl | exact Or.inr rfl))) (fun _ _ _ _ _ => by exact pts_nil) (fun _ _ _ _ _ => by exact ((ok_outcome_in c).call hr (by decide) (g_outcome_in c) (pa_cons (pv 0) (pa_cons (pv 4) (pa_cons (pv 1) (pa_cons (pv 2) (pa_cons (pv 6) pa_nil)))))))) (pss_one (ps_ret (pe_tup (pa_cons (pv 5) (pa_cons ((ok_has_road c).call hr (by decide) (g_has_road c) (pa_cons (pv 0) (pa_cons (pv 4) (pa_cons (pv 1) (pa_cons (pv 2) pa_nil))))) pa_nil))))))), ?_⟩
    refine ⟨_, rfl, _, rfl, _, rfl, t, T, a, b, rfl, hT, wf.toWf, ha, hb, fun H1 d g1 hd => ?_⟩
    refine ⟨_, rfl, p, rfl, ⟨_, SqL.of (g1.lst hp)⟩, fun D hD => ?_⟩
    have hqz : qs.length = ps.length := prd_len hq
    refine lcF (T := tt K) (walk_list (K := K) (a := p) (xs := qs.map V.ref)) ps (by simp [hqz]) (big hps) (fun ms => ocV (M.oc T a b ms)) (fun _ => true) hD (fun H' g => (g1.trans g).sqL (SqL.of hp)) (fun i ms x H' H'' hi g y Kp Ks kp ks => ?_) (fun H' g hl => ?_)
    · obtain ⟨rfl, hx⟩ := y
      obtain ⟨q, hqi, hm⟩ := prd_get hq hi
      rw [List.getElem?_map, hqi] at hx
      cases hx
      have gg := g1.trans g
      exact ⟨rfl, yesT ⟨_, rfl, _, rfl, _, rfl, _, rfl, _, rfl, t, T, d, a, b, q, ms, rfl, hT.mono gg, wf, ha, hb, hd.mono g, hm.mono gg, gg.2 hTab, kp rfl⟩⟩
    · have gg := g1.trans g
      refine ⟨_, rfl, _, rfl, _, rfl, _, rfl, _, rfl, t, T, d, _, a, b, rfl, hT.mono gg, wf, ha, hb, hd.mono g, gg.2 hTab, fun H2 g2 => ?_⟩
      refine ⟨by show 2 ≤ sizeLine; decide, fun z hz => k _ z ((gg.trans g2).trans (Gr.new hz)) ⟨D, ?_, ?_⟩⟩
      · rw [upd_same]
        have e : roadB T (M.heldL T.es a b) a b = M.hasRoad T a b := by
          unfold roadB M.hasRoad
          congr 1
          exact decide_eq_decide.mpr (reach_congr fun _ _ => stepN_iff)
        rw [e] <;> rfl
      · rw [upd_ne (ne_of_none (g2.lst hl) hz), g2.lst hl, filter_yes]
        show some (HO.lst (List.map (fun ms => ocV (M.oc T a b ms)) ps)) = some (HO.lst ((ps.map (M.oc T a b)).map ocV))
        rw [List.map_map] <;> rfl
end
end SW


set_option maxHeartbeats 2000000
/-! ## sets of texts -/
namespace SW
open PySem PySem.Spec PyProof.Rows L2
open PySem.Froz (SD sObj tailTx addTx TxOk)
/-- the texts l, each once, at a: the table can be walked -/
def TxAt (P : Program) (w : World) (h : Heap) (a : Addr) (l : List Str) : Prop :=
  ∃ D : SD, h.get? a = some (sObj "set" D) ∧ TxOk P w D l ∧ l.Nodup ∧ l.length < scanBound ∧ Ris D.2.2.place.toList ∧ (w.params.followText "set-order" = true ∨ D.2.2.led = true)
/-- l with k -/
def plus (l : List Str) (k : Str) : List Str := if k ∈ l then l else k :: l
theorem plus_mem {l : List Str} {k j : Str} : j ∈ plus l k ↔ j = k ∨ j ∈ l := by
  unfold plus
  by_cases h : k ∈ l
  · rw [if_pos h]
    exact ⟨.inr, fun z => z.elim (fun e => e ▸ h) id⟩
  · rw [if_neg h, List.mem_cons]
theorem plus_nodup {l : List Str} {k : Str} (h : l.Nodup) : (plus l k).Nodup := by
  unfold plus
  by_cases c : k ∈ l
  · rw [if_pos c]
    exact h
  · rw [if_neg c]
    exact List.nodup_cons.mpr ⟨c, h⟩
theorem plus_len (l : List Str) (k : Str) : (plus l k).length ≤ l.length + 1 := by
  unfold plus
  split
  · exact Nat.le_succ _
  · exact Nat.le_refl _
section
variable {P : Program} {w : World} {A : Around} {E : Value → Shared → Prop} {s : Shared} {a : Addr} {l : List Str} {k : Str} {u : Tok}
theorem TxAt.at {h h' : Heap} (R : TxAt P w h a l) (e : ∀ o, h.get? a = some o → h'.get? a = some o) : TxAt P w h' a l :=
  let ⟨D, hD, r⟩ := R
  ⟨D, e _ hD, r⟩
theorem tail_walk {ep : Nat} {es : Array (Int × Value)} {t : SetTable} {b : Bool} (r : Ris t.place.toList) : Ris (tailTx ep es t b).2.2.place.toList ∧ (tailTx ep es t b).2.2.led = t.led := by
  unfold tailTx
  split
  · exact ⟨relayAll_ris _ _ _, relayAll_led _ _ _⟩
  · exact ⟨r, rfl⟩
theorem add_walk {h : Int} {v : Value} {D : SD} (r : Ris D.2.2.place.toList) : Ris (addTx h v D).2.2.place.toList ∧ (addTx h v D).2.2.led = D.2.2.led := by
  unfold addTx
  have a := layNew_ris D.2.2 D.1 h v r
  have b := layNew_led D.2.2 D.1 h v
  split
  · obtain ⟨x, y⟩ := tail_walk (ep := D.2.1) (es := (layNew D.2.2 D.1 h v).1) (t := { (layNew D.2.2 D.1 h v).2.1 with plain := false }) (b := (layNew D.2.2 D.1 h v).2.2.1) a
    exact ⟨x, y.trans b⟩
  · obtain ⟨x, y⟩ := tail_walk (ep := D.2.1) (es := (layNew D.2.2 D.1 h v).1) (t := (layNew D.2.2 D.1 h v).2.1) (b := (layNew D.2.2 D.1 h v).2.2.1) a
    exact ⟨x, y.trans b⟩
/-- one that is in it -/
theorem add_old {D : SD} {Q : Bool → Shared → Prop} (ho : s.heap.get? a = some (sObj "set" D)) (F : TxOk P w D l) (hk : k ∈ l) (hb : l.length < scanBound) (h : Q false s) : wpAny (model P w) A (setAddHashed a (.str k u) (hashStr w k)) Q E s := by
  obtain ⟨es, ep, t⟩ := D
  have hel : ElemsOf (strKind P w) es.toList := F.el
  have hz : es.size = l.length := F.sz
  have hf : t.fits es.size = true := F.fit
  have hd : (sObj "set" (es, ep, t)).data = .set es ep t := rfl
  unfold setAddHashed setAddHashedIn
  refine wpAny_holding (wpAny_bind (wpAny_setState_of ho hd hf ?_))
  dsimp only
  rw [byScan_of rfl (by rw [hz]; exact hb) hel]
  simp only [↓reduceIte]
  unfold setAddByScan
  refine wpAny_bind ?_
  refine wpAny_bind (wpAny_rule ?_)
  refine wpAny_bind (wpAny_setScan_of (knd := strKind P w) (k := k) (PySem.Froz.is_str k u) ho hd hf hel ?_)
  cases hfi : List.findIdx? (fun e => (strKind P w).is k e.2) es.toList with
  | some j =>
    dsimp only
    exact wpAny_pure (wpAny_pure h)
  | none =>
    obtain ⟨e, he, q⟩ := (F.mem k).mp hk
    have c := List.findIdx?_eq_none_iff.mp hfi e he
    rw [q] at c
    cases c
theorem TxAt.add {Q : Bool → Shared → Prop} (R : TxAt P w s.heap a l) (room : l.length + 1 < scanBound)
    (h : ∀ b h', Heap.SameBut a s.heap h' → TxAt P w h' a (plus l k) → Q b { s with heap := h' }) : wpAny (model P w) A (setAddHashed a (.str k u) (hashStr w k)) Q E s := by
  have R' := R
  obtain ⟨D, hD, F, nd, hb, hr, hl⟩ := R'
  by_cases c : k ∈ l
  · refine add_old hD F c hb (h false s.heap (Heap.SameBut.refl a s.heap) ?_)
    unfold plus
    rw [if_pos c]
    exact R
  · refine PySem.Froz.add_x hD F c room (h true _ (Heap.SameBut.update s.heap a _) ⟨addTx (hashStr w k) (.str k u) D, PySem.Froz.get_upd _ hD rfl, ?_, plus_nodup nd, ?_, (add_walk hr).1, hl.imp id fun z => (add_walk hr).2.trans z⟩)
    · unfold plus
      rw [if_neg c]
      exact PySem.Froz.add_ok u F
    · exact Nat.lt_of_le_of_lt (plus_len l k) room
theorem TxAt.typeIs (R : TxAt P w s.heap a l) : s.TypeIs (.ref a) "set" :=
  let ⟨_, hD, _⟩ := R
  ⟨_, hD, rfl⟩
/-- found.add(k) -/
theorem TxAt.call_add {Q : Value → Shared → Prop} (R : TxAt P w s.heap a l) (room : l.length + 1 < scanBound)
    (h : ∀ h', Heap.SameBut a s.heap h' → TxAt P w h' a (plus l k) → Q .none { s with heap := h', toks := s.toks + 1 }) : wpAny (model P w) A (call (.builtin "set.add") [.ref a, .str k u]) Q E s := by
  refine wpAny_call_entry F.slot_set_add R.typeIs F.entry_set_add ?_ (F.args_set_add_2 _ _)
  unfold Builtin.«set.add» Builtin.Frozenset.oneOther
  simp only [List.isEmpty_nil, bind_assoc]
  unfold Builtin.Frozenset.addrOf setAdd
  refine wpAny_bind (wpAny_pure ?_)
  try dsimp only
  refine wpAny_bind (wpAny_pure ?_)
  try dsimp only
  refine wpAny_bind ?_
  refine wpAny_holding ?_
  refine wpAny_bind ((strKind P w).pyHash (k := k) (PySem.Froz.is_str k u) ?_)
  refine TxAt.add (s := { s with toks := s.toks + 1 }) R room fun b h' sb r => ?_
  show wpAny _ _ (ret Value.none) _ _ _
  exact wpAny_pure ⟨_, rfl, h h' sb r⟩
theorem txAt_new {h : Heap} (ho : h.get? a = some { cls := .type "set", dict := none, data := .set #[] 0 (.fresh 0 0 (!w.params.followText "set-order")) }) : TxAt P w h a [] :=
  ⟨(#[], 0, .fresh 0 0 (!w.params.followText "set-order")), ho, PySem.Froz.TxOk.nil (by rfl), List.nodup_nil, by decide, List.Pairwise.nil, by
    show _ ∨ (!w.params.followText "set-order") = true
    cases w.params.followText "set-order"
    · exact .inr rfl
    · exact .inl rfl⟩
end
/-! ### as tracked things -/
def SetS (P : Program) (w : World) (a : Addr) (l : List Str) : HO := .ext fun h => TxAt P w h a l
theorem setS_new {P : Program} {w : World} {H : Hp} {h : Heap} {a : Addr} {l : List Str} (R : TxAt P w h a l) : ObjOk P w H h a (SetS P w a l) := by
  have ⟨D, ho, _⟩ := R
  exact ⟨R, ⟨_, ho⟩, fun h1 h2 p k => TxAt.at p k⟩
section
variable {X : Cx}
theorem setS_get {pins : List (Addr × Obj)} {σ : L2.St} {H : Hp} {s : Shared} {a : Addr} {l : List Str} (I : Inv X pins σ H s) (ha : H a = some (SetS X.prog X.w a l)) : TxAt X.prog X.w s.heap a l := (I.hok a _ ha).1
theorem setS_add {pins : List (Addr × Obj)} {σ : L2.St} {H : Hp} {s : Shared} {E : Value → Shared → Prop} {D : Addr} {l : List Str} {k : Str} {u : Tok} {Q : Value → Shared → Prop} (I : Inv X pins σ H s) (hD : H D = some (SetS X.prog X.w D l)) (room : l.length + 1 < scanBound)
    (h : ∀ s', Inv X pins σ (upd H D (SetS X.prog X.w D (plus l k))) s' → Q .none s') : wpAny (model X.prog X.w) X.A (call (.builtin "set.add") [.ref D, .str k u]) Q E s := by
  have R := setS_get I hD
  refine R.call_add room fun h' sb new => ?_
  have he : ∃ u, h'.get? D = some u := by
    have ⟨_, ho, _⟩ := new
    exact ⟨_, ho⟩
  exact h _ (I.write (e := D) (t' := s.toks + 1) (by rw [hD]; trivial) (.inl rfl) (fun b u hb hu => (sb.2 b hb).trans hu) he (setS_new new))
end
theorem perm_of : ∀ {l m : List Str}, l.Nodup → (∀ x ∈ l, x ∈ m) → m.length ≤ l.length → m.Perm l
  | [], m, _, _, h => by
    have e : m = [] := List.length_eq_zero_iff.mp (Nat.le_zero.mp h)
    rw [e]
  | x :: l, m, nd, hs, h => by
    obtain ⟨n1, n2⟩ := List.nodup_cons.mp nd
    have hx : x ∈ m := hs x List.mem_cons_self
    refine (List.perm_cons_erase hx).trans (List.Perm.cons x (perm_of n2 (fun y hy => ?_) ?_))
    · exact (List.mem_erase_of_ne fun e => n1 (by rw [← e]; exact hy)).mpr (hs y (List.mem_cons_of_mem _ hy))
    · rw [List.length_erase_of_mem hx]
      have h : m.length ≤ l.length + 1 := h
      omega
/-! ### sorted -/
section
variable {P : Program} {w : World} {A : Around} {E : Value → Shared → Prop} {s : Shared} {a : Addr} {l : List Str}
theorem TxAt.sorted {Q : Value → Shared → Prop} (R : TxAt P w s.heap a l) (hh : A.handled = none) (h64 : l.length < 64)
    (h : ∀ s' p (out : Array Value) (c : Nat) (ys : List Str), (∀ b o, s.heap.get? b = some o → s'.heap.get? b = some o) → s'.gens = s.gens → s'.os = s.os → s.heap.objs.size ≤ p → s'.heap.get? p = some (seqObj "list" out c) → StrsAre out.toList ys → ys.Perm l → sortedS ys = true → Q (.ref p) s') :
    wpAny (model P w) A (call (.builtin "sorted") [.ref a]) Q E s := by
  obtain ⟨⟨es, ep, t⟩, hD, F, nd, hb, hr, hl⟩ := R
  have hz : es.size = l.length := F.sz
  refine Calls.call_function_entry kind_sorted plain_sorted entry_sorted (args_sorted1 _) ?_
  unfold Builtin.«sorted»
  refine wpAny_bind (m := checkCount "sorted" 1 1 _) (wpAny_pure ?_)
  refine wpAny_bind (collect_set (A := A.in1) hh ⟨_, hD, rfl, rfl⟩ F.fit (by rw [hz]; exact hb) hr hl fun s1 vs k1 hz1 g1 o1 pm => ?_)
  have hvl : vs.length = l.length := by rw [pm.length_eq, List.length_map, Array.length_toList]; exact hz
  have hS : StrsAre vs (vs.map strOf) := strsAre_map vs fun v hv => by
    obtain ⟨e, he, q⟩ := List.mem_map.mp (pm.mem_iff.mp hv)
    obtain ⟨⟨k, hk, _⟩, _⟩ := F.el e he
    have hk : Value.isStrOf k e.2 = true := hk
    rw [q] at hk
    cases v with
    | str x t => exact ⟨x, t, rfl⟩
    | _ => cases hk
  have pk : (vs.map strOf).Perm l := by
    refine (pm.map strOf).trans ?_
    rw [List.map_map]
    refine perm_of nd (fun k hk => ?_) (by rw [List.length_map, Array.length_toList, hz]; exact Nat.le_refl _)
    obtain ⟨e, he, q⟩ := (F.mem k).mp hk
    refine List.mem_map.mpr ⟨e, he, ?_⟩
    have q : Value.isStrOf k e.2 = true := q
    show strOf e.2 = k
    obtain ⟨h1, h2⟩ := e
    cases h2 with
    | str x t =>
      show x = k
      simpa [Value.isStrOf] using q
    | _ => cases q
  refine wpAny_bind (wpAny_newList ?_ (by rw [hvl, sizeLine_eq]; omega))
  have hoL : (s1.heap.push (seqObj "list" vs.toArray 0)).get? s1.heap.objs.size = some (seqObj "list" vs.toArray 0) := Heap.get?_push_size _ rfl
  refine wpAny_bind (wpAny_holding (wpAny_call_entry slot_list_sort ⟨_, hoL, rfl⟩ entry_list_sort (list_sort_treeK strKind_oneLt hoL hS.keysOf (fun v₁ v₂ rest e => keyKind_strs (by rw [← e]; exact hS)) (by rw [hvl]; exact h64) fun st' hp hs => ?_) (args_list_sort _)))
  obtain ⟨ys, h1, h2, h3⟩ := sorted_out_str hS hp hs
  refine ⟨_, rfl, ?_⟩
  obtain ⟨c, hc⟩ := sortedHeap_at (vs := vs) (out := (arrOf st').map (·.2)) hoL
  refine wpAny_pure ⟨_, rfl, h _ s1.heap.objs.size ((arrOf st').map (·.2)) c ys (fun b u e => ?_) g1 o1 hz1 hc h1 (h2.trans pk) h3⟩
  have q := k1 b u e
  have hlt := Heap.lt_size q
  show (sortedHeap (s1.heap.push (seqObj "list" vs.toArray 0)) s1.heap.objs.size vs ((arrOf st').map (·.2))).get? b = some u
  rw [sortedHeap_old (Nat.ne_of_lt hlt) (by rw [size_push']; exact Nat.lt_succ_of_lt hlt)]
  exact Heap.get?_push_of_some _ q
end
/-! ### set(xs) of texts -/
def plusAll : List Str → List Str → List Str
  | l, [] => l
  | l, k :: r => plusAll (plus l k) r
theorem plusAll_snoc (l xs : List Str) (k : Str) : plusAll l (xs ++ [k]) = plus (plusAll l xs) k := by
  induction xs generalizing l with
  | nil => rfl
  | cons x r ih => exact ih (plus l x)
theorem plusAll_mem {l xs : List Str} {j : Str} : j ∈ plusAll l xs ↔ j ∈ l ∨ j ∈ xs := by
  induction xs generalizing l with
  | nil => simp [plusAll]
  | cons x r ih =>
    show j ∈ plusAll (plus l x) r ↔ _
    rw [ih, plus_mem, List.mem_cons]
    constructor
    · rintro ((h | h) | h)
      · exact .inr (.inl h)
      · exact .inl h
      · exact .inr (.inr h)
    · rintro (h | h | h)
      · exact .inl (.inr h)
      · exact .inl (.inl h)
      · exact .inr h
theorem plusAll_nodup {l xs : List Str} (h : l.Nodup) : (plusAll l xs).Nodup := by
  induction xs generalizing l with
  | nil => exact h
  | cons x r ih => exact ih (plus_nodup h)
theorem plusAll_len {l xs : List Str} : (plusAll l xs).length ≤ l.length + xs.length := by
  induction xs generalizing l with
  | nil => exact Nat.le_refl _
  | cons x r ih =>
    have a := ih (l := plus l x)
    have b := plus_len l x
    show (plusAll (plus l x) r).length ≤ l.length + (r.length + 1)
    omega
theorem plusAll_dup {xs : List Str} : ∀ {l : List Str}, (∀ x ∈ xs, x ∉ l) → xs.Nodup → (plusAll l xs).length = l.length + xs.length := by
  induction xs with
  | nil => exact fun _ _ => rfl
  | cons x r ih =>
    intro l hd nd
    obtain ⟨n1, n2⟩ := List.nodup_cons.mp nd
    have e : plus l x = x :: l := by
      unfold plus
      rw [if_neg (hd x List.mem_cons_self)]
    show (plusAll (plus l x) r).length = l.length + (r.length + 1)
    rw [e, ih (fun y hy z => ?_) n2, List.length_cons]
    · omega
    · rcases List.mem_cons.mp z with z | z
      · exact n1 (z ▸ hy)
      · exact hd y (List.mem_cons_of_mem _ hy) z
section
variable {P : Program} {w : World} {A : Around} {E : Value → Shared → Prop} {s : Shared}
theorem tx_update {I : Addr} {fp wr : List Addr} {G : Array GenState → Array GenState → Prop} {n : Nat} {Pv : Nat → Value → Prop} {St : Nat → Shared → Prop} {R : Result → Shared → Prop}
    (W : WalksS P w A.in1 I fp wr G n Pv St) (S : Addr) (hSf : S ∉ fp) (xs : List Str) (hn : n = xs.length) (hb : xs.length + 1 < scanBound) (hv : ∀ i v, Pv i v → ∃ k t, xs[i]? = some k ∧ v = .str k t) :
    ∀ (m i : Nat) (s : Shared), n - i = m → i ≤ n → St i s → TxAt P w s.heap S (plusAll [] (xs.take i)) → (∀ s', Moved (S :: wr) G s s' → TxAt P w s'.heap S (plusAll [] xs) → R (.ok (.ret .none)) s') →
      codeAny (model P w) A (.builtin "set.update.loop" ⟨[.ref S, .ref I], []⟩) R s := by
  have hSw : S ∉ wr := fun h => hSf (W.sub _ h)
  have up : ∀ b ∈ wr, b ∈ S :: wr := fun b hb => List.mem_cons_of_mem _ hb
  intro m
  induction m with
  | zero =>
    intro i s hm hi st hS hR
    obtain rfl : i = n := by omega
    refine codeAny_builtin F.entry_set_update_loop ?_
    rw [Around.under_plainId F.plain_set_update_loop _]
    show wpAny _ A.in1 (pyNext (.ref I) >>= _) _ _ s
    refine wpAny_bind (W.done s _ _ st fun s' mv => ?_)
    show wpAny _ A.in1 (ret Value.none) _ _ s'
    rw [List.take_of_length_le (by omega)] at hS
    exact wpAny_pure (hR s' (mv.mono up) (hS.at fun o e => mv.heap S o hSw e))
  | succ m ih =>
    intro i s hm hi st hS hR
    have hlt : i < n := by omega
    refine codeAny_builtin F.entry_set_update_loop ?_
    rw [Around.under_plainId F.plain_set_update_loop _]
    show wpAny _ A.in1 (pyNext (.ref I) >>= _) _ _ s
    refine wpAny_bind (W.item i s _ _ hlt st fun v s' hP st' mv => ?_)
    obtain ⟨k, t, hk, rfl⟩ := hv i v hP
    have hS' : TxAt P w s'.heap S (plusAll [] (xs.take i)) := hS.at fun o e => mv.heap S o hSw e
    have hl : (plusAll [] (xs.take i)).length ≤ i := by
      have a := plusAll_len (l := []) (xs := xs.take i)
      have b := List.length_take_le i xs
      have c : ([] : List Str).length = 0 := rfl
      omega
    show wpAny _ A.in1 (holding [Value.str k t] (setAdd S (.str k t)) >>= _) _ _ s'
    refine wpAny_bind (wpAny_holding ?_)
    unfold setAdd
    refine wpAny_holding ?_
    refine wpAny_bind ((strKind P w).pyHash (k := k) (PySem.Froz.is_str k t) ?_)
    refine TxAt.add (s := { s' with toks := s'.toks + 1 }) hS' (by omega) fun _ h' sb hS2 => ?_
    have e : plusAll [] (xs.take (i + 1)) = plus (plusAll [] (xs.take i)) k := by
      rw [List.take_add_one, hk]
      exact plusAll_snoc _ _ _
    rw [← e] at hS2
    refine wpAny_pure ⟨plainId_quiet F.plain_set_update_loop _, ih (i + 1) _ (by omega) hlt (W.frame _ s' _ _ st' (Nat.le_succ _) fun b hb o q => ?_) hS2 fun s2 mv2 hS3 => ?_⟩
    · rw [sb.2 b (fun z : b = S => hSf (z ▸ hb))]
      exact q
    · refine hR s2 (Moved.trans W.gtrans ((mv.mono up).then_heap (Nat.le_succ _) fun b o hb q => ?_) mv2) hS3
      rw [sb.2 b (fun z : b = S => hb (by rw [z]; exact List.mem_cons_self))]
      exact q
abbrev set0 (w : World) : Obj := { cls := .type "set", dict := none, data := .set #[] 0 (.fresh 0 0 (!w.params.followText "set-order")) }
set_option maxHeartbeats 3200000 in
theorem set_of_tup {l : Addr} {its : Array Value} (xs : List Str) {Q : Value → Shared → Prop} (hh : A.handled = none) (hl : s.heap.IsTuple l its) (hi : StrsAre its.toList xs) (hb : xs.length + 1 < scanBound)
    (h : ∀ (h' : Heap) (tk : Nat), TxAt P w h' s.heap.objs.size (plusAll [] xs) → (∀ b o, s.heap.get? b = some o → h'.get? b = some o) → Q (.ref s.heap.objs.size) { s with heap := h', toks := tk }) :
    wpAny (model P w) A (call (.type "set") [.ref l]) Q E s := by
  have hz : its.size = xs.length := by rw [← StrsAre.len_eq hi, Array.length_toList]
  obtain ⟨c, tl, hmro⟩ := F.called_set.mro
  have hmade := F.called_set.made
  have hsub := F.called_set.sub
  refine wpAny_call (codeAny_of_tree ?_)
  show wpAny _ _ (callAny (.type "set") _) _ _ _
  refine wpAny_pure ⟨Code.quiet_builtin _ (by decide +kernel), codeAny_builtin F.entry_type_call ?_⟩
  rw [Around.under_plain (weight_type_call_type "set" [.ref l] []) rfl]
  have h1 := F.called_set.notType
  have h2 := F.called_set.canCreate
  have hct := F.typeCall_set_1 (.ref l)
  repeat (any_goals (first | assumption | wp_step))
  refine codeAny_mono (code_set_led1 (.ref l) (E := E) (Q₁ := fun obj s1 => obj = .ref s.heap.objs.size ∧ s1 = { s with heap := s.heap.push (set0 w) }) ⟨rfl, rfl⟩) fun r s1 hr => ?_
  cases r with
  | error e => exact hr
  | ok fl =>
    cases fl with
    | ret obj =>
      obtain ⟨rfl, rfl⟩ := hr
      have hS : (s.heap.push (set0 w)).get? s.heap.objs.size = some (set0 w) := Heap.get?_push_size _ rfl
      have hT : Shared.TypeIs { s with heap := s.heap.push (set0 w) } (.ref s.heap.objs.size) "set" := ⟨_, hS, rfl⟩
      have hli := F.called_set.init.lookup
      have hbi := F.called_set.init.bind (.ref s.heap.objs.size)
      repeat (any_goals (first | assumption | wp_step))
      refine codeAny_mono (codeAny_call_builtin (R := wants (fun r s2 => r = .none ∧ ∃ h' tk, s2 = { s with heap := h', toks := tk } ∧ TxAt P w h' s.heap.objs.size (plusAll [] xs) ∧ ∀ b o, s.heap.get? b = some o → h'.get? b = some o) E) F.called_set.init.plain F.entry_set_init (check_set_init_1 hT ?_)) fun r2 s2 hr2 => ?_
      · obtain ⟨ol, hol, hcl, nl, hdl⟩ := hl
        obtain ⟨ocls, odict, odata, oslots⟩ := ol
        simp only at hcl hdl
        subst hcl; subst hdl
        have hol' : (s.heap.push (set0 w)).get? l = some { cls := .type "tuple", dict := odict, data := .seq its nl, slots := oslots } := Heap.get?_push_of_some _ hol
        have hsls := F.sub_tuple_set
        have hslf := F.sub_tuple_frozenset
        have hne : (Value.type "tuple" == Value.type "dict") = false := by decide
        have hl1 : (s.heap.push (set0 w)).IsTuple l its := ⟨_, hol', rfl, nl, rfl⟩
        unfold Builtin.«set.__init__» noKeywords Builtin.Frozenset.updateFrom
        generalize hPI : pyIter = PI
        wp_walk
        subst hPI
        refine wpAny_pyIter_tuple hl1 ?_
        refine wpAny_bind (wpAny_runValue ?_)
        have hlS : l < s.heap.objs.size := Heap.lt_size hol
        have hh3 : A.in1.in1.in1.handled = none := by simp [hh]
        have hneI : l ≠ (s.heap.push (set0 w)).objs.size := by
          rw [Heap.size_push]; exact Nat.ne_of_lt (Nat.lt_succ_of_lt hlS)
        have hSf : s.heap.objs.size ∉ [(s.heap.push (set0 w)).objs.size, l] := by
          rw [Heap.size_push]; simp only [List.mem_cons, List.mem_singleton, List.not_mem_nil, or_false, not_or]
          exact ⟨Nat.ne_of_lt (Nat.lt_succ_self _), Nat.ne_of_gt hlS⟩
        have hval : ∀ (i : Nat) (v : Value), its[i]? = some v → ∃ k t, xs[i]? = some k ∧ v = .str k t := fun i v hv => by
          have hi' : i < xs.length := by rw [← hz]; exact (Array.getElem?_eq_some_iff.mp hv).1
          obtain ⟨t, e⟩ := SS.strs_at hi i v (by rw [Array.getElem?_toList]; exact hv)
          refine ⟨xs[i], t, List.getElem?_eq_getElem hi', ?_⟩
          rw [e, List.getD_eq_getElem?_getD, List.getElem?_eq_getElem hi'] <;> rfl
        refine tx_update ((Walks.tuple hh3 _ l hneI its).toS) s.heap.objs.size hSf xs hz hb hval (its.size - 0) 0 _ (by omega) (Nat.zero_le _) ⟨⟨_, Heap.get?_push_size _ rfl, rfl, rfl⟩, (hl1.push _)⟩ (txAt_new (Heap.get?_push_of_some _ hS)) ?hR
        case hR =>
          intro s' hm hS'
          obtain ⟨h', g2, d', tk', os'⟩ := s'
          have eg : g2 = s.gens := hm.gens
          have ed : d' = s.drawn := hm.drawn
          have eo : os' = s.os := hm.os
          subst eg; subst ed; subst eo
          show wpAny _ _ _ _ _ _
          refine wpAny_pure ?_
          show wpAny _ _ (ret Value.none) _ _ _
          refine wpAny_pure ⟨rfl, h', tk', rfl, hS', fun b o e => ?_⟩
          have hb0 : b < s.heap.objs.size := Heap.lt_size e
          have hb1 : b ≠ s.heap.objs.size := Nat.ne_of_lt hb0
          have hb2 : b ≠ (s.heap.push (set0 w)).objs.size := by
            rw [Heap.size_push]; exact Nat.ne_of_lt (Nat.lt_succ_of_lt hb0)
          exact hm.heap b o (by simp only [List.mem_cons, List.mem_singleton, List.not_mem_nil, or_false, not_or]; exact ⟨hb1, hb2⟩) (Heap.get?_push_of_some _ (Heap.get?_push_of_some _ e))
      · cases r2 with
        | error e => exact hr2
        | ok fl2 =>
          cases fl2 with
          | ret r =>
            obtain ⟨rfl, h', tk, rfl, hS', hk'⟩ := hr2
            repeat (any_goals (first | assumption | wp_step))
            exact h _ _ hS' hk'
          | _ => exact hr2.elim
    | _ => exact hr.elim
set_option maxHeartbeats 3200000 in
theorem set_of_lst {l : Addr} {its : Array Value} (xs : List Str) {Q : Value → Shared → Prop} (hh : A.handled = none) (hl : s.heap.IsList l its) (hi : StrsAre its.toList xs) (hb : xs.length + 1 < scanBound)
    (h : ∀ (h' : Heap) (tk : Nat), TxAt P w h' s.heap.objs.size (plusAll [] xs) → (∀ b o, s.heap.get? b = some o → h'.get? b = some o) → Q (.ref s.heap.objs.size) { s with heap := h', toks := tk }) :
    wpAny (model P w) A (call (.type "set") [.ref l]) Q E s := by
  have hz : its.size = xs.length := by rw [← StrsAre.len_eq hi, Array.length_toList]
  obtain ⟨c, tl, hmro⟩ := F.called_set.mro
  have hmade := F.called_set.made
  have hsub := F.called_set.sub
  refine wpAny_call (codeAny_of_tree ?_)
  show wpAny _ _ (callAny (.type "set") _) _ _ _
  refine wpAny_pure ⟨Code.quiet_builtin _ (by decide +kernel), codeAny_builtin F.entry_type_call ?_⟩
  rw [Around.under_plain (weight_type_call_type "set" [.ref l] []) rfl]
  have h1 := F.called_set.notType
  have h2 := F.called_set.canCreate
  have hct := F.typeCall_set_1 (.ref l)
  repeat (any_goals (first | assumption | wp_step))
  refine codeAny_mono (code_set_led1 (.ref l) (E := E) (Q₁ := fun obj s1 => obj = .ref s.heap.objs.size ∧ s1 = { s with heap := s.heap.push (set0 w) }) ⟨rfl, rfl⟩) fun r s1 hr => ?_
  cases r with
  | error e => exact hr
  | ok fl =>
    cases fl with
    | ret obj =>
      obtain ⟨rfl, rfl⟩ := hr
      have hS : (s.heap.push (set0 w)).get? s.heap.objs.size = some (set0 w) := Heap.get?_push_size _ rfl
      have hT : Shared.TypeIs { s with heap := s.heap.push (set0 w) } (.ref s.heap.objs.size) "set" := ⟨_, hS, rfl⟩
      have hli := F.called_set.init.lookup
      have hbi := F.called_set.init.bind (.ref s.heap.objs.size)
      repeat (any_goals (first | assumption | wp_step))
      refine codeAny_mono (codeAny_call_builtin (R := wants (fun r s2 => r = .none ∧ ∃ h' tk, s2 = { s with heap := h', toks := tk } ∧ TxAt P w h' s.heap.objs.size (plusAll [] xs) ∧ ∀ b o, s.heap.get? b = some o → h'.get? b = some o) E) F.called_set.init.plain F.entry_set_init (check_set_init_1 hT ?_)) fun r2 s2 hr2 => ?_
      · obtain ⟨ol, hol, hcl, nl, hdl⟩ := hl
        obtain ⟨ocls, odict, odata, oslots⟩ := ol
        simp only at hcl hdl
        subst hcl; subst hdl
        have hol' : (s.heap.push (set0 w)).get? l = some { cls := .type "list", dict := odict, data := .seq its nl, slots := oslots } := Heap.get?_push_of_some _ hol
        have hsls := F.sub_list_set
        have hslf := F.sub_list_frozenset
        have hne : (Value.type "list" == Value.type "dict") = false := by decide
        have hl1 : (s.heap.push (set0 w)).IsList l its := ⟨_, hol', rfl, nl, rfl⟩
        unfold Builtin.«set.__init__» noKeywords Builtin.Frozenset.updateFrom
        generalize hPI : pyIter = PI
        wp_walk
        subst hPI
        refine wpAny_pyIter_list hl1 ?_
        refine wpAny_bind (wpAny_runValue ?_)
        have hlS : l < s.heap.objs.size := Heap.lt_size hol
        have hh3 : A.in1.in1.in1.handled = none := by simp [hh]
        have hneI : l ≠ (s.heap.push (set0 w)).objs.size := by
          rw [Heap.size_push]; exact Nat.ne_of_lt (Nat.lt_succ_of_lt hlS)
        have hSf : s.heap.objs.size ∉ [(s.heap.push (set0 w)).objs.size, l] := by
          rw [Heap.size_push]; simp only [List.mem_cons, List.mem_singleton, List.not_mem_nil, or_false, not_or]
          exact ⟨Nat.ne_of_lt (Nat.lt_succ_self _), Nat.ne_of_gt hlS⟩
        have hval : ∀ (i : Nat) (v : Value), its[i]? = some v → ∃ k t, xs[i]? = some k ∧ v = .str k t := fun i v hv => by
          have hi' : i < xs.length := by rw [← hz]; exact (Array.getElem?_eq_some_iff.mp hv).1
          obtain ⟨t, e⟩ := SS.strs_at hi i v (by rw [Array.getElem?_toList]; exact hv)
          refine ⟨xs[i], t, List.getElem?_eq_getElem hi', ?_⟩
          rw [e, List.getD_eq_getElem?_getD, List.getElem?_eq_getElem hi'] <;> rfl
        refine tx_update ((Walks.list hh3 _ l hneI its).toS) s.heap.objs.size hSf xs hz hb hval (its.size - 0) 0 _ (by omega) (Nat.zero_le _) ⟨⟨_, Heap.get?_push_size _ rfl, rfl, rfl⟩, (hl1.push _)⟩ (txAt_new (Heap.get?_push_of_some _ hS)) ?hR
        case hR =>
          intro s' hm hS'
          obtain ⟨h', g2, d', tk', os'⟩ := s'
          have eg : g2 = s.gens := hm.gens
          have ed : d' = s.drawn := hm.drawn
          have eo : os' = s.os := hm.os
          subst eg; subst ed; subst eo
          show wpAny _ _ _ _ _ _
          refine wpAny_pure ?_
          show wpAny _ _ (ret Value.none) _ _ _
          refine wpAny_pure ⟨rfl, h', tk', rfl, hS', fun b o e => ?_⟩
          have hb0 : b < s.heap.objs.size := Heap.lt_size e
          have hb1 : b ≠ s.heap.objs.size := Nat.ne_of_lt hb0
          have hb2 : b ≠ (s.heap.push (set0 w)).objs.size := by
            rw [Heap.size_push]; exact Nat.ne_of_lt (Nat.lt_succ_of_lt hb0)
          exact hm.heap b o (by simp only [List.mem_cons, List.mem_singleton, List.not_mem_nil, or_false, not_or]; exact ⟨hb1, hb2⟩) (Heap.get?_push_of_some _ (Heap.get?_push_of_some _ e))
      · cases r2 with
        | error e => exact hr2
        | ok fl2 =>
          cases fl2 with
          | ret r =>
            obtain ⟨rfl, h', tk, rfl, hS', hk'⟩ := hr2
            repeat (any_goals (first | assumption | wp_step))
            exact h _ _ hS' hk'
          | _ => exact hr2.elim
    | _ => exact hr.elim
end
section
variable {X : Cx}
theorem strs_of_vals : ∀ {xs : List Str} {its : List Value}, Vals (sv xs) its → StrsAre its xs
  | [], _, .nil => .nil
  | x :: xs, _, .cons r t => by
    obtain ⟨u, rfl⟩ := r
    exact .cons _ _ (strs_of_vals t)
/-- sorted(s), s a set of fewer than 64 texts -/
def rSrtS (P : Program) (w : World) : List V → Hp → VK → Prop := fun vs H Q => ∃ (a : Addr) (l : List Str), vs = [.ref a] ∧ H a = some (SetS P w a l) ∧ l.length < 64 ∧ ∀ (ys : List Str) (p : Addr), ys.Perm l → sortedS ys = true → H p = none → Q (.ref p) (upd H p (.lst (sv ys)))
theorem cr_srtS (hc : X.calm = true) : CallR X (.builtin "sorted") (rSrtS X.prog X.w) := by
  intro pins s σ H vs us Q I r h
  obtain ⟨a, l, rfl, ha, h64, q⟩ := h
  rw [Vals.ref1 r]
  refine (setS_get I ha).sorted (I.ok.hd hc) h64 fun s' p out c ys k g o hp hg hi hs hm => ?_
  have hlen : (sv ys).length ≤ sizeLine := by
    unfold sv
    rw [List.length_map, hs.length_eq, sizeLine_eq]
    omega
  have hn : H p = none := I.hok.fresh hp
  have J : Inv X pins σ (upd H p (.lst (sv ys))) { s with heap := s'.heap, gens := s'.gens, drawn := s'.drawn, toks := s'.toks } :=
    I.call (ch := []) (Un.laid k hp hn) (I.hok.laid k hp ⟨hlen, out.toList, c, vals_of_strs hi, hg⟩) (by rw [g]; exact I.bare) (fun _ z => nomatch z)
  have e : s' = { s with heap := s'.heap, gens := s'.gens, drawn := s'.drawn, toks := s'.toks } := by
    cases s'
    cases s
    cases o
    rfl
  rw [e]
  exact ⟨.ref p, _, J, rfl, q ys p hs hm hn⟩
/-- set(xs), xs a list or a tuple of texts -/
def rSetS (K : PySem.W.Frag) (P : Program) (w : World) : List V → Hp → VK → Prop := fun vs H Q => ∃ (a : Addr) (xs : List Str), vs = [.ref a] ∧ (SqL K H a (sv xs) ∨ SqT K H a (sv xs)) ∧ xs.length ≤ 1000 ∧ ∀ p, H p = none → Q (.ref p) (upd H p (SetS P w p (plusAll [] xs)))
theorem cr_setS (hc : X.calm = true) : CallR X (.type "set") (rSetS X.K X.prog X.w) := by
  intro pins s σ H vs us Q I r h
  obtain ⟨a, xs, rfl, hs, h1, q⟩ := h
  rw [Vals.ref1 r]
  have hb : xs.length + 1 < scanBound := by unfold scanBound; omega
  have fin : ∀ (h' : Heap) (tk : Nat), TxAt X.prog X.w h' s.heap.objs.size (plusAll [] xs) → (∀ b o, s.heap.get? b = some o → h'.get? b = some o) → ∃ x H', Inv X pins σ H' { s with heap := h', toks := tk } ∧ RelV x (.ref s.heap.objs.size) ∧ Q x H' := fun h' tk R k =>
    ⟨.ref s.heap.objs.size, _, I.laid k (Nat.le_refl _) (setS_new R), rfl, q _ (I.hok.fresh (Nat.le_refl _))⟩
  rcases hs with hs | hs
  · obtain ⟨its, rv, hl, _⟩ := I.list hs
    exact set_of_lst xs (I.ok.hd hc) hl.isList (strs_of_vals rv) hb fin
  · obtain ⟨its, rv, pt, _⟩ := I.tuple hs
    exact set_of_tup xs (I.ok.hd hc) pt (strs_of_vals rv) hb fin
/-- len(s) -/
def rLenS (P : Program) (w : World) : List V → Hp → VK → Prop := fun vs H Q => ∃ (a : Addr) (l : List Str), vs = [.ref a] ∧ H a = some (SetS P w a l) ∧ Q (.int l.length) H
end
end SW

set_option maxHeartbeats 2000000
/-! ## set comprehensions of texts with several fors -/
namespace SW
open PySem PySem.Spec PyProof.Rows L2
abbrev TB := L2.St → Hp → (Hp → Prop) → Prop
/-- what a turn does behind its tests; vs: the slots that it may leave otherwise -/
structure PB (B : Cx) (vs : List Nat) (t : Sem Unit) (tb : TB) : Prop where
  run : ∀ (pins : List (Addr × Obj)) (s : Shared) (σ : L2.St) (H : Hp) (Nx : Hp → Prop), Inv B pins σ H s → tb σ H Nx → wpAny (model B.prog B.w) B.A t (fun _ s' => ∃ σ' H', Inv B pins σ' H' s' ∧ σ'.length = σ.length ∧ (∀ (j : Nat) v, (wipe σ vs)[j]? = some (some v) → σ'[j]? = some (some v)) ∧ Nx H') (fun _ _ => False) s
/-- one clause's turn -/
def turnOf (e : Expr) (d : Nat) (it acc : Value) (env : Env) (tg iter : Expr) (ifs : List Expr) (body : Sem Unit) : Sem Fin := do
  standAt iter.pos
  match ← pyNext it with
  | none => pure (.done .next)
  | some v =>
    letOwnedTupleGo tg it v
    assign tg env v
    let mut ok := true
    for c in ifs do
      if ok then ok ← isTrue c env (eval c env)
    if ok then body
    again (.compLoop e d it acc env)
/-- the loop of a clause from the heap H on -/
def tLoop (J : It) (g : TG) (tt : TT) (tb : TB) (vs : List Nat) (σ : L2.St) (H : Hp) (Nx : Hp → Prop) : Prop := ∃ W : Nat → Nat → Hp → Prop, (∃ m, W 0 m H) ∧ ∀ i m H, W i m H →
  (J.stop i H ∧ Nx H) ∨ (J.go i H ∧ ∃ N1 : Hp → Prop, (∀ H', N1 H' → ∃ m', m' < m ∧ W (i + 1) m' H') ∧ ∀ x H', J.yld i H x H' → g x (wipe σ vs) H' fun σ2 H2 => wipe σ2 vs = wipe σ vs ∧ tt σ2 H2 fun b H3 => if b = true then tb σ2 H3 N1 else N1 H3)
section
variable {B : Cx} {elt : Expr} {gens : List Comprehension} {scope : Scope} {pos : Pos} {d : Nat} {it : Addr} {acc : Value} {tg iter : Expr} {ifs : List Expr} {body : Sem Unit} {vs vs' : List Nat} {g : TG} {tt : TT} {tb : TB}
theorem loop_of {J : It} {fp : List Addr} {tn : Nat → Heap → Prop} {R : Result → Shared → Prop} {pins : List (Addr × Obj)} {σ : L2.St} {Nx : Hp → Prop} {H : Hp} {s : Shared} (hc : B.calm = true) (hx : B.xe = fun _ _ => False)
    (hE : compTurn (.SetComp elt gens scope pos) d (.ref it) acc B.env = turnOf (.SetComp elt gens scope pos) d (.ref it) acc B.env tg iter ifs body) (pg : PG B tg g) (pt : PTs B ifs tt) (pb : PB B vs' body tb) (hv : ∀ i ∈ vs', i ∈ vs)
    (T : Turn B.prog B.w B.K tg J fp it tn) (stat : ∀ {σ' : L2.St} {H' : Hp} {s' : Shared}, Inv B pins σ' H' s' → (∀ b ∈ fp, H' b = none) → ∀ b ∈ fp, FpOk B pins H' b) (I : Inv B pins (wipe σ vs) H s) (st : tn 0 s.heap) (nf : ∀ b ∈ fp, H b = none)
    (h : tLoop J g tt tb vs σ H Nx) (hR : ∀ s' H', Inv B pins (wipe σ vs) H' s' → (∀ b ∈ fp, H' b = none) → Nx H' → R (.ok .next) s') :
    codeAny (model B.prog B.w) B.A (.compLoop (.SetComp elt gens scope pos) d (.ref it) acc B.env) R s := by
  obtain ⟨W, ⟨m0, w0⟩, step⟩ := h
  refine codeAny_loop rfl (fun n s' => ∃ i H', Inv B pins (wipe σ vs) H' s' ∧ tn i s'.heap ∧ (∀ b ∈ fp, H' b = none) ∧ W i n H') (fun n s5 hI => ?_) m0 ⟨0, H, I, st, nf, w0⟩
  show wpAny _ B.A ((compTurn (.SetComp elt gens scope pos) d (.ref it) acc B.env).onRaise (fun x => do noteFrame x B.env; theTreesLotGoes x)) _ _ s5
  refine wpAny_noted ?_
  rw [hE]
  unfold turnOf
  obtain ⟨i, H5, I5, st5, n5, w5⟩ := hI
  refine wpAny_bind (wpAny_standAt (wpAny_bind ?_))
  rcases step i n H5 w5 with ⟨stop, q⟩ | ⟨go, N1, hN, turn⟩
  · refine thnF (T.done B rfl rfl rfl hc i pins s5 _ H5 (fun _ _ => False) I5 (stat I5 n5) st5 stop) fun r s6 ⟨hr, I6⟩ => ?_
    subst hr
    exact wpAny_pure (hR s6 H5 I6 n5 q)
  · refine thnF (T.item B rfl rfl rfl hc i pins s5 _ H5 (fun _ _ => False) I5 (stat I5 n5) st5 go) fun r s6 ⟨u, hr, h6⟩ => ?_
    subst hr
    refine wpAny_bind (thnF h6 fun _ s7 ⟨x, H7, I7, r7, y7, st7, n7⟩ => ?_)
    have I7' := I7.pinned (stat I7 n7) (T.obj _ _ st7)
    have e7 := pg.run _ s7 _ H7 x u _ I7' r7 (turn x H7 y7)
    rw [hx] at e7
    refine wpAny_bind (thnF e7 fun _ s8 ⟨σ8, H8, I8, hw8, q8⟩ => ?_)
    have e8 := pt.run _ s8 σ8 H8 _ I8 q8
    rw [hx] at e8
    refine wpAny_bind (thnF e8 fun b s9 ⟨H9, I9, q9⟩ => ?_)
    have fin : ∀ {σ9 : L2.St} {s' : Shared} {H' : Hp}, Inv B (pins ++ pinsAt fp s7.heap) σ9 H' s' → σ9.length = σ8.length → (∀ (j : Nat) v, (wipe σ8 vs)[j]? = some (some v) → σ9[j]? = some (some v)) → N1 H' →
        ∃ m, m < n ∧ ∃ i H', Inv B pins (wipe σ vs) H' s' ∧ tn i s'.heap ∧ (∀ b ∈ fp, H' b = none) ∧ W i m H' := fun {σ9 s' H'} I' hl hk nx => by
      obtain ⟨m', hm, w'⟩ := hN H' nx
      have pin' : ∀ b ∈ fp, ∀ o, s7.heap.get? b = some o → s'.heap.get? b = some o ∧ H' b = none := fun b hb o e =>
        let z := I'.pin (b, o) (List.mem_append_right _ (List.mem_append_right _ (mem_pinsAt hb e)))
        ⟨z.1, z.2.1⟩
      refine ⟨m', hm, i + 1, H', (I'.unpinned (pins := pins)).weak ?_ ?_, T.keep _ _ _ st7 fun b hb o e => (pin' b hb o e).1, fun b hb => ?_, w'⟩
      · rw [← hw8, wipe_length, hl]
      · rw [← hw8]
        exact hk
      · obtain ⟨o, e, _⟩ := T.obj _ _ st7 b hb
        exact (pin' b hb o e).2
    cases b with
    | false =>
      simp only [Bool.false_eq_true, if_false] at q9 ⊢
      exact wpAny_pure ⟨rfl, fin I9 rfl (fun j v e => (wipe_some e).1) q9⟩
    | true =>
      simp only [if_true] at q9 ⊢
      refine wpAny_bind (thnF (pb.run _ s9 σ8 H9 _ I9 q9) fun _ s10 ⟨σ', H', I', hl, hk, nx⟩ => wpAny_pure ⟨rfl, fin I' hl (fun j v e => hk j v ?_) nx⟩)
      obtain ⟨e1, e2⟩ := wipe_some e
      rw [wipe_out fun z => e2 (hv j z)]
      exact e1
/-- the element is put in -/
def tbAdd (P : Program) (w : World) (D : Addr) (te : TE) : TB := fun σ H Nx => te σ H fun y H4 => ∃ (k : Str) (l : List Str), y = .str k ∧ H4 D = some (SetS P w D l) ∧ l.length + 1 < scanBound ∧ Nx (upd H4 D (SetS P w D (plus l k)))
theorem pb_add {D : Addr} {te : TE} (hx : B.xe = fun _ _ => False) (he : PE B elt te) : PB B [] (do let v ← eval elt B.env; standAt elt.pos; let _ ← call (.builtin "set.add") [.ref D, v]) (tbAdd B.prog B.w D te) := by
  refine ⟨fun pins s σ H Nx I h => ?_⟩
  have e := he.run pins s σ H _ I h
  rw [hx] at e
  refine wpAny_bind (thnF e fun z s1 ⟨y, H1, I1, r1, k, l, ey, hD, hz, nx⟩ => ?_)
  subst ey
  obtain ⟨u, rfl⟩ := r1
  refine wpAny_bind (wpAny_standAt (wpAny_bind (setS_add I1 hD hz fun s2 I2 => wpAny_pure ⟨σ, _, I2, rfl, fun j v e => e, nx⟩)))
/-- a clause further in -/
def tbIn (wi : TI) (g : TG) (tt : TT) (tb : TB) (vs : List Nat) : TB := fun σ H Nx => wi σ H fun J H4 => tLoop J g tt tb vs σ H4 Nx
theorem pb_in {wi : TI} (hc : B.calm = true) (hx : B.xe = fun _ _ => False) (hs : ∀ x, foldedSetIterable iter B.env x = pure x)
    (hE : ∀ it : Addr, compTurn (.SetComp elt gens scope pos) (d + 1) (.ref it) acc B.env = turnOf (.SetComp elt gens scope pos) (d + 1) (.ref it) acc B.env tg iter ifs body) (hcl : (clausesOf (.SetComp elt gens scope pos))[d + 1]? = some ⟨tg, iter, ifs, 0⟩) (pi : PI B tg iter wi) (pg : PG B tg g) (pt : PTs B ifs tt) (pb : PB B vs' body tb) (hv : ∀ i ∈ vs', i ∈ vs) :
    PB B vs (do let x ← eval iter B.env; standAt iter.pos; let x ← foldedSetIterable iter B.env x; let _ ← runOwn (.compStart (.SetComp elt gens scope pos) (d + 1) (← holding [x] (pyIter x)) acc B.env) B.env) (tbIn wi g tt tb vs) := by
  refine ⟨fun pins s σ H Nx I h => ?_⟩
  have e := pi.run pins s σ H _ I h
  rw [hx] at e
  refine wpAny_bind (thnF e fun x s1 h1 => ?_)
  refine wpAny_bind (wpAny_standAt (wpAny_bind (wpAny_of_eq (hs x) (wpAny_bind (wpAny_holding (thnF h1 fun itv s2 h2 => ?_))))))
  obtain ⟨it, fp, tn, J, H2, rfl, I2, T, st, f2, q⟩ := h2
  refine wpAny_bind (wpAny_runOwn ?_)
  rw [Around.mark_none]
  have loop : codeAny (model B.prog B.w) B.A (.compLoop (.SetComp elt gens scope pos) (d + 1) (.ref it) acc B.env) (fun r s' => match r with
      | .ok _ => ∃ σ' H', Inv B pins σ' H' s' ∧ σ'.length = σ.length ∧ (∀ (j : Nat) v, (wipe σ vs)[j]? = some (some v) → σ'[j]? = some (some v)) ∧ Nx H'
      | .error _ => False) s2 :=
    loop_of hc hx (hE it) pg pt pb hv T (fun {σ' H' s'} _ hn b hb => ⟨hn b hb, (f2 b hb).2⟩) (I2.weak (wipe_length _ _) (fun j v e => (wipe_some e).1)) st (fun b hb => (f2 b hb).1) q fun s' H' I' _ nx => ⟨_, H', I', wipe_length _ _, fun j v e => e, nx⟩
  refine codeAny_mono (R := fun r s' => match r with
      | .ok _ => ∃ σ' H', Inv B pins σ' H' s' ∧ σ'.length = σ.length ∧ (∀ (j : Nat) v, (wipe σ vs)[j]? = some (some v) → σ'[j]? = some (some v)) ∧ Nx H'
      | .error _ => False) ?_ fun r s' hr => ?_
  · refine codeAny_of_tree ?_
    show wpAny _ _ ((compStart (.SetComp elt gens scope pos) (d + 1) (.ref it) acc B.env).onRaise (fun x => do noteFrame x B.env; standAt theWindowsPlace)) _ _ s2
    refine wpAny_notedAt ?_
    unfold compStart
    rw [hcl]
    show wpAny _ _ (ask >>= _) _ _ s2
    refine wpAny_bind (wpAny_askSetting (wpAny_ite ?_))
    split
    · first
        | exact wpAny_bind (wpAny_pure (wpAny_pure (And.intro rfl loop)))
        | exact wpAny_pure (And.intro rfl loop)
    · have self := T.self B.A 0 s2 (fun it' s' => codeAny (model B.prog B.w) B.A (.compLoop (.SetComp elt gens scope pos) (d + 1) it' acc B.env) (fun r s' => match r with
        | .ok _ => ∃ σ' H', Inv B pins σ' H' s' ∧ σ'.length = σ.length ∧ (∀ (j : Nat) v, (wipe σ vs)[j]? = some (some v) → σ'[j]? = some (some v)) ∧ Nx H'
        | .error _ => False) s') (fun _ _ => False) st loop
      refine wpAny_bind (wpAny_rule ?_)
      first
        | exact wpAny_bind (wpAny_standAt (wpAny_bind (thnF self (fun it' s' h' => wpAny_pure (And.intro rfl h')))))
        | exact wpAny_bind (wpAny_bind (wpAny_standAt (wpAny_pure (wpAny_bind (thnF self (fun it' s' h' => wpAny_pure (And.intro rfl h')))))))
  · cases r with
    | ok f =>
      first
        | exact wpAny_pure hr
        | exact wpAny_bind (wpAny_pure (wpAny_pure hr))
    | error e => exact hr.elim
end
end SW

set_option maxHeartbeats 2000000
namespace SW
open PySem PySem.Spec PyProof.Rows L2
section
variable {X : Cx}
def tSet (P : Program) (w : World) (wi : TI) (g : TG) (tt : TT) (tb : Addr → TB) (vs : List Nat) : TE := fun σ H Q => wi σ H fun J H1 => ∀ D, H1 D = none → tLoop J g tt (tb D) vs σ (upd H1 D (SetS P w D [])) (Q (.ref D))
theorem pe_set {elt tg iter : Expr} {ifs : List Expr} {rest : List Comprehension} {scope : Scope} {own : List (PySem.Str × Nat)} {vs' : List Nat} {pos : Pos} {wi : TI} {g : TG} {tt : TT} {tb : Addr → TB} {body : Env → Addr → Sem Unit}
    (hc : X.calm = true) (hN : X.N.Nodup) (hi : PI X tg iter wi) (ok : BlkOk X.N X.env.scope scope own) (hv : ∀ i ∈ vs', i ∈ own.map (·.2))
    (hE : ∀ (it D : Addr) (env : Env), compTurn (.SetComp elt (⟨tg, iter, ifs, 0⟩ :: rest) scope pos) 0 (.ref it) (.ref D) env = turnOf (.SetComp elt (⟨tg, iter, ifs, 0⟩ :: rest) scope pos) 0 (.ref it) (.ref D) env tg iter ifs (body env D))
    (hg : ∀ (s : Shared) (H : Hp) (C : Addr) (cl : List (PySem.Str × Addr)) (fp : List Addr), PG (X.blk s H scope (compEnvC scope cl C X.env) fp) tg g)
    (ht : ∀ (s : Shared) (H : Hp) (C : Addr) (cl : List (PySem.Str × Addr)) (fp : List Addr), PTs (X.blk s H scope (compEnvC scope cl C X.env) fp) ifs tt)
    (hb : ∀ (s : Shared) (H : Hp) (C : Addr) (cl : List (PySem.Str × Addr)) (fp : List Addr) (D : Addr), PB (X.blk s H scope (compEnvC scope cl C X.env) fp) vs' (body (compEnvC scope cl C X.env) D) (tb D))
    (hs : ∀ x, foldedSetIterable iter X.env x = pure x := by intro _; rfl) : PE X (.SetComp elt (⟨tg, iter, ifs, 0⟩ :: rest) scope pos) (tSet X.prog X.w wi g tt tb (own.map (·.2))) := by
  refine ⟨fun pins s σ H Q I h => ?_⟩
  rw [PpSet.eval_SetComp]
  have hfree : ∀ y ∈ scope.names, y.2 = .free → ∃ c, X.env.cells.lookup y.1 = some c := fun y hy e => by
    rcases ok.free y hy e with k | k
    · exact I.ok.has _ (.inl k)
    · exact I.ok.has _ (.inr k)
  refine wpAny_comprehension_free (use := none) rfl hs (closure_ok hfree) ok.kind (fun y hy e => by rw [ok.uniq y hy, e])
    (thn (hi.run pins s σ H _ I h) fun xv s1 hx => thn hx fun itv s2 h2 => ?_)
  obtain ⟨it, fp, tn, J, H2, e, I2, T, st2, f2, q⟩ := h2
  subst e
  refine PpSet.newSet_ok (newEnv_comp ?_)
  generalize hD : s2.heap.objs.size = D
  have hDn : H2 D = none := I2.hok.fresh (Nat.le_of_eq hD)
  have q := q D hDn
  generalize hs3 : ({ s2 with heap := s2.heap.push (set0 X.w) } : Shared) = s3
  have I3 : Inv X pins σ (upd H2 D (SetS X.prog X.w D [])) s3 := by
    rw [← hs3]
    refine I2.laid (t' := s2.toks) (fun b o e => Heap.get?_push_of_some _ e) (Nat.le_of_eq hD) ?_
    rw [← hD]
    exact setS_new (txAt_new (Heap.get?_push_size _ rfl))
  have h3 : s3.heap = s2.heap.push (set0 X.w) := by rw [← hs3]
  have sz : ∀ b ∈ fp, b < s2.heap.objs.size := fun b hb => by
    obtain ⟨o, e, _⟩ := T.obj _ _ st2 b hb
    exact Heap.lt_size e
  have f3 : ∀ b ∈ fp, FpOk X pins (upd H2 D (SetS X.prog X.w D [])) b ∧ b < s3.heap.objs.size := fun b hb => by
    have hlt := sz b hb
    refine ⟨⟨?_, (f2 b hb).2⟩, by rw [h3, Heap.size_push]; exact Nat.lt_succ_of_lt hlt⟩
    rw [upd_ne (by rw [← hD]; exact Nat.ne_of_lt hlt)]
    exact (f2 b hb).1
  have st3 : tn 0 s3.heap := T.keep _ _ _ st2 fun b _ o e => by rw [h3]; exact Heap.get?_push_of_some _ e
  have I4 := block_start I3 ok hN f3
  have pg := hg s3 (upd H2 D (SetS X.prog X.w D [])) s3.heap.objs.size (cellsFrom (s3.heap.objs.size + 1) scope.names (cloFrom X.env.cells scope.names [])) fp
  have pt := ht s3 (upd H2 D (SetS X.prog X.w D [])) s3.heap.objs.size (cellsFrom (s3.heap.objs.size + 1) scope.names (cloFrom X.env.cells scope.names [])) fp
  have pb := hb s3 (upd H2 D (SetS X.prog X.w D [])) s3.heap.objs.size (cellsFrom (s3.heap.objs.size + 1) scope.names (cloFrom X.env.cells scope.names [])) fp D
  show codeAny _ _ (.compStart (.SetComp elt (⟨tg, iter, ifs, 0⟩ :: rest) scope pos) 0 (.ref it) (.ref D) (compEnvC scope (cellsFrom (s3.heap.objs.size + 1) scope.names (cloFrom X.env.cells scope.names [])) s3.heap.objs.size X.env)) _ { s3 with heap := pushCells (s3.heap.push { cls := .type "dict", data := .dict #[] }) scope.names }
  have nfp : ∀ b ∈ fp, (upd H2 D (SetS X.prog X.w D [])) b = none := fun b hb => (f3 b hb).1.1
  generalize hce : compEnvC scope (cellsFrom (s3.heap.objs.size + 1) scope.names (cloFrom X.env.cells scope.names [])) s3.heap.objs.size X.env = ce at I4 pg pt pb ⊢
  have cL : ce.locals = s3.heap.objs.size := by subst hce; rfl
  generalize hH3 : upd H2 D (SetS X.prog X.w D []) = H3 at I3 I4 pg pt pb q nfp f3
  generalize hs4 : ({ s3 with heap := pushCells (s3.heap.push { cls := .type "dict", data := .dict #[] }) scope.names } : Shared) = s4 at I4 ⊢
  have st4 : tn 0 s4.heap := T.keep _ _ _ st3 fun b _ o e => by rw [← hs4]; exact pushCells_keeps _ _ _ _ (Heap.get?_push_of_some _ e)
  have stat : ∀ {σ' : L2.St} {H' : Hp} {s' : Shared}, Inv (X.blk s3 H3 scope ce fp) [] σ' H' s' → (∀ b ∈ fp, H' b = none) → ∀ b ∈ fp, FpOk (X.blk s3 H3 scope ce fp) [] H' b := fun {σ' H' s'} I' hn b hb =>
    ⟨hn b hb, (I'.ok.exf b hb).1, I'.ok.exfs b hb, .inl hb, fun x c e => (I'.ok.exf b hb).2 x c e, fun p hp => absurd (show p ∈ ([] : List (Addr × Obj)) ++ [] from hp) (by simp)⟩
  have loop : codeAny (model X.prog X.w) X.A (.compLoop (.SetComp elt (⟨tg, iter, ifs, 0⟩ :: rest) scope pos) 0 (.ref it) (.ref D) ce) (compPost (model X.prog X.w) X.A X.xe none (EP X pins σ Q) (.ref D) s3.heap.objs.size) s4 := by
    refine loop_of (B := X.blk s3 H3 scope ce fp) hc rfl (hE it D ce) pg pt pb hv T stat I4 st4 nfp q fun s6 H6 I6 n6 qq => ?_
    have I7 : Inv X pins σ H6 s6 := I3.call' (ch := fp) I6.os I6.base I6.hok I6.bare fun b hb => ⟨(f3 b hb).1.2.2.2.1, (f3 b hb).1.2.1, (f3 b hb).1.2.2.2.2.1, (f3 b hb).1.2.2.2.2.2⟩
    have nC : H6 s3.heap.objs.size = none := by
      have z : H6 ce.locals = none := I6.free
      rw [cL] at z
      exact z
    obtain ⟨m, hn, _⟩ := I6.loc
    have hn : s6.heap.Ns ce.locals m := hn
    rw [cL] at hn
    refine ⟨m, hn, fun h'' sb => ?_⟩
    obtain ⟨f0, f1, f2, f3, f4, f5⟩ := I3.fpOk (Nat.le_refl _) nC
    exact ⟨.ref D, H6, I7.turned (t' := s6.toks) (fun b o hb e => (sb.2 b hb).trans e) f0 f1 f3 f4 f5, rfl, qq⟩
  exact PpSet.codeAny_compStart_set loop (T.self X.A 0 _ _ _ st4 loop)
/-- what a turn does where a clause follows -/
def goIn (e : Expr) (d : Nat) (iter : Expr) (acc : Value) (env : Env) : Sem Unit := do
  let x ← eval iter env
  standAt iter.pos
  let x ← foldedSetIterable iter env x
  let _ ← runOwn (.compStart e (d + 1) (← holding [x] (pyIter x)) acc env) env
theorem turn_c0 (elt t0 i0 t1 i1 t2 i2 : Expr) (f0 f1 f2 : List Expr) (scope : Scope) (pos : Pos) (it acc : Value) (env : Env) :
    compTurn (.SetComp elt [⟨t0, i0, f0, 0⟩, ⟨t1, i1, f1, 0⟩, ⟨t2, i2, f2, 0⟩] scope pos) 0 it acc env = turnOf (.SetComp elt [⟨t0, i0, f0, 0⟩, ⟨t1, i1, f1, 0⟩, ⟨t2, i2, f2, 0⟩] scope pos) 0 it acc env t0 i0 f0 (goIn (.SetComp elt [⟨t0, i0, f0, 0⟩, ⟨t1, i1, f1, 0⟩, ⟨t2, i2, f2, 0⟩] scope pos) 0 i1 acc env) := by
  unfold turnOf goIn
  simp only [bind_assoc]
  rfl
theorem turn_c1 (elt t0 i0 t1 i1 t2 i2 : Expr) (f0 f1 f2 : List Expr) (scope : Scope) (pos : Pos) (it acc : Value) (env : Env) :
    compTurn (.SetComp elt [⟨t0, i0, f0, 0⟩, ⟨t1, i1, f1, 0⟩, ⟨t2, i2, f2, 0⟩] scope pos) 1 it acc env = turnOf (.SetComp elt [⟨t0, i0, f0, 0⟩, ⟨t1, i1, f1, 0⟩, ⟨t2, i2, f2, 0⟩] scope pos) 1 it acc env t1 i1 f1 (goIn (.SetComp elt [⟨t0, i0, f0, 0⟩, ⟨t1, i1, f1, 0⟩, ⟨t2, i2, f2, 0⟩] scope pos) 1 i2 acc env) := by
  unfold turnOf goIn
  simp only [bind_assoc]
  rfl
theorem turn_c2 (elt t0 i0 t1 i1 t2 i2 : Expr) (f0 f1 f2 : List Expr) (scope : Scope) (pos : Pos) (it acc : Value) (env : Env) :
    compTurn (.SetComp elt [⟨t0, i0, f0, 0⟩, ⟨t1, i1, f1, 0⟩, ⟨t2, i2, f2, 0⟩] scope pos) 2 it acc env = turnOf (.SetComp elt [⟨t0, i0, f0, 0⟩, ⟨t1, i1, f1, 0⟩, ⟨t2, i2, f2, 0⟩] scope pos) 2 it acc env t2 i2 f2 (do let v ← eval elt env; standAt elt.pos; let _ ← call (.builtin "set.add") [acc, v]) := by
  rfl
/-- three clauses -/
theorem pe_set3 {elt t0 i0 t1 i1 t2 i2 : Expr} {f0 f1 f2 : List Expr} {scope : Scope} {own : List (PySem.Str × Nat)} {v1 v2 : List Nat} {pos : Pos} {w0 w1 w2 : TI} {g0 g1 g2 : TG} {c0 c1 c2 : TT} {te : TE}
    (hc : X.calm = true) (hN : X.N.Nodup) (hi : PI X t0 i0 w0) (ok : BlkOk X.N X.env.scope scope own) (hv1 : ∀ i ∈ v1, i ∈ own.map (·.2)) (hv2 : ∀ i ∈ v2, i ∈ v1)
    (p0 : ∀ (s : Shared) (H : Hp) (C : Addr) (cl : List (PySem.Str × Addr)) (fp : List Addr), PG (X.blk s H scope (compEnvC scope cl C X.env) fp) t0 g0 ∧ PTs (X.blk s H scope (compEnvC scope cl C X.env) fp) f0 c0)
    (p1 : ∀ (s : Shared) (H : Hp) (C : Addr) (cl : List (PySem.Str × Addr)) (fp : List Addr), PI (X.blk s H scope (compEnvC scope cl C X.env) fp) t1 i1 w1 ∧ PG (X.blk s H scope (compEnvC scope cl C X.env) fp) t1 g1 ∧ PTs (X.blk s H scope (compEnvC scope cl C X.env) fp) f1 c1)
    (p2 : ∀ (s : Shared) (H : Hp) (C : Addr) (cl : List (PySem.Str × Addr)) (fp : List Addr), PI (X.blk s H scope (compEnvC scope cl C X.env) fp) t2 i2 w2 ∧ PG (X.blk s H scope (compEnvC scope cl C X.env) fp) t2 g2 ∧ PTs (X.blk s H scope (compEnvC scope cl C X.env) fp) f2 c2)
    (pe : ∀ (s : Shared) (H : Hp) (C : Addr) (cl : List (PySem.Str × Addr)) (fp : List Addr), PE (X.blk s H scope (compEnvC scope cl C X.env) fp) elt te)
    (hs : ∀ x, foldedSetIterable i0 X.env x = pure x := by intro _; rfl) (hs1 : ∀ env x, foldedSetIterable i1 env x = pure x := by intro _ _; rfl) (hs2 : ∀ env x, foldedSetIterable i2 env x = pure x := by intro _ _; rfl) :
    PE X (.SetComp elt [⟨t0, i0, f0, 0⟩, ⟨t1, i1, f1, 0⟩, ⟨t2, i2, f2, 0⟩] scope pos) (tSet X.prog X.w w0 g0 c0 (fun D => tbIn w1 g1 c1 (tbIn w2 g2 c2 (tbAdd X.prog X.w D te) v2) v1) (own.map (·.2))) := by
  refine pe_set (body := fun env D => goIn (.SetComp elt [⟨t0, i0, f0, 0⟩, ⟨t1, i1, f1, 0⟩, ⟨t2, i2, f2, 0⟩] scope pos) 0 i1 (.ref D) env) hc hN hi ok hv1 (fun it D env => turn_c0 ..) (fun s H C cl fp => (p0 s H C cl fp).1) (fun s H C cl fp => (p0 s H C cl fp).2) (fun s H C cl fp D => ?_) hs
  obtain ⟨a1, a2, a3⟩ := p1 s H C cl fp
  obtain ⟨b1, b2, b3⟩ := p2 s H C cl fp
  refine pb_in (d := 0) (acc := .ref D) hc rfl (hs1 _) (body := goIn (.SetComp elt [⟨t0, i0, f0, 0⟩, ⟨t1, i1, f1, 0⟩, ⟨t2, i2, f2, 0⟩] scope pos) 1 i2 (.ref D) _) (vs' := v2) (fun it => turn_c1 ..) (by rfl) a1 a2 a3 ?_ hv2
  refine pb_in (d := 1) (acc := .ref D) hc rfl (hs2 _) (body := do let v ← eval elt _; standAt elt.pos; let _ ← call (.builtin "set.add") [.ref D, v]) (vs' := []) (fun it => turn_c2 ..) (by rfl) b1 b2 b3 (pb_add rfl (pe s H C cl fp)) (fun i z => by cases z)

end
end SW

set_option maxHeartbeats 2000000
namespace SW
open PySem PySem.Spec PyProof.Rows L2
/-! ## texts, ascending -/
def leS (a b : Str) : Prop := ¬ (b.cps.toList < a.cps.toList)
theorem leS_trans {a b c : Str} (h : leS a b) (g : leS b c) : leS a c := by
  unfold leS at *
  rw [List.not_lt] at *
  exact List.le_trans h g
theorem str_ext {a b : Str} (h : a.cps.toList = b.cps.toList) : a = b := by
  obtain ⟨x⟩ := a
  obtain ⟨y⟩ := b
  congr 1
  exact Array.toList_inj.mp h
theorem leS_anti {a b : Str} (h : leS a b) (g : leS b a) : a = b := by
  unfold leS at *
  rw [List.not_lt] at *
  exact str_ext (List.le_antisymm h g)
theorem rising_all : ∀ (l : List Str) (p : Str), risingS p l = true → (p :: l).Pairwise leS
  | [], p, _ => List.pairwise_singleton _ _
  | x :: r, p, h => by
    have h : (!ltCps x.cps.toList p.cps.toList && risingS x r) = true := h
    obtain ⟨h1, h2⟩ := Bool.and_eq_true_iff.mp h
    have ih := rising_all r x h2
    have hx : leS p x := by
      unfold leS
      rw [ltCps_eq] at h1
      simpa using h1
    refine List.pairwise_cons.mpr ⟨fun y hy => ?_, ih⟩
    rcases List.mem_cons.mp hy with rfl | hy
    · exact hx
    · exact leS_trans hx ((List.pairwise_cons.mp ih).1 y hy)
theorem sorted_all {l : List Str} (h : sortedS l = true) : l.Pairwise leS := by
  cases l with
  | nil => exact List.Pairwise.nil
  | cons x r => exact rising_all r x h
theorem asc_unique : ∀ {l m : List Str}, l.Perm m → l.Pairwise leS → m.Pairwise leS → l = m
  | [], m, p, _, _ => p.nil_eq
  | a :: l, m, p, h, g => by
    cases m with
    | nil => exact absurd p.eq_nil (by simp)
    | cons b m =>
      obtain ⟨h1, h2⟩ := List.pairwise_cons.mp h
      obtain ⟨g1, g2⟩ := List.pairwise_cons.mp g
      have e : a = b := by
        rcases List.mem_cons.mp (p.mem_iff.mp List.mem_cons_self) with e | ha
        · exact e
        · rcases List.mem_cons.mp (p.mem_iff.mpr List.mem_cons_self) with e | hb
          · exact e.symm
          · exact leS_anti (h1 b hb) (g1 a ha)
      subst e
      rw [asc_unique ((List.perm_cons a).mp p) h2 g2]
open Classical in
/-- the texts of l, each once, ascending -/
noncomputable def asc (l : List Str) : List Str := if h : ∃ ys : List Str, ys.Perm (plusAll [] l) ∧ sortedS ys = true then Classical.choose h else []
theorem asc_of {l ys : List Str} (h1 : ys.Perm (plusAll [] l)) (h2 : sortedS ys = true) : ys = asc l := by
  have h : ∃ ys : List Str, ys.Perm (plusAll [] l) ∧ sortedS ys = true := ⟨ys, h1, h2⟩
  unfold asc
  rw [dif_pos h]
  obtain ⟨g1, g2⟩ := Classical.choose_spec h
  exact asc_unique (h1.trans g1.symm) (sorted_all h2) (sorted_all g2)
open SW.M (Ent Tb)
/-- the hooks; the methods in them; all sets of some methods -/
def hooksOf (es : List (Ent Str)) : List (List (List Str × Bool)) := es.filterMap (·.hook)
def wantsOf (h : List (List Str × Bool)) : List Str := h.flatMap (·.1)
def meths (es : List (Ent Str)) : List Str := (hooksOf es).flatMap wantsOf
def pats (ms : List Str) : List (List Str) := ms.foldl (fun found m => found ++ found.map (· ++ [m])) [[]]
theorem plusAll_app (l xs ys : List Str) : plusAll l (xs ++ ys) = plusAll (plusAll l xs) ys := by
  induction xs generalizing l with
  | nil => rfl
  | cons x r ih => exact ih (plus l x)
theorem asc_len {l L : List Str} (hL : ∀ m ∈ l, m ∈ L) : (plusAll [] l).length ≤ L.length :=
  nodup_le (plusAll_nodup List.nodup_nil) fun x hx => by
    rw [plusAll_mem] at hx
    rcases hx with h | h
    · cases h
    · exact hL x h
end SW

set_option maxHeartbeats 2000000
namespace SW
open PySem PySem.Spec PyProof.Rows L2 He LamX NdefX
open SW.M (Ent Tb Oc)
section
variable {P : Program} {w : World} {K : PySem.W.Frag} {mg : Str → Option Value} {base : Heap}
/-- what is asked of the methods in hooks -/
structure WfM (es : List En) : Prop where
  five : ∃ L : List Str, L.length ≤ 5 ∧ ∀ m ∈ meths es, m ∈ L
theorem WfM.len {es : List En} (h : WfM es) : (plusAll [] (meths es)).length ≤ 5 :=
  let ⟨L, h1, h2⟩ := h.five
  Nat.le_trans (asc_len h2) h1
theorem wipe_get {σ : L2.St} {i : Nat} : ∀ {vs : List Nat}, i ∈ vs → i < σ.length → (wipe σ vs)[i]? = some none
  | v :: vs, h, hl => by
    have e : wipe σ (v :: vs) = (wipe σ vs).set v none := rfl
    rw [e]
    by_cases hv : v = i
    · subst hv
      rw [List.getElem?_set_self (by rw [wipe_length]; exact hl)]
    · rw [List.getElem?_set_ne hv]
      exact wipe_get ((List.mem_cons.mp h).resolve_left (Ne.symm hv)) hl
theorem wipe_set {σ : L2.St} {i : Nat} {x : Option V} {vs : List Nat} (h : i ∈ vs) : wipe (σ.set i x) vs = wipe σ vs := by
  apply List.ext_getElem?
  intro j
  by_cases hj : j ∈ vs
  · by_cases hl : j < σ.length
    · rw [wipe_get hj hl, wipe_get hj (by rw [List.length_set]; exact hl)]
    · rw [List.getElem?_eq_none (by rw [wipe_length, List.length_set]; omega), List.getElem?_eq_none (by rw [wipe_length]; omega)]
  · rw [wipe_out hj, wipe_out hj, List.getElem?_set_ne]
    exact fun e => hj (e ▸ h)
theorem wipe_wipe {σ : L2.St} {vs : List Nat} : wipe (wipe σ vs) vs = wipe σ vs := by
  apply List.ext_getElem?
  intro j
  by_cases hj : j ∈ vs
  · by_cases hl : j < σ.length
    · rw [wipe_get hj hl, wipe_get hj (by rw [wipe_length]; exact hl)]
    · rw [List.getElem?_eq_none (by rw [wipe_length, wipe_length]; omega), List.getElem?_eq_none (by rw [wipe_length]; omega)]
  · rw [wipe_out hj]
theorem wp1 {σ : L2.St} {i : Nat} {x : Option V} {vs : List Nat} (h : i ∈ vs := by decide) : wipe ((wipe σ vs).set i x) vs = wipe σ vs := (wipe_set h).trans wipe_wipe
theorem wp2 {σ : L2.St} {i j : Nat} {x y : Option V} {vs : List Nat} (h : i ∈ vs := by decide) (g : j ∈ vs := by decide) : wipe (((wipe σ vs).set i x).set j y) vs = wipe σ vs := (wipe_set g).trans (wp1 h)
theorem tl_of {J : It} {n : Nat} {G : Hp → Prop} {Y : Nat → Hp → V → Hp → Prop} (wk : Walk J n G Y) {g : TG} {tc : TT} {tb : TB} {vs : List Nat} {σ : L2.St} {H : Hp} {Nx : Hp → Prop} (Pv : Nat → Hp → Prop) (h0 : Pv 0 H) (hG : ∀ i H, i ≤ n → Pv i H → G H)
    (hs : ∀ i x H H', i < n → Pv i H → Y i H x H' → g x (wipe σ vs) H' fun σ2 H2 => wipe σ2 vs = wipe σ vs ∧ tc σ2 H2 fun b H3 => if b = true then tb σ2 H3 (Pv (i + 1)) else Pv (i + 1) H3) (hd : ∀ H, Pv n H → Nx H) : tLoop J g tc tb vs σ H Nx := by
  refine ⟨fun i m H => m = n - i ∧ i ≤ n ∧ Pv i H, ⟨n, by simp, Nat.zero_le _, h0⟩, ?_⟩
  rintro i m H ⟨rfl, hi, p⟩
  have q := hG i H hi p
  by_cases hlt : i < n
  · exact .inr ⟨wk.goes i H hlt q, Pv (i + 1), fun H' p' => ⟨n - (i + 1), by omega, rfl, hlt, p'⟩, fun x H' y => hs i x H H' hlt p (wk.yields i H x H' hlt q y)⟩
  · have e : i = n := by omega
    subst e
    exact .inl ⟨wk.stops H q, hd H p⟩
theorem HookAt.lift {H H' : Hp} (t : ∀ a xs, H a = some (.tup xs) → H' a = some (.tup xs)) {v : V} {o} (h : HookAt H v o) : HookAt H' v o := by
  cases o with
  | none => exact h
  | some cl =>
    obtain ⟨a, xs, e, ha, hp⟩ := h
    exact ⟨a, xs, e, t _ _ ha, prd_mono hp fun x c ⟨p, q, e, h1, h2⟩ => ⟨p, q, e, t _ _ h1, t _ _ h2⟩⟩
theorem take_flat {A B : Type} (f : A → List B) {xs : List A} {i : Nat} {x : A} (h : xs[i]? = some x) : (xs.take (i + 1)).flatMap f = (xs.take i).flatMap f ++ f x := by
  rw [List.take_succ, h, List.flatMap_append] <;> simp
theorem plus_room {es : List En} (wm : WfM es) {xs : List Str} (h : ∀ x ∈ xs, x ∈ meths es) : (plusAll [] xs).length + 1 < scanBound := by
  obtain ⟨L, h1, h2⟩ := wm.five
  have a := asc_len (l := xs) (L := L) fun m hm => h2 m (h m hm)
  unfold scanBound
  omega
theorem val_at {R : Key × V → En → Prop} {kr : List (Key × V)} {es : List En} (h : Paired R kr es) {i : Nat} {E : En} (hE : es[i]? = some E) {k : Key} {v : V} (e : kr[i]? = some (k, v)) : R (k, v) E := by
  obtain ⟨p, h1, h2⟩ := prd_get h hE
  rw [e] at h1
  cases h1
  exact h2
def spMeth (K : PySem.W.Frag) : Sp := fun vs H Q _ => ∃ (t : Addr) (T : Tb Str), vs = [.ref t] ∧ TabAt K H t T ∧ Wf T.es ∧ WfM T.es ∧ AnsN (tt K) H Q (.lst (sv (asc (meths T.es))))
theorem sc_methods_in : FnScope ["table", "hooks", "entry", "hook", "methods", "answer", "method"] ["table"] (defScope s_methods_in) := ⟨rfl, rfl, rfl, by decide +kernel, rfl, by decide +kernel, by decide +kernel⟩
theorem ok_methods_in (c : Tx K mg base) : Ok P w K mg base 1 (ga K "methods_in") ["table"] (spMeth K) := by
  refine Ok.mk' (fd_methods_in c) sc_methods_in (fun _ _ _ _ _ _ us hl => match us, hl with | [_], _ => rfl) (fun vs H Q E h => ?_) (fun cdv A outer s H vs Q E hr h => ?_)
  · obtain ⟨t, T, rfl, _⟩ := h
    rfl
  · obtain ⟨t, T, rfl, hT, wf, wm, k⟩ := h
    refine ⟨_, (pss_cons (ps_lock (ps_setLc (i := 1) (own := [("entry", 2)]) (g := (gName 2)) rfl sc_methods_in.nd rfl rfl (sw_true rfl rfl rfl (by decide +kernel)) (pi_values (fldK K rfl (pv 0) rfl)) (blkOk_by (N := ["table", "hooks", "entry", "hook", "methods", "answer", "method"]) (sc := defScope s_methods_in) (by decide +kernel)) (fun _ _ _ _ _ => (pg_name (i := 2) sc_methods_in.nd rfl (by first | exact Or.inl rfl | exact Or.inr rfl))) (fun _ _ _ _ _ => by exact (pts_one (pt_cmpR op_notN (fldK K rfl (pv 2) rfl) pe_non (nomark _)))) (fun _ _ _ _ _ => by exact (fldK K rfl (pv 2) rfl)))) (pss_one (ps_ret (pe_callB (cr_srtS rfl) (by rfl) (n_sorted c) (by first | exact PySem.boot_sorted | exact boot_sorted | decide +kernel) (pa_cons (pe_set3 (own := [("hook", 3), ("methods", 4), ("answer", 5), ("method", 6)]) (v1 := [4, 5, 6]) (v2 := [6]) (g0 := (gName 3)) (g1 := (gTup K 2 (gCons (gName 4) (gCons (gName 5) gNil)))) (g2 := (gName 6)) rfl sc_methods_in.nd (piL K rfl (pv 1)) (blkOk_by (N := ["table", "hooks", "entry", "hook", "methods", "answer", "method"]) (sc := defScope s_methods_in) (by decide +kernel)) (by decide) (by decide) (fun _ _ _ _ _ => ⟨(pg_name (i := 3) sc_methods_in.nd rfl (by first | exact Or.inl rfl | exact Or.inr rfl)), pts_nil⟩) (fun _ _ _ _ _ => ⟨(piT K rfl (pv 3)), (gtupK K (n := 2) rfl rfl (pgs_cons (pg_name (i := 4) sc_methods_in.nd rfl (by first | exact Or.inl rfl | exact Or.inr rfl)) (pgs_cons (pg_name (i := 5) sc_methods_in.nd rfl (by first | exact Or.inl rfl | exact Or.inr rfl)) pgs_nil))), pts_nil⟩) (fun _ _ _ _ _ => ⟨(piT K rfl (pv 4)), (pg_name (i := 6) sc_methods_in.nd rfl (by first | exact Or.inl rfl | exact Or.inr rfl)), pts_nil⟩) (fun _ _ _ _ _ => (pv 6))) pa_nil))))), ?_⟩
    obtain ⟨dx, r, nu, l, mm, kn, h1, ⟨kr, hr0, hp⟩, h3, h4⟩ := hT
    refine ⟨r, _, hr0, trivial, fun od => ?_⟩
    have hlk : upd H r (.frz od (.dK kr)) r = some (.frz od (.dK kr)) := upd_same
    have l1 := lock_ne (ob := od) hr0 h1 (fun z => by cases z)
    refine ⟨_, rfl, t, _, dx, _, _, rfl, l1, cl_Table c, na_Table_records c, rfl, r, od, kr, rfl, hlk, fun D hD => ?_⟩
    refine lcR (T := tt K) (walk_values (d := r) (o := od) (kvs := kr)) T.es (prd_len hp) (big (Nat.le_trans (by have := wf.few; simp [M.names] at this; exact this) (by decide : 12 ≤ 1000))) (fun H E v => HookAt H v E.hook) (fun E v H H' g h => h.mono g) (fun E => E.hook.isSome) hD (fun H' g => gr_at g hlk nt_frz) (fun i E x H' H'' ys hE g hy y Kp Ks kp ks => ?_) (fun H' ys g hl hq => ?_)
    · obtain ⟨rfl, kk, hk1⟩ := y
      obtain ⟨_, e, q2, dx', pa, ma, li, hv, q3, _, _, q6, _⟩ := val_at hp hE hk1
      have q2 : x = .ref e := q2
      have g3 := gr_at g (lock_ne (ob := od) hr0 q3 (fun z => by cases z)) nt_ins
      have hv' : HookAt H'' hv E.hook := (q6.lift fun a xs h => lock_ne (ob := od) hr0 h (fun z => by cases z)).mono g
      have fld : (entF E pa ma li hv).lookup ("own_hook" : Str) = some hv := rfl
      subst q2
      refine ⟨rfl, _, rfl, e, _, dx', _, hv, rfl, g3, cl_Entry c, na_Entry_own_hook c, fld, ?_⟩
      cases ho : E.hook with
      | none =>
        rw [ho] at hv'
        have hv' : hv = .non := hv'
        subst hv'
        refine ⟨rfl, _, rfl, iteF (ks (by rw [ho] <;> rfl) _ (Gr.refl _))⟩
      | some cl =>
        have hv2 := hv'
        rw [ho] at hv2
        obtain ⟨a, xs, rfl, ha, hpc⟩ := hv2
        refine ⟨rfl, _, rfl, iteT ⟨_, rfl, e, _, dx', _, _, rfl, g3, cl_Entry c, na_Entry_own_hook c, fld, kp (by rw [ho] <;> rfl) _ _ (Gr.refl _) (hv'.lift fun a xs h => ?_)⟩⟩
        rw [wo_ne]
        · exact h
        · intro z
          rw [z, hy] at h
          cases h
    · have nDr : D ≠ r := fun z => by
        rw [z, hlk] at hD
        cases hD
      have gU : Gr (tt K) H (upd H' r (.dK kr)) := g.unlock hr0 nt_dK fun _ _ => code_dK
      have hrk : H' r = some (.frz od (.dK kr)) := gr_at g hlk nt_frz
      refine ⟨hrk, ?_⟩
      have hl2 : upd H' r (.dK kr) D = some (.lst ys) := by
        rw [upd_ne nDr]
        exact hl
      have hq2 : Paired (fun y E => HookAt (upd H' r (.dK kr)) y E.hook) ys (T.es.filter fun E => E.hook.isSome) := prd_mono hq fun y E h => h.lift fun a xs h => by
        rw [upd_ne]
        · exact h
        · intro z
          rw [z, hrk] at h
          cases h
      generalize upd H' r (.dK kr) = H2 at gU hl2 hq2
      -- the hooks, as they are
      have hq3 : Paired (fun y cl => ∃ a xs, y = V.ref a ∧ H2 a = some (.tup xs) ∧ Paired (ClauseAt H2) xs cl) ys (hooksOf T.es) := by
        clear hl2 hl hq
        unfold hooksOf
        generalize T.es = es at hq2
        induction es generalizing ys with
        | nil =>
          cases hq2
          exact .nil
        | cons E es ih =>
          rw [List.filter_cons] at hq2
          rw [List.filterMap_cons]
          cases ho : E.hook with
          | none =>
            rw [ho] at hq2
            exact ih _ hq2
          | some cl =>
            rw [ho] at hq2
            cases hq2 with
            | cons h t =>
              rw [ho] at h
              exact .cons h (ih _ t)
      have hmem : ∀ (h : List (List Str × Bool)), h ∈ hooksOf T.es → ∀ c ∈ h, ∀ m ∈ c.1, m ∈ meths T.es := fun h hh c hc m hm => List.mem_flatMap.mpr ⟨h, hh, List.mem_flatMap.mpr ⟨c, hc, hm⟩⟩
      have hsm : (hooksOf T.es).length ≤ 12 := by
        have a := List.length_filterMap_le (fun E : En => E.hook) T.es
        have b := wf.few
        simp [M.names] at b
        exact Nat.le_trans a b
      refine ⟨_, rfl, D, rfl, ⟨_, SqL.of hl2⟩, fun S hS => ?_⟩
      have keepL : ∀ {l}, SqL K (upd H2 S l) D ys := fun {l} => SqL.of (by rw [upd_ne (ne_of_none hl2 hS)]; exact hl2)
      refine tl_of (walk_list (K := K) (a := D) (xs := ys)) (fun i H => H = upd H2 S (SetS P w S (plusAll [] (((hooksOf T.es).take i).flatMap wantsOf)))) rfl (fun i H _ h => by rw [h]; exact keepL) (fun i x H' H'' hi h y => ?_) (fun H' h => ?_)
      · obtain ⟨rfl, hx⟩ := y
        subst h
        obtain ⟨cl, hcl, a, xs, rfl, ha, hpc⟩ := prd_getL hq3 hx
        have hclm := hmem cl (List.mem_of_getElem? hcl)
        have ha' : ∀ {l}, SqT K (upd H2 S l) a xs := fun {l} => SqT.of (by rw [upd_ne (ne_of_none ha hS)]; exact ha)
        refine ⟨wp1, yesP ⟨_, rfl, a, rfl, ⟨_, ha'⟩, ?_⟩⟩
        rw [take_flat wantsOf hcl, plusAll_app]
        generalize hL0 : plusAll [] (((hooksOf T.es).take i).flatMap wantsOf) = L0
        refine tl_of (walk_tup (K := K) (a := a) (xs := xs)) (fun j H => H = upd H2 S (SetS P w S (plusAll L0 ((cl.take j).flatMap (·.1))))) rfl (fun i H _ h => by rw [h]; exact ha') (fun j x H' H'' hj h y => ?_) (fun H' h => ?_)
        · obtain ⟨rfl, hx⟩ := y
          subst h
          obtain ⟨cc, hcc, p, q, rfl, hp1, hq1⟩ := prd_getL hpc hx
          have hp' : ∀ {l}, SqT K (upd H2 S l) p [.ref q, .bl cc.2] := fun {l} => SqT.of (by rw [upd_ne (ne_of_none hp1 hS)]; exact hp1)
          have hq' : ∀ {l}, SqT K (upd H2 S l) q (sv cc.1) := fun {l} => SqT.of (by rw [upd_ne (ne_of_none hq1 hS)]; exact hq1)
          refine ⟨p, _, rfl, hp', rfl, _, _, rfl, _, _, rfl, rfl, wp2, yesP ⟨_, rfl, q, rfl, ⟨_, hq'⟩, ?_⟩⟩
          rw [take_flat (fun c : List Str × Bool => c.1) hcc, plusAll_app]
          generalize hL1 : plusAll L0 ((cl.take j).flatMap (·.1)) = L1
          refine tl_of (walk_tup (K := K) (a := q) (xs := sv cc.1)) (fun k H => H = upd H2 S (SetS P w S (plusAll L1 (cc.1.take k)))) rfl (fun i H _ h => by rw [h]; exact hq') (fun k x H' H'' hk h y => ?_) (fun H' h => ?_)
          · obtain ⟨rfl, hx⟩ := y
            subst h
            obtain ⟨m, hm, rfl⟩ := sv_at hx
            refine ⟨wp1, yesP ⟨_, rfl, m, _, rfl, upd_same, ?_, ?_⟩⟩
            · rw [← hL1, ← hL0, ← plusAll_app, ← plusAll_app]
              refine plus_room wm fun x hx => ?_
              rcases List.mem_append.mp hx with hx | hx
              · obtain ⟨h, hh, hx⟩ := List.mem_flatMap.mp hx
                obtain ⟨c, hc, hx⟩ := List.mem_flatMap.mp hx
                exact hmem h (List.mem_of_mem_take hh) c hc x hx
              · rcases List.mem_append.mp hx with hx | hx
                · obtain ⟨c, hc, hx⟩ := List.mem_flatMap.mp hx
                  exact hclm c (List.mem_of_mem_take hc) x hx
                · exact hclm cc (List.mem_of_getElem? hcc) x (List.mem_of_mem_take hx)
            · rw [L2.upd_upd]
              congr 2
              rw [List.take_succ, hm]
              exact (plusAll_snoc _ _ _).symm
          · rw [sv_len, List.take_length] at h
            exact h
        · rw [prd_len hpc, List.take_length] at h
          exact h
      · rw [prd_len hq3, List.take_length] at h
        subst h
        have hlen := wm.len
        refine ⟨S, _, rfl, upd_same, Nat.lt_of_le_of_lt (show (plusAll [] (meths T.es)).length ≤ 5 from hlen) (by decide), fun ys p hy hsd hp => ?_⟩
        have e := asc_of (l := meths T.es) hy hsd
        subst e
        exact k _ p ((gU.trans (Gr.new hS)).trans (Gr.new hp)) upd_same
end
end SW


set_option maxHeartbeats 2000000
namespace SW
open PySem PySem.Spec PyProof.Rows L2 He LamX NdefX
open SW.M (Ent Tb Oc)
section
variable {P : Program} {w : World} {K : PySem.W.Frag} {mg : Str → Option Value} {base : Heap}
theorem asc_le (l : List Str) : (asc l).length ≤ (plusAll [] l).length := by
  unfold asc
  by_cases h : ∃ ys : List Str, ys.Perm (plusAll [] l) ∧ sortedS ys = true
  · rw [dif_pos h]
    exact Nat.le_of_eq (Classical.choose_spec h).1.length_eq
  · rw [dif_neg h]
    exact Nat.zero_le _
theorem pats_snoc (ms : List Str) (m : Str) : pats (ms ++ [m]) = pats ms ++ (pats ms).map (· ++ [m]) := by
  unfold pats
  rw [List.foldl_append] <;> rfl
theorem pats_len : ∀ (ms : List Str) (n : Nat), ms.length = n → (pats ms).length = 2 ^ n ∧ ∀ p ∈ pats ms, p.length ≤ n
  | ms, 0, h => by
    have e : ms = [] := List.length_eq_zero_iff.mp h
    subst e
    refine ⟨rfl, fun p hp => ?_⟩
    rw [List.mem_singleton.mp hp]
    exact Nat.le_refl _
  | ms, n + 1, h => by
    have hne : ms ≠ [] := fun e => by
      rw [e] at h
      cases h
    obtain ⟨l, m, rfl⟩ : ∃ l m, ms = l ++ [m] := ⟨_, _, (List.dropLast_concat_getLast hne).symm⟩
    rw [List.length_append] at h
    obtain ⟨h1, h2⟩ := pats_len l n (by simpa using h)
    rw [pats_snoc]
    refine ⟨by rw [List.length_append, List.length_map, h1]; omega, fun p hp => ?_⟩
    rcases List.mem_append.mp hp with hp | hp
    · exact Nat.le_succ_of_le (h2 p hp)
    · obtain ⟨q, hq, rfl⟩ := List.mem_map.mp hp
      have := h2 q hq
      rw [List.length_append]
      exact Nat.succ_le_succ this
theorem pats_len5 {es : List En} (wm : WfM es) : (pats (asc (meths es))).length ≤ 32 ∧ ∀ p ∈ pats (asc (meths es)), p.length ≤ 5 := by
  have h := Nat.le_trans (asc_le _) wm.len
  obtain ⟨h1, h2⟩ := pats_len (asc (meths es)) _ rfl
  refine ⟨?_, fun p hp => Nat.le_trans (h2 p hp) h⟩
  rw [h1]
  exact Nat.le_trans (Nat.pow_le_pow_right (by decide) h) (by decide)
theorem catAK (K : PySem.W.Frag) {X : Cx} (hK : X.K = K) : OpR X (binaryOp .Add) (rCatA K) := by
  subst hK
  exact op_catA
end
section
variable {P : Program} {w : World} {K : PySem.W.Frag} {mg : Str → Option Value} {base : Heap}
/-- tuples of texts in a list -/
def PtsAt (K : PySem.W.Frag) (H : Hp) (p : Addr) (ps : List (List Str)) : Prop := ∃ qs : List V, H p = some (.lst qs) ∧ Paired (fun v ms => ∃ q, v = V.ref q ∧ H q = some (.tup (sv ms))) qs ps
theorem PtsAt.pats {H : Hp} {p : Addr} {ps : List (List Str)} (h : PtsAt K H p ps) : PatsAt K H p ps := by
  obtain ⟨qs, h1, h2⟩ := h
  refine ⟨qs.map fun v => match v with | .ref q => q | _ => 0, ?_, ?_⟩
  · rw [h1, List.map_map]
    congr 2
    clear h1
    induction h2 with
    | nil => rfl
    | cons r _ ih =>
      obtain ⟨q, rfl, _⟩ := r
      rw [List.map_cons, ← ih] <;> rfl
  · clear h1
    induction h2 with
    | nil => exact .nil
    | cons r _ ih =>
      obtain ⟨q, rfl, h⟩ := r
      exact .cons (.inr (SqT.of h)) ih
theorem prd_app {α β : Type} {R : α → β → Prop} {xs xs' : List α} {ys ys' : List β} (h : Paired R xs ys) (h' : Paired R xs' ys') : Paired R (xs ++ xs') (ys ++ ys') := by
  induction h with
  | nil => exact h'
  | cons r _ ih => exact .cons r ih
theorem prd_mapR {α β γ : Type} {R : α → γ → Prop} {f : β → γ} {xs : List α} {ys : List β} (h : Paired (fun a b => R a (f b)) xs ys) : Paired R xs (ys.map f) := by
  induction h with
  | nil => exact .nil
  | cons r _ ih => exact .cons r ih
def spPats (K : PySem.W.Frag) : Sp := fun vs H Q _ => ∃ (t : Addr) (T : Tb Str), vs = [.ref t] ∧ TabAt K H t T ∧ Wf T.es ∧ WfM T.es ∧ ∀ H' p, Gr (tt K) H H' → PatsAt K H' p (pats (asc (meths T.es))) → Q (.ref p) H'
theorem sc_patterns_in : FnScope ["table", "found", "method", "pattern"] ["table"] (defScope s_patterns_in) := ⟨rfl, rfl, rfl, by decide +kernel, rfl, by decide +kernel, by decide +kernel⟩
theorem ok_patterns_in (c : Tx K mg base) : Ok P w K mg base 2 (ga K "patterns_in") ["table"] (spPats K) := by
  refine Ok.mk' (fd_patterns_in c) sc_patterns_in (fun _ _ _ _ _ _ us hl => match us, hl with | [_], _ => rfl) (fun vs H Q E h => ?_) (fun cdv A outer s H vs Q E hr h => ?_)
  · obtain ⟨t, T, rfl, _⟩ := h
    rfl
  · obtain ⟨t, T, rfl, hT, wf, wm, k⟩ := h
    refine ⟨_, (pss_cons (ps_set (i := 1) sc_patterns_in.nd rfl (Or.inl rfl) (pe_lst (pa_cons (pe_tup pa_nil) pa_nil))) (pss_cons (ps_for PassesOwn.never rfl (piL K rfl ((ok_methods_in c).call hr (by decide) (g_methods_in c) (pa_cons (pv 0) pa_nil))) (pg_name (i := 2) sc_patterns_in.nd rfl (Or.inr rfl)) (pss_one (ps_set (i := 1) sc_patterns_in.nd rfl (Or.inl rfl) (pe_op op_cat (pv 1) (pe_lc (own := [("pattern", 3)]) (g := (gName 3)) (tt := tYes) rfl sc_patterns_in.nd (piL K rfl (pv 1)) (blkOk_by (N := ["table", "found", "method", "pattern"]) (sc := defScope s_patterns_in) (by decide +kernel)) (fun _ _ _ _ _ => (pg_name (i := 3) sc_patterns_in.nd rfl (by first | exact Or.inl rfl | exact Or.inr rfl))) (fun _ _ _ _ _ => by exact pts_nil) (fun _ _ _ _ _ => by exact (pe_op (catAK K rfl) (pv 3) (pe_tup (pa_cons (pv 2) pa_nil))))))))) (pss_one (ps_ret (pv 1))))), ?_⟩
    refine ⟨by show 0 ≤ sizeLine; decide, fun z hz => ⟨by show 1 ≤ sizeLine; decide, fun f hf => ?_⟩⟩
    refine ⟨_, rfl, t, T, rfl, hT.mono (B := tt K) ((Gr.new hz).trans (Gr.new hf)), wf, wm, fun H1 ml g1 hml => ?_⟩
    have g01 : Gr (tt K) H H1 := ((Gr.new hz).trans (Gr.new hf)).trans g1
    have l5 : (asc (meths T.es)).length ≤ 5 := Nat.le_trans (asc_le _) wm.len
    refine ⟨ml, rfl, ⟨_, SqL.of hml⟩, ?_⟩
    refine for_list (xs := sv (asc (meths T.es))) (fun i σ H' => Gr (tt K) H1 H' ∧ ∃ pf x y, σ = [some (.ref t), some (.ref pf), x, y] ∧ PtsAt K H' pf (pats ((asc (meths T.es)).take i))) ⟨Gr.refl _, _, _, _, rfl, ⟨[.ref z], g1.lst upd_same, .cons ⟨z, rfl, g1.tup ?_⟩ .nil⟩⟩ (fun i σ H' _ h => h.1.sqL (SqL.of hml)) ?_ ?_
    · rw [upd_ne (ne_of_none upd_same hf)]
      exact upd_same
    · rintro i x σ H' hi ⟨g, pf, x', y', rfl, qs, hpf, hqs⟩
      obtain ⟨m, hm, rfl⟩ := sv_at hi
      have hi5 : i < 5 := Nat.lt_of_lt_of_le (List.getElem?_eq_some_iff.mp hm).1 l5
      obtain ⟨p1, p2⟩ := pats_len ((asc (meths T.es)).take i) i (by rw [List.length_take]; have := (List.getElem?_eq_some_iff.mp hm).1; omega)
      have p3 : (pats ((asc (meths T.es)).take i)).length ≤ 16 := by
        rw [p1]
        exact Nat.le_trans (Nat.pow_le_pow_right (by decide) (by omega : i ≤ 4)) (by decide)
      refine ⟨_, rfl, _, rfl, pf, rfl, ⟨_, SqL.of hpf⟩, fun D hD => ?_⟩
      refine lcR (T := tt K) (walk_list (K := K) (a := pf) (xs := qs)) (pats ((asc (meths T.es)).take i)) (prd_len hqs) (Nat.le_trans p3 (by decide)) (fun H p v => ∃ q, v = V.ref q ∧ H q = some (.tup (sv (p ++ [m])))) (fun b v H H' g h => let ⟨q, e, h⟩ := h; ⟨q, e, g.tup h⟩) (fun _ => true) hD (fun H2 g2 => g2.sqL (SqL.of hpf)) (fun j p x H2 H3 ys hj g2 hy y Kp Ks kp ks => ?_) (fun H2 ys g2 hl hq => ?_)
      · obtain ⟨rfl, hx⟩ := y
        obtain ⟨v, hv, q, rfl, hqq⟩ := prd_get hqs hj
        rw [hv] at hx
        cases hx
        have hql := p2 p (List.mem_of_getElem? hj)
        refine ⟨rfl, yesT ⟨_, rfl, _, rfl, by show 1 ≤ sizeLine; decide, fun u hu => ?_⟩⟩
        have hq2 := g2.tup hqq
        refine ⟨q, u, _, _, rfl, rfl, SqT.of (by rw [upd_ne (ne_of_none hq2 hu)]; exact hq2), SqT.of upd_same, ?_, fun e => ?_, fun _ e => (by cases e), fun _ _ r hr => ?_⟩
        · rw [sv_len]
          exact Nat.le_trans (Nat.add_le_add_right hql 1) (by unfold sizeLine; omega)
        · have e : p = [] := by
            cases p with
            | nil => rfl
            | cons a b => cases e
          subst e
          refine kp rfl _ _ (Gr.new hu) ⟨u, rfl, ?_⟩
          rw [wo_ne]
          · exact upd_same
          · intro z
            subst z
            rw [hy] at hu
            cases hu
        · refine kp rfl _ _ ((Gr.new hu).trans (Gr.new hr)) ⟨r, rfl, ?_⟩
          rw [wo_ne]
          · rw [upd_same]
            unfold sv
            rw [List.map_append] <;> rfl
          · intro z
            subst z
            rw [upd_ne (ne_of_none hy hu), hy] at hr
            cases hr
      · rw [filter_yes] at hq
        have hpf2 := g2.lst hpf
        refine ⟨pf, D, _, _, rfl, rfl, hpf2, hl, ?_, fun f2 hf2 => ?_⟩
        · rw [prd_len hqs, prd_len hq]
          exact Nat.le_trans (Nat.add_le_add p3 p3) (by unfold sizeLine; omega)
        · refine ⟨(g.trans g2).trans (Gr.new hf2), f2, _, _, rfl, ?_⟩
          have et : (asc (meths T.es)).take (i + 1) = (asc (meths T.es)).take i ++ [m] := by
            rw [List.take_succ, hm] <;> rfl
          rw [et, pats_snoc]
          refine ⟨_, upd_same, prd_app (prd_mono hqs fun v p ⟨q, e, h⟩ => ⟨q, e, (g2.trans (Gr.new hf2)).tup h⟩) ?_⟩
          refine prd_mapR (prd_mono hq fun v p ⟨q, e, h⟩ => ⟨q, e, ?_⟩)
          exact (Gr.new (T := tt K) hf2).tup h
    · rintro σ H' ⟨g, pf, x, y, rfl, hp⟩
      rw [sv_len, List.take_length] at hp
      exact ⟨_, rfl, k _ _ (g01.trans g) hp.pats⟩
end
end SW


set_option maxHeartbeats 2000000
/-! ## sorted(d.items()): pairs of texts -/
namespace SW
open PySem PySem.Spec PyProof.Rows L2
/-- several objects laid, the old ones as they were -/
theorem laid_many {X : Cx} {pins : List (Addr × Obj)} {σ : L2.St} {H H' : Hp} {s : Shared} {h' : Heap} {tk : Nat} (I : Inv X pins σ H s) (k : ∀ b u, s.heap.get? b = some u → h'.get? b = some u) (kp : ∀ b u, H b = some u → H' b = some u)
    (new : ∀ b u, H' b = some u → H b = some u ∨ (s.heap.objs.size ≤ b ∧ ObjOk X.prog X.w H' h' b u)) : Inv X pins σ H' { s with heap := h', toks := tk } := by
  refine I.call' (ch := []) rfl ⟨fun b o q _ _ _ => k b o q, fun b o q _ _ _ => ⟨o.slots, k b o q⟩, fun b o q n _ => ?_, fun b o q _ => ⟨o, k b o q⟩, fun b xs q => kp b _ q, fun b o u q => kp b _ q, fun b ps q => ⟨#[], by rw [kp b _ q]; simp⟩⟩ (fun b u q => ?_) I.bare fun b z => by simp at z
  · cases e : H' b with
    | none => rfl
    | some u =>
      rcases new b u e with z | ⟨z, _⟩
      · rw [n] at z
        cases z
      · exact absurd (Heap.lt_size q) (Nat.not_lt.mpr z)
  · rcases new b u q with z | ⟨_, z⟩
    · exact (I.hok b u z).stay (fun d v _ y => k d v y) (fun d y => kp d _ y) fun d xs y => kp d _ y
    · exact z
theorem uniq_sorted {A : Type} {le : A → A → Prop} (anti : ∀ a b, le a b → le b a → a = b) : ∀ {l m : List A}, l.Perm m → l.Pairwise le → m.Pairwise le → l = m
  | [], m, p, _, _ => p.nil_eq
  | a :: l, m, p, h, g => by
    cases m with
    | nil => exact absurd p.eq_nil (by simp)
    | cons b m =>
      obtain ⟨h1, h2⟩ := List.pairwise_cons.mp h
      obtain ⟨g1, g2⟩ := List.pairwise_cons.mp g
      have e : a = b := by
        rcases List.mem_cons.mp (p.mem_iff.mp List.mem_cons_self) with e | ha
        · exact e
        · rcases List.mem_cons.mp (p.mem_iff.mpr List.mem_cons_self) with e | hb
          · exact e.symm
          · exact anti a b (h1 b hb) (g1 a ha)
      subst e
      rw [uniq_sorted anti ((List.perm_cons a).mp p) h2 g2]
abbrev PO : PyProof.Rows.KeyOrd := listOrd itemOrd
def keyP (p : Str × Str) : List (Int ⊕ List Nat) := [.inr p.1.cps.toList, .inr p.2.cps.toList]
def leP (p q : Str × Str) : Prop := PO.kle (keyP p) (keyP q)
theorem leP_anti (p q : Str × Str) (h : leP p q) (g : leP q p) : p = q := by
  have e : keyP p = keyP q := PO.total _ _ g h
  unfold keyP at e
  injection e with e1 e2
  injection e2 with e2 _
  injection e1 with e1
  injection e2 with e2
  exact Prod.ext (str_ext e1) (str_ext e2)
open Classical in
/-- the pairs of ms, ascending -/
noncomputable def ascP (ms : List (Str × Str)) : List (Str × Str) := if h : ∃ ys : List (Str × Str), ys.Perm ms ∧ ys.Pairwise leP then Classical.choose h else []
theorem ascP_of {ms ys : List (Str × Str)} (h1 : ys.Perm ms) (h2 : ys.Pairwise leP) : ys = ascP ms := by
  have h : ∃ ys : List (Str × Str), ys.Perm ms ∧ ys.Pairwise leP := ⟨ys, h1, h2⟩
  unfold ascP
  rw [dif_pos h]
  obtain ⟨g1, g2⟩ := Classical.choose_spec h
  exact uniq_sorted leP_anti (h1.trans g1.symm) h2 g2
abbrev allS : Nat → Bool := fun _ => true
/-- what pair of texts a value of the heap is -/
def pairIn (h : Heap) (v : Value) : Str × Str := match G.tupKeyC h allS v with
  | some [.inr a, .inr b] => (⟨a.toArray⟩, ⟨b.toArray⟩)
  | _ => (Str.empty, Str.empty)
theorem key_in {h : Heap} {a : Addr} {x y : Str} {t u : Tok} (e : h.get? a = some { cls := .type "tuple", data := .seq #[.str x t, .str y u] }) : G.tupKeyC h allS (.ref a) = some (keyP (x, y)) := by
  unfold G.tupKeyC
  have h1 : G.isTupObj h (.ref a) = true := by
    show (match h.get? a with | some o => (match o.cls with | .type n => n == "tuple" | _ => false) | none => false) = true
    rw [e] <;> rfl
  rw [if_pos h1]
  show (match h.get? a with | some o => (match o.data with | .seq xs _ => tupItems allS 0 xs.toList | _ => none) | none => none) = _
  rw [e] <;> rfl
theorem pair_in {h : Heap} {a : Addr} {x y : Str} {t u : Tok} (e : h.get? a = some { cls := .type "tuple", data := .seq #[.str x t, .str y u] }) : pairIn h (.ref a) = (x, y) := by
  unfold pairIn
  rw [key_in e] <;> rfl
section
variable {X : Cx} {e : Expr} {te : TE} {p apos cpos pos : Pos}
/-- a new list of new pairs: those of d, ascending -/
def tSrtItems (te : TE) : TE := fun σ H Q => te σ H fun x H1 => ∃ (d : Addr) (ms : List (Str × Str)), x = .ref d ∧ H1 d = some (.dK (marksKV ms)) ∧ ms.length ≤ 1000 ∧
  ∀ (H' : Hp) (l : Addr) (as : List Addr), (∀ b o, H1 b = some o → H' b = some o) → H' l = some (.lst (as.map V.ref)) → Paired (fun a (q : Str × Str) => H' a = some (.tup [.str q.1, .str q.2])) as (ascP ms) → Q (.ref l) H'
theorem paired_of {A B : Type} {R : A → B → Prop} : ∀ {xs : List A} {ys : List B}, xs.length = ys.length → (∀ (i : Nat) a b, xs[i]? = some a → ys[i]? = some b → R a b) → Paired R xs ys
  | [], [], _, _ => .nil
  | [], _ :: _, h, _ => by cases h
  | _ :: _, [], h, _ => by cases h
  | a :: xs, b :: ys, h, r => .cons (r 0 a b rfl rfl) (paired_of (Nat.succ.inj h) fun i a b h1 h2 => r (i + 1) a b h1 h2)
theorem tups_of {h : Heap} {as : List Addr} : ∀ {vs : List Value}, (∀ v ∈ vs, ∃ (a : Addr) (q : Str × Str) (t u : Tok), v = .ref a ∧ a ∈ as ∧ h.get? a = some { cls := .type "tuple", data := .seq #[.str q.1 t, .str q.2 u] }) → ∃ fs, TupsOf h allS vs fs
  | [], _ => ⟨[], .nil⟩
  | v :: vs, hv => by
    obtain ⟨fs, r⟩ := tups_of (vs := vs) fun u hu => hv u (List.mem_cons_of_mem _ hu)
    obtain ⟨a, q, t, u, e, _, h1⟩ := hv v List.mem_cons_self
    exact ⟨.str q.1 t :: fs, .cons ⟨a, _, _, 0, e, h1, rfl, rfl, rfl, (fun z => by cases z), fun _ => ⟨_, _, rfl⟩⟩ r⟩
theorem pe_srtItems (hc : X.calm = true) (he : PE X e te) (hg : Gl X "sorted") (hm : X.mg "sorted" = none) (hbase : attributeBase e "items" X.env (eval e X.env) = eval e X.env := by rfl) (hline : (apos.endLine == cpos.line) = true := by rfl)
    (hs : starEach [.Call (.Attribute e "items" apos) [] [] cpos] X.env = (false, eval (.Call (.Attribute e "items" apos) [] [] cpos) X.env) :: starEach [] X.env := by rfl) :
    PE X (.Call (.Name "sorted" p) [.Call (.Attribute e "items" apos) [] [] cpos] [] pos) (tSrtItems te) := by
  refine ⟨fun pins s σ H Q I hq => ?_⟩
  refine wpAny_Call_Name_kw (ld_blt I hg hm boot_sorted ?_)
  refine callWith_builtin1 ?_ hs rfl
  rw [hs]
  show wpAny _ _ (spliced ((false, eval (.Call (.Attribute e "items" apos) [] [] cpos) X.env) :: backTo pos (starEach [] X.env))) _ _ s
  refine Calls.spliced_cons ?_
  refine wpAny_Call_method (T := "dict") (id := "dict.items") hbase rfl hline F.plainAttrs_dict F.slot_dict_items F.type_dict_items (thn (he.run pins s σ H _ I hq) fun u s1 ⟨x, H1, I1, rx, d, ms, ex, hd, hlen, q⟩ => ?_)
  subst ex
  obtain rfl : u = Value.ref d := rx
  obtain ⟨hz, hs0, vs, kv, hdo⟩ := I1.hok d _ hd
  obtain ⟨ep, hat⟩ := hdo.dictAt
  have lk : ms.length = vs.length := by
    have z := Paired.length kv
    unfold marksKV at z
    rw [List.length_map] at z
    exact z
  refine ⟨hdo.typeIs, hdo.mapOf.noDict, ?_⟩
  show wpAny _ _ (callWith cpos (.builtin "dict.items") [.ref d] [] []) _ X.xe s1
  refine method_meetsIn F.slot_dict_items F.entry_dict_items rfl (PySem.evalArgs_none ⟨rfl, hdo.typeIs, F.args_dict_items_1 _, _, meets_dict_items (mixKind X.prog X.w) d hs0, ⟨vs, hdo⟩, ?_⟩)
  refine Calls.spliced_nil ?_
  refine Calls.call_function_entry kind_sorted plain_sorted entry_sorted (args_sorted1 _) ?_
  unfold Builtin.«sorted»
  refine wpAny_bind (m := checkCount "sorted" 1 1 _) (wpAny_pure ?_)
  refine wpAny_bind (PySem.W.kdx_collect (A := X.A.in1) (knd := mixKind X.prog X.w) (kvs := vs) (ep := ep) (I1.ok.hd hc) ⟨_, Heap.get?_push_size _ rfl, rfl, rfl⟩ (hat.push _) (by rw [← lk]; unfold sizeLine; omega) fun h' tk as hk hl hG => ?_)
  have hk1 : ∀ b o, s1.heap.get? b = some o → h'.get? b = some o := fun b o e => hk b o (Heap.get?_push_of_some _ e)
  have hal : as.length = ms.length := by rw [hl, lk]
  have hz1 : ∀ a ∈ as, s1.heap.objs.size ≤ a := fun a ha => by
    have z : (s1.heap.push ({ cls := .type "dict_items", data := .fields #[.ref d] } : Obj)).objs.size < a := hG.above a ha
    rw [Heap.size_push] at z
    exact Nat.le_of_lt (Nat.lt_of_succ_lt z)
  -- what stands at each
  have pr : ∀ (j : Nat) (a : Addr), as[j]? = some a → ∃ q t u, ms[j]? = some q ∧ h'.get? a = some { cls := .type "tuple", data := .seq #[.str q.1 t, .str q.2 u] } := fun j a hj => by
    obtain ⟨key, k, x, f1, f2, f3⟩ := hG.pairs j a hj
    have hjl : j < ms.length := by
      rw [← hal]
      exact (List.getElem?_eq_some_iff.mp hj).1
    have hm : (marksKV ms)[j]? = some (.inr ms[j].1, .str ms[j].2) := by
      unfold marksKV
      rw [List.getElem?_map, List.getElem?_eq_getElem hjl] <;> rfl
    obtain ⟨y, g1, g2, g3⟩ := LiI.paired_get kv hm
    rw [f1] at g1
    cases g1
    obtain ⟨u, rfl⟩ := (show RelV (.str ms[j].2) x from g3)
    have g2 : (Sum.inr ms[j].1 : Key) = k := g2
    subst g2
    obtain ⟨t, rfl⟩ := relV_key (show keyIs (.inr ms[j].1) key = true from f2)
    exact ⟨ms[j], t, u, List.getElem?_eq_getElem hjl, f3⟩
  refine wpAny_bind (wpAny_newList ?_ (by rw [List.length_map, hal]; unfold sizeLine; omega))
  have hoL : (h'.push (seqObj "list" (as.map Value.ref).toArray 0)).get? h'.objs.size = some (seqObj "list" (as.map Value.ref).toArray 0) := Heap.get?_push_size _ rfl
  generalize hh2 : h'.push (seqObj "list" (as.map Value.ref).toArray 0) = h2 at hoL
  have kp2 : ∀ b o, h'.get? b = some o → h2.get? b = some o := fun b o e => by
    rw [← hh2]
    exact Heap.get?_push_of_some _ e
  have pr2 : ∀ (j : Nat) (a : Addr), as[j]? = some a → ∃ q t u, ms[j]? = some q ∧ h2.get? a = some { cls := .type "tuple", data := .seq #[.str q.1 t, .str q.2 u] } := fun j a hj =>
    let ⟨q, t, u, e1, e2⟩ := pr j a hj
    ⟨q, t, u, e1, kp2 _ _ e2⟩
  have inr : ∀ v ∈ as.map Value.ref, ∃ (a : Addr) (q : Str × Str) (t u : Tok), v = .ref a ∧ a ∈ as ∧ h2.get? a = some { cls := .type "tuple", data := .seq #[.str q.1 t, .str q.2 u] } := fun v hv => by
    obtain ⟨a, ha, rfl⟩ := List.mem_map.mp hv
    obtain ⟨j, hj⟩ := List.mem_iff_getElem?.mp ha
    obtain ⟨q, t, u, e1, e2⟩ := pr2 j a hj
    exact ⟨a, q, t, u, rfl, ha, e2⟩
  obtain ⟨fs, ht⟩ := tups_of inr
  refine wpAny_bind (wpAny_holding (wpAny_call_entry slot_list_sort ⟨_, hoL, rfl⟩ entry_list_sort (G.list_sort_tups (shape := allS) hoL ht (fun v hv => ?_) (by rw [List.length_map, hal]; unfold sizeLine; omega) fun st' hp hs hst => ⟨_, rfl, ?_⟩) (args_list_sort _)))
  · obtain ⟨a, q, t, u, rfl, _, e2⟩ := inr v hv
    exact ⟨_, key_in e2⟩
  · have hpl : (arrOf st').toList.Perm ((as.map Value.ref).zip (as.map Value.ref)) := by
      rw [← pairsOf_toList]
      exact Array.perm_iff_toList_perm.mp hp
    have hps : (arrOf st').size = (pairsOf (as.map Value.ref)).size := hp.size_eq
    generalize arrOf st' = xs at hp hs hpl hps
    have hmem : ∀ p ∈ xs.toList, p.1 = p.2 ∧ p.1 ∈ as.map Value.ref := fun p hp' => mem_zip_self (hpl.mem_iff.mp hp')
    have hys : (xs.toList.map fun p => pairIn h2 p.1).Perm ms := by
      have h1 := hpl.map (fun p => pairIn h2 p.1)
      have e2 : ((as.map Value.ref).zip (as.map Value.ref)).map (fun p => pairIn h2 p.1) = ms := by
        have e3 : ((as.map Value.ref).zip (as.map Value.ref)).map (fun p => pairIn h2 p.1) = (((as.map Value.ref).zip (as.map Value.ref)).map Prod.fst).map (pairIn h2) := by rw [List.map_map]; rfl
        rw [e3, List.map_fst_zip (Nat.le_refl _), List.map_map]
        apply List.ext_getElem?
        intro j
        rw [List.getElem?_map]
        cases hj : as[j]? with
        | none =>
          rw [List.getElem?_eq_none (by have := List.getElem?_eq_none_iff.mp hj; omega)] <;> rfl
        | some a =>
          obtain ⟨q, t, u, e1, e2⟩ := pr2 j a hj
          rw [e1]
          exact congrArg some (pair_in e2)
      rw [e2] at h1
      exact h1
    have hso : (xs.toList.map fun p => pairIn h2 p.1).Pairwise leP := by
      rw [List.pairwise_iff_getElem]
      intro i j hi hj hij
      have hi' : i < xs.size := by simpa using hi
      have hj' : j < xs.size := by simpa using hj
      have h1 := hs i j (Nat.le_of_lt hij) (by rw [← hps]; exact hj')
      obtain ⟨a, q, t, u, ea, _, e2⟩ := inr _ (hmem xs[i] (by simp)).2
      obtain ⟨b, q2, t2, u2, eb, _, e3⟩ := inr _ (hmem xs[j] (by simp)).2
      have k1 : KK (G.tupKindC h2 allS) xs i = keyP q := by
        unfold KK
        rw [Array.getElem?_eq_getElem hi']
        show (G.tupKeyC h2 allS xs[i].1).getD [] = _
        rw [ea, key_in e2] <;> rfl
      have k2 : KK (G.tupKindC h2 allS) xs j = keyP q2 := by
        unfold KK
        rw [Array.getElem?_eq_getElem hj']
        show (G.tupKeyC h2 allS xs[j].1).getD [] = _
        rw [eb, key_in e3] <;> rfl
      simp only [List.getElem_map, Array.getElem_toList]
      rw [ea, pair_in e2, eb, pair_in e3]
      show PO.kle (keyP q) (keyP q2)
      rw [← k1, ← k2]
      exact h1
    have eys := ascP_of hys hso
    -- the heap behind
    let ad : Keyed → Addr := fun p => match p.1 with | .ref a => a | _ => 0
    have had : ∀ p ∈ xs.toList, p.2 = .ref (ad p) ∧ ad p ∈ as ∧ ∃ (t u : Tok), h2.get? (ad p) = some { cls := .type "tuple", data := .seq #[.str (pairIn h2 p.1).1 t, .str (pairIn h2 p.1).2 u] } := fun p hp' => by
      obtain ⟨e1, e2⟩ := hmem p hp'
      obtain ⟨a, q, t, u, ea, ha, e3⟩ := inr _ e2
      have ed : ad p = a := by
        show (match p.1 with | .ref a => a | _ => 0) = a
        rw [ea]
      rw [ed, ← e1, ea, pair_in e3]
      exact ⟨rfl, ha, t, u, e3⟩
    obtain ⟨c, hcL⟩ := sortedHeap_at (vs := as.map Value.ref) (out := xs.map (·.2)) hoL
    have kF : ∀ b o, h'.get? b = some o → (sortedHeap h2 h'.objs.size (as.map Value.ref) (xs.map (·.2))).get? b = some o := fun b o e => by
      rw [sortedHeap_old (Nat.ne_of_lt (Heap.lt_size e)) (Heap.lt_size (kp2 _ _ e))]
      exact kp2 _ _ e
    generalize sortedHeap h2 h'.objs.size (as.map Value.ref) (xs.map (·.2)) = hF at hcL kF
    have nd : as.Nodup := List.Pairwise.imp (fun {a b} (h : a < b) => Nat.ne_of_lt h) hG.rise
    have newA : ∀ t ∈ as, H1 t = none := fun t ht => I1.hok.fresh (hz1 t ht)
    have hlt : s1.heap.objs.size < h'.objs.size := Heap.lt_size (hk _ _ (Heap.get?_push_size _ rfl))
    have newL : H1 h'.objs.size = none := I1.hok.fresh (Nat.le_of_lt hlt)
    have nLa : h'.objs.size ∉ as := fun z => Nat.lt_irrefl _ (hG.there z)
    have had2 : ∀ p ∈ xs.toList, p.1 = .ref (ad p) := fun p hp' => by
      obtain ⟨e1, e2⟩ := hmem p hp'
      rw [e1]
      exact (had p hp').1
    have atP := LiI.putT_at as (marksKV ms) H1 (by unfold marksKV; rw [List.length_map, hal]) nd
    have hat2 : ∀ (j : Nat) a q, as[j]? = some a → ms[j]? = some q → LiI.putT H1 as (marksKV ms) a = some (.tup [.str q.1, .str q.2]) := fun j a q h1 h2 => by
      obtain ⟨y, g1, g2⟩ := LiI.paired_get atP h1
      unfold marksKV at g1
      rw [List.getElem?_map, h2] at g1
      cases g1
      exact g2
    have J : L2.Inv X pins σ (upd (LiI.putT H1 as (marksKV ms)) h'.objs.size (.lst ((xs.toList.map ad).map V.ref))) { s1 with heap := hF, toks := tk } := by
      refine laid_many (s := s1) (tk := tk) I1 (fun b u e => kF _ _ (hk1 _ _ e)) (fun b u e => ?_) (fun b u e => ?_)
      · rw [upd_ne (ne_of_none e newL), LiI.putT_off _ _ _ fun z => by rw [newA b z] at e; cases e]
        exact e
      · by_cases hb : b = h'.objs.size
        · subst hb
          rw [upd_same] at e
          cases e
          refine .inr ⟨Nat.le_of_lt hlt, ?_, (xs.map (·.2)).toList, c, ?_, ?_⟩
          · rw [List.length_map, List.length_map, hpl.length_eq, List.length_zip, List.length_map, hal]
            unfold sizeLine
            omega
          · have e3 : (xs.map (·.2)).toList = (xs.toList.map ad).map Value.ref := by
              rw [Array.toList_map, List.map_map]
              exact List.map_congr_left fun p hp' => (had p hp').1
            rw [e3]
            exact LiI.vals_refs _
          · rw [Array.toArray_toList]
            exact hcL
        · rw [upd_ne hb] at e
          by_cases hba : b ∈ as
          · obtain ⟨j, hj⟩ := List.mem_iff_getElem?.mp hba
            obtain ⟨q, t, u', e1, e2⟩ := pr j b hj
            rw [hat2 j b q hj e1] at e
            cases e
            exact .inr ⟨hz1 b hba, by show 2 ≤ sizeLine; decide, [.str q.1 t, .str q.2 u'], .cons ⟨t, rfl⟩ (.cons ⟨u', rfl⟩ .nil), ⟨_, kF _ _ e2, rfl, _, rfl⟩⟩
          · rw [LiI.putT_off _ _ _ hba] at e
            exact .inl e
    refine wpAny_pure ⟨_, rfl, .ref h'.objs.size, _, J, rfl, q _ _ (xs.toList.map ad) (fun b u e => ?_) upd_same ?_⟩
    · rw [upd_ne (ne_of_none e newL), LiI.putT_off _ _ _ fun z => by rw [newA b z] at e; cases e]
      exact e
    · rw [← eys]
      refine paired_of (by rw [List.length_map, List.length_map]) fun i a q h1 h2' => ?_
      rw [List.getElem?_map] at h1 h2'
      cases hx : xs.toList[i]? with
      | none =>
        rw [hx] at h1
        cases h1
      | some p =>
        rw [hx] at h1 h2'
        cases h1
        cases h2'
        have hp' := List.mem_of_getElem? hx
        obtain ⟨_, ha, t, u, e5⟩ := had p hp'
        obtain ⟨j, hj⟩ := List.mem_iff_getElem?.mp ha
        obtain ⟨q, t', u', e1, e2⟩ := pr2 j _ hj
        have e6 : pairIn h2 p.1 = q := by
          rw [had2 p hp']
          exact pair_in e2
        show upd _ _ _ (ad p) = some (.tup [.str (pairIn h2 p.1).1, .str (pairIn h2 p.1).2])
        rw [upd_ne (fun z => nLa (by rw [← z]; exact ha)), hat2 j _ q hj e1, e6]
end
end SW

set_option maxHeartbeats 2000000
namespace SW
open PySem PySem.Spec PyProof.Rows L2 He LamX NdefX
open SW.M (Ent Tb Oc)
/-! ## data, to be compared -/
section
variable {B : Tbs} {K : PySem.W.Frag} {H H' : Hp}
mutual
theorem Dp.mono (g : Gr B H H') : ∀ (d : PyData) (v : V), Dp K H v d → Dp K H' v d
  | .none, _, h => by
    cases h
    exact .non
  | .bool b, _, h => by
    cases h
    exact .bl b
  | .int i, _, h => by
    cases h
    exact .int i
  | .str x, _, h => by
    cases h
    exact .str x
  | .list ds, _, h => by
    cases h with
    | lst h1 h2 => exact .lst (g.sqL h1) (DpAll.mono g ds _ h2)
  | .tuple ds, _, h => by
    cases h with
    | tup h1 h2 => exact .tup (g.sqT h1) (DpAll.mono g ds _ h2)
  | .dict _, _, h => by cases h
theorem DpAll.mono (g : Gr B H H') : ∀ (ds : List PyData) (vs : List V), DpAll K H vs ds → DpAll K H' vs ds
  | [], _, h => by
    cases h
    exact .nil
  | d :: ds, _, h => by
    cases h with
    | cons h1 h2 => exact .cons (Dp.mono g d _ h1) (DpAll.mono g ds _ h2)
end
theorem dp_sv (xs : List Str) : DpAll K H (sv xs) (xs.map .str) := by
  induction xs with
  | nil => exact .nil
  | cons x r ih => exact .cons (.str x) ih
theorem dpAll_of {A : Type} {f : A → PyData} {R : V → A → Prop} {vs : List V} {xs : List A} (h : Paired R vs xs) (m : ∀ v a, R v a → Dp K H v (f a)) : DpAll K H vs (xs.map f) := by
  induction h with
  | nil => exact .nil
  | cons r _ ih => exact .cons (m _ _ r) ih
end
def clauseD (c : List Str × Bool) : PyData := .tuple [.tuple (c.1.map .str), .bool c.2]
def hookD (E : En) : PyData := match E.hook with | none => .none | some cl => .tuple [.tuple (cl.map clauseD), .bool E.passed]
def markD (q : Str × Str) : PyData := .tuple [.str q.1, .str q.2]
noncomputable def picD (E : En) (s : Bool) : PyData := .tuple [.str E.label, .tuple (E.parents.map .str), .bool s, .list ((ascP E.marks).map markD), hookD E]
section
variable {P : Program} {w : World} {K : PySem.W.Frag} {mg : Str → Option Value} {base : Heap}
def spAllN (K : PySem.W.Frag) : Sp := fun vs H Q _ => ∃ (t : Addr) (T : Tb Str), vs = [.ref t] ∧ TabAt K H t T ∧ AnsN (tt K) H Q (.lst (sv (M.names T.es)))
theorem sc_Table_all_names : FnScope ["self"] ["self"] (defScope s_Table_all_names) := ⟨rfl, rfl, rfl, by decide +kernel, rfl, by decide +kernel, by decide +kernel⟩
theorem ok_Table_all_names (c : Tx K mg base) : Ok P w K mg base 1 (ma K (ga K "Table") "all_names") ["self"] (spAllN K) := by
  refine Ok.mk' (fd_Table_all_names c) sc_Table_all_names (fun _ _ _ _ _ _ us hl => match us, hl with | [_], _ => rfl) (fun vs H Q E h => ?_) (fun cdv A outer s H vs Q E hr h => ?_)
  · obtain ⟨t, T, rfl, _⟩ := h
    rfl
  · obtain ⟨t, T, rfl, ⟨dx, r, nu, l, mm, kn, h1, ⟨kr, hr0, hp⟩, h3, h4⟩, k⟩ := h
    refine ⟨_, (pss_one (ps_ret (pe_callTy (call_list_dK rfl) (by rfl) (n_list c) (by first | exact PySem.boot_list | exact boot_list | decide +kernel) (pa_cons (fldK K rfl (pv 0) rfl) pa_nil)))), ?_⟩
    refine ⟨_, rfl, t, _, dx, _, _, rfl, h1, cl_Table c, na_Table_records c, rfl, r, kr, rfl, hr0, fun q hq => k _ q (Gr.new hq) ?_⟩
    rw [upd_same, keys_eq (fun _ _ r => r.1) hp]
def spPic (K : PySem.W.Frag) : Sp := fun vs H Q _ => ∃ (wd : Addr) (T : Tb Str) (n : Str), vs = [.ref wd, .str n] ∧ WorAt K H wd T ∧ Wf T.es ∧ n ∈ M.names T.es ∧ (∀ E ∈ T.es, E.marks.length ≤ 1000) ∧
  ∀ H' p E, Gr (tt K) H H' → M.find T.es n = some E → E ∈ T.es → E.label = n → Dp K H' (.ref p) (picD E (M.sworn T.es n)) → Q (.ref p) H'
theorem sc_World_class_picture : FnScope ["self", "name", "entry", "hook"] ["self", "name"] (defScope s_World_class_picture) := ⟨rfl, rfl, rfl, by decide +kernel, rfl, by decide +kernel, by decide +kernel⟩
theorem ok_World_class_picture (c : Tx K mg base) : Ok P w K mg base 3 (ma K (ga K "World") "class_picture") ["self", "name"] (spPic K) := by
  refine Ok.mk' (fd_World_class_picture c) sc_World_class_picture (fun _ _ _ _ _ _ us hl => match us, hl with | [_, _], _ => rfl) (fun vs H Q E h => ?_) (fun cdv A outer s H vs Q E hr h => ?_)
  · obtain ⟨wd, T, n, rfl, _⟩ := h
    rfl
  · obtain ⟨wd, T, n, rfl, ⟨dw, t, ca, vi, th, cl, hw, hT⟩, wf, hn, hmz, k⟩ := h
    refine ⟨_, (pss_cons (ps_set (i := 2) sc_World_class_picture.nd rfl (Or.inl rfl) (pe_dget (hu_of hr) (fldK K rfl (fldK K rfl (pv 0) rfl) rfl) (pv 1) (fun _ _ => rfl))) (pss_cons (ps_set (i := 3) sc_World_class_picture.nd rfl (Or.inl rfl) (pe_ifExp (pt_cmpR op_isN (fldK K rfl (pv 2) rfl) pe_non (nomark _)) pe_non (pe_tup (pa_cons (fldK K rfl (pv 2) rfl) (pa_cons (fldK K rfl (pv 2) rfl) pa_nil))))) (pss_one (ps_ret (pe_tup (pa_cons (pv 1) (pa_cons (fldK K rfl (pv 2) rfl) (pa_cons ((ok_Table_sworn c).meth hr (by decide) (cl_Table c) (me_Table_sworn c) (fldK K rfl (pv 0) rfl) (pa_cons (pv 1) pa_nil)) (pa_cons (pe_srtItems rfl (fldK K rfl (pv 2) rfl) (by rfl) (n_sorted c)) (pa_cons (pv 3) pa_nil)))))))))), ?_⟩
    have hT' := hT
    obtain ⟨dx, r, nu, l, mm, kn, h1, h2, h3, h4⟩ := hT'
    obtain ⟨e, E, hget, ⟨de, pa, ma, li, hv, e1, e2, e3, e4, e5⟩, hf, hl, hE⟩ := h2.get hn
    subst hl
    refine ⟨_, rfl, wd, _, dw, _, _, rfl, hw, cl_World c, na_World_table c, rfl, t, _, dx, _, _, rfl, h1, cl_Table c, na_Table_records c, rfl, _, rfl, r, _, rfl, hget, ?_⟩
    have fld : ∀ {H1}, Gr (tt K) H H1 → H1 e = some (.ins (ga K "Entry") de (entF E pa ma li hv)) := fun g => g.ins e1
    have tail : ∀ (H1 : Hp) (hk : V), Gr (tt K) H H1 → Dp K H1 hk (hookD E) → ∀ (H2 : Hp), Gr (tt K) H1 H2 → ∀ (H3 : Hp) (l : Addr) (as : List Addr), (∀ b o, H2 b = some o → H3 b = some o) → H3 l = some (.lst (as.map V.ref)) → Paired (fun a (q : Str × Str) => H3 a = some (.tup [.str q.1, .str q.2])) as (ascP E.marks) →
        ∀ p, H3 p = none → Q (.ref p) (upd H3 p (.tup [.str E.label, .ref pa, .bl (M.sworn T.es E.label), .ref l, hk])) := fun H1 hk g1 hd H2 g2 H3 l as k3 hl3 hp3 p hp => by
      have g3 : Gr (tt K) H2 H3 := ⟨ExtN.of k3, fun t => t.ext k3⟩
      have gn : Gr (tt K) H3 (upd H3 p (.tup [.str E.label, .ref pa, .bl (M.sworn T.es E.label), .ref l, hk])) := Gr.new hp
      refine k _ p E ((g1.trans g2).trans (g3.trans gn)) hf hE rfl (.tup (SqT.of upd_same) (.cons (.str _) (.cons (.tup (SqT.of ((g1.trans (g2.trans (g3.trans gn))).tup e2)) (dp_sv _)) (.cons (.bl _) (.cons (.lst (SqL.of (gn.lst hl3)) ?_) (.cons (Dp.mono (g2.trans (g3.trans gn)) _ _ hd) .nil))))))
      have hp4 : Paired (fun (v : V) (q : Str × Str) => ∃ a, v = .ref a ∧ H3 a = some (.tup [.str q.1, .str q.2])) (as.map V.ref) (ascP E.marks) := by
        clear hl3
        generalize ascP E.marks = ys at hp3
        induction hp3 with
        | nil => exact .nil
        | cons r _ ih => exact .cons ⟨_, rfl, r⟩ ih
      exact dpAll_of hp4 fun v q ⟨a, e, h⟩ => by
        subst e
        exact .tup (SqT.of (gn.tup h)) (.cons (.str _) (.cons (.str _) .nil))
    cases ho : E.hook with
    | none =>
      rw [ho] at e4
      have e4 : hv = .non := e4
      subst e4
      refine ⟨_, rfl, e, _, de, _, _, rfl, e1, cl_Entry c, na_Entry_own_hook c, rfl, rfl, _, rfl, iteT ?_⟩
      refine ⟨_, rfl, _, rfl, e, _, de, _, _, rfl, e1, cl_Entry c, na_Entry_parents c, rfl, _, rfl, wd, _, dw, _, _, rfl, hw, cl_World c, na_World_table c, rfl, t, dx, _, rfl, h1, rfl, _, rfl, t, T, _, rfl, hT, wf, hn, fun H2 g2 => ?_⟩
      refine ⟨_, rfl, e, _, de, _, _, rfl, g2.ins e1, cl_Entry c, na_Entry_given_marks c, rfl, ma, E.marks, rfl, g2.dK e3, hmz E hE, fun H3 l as k3 hl3 hp3 => ⟨_, rfl, by show 5 ≤ sizeLine; decide, fun p hp => ?_⟩⟩
      exact tail H .non (Gr.refl _) (by unfold hookD; rw [ho]; exact .non) H2 g2 H3 l as k3 hl3 hp3 p hp
    | some cl =>
      rw [ho] at e4
      obtain ⟨ha, xs, rfl, h5a, h5b⟩ := e4
      refine ⟨_, rfl, e, _, de, _, _, rfl, e1, cl_Entry c, na_Entry_own_hook c, rfl, rfl, _, rfl, iteF ?_⟩
      refine ⟨_, rfl, e, _, de, _, _, rfl, e1, cl_Entry c, na_Entry_own_hook c, rfl, _, rfl, e, _, de, _, _, rfl, e1, cl_Entry c, na_Entry_passed_on c, rfl, by show 2 ≤ sizeLine; decide, fun z hz => ?_⟩
      have gz : Gr (tt K) H (upd H z (.tup [.ref ha, .bl E.passed])) := Gr.new hz
      refine ⟨_, rfl, _, rfl, e, _, de, _, _, rfl, gz.ins e1, cl_Entry c, na_Entry_parents c, rfl, _, rfl, wd, _, dw, _, _, rfl, gz.ins hw, cl_World c, na_World_table c, rfl, t, dx, _, rfl, gz.ins h1, rfl, _, rfl, t, T, _, rfl, hT.mono gz, wf, hn, fun H2 g2 => ?_⟩
      refine ⟨_, rfl, e, _, de, _, _, rfl, (gz.trans g2).ins e1, cl_Entry c, na_Entry_given_marks c, rfl, ma, E.marks, rfl, (gz.trans g2).dK e3, hmz E hE, fun H3 l as k3 hl3 hp3 => ⟨_, rfl, by show 5 ≤ sizeLine; decide, fun p hp => ?_⟩⟩
      refine tail _ _ gz ?_ H2 g2 H3 l as k3 hl3 hp3 p hp
      unfold hookD
      rw [ho]
      refine .tup (SqT.of upd_same) (.cons (.tup (SqT.of (gz.tup h5a)) ?_) (.cons (.bl _) .nil))
      exact dpAll_of h5b fun v c ⟨p, q, e, q1, q2⟩ => by
        subst e
        exact .tup (SqT.of (gz.tup q1)) (.cons (.tup (SqT.of (gz.tup q2)) (dp_sv _)) (.cons (.bl _) .nil))
end
end SW


set_option maxHeartbeats 2000000
namespace SW
open PySem PySem.Spec PyProof.Rows L2 He LamX NdefX
open SW.M (Ent Tb Oc)
/-! ## tuple(d) -/
section
variable {P : Program} {w : World} {A : Around} {E : Value → Shared → Prop} {s : Shared} {d : Addr} {vs : List (Key × Value)} {ep : Nat}
theorem code_tupD {Q1 : Value → Shared → Prop} (hh : A.handled = none) (lo : (d == sysModules) = false) (hm : s.heap.DictAt (mixKind P w) d vs ep) (hz : vs.length ≤ sizeLine)
    (h : ∀ (h' : Heap) (tk : Nat) (acc : Array Value), (∀ b o, s.heap.get? b = some o → h'.get? b = some o) → ItemsOf (fun i v => ∃ k x, vs[i]? = some (k, x) ∧ (mixKind P w).is k v = true) acc vs.length → Q1 (.ref h'.objs.size) { s with heap := h'.push { cls := .type "tuple", data := .seq acc }, toks := tk }) :
    codeAny (model P w) A (.call (.builtin "tuple.__new__") ⟨[.type "tuple", .ref d], []⟩) (wants Q1 E) s := by
  refine codeAny_of_tree ?_
  show wpAny _ A.in1 (do checkBuiltinCall "tuple.__new__" ⟨[.type "tuple", .ref d], []⟩; again (.builtin "tuple.__new__" ⟨[.type "tuple", .ref d], []⟩)) _ _ s
  refine wpAny_bind (wpAny_of_eq (F.newCall_tuple_1 _) (wpAny_pure ⟨plainId_quiet F.plain_tuple_new _, codeAny_builtin F.entry_tuple_new ?_⟩))
  rw [Around.under_plainId F.plain_tuple_new _]
  have hsub := sub_tuple_self
  have hinit := init_tuple_lookup
  have hmh := madeHere_tuple
  have hT : s.TypeIs (.ref d) "dict" := hm.dictOf.typeIs
  have hh1 : A.in1.handled = none := hh
  wp_walk using wpAny_typeOf hT, PySem.W.kdu_collect (A := A.in1) (PySem.W.kdl_dict (knd := mixKind P w) (kvs := vs) (ep := ep) lo) hh1 hm hz
  intro h' tk acc hk hacc
  show wpAny _ _ (Builtin.Tuple.tupleExact acc.toList.toArray >>= fun v => ret v) _ _ _
  unfold Builtin.Tuple.tupleExact
  refine wpAny_bind (wpAny_newObj_type ?_ (by show acc.toList.toArray.size ≤ sizeLine; simp only [Array.toArray_toList]; rw [hacc.1]; exact hz))
  refine wpAny_pure ?_
  have e : acc.toList.toArray = acc := by simp
  rw [e]
  exact h h' tk acc hk hacc
end
section
variable {X : Cx}
def rTupD : List V → Hp → VK → Prop := fun xs H Q => ∃ p kvs, xs = [.ref p] ∧ H p = some (.dK kvs) ∧ ∀ q, H q = none → Q (.ref q) (upd H q (.tup (kvs.map fun kv => kV kv.1)))
theorem cr_tupD (hc : X.calm = true) : CallR X (.type "tuple") rTupD := by
  intro pins s σ H xs us Q I r h
  obtain ⟨p, kvs, rfl, hk, q⟩ := h
  rw [Vals.ref1 r]
  obtain ⟨z, lo, vs, rk, hd⟩ := (show ObjOk X.prog X.w H s.heap p (.dK kvs) from I.hok p _ hk)
  obtain ⟨ep, hat⟩ := hd.dictAt
  have hl : kvs.length = vs.length := Paired.length rk
  refine callType_codes (Q₁ := fun obj s1 => s1.TypeIs obj "tuple" ∧ EP X pins σ Q obj s1) F.called_tuple (F.typeCall_tuple_1 _) F.entry_object_init
    (code_tupD (A := X.A.in1) (I.ok.hd hc) lo hat (by rw [← hl]; exact z) fun h' tk acc hk2 hacc => ⟨⟨_, Heap.get?_push_size _ rfl, rfl⟩, ?_⟩) fun obj s1 h1 => ⟨h1.1, F.args_object_init_2 obj _, object_init_meets F.called_tuple.init.lookup F.called_tuple.made (by decide) X.prog X.w X.A.in1 _ s1 ⟨h1.1, rfl, h1.2⟩⟩
  have I1 : Inv X pins σ H { s with heap := h', toks := tk } := I.kept (t' := tk) hk2
  have hv : Vals (kvs.map fun kv => kV kv.1) acc.toList := by
    have el : acc.toList.length = acc.size := by simp
    refine vals_of_at (by rw [List.length_map, el, hacc.1, hl]) fun j x w h1 h2 => ?_
    obtain ⟨k, y, hky, hi⟩ := hacc.2 j w (by rw [← Array.getElem?_toList]; exact h2)
    have e1 : (kvs.map (·.1))[j]? = some k := by
      rw [KV.keys rk, List.getElem?_map, hky] <;> rfl
    have e2 : (kvs.map fun kv => kV kv.1)[j]? = some (kV k) := by
      have e3 : (kvs.map fun kv => kV kv.1) = (kvs.map (·.1)).map kV := by rw [List.map_map] <;> rfl
      rw [e3, List.getElem?_map, e1] <;> rfl
    rw [e2] at h1
    cases h1
    exact keyIs_rel hi
  refine ⟨.ref h'.objs.size, upd H h'.objs.size (.tup (kvs.map fun kv => kV kv.1)), I1.laid (t' := tk) (fun b o e => Heap.get?_push_of_some _ e) (Nat.le_refl _) ⟨by rw [List.length_map]; exact z, acc.toList, hv, ?_⟩, rfl, q _ (I1.hok.fresh (Nat.le_refl _))⟩
  rw [Array.toArray_toList]
  exact IsTup.new _ _
end
section
variable {P : Program} {w : World} {K : PySem.W.Frag} {mg : Str → Option Value} {base : Heap}
theorem ba4 {a b : Bool} (h : (a && b) = true) : a = true ∧ b = true := Bool.and_eq_true_iff.mp h
theorem Tx.prop (c : Tx K mg base) : PropOf K (ga K "World") "names" (propA K) (getA K) := by
  have h := c.x
  unfold exB propB at h
  obtain ⟨_, h⟩ := ba4 h
  obtain ⟨h, _⟩ := ba4 h
  obtain ⟨h1, h⟩ := ba4 h
  obtain ⟨h2, h⟩ := ba4 h
  obtain ⟨h3, h4⟩ := ba4 h
  refine ⟨He.eqO_ok h1, He.eqO_ok h2, of_decide_eq_true h3, ?_⟩
  cases e : PySem.W.recIn K (propA K) "property" with
  | none =>
    rw [e] at h4
    cases h4
  | some l =>
    rw [e] at h4
    cases l with
    | nil => cases h4
    | cons v r =>
      cases v with
      | ref g =>
        have e2 : g = getA K := of_decide_eq_true h4
        rw [e2]
        exact ⟨r, rfl⟩
      | _ => cases h4
def spNames (K : PySem.W.Frag) : Sp := fun vs H Q _ => ∃ (wd : Addr) (T : Tb Str), vs = [.ref wd] ∧ WorAt K H wd T ∧ AnsN (tt K) H Q (.tup (sv (M.names T.es)))
theorem sc_World_names : FnScope ["self"] ["self"] (defScope s_World_names) := ⟨rfl, rfl, rfl, by decide +kernel, rfl, by decide +kernel, by decide +kernel⟩
abbrev sN_World_names : List Str := ["self"]
theorem ok_World_names (c : Tx K mg base) : Ok P w K mg base 1 (getA K) ["self"] (spNames K) := by
  have h := c.x
  unfold exB getterB at h
  obtain ⟨_, h⟩ := ba4 h
  obtain ⟨_, h⟩ := ba4 h
  obtain ⟨h, _⟩ := ba4 h
  obtain ⟨kp, h⟩ := ba4 h
  have e := c.gw
  unfold getterW at e
  cases q : K.lookup (getA K) with
  | none =>
    rw [q] at h
    cases h
  | some o =>
    obtain ⟨oc, od, dt, osl⟩ := o
    rw [q] at h e
    cases dt with
    | func fd =>
      obtain ⟨n1, n2, n3, n4, n5, n6, n7, n8, n9, n10, n11, n12, n13, n14, n15⟩ := fd
      have e2 : (some (n1, n2, n3, n4, n5, n6, n7, n15) : He.FnW) = some (("names" : Str), ("World.names" : Str), defArgs s_World_names, FuncBody.stmts (defBody s_World_names), defScope s_World_names, mainGlobals, [], builtinsNs) := e
      simp only [Option.some.injEq, Prod.mk.injEq] at e2
      obtain ⟨h1, h2, h3, h4, h5, h6, h7, h8⟩ := e2
      subst h1 h2 h3 h4 h5 h6 h7 h8
      have h : (PySem.W.codeIn K n13 "World.names" && He.dflB K n8 []) = true := h
      obtain ⟨hcd, hdf⟩ := ba4 h
      have e8 : n8 = .none := by cases n8 <;> first | rfl | cases hdf
      subst e8
      refine ⟨⟨_, fn_of (dV := .none) (kV := n9) (doc := n10) (pm := n11) (an := n12) (ct := n14) q hcd sc_World_names (fun vs H Q E h => ?_) (fun A outer s H vs Q E hr h => ?_), .all fun us hl => ?_⟩, kp⟩
      · obtain ⟨wd, T, rfl, _⟩ := h
        rfl
      · obtain ⟨wd, T, rfl, ⟨dw, t, ca, vi, th, cl, hw, dx, r, nu, l, mm, kn, h1, ⟨kr, hr0, hp⟩, h3, h4⟩, k⟩ := h
        refine ⟨_, PSs.nox (pss_one (ps_ret (pe_callTy (cr_tupD rfl) (by rfl) (n_tuple c) (by first | exact PySem.boot_tuple | exact boot_tuple | decide +kernel) (pa_cons (fldK K rfl (fldK K rfl (pv 0) rfl) rfl) pa_nil)))), ?_⟩
        refine ⟨_, rfl, wd, _, dw, _, _, rfl, hw, cl_World c, na_World_table c, rfl, t, _, dx, _, _, rfl, h1, cl_Table c, na_Table_records c, rfl, r, kr, rfl, hr0, fun q hq => k _ q (Gr.new hq) ?_⟩
        rw [upd_same, keys_eq (fun _ _ r => r.1) hp]
      · match us, hl with
        | [u], _ => rfl
    | _ => cases h
end
end SW


set_option maxHeartbeats 2000000
namespace SW
open PySem PySem.Spec PyProof.Rows L2 He LamX NdefX
open SW.M (Ent Tb Oc)
theorem Ok.prop {X : Cx} {k j : Nat} {C p g : Addr} {f : Str} {sp : Sp} {e : Expr} {ta : TE} {pos : Pos} (F : Ok X.prog X.w X.K X.mg X.base k g ["self"] sp) (hr : Room j X.A) (hk : k + 1 ≤ j) (c : Cls X.K C) (hp : PropOf X.K C f p g) (he : PE X e ta)
    (hab : attributeBase e f X.env (eval e X.env) = eval e X.env) : PE X (.Attribute e f pos) (tProp C sp [] E0 ta) := by
  obtain ⟨fd, G, b⟩ := F.ex
  exact pe_prop he c hp G (hr.mono hk) b .nil pass0 hab
section
variable {P : Program} {w : World} {K : PySem.W.Frag} {mg : Str → Option Value} {base : Heap}
theorem slAK (K : PySem.W.Frag) {X : Cx} (hK : X.K = K) : SlR X (rSlA K) := by
  subst hK
  exact sl_tupA
theorem slA_end {a : Addr} {xs : List V} {H : Hp} {Q : VK} {n : Int} (hn : n = xs.length) (h : SqT K H a xs) (k : ∀ H' p, Gr (tt K) H H' → SqT K H' p [] → Q (.ref p) H') : rSlA K (.ref a) (some n) none H Q := by
  subst hn
  refine ⟨a, xs, rfl, h, fun ⟨e, _⟩ => k _ _ (Gr.refl _) ?_, fun _ p hp => k _ _ (Gr.new hp) ?_⟩
  · rw [HT.sIx_nat, Nat.min_self] at e
    rw [List.length_eq_zero_iff.mp e] at h
    exact h
  · have e : cutV xs (some (xs.length : Int)) none = [] := by
      unfold cutV
      rw [HT.sIx_nat, Nat.min_self, HT.sIx_none, List.drop_length, List.take_nil]
    rw [e]
    exact SqT.of upd_same
theorem slA_end' {σ : L2.St} {a : Addr} {xs : List V} {H : Hp} {Q : VK} {n : Int} (hn : n = xs.length) (h : SqT K H a xs) (k : ∀ H' p, Gr (tt K) H H' → SqT K H' p [] → Q (.ref p) H') : tNoPart σ H (fun u H3 => rSlA K (.ref a) (some n) u H3 Q) := slA_end hn h k
/-- what is asked of the entries when pictures are compared -/
structure WfD (es : List En) : Prop where
  marks : ∀ E ∈ es, E.marks.length ≤ 1000
  shape : ∀ E ∈ es, SeqAt.shaped (picD E (M.sworn es E.label)) = true
def spSame (K : PySem.W.Frag) : Sp := fun vs H Q _ => ∃ (w1 w2 : Addr) (T1 T2 : Tb Str), vs = [.ref w1, .ref w2] ∧ WorAt K H w1 T1 ∧ WorAt K H w2 T2 ∧ T2.es = T1.es ∧ Wf T1.es ∧ WfD T1.es ∧ Ans (tt K) H Q .non
theorem sc_look_same : FnScope ["one", "other", "name", "beside", "shared"] ["one", "other"] (defScope s_look_same) := ⟨rfl, rfl, rfl, by decide +kernel, rfl, by decide +kernel, by decide +kernel⟩
theorem ok_look_same (c : Tx K mg base) : Ok P w K mg base 4 (ga K "look_same") ["one", "other"] (spSame K) := by
  refine Ok.mk' (fd_look_same c) sc_look_same (fun _ _ _ _ _ _ us hl => match us, hl with | [_, _], _ => rfl) (fun vs H Q E h => ?_) (fun cdv A outer s H vs Q E hr h => ?_)
  · obtain ⟨w1, w2, T1, T2, rfl, _⟩ := h
    rfl
  · obtain ⟨w1, w2, T1, T2, rfl, hW1, hW2, he, wf, wd, k⟩ := h
    refine ⟨_, (pss_cons (ps_for PassesOwn.never rfl (RZ.pi_zipA (by rfl) (n_zip c) (pa_cons ((ok_World_names c).prop hr (by decide) (cl_World c) c.prop (pv 0) rfl) (pa_cons ((ok_World_names c).prop hr (by decide) (cl_World c) c.prop (pv 1) rfl) pa_nil))) (gtupK K (n := 2) rfl rfl (pgs_cons (pg_name (i := 2) sc_look_same.nd rfl (Or.inl rfl)) (pgs_cons (pg_name (i := 3) sc_look_same.nd rfl (Or.inl rfl)) pgs_nil))) (pss_one (ps_if (pt_cmpR (neDK K rfl hr.units) ((ok_World_class_picture c).meth hr (by decide) (cl_World c) (me_World_class_picture c) (pv 0) (pa_cons (pv 2) pa_nil)) ((ok_World_class_picture c).meth hr (by decide) (cl_World c) (me_World_class_picture c) (pv 1) (pa_cons (pv 3) pa_nil)) (nomark _)) pss_never pss_nil))) (pss_cons (ps_set (i := 4) sc_look_same.nd rfl (Or.inl rfl) (pe_callB (call_min2 rfl) (by rfl) (n_min c) (by first | exact PySem.boot_min | exact boot_min | decide +kernel) (pa_cons (pe_callB (lenK K rfl) (by rfl) (n_len c) (by first | exact PySem.boot_len | exact boot_len | decide +kernel) (pa_cons ((ok_World_names c).prop hr (by decide) (cl_World c) c.prop (pv 0) rfl) pa_nil)) (pa_cons (pe_callB (lenK K rfl) (by rfl) (n_len c) (by first | exact PySem.boot_len | exact boot_len | decide +kernel) (pa_cons ((ok_World_names c).prop hr (by decide) (cl_World c) c.prop (pv 1) rfl) pa_nil)) pa_nil)))) (pss_one (ps_for PassesOwn.never rfl (piL K rfl (pe_lst (paStar K rfl (pe_slice (slAK K rfl) ((ok_World_names c).prop hr (by decide) (cl_World c) c.prop (pv 0) rfl) (po_some (pv 4)) po_none) (paStar K rfl (pe_slice (slAK K rfl) ((ok_World_names c).prop hr (by decide) (cl_World c) c.prop (pv 1) rfl) (po_some (pv 4)) po_none) pa_nil)))) (pg_name (i := 2) sc_look_same.nd rfl (Or.inl rfl)) pss_never)))), ?_⟩
    have hW1' := hW1
    have hW2' := hW2
    obtain ⟨d1, t1, ca1, vi1, th1, cl1, hw1, hT1⟩ := hW1'
    obtain ⟨d2, t2, ca2, vi2, th2, cl2, hw2, hT2⟩ := hW2'
    have wf2 : Wf T2.es := by rw [he]; exact wf
    refine ⟨_, rfl, w1, d1, _, rfl, hw1, w1, T1, rfl, hW1, fun H1 p1 g1 hp1 => ⟨_, rfl, w2, d2, _, rfl, g1.ins hw2, w2, T2, rfl, hW2.mono g1, fun H2 p2 g2 hp2 => ?_⟩⟩
    have hq1 := g2.tup hp1
    rw [he] at hp2
    refine ⟨p1, p2, _, _, rfl, .inr ⟨SqT.of hq1, SqT.of hp2, ?_⟩⟩
    have g12 := g1.trans g2
    refine RZ.for_zipT rfl (fun i σ H' => Gr (tt K) H2 H' ∧ ∃ x y, σ = [some (.ref w1), some (.ref w2), x, y, none]) ⟨Gr.refl _, _, _, rfl⟩ (fun i σ H' h => ⟨h.1.sqT (SqT.of hq1), h.1.sqT (SqT.of hp2)⟩) ?_ ?_
    · rintro i x y Tp σ H' hx hy ⟨g, x', y', rfl⟩ hTp
      obtain ⟨n, hn, rfl⟩ := sv_at hx
      obtain ⟨n', hn', rfl⟩ := sv_at hy
      rw [hn] at hn'
      cases hn'
      have hnm : n ∈ M.names T1.es := List.mem_of_getElem? hn
      have g3 : Gr (tt K) H (upd H' Tp (.tup [.str n, .str n])) := (g12.trans g).trans (Gr.new hTp)
      refine ⟨Tp, _, rfl, SqT.of upd_same, rfl, _, _, rfl, _, _, rfl, rfl, ?_⟩
      refine ⟨_, rfl, w1, d1, _, rfl, g3.ins hw1, rfl, _, rfl, w1, T1, n, rfl, hW1.mono g3, wf, hnm, wd.marks, fun H4 q1 E g4 hf1 hE1 hl1 hd1 => ?_⟩
      refine ⟨_, rfl, w2, d2, _, rfl, (g3.trans g4).ins hw2, rfl, _, rfl, w2, T2, n, rfl, hW2.mono (g3.trans g4), wf2, by rw [he]; exact hnm, by rw [he]; exact wd.marks, fun H5 q2 E' g5 hf2 hE2 hl2 hd2 => ?_⟩
      rw [he, hf1] at hf2
      cases hf2
      rw [he] at hd2
      have sh := wd.shape E hE1
      rw [hl1] at sh
      refine ⟨_, _, Dp.mono g5 _ _ hd1, hd2, sh, sh, _, rfl, ?_⟩
      rw [PySem.SeqAt.eqv_refl _ (SeqAt.canLay_of_shaped sh)]
      exact iteF ⟨g.trans ((Gr.new hTp).trans (g4.trans g5)), _, _, rfl⟩
    · rintro σ H' ⟨g, x', y', rfl⟩
      have g3 : Gr (tt K) H H' := g12.trans g
      refine ⟨_, rfl, w1, d1, _, rfl, g3.ins hw1, w1, T1, rfl, hW1.mono g3, fun H4 q1 g4 hq4 => ⟨q1, _, rfl, .inr (SqT.of hq4), ?_⟩⟩
      refine ⟨_, rfl, w2, d2, _, rfl, (g3.trans g4).ins hw2, w2, T2, rfl, hW2.mono (g3.trans g4), fun H5 q2 g5 hq5 => ⟨q2, _, rfl, .inr (SqT.of hq5), ?_⟩⟩
      have g35 := (g3.trans g4).trans g5
      rw [he]
      refine ⟨_, _, rfl, ?_⟩
      have e0 : (if ((sv (M.names T1.es)).length : Int) < ((sv (M.names T1.es)).length : Int) then ((sv (M.names T1.es)).length : Int) else ((sv (M.names T1.es)).length : Int)) = ((sv (M.names T1.es)).length : Int) := by simp
      rw [e0]
      refine ⟨_, rfl, w1, d1, _, rfl, g35.ins hw1, w1, T1, rfl, hW1.mono g35, fun H6 q3 g6 hq6 => ⟨_, rfl, _, rfl, ?_⟩⟩
      refine slA_end' rfl (SqT.of hq6) fun H7 q4 g7 hq7 => ⟨q4, [], rfl, .inl hq7, ?_⟩
      have g37 := (g35.trans g6).trans g7
      refine ⟨_, rfl, w2, d2, _, rfl, g37.ins hw2, w2, T2, rfl, hW2.mono g37, fun H8 q5 g8 hq8 => ⟨_, rfl, _, rfl, ?_⟩⟩
      refine slA_end' (by rw [he]) (SqT.of hq8) fun H9 q6 g9 hq9 => ⟨q6, [], rfl, .inl hq9, by show 0 ≤ sizeLine; decide, fun p hp => ⟨p, rfl, ⟨_, SqL.of upd_same⟩, ?_⟩⟩
      have g39 : Gr (tt K) H (upd H9 p (.lst ([] ++ ([] ++ [])))) := (g37.trans g8).trans (g9.trans (Gr.new hp))
      refine ⟨fun i m σ H' => i = 0 ∧ H' = upd H9 p (.lst ([] ++ ([] ++ []))), ⟨0, rfl, rfl⟩, ?_⟩
      rintro i m σ H' ⟨rfl, rfl⟩
      exact .inl ⟨⟨[], SqL.of upd_same, Nat.le_refl _⟩, k _ g39⟩
end
end SW


set_option maxHeartbeats 2000000
namespace SW
open PySem PySem.Spec PyProof.Rows L2 He LamX NdefX
open SW.M (Ent Tb Oc)
/-! ## states as data -/
def ocD : Option Oc → PyData
  | none => .none
  | some .won => .str "won"
  | some .reached => .str "reached"
  | some .neither => .str "neither"
def stD (st : List (Option Oc) × Bool) : PyData := .tuple [.list (st.1.map ocD), .bool st.2]
theorem ocD_eqv : ∀ a b : Option Oc, PyData.eqv (ocD a) (ocD b) = decide (a = b)
  | none, none => by decide +kernel
  | none, some .won => by decide +kernel
  | none, some .reached => by decide +kernel
  | none, some .neither => by decide +kernel
  | some .won, none => by decide +kernel
  | some .won, some .won => by decide +kernel
  | some .won, some .reached => by decide +kernel
  | some .won, some .neither => by decide +kernel
  | some .reached, none => by decide +kernel
  | some .reached, some .won => by decide +kernel
  | some .reached, some .reached => by decide +kernel
  | some .reached, some .neither => by decide +kernel
  | some .neither, none => by decide +kernel
  | some .neither, some .won => by decide +kernel
  | some .neither, some .reached => by decide +kernel
  | some .neither, some .neither => by decide +kernel
theorem ocsD_eqv : ∀ a b : List (Option Oc), PyData.eqvAll (a.map ocD) (b.map ocD) = decide (a = b)
  | [], [] => by decide +kernel
  | [], _ :: _ => by
    show PyData.eqvAll [] (_ :: _) = _
    rw [PyData.eqvAll]
    simp
  | _ :: _, [] => by
    show PyData.eqvAll (_ :: _) [] = _
    rw [PyData.eqvAll]
    simp
  | x :: a, y :: b => by
    show PyData.eqvAll (ocD x :: a.map ocD) (ocD y :: b.map ocD) = _
    rw [PyData.eqvAll, ocD_eqv, ocsD_eqv a b]
    by_cases h : x = y <;> simp [h]
theorem stD_eqv (s t : List (Option Oc) × Bool) : PyData.eqv (stD s) (stD t) = decide (s = t) := by
  obtain ⟨s1, s2⟩ := s
  obtain ⟨t1, t2⟩ := t
  show PyData.eqv (.tuple [.list (s1.map ocD), .bool s2]) (.tuple [.list (t1.map ocD), .bool t2]) = _
  simp only [PyData.eqv, PyData.eqvAll, ocsD_eqv]
  by_cases h : s1 = t1 <;> by_cases g : s2 = t2 <;> simp [h, g]
theorem ocsD_lay : ∀ a : List (Option Oc), PyData.canLayAll0 (a.map ocD) = true ∧ PyData.depthAll (a.map ocD) = 0
  | [] => ⟨rfl, rfl⟩
  | x :: a => by
    obtain ⟨h1, h2⟩ := ocsD_lay a
    have hx : PyData.canLay0 (ocD x) = true ∧ PyData.depth (ocD x) = 0 := by
      cases x with
      | none => exact ⟨by decide +kernel, by decide +kernel⟩
      | some o => cases o <;> exact ⟨by decide +kernel, by decide +kernel⟩
    constructor
    · show PyData.canLayAll0 (ocD x :: a.map ocD) = true
      rw [PyData.canLayAll0, hx.1, h1] <;> rfl
    · show PyData.depthAll (ocD x :: a.map ocD) = 0
      rw [PyData.depthAll, hx.2, h2] <;> rfl
theorem stD_shape (s : List (Option Oc) × Bool) : SeqAt.shaped (stD s) = true := by
  obtain ⟨s1, s2⟩ := s
  obtain ⟨h1, h2⟩ := ocsD_lay s1
  unfold SeqAt.shaped stD
  have a : PyData.canLay0 (.tuple [.list (s1.map ocD), .bool s2]) = true := by
    simp only [PyData.canLay0, PyData.canLayAll0, h1, Bool.and_self]
  have b : PyData.depth (.tuple [.list (s1.map ocD), .bool s2]) ≤ 64 := by
    simp only [PyData.depth, PyData.depthAll, h2]
    decide
  rw [a, decide_eq_true b] <;> rfl
theorem StAt.dp {K : PySem.W.Frag} {H : Hp} {p : Addr} {st} (h : StAt H p st) : Dp K H (.ref p) (stD st) := by
  obtain ⟨o, h1, h2⟩ := h
  refine .tup (SqT.of h1) (.cons (.lst (SqL.of h2) ?_) (.cons (.bl _) .nil))
  clear h1 h2
  induction st.1 with
  | nil => exact .nil
  | cons x r ih =>
    refine .cons ?_ ih
    cases x with
    | none => exact .non
    | some o => cases o <;> exact .str _
section
variable {P : Program} {w : World} {K : PySem.W.Frag} {mg : Str → Option Value} {base : Heap}
noncomputable def patsOf (T : Tb Str) : List (List Str) := pats (asc (meths T.es))
def sameSt (T1 T2 : Tb Str) : Prop := ∀ c ∈ M.names T1.es, M.sworn T1.es c = true → ∀ b ∈ M.names T1.es, b ≠ c → M.state T1 c b (patsOf T1) = M.state T2 c b (patsOf T1)
def spDiff (K : PySem.W.Frag) : Sp := fun vs H Q _ => ∃ (t1 t2 : Addr) (T1 T2 : Tb Str), vs = [.ref t1, .ref t2] ∧ TabAt K H t1 T1 ∧ TabAt K H t2 T2 ∧ T2.es = T1.es ∧ WfT T1 ∧ WfT T2 ∧ WfM T1.es ∧ Tabs (tt K) H ∧
  ∀ H' v, Gr (tt K) H H' → ((v = .non ∧ sameSt T1 T2) ∨ ((∃ p, v = V.ref p) ∧ ¬ sameSt T1 T2)) → Q v H'
theorem sc_first_difference : FnScope ["one", "other", "patterns", "names", "cls", "beside", "states", "name"] ["one", "other"] (defScope s_first_difference) := ⟨rfl, rfl, rfl, by decide +kernel, rfl, by decide +kernel, by decide +kernel⟩
theorem ok_first_difference (c : Tx K mg base) : Ok P w K mg base 10 (ga K "first_difference") ["one", "other"] (spDiff K) := by
  refine Ok.mk' (fd_first_difference c) sc_first_difference (fun _ _ _ _ _ _ us hl => match us, hl with | [_, _], _ => rfl) (fun vs H Q E h => ?_) (fun cdv A outer s H vs Q E hr h => ?_)
  · obtain ⟨t1, t2, T1, T2, rfl, _⟩ := h
    rfl
  · obtain ⟨t1, t2, T1, T2, rfl, hT1, hT2, he, wf1, wf2, wm, hTab, k⟩ := h
    refine ⟨_, (pss_cons (ps_set (i := 2) sc_first_difference.nd rfl (Or.inl rfl) ((ok_patterns_in c).call hr (by decide) (g_patterns_in c) (pa_cons (pv 0) pa_nil))) (pss_cons (ps_set (i := 3) sc_first_difference.nd rfl (Or.inl rfl) ((ok_Table_all_names c).meth0 hr (by decide) (cl_Table c) (me_Table_all_names c) (pv 0))) (pss_cons (ps_for PassesOwn.never rfl (piL K rfl (pe_lc (own := [("name", 7)]) (g := (gName 7)) rfl sc_first_difference.nd (piL K rfl (pv 3)) (blkOk_by (N := ["one", "other", "patterns", "names", "cls", "beside", "states", "name"]) (sc := defScope s_first_difference) (by decide +kernel)) (fun _ _ _ _ _ => (pg_name (i := 7) sc_first_difference.nd rfl (by first | exact Or.inl rfl | exact Or.inr rfl))) (fun _ _ _ _ _ => by exact (pts_one (pt_val ((ok_Table_sworn c).meth hr (by decide) (cl_Table c) (me_Table_sworn c) (pv 0) (pa_cons (pv 7) pa_nil))))) (fun _ _ _ _ _ => by exact (pv 7)))) (pg_name (i := 4) sc_first_difference.nd rfl (Or.inr rfl)) (pss_one (ps_for PassesOwn.never rfl (piL K rfl (pe_lc (own := [("name", 7)]) (g := (gName 7)) rfl sc_first_difference.nd (piL K rfl (pv 3)) (blkOk_by (N := ["one", "other", "patterns", "names", "cls", "beside", "states", "name"]) (sc := defScope s_first_difference) (by decide +kernel)) (fun _ _ _ _ _ => (pg_name (i := 7) sc_first_difference.nd rfl (by first | exact Or.inl rfl | exact Or.inr rfl))) (fun _ _ _ _ _ => by exact (pts_one (pt_cmpR op_ne (pv 7) (pv 4) (nomark _)))) (fun _ _ _ _ _ => by exact (pv 7)))) (pg_name (i := 5) sc_first_difference.nd rfl (Or.inl rfl)) (pss_cons (ps_set (i := 6) sc_first_difference.nd rfl (Or.inl rfl) (pe_tup (pa_cons ((ok_state_of c).call hr (by decide) (g_state_of c) (pa_cons (pv 0) (pa_cons (pv 4) (pa_cons (pv 5) (pa_cons (pv 2) pa_nil))))) (pa_cons ((ok_state_of c).call hr (by decide) (g_state_of c) (pa_cons (pv 1) (pa_cons (pv 4) (pa_cons (pv 5) (pa_cons (pv 2) pa_nil))))) pa_nil)))) (pss_one (ps_if (pt_cmpR (neDK K rfl hr.units) (pe_ix (ixTK K rfl) (pv 6) pe_int (fun _ _ => rfl)) (pe_ix (ixTK K rfl) (pv 6) pe_int (fun _ _ => rfl)) (nomark _)) (pss_one (ps_ret (pe_tup (pa_cons (pv 4) (pa_cons (pv 5) (pa_cons (pv 6) pa_nil)))))) pss_nil)))))) (pss_one (ps_ret pe_non))))), ?_⟩
    obtain ⟨p32, p5⟩ := pats_len5 wm
    refine ⟨_, rfl, t1, T1, rfl, hT1, wf1.toWf, wm, fun H1 pp g1 hpp => ?_⟩
    have hT1' := hT1
    obtain ⟨d1, r1, nu1, l1, m1, kn1, h1, _⟩ := hT1'
    refine ⟨_, rfl, t1, d1, _, rfl, g1.ins h1, rfl, t1, T1, rfl, hT1.mono g1, fun H2 pn g2 hpn => ?_⟩
    have g12 := g1.trans g2
    refine ⟨_, rfl, pn, rfl, ⟨_, SqL.of hpn⟩, fun D hD => ?_⟩
    refine lcL (T := tt K) V.str (M.names T1.es) (SqL.of hpn) (big (Nat.le_trans wf1.toWf.few (by decide))) V.str (fun n => M.sworn T1.es n) hD (fun n hn H' g Kp Ks kp ks => ?_) (fun H3 g3 hl => ?_)
    · refine ⟨rfl, _, rfl, t1, d1, _, rfl, (g12.trans g).ins h1, rfl, _, rfl, t1, T1, n, rfl, hT1.mono (g12.trans g), wf1.toWf, hn, fun H4 g4 => ⟨_, rfl, ?_⟩⟩
      cases hs : M.sworn T1.es n with
      | true => exact iteT ⟨_, rfl, kp hs _ g4⟩
      | false => exact iteF (ks hs _ g4)
    have g13 := g12.trans g3
    have hpn3 := g3.lst hpn
    have hpp3 := hpp.mono (g2.trans g3)
    refine ⟨D, rfl, ⟨_, SqL.of hl⟩, ?_⟩
    have hcs : ∀ c, c ∈ (M.names T1.es).filter (fun n => M.sworn T1.es n) ↔ c ∈ M.names T1.es ∧ M.sworn T1.es c = true := fun c => List.mem_filter
    generalize hcl : (M.names T1.es).filter (fun n => M.sworn T1.es n) = cs at hl hcs
    refine for_list (xs := cs.map V.str) (fun i σ H' => Gr (tt K) H3 H' ∧ (∀ c ∈ cs.take i, ∀ b ∈ M.names T1.es, b ≠ c → M.state T1 c b (patsOf T1) = M.state T2 c b (patsOf T1)) ∧ ∃ x y z, σ = [some (.ref t1), some (.ref t2), some (.ref pp), some (.ref pn), x, y, z, none]) ⟨Gr.refl _, fun c h => by simp at h, _, _, _, rfl⟩ (fun i σ H' _ h => h.1.sqL (SqL.of hl)) ?_ ?_
    · rintro i x σ H4 hi ⟨g4, hdone, x', y', z', rfl⟩
      obtain ⟨cc, hc, rfl⟩ := sv_at hi
      obtain ⟨hcm, hcsw⟩ := (hcs cc).mp (List.mem_of_getElem? hc)
      refine ⟨_, rfl, pn, rfl, ⟨_, SqL.of (g4.lst hpn3)⟩, fun D2 hD2 => ?_⟩
      refine lcL (T := tt K) V.str (M.names T1.es) (SqL.of (g4.lst hpn3)) (big (Nat.le_trans wf1.toWf.few (by decide))) V.str (fun n => decide (n ≠ cc)) hD2 (fun n hn H' g Kp Ks kp ks => ?_) (fun H5 g5 hl5 => ?_)
      · refine ⟨rfl, _, rfl, _, rfl, rfl, _, rfl, ?_⟩
        by_cases hnc : n = cc
        · subst hnc
          rw [show (!decide (V.str n = V.str n)) = false by simp]
          exact iteF (ks (by simp) _ (Gr.refl _))
        · rw [show (!decide (V.str n = V.str cc)) = true by simp [hnc]]
          exact iteT ⟨_, rfl, kp (by simp [hnc]) _ (Gr.refl _)⟩
      have g35 := g4.trans g5
      have hpp5 := hpp3.mono g35
      have hbs : ∀ b, b ∈ (M.names T1.es).filter (fun n => decide (n ≠ cc)) ↔ b ∈ M.names T1.es ∧ b ≠ cc := fun b => by rw [List.mem_filter, decide_eq_true_iff]
      generalize hbl : (M.names T1.es).filter (fun n => decide (n ≠ cc)) = bs at hl5 hbs
      refine ⟨D2, rfl, ⟨_, SqL.of hl5⟩, ?_⟩
      refine for_list (xs := bs.map V.str) (fun j σ H' => Gr (tt K) H5 H' ∧ (∀ b ∈ bs.take j, M.state T1 cc b (patsOf T1) = M.state T2 cc b (patsOf T1)) ∧ ∃ y z, σ = [some (.ref t1), some (.ref t2), some (.ref pp), some (.ref pn), some (.str cc), y, z, none]) ⟨Gr.refl _, fun c h => by simp at h, _, _, rfl⟩ (fun i σ H' _ h => h.1.sqL (SqL.of hl5)) ?_ ?_
      · rintro j x σ H6 hj ⟨g6, hdone2, y', z', rfl⟩
        obtain ⟨b, hb, rfl⟩ := sv_at hj
        obtain ⟨hbm, hbne⟩ := (hbs b).mp (List.mem_of_getElem? hb)
        have g36 := g35.trans g6
        have gH6 := g13.trans g36
        refine ⟨_, rfl, _, rfl, _, rfl, _, rfl, t1, T1, cc, b, pp, _, rfl, hT1.mono gH6, wf1, hcm, hbm, hpp3.mono g36, Nat.le_trans p32 (by decide), gH6.2 hTab, fun H7 q1 g7 hs1 => ?_⟩
        refine ⟨_, rfl, _, rfl, _, rfl, _, rfl, t2, T2, cc, b, pp, _, rfl, hT2.mono (gH6.trans g7), wf2, by rw [he]; exact hcm, by rw [he]; exact hbm, hpp3.mono (g36.trans g7), Nat.le_trans p32 (by decide), (gH6.trans g7).2 hTab, fun H8 q2 g8 hs2 => ?_⟩
        refine ⟨by show 2 ≤ sizeLine; decide, fun st hst => ?_⟩
        have g79 : Gr (tt K) H8 (upd H8 st (.tup [.ref q1, .ref q2])) := Gr.new hst
        refine ⟨_, rfl, st, _, 0, _, rfl, rfl, SqT.of upd_same, rfl, _, rfl, st, _, 1, _, rfl, rfl, SqT.of upd_same, rfl, _, _, ((hs1.mono g8).mono g79).dp, (hs2.mono g79).dp, stD_shape _, stD_shape _, _, rfl, ?_⟩
        rw [stD_eqv]
        have gF := ((gH6.trans g7).trans g8).trans g79
        by_cases eq : M.state T1 cc b (patsOf T1) = M.state T2 cc b (patsOf T1)
        · have eq' : M.state T1 cc b (pats (asc (meths T1.es))) = M.state T2 cc b (pats (asc (meths T1.es))) := eq
          rw [decide_eq_true eq']
          refine iteF ⟨(g6.trans g7).trans (g8.trans g79), fun b' hb' => ?_, _, _, rfl⟩
          rw [List.take_succ, hb] at hb'
          rcases List.mem_append.mp hb' with h | h
          · exact hdone2 b' h
          · have e : b' = b := by simpa using h
            rw [e]
            exact eq
        · have eq' : ¬ M.state T1 cc b (pats (asc (meths T1.es))) = M.state T2 cc b (pats (asc (meths T1.es))) := eq
          rw [decide_eq_false eq']
          refine iteT ⟨_, rfl, _, rfl, _, rfl, by show 3 ≤ sizeLine; decide, fun p hp => k _ _ (gF.trans (Gr.new hp)) (.inr ⟨⟨p, rfl⟩, fun all => eq (all cc hcm hcsw b hbm hbne)⟩)⟩
      · rintro σ H6 ⟨g6, hdone2, y', z', rfl⟩
        refine ⟨(g4.trans g5).trans g6, fun c hc' b hb hne => ?_, _, _, _, rfl⟩
        rw [List.take_succ, hc] at hc'
        rcases List.mem_append.mp hc' with h | h
        · exact hdone c h b hb hne
        · have e : c = cc := by simpa using h
          subst e
          rw [List.length_map, List.take_length] at hdone2
          exact hdone2 b ((hbs b).mpr ⟨hb, hne⟩)
    · rintro σ H4 ⟨g4, hdone, x', y', z', rfl⟩
      refine k _ _ (g13.trans g4) (.inl ⟨rfl, fun c hc hs b hb hne => ?_⟩)
      rw [List.length_map, List.take_length] at hdone
      exact hdone c ((hcs c).mpr ⟨hc, hs⟩) b hb hne
end
end SW


set_option maxHeartbeats 2000000
namespace SW
open PySem PySem.Spec PyProof.Rows L2 He LamX NdefX
open SW.M (Ent Tb Oc)
/-! ## an attribute as a target among several -/
def gFld (K : PySem.W.Frag) (ta : TE) (f : Str) : TG := fun v σ H Q => ta σ H fun x H2 => ∃ a C dx fs, x = .ref a ∧ H2 a = some (.ins C dx fs) ∧ Cls K C ∧ NoAttr K C f ∧ fs.length < 1000 ∧ Q σ (upd H2 a (.ins C dx (putF f v fs)))
theorem pg_fld {X : Cx} {K : PySem.W.Frag} (hK : X.K = K) {o : Expr} {f : Str} {pos : Pos} {ta : TE} (ha : PE X o ta) : PG X (.Attribute o f pos) (gFld K ta f) := by
  subst hK
  refine ⟨fun pins s σ H v u Q I r h => ?_⟩
  rw [arm_assign_Attribute]
  refine wpAny_bind (wpAny_holding (thn (ha.run pins s σ H _ I h) fun ov s1 ⟨x, H1, I1, rx, a, C, dx, fs, ex, ea, c, n, l, q⟩ => ?_))
  subst ex
  obtain rfl : ov = Value.ref a := rx
  refine wpAny_bind (wpAny_standAt (wpAny_bind (wpAny_holding ?_)))
  refine setattr_ok I1 ea c n l r fun s2 I2 => ?_
  exact wpAny_release ⟨σ, _, I2, q⟩
/-! ## xs.remove of a text -/
theorem erase_sv : ∀ (l : List Str) (j : Nat), (sv l).eraseIdx j = sv (l.eraseIdx j)
  | [], j => by simp [sv]
  | a :: r, 0 => by simp [sv]
  | a :: r, j + 1 => by
    have ih := erase_sv r j
    unfold sv at ih ⊢
    simp [ih]
theorem strs_get : ∀ {us : List Value} {xs : List Str}, StrsAre us xs → ∀ (i : Nat) (x : Str), xs[i]? = some x → ∃ t, us[i]? = some (.str x t)
  | _, _, .nil, i, x, h => by simp at h
  | _, _, .cons n t hr, 0, x, h => by
    simp at h
    subst h
    exact ⟨t, rfl⟩
  | _, _, .cons n t hr, i + 1, x, h => strs_get hr i x (by simpa using h)
def rRemS : V → List V → Hp → VK → Prop := fun x xs H Q => ∃ (l : Addr) (ns : List Str) (k : Str), x = .ref l ∧ xs = [.str k] ∧ H l = some (.lst (sv ns)) ∧ k ∈ ns ∧ Q .non (upd H l (.lst (sv (ns.erase k))))
theorem mt_remS {X : Cx} : MtM X "list.remove" rRemS := by
  intro pins s σ H x xs v us Q I rx rxs h
  obtain ⟨l, ns, k, rfl, rfl, hH, hk, q⟩ := h
  cases rx
  obtain ⟨u, rfl, ru⟩ := rxs.one
  obtain ⟨t, rfl⟩ := ru
  obtain ⟨z, its, n, r, hl, e⟩ := I.lstM hH
  have hi := strs_of_vals r
  have hlen : (sv ns).length = ns.length := by simp [sv]
  rw [hlen] at hl z
  have hje : ns.erase k = ns.eraseIdx (ns.idxOf k) := List.erase_eq_eraseIdx_of_idxOf rfl
  have hjn : ns.idxOf k < ns.length := List.idxOf_lt_length_of_mem hk
  have hjl : ns.idxOf k < its.toArray.size := by rw [List.size_toArray]; omega
  refine call_meets PySem.F.slot_list_remove ⟨_, e, rfl⟩ PySem.F.entry_list_remove (PySem.F.args_list_remove_2 _ _)
    (MeetsSeq.list_remove l its.toArray n (.str k t) (isStrOf k) (fun y hy => eq_isStrOf k t hi y (by simpa using hy)) (ns.idxOf k) hjl ?_ ?_ (by rw [List.size_toArray]; omega)) ⟨e, ?_⟩
  · obtain ⟨tj, hjt⟩ := strs_get hi (ns.idxOf k) k (by rw [List.getElem?_eq_getElem hjn, List.getElem_idxOf hjn])
    obtain ⟨h1, h2⟩ := List.getElem?_eq_some_iff.mp hjt
    have e1 : its.toArray[ns.idxOf k] = .str k tj := by simpa using h2
    rw [e1]
    exact beq_self_eq_true k
  · intro m hm hmj
    have hmn : m < ns.length := by omega
    obtain ⟨tm, hmt⟩ := strs_get hi m _ (List.getElem?_eq_getElem hmn)
    obtain ⟨h1, h2⟩ := List.getElem?_eq_some_iff.mp hmt
    have e1 : its.toArray[m] = .str ns[m] tm := by simpa using h2
    rw [e1]
    have hne : ns[m] ≠ k := fun e2 => by
      have := List.not_of_lt_findIdx (p := fun x => x == k) (xs := ns) hmj
      simp [e2] at this
    show (ns[m] == k) = false
    exact beq_eq_false_iff_ne.mpr hne
  · have rr := r.eraseIdx (ns.idxOf k)
    rw [erase_sv, ← hje] at rr
    refine ⟨.non, _, I.lset (its' := its.eraseIdx (ns.idxOf k)) (t' := s.toks) hH e ?_ rr ?_, rfl, q⟩
    · show its.toArray.eraseIdxIfInBounds (ns.idxOf k) = (its.eraseIdx (ns.idxOf k)).toArray
      rw [List.eraseIdxIfInBounds_toArray]
    · have z2 := List.length_erase_le (a := k) (l := ns)
      simp [sv]
      omega
end SW


set_option maxHeartbeats 2000000
namespace SW
open PySem PySem.Spec PyProof.Rows L2 He LamX NdefX
open SW.M (Ent Tb Oc)
/-! ## heaps without some addresses: those that are still written -/
def woL (W : List Addr) (H : Hp) : Hp := fun b => if b ∈ W then none else H b
def MutO (H : Hp) (a : Addr) : Prop := ∃ o, H a = some o ∧ NoTbl o ∧ ∀ c q, o ≠ CodeO c q
section
variable {T : Tbs} {H H1 H' : Hp} {W W' : List Addr} {p a b : Addr} {o : HO}
theorem woL_nil : woL [] H = H := by
  funext b
  simp [woL]
theorem woL_out (h : a ∉ W) : woL W H a = H a := if_neg h
theorem woL_in (h : a ∈ W) : woL W H a = none := if_pos h
theorem of_woL (h : woL W H a = some o) : a ∉ W ∧ H a = some o := by
  unfold woL at h
  split at h
  · cases h
  · exact ⟨by assumption, h⟩
theorem MutO.lst {xs} (h : H a = some (.lst xs)) : MutO H a := ⟨_, h, nt_lst, fun _ _ => code_lst⟩
theorem MutO.dK {xs} (h : H a = some (.dK xs)) : MutO H a := ⟨_, h, nt_dK, fun _ _ => code_dK⟩
theorem MutO.ins {C dx fs} (h : H a = some (.ins C dx fs)) : MutO H a := ⟨_, h, nt_ins, fun _ _ => code_ins⟩
theorem tabs_of_woL (t : Tabs T (woL W H)) : Tabs T H := t.ext fun b u e => (of_woL e).2
theorem tabs_woL (t : Tabs T H) (m : ∀ w ∈ W, MutO H w) : Tabs T (woL W H) := fun q hq => by
  obtain ⟨ps, h1, h2, h3⟩ := t q hq
  refine ⟨ps, ?_, h2, fun pos cv hc => ?_⟩
  · rw [woL_out]
    · exact h1
    · intro z
      obtain ⟨o, e, n, _⟩ := m _ z
      rw [h1] at e
      exact n ps (Option.some.inj e).symm
  · obtain ⟨c, e1, e2⟩ := h3 pos cv hc
    refine ⟨c, e1, ?_⟩
    rw [woL_out]
    · exact e2
    · intro z
      obtain ⟨o, e, _, n⟩ := m _ z
      rw [e2] at e
      exact n _ _ (Option.some.inj e).symm
theorem gr_of_woL : Gr T (woL W H) H := ⟨fun b u e _ => (of_woL e).2, tabs_of_woL⟩
theorem Gr.woL (g : Gr T H H') (m : ∀ w ∈ W, MutO H' w) : Gr T (SW.woL W H) (SW.woL W H') := by
  refine ⟨fun b u e n => ?_, fun t => tabs_woL (g.2 (tabs_of_woL t)) m⟩
  obtain ⟨h1, h2⟩ := of_woL e
  rw [woL_out h1]
  exact g.1 _ _ h2 n
theorem woL_upd (h : p ∈ W) : woL W (upd H p o) = woL W H := by
  funext b
  by_cases hb : b ∈ W
  · rw [woL_in hb, woL_in hb]
  · rw [woL_out hb, woL_out hb, upd_ne fun z => hb (by rw [z]; exact h)]
theorem woL_new (h : p ∉ W) : woL W (upd H p o) = upd (woL W H) p o := by
  funext b
  by_cases hb : b = p
  · subst hb
    rw [woL_out h, upd_same, upd_same]
  · rw [upd_ne hb]
    by_cases hw : b ∈ W
    · rw [woL_in hw, woL_in hw]
    · rw [woL_out hw, woL_out hw, upd_ne hb]
/-- a new one that will be written -/
theorem woL_grow (h : H p = none) : woL (p :: W) (upd H p o) = woL W H := by
  funext b
  by_cases hb : b = p
  · subst hb
    rw [woL_in List.mem_cons_self]
    by_cases hw : b ∈ W
    · rw [woL_in hw]
    · rw [woL_out hw, h]
  · by_cases hw : b ∈ W
    · rw [woL_in (List.mem_cons_of_mem _ hw), woL_in hw]
    · rw [woL_out hw, woL_out (fun z => (List.mem_cons.mp z).elim hb hw), upd_ne hb]
/-- an immutable one -/
theorem Gr.newW (h : H p = none) (hw : p ∉ W) : Gr T (SW.woL W H) (SW.woL W (upd H p o)) := by
  rw [woL_new hw]
  refine Gr.new ?_
  rw [woL_out hw]
  exact h
theorem not_in (m : ∀ w ∈ W, MutO H w) (h : H p = none) : p ∉ W := fun z => by
  obtain ⟨o, e, _⟩ := m p z
  rw [h] at e
  cases e
theorem MutO.upd (m : MutO H a) (h : H p = none) : MutO (L2.upd H p o) a := by
  obtain ⟨u, e, n1, n2⟩ := m
  refine ⟨u, ?_, n1, n2⟩
  rw [upd_ne (ne_of_none e h)]
  exact e
theorem MutO.set (m : MutO H a) (n1 : NoTbl o) (n2 : ∀ c q, o ≠ CodeO c q) : MutO (L2.upd H p o) a := by
  by_cases h : a = p
  · subst h
    exact ⟨o, upd_same, n1, n2⟩
  · obtain ⟨u, e, k1, k2⟩ := m
    exact ⟨u, by rw [upd_ne h]; exact e, k1, k2⟩
theorem MutO.gr (g : Gr T H H') (m : MutO H a) : MutO H' a := by
  obtain ⟨u, e, n1, n2⟩ := m
  exact ⟨u, g.1 _ _ e n1, n1, n2⟩
end
/-! ## a table that may be changed -/
def klOf (es : List En) (las : List Addr) : List (Key × V) := (es.zip las).map fun p => (Sum.inr p.1.label, V.ref p.2)
structure TabOwn (K : PySem.W.Frag) (H : Hp) (W : List Addr) (t : Addr) (T : Tb Str) (dx r nu l : Addr) (m : Int) (kr kn : List (Key × V)) (las : List Addr) : Prop where
  ht : H t = some (.ins (ga K "Table") dx (tabF r nu l m))
  hr : H r = some (.dK kr)
  hn : H nu = some (.dK kn)
  hl : H l = some (.dK (klOf T.es las))
  ents : Paired (EntV K (woL W H)) kr T.es
  lists : Paired (fun a (E : En) => H a = some (.lst (sv (T.rg E.label)))) las T.es
  nd : (t :: r :: nu :: l :: las).Nodup
  own : ∀ a ∈ t :: r :: nu :: l :: las, a ∈ W
section
variable {K : PySem.W.Frag} {H H' : Hp} {W : List Addr} {t : Addr} {T : Tb Str} {dx r nu l : Addr} {m : Int} {kr kn : List (Key × V)} {las : List Addr}
theorem reg_of {rg : Str → List Str} : ∀ {es : List En} {las : List Addr}, Paired (fun a (E : En) => H a = some (.lst (sv (rg E.label)))) las es → Paired (RegV H rg) (klOf es las) es
  | [], _, .nil => .nil
  | E :: es, _, .cons r t => .cons ⟨rfl, _, rfl, r⟩ (reg_of t)
theorem TabOwn.at (h : TabOwn K H W t T dx r nu l m kr kn las) : TabAt K H t T :=
  ⟨dx, r, nu, l, m, kn, h.ht, ⟨kr, h.hr, prd_mono h.ents fun p E ⟨e1, e, e2, h⟩ => ⟨e1, e, e2, h.mono (B := tt K) gr_of_woL⟩⟩, h.hn, ⟨_, h.hl, reg_of h.lists⟩⟩
/-- behind what reads alone -/
theorem TabOwn.gr (g : Gr (tt K) H H') (mm : ∀ w ∈ W, MutO H w) (h : TabOwn K H W t T dx r nu l m kr kn las) : TabOwn K H' W t T dx r nu l m kr kn las :=
  ⟨g.ins h.ht, g.dK h.hr, g.dK h.hn, g.dK h.hl, prd_mono h.ents fun p E ⟨e1, e, e2, h⟩ => ⟨e1, e, e2, h.mono (Gr.woL g fun w hw => (mm w hw).gr g)⟩, prd_mono h.lists fun a E e => g.lst e, h.nd, h.own⟩
end
/-- a table that alone (with W's other cells, if any) is written -/
def TabO (K : PySem.W.Frag) (H : Hp) (W : List Addr) (t : Addr) (T : Tb Str) : Prop := (∀ w ∈ W, MutO H w) ∧ ∃ dx r nu l m kr kn las, TabOwn K H W t T dx r nu l m kr kn las
theorem upd_comm {H : Hp} {a b : Addr} {o u : HO} (h : a ≠ b) : upd (upd H a o) b u = upd (upd H b u) a o := by
  funext c
  by_cases h1 : c = a
  · subst h1
    rw [upd_ne h, upd_same, upd_same]
  · by_cases h2 : c = b
    · subst h2
      rw [upd_same, upd_ne h1, upd_same]
    · rw [upd_ne h2, upd_ne h1, upd_ne h1, upd_ne h2]
theorem ne_none {H : Hp} {a b : Addr} {o : HO} (h : H a = none) (h' : H b = some o) : a ≠ b := fun e => by
  rw [e, h'] at h
  cases h
section
variable {P : Program} {w : World} {K : PySem.W.Frag} {mg : Str → Option Value} {base : Heap}
def spTabInit (K : PySem.W.Frag) : Sp := fun vs H Q _ => ∃ (x dx : Addr), vs = [.ref x] ∧ H x = some (.ins (ga K "Table") dx []) ∧ ∀ r nu l, H r = none → H nu = none → H l = none → r ≠ nu → r ≠ l → nu ≠ l →
  Q .non (upd (upd (upd (upd H r (.dK [])) nu (.dK [])) l (.dK [])) x (.ins (ga K "Table") dx (tabF r nu l 0)))
theorem sc_Table_init : FnScope ["self"] ["self"] (defScope s_Table_init) := ⟨rfl, rfl, rfl, by decide +kernel, rfl, by decide +kernel, by decide +kernel⟩
theorem ok_Table_init (c : Tx K mg base) : Ok P w K mg base 1 (ma K (ga K "Table") "__init__") ["self"] (spTabInit K) := by
  refine Ok.mk' (fd_Table_init c) sc_Table_init (fun _ _ _ _ _ _ us hl => match us, hl with | [_], _ => rfl) (fun vs H Q E h => ?_) (fun cdv A outer s H vs Q E hr h => ?_)
  · obtain ⟨x, dx, rfl, _⟩ := h
    rfl
  · obtain ⟨x, dx, rfl, hx, k⟩ := h
    refine ⟨_, (pss_cons (ps_fld (pv 0) pe_dnewK rfl) (pss_cons (ps_fld (pv 0) pe_dnewK rfl) (pss_cons (ps_fld (pv 0) pe_dnewK rfl) (pss_one (ps_fld (pv 0) pe_int rfl))))), ?_⟩
    refine fun r hr => ?_
    have xr : x ≠ r := ne_of_none hx hr
    refine ⟨_, rfl, x, _, dx, _, rfl, by rw [upd_ne xr]; exact hx, cl_Table c, na_Table_records c, by decide, fun nu hnu => ?_⟩
    have nx : nu ≠ x := ne_none hnu upd_same
    have hnu1 : upd H r (.dK []) nu = none := by
      rw [upd_ne nx] at hnu
      exact hnu
    have nr : nu ≠ r := ne_none hnu1 upd_same
    have hnu0 : H nu = none := by
      rw [upd_ne nr] at hnu1
      exact hnu1
    refine ⟨_, rfl, x, _, dx, _, rfl, by rw [upd_ne nx.symm]; exact upd_same, cl_Table c, na_Table_numbers c, by show 1 < 1000; decide, fun l hl => ?_⟩
    have lx : l ≠ x := ne_none hl upd_same
    rw [upd_ne lx] at hl
    have ln : l ≠ nu := ne_none hl upd_same
    rw [upd_ne ln, upd_ne lx] at hl
    have lr : l ≠ r := ne_none hl upd_same
    have hl0 : H l = none := by
      rw [upd_ne lr] at hl
      exact hl
    refine ⟨_, rfl, x, _, dx, _, rfl, by rw [upd_ne lx.symm]; exact upd_same, cl_Table c, na_Table_lists c, by show 2 < 1000; decide, ?_⟩
    refine ⟨_, rfl, x, _, dx, _, rfl, upd_same, cl_Table c, na_Table_made c, by show 3 < 1000; decide, ?_⟩
    have e := k r nu l hr hnu0 hl0 nr.symm lr.symm ln.symm
    have eH : upd (upd (upd (upd H r (.dK [])) nu (.dK [])) l (.dK [])) x (.ins (ga K "Table") dx (tabF r nu l 0)) = upd (upd (upd (upd (upd (upd (upd H r (.dK [])) x (.ins (ga K "Table") dx [("records", .ref r)])) nu (.dK [])) x (.ins (ga K "Table") dx [("records", .ref r), ("numbers", .ref nu)])) l (.dK [])) x (.ins (ga K "Table") dx [("records", .ref r), ("numbers", .ref nu), ("lists", .ref l)])) x (.ins (ga K "Table") dx (tabF r nu l 0)) := by
      funext b
      by_cases h1 : b = x
      · subst h1
        rw [upd_same, upd_same]
      · rw [upd_ne h1, upd_ne h1, upd_ne h1]
        by_cases h2 : b = l
        · subst h2
          rw [upd_same, upd_same]
        · rw [upd_ne h2, upd_ne h2, upd_ne h1]
          by_cases h3 : b = nu
          · subst h3
            rw [upd_same, upd_same]
          · rw [upd_ne h3, upd_ne h3, upd_ne h1]
    rw [eH] at e
    exact e
end
end SW


set_option maxHeartbeats 2000000
namespace SW
open PySem PySem.Spec PyProof.Rows L2 He LamX NdefX
open SW.M (Ent Tb Oc)
theorem ne_mem {w D : Addr} {W : List Addr} (hw : w ∈ W) (h : D ∉ W) : w ≠ D := fun e => h (by rw [← e]; exact hw)
theorem woL_congr {W W' : List Addr} {H : Hp} (h : ∀ b, b ∈ W ↔ b ∈ W') : woL W H = woL W' H := by
  funext b
  by_cases hb : b ∈ W
  · rw [woL_in hb, woL_in ((h b).mp hb)]
  · rw [woL_out hb, woL_out fun z => hb ((h b).mpr z)]
theorem mut_ne {H : Hp} {a p : Addr} (m : MutO H a) (h : H p = none) : a ≠ p := fun e => by
  obtain ⟨o, e2, _⟩ := m
  rw [e, h] at e2
  cases e2
theorem MutO.eq {H H' : Hp} {a : Addr} (m : MutO H a) (h : H' a = H a) : MutO H' a := by
  obtain ⟨o, e, n1, n2⟩ := m
  exact ⟨o, h.trans e, n1, n2⟩
theorem prd_mem {α β : Type} {R S : α → β → Prop} {xs : List α} {ys : List β} (h : Paired R xs ys) (m : ∀ a b, a ∈ xs → R a b → S a b) : Paired S xs ys := by
  induction h with
  | nil => exact .nil
  | cons r _ ih => exact .cons (m _ _ List.mem_cons_self r) (ih fun a b ha => m a b (List.mem_cons_of_mem _ ha))
theorem mem_ac {D a b : Addr} {las W : List Addr} : b ∈ D :: (las ++ [a]) ++ W ↔ b ∈ a :: (D :: las ++ W) := by
  simp only [List.mem_cons, List.mem_append, List.cons_append, List.not_mem_nil, or_false, false_or, or_assoc, or_comm, or_left_comm]
theorem klOf_pair : ∀ {es : List En} {las : List Addr}, las.length = es.length → Paired (fun (p : Key × V) (E : En) => p.1 = .inr E.label) (klOf es las) es
  | [], [], _ => .nil
  | [], _ :: _, h => by cases h
  | _ :: _, [], h => by cases h
  | E :: es, a :: las, h => .cons rfl (klOf_pair (Nat.succ.inj h))
theorem klOf_snoc : ∀ {es : List En} {las : List Addr} (E : En) (a : Addr), las.length = es.length → klOf (es ++ [E]) (las ++ [a]) = klOf es las ++ [(.inr E.label, .ref a)]
  | [], [], E, a, _ => rfl
  | [], _ :: _, _, _, h => by cases h
  | _ :: _, [], _, _, h => by cases h
  | E :: es, a :: las, E', a', h => by
    show (_ :: klOf (es ++ [E']) (las ++ [a'])) = _ :: (klOf es las ++ _)
    rw [klOf_snoc E' a' (Nat.succ.inj h)]
theorem klOf_len {es : List En} {las : List Addr} (h : las.length = es.length) : (klOf es las).length = es.length := by
  unfold klOf
  rw [List.length_map, List.length_zip, h, Nat.min_self]
theorem klOf_put {es : List En} {las : List Addr} (E : En) (a : Addr) (h : las.length = es.length) (hn : E.label ∉ M.names es) : putK (klOf es las) (.inr E.label) (.ref a) = klOf (es ++ [E]) (las ++ [a]) := by
  rw [klOf_snoc E a h]
  exact putK_new _ (val_none (fun _ _ r => r) (klOf_pair h) hn)
theorem name_new {es : List En} (nd : (M.names es).Nodup) {i : Nat} {E : En} (h : es[i]? = some E) : E.label ∉ M.names (es.take i) := fun hm => by
  obtain ⟨E', h1, h2⟩ := List.mem_map.mp hm
  obtain ⟨j, hj⟩ := List.mem_iff_getElem?.mp h1
  rw [List.getElem?_take] at hj
  by_cases hji : j < i
  · rw [if_pos hji] at hj
    have a : (M.names es)[j]? = some E'.label := by unfold M.names; rw [List.getElem?_map, hj] <;> rfl
    have b : (M.names es)[i]? = some E.label := by unfold M.names; rw [List.getElem?_map, h] <;> rfl
    rw [h2] at a
    obtain ⟨a1, a2⟩ := List.getElem?_eq_some_iff.mp a
    obtain ⟨b1, b2⟩ := List.getElem?_eq_some_iff.mp b
    exact absurd (a2.trans b2.symm) (List.pairwise_iff_getElem.mp nd j i a1 b1 hji)
  · rw [if_neg hji] at hj
    cases hj
section
variable {P : Program} {w : World} {K : PySem.W.Frag} {mg : Str → Option Value} {base : Heap}
def spCopied (K : PySem.W.Frag) : Sp := fun vs H Q _ => ∃ (t : Addr) (T : Tb Str), vs = [.ref t] ∧ TabAt K H t T ∧ WfT T ∧ ∀ H' W t', Gr (tt K) H (woL W H') → TabO K H' W t' T → Q (.ref t') H'
theorem sc_Table_copied : FnScope ["self", "found", "name", "others"] ["self"] (defScope s_Table_copied) := ⟨rfl, rfl, rfl, by decide +kernel, rfl, by decide +kernel, by decide +kernel⟩
theorem ok_Table_copied (c : Tx K mg base) : Ok P w K mg base 3 (ma K (ga K "Table") "copied") ["self"] (spCopied K) := by
  refine Ok.mk' (fd_Table_copied c) sc_Table_copied (fun _ _ _ _ _ _ us hl => match us, hl with | [_], _ => rfl) (fun vs H Q E h => ?_) (fun cdv A outer s H vs Q E hr h => ?_)
  · obtain ⟨t, T, rfl, _⟩ := h
    rfl
  · obtain ⟨t, T, rfl, hT, wf, k⟩ := h
    refine ⟨_, (pss_cons (ps_set (i := 1) sc_Table_copied.nd rfl (Or.inl rfl) ((ok_Table_init c).make0 hr (by decide) (mk_Table c) (g_Table c))) (pss_cons (ps_asg (pe_tup (pa_cons (pe_callTy call_dictD (by rfl) (n_dict c) (by first | exact PySem.boot_dict | exact boot_dict | decide +kernel) (pa_cons (fldK K rfl (pv 0) rfl) pa_nil)) (pa_cons (pe_callTy call_dictD (by rfl) (n_dict c) (by first | exact PySem.boot_dict | exact boot_dict | decide +kernel) (pa_cons (fldK K rfl (pv 0) rfl) pa_nil)) (pa_cons (fldK K rfl (pv 0) rfl) pa_nil)))) (gtupK K (n := 3) rfl rfl (pgs_cons (pg_fld (K := K) rfl (pv 1)) (pgs_cons (pg_fld (K := K) rfl (pv 1)) (pgs_cons (pg_fld (K := K) rfl (pv 1)) pgs_nil))))) (pss_cons (ps_fld (pv 1) (pe_lock (pe_dc (own := [("name", 2), ("others", 3)]) (g := (gTup K 2 (gCons (gName 2) (gCons (gName 3) gNil)))) (tt := tYes) rfl sc_Table_copied.nd (pi_items (fldK K rfl (pv 0) rfl)) (blkOk_by (N := ["self", "found", "name", "others"]) (sc := defScope s_Table_copied) (by decide +kernel)) (fun _ _ _ _ _ => (gtupK K (n := 2) rfl rfl (pgs_cons (pg_name (i := 2) sc_Table_copied.nd rfl (by first | exact Or.inl rfl | exact Or.inr rfl)) (pgs_cons (pg_name (i := 3) sc_Table_copied.nd rfl (by first | exact Or.inl rfl | exact Or.inr rfl)) pgs_nil)))) (fun _ _ _ _ _ => pts_nil) (fun _ _ _ _ _ => by exact (pv 2)) (fun _ _ _ _ _ => by exact (pe_callTy (listK K rfl) (by rfl) (n_list c) (by first | exact PySem.boot_list | exact boot_list | decide +kernel) (pa_cons (pv 3) pa_nil))))) rfl) (pss_one (ps_ret (pv 1)))))), ?_⟩
    intro x dx hx hdx hne
    refine (fun (hs : ∀ Ha : Hp, upd (upd H dx (.own x)) x (.ins (ga K "Table") dx []) = Ha → spTabInit K [.ref x] Ha _ _) => hs _ rfl) ?_
    intro Ha hH0
    refine ⟨x, dx, rfl, by rw [← hH0]; exact upd_same, fun r1 nu1 l1 hr1 hnu1 hl1 d1 d2 d3 => ⟨rfl, ?_⟩⟩
    obtain ⟨d0, r, nu, l, m, kn, h1, h2, h3, h4⟩ := hT
    have hax : Ha x = some (.ins (ga K "Table") dx []) := by rw [← hH0]; exact upd_same
    have gA : Gr (tt K) H (woL [x] Ha) := by
      rw [← hH0, woL_grow (by rw [upd_ne hne.symm]; exact hx), woL_nil]
      exact Gr.new hdx
    have xr : x ≠ r1 := ne_of_none hax hr1
    have xn : x ≠ nu1 := ne_of_none hax hnu1
    have xl : x ≠ l1 := ne_of_none hax hl1
    have gB : Gr (tt K) H (woL [x] (upd (upd (upd Ha r1 (.dK [])) nu1 (.dK [])) l1 (.dK []))) := by
      refine ((gA.trans (Gr.newW hr1 (by simp [xr.symm]))).trans (Gr.newW (by rw [upd_ne d1.symm]; exact hnu1) (by simp [xn.symm]))).trans (Gr.newW ?_ (by simp [xl.symm]))
      rw [upd_ne d3.symm, upd_ne d2.symm]
      exact hl1
    generalize upd (upd (upd Ha r1 (.dK [])) nu1 (.dK [])) l1 (.dK []) = Hb at gB ⊢
    have gC : Gr (tt K) H (woL [x] (upd Hb x (.ins (ga K "Table") dx (tabF r1 nu1 l1 0)))) := by
      rw [woL_upd (by simp)]
      exact gB
    generalize hHc : upd Hb x (.ins (ga K "Table") dx (tabF r1 nu1 l1 0)) = Hc at gC ⊢
    have hcx : Hc x = some (.ins (ga K "Table") dx (tabF r1 nu1 l1 0)) := by rw [← hHc]; exact upd_same
    have hkr := h2
    obtain ⟨kr, hr, hkr⟩ := h2
    have G1 : Gr (tt K) H Hc := gC.trans gr_of_woL
    refine ⟨_, rfl, t, _, d0, _, _, rfl, G1.ins h1, cl_Table c, na_Table_records c, rfl, r, kr, rfl, .inl (G1.dK hr), fun r2 hr2 => ?_⟩
    have G2 : Gr (tt K) H (upd Hc r2 (.dK kr)) := G1.trans (Gr.new hr2)
    refine ⟨_, rfl, t, _, d0, _, _, rfl, G2.ins h1, cl_Table c, na_Table_numbers c, rfl, nu, kn, rfl, .inl (G2.dK h3), fun n2 hn2 => ?_⟩
    have G3 : Gr (tt K) H (upd (upd Hc r2 (.dK kr)) n2 (.dK kn)) := G2.trans (Gr.new hn2)
    refine ⟨_, rfl, t, _, d0, _, _, rfl, G3.ins h1, cl_Table c, na_Table_made c, rfl, by show 3 ≤ sizeLine; decide, fun tp htp => ?_⟩
    have hxr : x ≠ r2 := ne_of_none hcx hr2
    have hxn : x ≠ n2 := ne_of_none (by rw [upd_ne hxr]; exact hcx) hn2
    have hxt : x ≠ tp := ne_of_none (by rw [upd_ne hxn, upd_ne hxr]; exact hcx) htp
    have hrn : r2 ≠ n2 := ne_of_none upd_same hn2
    have hrt : r2 ≠ tp := ne_of_none (by rw [upd_ne hrn]; exact upd_same) htp
    have hnt : n2 ≠ tp := ne_of_none upd_same htp
    refine ⟨tp, _, rfl, SqT.of upd_same, rfl, _, _, rfl, _, rfl, x, _, dx, _, rfl, by rw [upd_ne hxt, upd_ne hxn, upd_ne hxr]; exact hcx, cl_Table c, na_Table_records c, by show 4 < 1000; decide, ?_⟩
    refine ⟨_, _, rfl, _, rfl, x, _, dx, _, rfl, upd_same, cl_Table c, na_Table_numbers c, by show 4 < 1000; decide, ?_⟩
    refine ⟨_, _, rfl, _, rfl, x, _, dx, _, rfl, upd_same, cl_Table c, na_Table_made c, by show 4 < 1000; decide, rfl, ?_⟩
    rw [L2.upd_upd, L2.upd_upd]
    have eF : putF "made" (.int m) (putF "numbers" (.ref n2) (putF "records" (.ref r2) (tabF r1 nu1 l1 0))) = tabF r2 n2 l1 m := rfl
    rw [eF]
    have gD : Gr (tt K) H (woL [n2, r2, x] (upd (upd (upd (upd Hc r2 (.dK kr)) n2 (.dK kn)) tp (.tup [.ref r2, .ref n2, .int m])) x (.ins (ga K "Table") dx (tabF r2 n2 l1 m)))) := by
      rw [woL_upd (by simp)]
      refine Gr.trans ?_ (Gr.newW htp (by simp [hxt.symm, hrt.symm, hnt.symm]))
      rw [woL_grow hn2, woL_grow hr2]
      exact gC
    have hdx5 : (upd (upd (upd (upd Hc r2 (.dK kr)) n2 (.dK kn)) tp (.tup [.ref r2, .ref n2, .int m])) x (.ins (ga K "Table") dx (tabF r2 n2 l1 m))) x = some (.ins (ga K "Table") dx (tabF r2 n2 l1 m)) := upd_same
    have hdr5 : (upd (upd (upd (upd Hc r2 (.dK kr)) n2 (.dK kn)) tp (.tup [.ref r2, .ref n2, .int m])) x (.ins (ga K "Table") dx (tabF r2 n2 l1 m))) r2 = some (.dK kr) := by
      rw [upd_ne hxr.symm, upd_ne hrt, upd_ne hrn]
      exact upd_same
    have hdn5 : (upd (upd (upd (upd Hc r2 (.dK kr)) n2 (.dK kn)) tp (.tup [.ref r2, .ref n2, .int m])) x (.ins (ga K "Table") dx (tabF r2 n2 l1 m))) n2 = some (.dK kn) := by
      rw [upd_ne hxn.symm, upd_ne hnt]
      exact upd_same
    generalize upd (upd (upd (upd Hc r2 (.dK kr)) n2 (.dK kn)) tp (.tup [.ref r2, .ref n2, .int m])) x (.ins (ga K "Table") dx (tabF r2 n2 l1 m)) = H5 at gD hdx5 hdr5 hdn5 ⊢
    obtain ⟨kl, hl, hkl⟩ := h4
    have G5 : Gr (tt K) H H5 := gD.trans gr_of_woL
    have hl5 := gD.dK hl
    obtain ⟨hlW, hl5⟩ := of_woL hl5
    refine ⟨l, _, hl5, trivial, fun od => ?_⟩
    have hlk : upd H5 l (.frz od (.dK kl)) l = some (.frz od (.dK kl)) := upd_same
    refine ⟨_, rfl, t, _, d0, _, _, rfl, lock_ne (ob := od) hl5 (G5.ins h1) (fun z => by cases z), cl_Table c, na_Table_lists c, rfl, l, od, kl, rfl, hlk, fun D hD => ?_⟩
    have hkl5 : Paired (RegV (woL [n2, r2, x] H5) T.rg) kl T.es := prd_mono hkl fun p E ⟨e1, a, e2, h⟩ => ⟨e1, a, e2, gD.lst h⟩
    have hDl : D ≠ l := ne_none hD hlk
    have hD5 : H5 D = none := by
      rw [upd_ne hDl] at hD
      exact hD
    have hm5 : ∀ w ∈ [n2, r2, x], MutO H5 w := fun w hw => by
      rcases List.mem_cons.mp hw with rfl | hw
      · exact .dK hdn5
      · rcases List.mem_cons.mp hw with rfl | hw
        · exact .dK hdr5
        · rw [List.mem_singleton.mp hw]
          exact .ins hdx5
    have hDW : D ∉ [n2, r2, x] := not_in hm5 hD5
    have hmk : ∀ w ∈ [n2, r2, x], w ≠ l := fun w hw e => hlW (e ▸ hw)
    generalize hW : [n2, r2, x] = W at gD hlW hkl5 hm5 hDW hmk
    have hHk : ∀ w ∈ W, upd H5 l (.frz od (.dK kl)) w = H5 w := fun w hw => upd_ne (hmk w hw)
    refine dc_it (walk_items (d := l) (o := od) (kvs := kl)) (fun i H' => ∃ las : List Addr, las.length = i ∧ i ≤ T.es.length ∧ H' D = some (.dK (klOf (T.es.take i) las)) ∧ Paired (fun a (E : En) => H' a = some (.lst (sv (T.rg E.label)))) las (T.es.take i) ∧ (D :: las).Nodup ∧ (∀ a ∈ D :: las, a ∉ W) ∧
      Gr (tt K) (woL W (upd H5 l (.frz od (.dK kl)))) (woL (D :: las ++ W) H') ∧ (∀ w ∈ W, H' w = H5 w) ∧ ∀ w ∈ D :: las ++ W, MutO H' w) ?_ ?_ ?_ ?_
    · refine ⟨[], rfl, Nat.zero_le _, upd_same, .nil, by simp, fun a ha => ?_, ?_, fun w hw => ?_, fun w hw => ?_⟩
      · rw [List.mem_singleton.mp ha]
        exact hDW
      · rw [show (D :: ([] : List Addr) ++ W) = D :: W from rfl, woL_grow hD]
        exact Gr.refl _
      · rw [upd_ne (ne_mem hw hDW), hHk w hw]
      · rcases List.mem_cons.mp hw with rfl | hw
        · exact .dK upd_same
        · obtain ⟨u, e, n1, n2'⟩ := hm5 w hw
          exact ⟨u, by rw [upd_ne (ne_mem hw hDW), hHk w hw]; exact e, n1, n2'⟩
    · rintro i H' _ ⟨las, _, _, _, _, _, _, g, _, _⟩
      exact (of_woL (gr_at g (by rw [woL_out hlW]; exact hlk) nt_frz)).2
    · rintro i x' H' H'' hi ⟨las, hlen, hile, hD', hls, nd, out, g, hWs, hm⟩ ⟨Tp, kk, vv, rfl, hTp, rfl, e1, e2⟩
      obtain ⟨⟨k', v'⟩, hki⟩ : ∃ q, kl[i]? = some q := ⟨kl[i], List.getElem?_eq_getElem hi⟩
      obtain ⟨E, hE, he1, la, he2, hla⟩ := prd_getL hkl5 hki
      have he1 : k' = .inr E.label := he1
      have he2 : v' = .ref la := he2
      subst he1 he2
      have e1 : (kl[i]?.map fun kv => kV kv.1) = some kk := e1
      have e2 : kl[i]?.map Prod.snd = some vv := e2
      rw [hki] at e1 e2
      obtain rfl : kk = .str E.label := (Option.some.inj e1).symm
      obtain rfl : vv = .ref la := (Option.some.inj e2).symm
      have hlaW := (of_woL hla).1
      have hla' : H' la = some (.lst (sv (T.rg E.label))) := by
        have z : woL W (upd H5 l (.frz od (.dK kl))) la = some (.lst (sv (T.rg E.label))) := by
          rw [woL_out hlaW]
          exact lock_ne hl5 (of_woL hla).2 fun z => by cases z
        exact (of_woL (g.lst z)).2
      have hTn := not_in hm hTp
      refine ⟨Tp, _, rfl, SqT.of upd_same, rfl, _, _, rfl, _, _, rfl, rfl, wp2, yesP ⟨_, rfl, _, rfl, la, sv (T.rg E.label), rfl, .inl (SqL.of (by rw [upd_ne (ne_of_none hla' hTp)]; exact hla')), fun a ha => ?_⟩⟩
      have hm2 : ∀ w ∈ D :: las ++ W, MutO (upd H' Tp (.tup [.str E.label, .ref la])) w := fun w hw => (hm w hw).upd hTp
      have haN := not_in hm2 ha
      have hDm : D ∈ D :: las ++ W := by simp
      have aD : a ≠ D := fun e => haN (by rw [e]; exact hDm)
      have hDT : D ≠ Tp := mut_ne (hm D hDm) hTp
      have aT : a ≠ Tp := fun e => by
        rw [e, upd_same] at ha
        cases ha
      have hTl : las.length = (T.es.take i).length := by
        rw [List.length_take, hlen]
        omega
      have hts : T.es.take (i + 1) = T.es.take i ++ [E] := by
        rw [List.take_succ, hE] <;> rfl
      have hput := klOf_put (las := las) E a hTl (name_new wf.nd hE)
      have oth : ∀ b, b ≠ D → b ≠ a → b ≠ Tp → upd (upd (upd H' Tp (.tup [.str E.label, .ref la])) a (.lst (sv (T.rg E.label)))) D (.dK (putK (klOf (T.es.take i) las) (.inr E.label) (.ref a))) b = H' b := fun b b1 b2 b3 => by
        rw [upd_ne b1, upd_ne b2, upd_ne b3]
      have hsz : (klOf (T.es.take i) las).length < sizeLine := by
        rw [klOf_len hTl, List.length_take]
        have := wf.few
        unfold M.names at this
        rw [List.length_map] at this
        unfold sizeLine
        omega
      obtain ⟨nd1, nd2⟩ := List.nodup_cons.mp nd
      have hmem : ∀ w ∈ D :: las ++ W, w ≠ a ∧ w ≠ Tp := fun w hw => ⟨fun e => haN (by rw [← e]; exact hw), mut_ne (hm w hw) hTp⟩
      refine ⟨_, .inr E.label, rfl, ?_, hsz, las ++ [a], by rw [List.length_append, hlen] <;> rfl, by have := (List.getElem?_eq_some_iff.mp hE).1; omega, ?_, ?_, ?_, ?_, ?_, ?_, ?_⟩
      · rw [upd_ne aD.symm, upd_ne hDT]
        exact hD'
      · rw [upd_same, hts, hput]
      · rw [hts]
        refine prd_snoc (prd_mem hls fun b E' hb hq => ?_) ?_
        · have hbw : b ∈ D :: las ++ W := by simp [hb]
          rw [oth b (fun e => nd1 (by rw [← e]; exact hb)) (hmem b hbw).1 (hmem b hbw).2]
          exact hq
        · rw [upd_ne aD]
          exact upd_same
      · refine List.nodup_cons.mpr ⟨fun hz => ?_, ?_⟩
        · rcases List.mem_append.mp hz with z | z
          · exact nd1 z
          · exact aD (List.mem_singleton.mp z).symm
        · refine List.nodup_append.mpr ⟨nd2, by simp, fun b hb c hc e => ?_⟩
          rw [List.mem_singleton.mp hc] at e
          exact haN (by rw [← e]; simp [hb])
      · intro b hb
        rcases List.mem_cons.mp hb with rfl | hb
        · exact out _ List.mem_cons_self
        · rcases List.mem_append.mp hb with hb | hb
          · exact out _ (List.mem_cons_of_mem _ hb)
          · rw [List.mem_singleton.mp hb]
            exact fun z => haN (by simp [z])
      · have e1 : woL (D :: (las ++ [a]) ++ W) (upd (upd (upd H' Tp (.tup [.str E.label, .ref la])) a (.lst (sv (T.rg E.label)))) D (.dK (putK (klOf (T.es.take i) las) (.inr E.label) (.ref a)))) = woL (D :: las ++ W) (upd H' Tp (.tup [.str E.label, .ref la])) := by
          rw [woL_congr (W' := a :: (D :: las ++ W)) (fun b => mem_ac), woL_upd (by simp), woL_grow ha]
        rw [e1]
        exact g.trans (Gr.newW hTp hTn)
      · intro w hw
        have hww : w ∈ D :: las ++ W := by simp [hw]
        rw [oth w (ne_mem hw hDW) (hmem w hww).1 (hmem w hww).2]
        exact hWs w hw
      · intro w hw
        by_cases hwD : w = D
        · rw [hwD]
          exact .dK upd_same
        · by_cases hwa : w = a
          · rw [hwa]
            exact .lst (by rw [upd_ne aD]; exact upd_same)
          · have hww : w ∈ D :: las ++ W := by
              simp only [List.mem_cons, List.mem_append, List.cons_append, List.mem_singleton, List.not_mem_nil, or_false] at hw ⊢
              rcases hw with h | (h | h) | h <;> simp_all
            exact (hm w hww).eq (oth w hwD hwa (hmem w hww).2)
    · rintro H6 ⟨las, hlen, hile, hD6, hls, nd, out, g, hWs, hm⟩
      have hln : kl.length = T.es.length := prd_len hkl
      rw [hln, List.take_length] at hD6 hls
      rw [hln] at hlen
      have hl6W : l ∉ D :: las ++ W := by
        have z := gr_at g (by rw [woL_out hlW]; exact hlk) nt_frz
        exact (of_woL z).1
      have hl6 : H6 l = some (.frz od (.dK kl)) := (of_woL (gr_at g (by rw [woL_out hlW]; exact hlk) nt_frz)).2
      refine ⟨hl6, ?_⟩
      have hxW : x ∈ W := by rw [← hW]; simp
      have hrW : r2 ∈ W := by rw [← hW]; simp
      have hnW : n2 ∈ W := by rw [← hW]; simp
      have c6 : ∀ w ∈ D :: las ++ W, upd H6 l (.dK kl) w = H6 w := fun w hw => upd_ne (ne_mem hw hl6W)
      have cW : ∀ w ∈ W, upd H6 l (.dK kl) w = H5 w := fun w hw => by
        rw [c6 w (by simp [hw]), hWs w hw]
      have gU : Gr (tt K) (woL W H5) (woL (D :: las ++ W) (upd H6 l (.dK kl))) := by
        rw [woL_new hl6W]
        refine Gr.unlock (ob := od) (by rw [woL_out hlW]; exact hl5) nt_dK (fun _ _ => code_dK) ?_
        rw [← woL_new hlW]
        exact g
      have hm7 : ∀ w ∈ D :: las ++ W, MutO (upd H6 l (.dK kl)) w := fun w hw => (hm w hw).eq (c6 w hw)
      have hD7 : upd H6 l (.dK kl) D = some (.dK (klOf T.es las)) := by
        rw [c6 D (by simp)]
        exact hD6
      have hls7 : Paired (fun a (E : En) => upd H6 l (.dK kl) a = some (.lst (sv (T.rg E.label)))) las T.es := prd_mem hls fun a E ha h => by
        rw [c6 a (by simp [ha])]
        exact h
      have hx7 := (cW x hxW).trans hdx5
      have hr7 := (cW r2 hrW).trans hdr5
      have hn7 := (cW n2 hnW).trans hdn5
      generalize upd H6 l (.dK kl) = H7 at gU hm7 hD7 hls7 hx7 hr7 hn7 ⊢
      refine ⟨_, rfl, x, _, dx, _, rfl, hx7, cl_Table c, na_Table_lists c, by show 4 < 1000; decide, ?_⟩
      refine ⟨_, rfl, ?_⟩
      have eF : putF "lists" (.ref D) (tabF r2 n2 l1 m) = tabF r2 n2 D m := rfl
      rw [eF]
      have hxm : x ∈ D :: las ++ W := by simp [hxW]
      have gF : Gr (tt K) H (woL (D :: las ++ W) (upd H7 x (.ins (ga K "Table") dx (tabF r2 n2 D m)))) := by
        rw [woL_upd hxm]
        exact gD.trans gU
      have nx : ∀ w ∈ D :: las, w ≠ x := fun w hw e => out w hw (by rw [e]; exact hxW)
      have xr2 : r2 ≠ x := hxr.symm
      have xn2 : n2 ≠ x := hxn.symm
      refine k _ _ x gF ⟨fun w hw => (hm7 w hw).set nt_ins fun _ _ => code_ins, dx, r2, n2, D, m, kr, kn, las, upd_same, by rw [upd_ne xr2]; exact hr7, by rw [upd_ne xn2]; exact hn7, by rw [upd_ne (nx D List.mem_cons_self)]; exact hD7, prd_mono hkr fun p E ⟨e1, e, e2, h⟩ => ⟨e1, e, e2, h.mono gF⟩, prd_mem hls7 fun a E ha h => by rw [upd_ne (nx a (List.mem_cons_of_mem _ ha))]; exact h, ?_, ?_⟩
      · refine List.nodup_cons.mpr ⟨?_, List.nodup_cons.mpr ⟨?_, List.nodup_cons.mpr ⟨?_, nd⟩⟩⟩
        · intro z
          rcases List.mem_cons.mp z with z | z
          · exact hxr z
          · rcases List.mem_cons.mp z with z | z
            · exact hxn z
            · exact nx x z rfl
        · intro z
          rcases List.mem_cons.mp z with z | z
          · exact hrn z
          · exact out r2 z hrW
        · intro z
          exact out n2 z hnW
      · intro a ha
        rcases List.mem_cons.mp ha with rfl | ha
        · exact hxm
        · rcases List.mem_cons.mp ha with rfl | ha
          · simp [hrW]
          · rcases List.mem_cons.mp ha with rfl | ha
            · simp [hnW]
            · exact List.mem_append_left _ ha
end
end SW


set_option maxHeartbeats 2000000
namespace SW
open PySem PySem.Spec PyProof.Rows L2 He LamX NdefX
open SW.M (Ent Tb Oc)
theorem nd_index {A : Type} {xs : List A} (nd : xs.Nodup) {i j : Nat} {a : A} (hi : xs[i]? = some a) (hj : xs[j]? = some a) : i = j := by
  obtain ⟨a1, a2⟩ := List.getElem?_eq_some_iff.mp hi
  obtain ⟨b1, b2⟩ := List.getElem?_eq_some_iff.mp hj
  rcases Nat.lt_trichotomy i j with h | h | h
  · exact absurd (a2.trans b2.symm) (List.pairwise_iff_getElem.mp nd i j a1 b1 h)
  · exact h
  · exact absurd (b2.trans a2.symm) (List.pairwise_iff_getElem.mp nd j i b1 a1 h)
theorem TabO.reg {K : PySem.W.Frag} {H : Hp} {W : List Addr} {t : Addr} {T : Tb Str} (h : TabO K H W t T) (nd : (M.names T.es).Nodup) {n : Str} (hn : n ∈ M.names T.es) :
    ∃ dx r nu l m a, H t = some (.ins (ga K "Table") dx (tabF r nu l m)) ∧ DGet H l (.str n) (some (.ref a)) ∧ H a = some (.lst (sv (T.rg n))) ∧ a ∈ W ∧
      ∀ (ys : List Str) (rg' : Str → List Str), rg' n = ys → (∀ m, m ≠ n → rg' m = T.rg m) → TabO K (upd H a (.lst (sv ys))) W t ⟨T.es, rg'⟩ ∧ Gr (tt K) (woL W H) (woL W (upd H a (.lst (sv ys)))) := by
  obtain ⟨hm, dx, r, nu, l, m, kr, kn, las, h⟩ := h
  obtain ⟨E, hE, rfl⟩ := List.mem_map.mp hn
  obtain ⟨i, hi⟩ := List.mem_iff_getElem?.mp hE
  obtain ⟨a, ha, hla⟩ := prd_get h.lists hi
  have hal : a ∈ las := List.mem_of_getElem? ha
  have haW : a ∈ W := h.own a (by simp [hal])
  have hlen : las.length = T.es.length := prd_len h.lists
  refine ⟨dx, r, nu, l, m, a, h.ht, ?_, hla, haW, fun ys rg' e1 e2 => ⟨⟨fun w hw => (hm w hw).set nt_lst fun _ _ => code_lst, dx, r, nu, l, m, kr, kn, las, ?_⟩, ?_⟩⟩
  · have hp : Paired (fun (p : Key × V) (E' : En) => p.1 = .inr E'.label ∧ (E' = E → p.2 = .ref a)) (klOf T.es las) T.es := by
      refine paired_of (klOf_len hlen) fun j p E' h1 h2 => ?_
      unfold klOf at h1
      rw [List.getElem?_map] at h1
      cases hz : (T.es.zip las)[j]? with
      | none =>
        rw [hz] at h1
        cases h1
      | some z =>
        rw [hz] at h1
        cases h1
        obtain ⟨z1, z2⟩ := List.getElem?_zip_eq_some.mp hz
        rw [h2] at z1
        cases z1
        refine ⟨rfl, fun e => ?_⟩
        have hj : j = i := nd_index nd (show (M.names T.es)[j]? = some E.label by unfold M.names; rw [List.getElem?_map, h2, e] <;> rfl) (show (M.names T.es)[i]? = some E.label by unfold M.names; rw [List.getElem?_map, hi] <;> rfl)
        subst hj
        rw [ha] at z2
        cases z2
        rfl
    obtain ⟨p, E', g1, ⟨g2, g3⟩, g4, g5, g6⟩ := val_of (fun _ _ r => r.1) hp hn
    have e : E' = E := by
      obtain ⟨j, hj⟩ := List.mem_iff_getElem?.mp g6
      have a1 : (M.names T.es)[j]? = some E.label := by unfold M.names; rw [List.getElem?_map, hj, ← g5] <;> rfl
      have a2 : (M.names T.es)[i]? = some E.label := by unfold M.names; rw [List.getElem?_map, hi] <;> rfl
      have := nd_index nd a1 a2
      subst this
      rw [hi] at hj
      cases hj
      rfl
    rw [← g3 e, ← g1]
    exact DGet.k (k := .inr E.label) h.hl
  · have nd2 := h.nd
    have nt : t ≠ a := fun e => (List.nodup_cons.mp nd2).1 (by rw [e]; simp [hal])
    have nd3 := (List.nodup_cons.mp nd2).2
    have nr : r ≠ a := fun e => (List.nodup_cons.mp nd3).1 (by rw [e]; simp [hal])
    have nd4 := (List.nodup_cons.mp nd3).2
    have nn : nu ≠ a := fun e => (List.nodup_cons.mp nd4).1 (by rw [e]; simp [hal])
    have nd5 := (List.nodup_cons.mp nd4).2
    have nl : l ≠ a := fun e => (List.nodup_cons.mp nd5).1 (by rw [e]; exact hal)
    have nd6 := (List.nodup_cons.mp nd5).2
    refine ⟨by rw [upd_ne nt]; exact h.ht, by rw [upd_ne nr]; exact h.hr, by rw [upd_ne nn]; exact h.hn, by rw [upd_ne nl]; exact h.hl, ?_, ?_, nd2, h.own⟩
    · rw [woL_upd haW]
      exact h.ents
    · refine paired_of hlen fun j b E' h1 h2 => ?_
      obtain ⟨b', hb', hlb⟩ := prd_get h.lists h2
      rw [h1] at hb'
      cases hb'
      by_cases hj : j = i
      · subst hj
        rw [ha] at h1
        cases h1
        rw [hi] at h2
        cases h2
        show upd H a _ a = some (.lst (sv (rg' E.label)))
        rw [upd_same, e1]
      · have hne : b ≠ a := fun e => hj (nd_index nd6 (by rw [← e]; exact h1) ha)
        have hln : E'.label ≠ E.label := fun e => hj (by
          have a1 : (M.names T.es)[j]? = some E.label := by unfold M.names; rw [List.getElem?_map, h2, ← e] <;> rfl
          have a2 : (M.names T.es)[i]? = some E.label := by unfold M.names; rw [List.getElem?_map, hi] <;> rfl
          exact nd_index nd a1 a2)
        show upd H a _ b = some (.lst (sv (rg' E'.label)))
        rw [upd_ne hne, e2 _ hln]
        exact hlb
  · rw [woL_upd haW]
    exact Gr.refl _
section
variable {P : Program} {w : World} {K : PySem.W.Frag} {mg : Str → Option Value} {base : Heap}
def dropR (T : Tb Str) (n o : Str) : Tb Str := ⟨T.es, fun m => if m = n then (T.rg n).erase o else T.rg m⟩
def spRemove (K : PySem.W.Frag) : Sp := fun vs H Q _ => ∃ (t : Addr) (T : Tb Str) (W : List Addr) (n o : Str), vs = [.ref t, .str n, .str o] ∧ TabO K H W t T ∧ (M.names T.es).Nodup ∧ n ∈ M.names T.es ∧ o ∈ T.rg n ∧
  ∀ H', Gr (tt K) (woL W H) (woL W H') → TabO K H' W t (dropR T n o) → Q .non H'
theorem sc_Table_remove_registration : FnScope ["self", "name", "other"] ["self", "name", "other"] (defScope s_Table_remove_registration) := ⟨rfl, rfl, rfl, by decide +kernel, rfl, by decide +kernel, by decide +kernel⟩
theorem ok_Table_remove_registration (c : Tx K mg base) : Ok P w K mg base 1 (ma K (ga K "Table") "remove_registration") ["self", "name", "other"] (spRemove K) := by
  refine Ok.mk' (fd_Table_remove_registration c) sc_Table_remove_registration (fun _ _ _ _ _ _ us hl => match us, hl with | [_, _, _], _ => rfl) (fun vs H Q E h => ?_) (fun cdv A outer s H vs Q E hr h => ?_)
  · obtain ⟨t, T, W, n, o, rfl, _⟩ := h
    rfl
  · obtain ⟨t, T, W, n, o, rfl, hT, nd, hn, ho, k⟩ := h
    refine ⟨_, (pss_one (ps_expr (pe_bm PySem.F.plainAttrs_list PySem.F.slot_list_remove PySem.F.type_list_remove mt_remS (pe_dget (hu_of hr) (fldK K rfl (pv 0) rfl) (pv 1) (fun _ _ => rfl)) (pa_cons (pv 2) pa_nil)))), ?_⟩
    obtain ⟨dx, r, nu, l, m, a, h1, h2, h3, haW, fin⟩ := hT.reg nd hn
    obtain ⟨f1, f2⟩ := fin _ (fun m => if m = n then (T.rg n).erase o else T.rg m) (if_pos rfl) (fun m hm => if_neg hm)
    refine ⟨_, rfl, t, _, dx, _, _, rfl, h1, cl_Table c, na_Table_lists c, rfl, _, rfl, l, _, rfl, h2, ?_⟩
    exact ⟨.inl ⟨rfl, _, SqL.of h3⟩, _, rfl, a, T.rg n, o, rfl, rfl, h3, ho, k _ f2 f1⟩
/-- all states are the same -/
def spAlike (K : PySem.W.Frag) : Sp := fun vs H Q _ => ∃ (w1 w2 : Addr) (T1 T2 : Tb Str), vs = [.ref w1, .ref w2] ∧ WorAt K H w1 T1 ∧ WorAt K H w2 T2 ∧ T2.es = T1.es ∧ WfT T1 ∧ WfT T2 ∧ WfM T1.es ∧ WfD T1.es ∧ Tabs (tt K) H ∧
  ∀ H' b, Gr (tt K) H H' → (b = true ↔ sameSt T1 T2) → Q (.bl b) H'
theorem sc_alike : FnScope ["one", "other"] ["one", "other"] (defScope s_alike) := ⟨rfl, rfl, rfl, by decide +kernel, rfl, by decide +kernel, by decide +kernel⟩
theorem ok_alike (c : Tx K mg base) : Ok P w K mg base 11 (ga K "alike") ["one", "other"] (spAlike K) := by
  refine Ok.mk' (fd_alike c) sc_alike (fun _ _ _ _ _ _ us hl => match us, hl with | [_, _], _ => rfl) (fun vs H Q E h => ?_) (fun cdv A outer s H vs Q E hr h => ?_)
  · obtain ⟨w1, w2, T1, T2, rfl, _⟩ := h
    rfl
  · obtain ⟨w1, w2, T1, T2, rfl, hW1, hW2, he, wf1, wf2, wm, wd, hTab, k⟩ := h
    refine ⟨_, (pss_cons (ps_expr ((ok_look_same c).call hr (by decide) (g_look_same c) (pa_cons (pv 0) (pa_cons (pv 1) pa_nil)))) (pss_one (ps_ret (pe_cmpR op_isN ((ok_first_difference c).call hr (by decide) (g_first_difference c) (pa_cons (fldK K rfl (pv 0) rfl) (pa_cons (fldK K rfl (pv 1) rfl) pa_nil))) pe_non (nomark _))))), ?_⟩
    refine ⟨_, rfl, _, rfl, w1, w2, T1, T2, rfl, hW1, hW2, he, wf1.toWf, wd, fun H1 g1 => ?_⟩
    have hW1' := hW1.mono g1
    have hW2' := hW2.mono g1
    obtain ⟨d1, t1, ca1, vi1, th1, cl1, hw1, hT1⟩ := hW1'
    obtain ⟨d2, t2, ca2, vi2, th2, cl2, hw2, hT2⟩ := hW2'
    refine ⟨_, rfl, w1, _, d1, _, _, rfl, hw1, cl_World c, na_World_table c, rfl, _, rfl, w2, _, d2, _, _, rfl, hw2, cl_World c, na_World_table c, rfl, t1, t2, T1, T2, rfl, hT1, hT2, he, wf1, wf2, wm, g1.2 hTab, fun H2 v g2 hv => ?_⟩
    rcases hv with ⟨rfl, hs⟩ | ⟨⟨p, rfl⟩, hs⟩
    · exact ⟨rfl, k _ true (g1.trans g2) (by simp [hs])⟩
    · exact ⟨rfl, k _ false (g1.trans g2) (by simp [hs])⟩
def spNless (K : PySem.W.Frag) : Sp := fun vs H Q _ => ∃ (t : Addr) (T : Tb Str) (a b : Str) (p : Addr) (ps : List (List Str)), vs = [.ref t, .str a, .str b, .ref p] ∧ TabAt K H t T ∧ WfT T ∧ a ∈ M.names T.es ∧ b ∈ T.rg a ∧ PatsAt K H p ps ∧ ps.length ≤ 1000 ∧ Tabs (tt K) H ∧
  ∀ H' r, Gr (tt K) H H' → (r = true ↔ M.state (dropR T a b) a b ps = M.state T a b ps) → Q (.bl r) H'
theorem WfT.drop {T : Tb Str} (wf : WfT T) (a b : Str) : WfT (dropR T a b) where
  toWf := wf.toWf
  reg := fun n o h => by
    have h : o ∈ (if n = a then (T.rg a).erase b else T.rg n) := h
    split at h
    · exact wf.reg _ _ (List.mem_of_mem_erase h)
    · exact wf.reg _ _ h
  regs := fun n => by
    show (if n = a then (T.rg a).erase b else T.rg n).length ≤ 12
    split
    · exact Nat.le_trans List.length_erase_le (wf.regs a)
    · exact wf.regs n
theorem sc_is_needless_in : FnScope ["table", "cls", "other", "patterns", "bare"] ["table", "cls", "other", "patterns"] (defScope s_is_needless_in) := ⟨rfl, rfl, rfl, by decide +kernel, rfl, by decide +kernel, by decide +kernel⟩
theorem ok_is_needless_in (c : Tx K mg base) : Ok P w K mg base 10 (ga K "is_needless_in") ["table", "cls", "other", "patterns"] (spNless K) := by
  refine Ok.mk' (fd_is_needless_in c) sc_is_needless_in (fun _ _ _ _ _ _ us hl => match us, hl with | [_, _, _, _], _ => rfl) (fun vs H Q E h => ?_) (fun cdv A outer s H vs Q E hr h => ?_)
  · obtain ⟨t, T, a, b, p, ps, rfl, _⟩ := h
    rfl
  · obtain ⟨t, T, a, b, p, ps, rfl, hT, wf, ha, hb, hp, hpl, hTab, k⟩ := h
    refine ⟨_, (pss_cons (ps_set (i := 4) sc_is_needless_in.nd rfl (Or.inl rfl) ((ok_Table_copied c).meth0 hr (by decide) (cl_Table c) (me_Table_copied c) (pv 0))) (pss_cons (ps_expr ((ok_Table_remove_registration c).meth hr (by decide) (cl_Table c) (me_Table_remove_registration c) (pv 4) (pa_cons (pv 1) (pa_cons (pv 2) pa_nil)))) (pss_one (ps_ret (pe_cmpR (eqDK K rfl hr.units) ((ok_state_of c).call hr (by decide) (g_state_of c) (pa_cons (pv 4) (pa_cons (pv 1) (pa_cons (pv 2) (pa_cons (pv 3) pa_nil))))) ((ok_state_of c).call hr (by decide) (g_state_of c) (pa_cons (pv 0) (pa_cons (pv 1) (pa_cons (pv 2) (pa_cons (pv 3) pa_nil))))) (nomark _)))))), ?_⟩
    have hT' := hT
    obtain ⟨dx, r, nu, l, m, kn, h1, _⟩ := hT'
    refine ⟨_, rfl, t, dx, _, rfl, h1, rfl, t, T, rfl, hT, wf, fun H1 W t' g1 hO => ?_⟩
    have g1' : Gr (tt K) H H1 := g1.trans gr_of_woL
    have hO' := hO
    obtain ⟨_, dx2, r2, nu2, l2, m2, _, _, _, ho2⟩ := hO'
    refine ⟨_, rfl, t', dx2, _, rfl, ho2.ht, rfl, _, rfl, _, rfl, t', T, W, a, b, rfl, hO, wf.nd, ha, hb, fun H2 g2 hO2 => ?_⟩
    have g12 : Gr (tt K) H H2 := (g1.trans g2).trans gr_of_woL
    obtain ⟨_, _, _, _, _, _, _, _, _, ho3⟩ := hO2
    have wf2 := wf.drop a b
    have hbm : b ∈ M.names T.es := wf.reg _ _ hb
    refine ⟨_, rfl, _, rfl, _, rfl, _, rfl, t', dropR T a b, a, b, p, ps, rfl, ho3.at, wf2, ha, hbm, hp.mono g12, hpl, g12.2 hTab, fun H3 q1 g3 hs1 => ?_⟩
    refine ⟨_, rfl, _, rfl, _, rfl, _, rfl, t, T, a, b, p, ps, rfl, hT.mono (g12.trans g3), wf, ha, hbm, hp.mono (g12.trans g3), hpl, (g12.trans g3).2 hTab, fun H4 q2 g4 hs2 => ?_⟩
    refine ⟨_, _, (hs1.mono g4).dp, hs2.dp, stD_shape _, stD_shape _, k _ _ ((g12.trans g3).trans g4) ?_⟩
    rw [stD_eqv, decide_eq_true_iff]
def spNl (K : PySem.W.Frag) : Sp := fun vs H Q _ => ∃ (wd : Addr) (T : Tb Str) (a b : Str), vs = [.ref wd, .str a, .str b] ∧ WorAt K H wd T ∧ WfT T ∧ WfM T.es ∧ a ∈ M.names T.es ∧ b ∈ T.rg a ∧ Tabs (tt K) H ∧
  ∀ H' r, Gr (tt K) H H' → (r = true ↔ M.state (dropR T a b) a b (patsOf T) = M.state T a b (patsOf T)) → Q (.bl r) H'
theorem sc_is_needless : FnScope ["world", "cls", "other", "table"] ["world", "cls", "other"] (defScope s_is_needless) := ⟨rfl, rfl, rfl, by decide +kernel, rfl, by decide +kernel, by decide +kernel⟩
theorem ok_is_needless (c : Tx K mg base) : Ok P w K mg base 11 (ga K "is_needless") ["world", "cls", "other"] (spNl K) := by
  refine Ok.mk' (fd_is_needless c) sc_is_needless (fun _ _ _ _ _ _ us hl => match us, hl with | [_, _, _], _ => rfl) (fun vs H Q E h => ?_) (fun cdv A outer s H vs Q E hr h => ?_)
  · obtain ⟨wd, T, a, b, rfl, _⟩ := h
    rfl
  · obtain ⟨wd, T, a, b, rfl, hW, wf, wm, ha, hb, hTab, k⟩ := h
    refine ⟨_, (pss_cons (ps_expr ((ok_World_look c).meth hr (by decide) (cl_World c) (me_World_look c) (pv 0) (pa_cons (pv 1) (pa_cons (pv 2) pa_nil)))) (pss_cons (ps_set (i := 3) sc_is_needless.nd rfl (Or.inl rfl) (fldK K rfl (pv 0) rfl)) (pss_one (ps_ret (pe_and (pe_cmpR (inK K rfl) (pv 2) (pe_dget (hu_of hr) (fldK K rfl (pv 3) rfl) (pv 1) (fun _ _ => rfl)) rfl) (pe_one ((ok_is_needless_in c).call hr (by decide) (g_is_needless_in c) (pa_cons (pv 3) (pa_cons (pv 1) (pa_cons (pv 2) (pa_cons ((ok_patterns_in c).call hr (by decide) (g_patterns_in c) (pa_cons (pv 3) pa_nil)) pa_nil))))))))))), ?_⟩
    have hbm : b ∈ M.names T.es := wf.reg _ _ hb
    have hW' := hW
    obtain ⟨dw, t, ca, vi, th, cl, hw, hT⟩ := hW'
    have hT' := hT
    obtain ⟨dx, r, nu, l, m, kn, h1, h2, h3, h4⟩ := hT'
    refine ⟨_, rfl, wd, dw, _, rfl, hw, rfl, _, rfl, _, rfl, wd, T, [a, b], rfl, hW, (by show 2 ≤ 1000; decide), ?_, fun H1 g1 => ?_⟩
    · intro n hn
      rcases List.mem_cons.mp hn with rfl | hn
      · exact ha
      · rw [List.mem_singleton.mp hn]
        exact hbm
    · obtain ⟨la, hg, hla⟩ := (h4.mono g1).get ha
      refine ⟨_, rfl, wd, _, dw, _, _, rfl, g1.ins hw, cl_World c, na_World_table c, rfl, ?_⟩
      refine ⟨_, rfl, _, rfl, t, _, dx, _, _, rfl, g1.ins h1, cl_Table c, na_Table_lists c, rfl, _, rfl, l, _, rfl, hg, la, sv (T.rg a), rfl, .inl (SqL.of hla), rfl, flat_sv _, _, rfl, ?_⟩
      rw [inV_sv, decide_eq_true hb]
      refine iteT ⟨_, rfl, _, rfl, _, rfl, _, rfl, t, T, rfl, hT.mono g1, wf.toWf, wm, fun H2 pp g2 hpp => ?_⟩
      have g12 := g1.trans g2
      exact ⟨t, T, a, b, pp, _, rfl, hT.mono g12, wf, ha, hb, hpp, Nat.le_trans (pats_len5 wm).1 (by decide), g12.2 hTab, fun H3 r g3 hr => k _ r (g12.trans g3) hr⟩
end
end SW


set_option maxHeartbeats 2000000
/-! ## enumerate of a tuple -/
namespace SW
open PySem PySem.Spec PyProof.Rows L2
open Sem (wp)
open AutoSeq1 (wpAny_loadPart')
theorem enumT_made (l : Addr) (items : Array Value) (n : Nat) (dct : Option Addr) (sl : Array (Option Value)) :
    Meets (Builtin.«enumerate.__new__» ⟨[.type "enumerate", .ref l], []⟩) (fun _ R s => s.heap.get? l = some { cls := .type "tuple", dict := dct, data := .seq items n, slots := sl } ∧
      R (.ok (.ret (.ref (s.heap.push { cls := .type "tuple_iterator", data := .fields #[.ref l, .int 0 0] }).objs.size)))
        { s with heap := (s.heap.push { cls := .type "tuple_iterator", data := .fields #[.ref l, .int 0 0] }).push { cls := .type "enumerate", data := .fields #[.none, .bool false, .ref s.heap.objs.size, rawInt 0, .none, .none] } }) :=
  .of_wp fun prog w A R s h => by
    obtain ⟨hp, g, d, tk, os⟩ := s; obtain ⟨hl, h⟩ := h
    have hsub := sub_enumerate
    have hL : Heap.IsTuple (Shared.heap ⟨hp, g, d, tk, os⟩) l items := ⟨_, hl, rfl, n, rfl⟩
    wp_walk using wpAny_loadPart' hl
    refine wpAny_stack_any fun st => wpAny_pure ?_
    split
    · rename_i c _ _ _ _ _
      cases (c == Value.type "enumerate")
      · wp_walk using wpAny_loadPart' hl, wpAny_pyIter_tuple hL
        exact ⟨_, rfl, h⟩
      · wp_walk using wpAny_loadPart' hl, wpAny_pyIter_tuple hL
        exact ⟨_, rfl, h⟩
    · wp_walk using wpAny_loadPart' hl, wpAny_pyIter_tuple hL
      exact ⟨_, rfl, h⟩
section
variable {P : Program} {w : World} {A : Around} {E : Value → Shared → Prop} {s : Shared}
theorem call_enumT {l : Addr} {items : Array Value} {Q : Value → Shared → Prop} (hL : s.heap.IsTuple l items)
    (h : ∀ h', IsEnum h' (s.heap.objs.size + 1) s.heap.objs.size 0 .none → h'.IsTupleIter s.heap.objs.size l 0 → (∀ b o, s.heap.get? b = some o → h'.get? b = some o) → Q (.ref (s.heap.objs.size + 1)) { s with heap := h' }) :
    wpAny (model P w) A (call (.type "enumerate") [.ref l]) Q E s := by
  obtain ⟨⟨c, dct, dt, sl⟩, hl, hc, n, hd⟩ := hL
  replace hc : c = .type "tuple" := hc
  replace hd : dt = .seq items n := hd
  subst hc hd
  refine callType_new F.called_enumerate (by decide) (F.typeCall_enumerate_1 _) (F.newCall_enumerate_1 _) (fun obj => F.args_object_init_2 obj _) F.entry_enumerate_new (enumT_made l items n dct sl) ⟨hl, ?_⟩
  have hz : (s.heap.push { cls := .type "tuple_iterator", data := .fields #[.ref l, .int 0 0] }).objs.size = s.heap.objs.size + 1 := Heap.size_push ..
  show _ ∧ _
  rw [hz]
  have he : IsEnum ((s.heap.push { cls := .type "tuple_iterator", data := .fields #[.ref l, .int 0 0] }).push { cls := .type "enumerate", data := .fields #[.none, .bool false, .ref s.heap.objs.size, rawInt 0, .none, .none] }) (s.heap.objs.size + 1) s.heap.objs.size 0 .none := by
    have q := Heap.get?_push_size (s.heap.push { cls := .type "tuple_iterator", data := .fields #[.ref l, .int 0 0] }) (o := { cls := .type "enumerate", data := .fields #[.none, .bool false, .ref s.heap.objs.size, rawInt 0, .none, .none] }) rfl
    rw [hz] at q
    exact q
  exact ⟨⟨_, he, rfl⟩, h _ he ⟨_, Heap.get?_push_of_some _ (Heap.get?_push_size _ rfl), rfl, rfl⟩ fun b o x => Heap.get?_push_of_some _ (Heap.get?_push_of_some _ x)⟩
end
def IteT (K : PySem.W.Frag) (a : Addr) : It :=
  ⟨fun i H => ∃ (xs : List V) (x : V), SqT K H a xs ∧ xs[i]? = some x, fun i H v H' => ∃ T x, v = .ref T ∧ H T = none ∧ H' = upd H T (.tup [.int (i : Nat), x]) ∧ ∀ xs, SqT K H a xs → xs[i]? = some x, fun i H => ∃ xs : List V, SqT K H a xs ∧ xs.length = i⟩
theorem turn_enumT {P : Program} {w : World} {K : PySem.W.Frag} {elts : List Expr} {kk : Nat} {tpos : Pos} (a e it : Addr) :
    Turn P w K (.Tuple elts kk tpos) (IteT K a) [e, it] e (fun i h => (∃ old, IsEnum h e it ((i : Nat) : Int) old) ∧ h.IsTupleIter it a i ∧ e ≠ it ∧ a ≠ it ∧ a ≠ e) where
  mem := by simp
  obj := fun i h st b hb => by
    obtain ⟨⟨old, he⟩, ⟨o, ho, hc, hd⟩, _⟩ := st
    have e' : b = e ∨ b = it := by simpa using hb
    rcases e' with z | z
    · rw [z]; exact ⟨_, he, fun v q => nomatch q⟩
    · rw [z]; exact ⟨o, ho, fun v q => by rw [hd] at q; cases q⟩
  keep := fun i h h' st k => let ⟨⟨old, he⟩, hi, hne⟩ := st; ⟨⟨old, k e (by simp) _ he⟩, hi.at fun o q => k it (by simp) o q, hne⟩
  item := by
    intro X hP hw hK hc i pins s σ H E I hf st hg
    subst hP hw hK
    obtain ⟨⟨old, he⟩, hit, hne, hai, hae⟩ := st
    obtain ⟨xs, x, hq, hx⟩ := hg
    obtain ⟨its, rv, p, hz⟩ := I.tuple hq
    obtain ⟨u, hu, ru⟩ := rv.get hx
    have hel : e < s.heap.objs.size := Heap.lt_size he
    have hil : it < s.heap.objs.size := by obtain ⟨_, q, _⟩ := hit; exact Heap.lt_size q
    have hlen := rv.length
    have D := Draws.tuple (prog := X.prog) (w := X.w) (A := X.A.in1) (I.ok.hd hc) it a hai its.toArray
    refine wpAny_pyNext_enum_itemD D he ⟨hit, p⟩ (by have := (List.getElem?_eq_some_iff.mp hx).1; rw [List.size_toArray]; omega) hne (by simp [hne, hae.symm]) fun x' h' tk hx' ho hst' hT hsz hk => ?_
    obtain ⟨hit', p'⟩ := hst'
    have hxu : x' = u := by
      have z : its[i]? = some x' := by simpa using hx'
      rw [hu] at z
      exact (Option.some.inj z).symm
    subst hxu
    refine ⟨_, rfl, wpAny_letOwnedTupleGo_enum (s := { s with heap := h', toks := tk + 1 }) ho fun h'' he' sb => ?_⟩
    have hT2 : h''.get? s.heap.objs.size = some { cls := .type "tuple", data := .seq #[.int i tk, x'] } := (sb.2 _ (Nat.ne_of_gt hel)).trans hT
    have new : ObjOk X.prog X.w (upd H s.heap.objs.size (.tup [.int (i : Nat), x])) h'' s.heap.objs.size (.tup [.int (i : Nat), x]) :=
      ⟨by show 2 ≤ sizeLine; decide, [.int i tk, x'], .cons ⟨_, rfl⟩ (.cons ru .nil), ⟨_, hT2, rfl, _, rfl⟩⟩
    have I1 : Inv X pins σ (upd H s.heap.objs.size (.tup [.int (i : Nat), x])) { s with heap := h'', toks := tk + 1 } :=
      I.turnedNew (ch := [e, it]) (fun b ob hb q => (sb.2 b (fun z => hb (by simp [z]))).trans (hk b ob (fun z => hb (by simp [z])) (fun z => hb (by simp [z])) q)) hf (Nat.le_refl _) new
    refine ⟨.ref s.heap.objs.size, _, I1, rfl, ⟨_, x, rfl, I.hok.fresh (Nat.le_refl _), rfl, fun ys hy => by rw [I.tuple_inj hy hq]; exact hx⟩, ⟨⟨x', ?_⟩, hit'.at fun o q => (sb.2 it (Ne.symm hne)).trans q, hne, hai, hae⟩, fun b hb => ?_⟩
    · have e1 : ((i + 1 : Nat) : Int) = (i : Int) + 1 := by omega
      rw [e1]; exact he'
    · have hb' : b < s.heap.objs.size := by
        have e' : b = e ∨ b = it := by simpa using hb
        rcases e' with z | z
        · rw [z]; exact hel
        · rw [z]; exact hil
      rw [upd_ne (Nat.ne_of_lt hb')]
      exact (hf b hb).1
  done := by
    intro X hP hw hK hc i pins s σ H E I hf st hg
    subst hP hw hK
    obtain ⟨⟨old, he⟩, hit, hne, hai, hae⟩ := st
    obtain ⟨xs, hq, hx⟩ := hg
    obtain ⟨its, rv, p, hz⟩ := I.tuple hq
    obtain ⟨f0, f1, f2, f3, f4, f5⟩ := hf it (by simp)
    have hl := rv.length
    have D := Draws.tuple (prog := X.prog) (w := X.w) (A := X.A.in1) (I.ok.hd hc) it a hai its.toArray
    exact wpAny_pyNext_enum_endD D he ⟨by rw [List.size_toArray, ← hl, hx]; exact hit, p⟩ fun h' eb => ⟨rfl, I.turned (t' := s.toks) (fun b o hb q => eb b o hb q) f0 f1 f3 f4 f5⟩
  self := fun A i s Q E st h => let ⟨⟨_, he⟩, _⟩ := st; wpAny_pyIter_enum he h
def iEnumT (K : PySem.W.Frag) (ta : TA) : TI := fun σ H R => ta σ H fun vs H1 => ∃ a xs, vs = [.ref a] ∧ SqT K H1 a xs ∧ R (IteT K a) H1
theorem pi_enumT {X : Cx} {K : PySem.W.Frag} (hK : X.K = K) {e : Expr} {ta : TA} {p pos tpos : Pos} {elts : List Expr} {kk : Nat} (hg : Gl X "enumerate") (hm : X.mg "enumerate" = none) (ha : PA X [e] ta) (hs : starEach [e] X.env = [(false, eval e X.env)] := by rfl) :
    PI X (.Tuple elts kk tpos) (.Call (.Name "enumerate" p) [e] [] pos) (iEnumT K ta) := by
  subst hK
  refine ⟨fun pins s σ H R I h => ?_⟩
  refine Call_ (ld_blt I hg hm boot_enumerate (PyProof.Rows.callWith_type1 (thn (ha.run pos pins s σ H _ I h) fun us s1 ⟨vs, H1, I1, r1, q1⟩ => ?_) hs rfl))
  obtain ⟨a, xs, ex, hq, q⟩ := q1
  subst ex
  cases r1 with
  | cons r rr =>
    cases rr
    cases r
    obtain ⟨its, rv, p', hz⟩ := I1.tuple hq
    have hal : a < s1.heap.objs.size := by
      obtain ⟨o, ho, _⟩ := id p'
      exact Heap.lt_size ho
    refine call_enumT p' fun h' he hit hk => wpAny_pyIter_enum he ?_
    have I2 : Inv X pins σ H1 { s1 with heap := h' } := I1.kept (t' := s1.toks) hk
    refine ⟨s1.heap.objs.size + 1, [s1.heap.objs.size + 1, s1.heap.objs.size], _, _, H1, rfl, I2, turn_enumT a (s1.heap.objs.size + 1) s1.heap.objs.size, ⟨⟨.none, he⟩, hit, Nat.succ_ne_self _, Nat.ne_of_lt hal, Nat.ne_of_lt (Nat.lt_succ_of_lt hal)⟩, fun b hb => ?_, q⟩
    have e' : b = s1.heap.objs.size + 1 ∨ b = s1.heap.objs.size := by simpa using hb
    have hle : s1.heap.objs.size ≤ b := by
      rcases e' with z | z
      · rw [z]; exact Nat.le_add_right _ _
      · rw [z]; exact Nat.le_refl _
    exact I1.fpOk hle (I1.hok.fresh hle)
theorem walk_enumT {K : PySem.W.Frag} {a : Addr} {xs : List V} : Walk (IteT K a) xs.length (fun H => SqT K H a xs) (YPair (fun i => some (.int (i : Nat))) (fun i => xs[i]?)) := by
  refine ⟨fun i H hi h => ⟨xs, xs[i], h, by simp [hi]⟩, fun H h => ⟨xs, h, rfl⟩, fun i H v H' hi h y => ?_⟩
  obtain ⟨T, x, e, hT, e2, hx⟩ := y
  exact ⟨T, _, x, e, hT, e2, rfl, hx xs h⟩
/-- len of a set of texts -/
theorem cr_lenS {X : Cx} : CallR X (.builtin "len") (rLenS X.prog X.w) := by
  intro pins s σ H vs us Q I r h
  obtain ⟨a, l, rfl, ha, q⟩ := h
  rw [Vals.ref1 r]
  obtain ⟨⟨es, ep, t⟩, hD, F, nd, hb, _⟩ := setS_get I ha
  have hz : es.size = l.length := F.sz
  refine call_len_set hD ⟨rfl, rfl, rfl⟩ rfl F.fit (by rw [hz]; unfold scanBound at hb; omega) ⟨.int l.length, H, I.tok _, ⟨_, by rw [hz]⟩, q⟩
end SW

set_option maxHeartbeats 2000000
/-! ## first, *rest = a list -/
namespace SW
open PySem PySem.Spec PyProof.Rows L2 PySem.W
section
variable {P : Program} {w : World} {A : Around} {E : Value → Shared → Prop} {s : Shared}
theorem starL {l : Addr} {items : Array Value} {x : Value} {r : List Value} {Q : List Value → Shared → Prop} (hl : s.heap.IsList l items) (hh : A.handled = none) (hz : items.size ≤ 16384) (hx : items.toList = x :: r)
    (h : ∀ (h' : Heap) (tk : Nat), (∀ b o, s.heap.get? b = some o → h'.get? b = some o) → Q [x, .ref h'.objs.size] { s with heap := h'.push { cls := .type "list", data := .seq r.toArray }, toks := tk }) : wpAny (model P w) A (unpackItems (.ref l) 2 (some 1)) Q E s := by
  have hlt : l ≠ s.heap.objs.size := by obtain ⟨o, ho, _⟩ := hl; exact Nat.ne_of_lt (Heap.lt_size ho)
  have hll : l < s.heap.objs.size := by obtain ⟨o, ho, _⟩ := hl; exact Heap.lt_size ho
  have hsz : items.size = r.length + 1 := by rw [← Array.length_toList, hx] <;> rfl
  unfold unpackItems
  refine wpAny_bind ?_
  unfold notIterableAtAll
  refine wpAny_bind (wpAny_specialOf hl.typeIs slot_list_iter.lookup ?_)
  refine wpAny_pure ?_
  simp only [Bool.false_eq_true, if_false]
  refine wpAny_bind (wpAny_holding (wpAny_pyIter_list hl ?_))
  refine wpAny_bind (wpAny_holding (kun_draw hlt 1 0 _ _ ⟨_, Heap.get?_push_size _ rfl, rfl, rfl⟩ (hl.push _) (by omega) fun h₁ hit₁ hs₁ => ?_))
  have hl₁ : h₁.IsList l items := (hl.push _).extBut hs₁.extBut hlt
  rw [Nat.zero_add] at hit₁
  have hit₁' := hit₁
  obtain ⟨oi, hoi, _⟩ := hit₁'
  have hl₁' := hl₁
  obtain ⟨ol, hol, _⟩ := hl₁'
  rw [List.drop_zero, hx]
  rw [if_neg (show ¬ (((x :: r).take 1).length < 1) by simp)]
  refine wpAny_bind (wpAny_holding (kun_collect (s := { s with heap := h₁ }) (T := "list_iterator") (.inr (.inr (.inl rfl))) (Walks.list (A := A.in1) hh s.heap.objs.size l hlt items) (fun j u st => st.1.typeIs) (k := 1) (by omega) ⟨hit₁, hl₁⟩ (Heap.lt_size hoi) (Heap.lt_size hol) (fun h₂ tk hk => ?_) (by rw [sizeLine_eq]; omega)))
  rw [hx]
  show wpAny _ _ (if r.length < 0 then _ else _) _ _ _
  rw [if_neg (Nat.not_lt_zero _)]
  show wpAny _ _ (newList (r.take (r.length - 0)) >>= fun d => pure ((x :: r).take 1 ++ [d] ++ r.drop (r.length - 0))) _ _ _
  rw [Nat.sub_zero, List.take_length, List.drop_length]
  have he : Heap.ExtBut s.heap.objs.size s.heap h₂ := fun b o hb e => hk b o hb (hs₁.extBut b o hb (Heap.get?_push_of_some _ e))
  refine wpAny_bind (wpAny_newList ?_ (by rw [sizeLine_eq]; omega))
  exact wpAny_pure (h h₂ tk (fun b o e => he b o (Nat.ne_of_lt (Heap.lt_size e)) e))
end
def gStar (K : PySem.W.Frag) (t1 t2 : TG) : TG := fun v σ H Q => ∃ l x xs, v = .ref l ∧ SqL K H l (x :: xs) ∧ (x :: xs).length ≤ 16384 ∧ ∀ D, H D = none → t1 x σ (upd H D (.lst xs)) fun σ1 H1 => t2 (.ref D) σ1 H1 Q
theorem pg_star {X : Cx} {K : PySem.W.Frag} (hK : X.K = K) (hc : X.calm = true) {e1 e2 : Expr} {p pos : Pos} {k : Nat} {t1 t2 : TG} (h1 : PG X e1 t1) (h2 : PG X e2 t2)
    (ha : assignEach [e1, .Starred e2 p] X.env = [(false, assign e1 X.env), (true, assign e2 X.env)] := by rfl) : PG X (.Tuple [e1, .Starred e2 p] k pos) (gStar K t1 t2) := by
  subst hK
  refine ⟨fun pins s σ H v u Q I r h => ?_⟩
  obtain ⟨l, x, xs, rfl, hq, hz, h⟩ := h
  cases r
  obtain ⟨its, rv, hl, hz2⟩ := I.list hq
  rw [arm_assign_Tuple]
  refine wpAny_bind (wpAny_standAt ?_)
  unfold unpack
  rw [ha]
  cases rv with
  | @cons _ y _ ys r1 r2 =>
    have hlen := r2.length
    refine wpAny_bind (wpAny_holding (starL hl.isList (I.ok.hd hc) (by have : (x :: xs).length = xs.length + 1 := rfl; simp; omega) rfl fun h' tk hk => ?_))
    have I1 : Inv X pins σ H { s with heap := h', toks := tk } := I.kept (t' := tk) hk
    have I2 : Inv X pins σ (upd H h'.objs.size (.lst xs)) { s with heap := h'.push { cls := .type "list", data := .seq ys.toArray }, toks := tk } :=
      I1.laid (t' := tk) (fun b o e => Heap.get?_push_of_some _ e) (Nat.le_refl _) ⟨by have : (x :: xs).length = xs.length + 1 := rfl; rw [sizeLine_eq]; omega, ys, 0, r2, Heap.get?_push_size _ rfl⟩
    refine assignInOrder_cons (thn (h1.run pins _ σ _ x y _ I2 r1 (h _ (I1.hok.fresh (Nat.le_refl _)))) fun _ s2 ⟨σ2, H2, I3, q⟩ => ?_)
    exact assignInOrder_cons (thn (h2.run pins s2 σ2 H2 (.ref h'.objs.size) (.ref h'.objs.size) _ I3 rfl q) fun _ s3 q3 => assignInOrder_nil q3)
end SW

set_option maxHeartbeats 2000000
namespace SW
open PySem PySem.Spec PyProof.Rows L2 He LamX NdefX
open SW.M (Ent Tb Oc)
def azS : Str := "abcdefghijklmnopqrstuvwxyz"
/-- a name -/
structure NameOk (n : Str) : Prop where
  some : 1 ≤ n.length
  few : n.length ≤ 8
  az : ∀ c ∈ n.cps.toList, c ∈ azS.cps.toList
/-- isinstance, told by a class of the value -/
theorem isi_yes {K : PySem.W.Frag} {H : Hp} {x : V} {n : String} {Q : VK} (ty : TyX K H x (.type n)) (h : PySem.W.kitOne K (.type n) (.type n) = some true) (q : Q (.bl true) H) : rIsi K [x, .ty n] H Q := ⟨x, .ty n, .type n, .type n, true, rfl, .ty _, ty, h, q⟩
section
variable {P : Program} {w : World} {K : PySem.W.Frag} {mg : Str → Option Value} {base : Heap}
def spName (K : PySem.W.Frag) : Sp := fun vs H Q _ => ∃ n : Str, vs = [.str n] ∧ NameOk n ∧ Ans (tt K) H Q (.bl true)
theorem sc_is_name : FnScope ["value", "letter"] ["value"] (defScope s_is_name) := ⟨rfl, rfl, rfl, by decide +kernel, rfl, by decide +kernel, by decide +kernel⟩
theorem ok_is_name (c : Tx K mg base) : Ok P w K mg base 1 (ga K "is_name") ["value"] (spName K) := by
  refine Ok.mk' (fd_is_name c) sc_is_name (fun _ _ _ _ _ _ us hl => match us, hl with | [_], _ => rfl) (fun vs H Q E h => ?_) (fun cdv A outer s H vs Q E hr h => ?_)
  · obtain ⟨n, rfl, _⟩ := h
    rfl
  · obtain ⟨n, rfl, hn, k⟩ := h
    refine ⟨_, (pss_cons (ps_if (PW.pt (pw_or (pt_not (pt_val (pe_callB (isiK K rfl) (by rfl) (n_isinstance c) (by first | exact PySem.boot_isinstance | exact boot_isinstance | decide +kernel) (pa_cons (pv 0) (pa_cons (pe_bltn (v := .ty "str") (by rfl) (n_str c) (by first | exact PySem.boot_str | exact boot_str | decide +kernel) rfl) pa_nil))))) (pw_or1 (pt_not (pt_chain op_le op_le pe_int (pe_callB call_len_str (by rfl) (n_len c) (by first | exact PySem.boot_len | exact boot_len | decide +kernel) (pa_cons (pv 0) pa_nil)) (pe_kint (k_MOST_LETTERS c))))))) (pss_one (ps_ret pe_bl)) pss_nil) (pss_one (ps_ret (pe_callB (allK K rfl rfl) (by rfl) (n_all c) (by first | exact PySem.boot_all | exact boot_all | decide +kernel) (pa_cons (pe_lc (own := [("letter", 1)]) (g := (gName 1)) (tt := tYes) rfl sc_is_name.nd (pi_str (pv 0)) (blkOk_by (N := ["value", "letter"]) (sc := defScope s_is_name) (by decide +kernel)) (fun _ _ _ _ _ => (pg_name (i := 1) sc_is_name.nd rfl (by first | exact Or.inl rfl | exact Or.inr rfl))) (fun _ _ _ _ _ => by exact pts_nil) (fun _ _ _ _ _ => by exact (pe_cmpR op_in_sign (pv 1) (pe_kstr (k_LETTERS c)) rfl))) pa_nil))))), ?_⟩
    refine ⟨_, rfl, .str n, .ty "str", .type "str", .type "str", true, rfl, .ty _, .base (.str _), kit_ty (by decide +kernel), _, rfl, ?_⟩
    have hz : n.length ≤ sizeLine := Nat.le_trans hn.few (by decide)
    have e1 : decide ((1 : Int) ≤ (n.length : Int)) = true := decide_eq_true (by have := hn.some; omega)
    have e2 : decide ((n.length : Int) ≤ 8) = true := decide_eq_true (by have := hn.few; omega)
    refine iteF ⟨_, rfl, n, rfl, hz, 1, _, rfl, rfl, _, rfl, ?_⟩
    rw [e1]
    refine iteT ⟨_, 8, rfl, rfl, _, rfl, ?_⟩
    rw [e2]
    refine iteF ?_
    refine ⟨_, rfl, n, rfl, fun D hD => ?_⟩
    refine lcF (T := tt K) (walk_str (z := n)) n.cps.toList (by simp) (Nat.le_trans (show n.cps.toList.length ≤ 8 by have := hn.few; unfold Str.length at this; simpa using this) (by decide)) (fun c => .bl (decide (c ∈ azS.cps.toList))) (fun _ => true) hD (fun H' g => trivial) (fun i c x H' H'' hi g y Kp Ks kp ks => ?_) (fun H' g hl => ?_)
    · obtain ⟨rfl, c', hc', rfl⟩ := y
      rw [← Array.getElem?_toList, hi] at hc'
      cases hc'
      exact ⟨rfl, yesT ⟨_, rfl, c, _, rfl, rfl, kp rfl _ (Gr.refl _)⟩⟩
    · refine ⟨D, n.cps.toList.map (fun c => decide (c ∈ azS.cps.toList)), rfl, SqL.of ?_, ?_⟩
      · rw [hl, filter_yes, List.map_map] <;> rfl
      · rw [show (n.cps.toList.map (fun c => decide (c ∈ azS.cps.toList))).all id = true by rw [List.all_eq_true]; intro b hb; obtain ⟨c, hc, rfl⟩ := List.mem_map.mp hb; exact decide_eq_true (hn.az c hc)]
        exact k _ g
theorem NameOk.str {n : Str} (h : NameOk n) : PyData.strOk n = true := by
  unfold PyData.strOk
  rw [Array.all_eq_true_iff_forall_mem]
  intro c hc
  have hz := h.az c (by simpa using hc)
  have hall : ∀ d ∈ azS.cps.toList, d < 0x110000 := by decide +kernel
  exact decide_eq_true (hall c hz)
/-- a clause that is one -/
def ClauseOk (c : List Str × Bool) : Prop := (∀ n ∈ c.1, NameOk n) ∧ c.1.Nodup ∧ c.1.length ≤ 100
theorem names_lay {xs : List Str} (h : ∀ n ∈ xs, NameOk n) : PyData.canLayAll0 (xs.map .str) = true ∧ PyData.depthAll (xs.map .str) = 0 := by
  rw [canLayAll_strs', depthAll_strs', List.all_eq_true]
  exact ⟨fun n hn => (h n hn).str, rfl⟩
def spClause (K : PySem.W.Frag) : Sp := fun vs H Q _ => ∃ (v : V) (c : List Str × Bool), vs = [v] ∧ ClauseAt H v c ∧ ClauseOk c ∧ Ans (tt K) H Q (.bl true)
theorem sc_is_clause : FnScope ["value", "methods", "answer", "method"] ["value"] (defScope s_is_clause) := ⟨rfl, rfl, rfl, by decide +kernel, rfl, by decide +kernel, by decide +kernel⟩
theorem ok_is_clause (c : Tx K mg base) : Ok P w K mg base 2 (ga K "is_clause") ["value"] (spClause K) := by
  refine Ok.mk' (fd_is_clause c) sc_is_clause (fun _ _ _ _ _ _ us hl => match us, hl with | [_], _ => rfl) (fun vs H Q E h => ?_) (fun cdv A outer s H vs Q E hr h => ?_)
  · obtain ⟨v, c, rfl, _⟩ := h
    rfl
  · obtain ⟨v, cl, rfl, ⟨p, q, rfl, hp, hq⟩, hc, k⟩ := h
    refine ⟨_, (pss_cons (ps_if (PW.pt (pw_or (pt_not (pt_val (pe_callB (isiK K rfl) (by rfl) (n_isinstance c) (by first | exact PySem.boot_isinstance | exact boot_isinstance | decide +kernel) (pa_cons (pv 0) (pa_cons (pe_bltn (v := .ty "tuple") (by rfl) (n_tuple c) (by first | exact PySem.boot_tuple | exact boot_tuple | decide +kernel) rfl) pa_nil))))) (pw_or1 (pt_cmpR op_ne (pe_callB (lenK K rfl) (by rfl) (n_len c) (by first | exact PySem.boot_len | exact boot_len | decide +kernel) (pa_cons (pv 0) pa_nil)) pe_int (nomark _))))) (pss_one (ps_ret pe_bl)) pss_nil) (pss_cons (ps_asg (pv 0) (gtupK K (n := 2) rfl rfl (pgs_cons (pg_name (i := 1) sc_is_clause.nd rfl (Or.inl rfl)) (pgs_cons (pg_name (i := 2) sc_is_clause.nd rfl (Or.inl rfl)) pgs_nil)))) (pss_cons (ps_if (PW.pt (pw_or (pt_not (pt_val (pe_callB (isiK K rfl) (by rfl) (n_isinstance c) (by first | exact PySem.boot_isinstance | exact boot_isinstance | decide +kernel) (pa_cons (pv 1) (pa_cons (pe_bltn (v := .ty "tuple") (by rfl) (n_tuple c) (by first | exact PySem.boot_tuple | exact boot_tuple | decide +kernel) rfl) pa_nil))))) (pw_or1 (pt_not (pt_val (pe_callB (isiK K rfl) (by rfl) (n_isinstance c) (by first | exact PySem.boot_isinstance | exact boot_isinstance | decide +kernel) (pa_cons (pv 2) (pa_cons (pe_bltn (v := .ty "bool") (by rfl) (n_bool c) (by first | exact PySem.boot_bool | exact boot_bool | decide +kernel) rfl) pa_nil)))))))) (pss_one (ps_ret pe_bl)) pss_nil) (pss_one (ps_ret (pe_and (pe_callB (allK K rfl rfl) (by rfl) (n_all c) (by first | exact PySem.boot_all | exact boot_all | decide +kernel) (pa_cons (pe_lc (own := [("method", 3)]) (g := (gName 3)) (tt := tYes) rfl sc_is_clause.nd (piT K rfl (pv 1)) (blkOk_by (N := ["value", "methods", "answer", "method"]) (sc := defScope s_is_clause) (by decide +kernel)) (fun _ _ _ _ _ => (pg_name (i := 3) sc_is_clause.nd rfl (by first | exact Or.inl rfl | exact Or.inr rfl))) (fun _ _ _ _ _ => by exact pts_nil) (fun _ _ _ _ _ => by exact ((ok_is_name c).call hr (by decide) (g_is_name c) (pa_cons (pv 3) pa_nil)))) pa_nil)) (pe_one (pe_cmpR op_eq (pe_callB (cr_lenS) (by rfl) (n_len c) (by first | exact PySem.boot_len | exact boot_len | decide +kernel) (pa_cons (pe_callTy (cr_setS rfl) (by rfl) (n_set c) (by first | exact PySem.boot_set | exact boot_set | decide +kernel) (pa_cons (pv 1) pa_nil)) pa_nil)) (pe_callB (lenK K rfl) (by rfl) (n_len c) (by first | exact PySem.boot_len | exact boot_len | decide +kernel) (pa_cons (pv 1) pa_nil)) (nomark _))))))))), ?_⟩
    obtain ⟨hn, hnd, h100⟩ := hc
    refine ⟨_, rfl, .ref p, .ty "tuple", .type "tuple", .type "tuple", true, rfl, .ty _, .base (.tup hp), kit_ty (by decide +kernel), _, rfl, iteF ?_⟩
    refine ⟨_, rfl, p, _, rfl, .inr (SqT.of hp), rfl, _, rfl, iteF ?_⟩
    refine ⟨_, rfl, p, _, rfl, SqT.of hp, rfl, _, _, rfl, _, _, rfl, rfl, ?_⟩
    refine ⟨_, rfl, .ref q, .ty "tuple", .type "tuple", .type "tuple", true, rfl, .ty _, .base (.tup hq), kit_ty (by decide +kernel), _, rfl, iteF ?_⟩
    refine ⟨_, rfl, .bl cl.2, .ty "bool", .type "bool", .type "bool", true, rfl, .ty _, .base (.bl _), kit_ty (by decide +kernel), _, rfl, iteF ?_⟩
    refine ⟨_, rfl, q, rfl, ⟨_, SqT.of hq⟩, fun D hD => ?_⟩
    refine lcTu (T := tt K) V.str cl.1 (SqT.of hq) (Nat.le_trans h100 (by decide)) (fun _ => .bl true) (fun _ => true) hD (fun n hm H' g Kp Ks kp ks => ?_) (fun H' g hl => ?_)
    · exact ⟨rfl, yesT ⟨_, rfl, n, rfl, hn n hm, fun H2 g2 => kp rfl _ g2⟩⟩
    · refine ⟨D, cl.1.map (fun _ => true), rfl, SqL.of ?_, ?_⟩
      · rw [hl, filter_yes, List.map_map] <;> rfl
      · rw [show (cl.1.map fun _ => true).all id = true by rw [List.all_map]; simp]
        refine ⟨_, rfl, iteT ?_⟩
        refine ⟨_, rfl, q, cl.1, rfl, .inr (SqT.of (g.tup hq)), Nat.le_trans h100 (by decide), fun S hS => ⟨S, _, rfl, upd_same, ?_⟩⟩
        refine ⟨_, rfl, q, _, rfl, .inr (SqT.of ((g.trans (Gr.new hS)).tup hq)), rfl, ?_⟩
        have e : decide (V.int ((plusAll [] cl.1).length : Int) = V.int ((sv cl.1).length : Int)) = true := decide_eq_true (by
          rw [plusAll_dup (fun x _ z => by cases z) hnd, sv_len] <;> simp)
        rw [e]
        exact k _ (g.trans (Gr.new hS))
/-- a hook that is one -/
def HookOk (cl : List (List Str × Bool)) : Prop := cl ≠ [] ∧ cl.length ≤ 100 ∧ ∀ c ∈ cl, ClauseOk c
theorem clause_lay {c : List Str × Bool} (h : ClauseOk c) : PyData.canLay0 (clauseD c) = true ∧ PyData.depth (clauseD c) ≤ 2 := by
  obtain ⟨h1, h2⟩ := names_lay h.1
  unfold clauseD
  constructor
  · simp only [PyData.canLay0, PyData.canLayAll0, h1, Bool.and_self]
  · simp only [PyData.depth, PyData.depthAll, h2]
    decide
theorem clauses_lay : ∀ {cl : List (List Str × Bool)}, (∀ c ∈ cl, ClauseOk c) → PyData.canLayAll0 (cl.map clauseD) = true ∧ PyData.depthAll (cl.map clauseD) ≤ 2
  | [], _ => ⟨rfl, Nat.zero_le _⟩
  | c :: cl, h => by
    obtain ⟨h1, h2⟩ := clauses_lay (cl := cl) fun d hd => h d (List.mem_cons_of_mem _ hd)
    obtain ⟨g1, g2⟩ := clause_lay (h c List.mem_cons_self)
    constructor
    · show PyData.canLayAll0 (clauseD c :: cl.map clauseD) = true
      rw [PyData.canLayAll0, g1, h1] <;> rfl
    · show PyData.depthAll (clauseD c :: cl.map clauseD) ≤ 2
      rw [PyData.depthAll]
      exact Nat.max_le.mpr ⟨g2, h2⟩
theorem hook_dp {K : PySem.W.Frag} {H : Hp} {a : Addr} {xs : List V} {cl : List (List Str × Bool)} (ha : H a = some (.tup xs)) (hp : Paired (ClauseAt H) xs cl) : Dp K H (.ref a) (.tuple (cl.map clauseD)) :=
  .tup (SqT.of ha) (dpAll_of hp fun v c ⟨p, q, e, q1, q2⟩ => by
    subst e
    exact .tup (SqT.of q1) (.cons (.tup (SqT.of q2) (dp_sv _)) (.cons (.bl _) .nil)))
def spFault (K : PySem.W.Frag) : Sp := fun vs H Q _ => ∃ (v : V) (cl : List (List Str × Bool)), vs = [v] ∧ HookAt H v (some cl) ∧ HookOk cl ∧ Ans (tt K) H Q .non
theorem sc_hook_fault : FnScope ["value", "place", "clause"] ["value"] (defScope s_hook_fault) := ⟨rfl, rfl, rfl, by decide +kernel, rfl, by decide +kernel, by decide +kernel⟩
theorem ok_hook_fault (c : Tx K mg base) : Ok P w K mg base 3 (ga K "hook_fault") ["value"] (spFault K) := by
  refine Ok.mk' (fd_hook_fault c) sc_hook_fault (fun _ _ _ _ _ _ us hl => match us, hl with | [_], _ => rfl) (fun vs H Q E h => ?_) (fun cdv A outer s H vs Q E hr h => ?_)
  · obtain ⟨v, c, rfl, _⟩ := h
    rfl
  · obtain ⟨v, cl, rfl, ⟨a, xs, rfl, ha, hp⟩, ⟨hne, h100, hok⟩, k⟩ := h
    refine ⟨_, (pss_cons (ps_if (PW.pt (pw_or (pt_not (pt_val (pe_callB (isiK K rfl) (by rfl) (n_isinstance c) (by first | exact PySem.boot_isinstance | exact boot_isinstance | decide +kernel) (pa_cons (pv 0) (pa_cons (pe_bltn (v := .ty "tuple") (by rfl) (n_tuple c) (by first | exact PySem.boot_tuple | exact boot_tuple | decide +kernel) rfl) pa_nil))))) (pw_or1 (pt_cmpR (eqDK K rfl hr.units) (pv 0) (pe_tup pa_nil) (nomark _))))) (pss_one (ps_ret (pe_un un_neg pe_int))) pss_nil) (pss_cons (ps_for PassesOwn.never rfl (pi_enumT (K := K) rfl (by rfl) (n_enumerate c) (pa_cons (pv 0) pa_nil)) (gtupK K (n := 2) rfl rfl (pgs_cons (pg_name (i := 1) sc_hook_fault.nd rfl (Or.inl rfl)) (pgs_cons (pg_name (i := 2) sc_hook_fault.nd rfl (Or.inl rfl)) pgs_nil))) (pss_one (ps_if (pt_not (pt_val ((ok_is_clause c).call hr (by decide) (g_is_clause c) (pa_cons (pv 2) pa_nil)))) (pss_one (ps_ret (pv 1))) pss_nil))) (pss_one (ps_ret pe_non)))), ?_⟩
    refine ⟨_, rfl, .ref a, .ty "tuple", .type "tuple", .type "tuple", true, rfl, .ty _, .base (.tup ha), kit_ty (by decide +kernel), _, rfl, iteF ?_⟩
    refine ⟨_, rfl, by show 0 ≤ sizeLine; decide, fun z hz => ?_⟩
    have gz : Gr (tt K) H (upd H z (.tup [])) := Gr.new hz
    obtain ⟨hl1, hl2⟩ := clauses_lay hok
    have sh : SeqAt.shaped (.tuple (cl.map clauseD)) = true := by
      unfold SeqAt.shaped
      have a1 : PyData.canLay0 (.tuple (cl.map clauseD)) = true := by
        simp only [PyData.canLay0, hl1]
      have a2 : PyData.depth (.tuple (cl.map clauseD)) ≤ 64 := by
        simp only [PyData.depth]
        omega
      rw [a1, decide_eq_true a2] <;> rfl
    refine ⟨_, .tuple [], Dp.mono gz _ _ (hook_dp ha hp), .tup (SqT.of upd_same) .nil, sh, by decide +kernel, _, rfl, ?_⟩
    have ef : PyData.eqv (.tuple (cl.map clauseD)) (.tuple []) = false := by
      cases cl with
      | nil => exact absurd rfl hne
      | cons a b =>
        show PyData.eqv (.tuple (clauseD a :: b.map clauseD)) (.tuple []) = false
        simp only [PyData.eqv, PyData.eqvAll]
    rw [ef]
    refine iteF ⟨_, rfl, a, _, rfl, SqT.of (gz.tup ha), ?_⟩
    refine for_it (walk_enumT (K := K) (a := a) (xs := xs)) (fun i σ H' => Gr (tt K) H H' ∧ ∃ x y, σ = [some (.ref a), x, y]) ⟨gz, _, _, rfl⟩ (fun i σ H' _ h => SqT.of (h.1.tup ha)) ?_ ?_
    · rintro i x σ H' H'' hi ⟨g, x', y', rfl⟩ ⟨Tp, xi, yi, rfl, hTp, rfl, e1, e2⟩
      obtain ⟨c, hc, hcl⟩ := prd_getL hp e2
      have e1 : xi = .int (i : Nat) := (Option.some.inj e1).symm
      subst e1
      have g2 : Gr (tt K) H (upd H' Tp (.tup [.int (i : Nat), yi])) := g.trans (Gr.new hTp)
      obtain ⟨p, q, rfl, q1, q2⟩ := hcl
      refine ⟨Tp, _, rfl, SqT.of upd_same, rfl, _, _, rfl, _, _, rfl, rfl, ?_⟩
      refine ⟨_, rfl, .ref p, c, rfl, ⟨p, q, rfl, g2.tup q1, g2.tup q2⟩, hok c (List.mem_of_getElem? hc), fun H4 g4 => ⟨_, rfl, iteF ⟨g2.trans g4, _, _, rfl⟩⟩⟩
    · rintro σ H' ⟨g, x', y', rfl⟩
      exact k _ g
end
end SW


set_option maxHeartbeats 2000000
namespace SW
open PySem PySem.Spec PyProof.Rows L2 He LamX NdefX
open SW.M (Ent Tb Oc)
theorem slA_take {K : PySem.W.Frag} {a : Addr} {xs : List V} {H : Hp} {Q : VK} {n : Nat} (h : SqT K H a xs) (k : ∀ H' p, Gr (tt K) H H' → SqT K H' p (xs.take n) → Q (.ref p) H') : rSlA K (.ref a) none (some (n : Int)) H Q := by
  have e : cutV xs none (some (n : Int)) = xs.take n := by
    unfold cutV
    rw [HT.sIx_nat, HT.sIx_none, List.drop_zero, Nat.sub_zero]
    by_cases hn : n ≤ xs.length
    · rw [Nat.min_eq_left hn]
    · rw [Nat.min_eq_right (by omega), List.take_length, List.take_of_length_le (by omega)]
  refine ⟨a, xs, rfl, h, fun ⟨_, e2⟩ => k _ _ (Gr.refl _) ?_, fun _ p hp => k _ _ (Gr.new hp) ?_⟩
  · rw [HT.sIx_nat] at e2
    rw [List.take_of_length_le (by omega)]
    exact h
  · rw [e]
    exact SqT.of upd_same
def markL : List Str := ["plain", "abstract", "blocked"]
section
variable {P : Program} {w : World} {K : PySem.W.Frag} {mg : Str → Option Value} {base : Heap}
theorem Tx.marks (c : Tx K mg base) (H : Hp) : SqT K H (ga K "MARKS") (sv markL) := by
  have h := c.x
  unfold exB at h
  exact He.tupB_ok (ba4 h).1 H
def spMark (K : PySem.W.Frag) : Sp := fun vs H Q _ => ∃ n : Str, vs = [.str n] ∧ n ∈ markL ∧ Ans (tt K) H Q (.bl true)
theorem sc_is_mark : FnScope ["value"] ["value"] (defScope s_is_mark) := ⟨rfl, rfl, rfl, by decide +kernel, rfl, by decide +kernel, by decide +kernel⟩
theorem ok_is_mark (c : Tx K mg base) : Ok P w K mg base 1 (ga K "is_mark") ["value"] (spMark K) := by
  refine Ok.mk' (fd_is_mark c) sc_is_mark (fun _ _ _ _ _ _ us hl => match us, hl with | [_], _ => rfl) (fun vs H Q E h => ?_) (fun cdv A outer s H vs Q E hr h => ?_)
  · obtain ⟨n, rfl, _⟩ := h
    rfl
  · obtain ⟨n, rfl, hn, k⟩ := h
    refine ⟨_, (pss_one (ps_ret (pe_and (pe_callB (isiK K rfl) (by rfl) (n_isinstance c) (by first | exact PySem.boot_isinstance | exact boot_isinstance | decide +kernel) (pa_cons (pv 0) (pa_cons (pe_bltn (v := .ty "str") (by rfl) (n_str c) (by first | exact PySem.boot_str | exact boot_str | decide +kernel) rfl) pa_nil))) (pe_one (pe_cmpR (inK K rfl) (pv 0) (pe_glob (by rfl) (g_MARKS c) (show RelV (.ref (ga K "MARKS")) (.ref (ga K "MARKS")) from rfl) (by decide)) rfl))))), ?_⟩
    refine ⟨_, rfl, .str n, .ty "str", .type "str", .type "str", true, rfl, .ty _, .base (.str _), kit_ty (by decide +kernel), _, rfl, iteT ?_⟩
    refine ⟨_, rfl, _, _, rfl, .inr (c.marks H), rfl, flat_sv _, ?_⟩
    rw [inV_sv, decide_eq_true hn]
    exact k _ (Gr.refl _)
/-- pairs of texts in a list -/
def PairsAt (H : Hp) (p : Addr) (ms : List (Str × Str)) : Prop := ∃ xs : List V, H p = some (.lst xs) ∧ Paired (fun v (q : Str × Str) => ∃ a, v = .ref a ∧ H a = some (.tup [.str q.1, .str q.2])) xs ms
theorem PairsAt.mono {B : Tbs} {H H' : Hp} {p : Addr} {ms} (g : Gr B H H') (h : PairsAt H p ms) : PairsAt H' p ms :=
  let ⟨xs, h1, h2⟩ := h
  ⟨xs, g.lst h1, prd_mono h2 fun v q ⟨a, e, h⟩ => ⟨a, e, g.tup h⟩⟩
/-- marks that are ones -/
structure MarksOk (ms : List (Str × Str)) : Prop where
  names : ∀ q ∈ ms, NameOk q.1
  marks : ∀ q ∈ ms, q.2 ∈ markL
  nd : (ms.map (·.1)).Nodup
  few : ms.length ≤ 100
def spLMarks (K : PySem.W.Frag) : Sp := fun vs H Q _ => ∃ (p : Addr) (ms : List (Str × Str)), vs = [.ref p] ∧ PairsAt H p ms ∧ MarksOk ms ∧ Ans (tt K) H Q .non
theorem sc_look_marks : FnScope ["marks", "known", "pair"] ["marks"] (defScope s_look_marks) := ⟨rfl, rfl, rfl, by decide +kernel, rfl, by decide +kernel, by decide +kernel⟩
theorem ok_look_marks (c : Tx K mg base) : Ok P w K mg base 2 (ga K "look_marks") ["marks"] (spLMarks K) := by
  refine Ok.mk' (fd_look_marks c) sc_look_marks (fun _ _ _ _ _ _ us hl => match us, hl with | [_], _ => rfl) (fun vs H Q E h => ?_) (fun cdv A outer s H vs Q E hr h => ?_)
  · obtain ⟨p, ms, rfl, _⟩ := h
    rfl
  · obtain ⟨p, ms, rfl, ⟨xs, hp, hq⟩, hok, k⟩ := h
    refine ⟨_, (pss_cons (ps_set (i := 1) sc_look_marks.nd rfl (Or.inl rfl) (pe_lst pa_nil)) (pss_one (ps_for PassesOwn.never rfl (piL K rfl (pv 0)) (pg_name (i := 2) sc_look_marks.nd rfl (Or.inl rfl)) (pss_cons (ps_if (PW.pt (pw_or (pt_not (pt_val (pe_callB (isiK K rfl) (by rfl) (n_isinstance c) (by first | exact PySem.boot_isinstance | exact boot_isinstance | decide +kernel) (pa_cons (pv 2) (pa_cons (pe_bltn (v := .ty "tuple") (by rfl) (n_tuple c) (by first | exact PySem.boot_tuple | exact boot_tuple | decide +kernel) rfl) pa_nil))))) (pw_or (pt_cmpR op_ne (pe_callB (lenK K rfl) (by rfl) (n_len c) (by first | exact PySem.boot_len | exact boot_len | decide +kernel) (pa_cons (pv 2) pa_nil)) pe_int (nomark _)) (pw_or (pt_not (pt_val ((ok_is_name c).call hr (by decide) (g_is_name c) (pa_cons (pe_ix (ixTK K rfl) (pv 2) pe_int (fun _ _ => rfl)) pa_nil)))) (pw_or1 (pt_not (pt_val ((ok_is_mark c).call hr (by decide) (g_is_mark c) (pa_cons (pe_ix (ixTK K rfl) (pv 2) pe_int (fun _ _ => rfl)) pa_nil))))))))) pss_never pss_nil) (pss_cons (ps_if (pt_cmpR (inK K rfl) (pe_ix (ixTK K rfl) (pv 2) pe_int (fun _ _ => rfl)) (pv 1) rfl) pss_never pss_nil) (pss_one (ps_expr (pe_bm PySem.F.plainAttrs_list PySem.F.slot_list_append PySem.F.type_list_append mt_append (pv 1) (pa_cons (pe_ix (ixTK K rfl) (pv 2) pe_int (fun _ _ => rfl)) pa_nil))))))))), ?_⟩
    refine ⟨by show 0 ≤ sizeLine; decide, fun kn hkn => ?_⟩
    have g0 : Gr (tt K) H (upd H kn (.lst [])) := Gr.new hkn
    refine ⟨_, rfl, p, rfl, ⟨_, SqL.of (g0.lst hp)⟩, ?_⟩
    refine for_list (xs := xs) (fun i σ H' => Gr (tt K) H H' ∧ H' kn = some (.lst (sv ((ms.take i).map (·.1)))) ∧ ∃ x, σ = [some (.ref p), some (.ref kn), x]) ⟨g0, upd_same, _, rfl⟩ (fun i σ H' _ h => SqL.of (h.1.lst hp)) ?_ ?_
    · rintro i x σ H' hi ⟨g, hk, x', rfl⟩
      obtain ⟨q, hqi, a, rfl, ha⟩ := prd_getL hq hi
      have ha' := g.tup ha
      have hqm := List.mem_of_getElem? hqi
      refine ⟨_, rfl, .ref a, .ty "tuple", .type "tuple", .type "tuple", true, rfl, .ty _, .base (.tup ha'), kit_ty (by decide +kernel), _, rfl, iteF ?_⟩
      refine ⟨_, rfl, a, _, rfl, .inr (SqT.of ha'), rfl, _, rfl, iteF ?_⟩
      refine ⟨_, rfl, a, _, 0, _, rfl, rfl, SqT.of ha', rfl, q.1, rfl, hok.names q hqm, fun H2 g2 => ⟨_, rfl, iteF ?_⟩⟩
      refine ⟨_, rfl, a, _, 1, _, rfl, rfl, SqT.of (g2.tup ha'), rfl, q.2, rfl, hok.marks q hqm, fun H3 g3 => ⟨_, rfl, iteF ?_⟩⟩
      have g23 := g2.trans g3
      have hk3 := g23.lst hk
      have hnot : q.1 ∉ (ms.take i).map (·.1) := fun hm => by
        obtain ⟨q', h1, h2⟩ := List.mem_map.mp hm
        obtain ⟨j, hj⟩ := List.mem_iff_getElem?.mp h1
        rw [List.getElem?_take] at hj
        by_cases hji : j < i
        · rw [if_pos hji] at hj
          have a1 : (ms.map (·.1))[j]? = some q.1 := by rw [List.getElem?_map, hj, ← h2] <;> rfl
          have a2 : (ms.map (·.1))[i]? = some q.1 := by rw [List.getElem?_map, hqi] <;> rfl
          have := nd_index hok.nd a1 a2
          omega
        · rw [if_neg hji] at hj
          cases hj
      refine ⟨_, rfl, a, _, 0, _, rfl, rfl, SqT.of (g23.tup ha'), rfl, _, rfl, kn, _, rfl, .inl (SqL.of hk3), rfl, flat_sv _, _, rfl, ?_⟩
      rw [inV_sv, decide_eq_false hnot]
      refine iteF ?_
      refine ⟨_, rfl, .inl ⟨rfl, _, SqL.of hk3⟩, _, rfl, a, _, 0, _, rfl, rfl, SqT.of (g23.tup ha'), rfl, kn, _, _, rfl, rfl, hk3, ?_, ?_⟩
      · have h1 := hok.few
        simp only [sv, List.length_map, List.length_take]
        unfold sizeLine
        omega
      · refine ⟨(g.trans g23).appd (fresh_none hkn) hk3, ?_, _, rfl⟩
        rw [upd_same, List.take_succ, hqi, List.map_append]
        unfold sv
        rw [List.map_append] <;> rfl
    · rintro σ H' ⟨g, _⟩
      exact k _ g
def spLBases (K : PySem.W.Frag) : Sp := fun vs H Q _ => ∃ (t : Addr) (T : Tb Str) (p : Addr) (bs : List Str), vs = [.ref t, .ref p] ∧ TabAt K H t T ∧ H p = some (.tup (sv bs)) ∧ (∀ b ∈ bs, b ∈ M.names T.es) ∧ bs.Nodup ∧ bs.length ≤ 100 ∧ Ans (tt K) H Q .non
theorem sc_look_bases : FnScope ["table", "bases", "place", "base"] ["table", "bases"] (defScope s_look_bases) := ⟨rfl, rfl, rfl, by decide +kernel, rfl, by decide +kernel, by decide +kernel⟩
theorem ok_look_bases (c : Tx K mg base) : Ok P w K mg base 3 (ga K "look_bases") ["table", "bases"] (spLBases K) := by
  refine Ok.mk' (fd_look_bases c) sc_look_bases (fun _ _ _ _ _ _ us hl => match us, hl with | [_, _], _ => rfl) (fun vs H Q E h => ?_) (fun cdv A outer s H vs Q E hr h => ?_)
  · obtain ⟨t, T, p, bs, rfl, _⟩ := h
    rfl
  · obtain ⟨t, T, p, bs, rfl, hT, hp, hbs, hnd, hz, k⟩ := h
    refine ⟨_, (pss_one (ps_for PassesOwn.never rfl (pi_enumT (K := K) rfl (by rfl) (n_enumerate c) (pa_cons (pv 1) pa_nil)) (gtupK K (n := 2) rfl rfl (pgs_cons (pg_name (i := 2) sc_look_bases.nd rfl (Or.inl rfl)) (pgs_cons (pg_name (i := 3) sc_look_bases.nd rfl (Or.inl rfl)) pgs_nil))) (pss_cons (ps_if (pt_not (pt_val ((ok_Table_has c).meth hr (by decide) (cl_Table c) (me_Table_has c) (pv 0) (pa_cons (pv 3) pa_nil)))) pss_never pss_nil) (pss_one (ps_if (pt_cmpR (inK K rfl) (pv 3) (pe_slice (slAK K rfl) (pv 1) po_none (po_some (pv 2))) rfl) pss_never pss_nil))))), ?_⟩
    have hT' := hT
    obtain ⟨dx, r, nu, l, m, kn, h1, _⟩ := hT'
    refine ⟨_, rfl, p, _, rfl, SqT.of hp, ?_⟩
    refine for_it (walk_enumT (K := K) (a := p) (xs := sv bs)) (fun i σ H' => Gr (tt K) H H' ∧ ∃ x y, σ = [some (.ref t), some (.ref p), x, y]) ⟨Gr.refl _, _, _, rfl⟩ (fun i σ H' _ h => SqT.of (h.1.tup hp)) ?_ ?_
    · rintro i x σ H' H'' hi ⟨g, x', y', rfl⟩ ⟨Tp, xi, yi, rfl, hTp, rfl, e1, e2⟩
      have e1 : xi = .int (i : Nat) := (Option.some.inj e1).symm
      subst e1
      obtain ⟨b, hb, rfl⟩ := sv_at e2
      have hbm := hbs b (List.mem_of_getElem? hb)
      have g2 : Gr (tt K) H (upd H' Tp (.tup [.int (i : Nat), .str b])) := g.trans (Gr.new hTp)
      refine ⟨Tp, _, rfl, SqT.of upd_same, rfl, _, _, rfl, _, _, rfl, rfl, ?_⟩
      refine ⟨_, rfl, t, dx, _, rfl, g2.ins h1, rfl, _, rfl, t, T, b, rfl, hT.mono g2, fun H3 g3 => ⟨_, rfl, ?_⟩⟩
      rw [decide_eq_true hbm]
      refine iteF ?_
      have g23 := g2.trans g3
      refine ⟨_, rfl, _, rfl, _, rfl, _, rfl, ?_⟩
      refine slA_take (n := i) (SqT.of (g23.tup hp)) fun H4 q g4 hq => ?_
      rw [show (sv bs).take i = sv (bs.take i) by unfold sv; rw [List.map_take]] at hq
      refine ⟨q, _, rfl, .inr hq, rfl, flat_sv _, _, rfl, ?_⟩
      rw [inV_sv, decide_eq_false fun hm => ?_]
      · exact iteF ⟨g23.trans g4, _, _, rfl⟩
      · obtain ⟨j, hj⟩ := List.mem_iff_getElem?.mp hm
        rw [List.getElem?_take] at hj
        by_cases hji : j < i
        · rw [if_pos hji] at hj
          have := nd_index hnd hj hb
          omega
        · rw [if_neg hji] at hj
          cases hj
    · rintro σ H' ⟨g, _⟩
      exact k _ g
def spLHook (K : PySem.W.Frag) : Sp := fun vs H Q _ => ∃ (v : V) (o : Option (List (List Str × Bool))) (b : Bool), vs = [v, .bl b] ∧ HookAt H v o ∧ (∀ cl, o = some cl → HookOk cl ∧ b = true) ∧ Ans (tt K) H Q .non
theorem sc_look_hook : FnScope ["hook", "is_allowed", "place"] ["hook", "is_allowed"] (defScope s_look_hook) := ⟨rfl, rfl, rfl, by decide +kernel, rfl, by decide +kernel, by decide +kernel⟩
theorem ok_look_hook (c : Tx K mg base) : Ok P w K mg base 4 (ga K "look_hook") ["hook", "is_allowed"] (spLHook K) := by
  refine Ok.mk' (fd_look_hook c) sc_look_hook (fun _ _ _ _ _ _ us hl => match us, hl with | [_, _], _ => rfl) (fun vs H Q E h => ?_) (fun cdv A outer s H vs Q E hr h => ?_)
  · obtain ⟨v, o, b, rfl, _⟩ := h
    rfl
  · obtain ⟨v, o, b, rfl, hv, ho, k⟩ := h
    refine ⟨_, (pss_cons (ps_if (pt_cmpR op_isN (pv 0) pe_non (nomark _)) (pss_one ps_retN) pss_nil) (pss_cons (ps_set (i := 2) sc_look_hook.nd rfl (Or.inl rfl) ((ok_hook_fault c).call hr (by decide) (g_hook_fault c) (pa_cons (pv 0) pa_nil))) (pss_cons (ps_if (pt_cmpR op_notN (pv 2) pe_non (nomark _)) pss_never pss_nil) (pss_one (ps_if (pt_not (pt_val (pv 1))) pss_never pss_nil))))), ?_⟩
    cases o with
    | none =>
      have hv : v = .non := hv
      subst hv
      exact ⟨_, rfl, rfl, _, rfl, iteT (k _ (Gr.refl _))⟩
    | some cl =>
      obtain ⟨hok, rfl⟩ := ho cl rfl
      have hv' := hv
      obtain ⟨a, xs, rfl, ha, hp⟩ := hv'
      refine ⟨_, rfl, rfl, _, rfl, iteF ?_⟩
      refine ⟨_, rfl, .ref a, cl, rfl, hv, hok, fun H1 g1 => ?_⟩
      exact ⟨_, rfl, rfl, _, rfl, iteF ⟨_, rfl, _, rfl, iteF (k _ g1)⟩⟩
end
end SW


set_option maxHeartbeats 2000000
namespace SW
open PySem PySem.Spec PyProof.Rows L2 He LamX NdefX
open SW.M (Ent Tb Oc)
/-- lists of texts in a list -/
def LLAt (K : PySem.W.Frag) (H : Hp) (p : Addr) (ls : List (List Str)) : Prop := ∃ qs : List Addr, H p = some (.lst (qs.map V.ref)) ∧ Paired (fun q l => SqL K H q (sv l)) qs ls
theorem LLAt.mono {K : PySem.W.Frag} {B : Tbs} {H H' : Hp} {p : Addr} {ls} (g : Gr B H H') (h : LLAt K H p ls) : LLAt K H' p ls :=
  let ⟨qs, h1, h2⟩ := h
  ⟨qs, g.lst h1, prd_mono h2 fun q l h => g.sqL h⟩
theorem cut_tail (xs : List V) : cutV xs (some 1) none = xs.tail := by
  unfold cutV
  rw [show (some 1 : Option Int) = some ((1 : Nat) : Int) from rfl, HT.sIx_nat, HT.sIx_none]
  cases xs with
  | nil => rfl
  | cons x r =>
    simp
section
variable {P : Program} {w : World} {K : PySem.W.Frag} {mg : Str → Option Value} {base : Heap}
def spFirst (K : PySem.W.Frag) : Sp := fun vs H Q _ => ∃ (n : Str) (p : Addr) (ls : List (List Str)), vs = [.str n, .ref p] ∧ LLAt K H p ls ∧ ls.length ≤ 100 ∧ Ans (tt K) H Q (.bl (M.goodH ls n))
theorem sc_can_be_first : FnScope ["name", "lists", "one"] ["name", "lists"] (defScope s_can_be_first) := ⟨rfl, rfl, rfl, by decide +kernel, rfl, by decide +kernel, by decide +kernel⟩
theorem ok_can_be_first (c : Tx K mg base) : Ok P w K mg base 1 (ga K "can_be_first") ["name", "lists"] (spFirst K) := by
  refine Ok.mk' (fd_can_be_first c) sc_can_be_first (fun _ _ _ _ _ _ us hl => match us, hl with | [_, _], _ => rfl) (fun vs H Q E h => ?_) (fun cdv A outer s H vs Q E hr h => ?_)
  · obtain ⟨n, p, ls, rfl, _⟩ := h
    rfl
  · obtain ⟨n, p, ls, rfl, ⟨qs, hp, hq⟩, hz, k⟩ := h
    refine ⟨_, (pss_one (ps_ret (pe_callB (allK K rfl rfl) (by rfl) (n_all c) (by first | exact PySem.boot_all | exact boot_all | decide +kernel) (pa_cons (pe_lc (own := [("one", 2)]) (g := (gName 2)) (tt := tYes) rfl sc_can_be_first.nd (piL K rfl (pv 1)) (blkOk_by (N := ["name", "lists", "one"]) (sc := defScope s_can_be_first) (by decide +kernel)) (fun _ _ _ _ _ => (pg_name (i := 2) sc_can_be_first.nd rfl (by first | exact Or.inl rfl | exact Or.inr rfl))) (fun _ _ _ _ _ => by exact pts_nil) (fun _ _ _ _ _ => by exact (pe_cmpR (ninK K rfl) (pv 0) (pe_slice (slLK K rfl) (pv 2) (po_some pe_int) po_none) rfl))) pa_nil)))), ?_⟩
    have hqz : qs.length = ls.length := prd_len hq
    refine ⟨_, rfl, p, rfl, ⟨_, SqL.of hp⟩, fun D hD => ?_⟩
    refine lcF (T := tt K) (walk_list (K := K) (a := p) (xs := qs.map V.ref)) ls (by simp [hqz]) (Nat.le_trans hz (by decide)) (fun l => .bl (!decide (n ∈ l.tail))) (fun _ => true) hD (fun H' g => g.sqL (SqL.of hp)) (fun i l x H' H'' hi g y Kp Ks kp ks => ?_) (fun H' g hl => ?_)
    · obtain ⟨rfl, hx⟩ := y
      obtain ⟨q, hqi, hm⟩ := prd_get hq hi
      rw [List.getElem?_map, hqi] at hx
      cases hx
      refine ⟨rfl, yesT ⟨_, rfl, _, rfl, _, rfl, ?_⟩⟩
      refine ⟨q, _, rfl, g.sqL hm, fun z hz => ⟨z, _, rfl, .inl (SqL.of upd_same), rfl, ?_⟩⟩
      rw [cut_tail, show (sv l).tail = sv l.tail by unfold sv; rw [List.map_tail]]
      refine ⟨flat_sv _, ?_⟩
      rw [inV_sv]
      exact kp rfl _ (Gr.new hz)
    · refine ⟨D, ls.map (fun l => !decide (n ∈ l.tail)), rfl, SqL.of ?_, ?_⟩
      · rw [hl, filter_yes, List.map_map] <;> rfl
      · rw [List.all_map]
        exact k _ g
end
end SW


set_option maxHeartbeats 2000000
namespace SW
open PySem PySem.Spec PyProof.Rows L2 He LamX NdefX
open SW.M (Ent Tb Oc)
/-! ## x == [], x != []; for .. else over a walk -/
theorem strs_lay {xs : List Str} (h : ∀ n ∈ xs, PyData.strOk n = true) : PyData.canLayAll0 (xs.map .str) = true ∧ PyData.depthAll (xs.map .str) = 0 := by
  rw [canLayAll_strs', depthAll_strs', List.all_eq_true]
  exact ⟨h, rfl⟩
def lD (l : List Str) : PyData := .list (l.map .str)
def StrsOk (ls : List (List Str)) : Prop := ∀ l ∈ ls, ∀ n ∈ l, PyData.strOk n = true
theorem lists_lay : ∀ {ls : List (List Str)}, StrsOk ls → PyData.canLayAll0 (ls.map lD) = true ∧ PyData.depthAll (ls.map lD) ≤ 1
  | [], _ => ⟨rfl, Nat.zero_le _⟩
  | c :: cl, h => by
    obtain ⟨h1, h2⟩ := lists_lay (ls := cl) fun d hd => h d (List.mem_cons_of_mem _ hd)
    obtain ⟨g1, g2⟩ := strs_lay (h c List.mem_cons_self)
    constructor
    · show PyData.canLayAll0 (lD c :: cl.map lD) = true
      rw [PyData.canLayAll0, h1]
      unfold lD
      simp only [PyData.canLay0, g1, Bool.and_self]
    · show PyData.depthAll (lD c :: cl.map lD) ≤ 1
      rw [PyData.depthAll]
      refine Nat.max_le.mpr ⟨?_, h2⟩
      unfold lD
      simp only [PyData.depth, g2]
      decide
theorem nil_eqv (ds : List PyData) : PyData.eqv (.list ds) (.list []) = ds.isEmpty := by
  cases ds with
  | nil => simp only [PyData.eqv, PyData.eqvAll, List.isEmpty]
  | cons a b => simp only [PyData.eqv, PyData.eqvAll, List.isEmpty]
theorem nil_shaped {ds : List PyData} (h : PyData.canLayAll0 ds = true) (h2 : PyData.depthAll ds ≤ 60) : SeqAt.shaped (.list ds) = true := by
  unfold SeqAt.shaped
  have a1 : PyData.canLay0 (.list ds) = true := by
    simp only [PyData.canLay0, h]
  have a2 : PyData.depth (.list ds) ≤ 64 := by
    simp only [PyData.depth]
    omega
  rw [a1, decide_eq_true a2] <;> rfl
section
variable {K : PySem.W.Frag} {H : Hp} {p q : Addr} {ds : List PyData} {Q : VK}
theorem ne_nil (h : Dp K H (.ref p) (.list ds)) (hq : H q = some (.lst [])) (h1 : PyData.canLayAll0 ds = true) (h2 : PyData.depthAll ds ≤ 60) (k : Q (.bl (!ds.isEmpty)) H) : rNeD K (.ref p) (.ref q) H Q :=
  ⟨_, .list [], h, .lst (SqL.of hq) .nil, nil_shaped h1 h2, by decide +kernel, by rw [nil_eqv]; exact k⟩
theorem eq_nil (h : Dp K H (.ref p) (.list ds)) (hq : H q = some (.lst [])) (h1 : PyData.canLayAll0 ds = true) (h2 : PyData.depthAll ds ≤ 60) (k : Q (.bl ds.isEmpty) H) : rEqD K (.ref p) (.ref q) H Q :=
  ⟨_, .list [], h, .lst (SqL.of hq) .nil, nil_shaped h1 h2, by decide +kernel, by rw [nil_eqv]; exact k⟩
theorem ne_nilS {l : List Str} (h : SqL K H p (sv l)) (hs : ∀ n ∈ l, PyData.strOk n = true) (hq : H q = some (.lst [])) (k : Q (.bl (!l.isEmpty)) H) : rNeD K (.ref p) (.ref q) H Q := by
  obtain ⟨h1, h2⟩ := strs_lay hs
  refine ne_nil (.lst h (dp_sv _)) hq h1 (by rw [h2]; decide) ?_
  rw [List.isEmpty_map]
  exact k
theorem eq_nilS {l : List Str} (h : SqL K H p (sv l)) (hs : ∀ n ∈ l, PyData.strOk n = true) (hq : H q = some (.lst [])) (k : Q (.bl l.isEmpty) H) : rEqD K (.ref p) (.ref q) H Q := by
  obtain ⟨h1, h2⟩ := strs_lay hs
  refine eq_nil (.lst h (dp_sv _)) hq h1 (by rw [h2]; decide) ?_
  rw [List.isEmpty_map]
  exact k
theorem ll_dp {ls : List (List Str)} (h : LLAt K H p ls) : Dp K H (.ref p) (.list (ls.map lD)) := by
  obtain ⟨qs, h1, h2⟩ := h
  refine .lst (SqL.of h1) ?_
  clear h1
  induction h2 with
  | nil => exact .nil
  | cons r _ ih => exact .cons (.lst r (dp_sv _)) ih
theorem ne_nilL {ls : List (List Str)} (h : LLAt K H p ls) (hs : StrsOk ls) (hq : H q = some (.lst [])) (k : Q (.bl (!ls.isEmpty)) H) : rNeD K (.ref p) (.ref q) H Q := by
  obtain ⟨h1, h2⟩ := lists_lay hs
  refine ne_nil (ll_dp h) hq h1 (Nat.le_trans h2 (by decide)) ?_
  rw [List.isEmpty_map]
  exact k
theorem eq_nilL {ls : List (List Str)} (h : LLAt K H p ls) (hs : StrsOk ls) (hq : H q = some (.lst [])) (k : Q (.bl ls.isEmpty) H) : rEqD K (.ref p) (.ref q) H Q := by
  obtain ⟨h1, h2⟩ := lists_lay hs
  refine eq_nil (ll_dp h) hq h1 (Nat.le_trans h2 (by decide)) ?_
  rw [List.isEmpty_map]
  exact k
end
/-- a walk with an else -/
theorem elseW {J : It} {n : Nat} {G : Hp → Prop} {Y : Nat → Hp → V → Hp → Prop} (wk : Walk J n G Y) {g : TG} {tb u : TS} {D : Ends} {σ : L2.St} {H : Hp} (I : Nat → L2.St → Hp → Prop) (start : I 0 σ H) (reads : ∀ i σ H, i ≤ n → I i σ H → G H)
    (turn : ∀ i x σ H H', i < n → I i σ H → Y i H x H' → g x σ H' fun σ2 H2 => tb { D with nx := I (i + 1), ct := I (i + 1), bk := D.nx } σ2 H2) (fin : ∀ σ H, I n σ H → u D σ H) :
    ∃ W : Nat → Nat → L2.St → Hp → Prop, (∃ m, W 0 m σ H) ∧ ∀ i m σ H, W i m σ H →
      (J.stop i H ∧ u D σ H) ∨ (J.go i H ∧ ∃ N : L2.St → Hp → Prop, (∀ σ' H', N σ' H' → ∃ m', m' < m ∧ W (i + 1) m' σ' H') ∧ ∀ x H', J.yld i H x H' → g x σ H' fun σ2 H2 => tb { D with nx := N, ct := N, bk := D.nx } σ2 H2) := by
  refine ⟨fun i m σ H => i + m = n ∧ I i σ H, ⟨n, by simp, start⟩, fun i m σ H hw => ?_⟩
  obtain ⟨e, inv⟩ := hw
  rcases Nat.lt_or_ge i n with hlt | hge
  · refine .inr ⟨wk.goes i H hlt (reads i σ H (Nat.le_of_lt hlt) inv), I (i + 1), fun σ' H' inv' => ⟨m - 1, by omega, by omega, inv'⟩, fun x H' y => ?_⟩
    exact turn i x σ H H' hlt inv (wk.yields i H x H' hlt (reads i σ H (Nat.le_of_lt hlt) inv) y)
  · obtain rfl : i = n := by omega
    exact .inl ⟨wk.stops H (reads i σ H (Nat.le_refl _) inv), fin σ H inv⟩
/-- the first good head -/
theorem mstep_at {ls : List (List Str)} {i : Nat} {x : Str} {r : List Str} (hi : ls[i]? = some (x :: r)) (hg : M.goodH ls x = true) (hb : ∀ j < i, ∀ l, ls[j]? = some l → ∀ y, l.head? = some y → M.goodH ls y = false) : M.mstep ls = some x := by
  have hil := (List.getElem?_eq_some_iff.mp hi).1
  have e : ls = ls.take i ++ (x :: r) :: ls.drop (i + 1) := by
    rw [← drop_at hi, List.take_append_drop]
  unfold M.mstep
  have e2 : M.heads ls = M.heads (ls.take i) ++ x :: M.heads (ls.drop (i + 1)) := by
    unfold M.heads
    conv => lhs; rw [e]
    rw [List.filterMap_append] <;> rfl
  rw [e2, List.find?_append]
  have e3 : (M.heads (ls.take i)).find? (M.goodH ls) = none := by
    rw [List.find?_eq_none]
    intro y hy
    obtain ⟨l, hl, hy⟩ := List.mem_filterMap.mp hy
    obtain ⟨j, hj⟩ := List.mem_iff_getElem?.mp hl
    rw [List.getElem?_take] at hj
    split at hj
    · rename_i hji
      rw [hb j hji l hj y hy]
      decide
    · cases hj
  rw [e3, List.find?_cons_of_pos hg] <;> rfl
theorem mstep_no {ls : List (List Str)} (hb : ∀ j < ls.length, ∀ l, ls[j]? = some l → ∀ y, l.head? = some y → M.goodH ls y = false) : M.mstep ls = none := by
  unfold M.mstep
  rw [List.find?_eq_none]
  intro y hy
  obtain ⟨l, hl, hy⟩ := List.mem_filterMap.mp hy
  obtain ⟨j, hj⟩ := List.mem_iff_getElem?.mp hl
  rw [hb j (List.getElem?_eq_some_iff.mp hj).1 l hj y hy]
  decide
end SW

set_option maxHeartbeats 2000000
namespace SW
open PySem PySem.Spec PyProof.Rows L2 He LamX NdefX
open SW.M (Ent Tb Oc)
/-- lists of texts in a list, none of it at f -/
def LLf (K : PySem.W.Frag) (H : Hp) (f p : Addr) (ls : List (List Str)) : Prop := ∃ qs : List Addr, H p = some (.lst (qs.map V.ref)) ∧ p ≠ f ∧ Paired (fun q l => q ≠ f ∧ SqL K H q (sv l)) qs ls
section
variable {K : PySem.W.Frag} {H H' : Hp} {f p q : Addr} {ls : List (List Str)} {B : Tbs} {o : HO}
theorem LLf.at (h : LLf K H f p ls) : LLAt K H p ls :=
  let ⟨qs, h1, _, h2⟩ := h
  ⟨qs, h1, prd_mono h2 fun _ _ h => h.2⟩
theorem LLf.mono (g : Gr B H H') (h : LLf K H f p ls) : LLf K H' f p ls :=
  let ⟨qs, h1, h0, h2⟩ := h
  ⟨qs, g.lst h1, h0, prd_mono h2 fun _ _ h => ⟨h.1, g.sqL h.2⟩⟩
theorem sqL_upd {xs : List V} (n : q ≠ f) (h : SqL K H q xs) : SqL K (upd H f o) q xs := by
  rcases h with h | h
  · rcases h with h | ⟨u, h⟩
    · exact .inl (.inl (by rw [upd_ne n]; exact h))
    · exact .inl (.inr ⟨u, by rw [upd_ne n]; exact h⟩)
  · exact .inr h
theorem sqL_wo {xs : List V} (n : q ≠ f) (h : SqL K H q xs) : SqL K (wo f H) q xs := by
  rcases h with h | h
  · rcases h with h | ⟨u, h⟩
    · exact .inl (.inl (by rw [wo_ne n]; exact h))
    · exact .inl (.inr ⟨u, by rw [wo_ne n]; exact h⟩)
  · exact .inr h
theorem LLf.upd (h : LLf K H f p ls) : LLf K (L2.upd H f o) f p ls :=
  let ⟨qs, h1, h0, h2⟩ := h
  ⟨qs, by rw [upd_ne h0]; exact h1, h0, prd_mono h2 fun _ _ h => ⟨h.1, sqL_upd h.1 h.2⟩⟩
theorem llf_of {ys : List V} (h : H p = some (.lst ys)) (n : p ≠ f) (hp : Paired (fun v l => ∃ q, v = .ref q ∧ q ≠ f ∧ SqL K H q (sv l)) ys ls) : LLf K H f p ls := by
  have : ∃ qs : List Addr, ys = qs.map V.ref ∧ Paired (fun q l => q ≠ f ∧ SqL K H q (sv l)) qs ls := by
    clear h
    induction hp with
    | nil => exact ⟨[], rfl, .nil⟩
    | cons r _ ih =>
      obtain ⟨q, e, r1, r2⟩ := r
      obtain ⟨qs, e2, r3⟩ := ih
      subst e e2
      exact ⟨q :: qs, rfl, .cons ⟨r1, r2⟩ r3⟩
  obtain ⟨qs, rfl, h2⟩ := this
  exact ⟨qs, h, n, h2⟩
end
theorem StrsOk.without {ls : List (List Str)} (h : StrsOk ls) (x : Str) : StrsOk (M.without x ls) := fun l hl n hn => by
  unfold M.without at hl
  obtain ⟨l', h1, rfl⟩ := List.mem_map.mp hl
  exact h l' h1 n (List.mem_filter.mp hn).1
section
variable {P : Program} {w : World} {K : PySem.W.Frag} {mg : Str → Option Value} {base : Heap}
def spMerged (K : PySem.W.Frag) : Sp := fun vs H Q _ => ∃ (p : Addr) (ls : List (List Str)) (W : List Addr), vs = [.ref p] ∧ LLAt K H p ls ∧ StrsOk ls ∧ ls.length ≤ 100 ∧ M.tot ls ≤ 1000 ∧ (∀ w ∈ W, MutO H w) ∧
  ∀ H' v r, Gr (tt K) H H' → M.Mg ls r → (r = none → v = V.non) → (∀ m, r = some m → ∃ q, v = V.ref q ∧ woL W H' q = some (.lst (sv m))) → Q v H'
theorem sc_merged : FnScope ["lists", "waiting", "found", "first", "rest", "one", "name"] ["lists"] (defScope s_merged) := ⟨rfl, rfl, rfl, by decide +kernel, rfl, by decide +kernel, by decide +kernel⟩
theorem ok_merged (c : Tx K mg base) : Ok P w K mg base 2 (ga K "merged") ["lists"] (spMerged K) := by
  refine Ok.mk' (fd_merged c) sc_merged (fun _ _ _ _ _ _ us hl => match us, hl with | [_], _ => rfl) (fun vs H Q E h => ?_) (fun cdv A outer s H vs Q E hr h => ?_)
  · obtain ⟨p, ls, W, rfl, _⟩ := h
    rfl
  · obtain ⟨p, ls, W, rfl, ⟨qs, hp, hq⟩, hs, hz, ht, hWm, k⟩ := h
    refine ⟨_, (pss_cons (ps_setLc (i := 1) (own := [("one", 5)]) (g := (gName 5)) rfl sc_merged.nd rfl rfl (sw_true rfl rfl rfl (by decide +kernel)) (piL K rfl (pv 0)) (blkOk_by (N := ["lists", "waiting", "found", "first", "rest", "one", "name"]) (sc := defScope s_merged) (by decide +kernel)) (fun _ _ _ _ _ => (pg_name (i := 5) sc_merged.nd rfl (by first | exact Or.inl rfl | exact Or.inr rfl))) (fun _ _ _ _ _ => by exact (pts_one (pt_cmpR (neDK K rfl hr.units) (pv 5) (pe_lst pa_nil) (nomark _)))) (fun _ _ _ _ _ => by exact (pe_callTy (listK K rfl) (by rfl) (n_list c) (by first | exact PySem.boot_list | exact boot_list | decide +kernel) (pa_cons (pv 5) pa_nil)))) (pss_cons (ps_set (i := 2) sc_merged.nd rfl (Or.inl rfl) (pe_lst pa_nil)) (pss_cons (ps_while PassesOwn.never (pt_cmpR (neDK K rfl hr.units) (pv 1) (pe_lst pa_nil) (nomark _)) (pss_cons (ps_forE PassesOwn.never rfl (piL K rfl (pv 1)) (pg_star (K := K) rfl rfl (pg_name (i := 3) sc_merged.nd rfl (Or.inr rfl)) (pg_name (i := 4) sc_merged.nd rfl (Or.inl rfl))) (pss_one (ps_if (pt_val ((ok_can_be_first c).call hr (by decide) (g_can_be_first c) (pa_cons (pv 3) (pa_cons (pv 1) pa_nil)))) (pss_one ps_break) pss_nil)) (pss_one (ps_ret pe_non))) (pss_cons (ps_expr (pe_bm PySem.F.plainAttrs_list PySem.F.slot_list_append PySem.F.type_list_append mt_append (pv 2) (pa_cons (pv 3) pa_nil))) (pss_cons (ps_setLc (i := 1) (own := [("one", 5)]) (g := (gName 5)) (tt := tYes) rfl sc_merged.nd rfl rfl (sw_true rfl rfl rfl (by decide +kernel)) (piL K rfl (pv 1)) (blkOk_by (N := ["lists", "waiting", "found", "first", "rest", "one", "name"]) (sc := defScope s_merged) (by decide +kernel)) (fun _ _ _ _ _ => (pg_name (i := 5) sc_merged.nd rfl (by first | exact Or.inl rfl | exact Or.inr rfl))) (fun _ _ _ _ _ => by exact pts_nil) (fun _ _ _ _ _ => by exact (pe_lc (own := [("name", 6)]) (g := (gName 6)) rfl sc_merged.nd (piL K rfl (pv 5)) (blkOk_by (N := ["lists", "waiting", "found", "first", "rest", "one", "name"]) (sc := (⟨.function, [(".0", .local), ("one", .local), ("first", .cell)], false, false, []⟩ : Scope)) (by decide +kernel)) (fun _ _ _ _ _ => (pg_name (i := 6) sc_merged.nd rfl (by first | exact Or.inl rfl | exact Or.inr rfl))) (fun _ _ _ _ _ => by exact (pts_one (pt_cmpR op_ne (pv 6) (pv 3) (nomark _)))) (fun _ _ _ _ _ => by exact (pv 6))))) (pss_one (ps_setLc (i := 1) (own := [("one", 5)]) (g := (gName 5)) rfl sc_merged.nd rfl rfl (sw_true rfl rfl rfl (by decide +kernel)) (piL K rfl (pv 1)) (blkOk_by (N := ["lists", "waiting", "found", "first", "rest", "one", "name"]) (sc := defScope s_merged) (by decide +kernel)) (fun _ _ _ _ _ => (pg_name (i := 5) sc_merged.nd rfl (by first | exact Or.inl rfl | exact Or.inr rfl))) (fun _ _ _ _ _ => by exact (pts_one (pt_cmpR (neDK K rfl hr.units) (pv 5) (pe_lst pa_nil) (nomark _)))) (fun _ _ _ _ _ => by exact (pv 5)))))))) (pss_one (ps_ret (pv 2)))))), ?_⟩
    have hqz : qs.length = ls.length := prd_len hq
    refine ⟨_, rfl, p, rfl, ⟨_, SqL.of hp⟩, fun D hD => ?_⟩
    refine lcR (T := tt K) (walk_list (K := K) (a := p) (xs := qs.map V.ref)) ls (by simp [hqz]) (Nat.le_trans hz (by decide)) (fun G l v => ∃ q, v = .ref q ∧ G q = some (.lst (sv l))) (fun l v H1 H2 g ⟨q, e, h⟩ => ⟨q, e, g.lst h⟩) (fun l => !l.isEmpty) hD (fun H' g => g.sqL (SqL.of hp)) (fun i l x H' H'' ys hi g hy y Kp Ks kp ks => ?_) (fun H1 ys g1 hl hys => ?_)
    · obtain ⟨rfl, hx⟩ := y
      obtain ⟨q, hqi, hm⟩ := prd_get hq hi
      rw [List.getElem?_map, hqi] at hx
      cases hx
      refine ⟨rfl, _, rfl, by show 0 ≤ sizeLine; decide, fun z hz => ?_⟩
      have gz : Gr (tt K) H (upd H'' z (.lst [])) := g.trans (Gr.new hz)
      refine ne_nilS (gz.sqL hm) (hs l (List.mem_of_getElem? hi)) upd_same ⟨_, rfl, ?_⟩
      show if (!l.isEmpty) = true then _ else _
      cases hc : (!l.isEmpty) with
      | true =>
        refine iteT ⟨_, rfl, q, _, rfl, .inl (gz.sqL hm), fun a ha => kp hc _ _ ((Gr.new hz).trans (Gr.new ha)) ⟨a, rfl, ?_⟩⟩
        rw [wo_ne, upd_same]
        intro e
        rw [e, (Gr.new (T := tt K) hz).lst hy] at ha
        cases ha
      | false => exact iteF (ks hc _ (Gr.new hz))
    · refine ⟨by show 0 ≤ sizeLine; decide, fun f hf => ?_⟩
      have hDf : D ≠ f := ne_of_none hl hf
      have gf : Gr (tt K) H (upd H1 f (.lst [])) := g1.trans (Gr.new hf)
      have hfH : ∀ v, H f = some v → ¬ NoTbl v := g1.fresh hf
      have hfW : f ∉ W := not_in (fun w hw => (hWm w hw).gr g1) hf
      have hL0 : LLf K (upd H1 f (.lst [])) f D (ls.filter fun l => !l.isEmpty) := by
        refine llf_of (by rw [upd_ne hDf]; exact hl) hDf (prd_mono hys fun v l ⟨q, e, h⟩ => ?_)
        have n := ne_of_none h hf
        exact ⟨q, e, n, SqL.of (by rw [upd_ne n]; exact h)⟩
      refine ⟨fun m σ H' => ∃ (w : Addr) (ls2 : List (List Str)) (fs : List Str) (x y : Option V), m = M.tot ls2 ∧ σ = [some (.ref p), some (.ref w), some (.ref f), x, y, none, none] ∧ Gr (tt K) H H' ∧ LLf K H' f w ls2 ∧ H' f = some (.lst (sv fs)) ∧
        (∀ l ∈ ls2, l ≠ []) ∧ StrsOk ls2 ∧ ls2.length ≤ 100 ∧ fs.length + M.tot ls2 ≤ 1000 ∧ ∀ r, M.Mg ls2 r → M.Mg ls (r.map (fs ++ ·)), ⟨_, D, _, [], none, none, rfl, rfl, gf, hL0, upd_same, ?_, ?_, ?_, ?_, ?_⟩, ?_⟩
      · intro l hl e
        have := (List.mem_filter.mp hl).2
        rw [e] at this
        cases this
      · exact fun l hl => hs l (List.mem_filter.mp hl).1
      · exact Nat.le_trans (List.length_filter_le _ _) hz
      · rw [M.tot_filter]
        simpa using ht
      · intro r hr
        have e : (r.map fun x => ([] : List Str) ++ x) = r := by cases r <;> rfl
        rw [e]
        refine hr.of_filter ?_
        rw [List.filter_filter]
        simp
      rintro m σ H' ⟨w, ls2, fs, x, y, rfl, rfl, g, hLL, hfs, hne, hso, h100, h1000, hmg⟩
      refine ⟨_, rfl, by show 0 ≤ sizeLine; decide, fun z hz => ?_⟩
      have gz : Gr (tt K) H' (upd H' z (.lst [])) := Gr.new hz
      refine ne_nilL (hLL.at.mono gz) hso upd_same ⟨_, rfl, ?_⟩
      cases ls2 with
      | nil =>
        refine iteF ⟨_, rfl, ?_⟩
        refine k _ _ _ (g.trans gz) (hmg _ (.done fun l hl => by cases hl)) (fun e => by cases e) fun m e => ⟨f, rfl, ?_⟩
        cases e
        show _ = some (HO.lst (sv (fs ++ [])))
        rw [woL_out hfW, gz.lst hfs, List.append_nil]
      | cons l0 ls3 =>
        refine iteT ⟨fun σ' H' => ∃ m', m' < M.tot (l0 :: ls3) ∧ _, fun _ _ h => h, ?_⟩
        generalize hls : l0 :: ls3 = ls2 at *
        have hLLz := hLL.mono gz
        generalize upd H' z (.lst []) = H2 at gz hLLz ⊢
        obtain ⟨qs2, hw2, hwf, hq2⟩ := hLLz
        have hqz2 : qs2.length = ls2.length := prd_len hq2
        refine ⟨_, rfl, w, rfl, ⟨_, SqL.of hw2⟩, ?_⟩
        refine elseW (walk_list (K := K) (a := w) (xs := qs2.map V.ref)) (fun i σ H3 => Gr (tt K) H2 H3 ∧ (∀ j < i, ∀ l, ls2[j]? = some l → ∀ y, l.head? = some y → M.goodH ls2 y = false) ∧ ∃ x y, σ = [some (.ref p), some (.ref w), some (.ref f), x, y, none, none])
          ⟨Gr.refl _, fun j hj => absurd hj (Nat.not_lt_zero _), _, _, rfl⟩ (fun i σ H3 _ h => h.1.sqL (SqL.of hw2)) ?_ ?_
        · rintro i xv σ H3 H3' hi ⟨g3, hbad, x', y', rfl⟩ ⟨rfl, hx⟩
          rw [List.length_map] at hi
          obtain ⟨q, hqi⟩ : ∃ q, qs2[i]? = some q := ⟨qs2[i], List.getElem?_eq_getElem hi⟩
          obtain ⟨l, hli, hqf, hql⟩ := prd_getL hq2 hqi
          rw [List.getElem?_map, hqi] at hx
          cases hx
          have hlm := List.mem_of_getElem? hli
          cases l with
          | nil => exact absurd rfl (hne _ hlm)
          | cons a r =>
            have hrz : (a :: r).length ≤ 1000 := Nat.le_trans (M.len_tot hlm) (by omega)
            refine ⟨q, .str a, sv r, rfl, g3.sqL hql, by simp [sv] at hrz ⊢; omega, fun D4 hD4 => ?_⟩
            have g4 : Gr (tt K) H2 (upd H3' D4 (.lst (sv r))) := g3.trans (Gr.new hD4)
            generalize upd H3' D4 (.lst (sv r)) = H4 at g4 ⊢
            refine ⟨_, rfl, _, rfl, a, w, ls2, rfl, hLL.at.mono (gz.trans g4), h100, fun H5 g5 => ⟨_, rfl, ?_⟩⟩
            cases hgood : M.goodH ls2 a with
            | false =>
              refine iteF ⟨g4.trans g5, fun j hj l' hl' y hy => ?_, _, _, rfl⟩
              by_cases hji : j = i
              · subst hji
                rw [hli] at hl'
                cases hl'
                cases hy
                exact hgood
              · exact hbad j (by omega) l' hl' y hy
            | true =>
              refine iteT ?_
              have hst := mstep_at hli hgood hbad
              have g25 := g4.trans g5
              have gH5 := (g.trans gz).trans g25
              have hf5 := (gz.trans g25).lst hfs
              have ham : ∃ l ∈ ls2, a ∈ l := ⟨_, hlm, List.mem_cons_self⟩
              have htl := M.tot_lt ham
              refine ⟨_, rfl, .inl ⟨rfl, _, SqL.of hf5⟩, _, rfl, f, _, _, rfl, rfl, hf5, ?_, ?_⟩
              · rw [sv_len]
                exact Nat.lt_of_lt_of_le (show fs.length < 1001 by omega) (by decide)
              have hLL6 := (hLL.mono (gz.trans g25)).upd (o := .lst (sv fs ++ [.str a]))
              have g6 : Gr (tt K) H (upd H5 f (.lst (sv fs ++ [.str a]))) := gH5.appd hfH hf5
              have hf6 : upd H5 f (.lst (sv fs ++ [.str a])) f = some (.lst (sv (fs ++ [a]))) := by
                rw [upd_same]
                unfold sv
                rw [List.map_append] <;> rfl
              generalize upd H5 f (.lst (sv fs ++ [.str a])) = H6 at hLL6 g6 hf6 ⊢
              obtain ⟨qs6, hw6, _, hq6⟩ := hLL6
              have hqz6 : qs6.length = ls2.length := prd_len hq6
              refine ⟨_, rfl, w, rfl, ⟨_, SqL.of hw6⟩, fun D1 hD1 => ?_⟩
              refine lcR (T := tt K) (walk_list (K := K) (a := w) (xs := qs6.map V.ref)) ls2 (by simp [hqz6]) (Nat.le_trans h100 (by decide)) (fun G l v => ∃ q, v = .ref q ∧ q ≠ f ∧ SqL K G q (sv (l.filter fun n => decide (n ≠ a)))) (fun l v H1 H2 g ⟨q, e, n, h⟩ => ⟨q, e, n, g.sqL h⟩) (fun _ => true) hD1 (fun H' g => g.sqL (SqL.of hw6)) (fun j l xv H7 H7' ys hj g7 hy7 y Kp Ks kp ks => ?_) (fun H7 ys g7 hl7 hys7 => ?_)
              · obtain ⟨rfl, hx⟩ := y
                obtain ⟨q7, hqj, hq7f, hq7⟩ := prd_get hq6 hj
                rw [List.getElem?_map, hqj] at hx
                cases hx
                refine ⟨rfl, yesT ⟨_, rfl, q7, rfl, ⟨_, g7.sqL hq7⟩, fun D2 hD2 => ?_⟩⟩
                refine lcL (T := tt K) V.str l (g7.sqL hq7) ?_ V.str (fun n => decide (n ≠ a)) hD2 (fun n hn H8 g8 Kp8 Ks8 kp8 ks8 => ?_) (fun H8 g8 hl8 => ?_)
                · exact Nat.le_trans (M.len_tot (List.mem_of_getElem? hj)) (by omega)
                · refine ⟨rfl, _, rfl, _, rfl, rfl, _, rfl, ?_⟩
                  have e0 : (!decide (V.str n = V.str a)) = decide (n ≠ a) := by
                    by_cases e : n = a <;> simp [e]
                  rw [e0]
                  cases hc : decide (n ≠ a) with
                  | true => exact iteT ⟨_, rfl, kp8 hc _ (Gr.refl _)⟩
                  | false => exact iteF (ks8 hc _ (Gr.refl _))
                · have hD2D : D2 ≠ D1 := (ne_of_none hy7 hD2).symm
                  have hD2f : D2 ≠ f := (ne_of_none (g7.lst hf6) hD2).symm
                  refine kp rfl _ _ g8 ⟨D2, rfl, hD2f, ?_⟩
                  exact sqL_wo hD2D (SqL.of hl8)
              · have hD1f : D1 ≠ f := (ne_of_none hf6 hD1).symm
                have hLL7 : LLf K H7 f D1 (M.without a ls2) := by
                  refine llf_of hl7 hD1f ?_
                  rw [filter_yes] at hys7
                  unfold M.without
                  exact prd_mapR hys7
                have hf7 := g7.lst hf6
                have gH7 := g6.trans g7
                obtain ⟨qs7, hw7, _, hq7⟩ := hLL7
                have hqz7 : qs7.length = (M.without a ls2).length := prd_len hq7
                have hso7 := hso.without a
                have hwl : (M.without a ls2).length = ls2.length := by simp [M.without]
                have hwl100 : (M.without a ls2).length ≤ 100 := by rw [hwl]; exact h100
                generalize hM7 : M.without a ls2 = ls7 at *
                refine ⟨_, rfl, D1, rfl, ⟨_, SqL.of hw7⟩, fun D3 hD3 => ?_⟩
                refine lcR (T := tt K) (walk_list (K := K) (a := D1) (xs := qs7.map V.ref)) ls7 (by simp [hqz7]) (Nat.le_trans hwl100 (by decide)) (fun G l v => ∃ q, v = .ref q ∧ q ≠ f ∧ SqL K G q (sv l)) (fun l v H1 H2 g ⟨q, e, n, h⟩ => ⟨q, e, n, g.sqL h⟩) (fun l => !l.isEmpty) hD3 (fun H' g => g.sqL (SqL.of hw7)) (fun j l xv H8 H8' ys8 hj g8 hy8 y Kp Ks kp ks => ?_) (fun H8 ys8 g8 hl8 hys8 => ?_)
                · obtain ⟨rfl, hx⟩ := y
                  obtain ⟨q7, hqj, hq7f, hq7'⟩ := prd_get hq7 hj
                  rw [List.getElem?_map, hqj] at hx
                  cases hx
                  refine ⟨rfl, _, rfl, by show 0 ≤ sizeLine; decide, fun z hz => ?_⟩
                  have gz8 : Gr (tt K) H7 (upd H8' z (.lst [])) := g8.trans (Gr.new hz)
                  refine ne_nilS (gz8.sqL hq7') (hso7 l (List.mem_of_getElem? hj)) upd_same ⟨_, rfl, ?_⟩
                  show if (!l.isEmpty) = true then _ else _
                  have hq7D : SqL K (wo D3 (upd H8' z (.lst []))) q7 (sv l) := (((Gr.wo g8 hD3 hy8).trans (Gr.wo2 (Gr.new hz) ((Gr.new (T := tt K) hz).lst hy8)))).sqL hq7'
                  cases hc : (!l.isEmpty) with
                  | true => exact iteT ⟨_, rfl, kp hc _ _ (Gr.new hz) ⟨q7, rfl, hq7f, hq7D⟩⟩
                  | false => exact iteF (ks hc _ (Gr.new hz))
                · have hD3f : D3 ≠ f := (ne_of_none hf7 hD3).symm
                  refine ⟨M.tot (ls7.filter fun l => !l.isEmpty), by rw [M.tot_filter]; exact htl, D3, _, fs ++ [a], _, _, rfl, rfl, gH7.trans g8, llf_of hl8 hD3f hys8, g8.lst hf7, ?_, ?_, ?_, ?_, ?_⟩
                  · intro l hl e
                    have := (List.mem_filter.mp hl).2
                    rw [e] at this
                    cases this
                  · exact fun l hl => hso7 l (List.mem_filter.mp hl).1
                  · exact Nat.le_trans (List.length_filter_le _ _) hwl100
                  · rw [M.tot_filter, List.length_append]
                    show fs.length + 1 + _ ≤ 1000
                    omega
                  · intro r hr
                    have h1 : M.Mg ls7 r := hr.of_filter (by rw [List.filter_filter]; simp)
                    rw [← hM7] at h1
                    have h2 := hmg _ (.step hst h1)
                    cases r with
                    | none => exact h2
                    | some m =>
                      have e : (fs ++ [a]) ++ m = fs ++ (a :: m) := by simp
                      show M.Mg ls (some ((fs ++ [a]) ++ m))
                      rw [e]
                      exact h2
        · rintro σ H3 ⟨g3, hbad, _⟩
          rw [List.length_map, hqz2] at hbad
          exact k _ _ none ((g.trans gz).trans g3) (hmg none (.stuck (fun z => hne l0 (by rw [← hls]; simp) (z l0 (by rw [← hls]; simp))) (mstep_no hbad))) (fun _ => rfl) (fun m e => by cases e)
end
end SW


set_option maxHeartbeats 2000000
namespace SW
open PySem PySem.Spec PyProof.Rows L2 He LamX NdefX
open SW.M (Ent Tb Oc)
/-! ## entries -/
theorem gr_sub {B : Tbs} {W W' : List Addr} {H : Hp} (h : ∀ b ∈ W', b ∈ W) : Gr B (woL W H) (woL W' H) := by
  have e : ∀ b u, woL W H b = some u → woL W' H b = some u := fun b u q => by
    obtain ⟨h1, h2⟩ := of_woL q
    rw [woL_out fun z => h1 (h b z)]
    exact h2
  exact ⟨ExtN.of e, fun t => t.ext e⟩
theorem woL_cons {x : Addr} {W : List Addr} {G : Hp} (hxW : x ∉ W) : woL (x :: W) G = woL W (woL [x] G) := by
  funext b
  by_cases h1 : b = x
  · subst h1
    rw [woL_in (by simp), woL_out hxW, woL_in (by simp)]
  · by_cases h2 : b ∈ W
    · rw [woL_in (by simp [h2]), woL_in h2]
    · rw [woL_out (by simp [h1, h2]), woL_out h2, woL_out (by simp [h1])]
def rDictP (K : PySem.W.Frag) : List V → Hp → VK → Prop := fun xs H Q => ∃ (a : Addr) (ps : List Addr) (kvs : List (Key × V)), xs = [.ref a] ∧ SqL K H a (ps.map V.ref) ∧ Paired (fun p kv => SqT K H p [kV kv.1, kv.2]) ps kvs ∧ ∀ p, H p = none → Q (.ref p) (upd H p (.dK (mergeK [] kvs)))
theorem dictPK {X : Cx} (K : PySem.W.Frag) (hK : X.K = K) (hc : X.calm = true) : CallR X (.type "dict") (rDictP K) := by
  subst hK
  exact call_dictP hc
/-- pairs with other keys each -/
theorem mergeK_nd : ∀ {more kvs : List (Key × V)}, ((kvs ++ more).map (·.1)).Nodup → mergeK kvs more = kvs ++ more
  | [], kvs, _ => by simp [mergeK]
  | p :: more, kvs, h => by
    have e : mergeK kvs (p :: more) = mergeK (putK kvs p.1 p.2) more := rfl
    have hn : valV kvs p.1 = none := by
      cases q : valV kvs p.1 with
      | none => rfl
      | some v =>
        exfalso
        have h1 : (valV kvs p.1).isSome = true := by rw [q] <;> rfl
        rw [← valV_any] at h1
        obtain ⟨z, hz, hz2⟩ := List.any_eq_true.mp h1
        have hz3 : z.1 = p.1 := of_decide_eq_true hz2
        rw [List.map_append, List.nodup_append] at h
        exact h.2.2 z.1 (List.mem_map.mpr ⟨z, hz, rfl⟩) p.1 (by simp) hz3
    rw [e, putK_new _ hn, mergeK_nd (by simpa using h)]
    simp
theorem nd_inr : ∀ {xs : List Str}, xs.Nodup → (xs.map (Sum.inr : Str → Key)).Nodup
  | [], _ => List.nodup_nil
  | x :: xs, h => by
    obtain ⟨h1, h2⟩ := List.nodup_cons.mp h
    refine List.nodup_cons.mpr ⟨fun z => ?_, nd_inr h2⟩
    obtain ⟨y, hy, e⟩ := List.mem_map.mp z
    exact h1 (by rw [← Sum.inr.inj e]; exact hy)
theorem mergeK_marks {ms : List (Str × Str)} (h : (ms.map (·.1)).Nodup) : mergeK [] (marksKV ms) = marksKV ms := by
  rw [mergeK_nd]
  · rfl
  · rw [List.nil_append]
    unfold marksKV
    rw [List.map_map]
    have e : ((fun x : Key × V => x.1) ∘ fun p : Str × Str => ((Sum.inr p.1 : Key), V.str p.2)) = Sum.inr ∘ (·.1) := rfl
    rw [e, ← List.map_map]
    exact nd_inr h
theorem PairsAt.dict {K : PySem.W.Frag} {H : Hp} {p : Addr} {ms : List (Str × Str)} (h : PairsAt H p ms) : ∃ ps : List Addr, SqL K H p (ps.map V.ref) ∧ Paired (fun p kv => SqT K H p [kV kv.1, kv.2]) ps (marksKV ms) := by
  obtain ⟨xs, h1, h2⟩ := h
  have : ∃ qs : List Addr, xs = qs.map V.ref ∧ Paired (fun p kv => SqT K H p [kV kv.1, kv.2]) qs (marksKV ms) := by
    clear h1
    induction h2 with
    | nil => exact ⟨[], rfl, .nil⟩
    | cons r _ ih =>
      obtain ⟨a, e, r⟩ := r
      obtain ⟨qs, e2, r3⟩ := ih
      subst e e2
      exact ⟨a :: qs, rfl, .cons (SqT.of r) r3⟩
  obtain ⟨qs, rfl, h3⟩ := this
  exact ⟨qs, SqL.of h1, h3⟩
section
variable {P : Program} {w : World} {K : PySem.W.Frag} {mg : Str → Option Value} {base : Heap}
def spEntInit (K : PySem.W.Frag) : Sp := fun vs H Q _ => ∃ (x dx : Addr) (E : En) (pa mp lo : Addr) (hv : V) (W : List Addr), vs = [.ref x, .str E.label, .ref pa, .bl E.own, .ref mp, hv, .bl E.passed, .ref lo] ∧ H x = some (.ins (ga K "Entry") dx []) ∧ (∀ w ∈ W, MutO (woL [x] H) w) ∧
  woL (x :: W) H pa = some (.tup (sv E.parents)) ∧ PairsAt (woL [x] H) mp E.marks ∧ (E.marks.map (·.1)).Nodup ∧ HookAt (woL (x :: W) H) hv E.hook ∧ woL [x] H lo = some (.lst (sv E.line)) ∧
  ∀ H', Gr (tt K) (woL [x] H) (woL [x] H') → EntAt K (woL W H') x E → Q .non H'
theorem sc_Entry_init : FnScope ["self", "name", "bases", "own_sworn", "marks", "hook", "passed", "order"] ["self", "name", "bases", "own_sworn", "marks", "hook", "passed", "order"] (defScope s_Entry_init) := ⟨rfl, rfl, rfl, by decide +kernel, rfl, by decide +kernel, by decide +kernel⟩
theorem ok_Entry_init (c : Tx K mg base) : Ok P w K mg base 1 (ma K (ga K "Entry") "__init__") ["self", "name", "bases", "own_sworn", "marks", "hook", "passed", "order"] (spEntInit K) := by
  refine Ok.mk' (fd_Entry_init c) sc_Entry_init (fun _ _ _ _ _ _ us hl => match us, hl with | [_, _, _, _, _, _, _, _], _ => rfl) (fun vs H Q E h => ?_) (fun cdv A outer s H vs Q E hr h => ?_)
  · obtain ⟨x, dx, E, pa, mp, lo, hv, W, rfl, _⟩ := h
    rfl
  · obtain ⟨x, dx, E, pa, mp, lo, hv, W, rfl, hx, hW, hpa, hmp, hnd, hhv, hlo, k⟩ := h
    refine ⟨_, (pss_cons (ps_fld (pv 0) (pv 1) rfl) (pss_cons (ps_fld (pv 0) (pe_callTy (tupK K rfl) (by rfl) (n_tuple c) (by first | exact PySem.boot_tuple | exact boot_tuple | decide +kernel) (pa_cons (pv 2) pa_nil)) rfl) (pss_cons (ps_fld (pv 0) (pv 3) rfl) (pss_cons (ps_fld (pv 0) (pe_callTy (dictPK K rfl rfl) (by rfl) (n_dict c) (by first | exact PySem.boot_dict | exact boot_dict | decide +kernel) (pa_cons (pv 4) pa_nil)) rfl) (pss_cons (ps_fld (pv 0) (pv 5) rfl) (pss_cons (ps_fld (pv 0) (pv 6) rfl) (pss_one (ps_fld (pv 0) (pe_callTy (listK K rfl) (by rfl) (n_list c) (by first | exact PySem.boot_list | exact boot_list | decide +kernel) (pa_cons (pv 7) pa_nil)) rfl)))))))), ?_⟩
    have st : ∀ {H1 : Hp} {fs' : List (Str × V)}, Gr (tt K) (woL [x] H) (woL [x] H1) → Gr (tt K) (woL [x] H) (woL [x] (upd H1 x (.ins (ga K "Entry") dx fs'))) := fun g => by
      rw [woL_upd (by simp)]
      exact g
    have out : ∀ {H1 : Hp}, Gr (tt K) (woL [x] H) (woL [x] H1) → Gr (tt K) (woL [x] H) H1 := fun g => g.trans gr_of_woL
    have hpa1 : woL [x] H pa = some (.tup (sv E.parents)) := (gr_sub (B := tt K) (W := x :: W) (W' := [x]) (by simp)).tup hpa
    have hxW : x ∉ W := fun z => by
      obtain ⟨o, h, _⟩ := hW x z
      exact (of_woL h).1 (by simp)
    have notW : ∀ {H1 : Hp} {a : Addr}, Gr (tt K) (woL [x] H) (woL [x] H1) → H1 a = none → a ∉ W := fun g ha z => by
      obtain ⟨o, h, _⟩ := (hW _ z).gr (out g)
      rw [ha] at h
      cases h
    refine ⟨_, rfl, _, rfl, x, _, dx, _, rfl, hx, cl_Entry c, na_Entry_label c, by decide, ?_⟩
    have g1 := st (fs' := putF "label" (.str E.label) []) (Gr.refl (woL [x] H))
    have h1 : upd H x (.ins (ga K "Entry") dx (putF "label" (.str E.label) [])) x = some (.ins (ga K "Entry") dx [("label", .str E.label)]) := upd_same
    generalize upd H x (.ins (ga K "Entry") dx (putF "label" (.str E.label) [])) = H1 at g1 h1 ⊢
    refine ⟨_, rfl, pa, _, rfl, .inr ⟨SqT.of ((out g1).tup hpa1), ?_⟩⟩
    refine ⟨_, rfl, x, _, dx, _, rfl, h1, cl_Entry c, na_Entry_parents c, by show 1 < 1000; decide, ?_⟩
    have g2 := st (fs' := putF "parents" (.ref pa) [("label", .str E.label)]) g1
    have h2 : upd H1 x (.ins (ga K "Entry") dx (putF "parents" (.ref pa) [("label", .str E.label)])) x = some (.ins (ga K "Entry") dx [("label", .str E.label), ("parents", .ref pa)]) := upd_same
    generalize upd H1 x (.ins (ga K "Entry") dx (putF "parents" (.ref pa) [("label", .str E.label)])) = H2 at g2 h2 ⊢
    refine ⟨_, rfl, _, rfl, x, _, dx, _, rfl, h2, cl_Entry c, na_Entry_own_sworn c, by show 2 < 1000; decide, ?_⟩
    have g3 := st (fs' := putF "own_sworn" (.bl E.own) [("label", .str E.label), ("parents", .ref pa)]) g2
    have h3 : upd H2 x (.ins (ga K "Entry") dx (putF "own_sworn" (.bl E.own) [("label", .str E.label), ("parents", .ref pa)])) x = some (.ins (ga K "Entry") dx [("label", .str E.label), ("parents", .ref pa), ("own_sworn", .bl E.own)]) := upd_same
    generalize upd H2 x (.ins (ga K "Entry") dx (putF "own_sworn" (.bl E.own) [("label", .str E.label), ("parents", .ref pa)])) = H3 at g3 h3 ⊢
    obtain ⟨ps, d1, d2⟩ := (hmp.mono (out g3)).dict (K := K)
    refine ⟨_, rfl, mp, ps, _, rfl, d1, d2, fun md hmd => ?_⟩
    rw [mergeK_marks hnd]
    have hxm : x ≠ md := ne_of_none h3 hmd
    have hmW := notW g3 hmd
    have g4 : Gr (tt K) (woL [x] H) (woL [x] (upd H3 md (.dK (marksKV E.marks)))) := g3.trans (Gr.newW hmd (by simp [hxm.symm]))
    have h4 : upd H3 md (.dK (marksKV E.marks)) x = some (.ins (ga K "Entry") dx [("label", .str E.label), ("parents", .ref pa), ("own_sworn", .bl E.own)]) := by rw [upd_ne hxm]; exact h3
    have m4 : woL [x] (upd H3 md (.dK (marksKV E.marks))) md = some (.dK (marksKV E.marks)) := by rw [woL_out (by simp [hxm.symm]), upd_same]
    generalize upd H3 md (.dK (marksKV E.marks)) = H4 at g4 h4 m4 ⊢
    refine ⟨_, rfl, x, _, dx, _, rfl, h4, cl_Entry c, na_Entry_given_marks c, by show 3 < 1000; decide, ?_⟩
    have g5 := st (fs' := putF "given_marks" (.ref md) [("label", .str E.label), ("parents", .ref pa), ("own_sworn", .bl E.own)]) g4
    have h5 : upd H4 x (.ins (ga K "Entry") dx (putF "given_marks" (.ref md) [("label", .str E.label), ("parents", .ref pa), ("own_sworn", .bl E.own)])) x = some (.ins (ga K "Entry") dx [("label", .str E.label), ("parents", .ref pa), ("own_sworn", .bl E.own), ("given_marks", .ref md)]) := upd_same
    have m5 : woL [x] (upd H4 x (.ins (ga K "Entry") dx (putF "given_marks" (.ref md) [("label", .str E.label), ("parents", .ref pa), ("own_sworn", .bl E.own)]))) md = some (.dK (marksKV E.marks)) := by rw [woL_upd (by simp)]; exact m4
    generalize upd H4 x (.ins (ga K "Entry") dx (putF "given_marks" (.ref md) [("label", .str E.label), ("parents", .ref pa), ("own_sworn", .bl E.own)])) = H5 at g5 h5 m5 ⊢
    refine ⟨_, rfl, _, rfl, x, _, dx, _, rfl, h5, cl_Entry c, na_Entry_own_hook c, by show 4 < 1000; decide, ?_⟩
    have g6 := st (fs' := putF "own_hook" hv [("label", .str E.label), ("parents", .ref pa), ("own_sworn", .bl E.own), ("given_marks", .ref md)]) g5
    have h6 : upd H5 x (.ins (ga K "Entry") dx (putF "own_hook" hv [("label", .str E.label), ("parents", .ref pa), ("own_sworn", .bl E.own), ("given_marks", .ref md)])) x = some (.ins (ga K "Entry") dx [("label", .str E.label), ("parents", .ref pa), ("own_sworn", .bl E.own), ("given_marks", .ref md), ("own_hook", hv)]) := upd_same
    have m6 : woL [x] (upd H5 x (.ins (ga K "Entry") dx (putF "own_hook" hv [("label", .str E.label), ("parents", .ref pa), ("own_sworn", .bl E.own), ("given_marks", .ref md)]))) md = some (.dK (marksKV E.marks)) := by rw [woL_upd (by simp)]; exact m5
    generalize upd H5 x (.ins (ga K "Entry") dx (putF "own_hook" hv [("label", .str E.label), ("parents", .ref pa), ("own_sworn", .bl E.own), ("given_marks", .ref md)])) = H6 at g6 h6 m6 ⊢
    refine ⟨_, rfl, _, rfl, x, _, dx, _, rfl, h6, cl_Entry c, na_Entry_passed_on c, by show 5 < 1000; decide, ?_⟩
    have g7 := st (fs' := putF "passed_on" (.bl E.passed) [("label", .str E.label), ("parents", .ref pa), ("own_sworn", .bl E.own), ("given_marks", .ref md), ("own_hook", hv)]) g6
    have h7 : upd H6 x (.ins (ga K "Entry") dx (putF "passed_on" (.bl E.passed) [("label", .str E.label), ("parents", .ref pa), ("own_sworn", .bl E.own), ("given_marks", .ref md), ("own_hook", hv)])) x = some (.ins (ga K "Entry") dx [("label", .str E.label), ("parents", .ref pa), ("own_sworn", .bl E.own), ("given_marks", .ref md), ("own_hook", hv), ("passed_on", .bl E.passed)]) := upd_same
    have m7 : woL [x] (upd H6 x (.ins (ga K "Entry") dx (putF "passed_on" (.bl E.passed) [("label", .str E.label), ("parents", .ref pa), ("own_sworn", .bl E.own), ("given_marks", .ref md), ("own_hook", hv)]))) md = some (.dK (marksKV E.marks)) := by rw [woL_upd (by simp)]; exact m6
    generalize upd H6 x (.ins (ga K "Entry") dx (putF "passed_on" (.bl E.passed) [("label", .str E.label), ("parents", .ref pa), ("own_sworn", .bl E.own), ("given_marks", .ref md), ("own_hook", hv)])) = H7 at g7 h7 m7 ⊢
    refine ⟨_, rfl, lo, _, rfl, .inl (SqL.of ((out g7).lst hlo)), fun ll hll => ?_⟩
    have hxl : x ≠ ll := ne_of_none h7 hll
    have hlW := notW g7 hll
    have g8 : Gr (tt K) (woL [x] H7) (woL [x] (upd H7 ll (.lst (sv E.line)))) := Gr.newW hll (by simp [hxl.symm])
    have h8 : upd H7 ll (.lst (sv E.line)) x = some (.ins (ga K "Entry") dx [("label", .str E.label), ("parents", .ref pa), ("own_sworn", .bl E.own), ("given_marks", .ref md), ("own_hook", hv), ("passed_on", .bl E.passed)]) := by rw [upd_ne hxl]; exact h7
    have l8 : upd H7 ll (.lst (sv E.line)) ll = some (.lst (sv E.line)) := upd_same
    generalize upd H7 ll (.lst (sv E.line)) = H8 at g8 h8 l8 ⊢
    refine ⟨_, rfl, x, _, dx, _, rfl, h8, cl_Entry c, na_Entry_line c, by show 6 < 1000; decide, ?_⟩
    have g78 := g7.trans g8
    have e9 : woL [x] (upd H8 x (.ins (ga K "Entry") dx (entF E pa md ll hv))) = woL [x] H8 := woL_upd (by simp)
    have g9 : Gr (tt K) (woL (x :: W) H) (woL W (upd H8 x (.ins (ga K "Entry") dx (entF E pa md ll hv)))) := by
      refine Gr.trans ?_ (gr_sub (W := x :: W) fun b hb => List.mem_cons_of_mem _ hb)
      rw [woL_cons hxW, woL_cons hxW, e9]
      exact g78.woL fun w hw => (hW w hw).gr g78
    have en : woL W (upd H8 x (.ins (ga K "Entry") dx (entF E pa md ll hv))) x = some (.ins (ga K "Entry") dx (entF E pa md ll hv)) := by rw [woL_out hxW, upd_same]
    refine k _ (by rw [show putF "line" (V.ref ll) [("label", V.str E.label), ("parents", .ref pa), ("own_sworn", .bl E.own), ("given_marks", .ref md), ("own_hook", hv), ("passed_on", .bl E.passed)] = entF E pa md ll hv from rfl, e9]; exact g78) ⟨dx, pa, md, ll, hv, en, g9.tup hpa, ?_, hhv.mono g9, ?_⟩
    · have z := g8.dK m7
      rw [← e9] at z
      rw [woL_out hmW]
      exact (of_woL z).2
    · rw [woL_out hlW, upd_ne hxl.symm]
      exact l8
end
end SW


set_option maxHeartbeats 2000000
namespace SW
open PySem PySem.Spec PyProof.Rows L2 He LamX NdefX
open SW.M (Ent Tb Oc)
/-- a class that can be made behind es -/
structure EntOk (es : List En) (E : En) : Prop extends M.LnOk es E where
  name : NameOk E.label
  pnd : E.parents.Nodup
  pfew : E.parents.length ≤ 3
  marks : MarksOk E.marks
  hook : ∀ cl, E.hook = some cl → HookOk cl ∧ (E.own = true ∨ ∃ b ∈ E.parents, M.sworn es b = true)
  pass : E.hook = none → E.passed = false
def NamesOk (es : List En) : Prop := ∀ n ∈ M.names es, NameOk n
abbrev Mades (es : List En) : Prop := M.Built EntOk es
theorem Mades.facts {es : List En} (h : Mades es) : M.LnFacts es := M.Built.facts (fun _ _ r => r.toLnOk) h
theorem Mades.nameOk {es : List En} (h : Mades es) {n : Str} (hn : n ∈ M.names es) : NameOk n := by
  obtain ⟨E, hE, rfl⟩ := List.mem_map.mp hn
  obtain ⟨i, _, r⟩ := M.Built.all h hE
  exact r.name
theorem Mades.ent {es : List En} (h : Mades es) {E : En} (hE : E ∈ es) : ∃ es', EntOk es' E := by
  obtain ⟨i, _, r⟩ := M.Built.all h hE
  exact ⟨_, r⟩
theorem find_mem {es : List En} {n : Str} {E : En} (h : M.find es n = some E) : E ∈ es ∧ E.label = n := by
  unfold M.find at h
  have h1 := List.mem_of_find?_eq_some h
  have h2 := List.find?_some h
  exact ⟨h1, of_decide_eq_true h2⟩
theorem Mades.hk {es : List En} (h : Mades es) {n : Str} {cl} (e : M.hookOf es n = some cl) : HookOk cl := by
  unfold M.hookOf at e
  cases q : M.find es n with
  | none =>
    rw [q] at e
    cases e
  | some E =>
    rw [q] at e
    obtain ⟨es', r⟩ := h.ent (find_mem q).1
    exact (r.hook cl e).1
theorem Mades.wf {es : List En} (h : Mades es) (hz : es.length ≤ 12) : Wf es where
  nd := h.facts.nd
  sub := h.facts.sub
  few := by unfold M.names; rw [List.length_map]; exact hz
  short := fun n => Nat.le_trans (h.facts.short n) (by unfold M.names; rw [List.length_map]; exact hz)
  hk := fun n cl e => by
    obtain ⟨_, h1, h2⟩ := h.hk e
    exact ⟨h1, fun c hc => (h2 c hc).2.2⟩
theorem tot_app (a b : List (List Str)) : M.tot (a ++ b) = M.tot a + M.tot b := by
  unfold M.tot
  rw [List.map_append, List.sum_append]
theorem tot_short {ls : List (List Str)} {n : Nat} (h : ∀ l ∈ ls, l.length ≤ n) : M.tot ls ≤ ls.length * n := by
  induction ls with
  | nil => exact Nat.zero_le _
  | cons a r ih =>
    have h1 := h a List.mem_cons_self
    have h2 := ih fun l hl => h l (List.mem_cons_of_mem _ hl)
    unfold M.tot at h2 ⊢
    rw [List.map_cons, List.sum_cons, List.length_cons, Nat.succ_mul]
    omega
theorem dget_mono {B : Tbs} {H H' : Hp} {a : Addr} {n : Str} {r : Option V} (g : Gr B H H') (h : DGet H a (.str n) r) : DGet H' a (.str n) r := by
  rcases h with ⟨kvs, k, h1, h2, h3⟩ | ⟨kvs, k, b, h1, h2, h3⟩
  · exact .inl ⟨kvs, k, g.rd nt_dK h1, h2, h3⟩
  · cases h2
theorem orv {own : Bool} {H5 : Hp} {te : VK → Prop} {X : VK} (Pre : Bool → Hp → Prop) (h1 : own = true → Pre true H5) (h2 : own = false → ∀ Y : VK, (∀ b H6, Pre b H6 → Y (.bl b) H6) → te Y) (h3 : ∀ b H6, Pre b H6 → X (.bl b) H6) : if own = true then X (.bl true) H5 else te X := by
  cases own with
  | true => exact h3 true H5 (h1 rfl)
  | false => exact h2 rfl X h3
/-- the lists that are merged for a class -/
def mlists (es : List En) (ps : List Str) : List (List Str) := ps.map (M.line es) ++ [ps]
section
variable {P : Program} {w : World} {K : PySem.W.Frag} {mg : Str → Option Value} {base : Heap}
def spNewE (K : PySem.W.Frag) : Sp := fun vs H Q _ => ∃ (t : Addr) (T : Tb Str) (E : En) (bp mp : Addr) (hv : V) (W : List Addr), vs = [.ref t, .str E.label, .ref bp, .bl E.own, .ref mp, hv, .bl E.passed] ∧ TabAt K H t T ∧ Mades T.es ∧ T.es.length ≤ 12 ∧ EntOk T.es E ∧
  (∀ w ∈ W, MutO H w) ∧ woL W H bp = some (.tup (sv E.parents)) ∧ PairsAt H mp E.marks ∧ HookAt (woL W H) hv E.hook ∧ ∀ H' e, Gr (tt K) H H' → EntAt K (woL W H') e E → Q (.ref e) H'
theorem sc_new_entry : FnScope ["table", "name", "bases", "sworn", "marks", "hook", "passed", "behind", "base"] ["table", "name", "bases", "sworn", "marks", "hook", "passed"] (defScope s_new_entry) := ⟨rfl, rfl, rfl, by decide +kernel, rfl, by decide +kernel, by decide +kernel⟩
theorem ok_new_entry (c : Tx K mg base) : Ok P w K mg base 5 (ga K "new_entry") ["table", "name", "bases", "sworn", "marks", "hook", "passed"] (spNewE K) := by
  refine Ok.mk' (fd_new_entry c) sc_new_entry (fun _ _ _ _ _ _ us hl => match us, hl with | [_, _, _, _, _, _, _], _ => rfl) (fun vs H Q E h => ?_) (fun cdv A outer s H vs Q E hr h => ?_)
  · obtain ⟨t, T, E, bp, mp, hv, W, rfl, _⟩ := h
    rfl
  · obtain ⟨t, T, E, bp, mp, hv, W, rfl, hT, hM, hz, ok, hW, hbpW, hmp, hhvW, k⟩ := h
    refine ⟨_, (pss_cons (ps_if (pt_not (pt_val ((ok_is_name c).call hr (by decide) (g_is_name c) (pa_cons (pv 1) pa_nil)))) pss_never pss_nil) (pss_cons (ps_if (pt_val ((ok_Table_has c).meth hr (by decide) (cl_Table c) (me_Table_has c) (pv 0) (pa_cons (pv 1) pa_nil))) pss_never pss_nil) (pss_cons (ps_expr ((ok_look_bases c).call hr (by decide) (g_look_bases c) (pa_cons (pv 0) (pa_cons (pv 2) pa_nil)))) (pss_cons (ps_if (pt_not (pt_val (pe_callB (isiTK K rfl) (by rfl) (n_isinstance c) (by first | exact PySem.boot_isinstance | exact boot_isinstance | decide +kernel) (pa_cons (pv 4) (pa_cons (pe_tup (pa_cons (pe_bltn (v := .ty "list") (by rfl) (n_list c) (by first | exact PySem.boot_list | exact boot_list | decide +kernel) rfl) (pa_cons (pe_bltn (v := .ty "tuple") (by rfl) (n_tuple c) (by first | exact PySem.boot_tuple | exact boot_tuple | decide +kernel) rfl) pa_nil))) pa_nil))))) pss_never pss_nil) (pss_cons (ps_expr ((ok_look_marks c).call hr (by decide) (g_look_marks c) (pa_cons (pv 4) pa_nil))) (pss_cons (ps_expr ((ok_look_hook c).call hr (by decide) (g_look_hook c) (pa_cons (pv 5) (pa_cons (pe_or (pv 3) (pe_one (pe_callB (anyK K rfl rfl) (by rfl) (n_any c) (by first | exact PySem.boot_any | exact boot_any | decide +kernel) (pa_cons (pe_lc (own := [("base", 8)]) (g := (gName 8)) (tt := tYes) rfl sc_new_entry.nd (piT K rfl (pv 2)) (blkOk_by (N := ["table", "name", "bases", "sworn", "marks", "hook", "passed", "behind", "base"]) (sc := defScope s_new_entry) (by decide +kernel)) (fun _ _ _ _ _ => (pg_name (i := 8) sc_new_entry.nd rfl (by first | exact Or.inl rfl | exact Or.inr rfl))) (fun _ _ _ _ _ => by exact pts_nil) (fun _ _ _ _ _ => by exact ((ok_is_sworn c).call hr (by decide) (g_is_sworn c) (pa_cons (fldK K rfl (pv 0) rfl) (pa_cons (pv 8) pa_nil))))) pa_nil)))) pa_nil)))) (pss_cons (ps_set (i := 7) sc_new_entry.nd rfl (Or.inl rfl) ((ok_merged c).call hr (by decide) (g_merged c) (pa_cons (pe_op op_cat (pe_lc (own := [("base", 8)]) (g := (gName 8)) (tt := tYes) rfl sc_new_entry.nd (piT K rfl (pv 2)) (blkOk_by (N := ["table", "name", "bases", "sworn", "marks", "hook", "passed", "behind", "base"]) (sc := defScope s_new_entry) (by decide +kernel)) (fun _ _ _ _ _ => (pg_name (i := 8) sc_new_entry.nd rfl (by first | exact Or.inl rfl | exact Or.inr rfl))) (fun _ _ _ _ _ => by exact pts_nil) (fun _ _ _ _ _ => by exact (fldK K rfl (pe_dget (hu_of hr) (fldK K rfl (pv 0) rfl) (pv 8) (fun _ _ => rfl)) rfl))) (pe_lst (pa_cons (pe_callTy (listK K rfl) (by rfl) (n_list c) (by first | exact PySem.boot_list | exact boot_list | decide +kernel) (pa_cons (pv 2) pa_nil)) pa_nil))) pa_nil))) (pss_cons (ps_if (pt_cmpR op_isN (pv 7) pe_non (nomark _)) pss_never pss_nil) (pss_one (ps_ret ((ok_Entry_init c).make hr (by decide) (mk_Entry c) (g_Entry c) (pa_cons (pv 1) (pa_cons (pv 2) (pa_cons (pv 3) (pa_cons (pv 4) (pa_cons (pv 5) (pa_cons (pv 6) (pa_cons (pe_op op_cat (pe_lst (pa_cons (pv 1) pa_nil)) (pv 7)) pa_nil)))))))))))))))))), ?_⟩
    have wf := hM.wf hz
    have hbp := (of_woL hbpW).2
    have hhv := hhvW.mono (gr_of_woL (T := tt K))
    have hT' := hT
    obtain ⟨dx, r, nu, l, m, kn, h1, h2, h3, h4⟩ := hT'
    refine ⟨_, rfl, E.label, rfl, ok.name, fun H1 g1 => ⟨_, rfl, iteF ?_⟩⟩
    refine ⟨_, rfl, t, dx, _, rfl, g1.ins h1, rfl, _, rfl, t, T, E.label, rfl, hT.mono g1, fun H2 g2 => ⟨_, rfl, ?_⟩⟩
    rw [decide_eq_false ok.new]
    refine iteF ?_
    have g12 := g1.trans g2
    refine ⟨_, rfl, _, rfl, t, T, bp, E.parents, rfl, hT.mono g12, g12.tup hbp, ok.par, ok.pnd, Nat.le_trans ok.pfew (by decide), fun H3 g3 => ?_⟩
    have g13 := g12.trans g3
    refine ⟨_, rfl, by show 2 ≤ sizeLine; decide, fun z hz => ?_⟩
    have gz := g13.trans (Gr.new (o := .tup [.ty "list", .ty "tuple"]) hz)
    obtain ⟨xs, hx1, hx2⟩ := hmp.mono gz
    refine ⟨.ref mp, z, [.ty "list", .ty "tuple"], .type "list", [.type "list", .type "tuple"], true, rfl, upd_same, .cons (.ty _) (.cons (.ty _) .nil), .base (.lst hx1), kitAny_cons (b := true) (kit_ty (by decide +kernel)) (fun h => by cases h) (fun _ => rfl), _, rfl, iteF ?_⟩
    generalize upd H3 z (.tup [.ty "list", .ty "tuple"]) = H4 at gz hx1 hx2 ⊢
    refine ⟨_, rfl, mp, E.marks, rfl, hmp.mono gz, ok.marks, fun H5 g5 => ?_⟩
    have g15 := gz.trans g5
    clear hx1 hx2 xs
    refine ⟨_, rfl, _, rfl, E.own, rfl, ?_⟩
    refine orv (fun b H6 => Gr (tt K) H H6 ∧ ∀ cl, E.hook = some cl → HookOk cl ∧ b = true) (fun ho => ⟨g15, fun cl e => ⟨(ok.hook cl e).1, rfl⟩⟩) (fun ho Y hs => ?_) ?_
    · refine ⟨_, rfl, bp, rfl, ⟨_, SqT.of (g15.tup hbp)⟩, fun D hD => ?_⟩
      refine lcTu (T := tt K) V.str E.parents (SqT.of (g15.tup hbp)) (Nat.le_trans ok.pfew (by decide)) (fun b => .bl (M.sworn T.es b)) (fun _ => true) hD (fun b hb H6 g6 Kp Ks kp ks => ?_) (fun H6 g6 hl => ?_)
      · have g16 := g15.trans g6
        exact ⟨rfl, yesT ⟨_, rfl, t, _, dx, _, _, rfl, g16.ins h1, cl_Table c, na_Table_records c, rfl, _, rfl, r, T.es, b, rfl, h2.mono g16, wf, ok.par b hb, fun H7 g7 => kp rfl _ g7⟩⟩
      · refine ⟨D, E.parents.map (M.sworn T.es), rfl, SqL.of ?_, hs _ _ ⟨g15.trans g6, fun cl e => ⟨(ok.hook cl e).1, ?_⟩⟩⟩
        · rw [hl, filter_yes, List.map_map] <;> rfl
        · rcases (ok.hook cl e).2 with h | ⟨b, hb, h⟩
          · rw [ho] at h
            cases h
          · rw [List.any_map]
            exact List.any_eq_true.mpr ⟨b, hb, h⟩
    · rintro b H6 ⟨g6, hb⟩
      refine ⟨hv, E.hook, b, rfl, hhv.mono g6, hb, fun H7 g7 => ?_⟩
      have g17 := g6.trans g7
      refine ⟨_, rfl, bp, rfl, ⟨_, SqT.of (g17.tup hbp)⟩, fun D hD => ?_⟩
      refine lcR (T := tt K) (walk_tup (K := K) (a := bp) (xs := sv E.parents)) E.parents (by simp [sv]) (Nat.le_trans ok.pfew (by decide)) (fun G b v => ∃ q, v = .ref q ∧ G q = some (.lst (sv (M.line T.es b)))) (fun l v H1 H2 g ⟨q, e, h⟩ => ⟨q, e, g.lst h⟩) (fun _ => true) hD (fun H' g => g.sqT (SqT.of (g17.tup hbp))) (fun i b x H8 H8' ys hi g8 hy y Kp Ks kp ks => ?_) (fun H8 ys g8 hl8 hys8 => ?_)
      · obtain ⟨rfl, hx⟩ := y
        obtain ⟨b', hb', rfl⟩ := sv_at hx
        rw [hi] at hb'
        cases hb'
        have g18 := g17.trans g8
        have gw := g17.trans (Gr.wo g8 hD hy)
        have hbm := ok.par b (List.mem_of_getElem? hi)
        obtain ⟨e, E', hget, ⟨dx', pa', ma', li', hv', e1, _, _, _, e5⟩, f1, f2, f3⟩ := (h2.mono gw).get hbm
        have gD : Gr (tt K) (wo D H8') H8' := gr_of_wo
        refine ⟨rfl, yesT ⟨_, rfl, t, _, dx, _, _, rfl, g18.ins h1, cl_Table c, na_Table_records c, rfl, _, rfl, r, _, rfl, ?_, e, _, dx', _, _, rfl, gD.ins e1, cl_Entry c, na_Entry_line c, rfl, kp rfl _ _ (Gr.refl _) ⟨li', rfl, ?_⟩⟩⟩
        · exact dget_mono gD hget
        · rw [line_find f1]
          exact e5
      · have hq8 : ∃ qs : List Addr, ys = qs.map V.ref ∧ Paired (fun q l => H8 q = some (.lst (sv l))) qs (E.parents.map (M.line T.es)) := by
          rw [filter_yes] at hys8
          clear hl8
          generalize E.parents = ps at hys8
          induction hys8 with
          | nil => exact ⟨[], rfl, .nil⟩
          | cons r _ ih =>
            obtain ⟨q, e, r⟩ := r
            obtain ⟨qs, e2, r3⟩ := ih
            subst e e2
            exact ⟨q :: qs, rfl, .cons r r3⟩
        obtain ⟨qs, rfl, hq8⟩ := hq8
        have g18 := g17.trans g8
        refine ⟨_, rfl, bp, _, rfl, .inr (SqT.of (g18.tup hbp)), fun l1 hl1 => ⟨by show 1 ≤ sizeLine; decide, fun l2 hl2 => ?_⟩⟩
        have gl : Gr (tt K) H8 (upd (upd H8 l1 (.lst (sv E.parents))) l2 (.lst [.ref l1])) := (Gr.new hl1).trans (Gr.new hl2)
        have n12 : l1 ≠ l2 := ne_of_none upd_same hl2
        refine ⟨D, l2, _, _, rfl, rfl, gl.lst hl8, upd_same, ?_, fun l3 hl3 => ?_⟩
        · have := prd_len hq8
          have p4 := ok.pfew
          simp only [List.length_map] at this
          simp only [List.length_map, List.length_cons, List.length_nil]
          rw [this]
          exact Nat.le_trans (show E.parents.length + 1 ≤ 5 by omega) (by decide)
        · have gl3 := gl.trans (Gr.new (o := .lst (qs.map V.ref ++ [V.ref l1])) hl3)
          have g19 := g18.trans gl3
          have hLL : LLAt K (upd (upd (upd H8 l1 (.lst (sv E.parents))) l2 (.lst [.ref l1])) l3 (.lst (qs.map V.ref ++ [V.ref l1]))) l3 (mlists T.es E.parents) := by
            refine ⟨qs ++ [l1], by rw [upd_same, List.map_append] <;> rfl, ?_⟩
            unfold mlists
            refine prd_snoc (prd_mono hq8 fun q l h => SqL.of (gl3.lst h)) (SqL.of ?_)
            have n13 : l1 ≠ l3 := ne_of_none (by rw [upd_ne n12]; exact upd_same) hl3
            rw [upd_ne n13, upd_ne n12]
            exact upd_same
          refine ⟨l3, mlists T.es E.parents, [], rfl, hLL, ?_, ?_, ?_, fun w hw => (by cases hw), fun H9 v rr g9 hmg hn hs9 => ?_⟩
          · intro l hl n hn
            unfold mlists at hl
            rcases List.mem_append.mp hl with hl | hl
            · obtain ⟨b, hb, rfl⟩ := List.mem_map.mp hl
              exact (hM.nameOk (hM.facts.sub b n hn)).str
            · rw [List.mem_singleton.mp hl] at hn
              exact (hM.nameOk (ok.par n hn)).str
          · have p4 := ok.pfew
            simp [mlists]
            omega
          · unfold mlists
            rw [tot_app]
            have p4 := ok.pfew
            have t1 : M.tot (E.parents.map (M.line T.es)) ≤ (E.parents.map (M.line T.es)).length * 12 := tot_short fun l hl => by
              obtain ⟨b, hb, rfl⟩ := List.mem_map.mp hl
              exact wf.short b
            have t2 : M.tot [E.parents] = E.parents.length := by simp [M.tot]
            rw [t2]
            rw [List.length_map] at t1
            omega
          · obtain ⟨m', em, hm⟩ := ok.ord
            have er : rr = some m' := hmg.unique hm
            subst er
            obtain ⟨q, rfl, hq⟩ := hs9 m' rfl
            rw [woL_nil] at hq
            refine ⟨_, rfl, rfl, _, rfl, iteF ?_⟩
            have g20 := g19.trans g9
            refine ⟨_, rfl, _, rfl, _, rfl, _, rfl, _, rfl, _, rfl, _, rfl, by show 1 ≤ sizeLine; decide, fun l4 hl4 => ⟨_, rfl, ?_⟩⟩
            have n4 := ne_of_none hq hl4
            refine ⟨l4, q, _, _, rfl, rfl, upd_same, by rw [upd_ne n4]; exact hq, ?_, fun l5 hl5 => ?_⟩
            · obtain ⟨m2, em2, hm2, mnd⟩ := ok.toLnOk.mem
              rw [em] at em2
              cases em2
              have hle : m'.length ≤ (M.names T.es).length := M.nodup_len mnd fun y hy => by
                rcases (hm2 y).mp hy with h | ⟨b, hb, h⟩
                · exact ok.par y h
                · exact wf.sub b y h
              have := wf.few
              rw [sv_len]
              show 1 + m'.length ≤ sizeLine
              exact Nat.le_trans (show 1 + m'.length ≤ 13 by omega) (by decide)
            · intro x dx' hx hdx hne
              have el : [V.str E.label] ++ sv m' = sv E.line := by rw [em] <;> rfl
              have g21 : Gr (tt K) H (upd (upd H9 l4 (.lst [.str E.label])) l5 (.lst ([V.str E.label] ++ sv m'))) := (g20.trans (Gr.new hl4)).trans (Gr.new hl5)
              have l5e : upd (upd H9 l4 (.lst [.str E.label])) l5 (.lst ([V.str E.label] ++ sv m')) l5 = some (.lst (sv E.line)) := by rw [upd_same, el]
              generalize upd (upd H9 l4 (.lst [.str E.label])) l5 (.lst ([V.str E.label] ++ sv m')) = H10 at g21 l5e hx hdx ⊢
              have gx : Gr (tt K) H10 (woL [x] (upd (upd H10 dx' (.own x)) x (.ins (ga K "Entry") dx' []))) := by
                rw [woL_grow (by rw [upd_ne hne.symm]; exact hx), woL_nil]
                exact Gr.new hdx
              have gx2 := g21.trans gx
              have mW : ∀ w ∈ W, MutO (woL [x] (upd (upd H10 dx' (.own x)) x (.ins (ga K "Entry") dx' []))) w := fun w hw => (hW w hw).gr gx2
              have hxW : x ∉ W := fun z => by
                obtain ⟨o, h, _⟩ := mW x z
                exact (of_woL h).1 (by simp)
              have gxW : Gr (tt K) (woL W H) (woL (x :: W) (upd (upd H10 dx' (.own x)) x (.ins (ga K "Entry") dx' []))) := by
                rw [woL_cons hxW]
                exact gx2.woL mW
              refine ⟨x, dx', E, bp, mp, l5, hv, W, rfl, upd_same, mW, gxW.tup hbpW, hmp.mono gx2, ok.marks.nd, hhvW.mono gxW, gx.lst l5e, fun H11 g11 he => ⟨rfl, k _ _ ((gx2.trans g11).trans gr_of_woL) he⟩⟩
end
end SW


set_option maxHeartbeats 2000000
namespace SW
open PySem PySem.Spec PyProof.Rows L2 He LamX NdefX
open SW.M (Ent Tb Oc)
/-! ## a table grows -/
/-- how many numbers a table has -/
def KnOk (K : PySem.W.Frag) (H : Hp) (t : Addr) (n : Nat) : Prop := ∃ dx r nu l m kn, H t = some (.ins (ga K "Table") dx (tabF r nu l m)) ∧ H nu = some (.dK kn) ∧ kn.length ≤ n
theorem ins_inj {H : Hp} {a : Addr} {C C' dx dx' fs fs'} (h : H a = some (HO.ins C dx fs)) (g : H a = some (HO.ins C' dx' fs')) : C = C' ∧ dx = dx' ∧ fs = fs' := by
  rw [h] at g
  injection g with g
  injection g with g1 g2 g3
  exact ⟨g1, g2, g3⟩
theorem tabF_inj {r nu l r' nu' l' : Addr} {m m' : Int} (h : tabF r nu l m = tabF r' nu' l' m') : r = r' ∧ nu = nu' ∧ l = l' ∧ m = m' := by
  unfold tabF at h
  simp only [List.cons.injEq, Prod.mk.injEq, true_and, and_true] at h
  obtain ⟨h1, h2, h3, h4⟩ := h
  injection h1 with h1
  injection h2 with h2
  injection h3 with h3
  injection h4 with h4
  exact ⟨h1, h2, h3, h4⟩
section
variable {P : Program} {w : World} {K : PySem.W.Frag} {mg : Str → Option Value} {base : Heap}
def spAddC (K : PySem.W.Frag) : Sp := fun vs H Q _ => ∃ (t : Addr) (T : Tb Str) (W : List Addr) (e : Addr) (E : En) (n : Nat), vs = [.ref t, .ref e] ∧ TabO K H W t T ∧ EntAt K (woL W H) e E ∧ KnOk K H t n ∧ n ≤ 100 ∧ E.label ∉ M.names T.es ∧ T.rg E.label = [] ∧ T.es.length ≤ 100 ∧
  ∀ H' la, Gr (tt K) (woL W H) (woL (la :: W) H') → TabO K H' (la :: W) t ⟨T.es ++ [E], T.rg⟩ → KnOk K H' t (n + 1) → Q .non H'
theorem sc_Table_add_class : FnScope ["self", "entry"] ["self", "entry"] (defScope s_Table_add_class) := ⟨rfl, rfl, rfl, by decide +kernel, rfl, by decide +kernel, by decide +kernel⟩
theorem ok_Table_add_class (c : Tx K mg base) : Ok P w K mg base 1 (ma K (ga K "Table") "add_class") ["self", "entry"] (spAddC K) := by
  refine Ok.mk' (fd_Table_add_class c) sc_Table_add_class (fun _ _ _ _ _ _ us hl => match us, hl with | [_, _], _ => rfl) (fun vs H Q E h => ?_) (fun cdv A outer s H vs Q E hr h => ?_)
  · obtain ⟨t, T, W, e, E, n, rfl, _⟩ := h
    rfl
  · obtain ⟨t, T, W, e, E, n, rfl, ⟨hm, dx, r, nu, l, m, kr, kn, las, hO⟩, hE, ⟨dx', r', nu', l', m', kn', kn1, kn2, kn3⟩, hn, hnew, hrg, hz, k⟩ := h
    refine ⟨_, (pss_cons (ps_fldaug (pv 0) pe_int in_add) (pss_cons (ps_dput (hu_of hr) (fldK K rfl (pv 0) rfl) (fldK K rfl (pv 1) rfl) (pv 1) rfl) (pss_cons (ps_dput (hu_of hr) (fldK K rfl (pv 0) rfl) (fldK K rfl (pv 1) rfl) (fldK K rfl (pv 0) rfl) rfl) (pss_one (ps_dput (hu_of hr) (fldK K rfl (pv 0) rfl) (fldK K rfl (pv 1) rfl) (pe_lst pa_nil) rfl))))), ?_⟩
    obtain ⟨_, _, ef⟩ := ins_inj hO.ht kn1
    obtain ⟨rfl, rfl, rfl, rfl⟩ := tabF_inj ef
    have ek : kn = kn' := by
      have := hO.hn.symm.trans kn2
      injection this with this
      injection this
    subst ek
    obtain ⟨d1, nd1⟩ := List.nodup_cons.mp hO.nd
    obtain ⟨d2, nd2⟩ := List.nodup_cons.mp nd1
    obtain ⟨d3, nd3⟩ := List.nodup_cons.mp nd2
    obtain ⟨d4, nd4⟩ := List.nodup_cons.mp nd3
    have tr : t ≠ r := fun z => d1 (by simp [z])
    have tn : t ≠ nu := fun z => d1 (by simp [z])
    have tl : t ≠ l := fun z => d1 (by simp [z])
    have rn : r ≠ nu := fun z => d2 (by simp [z])
    have rl : r ≠ l := fun z => d2 (by simp [z])
    have nl : nu ≠ l := fun z => d3 (by simp [z])
    have hlen : las.length = T.es.length := prd_len hO.lists
    have htW : t ∈ W := hO.own t (by simp)
    have hrW : r ∈ W := hO.own r (by simp)
    have hnW : nu ∈ W := hO.own nu (by simp)
    have hlW : l ∈ W := hO.own l (by simp)
    obtain ⟨de, pa, ma, li, hv, e1, e2, e3, e4, e5⟩ := hE
    obtain ⟨heW, he⟩ := of_woL e1
    have et : e ≠ t := fun z => heW (z ▸ htW)
    have er : e ≠ r := fun z => heW (z ▸ hrW)
    have en : e ≠ nu := fun z => heW (z ▸ hnW)
    have eF : putF "made" (.int (m + 1)) (tabF r nu l m) = tabF r nu l (m + 1) := rfl
    refine ⟨_, rfl, t, _, dx, _, _, rfl, hO.ht, cl_Table c, na_Table_made c, rfl, m, 1, rfl, rfl, dx, _, hO.ht, by show 4 < 1000; decide, ?_⟩
    rw [eF]
    -- self.records[..]
    refine ⟨_, rfl, _, rfl, t, _, dx, _, _, rfl, upd_same, cl_Table c, na_Table_records c, rfl, ?_⟩
    refine ⟨_, rfl, e, _, de, _, _, rfl, by rw [upd_ne et]; exact he, cl_Entry c, na_Entry_label c, rfl, r, _, rfl, DPut.k (k := .inr E.label) (by rw [upd_ne tr.symm]; exact hO.hr) ?_, ?_⟩
    · have := prd_len hO.ents
      exact Nat.lt_of_le_of_lt (Nat.le_trans (Nat.le_of_eq this) hz) (by decide)
    have hput1 : putK kr (.inr E.label) (.ref e) = kr ++ [(.inr E.label, .ref e)] := putK_new _ (val_none (fun _ _ r => r.1) hO.ents hnew)
    rw [hput1]
    -- self.numbers[..]
    refine ⟨_, rfl, t, _, dx, _, _, rfl, by rw [upd_ne tr]; exact upd_same, cl_Table c, na_Table_made c, rfl, ?_⟩
    refine ⟨_, rfl, t, _, dx, _, _, rfl, by rw [upd_ne tr]; exact upd_same, cl_Table c, na_Table_numbers c, rfl, ?_⟩
    refine ⟨_, rfl, e, _, de, _, _, rfl, by rw [upd_ne er, upd_ne et]; exact he, cl_Entry c, na_Entry_label c, rfl, nu, _, rfl, DPut.k (k := .inr E.label) (by rw [upd_ne rn.symm, upd_ne tn.symm]; exact hO.hn) ?_, ?_⟩
    · exact Nat.lt_of_le_of_lt (Nat.le_trans kn3 hn) (by decide)
    -- self.lists[..]
    refine ⟨by show 0 ≤ sizeLine; decide, fun la hla => ?_⟩
    have b3 : woL W (upd (upd (upd H t (.ins (ga K "Table") dx (tabF r nu l (m + 1)))) r (.dK (kr ++ [(.inr E.label, .ref e)]))) nu (.dK (putK kn (.inr E.label) (.int (m + 1))))) = woL W H := by
      rw [woL_upd hnW, woL_upd hrW, woL_upd htW]
    have m3 : ∀ w ∈ W, MutO (upd (upd (upd H t (.ins (ga K "Table") dx (tabF r nu l (m + 1)))) r (.dK (kr ++ [(.inr E.label, .ref e)]))) nu (.dK (putK kn (.inr E.label) (.int (m + 1))))) w := fun w hw =>
      (((hm w hw).set nt_ins fun _ _ => code_ins).set nt_dK fun _ _ => code_dK).set nt_dK fun _ _ => code_dK
    have t3 : (upd (upd (upd H t (.ins (ga K "Table") dx (tabF r nu l (m + 1)))) r (.dK (kr ++ [(.inr E.label, .ref e)]))) nu (.dK (putK kn (.inr E.label) (.int (m + 1))))) t = some (.ins (ga K "Table") dx (tabF r nu l (m + 1))) := by
      rw [upd_ne tn, upd_ne tr, upd_same]
    have r3 : (upd (upd (upd H t (.ins (ga K "Table") dx (tabF r nu l (m + 1)))) r (.dK (kr ++ [(.inr E.label, .ref e)]))) nu (.dK (putK kn (.inr E.label) (.int (m + 1))))) r = some (.dK (kr ++ [(.inr E.label, .ref e)])) := by
      rw [upd_ne rn, upd_same]
    have n3 : (upd (upd (upd H t (.ins (ga K "Table") dx (tabF r nu l (m + 1)))) r (.dK (kr ++ [(.inr E.label, .ref e)]))) nu (.dK (putK kn (.inr E.label) (.int (m + 1))))) nu = some (.dK (putK kn (.inr E.label) (.int (m + 1)))) := upd_same
    have o3 : ∀ b, b ≠ t → b ≠ r → b ≠ nu → (upd (upd (upd H t (.ins (ga K "Table") dx (tabF r nu l (m + 1)))) r (.dK (kr ++ [(.inr E.label, .ref e)]))) nu (.dK (putK kn (.inr E.label) (.int (m + 1))))) b = H b := fun b h1 h2 h3 => by
      rw [upd_ne h3, upd_ne h2, upd_ne h1]
    generalize upd (upd (upd H t (.ins (ga K "Table") dx (tabF r nu l (m + 1)))) r (.dK (kr ++ [(.inr E.label, .ref e)]))) nu (.dK (putK kn (.inr E.label) (.int (m + 1)))) = H3 at *
    have laW : la ∉ W := not_in m3 hla
    have lt : t ≠ la := fun z => laW (z ▸ htW)
    have lr : r ≠ la := fun z => laW (z ▸ hrW)
    have ln : nu ≠ la := fun z => laW (z ▸ hnW)
    have ll : l ≠ la := fun z => laW (z ▸ hlW)
    have l3 : H3 l = some (.dK (klOf T.es las)) := by
      rw [o3 l tl.symm rl.symm nl.symm]
      exact hO.hl
    have he3 : H3 e = H e := o3 e et er en
    have ela : e ≠ la := fun z => by
      rw [← z, he3, he] at hla
      cases hla
    refine ⟨_, rfl, t, _, dx, _, _, rfl, by rw [upd_ne lt]; exact t3, cl_Table c, na_Table_lists c, rfl, ?_⟩
    refine ⟨_, rfl, e, _, de, _, _, rfl, by rw [upd_ne ela, he3]; exact he, cl_Entry c, na_Entry_label c, rfl, l, _, rfl, DPut.k (k := .inr E.label) (by rw [upd_ne ll]; exact l3) ?_, ?_⟩
    · rw [klOf_len hlen]
      exact Nat.lt_of_le_of_lt hz (by decide)
    rw [klOf_put E la hlen hnew]
    have eqW : woL (la :: W) (upd (upd H3 la (.lst [])) l (.dK (klOf (T.es ++ [E]) (las ++ [la])))) = woL W H := by
      rw [woL_upd (by simp [hlW]), woL_grow hla, b3]
    refine k _ la (by rw [eqW]; exact Gr.refl _) ⟨fun w hw => ?_, dx, r, nu, l, m + 1, kr ++ [(.inr E.label, .ref e)], putK kn (.inr E.label) (.int (m + 1)), las ++ [la], ?_⟩ ⟨dx, r, nu, l, m + 1, _, by rw [upd_ne tl, upd_ne lt]; exact t3, by rw [upd_ne nl, upd_ne ln]; exact n3, Nat.le_trans (length_putK _ _ _) (by omega)⟩
    · rcases List.mem_cons.mp hw with rfl | hw
      · exact .lst (by rw [upd_ne ll.symm]; exact upd_same)
      · exact ((m3 w hw).upd hla).set nt_dK fun _ _ => code_dK
    · have onew : ∀ a ∈ las, (upd (upd H3 la (.lst [])) l (.dK (klOf (T.es ++ [E]) (las ++ [la])))) a = H a := fun a ha => by
        have haW : a ∈ W := hO.own a (by simp [ha])
        have a1 : a ≠ l := fun z => d4 (by rw [← z]; exact ha)
        have a2 : a ≠ la := fun z => laW (by rw [← z]; exact haW)
        have a3 : a ≠ t := fun z => d1 (by rw [← z]; simp [ha])
        have a4 : a ≠ r := fun z => d2 (by rw [← z]; simp [ha])
        have a5 : a ≠ nu := fun z => d3 (by rw [← z]; simp [ha])
        rw [upd_ne a1, upd_ne a2, o3 a a3 a4 a5]
      refine ⟨by rw [upd_ne tl, upd_ne lt]; exact t3, by rw [upd_ne rl, upd_ne lr]; exact r3, by rw [upd_ne nl, upd_ne ln]; exact n3, upd_same, ?_, ?_, ?_, ?_⟩
      · rw [eqW]
        exact prd_snoc hO.ents ⟨rfl, e, rfl, de, pa, ma, li, hv, e1, e2, e3, e4, e5⟩
      · refine prd_snoc (prd_mem hO.lists fun a E' ha h => by rw [onew a ha]; exact h) ?_
        rw [upd_ne ll.symm, upd_same]
        show some (HO.lst []) = some (HO.lst (sv (T.rg E.label)))
        rw [hrg] <;> rfl
      · have e0 : t :: r :: nu :: l :: (las ++ [la]) = (t :: r :: nu :: l :: las) ++ [la] := rfl
        rw [e0]
        exact List.nodup_append.mpr ⟨hO.nd, by simp, fun a ha b hb z => laW (by rw [← List.mem_singleton.mp hb, ← z]; exact hO.own a ha)⟩
      · intro a ha
        have e0 : t :: r :: nu :: l :: (las ++ [la]) = (t :: r :: nu :: l :: las) ++ [la] := rfl
        rw [e0] at ha
        rcases List.mem_append.mp ha with ha | ha
        · exact List.mem_cons_of_mem _ (hO.own a ha)
        · rw [List.mem_singleton.mp ha]
          exact List.mem_cons_self
end
end SW


set_option maxHeartbeats 2000000
namespace SW
open PySem PySem.Spec PyProof.Rows L2 He LamX NdefX
open SW.M (Ent Tb Oc)
/-! ## two fors in a list's comprehension -/
/-- the inner loop -/
def Inner (J1 : It) (g1 : TG) (tt1 : TT) (te : TE) (vs1 : List Nat) (D : Addr) (σ : L2.St) (H : Hp) (Nx : Hp → Prop) : Prop := ∃ W1 : Nat → Nat → Hp → Prop, (∃ m, W1 0 m H) ∧ ∀ j k H, W1 j k H →
  (J1.stop j H ∧ Nx H) ∨ (J1.go j H ∧ ∃ Nx1 : Hp → Prop, (∀ H', Nx1 H' → ∃ k', k' < k ∧ W1 (j + 1) k' H') ∧ ∀ x H', J1.yld j H x H' → g1 x (wipe σ vs1) H' fun σ3 H5 => wipe σ3 vs1 = wipe σ vs1 ∧ tt1 σ3 H5 fun b H6 =>
    if b = true then te σ3 H6 fun y H7 => ∃ acc, H7 D = some (.lst acc) ∧ acc.length < sizeLine ∧ Nx1 (upd H7 D (.lst (acc ++ [y]))) else Nx1 H6)
section
variable {J : It} {n : Nat} {G : Hp → Prop} {Y : Nat → Hp → V → Hp → Prop}
theorem inner_by (wk : Walk J n G Y) {g : TG} {tc : TT} {te : TE} {vs : List Nat} {D : Addr} {σ : L2.St} {H : Hp} {Nx : Hp → Prop} (I : Nat → Hp → Prop) (start : I 0 H) (reads : ∀ i H, i ≤ n → I i H → G H)
    (turn : ∀ i x H H', i < n → I i H → Y i H x H' → g x (wipe σ vs) H' fun σ2 H2 => wipe σ2 vs = wipe σ vs ∧ tc σ2 H2 fun b H3 => if b = true then te σ2 H3 fun y H4 => ∃ acc, H4 D = some (.lst acc) ∧ acc.length < sizeLine ∧ I (i + 1) (upd H4 D (.lst (acc ++ [y]))) else I (i + 1) H3)
    (fin : ∀ H, I n H → Nx H) : Inner J g tc te vs D σ H Nx := by
  refine ⟨fun i m H => i + m = n ∧ I i H, ⟨n, by simp, start⟩, fun i m H hw => ?_⟩
  obtain ⟨e, inv⟩ := hw
  rcases Nat.lt_or_ge i n with hlt | hge
  · exact .inr ⟨wk.goes i H hlt (reads i H (Nat.le_of_lt hlt) inv), I (i + 1), fun H' inv' => ⟨m - 1, by omega, by omega, inv'⟩, fun x H' y => turn i x H H' hlt inv (wk.yields i H x H' hlt (reads i H (Nat.le_of_lt hlt) inv) y)⟩
  · obtain rfl : i = n := by omega
    exact .inl ⟨wk.stops H (reads i H (Nat.le_refl _) inv), fin H inv⟩
theorem outer_by (wk : Walk J n G Y) {g g1 : TG} {tc tc1 : TT} {wi1 : TI} {te : TE} {vs vs1 : List Nat} {σ : L2.St} {H1 : Hp} {D : Addr} {Qd : Hp → Prop} (I : Nat → Hp → Prop) (start : I 0 (upd H1 D (.lst []))) (reads : ∀ i H, i ≤ n → I i H → G H)
    (turn : ∀ i x H H', i < n → I i H → Y i H x H' → g x (wipe σ vs) H' fun σ2 H2 => wipe σ2 vs = wipe σ vs ∧ tc σ2 H2 fun b H3 => if b = true then wi1 σ2 H3 fun J1 H4 => Inner J1 g1 tc1 te vs1 D σ2 H4 (I (i + 1)) else I (i + 1) H3) (fin : ∀ H, I n H → Qd H) :
    ∃ W : Nat → Nat → Hp → Prop, (∃ m, W 0 m (upd H1 D (.lst []))) ∧ ∀ i m H, W i m H →
      (J.stop i H ∧ Qd H) ∨ (J.go i H ∧ ∃ Nx : Hp → Prop, (∀ H', Nx H' → ∃ m', m' < m ∧ W (i + 1) m' H') ∧ ∀ x H', J.yld i H x H' → g x (wipe σ vs) H' fun σ2 H2 => wipe σ2 vs = wipe σ vs ∧ tc σ2 H2 fun b H3 =>
        if b = true then wi1 σ2 H3 fun J1 H4 => ∃ W1 : Nat → Nat → Hp → Prop, (∃ m, W1 0 m H4) ∧ ∀ j k H, W1 j k H →
          (J1.stop j H ∧ Nx H) ∨ (J1.go j H ∧ ∃ Nx1 : Hp → Prop, (∀ H', Nx1 H' → ∃ k', k' < k ∧ W1 (j + 1) k' H') ∧ ∀ x H', J1.yld j H x H' → g1 x (wipe σ2 vs1) H' fun σ3 H5 => wipe σ3 vs1 = wipe σ2 vs1 ∧ tc1 σ3 H5 fun b H6 =>
            if b = true then te σ3 H6 fun y H7 => ∃ acc, H7 D = some (.lst acc) ∧ acc.length < sizeLine ∧ Nx1 (upd H7 D (.lst (acc ++ [y]))) else Nx1 H6)
        else Nx H3) := by
  refine ⟨fun i m H => i + m = n ∧ I i H, ⟨n, by simp, start⟩, fun i m H hw => ?_⟩
  obtain ⟨e, inv⟩ := hw
  rcases Nat.lt_or_ge i n with hlt | hge
  · exact .inr ⟨wk.goes i H hlt (reads i H (Nat.le_of_lt hlt) inv), I (i + 1), fun H' inv' => ⟨m - 1, by omega, by omega, inv'⟩, fun x H' y => turn i x H H' hlt inv (wk.yields i H x H' hlt (reads i H (Nat.le_of_lt hlt) inv) y)⟩
  · obtain rfl : i = n := by omega
    exact .inl ⟨wk.stops H (reads i H (Nat.le_refl _) inv), fin H inv⟩
end
section
variable {P : Program} {w : World} {K : PySem.W.Frag} {mg : Str → Option Value} {base : Heap}
def spAddR (K : PySem.W.Frag) : Sp := fun vs H Q _ => ∃ (t : Addr) (T : Tb Str) (W : List Addr) (n o : Str), vs = [.ref t, .str n, .str o] ∧ TabO K H W t T ∧ (M.names T.es).Nodup ∧ n ∈ M.names T.es ∧ o ∉ T.rg n ∧ (T.rg n).length ≤ 100 ∧
  ∀ H', Gr (tt K) (woL W H) (woL W H') → TabO K H' W t (M.admit T n o) → Q .non H'
theorem sc_Table_add_registration : FnScope ["self", "name", "other"] ["self", "name", "other"] (defScope s_Table_add_registration) := ⟨rfl, rfl, rfl, by decide +kernel, rfl, by decide +kernel, by decide +kernel⟩
theorem ok_Table_add_registration (c : Tx K mg base) : Ok P w K mg base 1 (ma K (ga K "Table") "add_registration") ["self", "name", "other"] (spAddR K) := by
  refine Ok.mk' (fd_Table_add_registration c) sc_Table_add_registration (fun _ _ _ _ _ _ us hl => match us, hl with | [_, _, _], _ => rfl) (fun vs H Q E h => ?_) (fun cdv A outer s H vs Q E hr h => ?_)
  · obtain ⟨t, T, W, n, o, rfl, _⟩ := h
    rfl
  · obtain ⟨t, T, W, n, o, rfl, hT, nd, hn, ho, hz, k⟩ := h
    refine ⟨_, (pss_one (ps_if (pt_cmpR (ninK K rfl) (pv 2) (pe_dget (hu_of hr) (fldK K rfl (pv 0) rfl) (pv 1) (fun _ _ => rfl)) rfl) (pss_one (ps_expr (pe_bm PySem.F.plainAttrs_list PySem.F.slot_list_append PySem.F.type_list_append mt_append (pe_dget (hu_of hr) (fldK K rfl (pv 0) rfl) (pv 1) (fun _ _ => rfl)) (pa_cons (pv 2) pa_nil)))) pss_nil)), ?_⟩
    obtain ⟨dx, r, nu, l, m, a, h1, h2, h3, haW, fin⟩ := hT.reg nd hn
    obtain ⟨f1, f2⟩ := fin _ (fun m => if m = n then T.rg n ++ [o] else T.rg m) (if_pos rfl) (fun m hm => if_neg hm)
    refine ⟨_, rfl, _, rfl, t, _, dx, _, _, rfl, h1, cl_Table c, na_Table_lists c, rfl, _, rfl, l, _, rfl, h2, ?_⟩
    refine ⟨a, sv (T.rg n), rfl, .inl (SqL.of h3), rfl, flat_sv _, _, rfl, ?_⟩
    rw [inV_sv, decide_eq_false ho]
    refine iteT ⟨_, rfl, t, _, dx, _, _, rfl, h1, cl_Table c, na_Table_lists c, rfl, _, rfl, l, _, rfl, h2, ?_⟩
    refine ⟨.inl ⟨rfl, _, SqL.of h3⟩, _, rfl, a, _, _, rfl, rfl, h3, ?_, ?_⟩
    · rw [sv_len]
      exact Nat.lt_of_le_of_lt hz (by decide)
    · have e : sv (T.rg n) ++ [V.str o] = sv (T.rg n ++ [o]) := by
        unfold sv
        rw [List.map_append] <;> rfl
      rw [e]
      exact k _ f2 f1
/-- a road from n -/
def RoadAt (T : Tb Str) (n : Str) (H : Hp) (y : V) (k : Nat) : Prop := ∃ (q : Addr) (zs : List Str) (z : Str), y = .ref q ∧ H q = some (.lst (sv (zs ++ [z]))) ∧ z ∈ M.names T.es ∧ (∀ x ∈ zs, x ∈ M.names T.es) ∧ M.Reach (fun x y => y ∈ M.next T x) n z ∧ zs.length < k
theorem RoadAt.mono {B : Tbs} {T : Tb Str} {n : Str} {H H' : Hp} {y : V} {k : Nat} (g : Gr B H H') (h : RoadAt T n H y k) : RoadAt T n H' y k := by
  obtain ⟨q, zs, z, e, h1, h2⟩ := h
  exact ⟨q, zs, z, e, g.lst h1, h2⟩
theorem roads_ll {K : PySem.W.Frag} {T : Tb Str} {n : Str} {H : Hp} {ra : Addr} {ys : List V} {k : Nat} (hnm : NamesOk T.es) (h : H ra = some (.lst ys)) (hy : ∀ y ∈ ys, RoadAt T n H y k) : ∃ ls, LLAt K H ra ls ∧ StrsOk ls ∧ ls.isEmpty = ys.isEmpty := by
  have : ∃ (qs : List Addr) (ls : List (List Str)), ys = qs.map V.ref ∧ Paired (fun q l => SqL K H q (sv l)) qs ls ∧ StrsOk ls := by
    clear h
    induction ys with
    | nil => exact ⟨[], [], rfl, .nil, fun l h => by cases h⟩
    | cons y r ih =>
      obtain ⟨qs, ls, e, h1, h2⟩ := ih fun y h => hy y (List.mem_cons_of_mem _ h)
      obtain ⟨q, zs, z, e2, h3, h4, h5, _⟩ := hy y List.mem_cons_self
      subst e e2
      refine ⟨q :: qs, (zs ++ [z]) :: ls, rfl, .cons (SqL.of h3) h1, fun l hl x hx => ?_⟩
      rcases List.mem_cons.mp hl with rfl | hl
      · rcases List.mem_append.mp hx with hx | hx
        · exact (hnm x (h5 x hx)).str
        · rw [List.mem_singleton.mp hx]
          exact (hnm z h4).str
      · exact h2 l hl x hx
  obtain ⟨qs, ls, rfl, h1, h2⟩ := this
  refine ⟨ls, ⟨qs, h, h1⟩, h2, ?_⟩
  cases h1 <;> rfl
def spShort (K : PySem.W.Frag) : Sp := fun vs H Q _ => ∃ (t : Addr) (T : Tb Str) (n o : Str), vs = [.ref t, .str n, .str o] ∧ TabAt K H t T ∧ WfT T ∧ n ∈ M.names T.es ∧ NamesOk T.es ∧ n ≠ o ∧ ¬ M.Reach (fun x y => y ∈ M.next T x) n o ∧ Ans (tt K) H Q .non
theorem sc_Table_shortest_road : FnScope ["self", "name", "other", "roads", "seen", "longer", "road", "further"] ["self", "name", "other"] (defScope s_Table_shortest_road) := ⟨rfl, rfl, rfl, by decide +kernel, rfl, by decide +kernel, by decide +kernel⟩
theorem ok_Table_shortest_road (c : Tx K mg base) : Ok P w K mg base 4 (ma K (ga K "Table") "shortest_road") ["self", "name", "other"] (spShort K) := by
  refine Ok.mk' (fd_Table_shortest_road c) sc_Table_shortest_road (fun _ _ _ _ _ _ us hl => match us, hl with | [_, _, _], _ => rfl) (fun vs H Q E h => ?_) (fun cdv A outer s H vs Q E hr h => ?_)
  · obtain ⟨t, T, n, o, rfl, _⟩ := h
    rfl
  · obtain ⟨t, T, n, o, rfl, hT, wf, hn, hnm, hno, hre, k⟩ := h
    refine ⟨_, (pss_cons (ps_if (pt_cmpR op_eq (pv 1) (pv 2) (nomark _)) (pss_one (ps_ret (pe_lst (pa_cons (pv 1) pa_nil)))) pss_nil) (pss_cons (ps_par (i := 3) (j := 4) rfl sc_Table_shortest_road.nd rfl rfl (by decide) rfl rfl (pa_cons (pe_lst (pa_cons (pe_lst (pa_cons (pv 1) pa_nil)) pa_nil)) (pa_cons (pe_disp (pps_cons (pv 1) pe_bl pps_nil) (by rfl) (by rfl) (fun z => by cases z) (by decide)) pa_nil)) (by rfl)) (pss_cons (ps_while PassesOwn.never (pt_cmpR (neDK K rfl hr.units) (pv 3) (pe_lst pa_nil) (nomark _)) (pss_cons (ps_setLc2 (i := 5) (own := [("road", 6), ("further", 7)]) (vs1 := [7]) (g := (gName 6)) (g1 := (gName 7)) (tt := tYes) (tt1 := tYes) rfl sc_Table_shortest_road.nd rfl rfl (sw_true rfl rfl rfl (by decide +kernel)) (piL K rfl (pv 3)) (blkOk_by (N := ["self", "name", "other", "roads", "seen", "longer", "road", "further"]) (sc := defScope s_Table_shortest_road) (by decide +kernel)) (by decide) (fun _ _ _ _ _ => (pg_name (i := 6) sc_Table_shortest_road.nd rfl (by first | exact Or.inl rfl | exact Or.inr rfl))) (fun _ _ _ _ _ => by exact pts_nil) (fun _ _ _ _ _ => by exact (piL K rfl ((ok_Table_next_of c).meth hr (by decide) (cl_Table c) (me_Table_next_of c) (pv 0) (pa_cons (pe_ix (ixLK K rfl) (pv 6) (pe_un un_neg pe_int) (fun _ _ => rfl)) pa_nil)))) (fun _ _ _ _ _ => (pg_name (i := 7) sc_Table_shortest_road.nd rfl (by first | exact Or.inl rfl | exact Or.inr rfl))) (fun _ _ _ _ _ => by exact pts_nil) (fun _ _ _ _ _ => by exact (pe_lst (paStar K rfl (pv 6) (pa_cons (pv 7) pa_nil))))) (pss_cons (ps_set (i := 3) sc_Table_shortest_road.nd rfl (Or.inl rfl) (pe_lst pa_nil)) (pss_one (ps_for PassesOwn.never rfl (piL K rfl (pv 5)) (pg_name (i := 6) sc_Table_shortest_road.nd rfl (Or.inl rfl)) (pss_cons (ps_if (pt_cmpR op_eq (pe_ix (ixLK K rfl) (pv 6) (pe_un un_neg pe_int) (fun _ _ => rfl)) (pv 2) (nomark _)) (pss_one (ps_ret (pv 6))) pss_nil) (pss_one (ps_if (pt_cmp (pc_dnotin (hu_of hr) (pe_ix (ixLK K rfl) (pv 6) (pe_un un_neg pe_int) (fun _ _ => rfl)) (pv 4))) (pss_cons (ps_dput (hu_of hr) (pv 4) (pe_ix (ixLK K rfl) (pv 6) (pe_un un_neg pe_int) (fun _ _ => rfl)) pe_bl rfl) (pss_one (ps_expr (pe_bm PySem.F.plainAttrs_list PySem.F.slot_list_append PySem.F.type_list_append mt_append (pv 3) (pa_cons (pv 6) pa_nil))))) pss_nil)))))))) (pss_one (ps_ret pe_non))))), ?_⟩
    have hT' := hT
    obtain ⟨dx, r, nu, l, m, kn, h1, _⟩ := hT'
    refine ⟨_, rfl, _, rfl, rfl, _, rfl, ?_⟩
    have e0 : decide (V.str n = V.str o) = false := decide_eq_false fun z => hno (by cases z; rfl)
    rw [e0]
    refine iteF ?_
    refine ⟨_, rfl, by show 1 ≤ sizeLine; decide, fun q hq => ⟨by show 1 ≤ sizeLine; decide, fun ra hra => ?_⟩⟩
    intro d hd
    refine ⟨_, rfl, upd_same, [(Sum.inr n, .bl true)], rfl, by show 1 ≤ 15; decide, _, _, rfl, ?_⟩
    have hqra : q ≠ ra := ne_of_none upd_same hra
    have hrad : ra ≠ d := ne_of_none upd_same hd
    have hqd : q ≠ d := ne_of_none (by rw [upd_ne hqra]; exact upd_same) hd
    have g0 : Gr (tt K) H (woL [d] (upd (upd (upd (upd H q (.lst [.str n])) ra (.lst [.ref q])) d (.dK [])) d (.dK (mergeK [] [(Sum.inr n, .bl true)])))) := by
      rw [woL_upd (by simp), woL_grow hd, woL_nil]
      exact (Gr.new hq).trans (Gr.new hra)
    have hd0 : (upd (upd (upd (upd H q (.lst [.str n])) ra (.lst [.ref q])) d (.dK [])) d (.dK (mergeK [] [(Sum.inr n, .bl true)]))) d = some (.dK [(Sum.inr n, .bl true)]) := by rw [upd_same] <;> rfl
    have hra0 : (upd (upd (upd (upd H q (.lst [.str n])) ra (.lst [.ref q])) d (.dK [])) d (.dK (mergeK [] [(Sum.inr n, .bl true)]))) ra = some (.lst [.ref q]) := by rw [upd_ne hrad, upd_ne hrad, upd_same]
    have hq0 : (woL [d] (upd (upd (upd (upd H q (.lst [.str n])) ra (.lst [.ref q])) d (.dK [])) d (.dK (mergeK [] [(Sum.inr n, .bl true)])))) q = some (.lst [.str n]) := by
      rw [woL_out (by simp [hqd]), upd_ne hqd, upd_ne hqd, upd_ne hqra, upd_same]
    generalize (upd (upd (upd (upd H q (.lst [.str n])) ra (.lst [.ref q])) d (.dK [])) d (.dK (mergeK [] [(Sum.inr n, .bl true)]))) = H0 at *
    refine ⟨fun m σ H' => ∃ (ra : Addr) (ys : List V) (kvs : List (Key × V)) (ks : List Str) (kk : Nat) (x5 x6 x7 : Option V), m = 2 * (13 - ks.length) + (if ys = [] then 0 else 1) ∧ σ = [some (.ref t), some (.str n), some (.str o), some (.ref ra), some (.ref d), x5, x6, x7] ∧
      Gr (tt K) H (woL [d] H') ∧ ra ≠ d ∧ H' ra = some (.lst ys) ∧ (∀ y ∈ ys, RoadAt T n (woL [d] H') y kk) ∧ H' d = some (.dK kvs) ∧ kvs.map (·.1) = ks.map Sum.inr ∧ ks.Nodup ∧ (∀ y ∈ ks, y ∈ M.names T.es) ∧ (ys ≠ [] → kk ≤ ks.length) ∧ ys.length ≤ 12,
      ⟨_, ra, [.ref q], [(Sum.inr n, .bl true)], [n], 1, none, none, none, rfl, rfl, g0, hrad, hra0, fun y hy => ?_, hd0, rfl, by simp, by simpa using hn, fun _ => Nat.le_refl _, by show 1 ≤ 12; decide⟩, ?_⟩
    · rw [List.mem_singleton.mp hy]
      exact ⟨q, [], n, rfl, hq0, hn, by simp, .refl _, Nat.lt_succ_self _⟩
    clear hq0 hra0 hd0 g0 hqd hqra hrad hd hra hq
    clear ra q
    rintro m σ H' ⟨ra, ys, kvs, ks, kk, x5, x6, x7, rfl, rfl, g, hrad, hra, hys, hd, hkk, hknd, hkn, hkl, hy12⟩
    refine ⟨_, rfl, by show 0 ≤ sizeLine; decide, fun z hz => ?_⟩
    have gz : Gr (tt K) H' (upd H' z (.lst [])) := Gr.new hz
    have hra3 := gz.lst hra
    have hd3 := gz.dK hd
    have gw3 : Gr (tt K) (woL [d] H') (woL [d] (upd H' z (.lst []))) := gz.woL fun w hw => by
      rw [List.mem_singleton.mp hw]
      exact .dK hd3
    have hys3 : ∀ y ∈ ys, RoadAt T n (woL [d] (upd H' z (.lst []))) y kk := fun y hy => (hys y hy).mono gw3
    have g3 := g.trans gw3
    have hz3 : upd H' z (.lst []) z = some (.lst []) := upd_same
    generalize upd H' z (.lst []) = H3 at *
    obtain ⟨ls, hll, hls, hemp⟩ := roads_ll (K := K) hnm hra3 fun y hy => (hys3 y hy).mono (gr_of_woL (T := tt K))
    refine ne_nilL hll hls hz3 ⟨_, rfl, ?_⟩
    rw [hemp]
    by_cases hyn : ys = []
    · subst hyn
      exact iteF (k _ (g3.trans gr_of_woL))
    have hemp2 : ys.isEmpty = false := by cases ys <;> simp_all
    rw [hemp2]
    refine iteT ⟨fun σ' H' => ∃ m', m' < 2 * (13 - ks.length) + (if ys = [] then 0 else 1) ∧ _, fun _ _ h => h, ?_⟩
    have hkl := hkl hyn
    have hk12 : ks.length ≤ 12 := Nat.le_trans (M.nodup_len hknd hkn) wf.few
    have gH3 : Gr (tt K) H H3 := g3.trans gr_of_woL
    -- longer
    refine ⟨_, rfl, ra, rfl, ⟨_, SqL.of hra3⟩, fun D hD => ?_⟩
    have hDd : D ≠ d := (ne_of_none hd3 hD).symm
    refine outer_by (walk_list (K := K) (a := ra) (xs := ys)) (fun i H4 => Gr (tt K) H3 H4 ∧ ∃ zs, H4 D = some (.lst zs) ∧ zs.length ≤ 24 * i ∧ ∀ y ∈ zs, RoadAt T n (woL [D, d] H4) y (kk + 1)) ⟨Gr.new hD, [], upd_same, Nat.zero_le _, fun y hy => by cases hy⟩ (fun i H4 _ h => h.1.sqL (SqL.of hra3)) ?_ ?_
    · rintro i y H4 H4' hi ⟨g4, zs, hD4, hzl, hzs⟩ ⟨rfl, hy⟩
      have hym := List.mem_of_getElem? hy
      obtain ⟨q, rs, z, rfl, hq, hzn, hrn, hrz, hrk⟩ := hys3 y hym
      have hq3 := (of_woL hq).2
      have gH4 := gH3.trans g4
      refine ⟨rfl, yesP ⟨_, rfl, t, dx, _, rfl, gH4.ins h1, rfl, _, rfl, _, rfl, q, _, -1, _, rfl, rfl, g4.sqL (SqL.of hq3), by unfold sv; rw [List.map_append]; exact atI_last _ _, t, T, z, rfl, hT.mono gH4, wf, hzn, fun H5 a g5 ha => ⟨a, rfl, ⟨_, SqL.of ha⟩, ?_⟩⟩⟩
      have g45 := g4.trans g5
      have hd5 := g45.dK hd3
      have hD5 := g5.lst hD4
      have mD : ∀ w ∈ [D, d], MutO H5 w := fun w hw => by
        rcases List.mem_cons.mp hw with rfl | hw
        · exact .lst hD5
        · rw [List.mem_singleton.mp hw]
          exact .dK hd5
      have hzs5 : ∀ y ∈ zs, RoadAt T n (woL [D, d] H5) y (kk + 1) := fun y hy => (hzs y hy).mono (g5.woL mD)
      refine inner_by (walk_list (K := K) (a := a) (xs := sv (M.next T z))) (fun j H6 => Gr (tt K) H3 H6 ∧ SqL K H6 a (sv (M.next T z)) ∧ ∃ zs, H6 D = some (.lst zs) ∧ zs.length ≤ 24 * i + j ∧ ∀ y ∈ zs, RoadAt T n (woL [D, d] H6) y (kk + 1)) ⟨g45, SqL.of ha, zs, hD5, hzl, hzs5⟩ (fun j H6 _ h => h.2.1) ?_ ?_
      · rintro j x H6 H6' hj ⟨g6, ha6, zs6, hD6, hzl6, hzs6⟩ ⟨rfl, hx⟩
        obtain ⟨v, hv, rfl⟩ := sv_at hx
        have hvn : v ∈ M.next T z := List.mem_of_getElem? hv
        have hq6 := g6.lst hq3
        refine ⟨rfl, yesP ⟨_, rfl, q, _, rfl, .inr (SqL.of hq6), _, rfl, ?_, fun p hp => ⟨zs6, (Gr.new (T := tt K) hp).lst hD6, ?_, ?_⟩⟩⟩
        · have e1 : kk ≤ 12 := Nat.le_trans hkl hk12
          simp only [sv, List.length_map, List.length_append, List.length_cons, List.length_nil]
          exact Nat.le_trans (show rs.length + (0 + 1) + (0 + 1) ≤ 100 by omega) (by decide)
        · have e1 := wf.nextLen z
          rw [sv_len] at hj
          have e2 : ys.length ≤ 12 := hy12
          exact Nat.lt_of_le_of_lt (show zs6.length ≤ 1000 by omega) (by decide)
        · have hpD : D ≠ p := ne_of_none hD6 hp
          have hpd : d ≠ p := ne_of_none (g6.dK hd3) hp
          have hDp : upd H6' p (.lst (sv (rs ++ [z]) ++ [.str v])) D = some (.lst zs6) := (Gr.new (T := tt K) hp).lst hD6
          have gD : Gr (tt K) H3 (upd (upd H6' p (.lst (sv (rs ++ [z]) ++ [.str v]))) D (.lst (zs6 ++ [.ref p]))) := (g6.trans (Gr.new hp)).appd (fresh_none hD) hDp
          have eW : woL [D, d] (upd (upd H6' p (.lst (sv (rs ++ [z]) ++ [.str v]))) D (.lst (zs6 ++ [.ref p]))) = upd (woL [D, d] H6') p (.lst (sv (rs ++ [z]) ++ [.str v])) := by
            rw [woL_upd (by simp), woL_new (by simp [hpD.symm, hpd.symm])]
          have gW : Gr (tt K) (woL [D, d] H6') (woL [D, d] (upd (upd H6' p (.lst (sv (rs ++ [z]) ++ [.str v]))) D (.lst (zs6 ++ [.ref p])))) := by
            rw [eW]
            refine Gr.new ?_
            rw [woL_out (by simp [hpD.symm, hpd.symm])]
            exact hp
          refine ⟨gD, ?_, _, upd_same, by rw [List.length_append]; show zs6.length + 1 ≤ _; omega, fun y hy => ?_⟩
          · have haD : a ≠ D := fun e => by
              rw [e] at ha
              rw [ha] at hD5
              have e2 : sv (M.next T z) = zs := by
                injection hD5 with hD5
                injection hD5
              have e3 : V.str v ∈ zs := by
                rw [← e2]
                exact List.mem_map.mpr ⟨v, hvn, rfl⟩
              obtain ⟨q, _, _, e4, _⟩ := hzs _ e3
              cases e4
            exact sqL_upd haD ((Gr.new (T := tt K) hp).sqL ha6)
          · rcases List.mem_append.mp hy with hy | hy
            · exact (hzs6 y hy).mono gW
            · rw [List.mem_singleton.mp hy]
              refine ⟨p, rs ++ [z], v, rfl, ?_, ?_, ?_, hrz.tail hvn, by rw [List.length_append]; show rs.length + 1 < kk + 1; omega⟩
              · rw [eW, upd_same]
                unfold sv
                rw [List.map_append (l₂ := [v])] <;> rfl
              · exact wf.next hvn
              · intro x hx
                rcases List.mem_append.mp hx with hx | hx
                · exact hrn x hx
                · rw [List.mem_singleton.mp hx]
                  exact hzn
      · rintro H6 ⟨g6, _, zs6, hD6, hzl6, hzs6⟩
        have e1 := wf.nextLen z
        rw [sv_len] at hzl6
        exact ⟨g6, zs6, hD6, by omega, hzs6⟩
    rintro H6 ⟨g6, zs, hD6, hzl, hzs⟩
    have hd6 := g6.dK hd3
    have gH6 := gH3.trans g6
    -- roads = []
    refine ⟨by show 0 ≤ sizeLine; decide, fun rb hrb => ?_⟩
    have hrbd : rb ≠ d := (ne_of_none hd6 hrb).symm
    have hrbD : rb ≠ D := (ne_of_none hD6 hrb).symm
    have hzs7 : ∀ y ∈ zs, RoadAt T n (woL [rb, d] (upd H6 rb (.lst []))) y (kk + 1) := fun y hy => by
      rw [woL_grow hrb]
      exact (hzs y hy).mono (gr_sub (B := tt K) (by simp))
    have gW7 : Gr (tt K) H (woL [rb, d] (upd H6 rb (.lst []))) := by
      rw [woL_grow hrb]
      exact g3.trans (g6.woL fun w hw => by rw [List.mem_singleton.mp hw]; exact .dK hd6)
    have hD7 : woL [rb, d] (upd H6 rb (.lst [])) D = some (.lst zs) := by
      rw [woL_out (by simp [hrbD.symm, hDd]), upd_ne hrbD.symm]
      exact hD6
    have hd7 : upd H6 rb (.lst []) d = some (.dK kvs) := by rw [upd_ne hrbd.symm]; exact hd6
    have hrb7 : upd H6 rb (.lst []) rb = some (.lst []) := upd_same
    generalize upd H6 rb (.lst []) = H7 at *
    refine ⟨_, rfl, D, rfl, ⟨_, SqL.of (of_woL hD7).2⟩, ?_⟩
    refine for_list (K := K) (a := D) (xs := zs) (fun i σ H8 => ∃ (ys2 : List V) (kvs2 : List (Key × V)) (ks2 more : List Str) (x6 x7 : Option V), σ = [some (.ref t), some (.str n), some (.str o), some (.ref rb), some (.ref d), some (.ref D), x6, x7] ∧ Gr (tt K) (woL [rb, d] H7) (woL [rb, d] H8) ∧ H8 rb = some (.lst ys2) ∧ H8 d = some (.dK kvs2) ∧
      kvs2.map (·.1) = ks2.map Sum.inr ∧ ks2.Nodup ∧ (∀ y ∈ ks2, y ∈ M.names T.es) ∧ ks2 = ks ++ more ∧ more.length = ys2.length ∧ ∀ y ∈ ys2, RoadAt T n (woL [rb, d] H7) y (kk + 1)) ⟨[], kvs, ks, [], _, _, rfl, Gr.refl _, hrb7, hd7, hkk, hknd, hkn, by simp, rfl, fun y hy => by cases hy⟩ (fun i σ H8 _ h => ?_) ?_ ?_
    · obtain ⟨_, _, _, _, _, _, _, g8, _⟩ := h
      exact SqL.of (of_woL (g8.lst hD7)).2
    · rintro i y σ H8 hy ⟨ys2, kvs2, ks2, more, x6, x7, rfl, g8, hrb8, hd8, hk8, hnd8, hkn8, hmore, hmz, hys8⟩
      have hym := List.mem_of_getElem? hy
      have hroad := hzs7 y hym
      obtain ⟨q, rs, z, rfl, hq, hzn, hrn, hrz, hrk⟩ := hroad
      have hq8 := (of_woL (g8.lst hq)).2
      have hat : atI (sv (rs ++ [z])) (-1) = some (.str z) := by
        unfold sv
        rw [List.map_append]
        exact atI_last _ _
      refine ⟨_, rfl, _, rfl, q, _, -1, _, rfl, rfl, SqL.of hq8, hat, _, rfl, rfl, _, rfl, ?_⟩
      have e9 : decide (V.str z = V.str o) = false := decide_eq_false fun e => hre (by cases e; exact hrz)
      rw [e9]
      refine iteF ?_
      refine ⟨_, rfl, _, rfl, q, _, -1, _, rfl, rfl, SqL.of hq8, hat, _, rfl, d, _, rfl, DGet.k (k := .inr z) hd8, _, rfl, ?_⟩
      rw [keys_val hk8]
      have hk2l : kvs2.length ≤ 12 := by
        have := congrArg List.length hk8
        simp at this
        rw [this]
        exact Nat.le_trans (M.nodup_len hnd8 hkn8) wf.few
      by_cases hzk : z ∈ ks2
      · rw [decide_eq_true hzk]
        exact iteF ⟨ys2, kvs2, ks2, more, _, _, rfl, g8, hrb8, hd8, hk8, hnd8, hkn8, hmore, hmz, hys8⟩
      · rw [decide_eq_false hzk]
        refine iteT ⟨_, rfl, _, rfl, _, rfl, q, _, -1, _, rfl, rfl, SqL.of hq8, hat, d, _, rfl, DPut.k (k := .inr z) hd8 (Nat.lt_of_le_of_lt hk2l (by decide)), ?_⟩
        have hqd : q ≠ d := fun e => by
          rw [e, hd8] at hq8
          cases hq8
        have hqb : q ≠ rb := fun e => by
          obtain ⟨h1, _⟩ := of_woL hq
          exact h1 (by simp [e])
        have hrb9 : upd H8 d (.dK (putK kvs2 (.inr z) (.bl true))) rb = some (.lst ys2) := by rw [upd_ne hrbd]; exact hrb8
        refine ⟨_, rfl, .inl ⟨rfl, _, SqL.of hrb9⟩, _, rfl, rb, _, _, rfl, rfl, hrb9, ?_, ?_⟩
        · have h1 : ks2.length ≤ 12 := Nat.le_trans (M.nodup_len hnd8 hkn8) wf.few
          rw [hmore, List.length_append] at h1
          exact Nat.lt_of_le_of_lt (show ys2.length ≤ 12 by omega) (by decide)
        · have hvn : valV kvs2 (.inr z) = none := by
            have e := keys_val hk8 (y := z)
            rw [decide_eq_false hzk] at e
            cases q : valV kvs2 (.inr z) with
            | none => rfl
            | some v =>
              rw [q] at e
              cases e
          refine ⟨ys2 ++ [.ref q], putK kvs2 (.inr z) (.bl true), ks2 ++ [z], more ++ [z], _, _, rfl, ?_, upd_same, ?_, ?_, ?_, ?_, by rw [hmore, List.append_assoc], by rw [List.length_append, List.length_append, hmz] <;> rfl, ?_⟩
          · rw [woL_upd (by simp), woL_upd (by simp)]
            exact g8
          · rw [upd_ne hrbd.symm, upd_same]
          · rw [putK_new _ hvn, List.map_append, hk8, List.map_append] <;> rfl
          · exact List.nodup_append.mpr ⟨hnd8, by simp, fun x hx y hy => by rw [List.mem_singleton.mp hy]; exact fun z => hzk (z ▸ hx)⟩
          · intro x hx
            rcases List.mem_append.mp hx with hx | hx
            · exact hkn8 x hx
            · rw [List.mem_singleton.mp hx]
              exact hzn
          · intro x hx
            rcases List.mem_append.mp hx with hx | hx
            · exact hys8 x hx
            · rw [List.mem_singleton.mp hx]
              exact ⟨q, rs, z, rfl, hq, hzn, hrn, hrz, hrk⟩
    · rintro σ H8 ⟨ys2, kvs2, ks2, more, x6', x7', rfl, g8, hrb8, hd8, hk8, hnd8, hkn8, hmore, hmz, hys8⟩
      have h1 : ks2.length ≤ 12 := Nat.le_trans (M.nodup_len hnd8 hkn8) wf.few
      have h2 : ks2.length = ks.length + ys2.length := by rw [hmore, List.length_append, hmz]
      refine ⟨2 * (13 - ks2.length) + (if ys2 = [] then 0 else 1), ?_, rb, ys2, kvs2, ks2, kk + 1, _, _, _, rfl, rfl, (gW7.trans g8).trans (gr_sub (by simp)), hrbd, hrb8, fun y hy => ((hys8 y hy).mono g8).mono (gr_sub (B := tt K) (by simp)), hd8, hk8, hnd8, hkn8, fun hne => ?_, by omega⟩
      · rw [if_neg hyn]
        by_cases e : ys2 = []
        · rw [if_pos e]
          rw [e] at h2
          simp at h2
          omega
        · rw [if_neg e]
          have : 0 < ys2.length := List.length_pos_iff.mpr e
          omega
      · have : 0 < ys2.length := List.length_pos_iff.mpr hne
        omega
end
end SW


set_option maxHeartbeats 2000000
namespace SW
open PySem PySem.Spec PyProof.Rows L2 He LamX NdefX
open SW.M (Ent Tb Oc)
/-! ## a world that may be changed -/
theorem woL_app {A W : List Addr} {H : Hp} : woL A (woL W H) = woL (A ++ W) H := by
  funext b
  by_cases h1 : b ∈ A
  · rw [woL_in h1, woL_in (by simp [h1])]
  · by_cases h2 : b ∈ W
    · rw [woL_out h1, woL_in h2, woL_in (by simp [h2])]
    · rw [woL_out h1, woL_out h2, woL_out (by simp [h1, h2])]
theorem upd_id {H : Hp} {a : Addr} {o : HO} (h : H a = some o) : upd H a o = H := by
  funext b
  by_cases e : b = a
  · subst e
    rw [upd_same, h]
  · rw [upd_ne e]
def keptF (kk : Addr) : List (Str × V) := [("kept", .ref kk)]
/-- the cells of an entry are none of a cache -/
theorem EntAt.out {K : PySem.W.Frag} {H : Hp} {e ca cdx kk : Addr} {C : Addr} {E : En} (h : EntAt K H e E) (hc : H ca = some (.ins C cdx (keptF kk))) : EntAt K (woL [ca] H) e E := by
  obtain ⟨dx, pa, ma, li, hv, h1, h2, h3, h4, h5⟩ := h
  have o : ∀ {a : Addr} {o : HO}, H a = some o → (∀ C dx kk, o ≠ .ins C dx (keptF kk)) → woL [ca] H a = some o := fun {a o} h n => by
    rw [woL_out]
    · exact h
    · intro z
      rw [List.mem_singleton.mp z, hc] at h
      exact n _ _ _ (Option.some.inj h).symm
  refine ⟨dx, pa, ma, li, hv, o h1 (fun C dx kk z => ?_), o h2 (fun _ _ _ z => by cases z), o h3 (fun _ _ _ z => by cases z), ?_, o h5 (fun _ _ _ z => by cases z)⟩
  · injection z with z1 z2 z3
    unfold entF keptF at z3
    simp at z3
  · exact h4.lift fun a xs h => o h (fun _ _ _ z => by cases z)
/-- a table, behind a change of a cache alone -/
theorem TabO.other {K : PySem.W.Frag} {H H' : Hp} {W : List Addr} {t ca cdx kk C : Addr} {T : Tb Str} (h : TabO K H W t T) (hc : H ca = some (.ins C cdx (keptF kk))) (hW : ca ∉ W) (g : Gr (tt K) (woL [ca] H) (woL [ca] H')) : TabO K H' W t T := by
  obtain ⟨hm, dx, r, nu, l, m, kr, kn, las, hO⟩ := h
  have ne : ∀ {a}, a ∈ W → a ∉ [ca] := fun ha z => hW (by rw [← List.mem_singleton.mp z]; exact ha)
  have at_ : ∀ {a : Addr} {o : HO}, a ∈ W → H a = some o → NoTbl o → H' a = some o := fun {a o} ha h n => by
    have := g.1 _ _ (by rw [woL_out (ne ha)]; exact h) n
    exact (of_woL this).2
  have mo : ∀ w ∈ W, MutO H' w := fun w hw => by
    obtain ⟨o, e, n1, n2⟩ := hm w hw
    exact ⟨o, at_ hw e n1, n1, n2⟩
  have hcW : woL W H ca = some (.ins C cdx (keptF kk)) := by rw [woL_out hW]; exact hc
  have gg : Gr (tt K) (woL [ca] (woL W H)) (woL W H') := by
    have e1 : woL [ca] (woL W H) = woL W (woL [ca] H) := by
      rw [woL_app, woL_app]
      exact woL_congr fun b => by simp [or_comm]
    rw [e1]
    refine (g.woL (W := W) fun w hw => ?_).trans ?_
    · obtain ⟨o, e, n1, n2⟩ := mo w hw
      exact ⟨o, by rw [woL_out (ne hw)]; exact e, n1, n2⟩
    · rw [woL_app]
      exact gr_sub fun b hb => by simp [hb]
  have own := hO.own
  refine ⟨mo, dx, r, nu, l, m, kr, kn, las, at_ (own t (by simp)) hO.ht nt_ins, at_ (own r (by simp)) hO.hr nt_dK, at_ (own nu (by simp)) hO.hn nt_dK, at_ (own l (by simp)) hO.hl nt_dK, prd_mono hO.ents fun p E ⟨e1, e, e2, h⟩ => ⟨e1, e, e2, (h.out hcW).mono gg⟩, prd_mem hO.lists fun a E ha h => at_ (own a (by simp [ha])) h nt_lst, hO.nd, own⟩
def WorO (K : PySem.W.Frag) (H : Hp) (W : List Addr) (wd t : Addr) (T : Tb Str) : Prop := ∃ dx ca vi th cl cdx kk Wt, W = ca :: Wt ∧ ca ∉ Wt ∧ woL W H wd = some (.ins (ga K "World") dx (worF t ca vi th cl)) ∧ H ca = some (.ins (ga K "Cache") cdx (keptF kk)) ∧ woL W H kk = some (.dK []) ∧ woL W H cl = some (.lst []) ∧ TabO K H Wt t T
theorem TabO.at {K : PySem.W.Frag} {H : Hp} {W : List Addr} {t : Addr} {T : Tb Str} (h : TabO K H W t T) : TabAt K H t T := by
  obtain ⟨_, _, _, _, _, _, _, _, _, h⟩ := h
  exact TabOwn.at h
theorem TabO.gr {K : PySem.W.Frag} {H H' : Hp} {W : List Addr} {t : Addr} {T : Tb Str} (g : Gr (tt K) H H') (h : TabO K H W t T) : TabO K H' W t T := by
  obtain ⟨hm, dx, r, nu, l, m, kr, kn, las, h⟩ := h
  exact ⟨fun w hw => (hm w hw).gr g, dx, r, nu, l, m, kr, kn, las, TabOwn.gr g hm h⟩
theorem WorO.at {K : PySem.W.Frag} {H : Hp} {W : List Addr} {wd t : Addr} {T : Tb Str} (h : WorO K H W wd t T) : WorAt K H wd T := by
  obtain ⟨dx, ca, vi, th, cl, cdx, kk, Wt, rfl, h0, h1, h2, h3, h4, h5⟩ := h
  exact ⟨dx, t, ca, vi, th, cl, (of_woL h1).2, h5.at⟩
theorem WorO.mut {K : PySem.W.Frag} {H : Hp} {W : List Addr} {wd t : Addr} {T : Tb Str} (h : WorO K H W wd t T) : ∀ w ∈ W, MutO H w := by
  obtain ⟨dx, ca, vi, th, cl, cdx, kk, Wt, rfl, h0, h1, h2, h3, h4, h5⟩ := h
  intro w hw
  rcases List.mem_cons.mp hw with rfl | hw
  · exact .ins h2
  · exact h5.1 w hw
theorem WorO.gr {K : PySem.W.Frag} {H H' : Hp} {W : List Addr} {wd t : Addr} {T : Tb Str} (g : Gr (tt K) H H') (h : WorO K H W wd t T) : WorO K H' W wd t T := by
  have hm := h.mut
  obtain ⟨dx, ca, vi, th, cl, cdx, kk, Wt, rfl, h0, h1, h2, h3, h4, h5⟩ := h
  have gw := g.woL (W := ca :: Wt) fun w hw => (hm w hw).gr g
  exact ⟨dx, ca, vi, th, cl, cdx, kk, Wt, rfl, h0, gw.ins h1, g.ins h2, gw.dK h3, gw.lst h4, h5.gr g⟩
section
variable {P : Program} {w : World} {K : PySem.W.Frag} {mg : Str → Option Value} {base : Heap}
def spRing (K : PySem.W.Frag) : Sp := fun vs H Q _ => ∃ (t : Addr) (T : Tb Str) (n o : Str), vs = [.ref t, .str n, .str o] ∧ TabAt K H t T ∧ WfT T ∧ o ∈ M.names T.es ∧ NamesOk T.es ∧ n ≠ o ∧ ¬ M.Reach (fun x y => y ∈ M.next T x) o n ∧ Ans (tt K) H Q .non
theorem sc_Table_ring_by : FnScope ["self", "name", "other", "road"] ["self", "name", "other"] (defScope s_Table_ring_by) := ⟨rfl, rfl, rfl, by decide +kernel, rfl, by decide +kernel, by decide +kernel⟩
theorem ok_Table_ring_by (c : Tx K mg base) : Ok P w K mg base 5 (ma K (ga K "Table") "ring_by") ["self", "name", "other"] (spRing K) := by
  refine Ok.mk' (fd_Table_ring_by c) sc_Table_ring_by (fun _ _ _ _ _ _ us hl => match us, hl with | [_, _, _], _ => rfl) (fun vs H Q E h => ?_) (fun cdv A outer s H vs Q E hr h => ?_)
  · obtain ⟨t, T, n, o, rfl, _⟩ := h
    rfl
  · obtain ⟨t, T, n, o, rfl, hT, wf, ho, hnm, hno, hre, k⟩ := h
    refine ⟨_, (pss_cons (ps_if (pt_cmpR op_eq (pv 1) (pv 2) (nomark _)) (pss_one (ps_ret (pe_lst (pa_cons (pv 1) (pa_cons (pv 1) pa_nil))))) pss_nil) (pss_cons (ps_set (i := 3) sc_Table_ring_by.nd rfl (Or.inl rfl) ((ok_Table_shortest_road c).meth hr (by decide) (cl_Table c) (me_Table_shortest_road c) (pv 0) (pa_cons (pv 2) (pa_cons (pv 1) pa_nil)))) (pss_one (ps_ret (pe_ifExp (pt_cmpR op_isN (pv 3) pe_non (nomark _)) pe_non (pe_lst (pa_cons (pv 1) (paStar K rfl (pv 3) pa_nil)))))))), ?_⟩
    have hT' := hT
    obtain ⟨dx, r, nu, l, m, kn, h1, _⟩ := hT'
    refine ⟨_, rfl, _, rfl, rfl, _, rfl, ?_⟩
    have e0 : decide (V.str n = V.str o) = false := decide_eq_false fun z => hno (by cases z; rfl)
    rw [e0]
    refine iteF ?_
    refine ⟨_, rfl, t, dx, _, rfl, h1, rfl, _, rfl, _, rfl, t, T, o, n, rfl, hT, wf, ho, hnm, Ne.symm hno, hre, fun H1 g1 => ?_⟩
    exact ⟨_, rfl, rfl, _, rfl, iteT (k _ g1)⟩
def spCacheInit (K : PySem.W.Frag) : Sp := fun vs H Q _ => ∃ (x dx : Addr), vs = [.ref x] ∧ H x = some (.ins (ga K "Cache") dx []) ∧ ∀ kk, H kk = none → Q .non (upd (upd H kk (.dK [])) x (.ins (ga K "Cache") dx (keptF kk)))
theorem sc_Cache_init : FnScope ["self"] ["self"] (defScope s_Cache_init) := ⟨rfl, rfl, rfl, by decide +kernel, rfl, by decide +kernel, by decide +kernel⟩
theorem ok_Cache_init (c : Tx K mg base) : Ok P w K mg base 1 (ma K (ga K "Cache") "__init__") ["self"] (spCacheInit K) := by
  refine Ok.mk' (fd_Cache_init c) sc_Cache_init (fun _ _ _ _ _ _ us hl => match us, hl with | [_], _ => rfl) (fun vs H Q E h => ?_) (fun cdv A outer s H vs Q E hr h => ?_)
  · obtain ⟨x, dx, rfl, _⟩ := h
    rfl
  · obtain ⟨x, dx, rfl, hx, k⟩ := h
    refine ⟨_, (pss_one (ps_fld (pv 0) pe_dnewK rfl)), ?_⟩
    refine fun d hd => ?_
    have xd : x ≠ d := ne_of_none hx hd
    exact ⟨_, rfl, x, _, dx, [], rfl, by rw [upd_ne xd]; exact hx, cl_Cache c, na_Cache_kept c, by decide, k d hd⟩
def spCRef (K : PySem.W.Frag) : Sp := fun vs H Q _ => ∃ (ca t cdx kk : Addr), vs = [.ref ca, .ref t] ∧ H ca = some (.ins (ga K "Cache") cdx (keptF kk)) ∧ H kk = some (.dK []) ∧ ∀ H' kk', Gr (tt K) (woL [ca] H) (woL [ca] H') → H' ca = some (.ins (ga K "Cache") cdx (keptF kk')) → H kk' = none → H' kk' = some (.dK []) → Q .non H'
theorem sc_Cache_refresh : FnScope ["self", "table", "fresh", "name", "answers", "here", "one"] ["self", "table"] (defScope s_Cache_refresh) := ⟨rfl, rfl, rfl, by decide +kernel, rfl, by decide +kernel, by decide +kernel⟩
theorem ok_Cache_refresh (c : Tx K mg base) : Ok P w K mg base 1 (ma K (ga K "Cache") "refresh") ["self", "table"] (spCRef K) := by
  refine Ok.mk' (fd_Cache_refresh c) sc_Cache_refresh (fun _ _ _ _ _ _ us hl => match us, hl with | [_, _], _ => rfl) (fun vs H Q E h => ?_) (fun cdv A outer s H vs Q E hr h => ?_)
  · obtain ⟨ca, t, cdx, kk, rfl, _⟩ := h
    rfl
  · obtain ⟨ca, t, cdx, kk, rfl, hca, hkk, k⟩ := h
    refine ⟨_, (pss_cons (ps_set (i := 2) sc_Cache_refresh.nd rfl (Or.inl rfl) pe_dnewK) (pss_cons (ps_lock (ps_for PassesOwn.never rfl (pi_items (fldK K rfl (pv 0) rfl)) (gtupK K (n := 2) rfl rfl (pgs_cons (pg_name (i := 3) sc_Cache_refresh.nd rfl (Or.inr rfl)) (pgs_cons (pg_name (i := 4) sc_Cache_refresh.nd rfl (Or.inr rfl)) pgs_nil))) pss_never)) (pss_one (ps_fld (pv 0) (pv 2) rfl)))), ?_⟩
    intro f hf
    have cf : ca ≠ f := ne_of_none hca hf
    have kf : kk ≠ f := ne_of_none hkk hf
    have hca1 : upd H f (.dK []) ca = some (.ins (ga K "Cache") cdx (keptF kk)) := by rw [upd_ne cf]; exact hca
    have hkk1 : upd H f (.dK []) kk = some (.dK []) := by rw [upd_ne kf]; exact hkk
    have hf1 : upd H f (.dK []) f = some (.dK []) := upd_same
    have g1 : Gr (tt K) (woL [ca] H) (woL [ca] (upd H f (.dK []))) := Gr.newW hf (by simp [cf.symm])
    generalize upd H f (.dK []) = H1 at *
    refine ⟨kk, _, hkk1, trivial, fun od => ?_⟩
    have kc : ca ≠ kk := fun e => by
      rw [e, hkk] at hca
      cases hca
    have hlk : upd H1 kk (.frz od (.dK [])) kk = some (.frz od (.dK [])) := upd_same
    refine ⟨_, rfl, ca, _, cdx, _, _, rfl, by rw [upd_ne kc]; exact hca1, cl_Cache c, na_Cache_kept c, rfl, kk, od, [], rfl, hlk, ?_⟩
    refine for_it (walk_items (d := kk) (o := od) (kvs := [])) (fun i σ H' => H' = upd H1 kk (.frz od (.dK [])) ∧ ∃ x y z u, σ = [some (.ref ca), some (.ref t), some (.ref f), x, y, z, u]) ⟨rfl, _, _, _, _, rfl⟩ (fun i σ H' _ h => by rw [h.1]; exact hlk) (fun i x σ H' H'' hi => absurd hi (Nat.not_lt_zero _)) ?_
    rintro σ H' ⟨rfl, x, y, z, u, rfl⟩
    refine ⟨hlk, ?_⟩
    rw [L2.upd_upd, upd_id hkk1]
    refine ⟨_, rfl, _, rfl, ca, _, cdx, _, rfl, hca1, cl_Cache c, na_Cache_kept c, by show 1 < 1000; decide, ?_⟩
    exact k _ f (by rw [woL_upd (by simp)]; exact g1) upd_same hf (by rw [upd_ne cf.symm]; exact hf1)
theorem KnOk.other {H H' : Hp} {t ca cdx kk C : Addr} {n : Nat} (h : KnOk K H t n) (hc : H ca = some (.ins C cdx (keptF kk))) (g : Gr (tt K) (woL [ca] H) (woL [ca] H')) : KnOk K H' t n := by
  obtain ⟨dx, r, nu, l, m, kn, h1, h2, h3⟩ := h
  have a1 : t ≠ ca := fun e => by
    rw [e, hc] at h1
    injection h1 with h1
    injection h1 with z1 z2 z3
    unfold keptF tabF at z3
    simp at z3
  have a2 : nu ≠ ca := fun e => by
    rw [e, hc] at h2
    cases h2
  have b1 : woL [ca] H t = H t := woL_out (by simp [a1])
  have b2 : woL [ca] H nu = H nu := woL_out (by simp [a2])
  exact ⟨dx, r, nu, l, m, kn, (of_woL (g.ins (b1.trans h1))).2, (of_woL (g.dK (b2.trans h2))).2, h3⟩
def spWRef (K : PySem.W.Frag) : Sp := fun vs H Q _ => ∃ (wd t : Addr) (W : List Addr) (T : Tb Str), vs = [.ref wd] ∧ WorO K H W wd t T ∧ ∀ H', Gr (tt K) (woL W H) (woL W H') → WorO K H' W wd t T → (∀ n, KnOk K H t n → KnOk K H' t n) → Q .non H'
theorem sc_World_refresh : FnScope ["self", "kept"] ["self"] (defScope s_World_refresh) := ⟨rfl, rfl, rfl, by decide +kernel, rfl, by decide +kernel, by decide +kernel⟩
theorem ok_World_refresh (c : Tx K mg base) : Ok P w K mg base 2 (ma K (ga K "World") "refresh") ["self"] (spWRef K) := by
  refine Ok.mk' (fd_World_refresh c) sc_World_refresh (fun _ _ _ _ _ _ us hl => match us, hl with | [_], _ => rfl) (fun vs H Q E h => ?_) (fun cdv A outer s H vs Q E hr h => ?_)
  · obtain ⟨wd, t, W, T, rfl, _⟩ := h
    rfl
  · obtain ⟨wd, t, W, T, rfl, hW, k⟩ := h
    refine ⟨_, (pss_cons (ps_expr ((ok_Cache_refresh c).meth hr (by decide) (cl_Cache c) (me_Cache_refresh c) (fldK K rfl (pv 0) rfl) (pa_cons (fldK K rfl (pv 0) rfl) pa_nil))) (pss_one (ps_for PassesOwn.never rfl (piL K rfl (fldK K rfl (pv 0) rfl)) (pg_name (i := 1) sc_World_refresh.nd rfl (Or.inl rfl)) pss_never))), ?_⟩
    have hmut := hW.mut
    obtain ⟨dx, ca, vi, th, cl, cdx, kk, Wt, rfl, h0, h1, h2, h3, h4, h5⟩ := hW
    have h1' := (of_woL h1).2
    refine ⟨_, rfl, wd, _, dx, _, _, rfl, h1', cl_World c, na_World_cache c, rfl, ca, cdx, _, rfl, h2, rfl, _, rfl, wd, _, dx, _, _, rfl, h1', cl_World c, na_World_table c, rfl, ?_⟩
    refine ⟨ca, t, cdx, kk, rfl, h2, (of_woL h3).2, fun H' kk' g hc' hkn hkk' => ?_⟩
    have hmc : ∀ w ∈ Wt, MutO (woL [ca] H) w := fun w hw => by
      obtain ⟨o, e, n1, n2⟩ := hmut w (List.mem_cons_of_mem _ hw)
      refine ⟨o, ?_, n1, n2⟩
      rw [woL_out (fun z => h0 (by rw [← List.mem_singleton.mp z]; exact hw))]
      exact e
    have gW : Gr (tt K) (woL (ca :: Wt) H) (woL (ca :: Wt) H') := by
      rw [woL_cons h0, woL_cons h0]
      exact g.woL fun w hw => (hmc w hw).gr g
    have hW' : WorO K H' (ca :: Wt) wd t T := by
      refine ⟨dx, ca, vi, th, cl, cdx, kk', Wt, rfl, h0, gW.ins h1, hc', ?_, gW.lst h4, h5.other h2 h0 g⟩
      rw [woL_out]
      · exact hkk'
      · intro z
        obtain ⟨o, e, _⟩ := hmut _ z
        rw [hkn] at e
        cases e
    have h1'' := (of_woL (gW.ins h1)).2
    refine ⟨_, rfl, wd, _, dx, _, _, rfl, h1'', cl_World c, na_World_choice_lists c, rfl, cl, rfl, ⟨_, SqL.of (of_woL (gW.lst h4)).2⟩, ?_⟩
    refine for_list (K := K) (a := cl) (xs := []) (fun i σ H2 => H2 = H') rfl (fun i σ H2 _ h => by rw [h]; exact SqL.of (of_woL (gW.lst h4)).2) (fun i x σ H2 hi => by simp at hi) ?_
    rintro σ H2 rfl
    exact k _ gW hW' fun n hk => hk.other h2 g
def spLookR (K : PySem.W.Frag) : Sp := fun vs H Q _ => ∃ (wd : Addr) (T : Tb Str) (n o : Str), vs = [.ref wd, .str n, .str o] ∧ WorAt K H wd T ∧ WfT T ∧ NamesOk T.es ∧ n ∈ M.names T.es ∧ o ∈ M.names T.es ∧ M.sworn T.es n = true ∧ n ≠ o ∧ ¬ M.Reach (fun x y => y ∈ M.next T x) o n ∧ Ans (tt K) H Q .non
theorem sc_World_look_registration : FnScope ["self", "cls", "other", "ring"] ["self", "cls", "other"] (defScope s_World_look_registration) := ⟨rfl, rfl, rfl, by decide +kernel, rfl, by decide +kernel, by decide +kernel⟩
theorem ok_World_look_registration (c : Tx K mg base) : Ok P w K mg base 6 (ma K (ga K "World") "look_registration") ["self", "cls", "other"] (spLookR K) := by
  refine Ok.mk' (fd_World_look_registration c) sc_World_look_registration (fun _ _ _ _ _ _ us hl => match us, hl with | [_, _, _], _ => rfl) (fun vs H Q E h => ?_) (fun cdv A outer s H vs Q E hr h => ?_)
  · obtain ⟨wd, T, n, o, rfl, _⟩ := h
    rfl
  · obtain ⟨wd, T, n, o, rfl, hW, wf, hnm, hn, ho, hs, hno, hre, k⟩ := h
    refine ⟨_, (pss_cons (ps_expr ((ok_World_look c).meth hr (by decide) (cl_World c) (me_World_look c) (pv 0) (pa_cons (pv 1) (pa_cons (pv 2) pa_nil)))) (pss_cons (ps_if (pt_not (pt_val ((ok_Table_sworn c).meth hr (by decide) (cl_Table c) (me_Table_sworn c) (fldK K rfl (pv 0) rfl) (pa_cons (pv 1) pa_nil)))) pss_never pss_nil) (pss_cons (ps_set (i := 3) sc_World_look_registration.nd rfl (Or.inl rfl) ((ok_Table_ring_by c).meth hr (by decide) (cl_Table c) (me_Table_ring_by c) (fldK K rfl (pv 0) rfl) (pa_cons (pv 1) (pa_cons (pv 2) pa_nil)))) (pss_one (ps_if (pt_cmpR op_notN (pv 3) pe_non (nomark _)) pss_never pss_nil))))), ?_⟩
    have hW' := hW
    obtain ⟨dw, t, ca, vi, th, cl, hw, hT⟩ := hW'
    have hT' := hT
    obtain ⟨dx, r, nu, l, m, kn, h1, h2, h3, h4⟩ := hT'
    refine ⟨_, rfl, wd, dw, _, rfl, hw, rfl, _, rfl, _, rfl, wd, T, [n, o], rfl, hW, (by show 2 ≤ 1000; decide), ?_, fun H1 g1 => ?_⟩
    · intro x hx
      rcases List.mem_cons.mp hx with rfl | hx
      · exact hn
      · rw [List.mem_singleton.mp hx]
        exact ho
    · refine ⟨_, rfl, wd, _, dw, _, _, rfl, g1.ins hw, cl_World c, na_World_table c, rfl, t, dx, _, rfl, g1.ins h1, rfl, _, rfl, t, T, n, rfl, hT.mono g1, wf.toWf, hn, fun H2 g2 => ⟨_, rfl, ?_⟩⟩
      rw [hs]
      refine iteF ?_
      have g12 := g1.trans g2
      refine ⟨_, rfl, wd, _, dw, _, _, rfl, g12.ins hw, cl_World c, na_World_table c, rfl, t, dx, _, rfl, g12.ins h1, rfl, _, rfl, _, rfl, t, T, n, o, rfl, hT.mono g12, wf, ho, hnm, hno, hre, fun H3 g3 => ?_⟩
      exact ⟨_, rfl, rfl, _, rfl, iteF (k _ (g12.trans g3))⟩
def spAdmit (K : PySem.W.Frag) : Sp := fun vs H Q _ => ∃ (wd t : Addr) (W : List Addr) (T : Tb Str) (n o : Str), vs = [.ref wd, .str n, .str o] ∧ WorO K H W wd t T ∧ WfT T ∧ NamesOk T.es ∧ n ∈ M.names T.es ∧ o ∈ M.names T.es ∧ M.sworn T.es n = true ∧ n ≠ o ∧ ¬ M.Reach (fun x y => y ∈ M.next T x) o n ∧ o ∉ T.rg n ∧
  ∀ H', Gr (tt K) (woL W H) (woL W H') → WorO K H' W wd t (M.admit T n o) → Q (.str o) H'
theorem sc_World_admit : FnScope ["self", "cls", "other"] ["self", "cls", "other"] (defScope s_World_admit) := ⟨rfl, rfl, rfl, by decide +kernel, rfl, by decide +kernel, by decide +kernel⟩
theorem ok_World_admit (c : Tx K mg base) : Ok P w K mg base 7 (ma K (ga K "World") "admit") ["self", "cls", "other"] (spAdmit K) := by
  refine Ok.mk' (fd_World_admit c) sc_World_admit (fun _ _ _ _ _ _ us hl => match us, hl with | [_, _, _], _ => rfl) (fun vs H Q E h => ?_) (fun cdv A outer s H vs Q E hr h => ?_)
  · obtain ⟨wd, t, W, T, n, o, rfl, _⟩ := h
    rfl
  · obtain ⟨wd, t, W, T, n, o, rfl, hW, wf, hnm, hn, ho, hs, hno, hre, hnr, k⟩ := h
    refine ⟨_, (pss_cons (ps_expr ((ok_World_look_registration c).meth hr (by decide) (cl_World c) (me_World_look_registration c) (pv 0) (pa_cons (pv 1) (pa_cons (pv 2) pa_nil)))) (pss_cons (ps_expr ((ok_Table_add_registration c).meth hr (by decide) (cl_Table c) (me_Table_add_registration c) (fldK K rfl (pv 0) rfl) (pa_cons (pv 1) (pa_cons (pv 2) pa_nil)))) (pss_cons (ps_expr ((ok_World_refresh c).meth0 hr (by decide) (cl_World c) (me_World_refresh c) (pv 0))) (pss_one (ps_ret (pv 2)))))), ?_⟩
    have hat := hW.at
    have hW0 := hW
    obtain ⟨dw, _, _, _, _, _, _, _, _, _, h1, _⟩ := hW0
    have h1' := (of_woL h1).2
    refine ⟨_, rfl, wd, dw, _, rfl, h1', rfl, _, rfl, _, rfl, wd, T, n, o, rfl, hat, wf, hnm, hn, ho, hs, hno, hre, fun H1 g1 => ?_⟩
    have gm := g1.woL (W := W) fun w hw => (hW.mut w hw).gr g1
    have hW1 := hW.gr g1
    clear h1 h1'
    obtain ⟨dx, ca, vi, th, cl, cdx, kk, Wt, rfl, h0, h1, h2, h3, h4, h5⟩ := hW1
    have hT := h5.at
    obtain ⟨dt, r, nu, l, m, kn, t1, _⟩ := hT
    refine ⟨_, rfl, wd, _, dx, _, _, rfl, (of_woL h1).2, cl_World c, na_World_table c, rfl, t, dt, _, rfl, t1, rfl, _, rfl, _, rfl, t, T, Wt, n, o, rfl, h5, wf.nd, hn, hnr, Nat.le_trans (wf.regs n) (by decide), fun H2 g2 hO2 => ?_⟩
    have hc2 : woL Wt H2 ca = some (.ins (ga K "Cache") cdx (keptF kk)) := g2.ins (by rw [woL_out h0]; exact h2)
    have gW : Gr (tt K) (woL (ca :: Wt) H1) (woL (ca :: Wt) H2) := by
      have e : ∀ G : Hp, woL (ca :: Wt) G = woL [ca] (woL Wt G) := fun G => by rw [woL_app] <;> rfl
      rw [e, e]
      exact g2.woL fun w hw => by
        rw [List.mem_singleton.mp hw]
        exact .ins hc2
    have hW2 : WorO K H2 (ca :: Wt) wd t (M.admit T n o) := ⟨dx, ca, vi, th, cl, cdx, kk, Wt, rfl, h0, gW.ins h1, (of_woL hc2).2, gW.dK h3, gW.lst h4, hO2⟩
    refine ⟨_, rfl, wd, dx, _, rfl, (of_woL (gW.ins h1)).2, rfl, wd, t, ca :: Wt, M.admit T n o, rfl, hW2, fun H3 g3 hW3 _ => ?_⟩
    exact ⟨_, rfl, k _ ((gm.trans gW).trans g3) hW3⟩
end
end SW


set_option maxHeartbeats 2000000
namespace SW
open PySem PySem.Spec PyProof.Rows L2 He LamX NdefX
open SW.M (Ent Tb Oc)
/-! ## o.m(a, .., k = v, ..), the def with a star and names after it, all of them given -/
def FnK (P : Program) (w : World) (K : PySem.W.Frag) (mg : Str → Option Value) (base : Heap) (k : Nat) (f : Addr) (ks : List Str) (sk : List V → List V → Hp → VK → Prop) : Prop :=
  ∀ (A : Around) (outer : List Env) (s : Shared) (H : Hp) (us ws : List Value) (vs zs : List V) (Q : VK), Room k A → Env0 P w K mg base A outer s H → Vals vs us → Vals zs ws → zs.length = ks.length → sk vs zs H Q →
    codeAny (model P w) A (.call (.ref f) ⟨us, ks.zip ws⟩) (CR CX0 outer P w H s Q E0) s
section
variable {P : Program} {w : World} {K : PySem.W.Frag} {mg : Str → Option Value} {base : Heap} {k : Nat} {f : Addr} {nm qual : Str} {params : Arguments} {body : List Stmt} {scope : Scope} {dV kV doc pm cdv ct oc : Value} {an od : Option Addr}
  {osl : Array (Option Value)} {N ps ks : List Str} {sp : List V → Hp → VK → Prop} {pv : Str}
theorem fnk_of (lk : K.lookup f = some ⟨oc, od, .func (PySem.W.fnOf nm qual params body scope dV kV doc pm an cdv ct), osl⟩) (hcd : PySem.W.codeIn K cdv qual = true) (S : FnScope N (ps ++ (ks ++ [pv])) scope)
    (hb : ∀ us rest ws : List Value, us.length = ps.length → ws.length = ks.length → bindArgs (PySem.W.fnOf nm qual params body scope dV kV doc pm an cdv ct) ⟨us ++ rest, ks.zip ws⟩ = (newTuple rest >>= fun t => pure (ps.zip us ++ (ks.zip ws ++ [(pv, t)]))))
    (hbody : ∀ (A : Around) (outer : List Env) (s : Shared) (H : Hp) (vs : List V) (Q : VK), Room k (A.deeper (envOfC qual scope s.heap.objs.size f cdv)) → sp vs H Q →
      ∃ t, PSs (cxOf CX0 P w K mg base N qual scope f cdv A outer s H E0) body t ∧ t { nx := fun _ H' => Q .non H', rt := Q } (start N vs) H) :
    FnK P w K mg base (k + 1) f ks (fun vs zs H Q => ∃ v1 rest, vs = v1 ++ rest ∧ v1.length = ps.length ∧ rest.length ≤ sizeLine ∧ ∀ p, H p = Option.none → sp (v1 ++ (zs ++ [V.ref p])) (upd H p (.tup rest)) Q) := by
  intro A outer s H us ws vs zs Q room e0 rv rz hzl hsp
  obtain ⟨v1, rest, rfl, hl, hz, go⟩ := hsp
  obtain ⟨u1, u2, rfl, r1, r2⟩ := StX.vals_split rv
  have hn : H s.heap.objs.size = Option.none := e0.hok.fresh (Nat.le_refl _)
  have l1 : u1.length = ps.length := by rw [← r1.length]; exact hl
  have l2 : u2.length ≤ sizeLine := by rw [← r2.length]; exact hz
  have l3 : ws.length = ks.length := by rw [← rz.length]; exact hzl
  refine StX.run_bnd lk hcd S room e0 (G := fun xs H2 => ∃ p, H p = Option.none ∧ xs = v1 ++ (zs ++ [V.ref p]) ∧ H2 = upd H p (.tup rest)) (fun A' Ex Q' hk => ?_) fun s2 H2 xs hG hr' => ?_
  · rw [hb u1 u2 ws l1 l3]
    refine wpAny_bind (wpAny_newTuple (wpAny_pure ?_) l2)
    have un := StX.un_laid (fs := frs outer) (s := s) (o := ({ cls := .type "tuple", data := .seq u2.toArray } : Obj)) (u := .tup rest) hn
    have okT : ObjOk P w (upd H s.heap.objs.size (HO.tup rest)) (s.heap.push ({ cls := .type "tuple", data := .seq u2.toArray } : Obj)) s.heap.objs.size (HO.tup rest) := ⟨hz, u2, r2, _, Heap.get?_push_size _ rfl, rfl, _, rfl⟩
    have fin := hk _ _ (v1 ++ (zs ++ [V.ref s.heap.objs.size])) (u1 ++ (ws ++ [Value.ref s.heap.objs.size])) (StX.env0_laid e0 okT) un rfl (fun e s' h => h) (r1.append (rz.append (.cons rfl .nil)))
      (by rw [List.length_append, List.length_append, List.length_append, List.length_append, hl, hzl] <;> rfl) ⟨_, hn, rfl, rfl⟩
    rw [List.zip_append l1.symm, List.zip_append l3.symm] at fin
    exact fin
  · obtain ⟨p, hp, ex, eH⟩ := hG
    subst ex eH
    exact hbody A outer s2 _ _ Q hr' (go p hp)
end
def tMethK (C : Addr) (m : Str) (n : Nat) (sk : List V → List V → Hp → VK → Prop) (ta : TE) (t tk : TA) : TE := fun σ H Q => ta σ H fun x H1 => ∃ a dx fs, x = .ref a ∧ H1 a = some (.ins C dx fs) ∧ fs.lookup m = none ∧ t σ H1 fun vs H2 => tk σ H2 fun zs H3 => zs.length = n ∧ sk (.ref a :: vs) zs H3 Q
theorem pe_methK {X : Cx} {k j : Nat} {f C : Addr} {sk : List V → List V → Hp → VK → Prop} {m : Str} {ks : List Str} {pos apos : Pos} {e o : Expr} {es : List Expr} {kws : List Keyword} {ta : TE} {t tk : TA} {pl : Sem Bool} (F : FnK X.prog X.w X.K X.mg X.base k f ks sk) (hr : Room j X.A) (hj : k ≤ j) (c : Cls X.K C) (hm : Meth X.K C m f) (ho : PE X o ta) (ha : PA X (e :: es) t) (hkw : PK X kws tk)
    (hall : (backToKw pos (keywordEach kws X.env)).all (·.1.isSome) = true := by rfl) (hks : (backToKw pos (keywordEach kws X.env)).filterMap (·.1) = ks := by rfl) (hst : starEach (e :: es) X.env = (false, eval e X.env) :: starEach es X.env := by rfl)
    (hpl : ((backTo pos (starEach (e :: es) X.env)).any (·.1) || (backToKw pos (keywordEach kws X.env)).any (·.1.isNone)) = false := by rfl)
    (ht : eval (.Call (.Attribute o m apos) (e :: es) kws pos) X.env = (do
      let ov ← eval o X.env
      standAt apos.atName
      let (f, first) ← holding [ov] (getMethod ov m pl)
      callWith pos f first (backTo pos (starEach (e :: es) X.env)) (backToKw pos (keywordEach kws X.env))) := by rfl) :
    PE X (.Call (.Attribute o m apos) (e :: es) kws pos) (tMethK C m ks.length sk ta t tk) := by
  refine ⟨fun pins s σ H Q I h => PySem.W.methodCall_KW (pl := pl) (thn (ho.run pins s σ H _ I h) fun u s1 h1 => ?_) ht⟩
  obtain ⟨x, H1, I1, rx, a, dx, fs, ex, ea, l, q⟩ := h1
  subst ex
  obtain rfl : u = Value.ref a := rx
  refine getmeth_ok I1 ea c hm l (PySem.W.callWith_KW (first := [.ref a]) (h₀ := X.base) I.ok.mod.kin hm.kp hall (thn (ha.run pos pins s1 σ H1 _ I1 q) fun us s2 h2 => ?_) hpl hst)
  obtain ⟨vs, H2, I2, r, q2⟩ := h2
  refine thn (hkw.run pos pins s2 σ H2 _ I2 q2) fun ws s3 h3 => ?_
  obtain ⟨zs, H3, I3, rz, lz, q3⟩ := h3
  refine ⟨I3.kIn, ?_⟩
  rw [hks]
  refine wpAny_call (codeAny_mono (F X.A X.stack s3 H3 (.ref a :: us) ws (.ref a :: vs) zs Q (hr.mono hj) I3.env0 (.cons rfl r) rz lz q3) fun res s' hq => ?_)
  cases res with
  | error e => exact (show False from hq).elim
  | ok fl =>
    cases fl with
    | ret u => exact I3.after hq
    | next => exact False.elim hq
    | brk => exact False.elim hq
    | cont => exact False.elim hq
end SW


set_option maxHeartbeats 2000000
namespace SW
open PySem PySem.Spec PyProof.Rows L2 He LamX NdefX
open SW.M (Ent Tb Oc)
section
variable {P : Program} {w : World} {K : PySem.W.Frag} {mg : Str → Option Value} {base : Heap}
def spMakeT (K : PySem.W.Frag) : List V → Hp → VK → Prop := fun vs H Q => ∃ (wd t : Addr) (W : List Addr) (T : Tb Str) (E : En) (bp mp : Addr) (hv : V) (n : Nat), vs = [.ref wd, .str E.label, .bl E.own, .ref mp, hv, .bl E.passed, .ref bp] ∧ WorO K H W wd t T ∧ KnOk K H t n ∧ n ≤ 50 ∧ Mades T.es ∧ T.es.length ≤ 12 ∧ EntOk T.es E ∧ T.rg E.label = [] ∧
  woL W H bp = some (.tup (sv E.parents)) ∧ PairsAt H mp E.marks ∧ HookAt (woL W H) hv E.hook ∧ ∀ H' W', Gr (tt K) (woL W H) (woL W' H') → WorO K H' W' wd t ⟨T.es ++ [E], T.rg⟩ → KnOk K H' t (n + 1) → Q .non H'
def spMake (K : PySem.W.Frag) : List V → List V → Hp → VK → Prop := fun vs zs H Q => ∃ (wd t : Addr) (W : List Addr) (T : Tb Str) (E : En) (mp : Addr) (hv : V) (n : Nat), vs = .ref wd :: .str E.label :: sv E.parents ∧ zs = [.bl E.own, .ref mp, hv, .bl E.passed] ∧ WorO K H W wd t T ∧ KnOk K H t n ∧ n ≤ 50 ∧ Mades T.es ∧ T.es.length ≤ 12 ∧ EntOk T.es E ∧ T.rg E.label = [] ∧
  PairsAt H mp E.marks ∧ HookAt (woL W H) hv E.hook ∧ ∀ H' W', Gr (tt K) (woL W H) (woL W' H') → WorO K H' W' wd t ⟨T.es ++ [E], T.rg⟩ → KnOk K H' t (n + 1) → Q .non H'
theorem sc_World_make : FnScope ["self", "name", "sworn", "marks", "hook", "passed", "bases"] ["self", "name", "sworn", "marks", "hook", "passed", "bases"] (defScope s_World_make) := ⟨rfl, rfl, rfl, by decide +kernel, rfl, by decide +kernel, by decide +kernel⟩
abbrev sN_World_make : List Str := ["self", "name", "sworn", "marks", "hook", "passed", "bases"]
theorem ok_World_make (c : Tx K mg base) : FnK P w K mg base 7 (ma K (ga K "World") "make") ["sworn", "marks", "hook", "passed"] (spMake K) := by
  obtain ⟨fd, F⟩ := fd_World_make c
  obtain ⟨oc, od, dV, kV, doc, pm, an, cdv, ct, osl, rfl, lk, hcd, hD, _⟩ := F.ex
  have hd : dV = .none := by
    rcases hD with ⟨e, _⟩ | ⟨e, _⟩
    · first | exact e | assumption
    · exact absurd rfl e
  subst hd
  have fk : FnK P w K mg base 7 (ma K (ga K "World") "make") ["sworn", "marks", "hook", "passed"] (fun vs zs H Q => ∃ v1 rest, vs = v1 ++ rest ∧ v1.length = ["self", "name"].length ∧ rest.length ≤ sizeLine ∧ ∀ p, H p = Option.none → spMakeT K (v1 ++ (zs ++ [V.ref p])) (upd H p (.tup rest)) Q) := by
    refine fnk_of (ps := ["self", "name"]) (ks := ["sworn", "marks", "hook", "passed"]) (pv := "bases") (sp := spMakeT K) (k := 6) lk hcd sc_World_make (fun us rest ws l1 l2 => ?_) fun A outer s H vs Q hr h => ?_
    · match us, rest, ws, l1, l2 with
      | [_, _], [], [_, _, _, _], _, _ => rfl
      | [_, _], _ :: _, [_, _, _, _], _, _ => rfl
    · obtain ⟨wd, t, W, T, E, bp, mp, hv, n, rfl, hW, hkn, hn, hM, hz, ok, hrg, hbp, hmp, hhv, k⟩ := h
      refine ⟨_, PSs.nox (pss_cons (ps_expr ((ok_Table_add_class c).meth hr (by decide) (cl_Table c) (me_Table_add_class c) (fldK K rfl (pv 0) rfl) (pa_cons ((ok_new_entry c).call hr (by decide) (g_new_entry c) (pa_cons (fldK K rfl (pv 0) rfl) (pa_cons (pv 1) (pa_cons (pv 6) (pa_cons (pv 2) (pa_cons (pv 3) (pa_cons (pv 4) (pa_cons (pv 5) pa_nil)))))))) pa_nil))) (pss_one (ps_expr ((ok_World_refresh c).meth0 hr (by decide) (cl_World c) (me_World_refresh c) (pv 0))))), ?_⟩
      have hmut := hW.mut
      have hW0 := hW
      obtain ⟨dx, ca, vi, th, cl, cdx, kk, Wt, rfl, h0, h1, h2, h3, h4, h5⟩ := hW0
      have hT := h5.at
      have hT' := hT
      obtain ⟨dt, r, nu, l, m, kn, t1, _⟩ := hT'
      have h1' := (of_woL h1).2
      refine ⟨_, rfl, wd, _, dx, _, _, rfl, h1', cl_World c, na_World_table c, rfl, t, dt, _, rfl, t1, rfl, ?_⟩
      refine ⟨_, rfl, wd, _, dx, _, _, rfl, h1', cl_World c, na_World_table c, rfl, _, rfl, _, rfl, _, rfl, _, rfl, _, rfl, _, rfl, ?_⟩
      refine ⟨t, T, E, bp, mp, hv, ca :: Wt, rfl, hT, hM, hz, ok, hmut, hbp, hmp, hhv, fun H1 e g1 he => ?_⟩
      have gm := g1.woL (W := ca :: Wt) fun w hw => (hmut w hw).gr g1
      have hkn1 : KnOk K H1 t n := by
        obtain ⟨_, _, _, _, _, _, k1, k2, k3⟩ := hkn
        exact ⟨_, _, _, _, _, _, g1.ins k1, g1.dK k2, k3⟩
      have hW1 := hW.gr g1
      clear h1 h1' h2 h3 h4 h5 hT t1
      obtain ⟨dx1, ca1, vi1, th1, cl1, cdx1, kk1, Wt1, ew, h0', h1, h2, h3, h4, h5⟩ := hW1
      injection ew with ew1 ew2
      subst ew1 ew2
      refine ⟨t, T, Wt, e, E, n, rfl, h5, he.mono (gr_sub (B := tt K) fun b hb => List.mem_cons_of_mem _ hb), hkn1, Nat.le_trans hn (by decide), ok.new, hrg, Nat.le_trans hz (by decide), fun H2 la g2 hO2 hkn2 => ?_⟩
      have hc2 : woL (la :: Wt) H2 ca = some (.ins (ga K "Cache") cdx1 (keptF kk1)) := g2.ins (by rw [woL_out h0]; exact h2)
      have gW : Gr (tt K) (woL (ca :: Wt) H1) (woL (ca :: la :: Wt) H2) := by
        have e1 : ∀ (G : Hp) (W : List Addr), woL (ca :: W) G = woL [ca] (woL W G) := fun G W => by rw [woL_app] <;> rfl
        rw [e1 H1 Wt, e1 H2 (la :: Wt)]
        exact g2.woL fun w hw => by
          rw [List.mem_singleton.mp hw]
          exact .ins hc2
      have hW2 : WorO K H2 (ca :: la :: Wt) wd t ⟨T.es ++ [E], T.rg⟩ := ⟨dx1, ca, vi1, th1, cl1, cdx1, kk1, la :: Wt, rfl, (of_woL hc2).1, gW.ins h1, (of_woL hc2).2, gW.dK h3, gW.lst h4, hO2⟩
      refine ⟨_, rfl, wd, dx1, _, rfl, (of_woL (gW.ins h1)).2, rfl, wd, t, ca :: la :: Wt, _, rfl, hW2, fun H3 g3 hW3 hk3 => ?_⟩
      exact k _ _ ((gm.trans gW).trans g3) hW3 (hk3 _ hkn2)
  intro A outer s H us ws vs zs Q hr e0 rv rz hzl h
  refine fk A outer s H us ws vs zs Q hr e0 rv rz hzl ?_
  obtain ⟨wd, t, W, T, E, mp, hv, n, rfl, rfl, hW, hkn, hn, hM, hz, ok, hrg, hmp, hhv, k⟩ := h
  refine ⟨[.ref wd, .str E.label], sv E.parents, rfl, rfl, by rw [sv_len]; exact Nat.le_trans ok.pfew (by decide), fun p hp => ?_⟩
  have gp : Gr (tt K) H (upd H p (.tup (sv E.parents))) := Gr.new hp
  have hpW : p ∉ W := not_in hW.mut hp
  have gpW : Gr (tt K) (woL W H) (woL W (upd H p (.tup (sv E.parents)))) := Gr.newW hp hpW
  refine ⟨wd, t, W, T, E, p, mp, hv, n, rfl, hW.gr gp, ?_, hn, hM, hz, ok, hrg, by rw [woL_out hpW, upd_same], hmp.mono gp, hhv.mono gpW, fun H' W' g hW' hk' => k H' W' (gpW.trans g) hW' hk'⟩
  obtain ⟨_, _, _, _, _, _, k1, k2, k3⟩ := hkn
  exact ⟨_, _, _, _, _, _, gp.ins k1, gp.dK k2, k3⟩
end
end SW


set_option maxHeartbeats 2000000
namespace SW
open PySem PySem.Spec PyProof.Rows L2 He LamX NdefX
open SW.M (Ent Tb Oc)
section
variable {P : Program} {w : World} {K : PySem.W.Frag} {mg : Str → Option Value} {base : Heap}
/-- the empty table -/
def T0 : Tb Str := ⟨[], fun _ => []⟩
/-- Table(), made -/
theorem tab_made {H : Hp} {X : List Addr} {Q : VK} {t dx : Addr} (hX : ∀ a ∈ X, H a ≠ none) (ht : H t = none) (hdx : H dx = none) (hne : dx ≠ t) (k : ∀ H' W, Gr (tt K) (woL X H) (woL (W ++ X) H') → TabO K H' W t T0 → KnOk K H' t 0 → (∀ a ∈ X, a ∉ W) → (∀ a ∈ X, H' a = H a) → Q .non H') :
    spTabInit K [.ref t] (upd (upd H dx (.own t)) t (.ins (ga K "Table") dx [])) Q E0 := by
  refine ⟨t, dx, rfl, upd_same, fun r nu l hr hn hl d1 d2 d3 => ?_⟩
  have tr : t ≠ r := ne_of_none upd_same hr
  have tn : t ≠ nu := ne_of_none upd_same hn
  have tl : t ≠ l := ne_of_none upd_same hl
  have hXt : t ∉ X := fun z => hX t z ht
  have hXd : dx ∉ X := fun z => hX dx z hdx
  have fr : ∀ {a}, upd (upd H dx (.own t)) t (.ins (ga K "Table") dx []) a = none → a ∉ X := fun {a} h z => by
    have h1 : a ≠ t := fun e => by
      rw [e, upd_same] at h
      cases h
    rw [upd_ne h1] at h
    have h2 : a ≠ dx := fun e => by
      rw [e, upd_same] at h
      cases h
    rw [upd_ne h2] at h
    exact hX a z h
  have rX := fr hr
  have nX := fr hn
  have lX := fr hl
  have n2 : upd (upd (upd H dx (.own t)) t (.ins (ga K "Table") dx [])) r (.dK []) nu = none := by rw [upd_ne d1.symm]; exact hn
  have l2 : upd (upd (upd (upd H dx (.own t)) t (.ins (ga K "Table") dx [])) r (.dK [])) nu (.dK []) l = none := by rw [upd_ne d3.symm, upd_ne d2.symm]; exact hl
  have e : woL ([l, nu, r, t] ++ X) (upd (upd (upd (upd (upd (upd H dx (.own t)) t (.ins (ga K "Table") dx [])) r (.dK [])) nu (.dK [])) l (.dK [])) t (.ins (ga K "Table") dx (tabF r nu l 0))) = woL X (upd H dx (.own t)) := by
    rw [woL_upd (by simp)]
    show woL (l :: (nu :: r :: t :: X)) _ = _
    rw [woL_grow l2, woL_grow n2, woL_grow hr, woL_grow]
    rw [upd_ne hne.symm]
    exact ht
  refine k _ [l, nu, r, t] (by rw [e]; exact Gr.newW hdx hXd) ⟨fun w hw => ?_, dx, r, nu, l, 0, [], [], [], upd_same, ?_, ?_, ?_, .nil, .nil, ?_, ?_⟩ ⟨dx, r, nu, l, 0, [], upd_same, ?_, Nat.le_refl _⟩ ?_ ?_
  · simp only [List.mem_cons, List.not_mem_nil, or_false] at hw
    rcases hw with rfl | rfl | rfl | rfl
    · exact .dK (by rw [upd_ne tl.symm, upd_same])
    · exact .dK (by rw [upd_ne tn.symm, upd_ne d3, upd_same])
    · exact .dK (by rw [upd_ne tr.symm, upd_ne d2, upd_ne d1, upd_same])
    · exact .ins upd_same
  · rw [upd_ne tr.symm, upd_ne d2, upd_ne d1, upd_same]
  · rw [upd_ne tn.symm, upd_ne d3, upd_same]
  · rw [upd_ne tl.symm, upd_same] <;> rfl
  · simp [tr, tn, tl, d1, d2, d3]
  · simp
  · rw [upd_ne tn.symm, upd_ne d3, upd_same]
  · intro a ha z
    simp only [List.mem_cons, List.not_mem_nil, or_false] at z
    rcases z with rfl | rfl | rfl | rfl
    · exact lX ha
    · exact nX ha
    · exact rX ha
    · exact hXt ha
  · intro a ha
    have q : ∀ {b}, b ∉ X → a ≠ b := fun h e => h (e ▸ ha)
    rw [upd_ne (q hXt), upd_ne (q lX), upd_ne (q nX), upd_ne (q rX), upd_ne (q hXt), upd_ne (q hXd)]
def spWInit (K : PySem.W.Frag) : Sp := fun vs H Q _ => ∃ (x dx : Addr), vs = [.ref x] ∧ H x = some (.ins (ga K "World") dx []) ∧ ∀ H' W t, Gr (tt K) (woL [x] H) (woL W H') → WorO K H' W x t T0 → KnOk K H' t 0 → Q .non H'
theorem sc_World_init : FnScope ["self"] ["self"] (defScope s_World_init) := ⟨rfl, rfl, rfl, by decide +kernel, rfl, by decide +kernel, by decide +kernel⟩
theorem ok_World_init (c : Tx K mg base) : Ok P w K mg base 3 (ma K (ga K "World") "__init__") ["self"] (spWInit K) := by
  refine Ok.mk' (fd_World_init c) sc_World_init (fun _ _ _ _ _ _ us hl => match us, hl with | [_], _ => rfl) (fun vs H Q E h => ?_) (fun cdv A outer s H vs Q E hr h => ?_)
  · obtain ⟨x, dx, rfl, _⟩ := h
    rfl
  · obtain ⟨x, dx, rfl, hx, k⟩ := h
    refine ⟨_, (pss_cons (ps_fld (pv 0) ((ok_Table_init c).make0 hr (by decide) (mk_Table c) (g_Table c)) rfl) (pss_cons (ps_fld (pv 0) ((ok_Cache_init c).make0 hr (by decide) (mk_Cache c) (g_Cache c)) rfl) (pss_cons (ps_fld (pv 0) (pe_lst pa_nil) rfl) (pss_cons (ps_fld (pv 0) (pe_lst pa_nil) rfl) (pss_one (ps_fld (pv 0) (pe_lst pa_nil) rfl)))))), ?_⟩
    intro t dt ht hdt hnt
    refine tab_made (H := H) (X := [x]) (fun a ha => by rw [List.mem_singleton.mp ha, hx]; simp) ht hdt hnt fun H1 W g1 hO1 hk1 dis1 same1 => ⟨rfl, ?_⟩
    have hx1 : H1 x = some (.ins (ga K "World") dx []) := by rw [same1 x (by simp)]; exact hx
    have xW : x ∉ W := dis1 x (by simp)
    refine ⟨_, rfl, x, ga K "World", dx, [], rfl, hx1, cl_World c, na_World_table c, by decide, ?_⟩
    have ne : ∀ {b}, b ∈ W → b ≠ x := fun hb e => xW (e ▸ hb)
    have g2 : Gr (tt K) (woL [x] H) (woL (W ++ [x]) (upd H1 x (.ins (ga K "World") dx (putF "table" (.ref t) [])))) := by
      rw [woL_upd (by simp)]
      exact g1
    have hx2 : upd H1 x (.ins (ga K "World") dx (putF "table" (.ref t) [])) x = some (.ins (ga K "World") dx [("table", .ref t)]) := upd_same
    have s2 : ∀ b ∈ W, upd H1 x (.ins (ga K "World") dx (putF "table" (.ref t) [])) b = H1 b := fun b hb => upd_ne (ne hb)
    generalize upd H1 x (.ins (ga K "World") dx (putF "table" (.ref t) [])) = H2 at *
    have hm2 : ∀ w ∈ W, MutO H2 w := fun w hw => (hO1.1 w hw).eq (s2 w hw)
    intro ca cdx hc hcd hcn
    show spCacheInit K [.ref ca] (upd (upd H2 cdx (.own ca)) ca (.ins (ga K "Cache") cdx [])) _ _
    refine ⟨ca, cdx, rfl, upd_same, fun kk hkk => ⟨rfl, ?_⟩⟩
    have xc : x ≠ ca := ne_of_none hx2 hc
    have xd : x ≠ cdx := ne_of_none hx2 hcd
    have ck : ca ≠ kk := ne_of_none upd_same hkk
    have hx2' : upd (upd H2 cdx (.own ca)) ca (.ins (ga K "Cache") cdx []) x = some (.ins (ga K "World") dx [("table", .ref t)]) := by rw [upd_ne xc, upd_ne xd]; exact hx2
    have xk : x ≠ kk := ne_of_none hx2' hkk
    have cW : ca ∉ W := not_in hm2 hc
    have dW : cdx ∉ W := not_in hm2 hcd
    have kW : kk ∉ W := fun z => by
      have e : upd (upd H2 cdx (.own ca)) ca (.ins (ga K "Cache") cdx []) kk = H2 kk := by
        have kd : kk ≠ cdx := fun e => dW (by rw [← e]; exact z)
        rw [upd_ne ck.symm, upd_ne kd]
      obtain ⟨o, h, _⟩ := hm2 kk z
      rw [e, h] at hkk
      cases hkk
    have g3 : Gr (tt K) (woL [x] H) (woL (ca :: (W ++ [x])) (upd (upd (upd (upd H2 cdx (.own ca)) ca (.ins (ga K "Cache") cdx [])) kk (.dK [])) ca (.ins (ga K "Cache") cdx (keptF kk)))) := by
      rw [woL_upd (by simp), woL_new (by simp [ck.symm, xk.symm, kW])]
      refine (g2.trans (Gr.newW (o := .own ca) hcd (by simp [dW, xd.symm]))).trans ?_
      have e : woL (ca :: (W ++ [x])) (upd (upd H2 cdx (.own ca)) ca (.ins (ga K "Cache") cdx [])) = woL (W ++ [x]) (upd H2 cdx (.own ca)) := woL_grow (by rw [upd_ne hcn.symm]; exact hc)
      rw [e]
      refine Gr.new ?_
      have h0 : upd H2 cdx (.own ca) kk = none := by
        rw [upd_ne ck.symm] at hkk
        exact hkk
      rw [woL_out (by simp [kW, xk.symm])]
      exact h0
    have hx3 : (upd (upd (upd (upd H2 cdx (.own ca)) ca (.ins (ga K "Cache") cdx [])) kk (.dK [])) ca (.ins (ga K "Cache") cdx (keptF kk))) x = some (.ins (ga K "World") dx [("table", .ref t)]) := by
      rw [upd_ne xc, upd_ne xk]
      exact hx2'
    have s3 : ∀ b ∈ W, (upd (upd (upd (upd H2 cdx (.own ca)) ca (.ins (ga K "Cache") cdx [])) kk (.dK [])) ca (.ins (ga K "Cache") cdx (keptF kk))) b = H1 b := fun b hb => by
      have q : ∀ {z}, z ∉ W → b ≠ z := fun h e => h (e ▸ hb)
      rw [upd_ne (q cW), upd_ne (q kW), upd_ne (q cW), upd_ne (q dW), s2 b hb]
    have c3 : (upd (upd (upd (upd H2 cdx (.own ca)) ca (.ins (ga K "Cache") cdx [])) kk (.dK [])) ca (.ins (ga K "Cache") cdx (keptF kk))) ca = some (.ins (ga K "Cache") cdx (keptF kk)) := upd_same
    have k3 : woL (ca :: (W ++ [x])) (upd (upd (upd (upd H2 cdx (.own ca)) ca (.ins (ga K "Cache") cdx [])) kk (.dK [])) ca (.ins (ga K "Cache") cdx (keptF kk))) kk = some (.dK []) := by
      rw [woL_out (by simp [ck.symm, xk.symm, kW]), upd_ne ck.symm, upd_same]
    generalize (upd (upd (upd (upd H2 cdx (.own ca)) ca (.ins (ga K "Cache") cdx [])) kk (.dK [])) ca (.ins (ga K "Cache") cdx (keptF kk))) = H3 at *
    refine ⟨_, rfl, x, ga K "World", dx, _, rfl, hx3, cl_World c, na_World_cache c, by show 1 < 1000; decide, ?_⟩
    -- the three lists
    have st : ∀ {Hi : Hp} {fs : List (Str × V)} {y : Addr} {f : Str}, Gr (tt K) (woL [x] H) (woL (ca :: (W ++ [x])) Hi) → (∀ b ∈ W, Hi b = H1 b) → Hi ca = some (.ins (ga K "Cache") cdx (keptF kk)) → woL (ca :: (W ++ [x])) Hi kk = some (.dK []) → Hi x = some (.ins (ga K "World") dx fs) → Hi y = none →
        ∀ Hj, upd (upd Hi y (.lst [])) x (.ins (ga K "World") dx (putF f (.ref y) fs)) = Hj → x ≠ y ∧ Gr (tt K) (woL [x] H) (woL (ca :: (W ++ [x])) Hj) ∧ (∀ b ∈ W, Hj b = H1 b) ∧ Hj ca = some (.ins (ga K "Cache") cdx (keptF kk)) ∧ woL (ca :: (W ++ [x])) Hj kk = some (.dK []) ∧ Hj x = some (.ins (ga K "World") dx (putF f (.ref y) fs)) ∧ woL (ca :: (W ++ [x])) Hj y = some (.lst []) := by
      intro Hi fs y f gi si ci ki xi hy Hj ej
      have xy : x ≠ y := ne_of_none xi hy
      have cy : ca ≠ y := ne_of_none ci hy
      have yW : y ∉ W := fun z => by
        obtain ⟨o, h, _⟩ := hO1.1 y z
        rw [← si y z, hy] at h
        cases h
      have yN : y ∉ ca :: (W ++ [x]) := by simp [cy.symm, yW, xy.symm]
      have e1 : woL (ca :: (W ++ [x])) Hj = woL (ca :: (W ++ [x])) (upd Hi y (.lst [])) := by
        rw [← ej, woL_upd (by simp)]
      have gn : Gr (tt K) (woL (ca :: (W ++ [x])) Hi) (woL (ca :: (W ++ [x])) Hj) := by
        rw [e1]
        exact Gr.newW hy yN
      refine ⟨xy, gi.trans gn, fun b hb => ?_, ?_, gn.dK ki, by rw [← ej, upd_same], ?_⟩
      · have by_ : b ≠ y := fun e => yW (by rw [← e]; exact hb)
        rw [← ej, upd_ne (ne hb), upd_ne by_, si b hb]
      · rw [← ej, upd_ne xc.symm, upd_ne cy]
        exact ci
      · rw [e1, woL_out yN, upd_same]
    have g4 : Gr (tt K) (woL [x] H) (woL (ca :: (W ++ [x])) (upd H3 x (.ins (ga K "World") dx (putF "cache" (.ref ca) [("table", .ref t)])))) := by
      rw [woL_upd (by simp)]
      exact g3
    have k4 : woL (ca :: (W ++ [x])) (upd H3 x (.ins (ga K "World") dx (putF "cache" (.ref ca) [("table", .ref t)]))) kk = some (.dK []) := by
      rw [woL_upd (by simp)]
      exact k3
    have hx4 : upd H3 x (.ins (ga K "World") dx (putF "cache" (.ref ca) [("table", .ref t)])) x = some (.ins (ga K "World") dx [("table", .ref t), ("cache", .ref ca)]) := upd_same
    have s4 : ∀ b ∈ W, upd H3 x (.ins (ga K "World") dx (putF "cache" (.ref ca) [("table", .ref t)])) b = H1 b := fun b hb => by rw [upd_ne (ne hb), s3 b hb]
    have c4 : upd H3 x (.ins (ga K "World") dx (putF "cache" (.ref ca) [("table", .ref t)])) ca = some (.ins (ga K "Cache") cdx (keptF kk)) := by rw [upd_ne xc.symm]; exact c3
    generalize upd H3 x (.ins (ga K "World") dx (putF "cache" (.ref ca) [("table", .ref t)])) = H4 at *
    refine ⟨by show 0 ≤ sizeLine; decide, fun vi hvi => ?_⟩
    obtain ⟨xv, g5, s5, c5, k5, hx5, _⟩ := st (f := "visits") g4 s4 c4 k4 hx4 hvi _ rfl
    refine ⟨_, rfl, x, ga K "World", dx, _, rfl, by rw [upd_ne xv]; exact hx4, cl_World c, na_World_visits c, by show 2 < 1000; decide, ?_⟩
    generalize upd (upd H4 vi (.lst [])) x (.ins (ga K "World") dx (putF "visits" (.ref vi) [("table", .ref t), ("cache", .ref ca)])) = H5 at *
    refine ⟨by show 0 ≤ sizeLine; decide, fun th hth => ?_⟩
    obtain ⟨xh, g6, s6, c6, k6, hx6, _⟩ := st (f := "things") g5 s5 c5 k5 hx5 hth _ rfl
    refine ⟨_, rfl, x, ga K "World", dx, _, rfl, by rw [upd_ne xh]; exact hx5, cl_World c, na_World_things c, by show 3 < 1000; decide, ?_⟩
    generalize upd (upd H5 th (.lst [])) x (.ins (ga K "World") dx (putF "things" (.ref th) (putF "visits" (.ref vi) [("table", .ref t), ("cache", .ref ca)]))) = H6 at *
    refine ⟨by show 0 ≤ sizeLine; decide, fun cl hcl => ?_⟩
    obtain ⟨xl, g7, s7, c7, k7, hx7, l7⟩ := st (f := "choice_lists") g6 s6 c6 k6 hx6 hcl _ rfl
    refine ⟨_, rfl, x, ga K "World", dx, _, rfl, by rw [upd_ne xl]; exact hx6, cl_World c, na_World_choice_lists c, by show 4 < 1000; decide, ?_⟩
    generalize upd (upd H6 cl (.lst [])) x (.ins (ga K "World") dx (putF "choice_lists" (.ref cl) (putF "things" (.ref th) (putF "visits" (.ref vi) [("table", .ref t), ("cache", .ref ca)])))) = H7 at *
    have gs : ∀ G : Hp, Gr (tt K) (woL (ca :: (W ++ [x])) G) (woL (ca :: W) G) := fun G => gr_sub fun b hb => by
      rcases List.mem_cons.mp hb with rfl | hb
      · simp
      · simp [hb]
    refine k H7 (ca :: W) t (g7.trans (gs H7)) ⟨dx, ca, vi, th, cl, cdx, kk, W, rfl, cW, ?_, c7, (gs H7).dK k7, (gs H7).lst l7, ?_⟩ ?_
    · rw [woL_out (by simp [xc, xW])]
      exact hx7
    · obtain ⟨hm, d1, r, nu, l, m, kr, kn, las, hO⟩ := hO1
      have own := hO.own
      have el : las = [] := by
        have := prd_len hO.lists
        exact List.length_eq_zero_iff.mp this
      have ek : kr = [] := by
        have := prd_len hO.ents
        exact List.length_eq_zero_iff.mp this
      subst el ek
      exact ⟨fun w hw => (hm w hw).eq (s7 w hw), d1, r, nu, l, m, [], kn, [], by rw [s7 t (own t (by simp))]; exact hO.ht, by rw [s7 r (own r (by simp))]; exact hO.hr, by rw [s7 nu (own nu (by simp))]; exact hO.hn, by rw [s7 l (own l (by simp))]; exact hO.hl, .nil, .nil, hO.nd, own⟩
    · obtain ⟨hm, d1, r, nu, l, m, kr, kn, las, hO⟩ := hO1
      obtain ⟨d1', r', nu', l', m', kn', q1, q2, q3⟩ := hk1
      obtain ⟨_, _, ef⟩ := ins_inj hO.ht q1
      obtain ⟨rfl, rfl, rfl, rfl⟩ := tabF_inj ef
      have own := hO.own
      exact ⟨d1', r, nu, l, m, kn', by rw [s7 t (own t (by simp))]; exact q1, by rw [s7 nu (own nu (by simp))]; exact q2, q3⟩
end
end SW


set_option maxHeartbeats 2000000
namespace SW
open PySem PySem.Spec PyProof.Rows L2 He LamX NdefX
open SW.M (Ent Tb Oc)
/-! ## what the law knows of a world -/
structure PlK (kvs : List (Key × V)) (n b o s r d l : Addr) : Prop where
  n : valV kvs (.inr "names") = some (.ref n)
  b : valV kvs (.inr "bases") = some (.ref b)
  o : valV kvs (.inr "own") = some (.ref o)
  s : valV kvs (.inr "signs") = some (.ref s)
  r : valV kvs (.inr "rules") = some (.ref r)
  d : valV kvs (.inr "order") = some (.ref d)
  l : valV kvs (.inr "lists") = some (.ref l)
/-- a dict with an item for each class -/
def Dic (R : En → V → Prop) (kr : List (Key × V)) (es : List En) : Prop := Paired (fun (p : Key × V) E => p.1 = .inr E.label ∧ R E p.2) kr es
def RuleAt (H : Hp) (v : V) (E : En) : Prop := (E.hook = none ∧ v = .non) ∨ ∃ a ha cl, v = .ref a ∧ H a = some (.tup [.ref ha, .bl E.passed]) ∧ E.hook = some cl ∧ HookAt H (.ref ha) (some cl)
def LsAt (H : Hp) (xs : List Str) (v : V) : Prop := ∃ a, v = .ref a ∧ H a = some (.lst (sv xs))
def MkAt (H : Hp) (ms : List (Str × Str)) (v : V) : Prop := ∃ a, v = .ref a ∧ H a = some (.dK (marksKV ms))
def PlAt (H : Hp) (p : Addr) (T : Tb Str) : Prop := ∃ kvs n b o s r d l kb ko ks kr kd kl, H p = some (.dK kvs) ∧ PlK kvs n b o s r d l ∧ H n = some (.lst (sv (M.names T.es))) ∧
  (H b = some (.dK kb) ∧ Dic (fun E v => LsAt H E.parents v) kb T.es) ∧ (H o = some (.dK ko) ∧ Dic (fun E v => v = .bl E.own) ko T.es) ∧ (H s = some (.dK ks) ∧ Dic (fun E v => MkAt H E.marks v) ks T.es) ∧
  (H r = some (.dK kr) ∧ Dic (fun E v => RuleAt H v E) kr T.es) ∧ (H d = some (.dK kd) ∧ Dic (fun E v => LsAt H E.line v) kd T.es) ∧ (H l = some (.dK kl) ∧ Dic (fun E v => LsAt H (T.rg E.label) v) kl T.es)
section
variable {B : Tbs} {H H' : Hp}
theorem LsAt.mono {xs : List Str} {v : V} (g : Gr B H H') (h : LsAt H xs v) : LsAt H' xs v :=
  let ⟨a, e, h⟩ := h
  ⟨a, e, g.lst h⟩
theorem MkAt.mono {ms : List (Str × Str)} {v : V} (g : Gr B H H') (h : MkAt H ms v) : MkAt H' ms v :=
  let ⟨a, e, h⟩ := h
  ⟨a, e, g.dK h⟩
theorem RuleAt.mono {E : En} {v : V} (g : Gr B H H') (h : RuleAt H v E) : RuleAt H' v E := by
  rcases h with h | ⟨a, ha, cl, e, h1, h2, h3⟩
  · exact .inl h
  · exact .inr ⟨a, ha, cl, e, g.tup h1, h2, h3.mono g⟩
theorem Dic.mono {R S : En → V → Prop} {kr : List (Key × V)} {es : List En} (h : Dic R kr es) (m : ∀ E v, R E v → S E v) : Dic S kr es := prd_mono h fun _ _ h => ⟨h.1, m _ _ h.2⟩
theorem PlAt.mono {p : Addr} {T : Tb Str} (g : Gr B H H') (h : PlAt H p T) : PlAt H' p T := by
  obtain ⟨kvs, n, b, o, s, r, d, l, kb, ko, ks, kr, kd, kl, h1, h2, h3, ⟨b1, b2⟩, ⟨o1, o2⟩, ⟨s1, s2⟩, ⟨r1, r2⟩, ⟨d1, d2⟩, ⟨l1, l2⟩⟩ := h
  exact ⟨kvs, n, b, o, s, r, d, l, kb, ko, ks, kr, kd, kl, g.dK h1, h2, g.lst h3, ⟨g.dK b1, b2.mono fun _ _ h => h.mono g⟩, ⟨g.dK o1, o2⟩, ⟨g.dK s1, s2.mono fun _ _ h => h.mono g⟩, ⟨g.dK r1, r2.mono fun _ _ h => h.mono g⟩, ⟨g.dK d1, d2.mono fun _ _ h => h.mono g⟩, ⟨g.dK l1, l2.mono fun _ _ h => h.mono g⟩⟩
theorem Dic.get {R : En → V → Prop} {a : Addr} {kr : List (Key × V)} {es : List En} {n : Str} (ha : H a = some (.dK kr)) (h : Dic R kr es) (hn : n ∈ M.names es) : ∃ v E, DGet H a (.str n) (some v) ∧ R E v ∧ M.find es n = some E ∧ E.label = n ∧ E ∈ es := by
  obtain ⟨p, E, h3, ⟨_, h5⟩, h6, h7, h8⟩ := val_of (fun _ _ r => r.1) h hn
  refine ⟨p.2, E, ?_, h5, h6, h7, h8⟩
  rw [← h3]
  exact DGet.k (k := .inr n) ha
theorem dget_is {a : Addr} {kvs : List (Key × V)} {x : Str} {v : V} (h : H a = some (.dK kvs)) (e : valV kvs (.inr x) = some v) : DGet H a (.str x) (some v) := by
  rw [← e]
  exact DGet.k (k := .inr x) h
end
section
variable {H : Hp} {p : Addr} {T : Tb Str}
theorem PlAt.names (h : PlAt H p T) : ∃ n, DGet H p (.str "names") (some (.ref n)) ∧ H n = some (.lst (sv (M.names T.es))) := by
  obtain ⟨kvs, n, b, o, s, r, d, l, kb, ko, ks, kr, kd, kl, h1, h2, h3, _⟩ := h
  exact ⟨n, dget_is h1 h2.n, h3⟩
theorem PlAt.bases (h : PlAt H p T) : ∃ b, DGet H p (.str "bases") (some (.ref b)) ∧ ∀ n ∈ M.names T.es, ∃ a, DGet H b (.str n) (some (.ref a)) ∧ H a = some (.lst (sv (M.parents T.es n))) := by
  obtain ⟨kvs, n, b, o, s, r, d, l, kb, ko, ks, kr, kd, kl, h1, h2, h3, ⟨b1, b2⟩, _⟩ := h
  refine ⟨b, dget_is h1 h2.b, fun n hn => ?_⟩
  obtain ⟨v, E, q1, ⟨a, rfl, q2⟩, q3, _⟩ := Dic.get b1 b2 hn
  exact ⟨a, q1, by rw [par_find q3]; exact q2⟩
theorem PlAt.own (h : PlAt H p T) : ∃ b, DGet H p (.str "own") (some (.ref b)) ∧ ∀ n ∈ M.names T.es, DGet H b (.str n) (some (.bl (M.own T.es n))) := by
  obtain ⟨kvs, n, b, o, s, r, d, l, kb, ko, ks, kr, kd, kl, h1, h2, h3, ⟨b1, b2⟩, ⟨o1, o2⟩, _⟩ := h
  refine ⟨o, dget_is h1 h2.o, fun n hn => ?_⟩
  obtain ⟨v, E, q1, rfl, q3, _⟩ := Dic.get o1 o2 hn
  rw [own_find q3]
  exact q1
theorem PlAt.signs (h : PlAt H p T) : ∃ b, DGet H p (.str "signs") (some (.ref b)) ∧ ∀ n ∈ M.names T.es, ∃ a E, DGet H b (.str n) (some (.ref a)) ∧ H a = some (.dK (marksKV E.marks)) ∧ M.find T.es n = some E ∧ E.label = n ∧ E ∈ T.es := by
  obtain ⟨kvs, n, b, o, s, r, d, l, kb, ko, ks, kr, kd, kl, h1, h2, h3, _, _, ⟨s1, s2⟩, _⟩ := h
  refine ⟨s, dget_is h1 h2.s, fun n hn => ?_⟩
  obtain ⟨v, E, q1, ⟨a, rfl, q2⟩, q3, q4, q5⟩ := Dic.get s1 s2 hn
  exact ⟨a, E, q1, q2, q3, q4, q5⟩
theorem PlAt.rules (h : PlAt H p T) : ∃ b, DGet H p (.str "rules") (some (.ref b)) ∧ ∀ n ∈ M.names T.es, ∃ v E, DGet H b (.str n) (some v) ∧ RuleAt H v E ∧ M.find T.es n = some E ∧ E.label = n ∧ E ∈ T.es := by
  obtain ⟨kvs, n, b, o, s, r, d, l, kb, ko, ks, kr, kd, kl, h1, h2, h3, _, _, _, ⟨r1, r2⟩, _⟩ := h
  refine ⟨r, dget_is h1 h2.r, fun n hn => ?_⟩
  obtain ⟨v, E, q1, q2, q3, q4, q5⟩ := Dic.get r1 r2 hn
  exact ⟨v, E, q1, q2, q3, q4, q5⟩
theorem PlAt.order (h : PlAt H p T) : ∃ b, DGet H p (.str "order") (some (.ref b)) ∧ ∀ n ∈ M.names T.es, ∃ a, DGet H b (.str n) (some (.ref a)) ∧ H a = some (.lst (sv (M.line T.es n))) := by
  obtain ⟨kvs, n, b, o, s, r, d, l, kb, ko, ks, kr, kd, kl, h1, h2, h3, _, _, _, _, ⟨d1, d2⟩, _⟩ := h
  refine ⟨d, dget_is h1 h2.d, fun n hn => ?_⟩
  obtain ⟨v, E, q1, ⟨a, rfl, q2⟩, q3, _⟩ := Dic.get d1 d2 hn
  exact ⟨a, q1, by rw [line_find q3]; exact q2⟩
theorem PlAt.lists (h : PlAt H p T) : ∃ b, DGet H p (.str "lists") (some (.ref b)) ∧ ∀ n ∈ M.names T.es, ∃ a, DGet H b (.str n) (some (.ref a)) ∧ H a = some (.lst (sv (T.rg n))) := by
  obtain ⟨kvs, n, b, o, s, r, d, l, kb, ko, ks, kr, kd, kl, h1, h2, h3, _, _, _, _, _, ⟨l1, l2⟩⟩ := h
  refine ⟨l, dget_is h1 h2.l, fun n hn => ?_⟩
  obtain ⟨v, E, q1, ⟨a, rfl, q2⟩, q3, q4, _⟩ := Dic.get l1 l2 hn
  exact ⟨a, q1, by rw [← q4]; exact q2⟩
end
section
variable {P : Program} {w : World} {K : PySem.W.Frag} {mg : Str → Option Value} {base : Heap}
def spLSworn (K : PySem.W.Frag) : Sp := fun vs H Q _ => ∃ (p : Addr) (T : Tb Str) (n : Str), vs = [.ref p, .str n] ∧ PlAt H p T ∧ Wf T.es ∧ n ∈ M.names T.es ∧ Ans (tt K) H Q (.bl (M.sworn T.es n))
theorem sc__law_sworn : FnScope ["_law_plain", "_law_name", "_law_one"] ["_law_plain", "_law_name"] (defScope s__law_sworn) := ⟨rfl, rfl, rfl, by decide +kernel, rfl, by decide +kernel, by decide +kernel⟩
theorem ok__law_sworn (c : Tx K mg base) : Ok P w K mg base 1 (ga K "_law_sworn") ["_law_plain", "_law_name"] (spLSworn K) := by
  refine Ok.mk' (fd__law_sworn c) sc__law_sworn (fun _ _ _ _ _ _ us hl => match us, hl with | [_, _], _ => rfl) (fun vs H Q E h => ?_) (fun cdv A outer s H vs Q E hr h => ?_)
  · obtain ⟨p, T, n, rfl, _⟩ := h
    rfl
  · obtain ⟨p, T, n, rfl, hP, wf, hn, k⟩ := h
    refine ⟨_, (pss_one (ps_ret (pe_callB (anyK K rfl rfl) (by rfl) (n_any c) (by first | exact PySem.boot_any | exact boot_any | decide +kernel) (pa_cons (pe_lc (own := [("_law_one", 2)]) (g := (gName 2)) (tt := tYes) rfl sc__law_sworn.nd (piL K rfl (pe_dget (hu_of hr) (pe_dget (hu_of hr) (pv 0) pe_str (fun _ _ => rfl)) (pv 1) (fun _ _ => rfl))) (blkOk_by (N := ["_law_plain", "_law_name", "_law_one"]) (sc := defScope s__law_sworn) (by decide +kernel)) (fun _ _ _ _ _ => (pg_name (i := 2) sc__law_sworn.nd rfl (by first | exact Or.inl rfl | exact Or.inr rfl))) (fun _ _ _ _ _ => by exact pts_nil) (fun _ _ _ _ _ => by exact (pe_dget (hu_of hr) (pe_dget (hu_of hr) (pv 0) pe_str (fun _ _ => rfl)) (pv 2) (fun _ _ => rfl)))) pa_nil)))), ?_⟩
    obtain ⟨d, hd, hd2⟩ := hP.order
    obtain ⟨li, h1, h2⟩ := hd2 n hn
    refine ⟨_, rfl, p, _, rfl, hd, _, rfl, d, _, rfl, h1, li, rfl, ⟨_, SqL.of h2⟩, fun D hD => ?_⟩
    refine lcL (T := tt K) V.str (M.line T.es n) (SqL.of h2) (Nat.le_trans (wf.short n) (by decide)) (fun o => .bl (M.own T.es o)) (fun _ => true) hD (fun x hx H' g Kp Ks kp ks => ?_) (fun H' g hl => ?_)
    · obtain ⟨o, q1, q2⟩ := (hP.mono g).own
      exact ⟨rfl, yesT ⟨_, rfl, p, _, rfl, q1, _, rfl, o, _, rfl, q2 x (wf.sub n x hx), kp rfl _ (Gr.refl _)⟩⟩
    · refine ⟨D, (M.line T.es n).map (M.own T.es), rfl, SqL.of ?_, ?_⟩
      · rw [hl, filter_yes, List.map_map] <;> rfl
      · rw [List.any_map]
        exact k _ g
def spLNext (K : PySem.W.Frag) : Sp := fun vs H Q _ => ∃ (p : Addr) (T : Tb Str) (n : Str), vs = [.ref p, .str n] ∧ PlAt H p T ∧ WfT T ∧ n ∈ M.names T.es ∧ AnsN (tt K) H Q (.lst (sv (M.next T n)))
theorem sc__law_next : FnScope ["_law_plain", "_law_name", "_law_found", "_law_one"] ["_law_plain", "_law_name"] (defScope s__law_next) := ⟨rfl, rfl, rfl, by decide +kernel, rfl, by decide +kernel, by decide +kernel⟩
theorem ok__law_next (c : Tx K mg base) : Ok P w K mg base 2 (ga K "_law_next") ["_law_plain", "_law_name"] (spLNext K) := by
  refine Ok.mk' (fd__law_next c) sc__law_next (fun _ _ _ _ _ _ us hl => match us, hl with | [_, _], _ => rfl) (fun vs H Q E h => ?_) (fun cdv A outer s H vs Q E hr h => ?_)
  · obtain ⟨p, T, n, rfl, _⟩ := h
    rfl
  · obtain ⟨p, T, n, rfl, hP, wf, hn, k⟩ := h
    refine ⟨_, (pss_cons (ps_if (pt_not (pt_val ((ok__law_sworn c).call hr (by decide) (g__law_sworn c) (pa_cons (pv 0) (pa_cons (pv 1) pa_nil))))) (pss_one (ps_ret (pe_lst pa_nil))) pss_nil) (pss_cons (ps_set (i := 2) sc__law_next.nd rfl (Or.inr rfl) (pe_callTy (listK K rfl) (by rfl) (n_list c) (by first | exact PySem.boot_list | exact boot_list | decide +kernel) (pa_cons (pe_dget (hu_of hr) (pe_dget (hu_of hr) (pv 0) pe_str (fun _ _ => rfl)) (pv 1) (fun _ _ => rfl)) pa_nil))) (pss_one (ps_ret (pe_op op_cat (pv 2) (pe_lc (own := [("_law_one", 3)]) (g := (gName 3)) rfl sc__law_next.nd (piL K rfl (pe_dget (hu_of hr) (pv 0) pe_str (fun _ _ => rfl))) (blkOk_by (N := ["_law_plain", "_law_name", "_law_found", "_law_one"]) (sc := defScope s__law_next) (by decide +kernel)) (fun _ _ _ _ _ => (pg_name (i := 3) sc__law_next.nd rfl (by first | exact Or.inl rfl | exact Or.inr rfl))) (fun _ _ _ _ _ => by exact (pts_one (PW.pt (pw_and (pt_cmpR (inK K rfl) (pv 1) (pe_dget (hu_of hr) (pe_dget (hu_of hr) (pv 0) pe_str (fun _ _ => rfl)) (pv 3) (fun _ _ => rfl)) rfl) (pw_and1 (pt_cmpR (ninK K rfl) (pv 3) (pv 2) rfl)))))) (fun _ _ _ _ _ => by exact (pv 3)))))))), ?_⟩
    refine ⟨_, rfl, _, rfl, p, T, n, rfl, hP, wf.toWf, hn, fun H1 g1 => ⟨_, rfl, ?_⟩⟩
    cases q : M.sworn T.es n with
    | false =>
      have e : M.next T n = [] := by
        unfold M.next
        rw [if_neg (by rw [q]; decide)]
      rw [e] at k
      exact iteT ⟨Nat.zero_le _, fun p hp => k _ p (g1.trans (Gr.new hp)) upd_same⟩
    | true =>
      refine iteF ?_
      obtain ⟨l, hl, hl2⟩ := (hP.mono g1).lists
      obtain ⟨la, hg, hla⟩ := hl2 n hn
      refine ⟨_, rfl, p, _, rfl, hl, _, rfl, l, _, rfl, hg, la, _, rfl, .inl (SqL.of hla), fun f hf => ?_⟩
      have g2 : Gr (tt K) H (upd H1 f (.lst (sv (T.rg n)))) := g1.trans (Gr.new hf)
      have hf2 : upd H1 f (.lst (sv (T.rg n))) f = some (.lst (sv (T.rg n))) := upd_same
      generalize upd H1 f (.lst (sv (T.rg n))) = H2 at *
      obtain ⟨nn, hn1, hn2⟩ := (hP.mono g2).names
      refine ⟨_, rfl, _, rfl, p, _, rfl, hn1, nn, rfl, ⟨_, SqL.of hn2⟩, fun D hD => ?_⟩
      refine lcL (T := tt K) V.str (M.names T.es) (SqL.of hn2) (Nat.le_trans wf.few (by decide)) V.str (fun o => decide (n ∈ M.parents T.es o) && !decide (o ∈ T.rg n)) hD (fun o ho H' g Kp Ks kp ks => ?_) (fun H' g hl => ?_)
      · obtain ⟨b, q1, q2⟩ := (hP.mono (g2.trans g)).bases
        obtain ⟨a, q3, q4⟩ := q2 o ho
        refine ⟨rfl, ?_⟩
        refine ⟨_, rfl, _, rfl, p, _, rfl, q1, _, rfl, b, _, rfl, q3, a, _, rfl, .inl (SqL.of q4), rfl, flat_sv _, _, rfl, ?_⟩
        rw [inV_sv]
        cases e1 : decide (n ∈ M.parents T.es o) with
        | false =>
          rw [e1] at ks
          exact iteF (iteF (ks rfl _ (Gr.refl _)))
        | true =>
          rw [e1] at kp ks
          refine iteT ⟨_, rfl, _, rfl, f, _, rfl, .inl (SqL.of (g.lst hf2)), rfl, flat_sv _, _, rfl, ?_⟩
          rw [inV_sv]
          cases e2 : !decide (o ∈ T.rg n) with
          | true =>
            rw [e2] at kp
            exact iteT ⟨_, rfl, kp rfl _ (Gr.refl _)⟩
          | false =>
            rw [e2] at ks
            exact iteF (ks rfl _ (Gr.refl _))
      · refine ⟨f, D, _, _, rfl, rfl, g.lst hf2, hl, ?_, fun p2 hp2 => ?_⟩
        · rw [sv_len, List.length_map]
          have h1 := wf.regs n
          have h2 := List.length_filter_le (fun o => decide (n ∈ M.parents T.es o) && !decide (o ∈ T.rg n)) (M.names T.es)
          have h3 := wf.few
          exact Nat.le_trans (show _ ≤ 1000 by omega) (by decide)
        · refine k _ p2 ((g2.trans g).trans (Gr.new hp2)) ?_
          rw [upd_same]
          unfold M.next M.below
          rw [if_pos q, List.filter_filter]
          unfold sv
          rw [List.map_append]
          congr 4
          exact List.filter_congr fun o _ => Bool.and_comm _ _
end
end SW


set_option maxHeartbeats 2000000
namespace SW
open PySem PySem.Spec PyProof.Rows L2 He LamX NdefX
open SW.M (Ent Tb Oc)
/-! ## all to which roads lead -/
structure Clo (nf : Str → List Str) (st : Str) (U ks : List Str) (i : Nat) : Prop where
  nd : ks.Nodup
  beg : st ∈ ks
  sub : ∀ y ∈ ks, y ∈ U
  re : ∀ y ∈ ks, M.Reach (fun a b => b ∈ nf a) st y
  le : i ≤ ks.length
  done : ∀ j < i, ∀ y, ks[j]? = some y → ∀ o ∈ nf y, o ∈ ks
section
variable {nf : Str → List Str} {st : Str} {U ks : List Str} {i : Nat}
theorem Clo.start (h : st ∈ U) : Clo nf st U [st] 0 := ⟨by simp, by simp, by simpa using h, fun y hy => by rw [List.mem_singleton.mp hy]; exact .refl _, Nat.zero_le _, fun j hj => absurd hj (Nat.not_lt_zero _)⟩
theorem Clo.step {h : Str} (c : Clo nf st U ks i) (hi : ks[i]? = some h) (nd : (nf h).Nodup) (hU : ∀ o ∈ nf h, o ∈ U) : Clo nf st U (ks ++ (nf h).filter fun o => !decide (o ∈ ks)) (i + 1) := by
  have hil := (List.getElem?_eq_some_iff.mp hi).1
  have hh : h ∈ ks := List.mem_of_getElem? hi
  have hm : ∀ {o}, o ∈ (nf h).filter (fun o => !decide (o ∈ ks)) → o ∈ nf h ∧ o ∉ ks := fun q => by
    obtain ⟨q1, q2⟩ := List.mem_filter.mp q
    exact ⟨q1, by simpa using q2⟩
  refine ⟨List.nodup_append.mpr ⟨c.nd, nd.filter _, fun a ha b hb e => (hm hb).2 (e ▸ ha)⟩, List.mem_append_left _ c.beg, fun y hy => ?_, fun y hy => ?_, by rw [List.length_append]; omega, fun j hj y hy o ho => ?_⟩
  · rcases List.mem_append.mp hy with hy | hy
    · exact c.sub y hy
    · exact hU y (hm hy).1
  · rcases List.mem_append.mp hy with hy | hy
    · exact c.re y hy
    · exact (c.re h hh).tail (hm hy).1
  · rw [List.getElem?_append_left (by omega)] at hy
    by_cases hji : j = i
    · subst hji
      rw [hi] at hy
      cases hy
      by_cases hk : o ∈ ks
      · exact List.mem_append_left _ hk
      · exact List.mem_append_right _ (List.mem_filter.mpr ⟨ho, by simpa using hk⟩)
    · exact List.mem_append_left _ (c.done j (by omega) y hy o ho)
theorem Clo.fin (c : Clo nf st U ks i) (h : ¬ i < ks.length) (y : Str) : y ∈ ks ↔ M.Reach (fun a b => b ∈ nf a) st y := by
  refine ⟨c.re y, fun r => ?_⟩
  induction r with
  | refl => exact c.beg
  | tail _ e ih =>
    obtain ⟨j, hj⟩ := List.mem_iff_getElem?.mp ih
    have hjl := (List.getElem?_eq_some_iff.mp hj).1
    exact c.done j (by omega) _ hj _ e
theorem Clo.len (c : Clo nf st U ks i) : ks.length ≤ U.length := M.nodup_len c.nd c.sub
end
/-- .. and no class twice among the next ones -/
structure WfL (T : Tb Str) : Prop extends WfT T where
  nx : ∀ n, (M.next T n).Nodup
section
variable {P : Program} {w : World} {K : PySem.W.Frag} {mg : Str → Option Value} {base : Heap}
def spLLed (K : PySem.W.Frag) : Sp := fun vs H Q _ => ∃ (p : Addr) (T : Tb Str) (n : Str), vs = [.ref p, .str n] ∧ PlAt H p T ∧ WfL T ∧ n ∈ M.names T.es ∧ ∀ H' q ks, Gr (tt K) H H' → H' q = some (.lst (sv ks)) → (∀ y, y ∈ ks ↔ M.Reach (fun a b => b ∈ M.next T a) n y) → Q (.ref q) H'
theorem sc__law_led : FnScope ["_law_plain", "_law_name", "_law_found", "_law_at", "_law_one"] ["_law_plain", "_law_name"] (defScope s__law_led) := ⟨rfl, rfl, rfl, by decide +kernel, rfl, by decide +kernel, by decide +kernel⟩
theorem ok__law_led (c : Tx K mg base) : Ok P w K mg base 3 (ga K "_law_led") ["_law_plain", "_law_name"] (spLLed K) := by
  refine Ok.mk' (fd__law_led c) sc__law_led (fun _ _ _ _ _ _ us hl => match us, hl with | [_, _], _ => rfl) (fun vs H Q E h => ?_) (fun cdv A outer s H vs Q E hr h => ?_)
  · obtain ⟨p, T, n, rfl, _⟩ := h
    rfl
  · obtain ⟨p, T, n, rfl, hP, wf, hn, k⟩ := h
    refine ⟨_, (pss_cons (ps_asg (pe_tup (pa_cons (pe_lst (pa_cons (pv 1) pa_nil)) (pa_cons pe_int pa_nil))) (gtupK K (n := 2) rfl rfl (pgs_cons (pg_name (i := 2) sc__law_led.nd rfl (Or.inr rfl)) (pgs_cons (pg_name (i := 3) sc__law_led.nd rfl (Or.inl rfl)) pgs_nil)))) (pss_cons (ps_while PassesOwn.never (pt_cmpR op_lt (pv 3) (pe_callB (lenK K rfl) (by rfl) (n_len c) (by first | exact PySem.boot_len | exact boot_len | decide +kernel) (pa_cons (pv 2) pa_nil)) (nomark _)) (pss_cons (ps_set (i := 2) sc__law_led.nd rfl (Or.inr rfl) (pe_op op_cat (pv 2) (pe_lc (own := [("_law_one", 4)]) (g := (gName 4)) rfl sc__law_led.nd (piL K rfl ((ok__law_next c).call hr (by decide) (g__law_next c) (pa_cons (pv 0) (pa_cons (pe_ix (ixLK K rfl) (pv 2) (pv 3) (fun _ _ => rfl)) pa_nil)))) (blkOk_by (N := ["_law_plain", "_law_name", "_law_found", "_law_at", "_law_one"]) (sc := defScope s__law_led) (by decide +kernel)) (fun _ _ _ _ _ => (pg_name (i := 4) sc__law_led.nd rfl (by first | exact Or.inl rfl | exact Or.inr rfl))) (fun _ _ _ _ _ => by exact (pts_one (pt_cmpR (ninK K rfl) (pv 4) (pv 2) rfl))) (fun _ _ _ _ _ => by exact (pv 4))))) (pss_one (ps_set (i := 3) sc__law_led.nd rfl (Or.inl rfl) (pe_op op_add (pv 3) pe_int))))) (pss_one (ps_ret (pv 2))))), ?_⟩
    refine ⟨_, rfl, by show 1 ≤ sizeLine; decide, fun f hf => ⟨by show 2 ≤ sizeLine; decide, fun z hz => ⟨z, _, rfl, SqT.of upd_same, rfl, _, _, rfl, _, _, rfl, rfl, ?_⟩⟩⟩
    have g0 : Gr (tt K) H (upd (upd H f (.lst [.str n])) z (.tup [.ref f, .int 0])) := (Gr.new hf).trans (Gr.new hz)
    have hf0 : upd (upd H f (.lst [.str n])) z (.tup [.ref f, .int 0]) f = some (.lst (sv [n])) := (Gr.new (T := tt K) hz).lst upd_same
    generalize upd (upd H f (.lst [.str n])) z (.tup [.ref f, .int 0]) = H0 at *
    refine ⟨fun m σ H' => ∃ (f : Addr) (i : Nat) (ks : List Str) (x : Option V), m = 13 - i ∧ σ = [some (.ref p), some (.str n), some (.ref f), some (.int i), x] ∧ Gr (tt K) H H' ∧ H' f = some (.lst (sv ks)) ∧ Clo (M.next T) n (M.names T.es) ks i, ⟨_, f, 0, [n], _, rfl, rfl, g0, hf0, .start hn⟩, ?_⟩
    clear g0 hf0 hf hz
    clear f z
    rintro m σ H' ⟨f, i, ks, x, rfl, rfl, g, hf, cl⟩
    have h12 : ks.length ≤ 12 := Nat.le_trans cl.len wf.few
    refine ⟨_, rfl, _, rfl, f, _, rfl, .inl (SqL.of hf), _, _, rfl, rfl, _, rfl, ?_⟩
    rw [sv_len]
    by_cases hlt : i < ks.length
    · have ed : decide ((i : Int) < (ks.length : Int)) = true := decide_eq_true (by omega)
      rw [ed]
      refine iteT ⟨fun σ' H' => ∃ m', m' < 13 - i ∧ _, fun _ _ h => h, ?_⟩
      obtain ⟨hh, hhe⟩ : ∃ hh, ks[i]? = some hh := ⟨ks[i], List.getElem?_eq_getElem hlt⟩
      have hhm := List.mem_of_getElem? hhe
      have hhn := cl.sub hh hhm
      refine ⟨_, rfl, _, rfl, _, rfl, _, rfl, f, _, (i : Int), .str hh, rfl, rfl, SqL.of hf, atI_nat (by unfold sv; rw [List.getElem?_map, hhe] <;> rfl), p, T, hh, rfl, hP.mono g, wf.toWfT, hhn, fun H1 a g1 ha => ⟨a, rfl, ⟨_, SqL.of ha⟩, fun D hD => ?_⟩⟩
      have hf1 := g1.lst hf
      refine lcL (T := tt K) V.str (M.next T hh) (SqL.of ha) (Nat.le_trans (wf.nextLen hh) (by decide)) V.str (fun o => !decide (o ∈ ks)) hD (fun o ho H2 g2 Kp Ks kp ks' => ?_) (fun H2 g2 hl => ?_)
      · refine ⟨rfl, _, rfl, _, rfl, f, _, rfl, .inl (SqL.of (g2.lst hf1)), rfl, flat_sv _, _, rfl, ?_⟩
        rw [inV_sv]
        show if (!decide (o ∈ ks)) = true then _ else _
        cases hc : !decide (o ∈ ks) with
        | true => exact iteT ⟨_, rfl, kp hc _ (Gr.refl _)⟩
        | false => exact iteF (ks' hc _ (Gr.refl _))
      · refine ⟨f, D, _, _, rfl, rfl, g2.lst hf1, hl, ?_, fun q hq => ?_⟩
        · rw [sv_len, List.length_map]
          have h1 := List.length_filter_le (fun o => !decide (o ∈ ks)) (M.next T hh)
          have h2 := wf.nextLen hh
          exact Nat.le_trans (show _ ≤ 1000 by omega) (by decide)
        · have eq : sv ks ++ List.map V.str ((M.next T hh).filter fun o => !decide (o ∈ ks)) = sv (ks ++ (M.next T hh).filter fun o => !decide (o ∈ ks)) := by
            unfold sv
            rw [List.map_append]
          rw [eq]
          refine ⟨_, rfl, _, _, rfl, rfl, 13 - (i + 1), by omega, q, i + 1, _, _, rfl, rfl, ((g.trans g1).trans g2).trans (Gr.new hq), upd_same, cl.step hhe (wf.nx hh) fun o ho => wf.next ho⟩
    · have ed : decide ((i : Int) < (ks.length : Int)) = false := decide_eq_false (by omega)
      rw [ed]
      exact iteF ⟨_, rfl, k _ f ks g hf (cl.fin hlt)⟩
def spLAdmits (K : PySem.W.Frag) : Sp := fun vs H Q _ => ∃ (p : Addr) (T : Tb Str) (n o : Str), vs = [.ref p, .str n, .str o] ∧ PlAt H p T ∧ WfL T ∧ n ∈ M.names T.es ∧ o ∈ M.names T.es ∧ ∀ H' b, Gr (tt K) H H' → (b = true ↔ n ≠ o ∧ M.sworn T.es n = true ∧ ¬ M.Reach (fun a b => b ∈ M.next T a) o n) → Q (.bl b) H'
theorem sc__law_admits : FnScope ["_law_plain", "_law_name", "_law_other"] ["_law_plain", "_law_name", "_law_other"] (defScope s__law_admits) := ⟨rfl, rfl, rfl, by decide +kernel, rfl, by decide +kernel, by decide +kernel⟩
theorem ok__law_admits (c : Tx K mg base) : Ok P w K mg base 4 (ga K "_law_admits") ["_law_plain", "_law_name", "_law_other"] (spLAdmits K) := by
  refine Ok.mk' (fd__law_admits c) sc__law_admits (fun _ _ _ _ _ _ us hl => match us, hl with | [_, _, _], _ => rfl) (fun vs H Q E h => ?_) (fun cdv A outer s H vs Q E hr h => ?_)
  · obtain ⟨p, T, n, o, rfl, _⟩ := h
    rfl
  · obtain ⟨p, T, n, o, rfl, hP, wf, hn, ho, k⟩ := h
    refine ⟨_, (pss_one (ps_ret (pe_and (pe_cmpR op_ne (pv 1) (pv 2) (nomark _)) (pe_and ((ok__law_sworn c).call hr (by decide) (g__law_sworn c) (pa_cons (pv 0) (pa_cons (pv 1) pa_nil))) (pe_one (pe_cmpR (ninK K rfl) (pv 1) ((ok__law_led c).call hr (by decide) (g__law_led c) (pa_cons (pv 0) (pa_cons (pv 2) pa_nil))) rfl)))))), ?_⟩
    refine ⟨_, rfl, _, rfl, rfl, _, rfl, ?_⟩
    by_cases hno : n = o
    · have e0 : (!decide (V.str n = V.str o)) = false := by simp [hno]
      rw [e0]
      exact iteF (k _ false (Gr.refl _) ⟨fun h => (by cases h), fun h => absurd hno h.1⟩)
    · have e0 : (!decide (V.str n = V.str o)) = true := by simp [hno]
      rw [e0]
      refine iteT ⟨_, rfl, _, rfl, p, T, n, rfl, hP, wf.toWf, hn, fun H1 g1 => ⟨_, rfl, ?_⟩⟩
      cases hs : M.sworn T.es n with
      | false => exact iteF (k _ false g1 ⟨fun h => (by cases h), fun h => (by have := h.2.1; rw [hs] at this; cases this)⟩)
      | true =>
        refine iteT ⟨_, rfl, _, rfl, _, rfl, p, T, o, rfl, hP.mono g1, wf, ho, fun H2 q ks g2 hq hks => ⟨q, _, rfl, .inl (SqL.of hq), rfl, flat_sv _, ?_⟩⟩
        rw [inV_sv]
        refine k _ _ (g1.trans g2) ?_
        show (!decide (n ∈ ks)) = true ↔ _
        rw [Bool.not_eq_true', decide_eq_false_iff_not, hks n]
        exact ⟨fun h => ⟨hno, hs, h⟩, fun h => h.2.2⟩
def spLHeld (K : PySem.W.Frag) : Sp := fun vs H Q _ => ∃ (p : Addr) (T : Tb Str) (n o : Str), vs = [.ref p, .str n, .str o] ∧ PlAt H p T ∧ WfT T ∧ n ∈ M.names T.es ∧ o ∈ M.names T.es ∧ AnsN (tt K) H Q (.lst (sv ((M.names T.es).filter fun x => decide (x ∈ M.heldL T.es n o))))
theorem sc__law_held : FnScope ["_law_plain", "_law_name", "_law_other", "_law_one"] ["_law_plain", "_law_name", "_law_other"] (defScope s__law_held) := ⟨rfl, rfl, rfl, by decide +kernel, rfl, by decide +kernel, by decide +kernel⟩
theorem ok__law_held (c : Tx K mg base) : Ok P w K mg base 1 (ga K "_law_held") ["_law_plain", "_law_name", "_law_other"] (spLHeld K) := by
  refine Ok.mk' (fd__law_held c) sc__law_held (fun _ _ _ _ _ _ us hl => match us, hl with | [_, _, _], _ => rfl) (fun vs H Q E h => ?_) (fun cdv A outer s H vs Q E hr h => ?_)
  · obtain ⟨p, T, n, o, rfl, _⟩ := h
    rfl
  · obtain ⟨p, T, n, o, rfl, hP, wf, hn, ho, k⟩ := h
    refine ⟨_, (pss_one (ps_ret (pe_lc (own := [("_law_one", 3)]) (g := (gName 3)) rfl sc__law_held.nd (piL K rfl (pe_dget (hu_of hr) (pv 0) pe_str (fun _ _ => rfl))) (blkOk_by (N := ["_law_plain", "_law_name", "_law_other", "_law_one"]) (sc := defScope s__law_held) (by decide +kernel)) (fun _ _ _ _ _ => (pg_name (i := 3) sc__law_held.nd rfl (by first | exact Or.inl rfl | exact Or.inr rfl))) (fun _ _ _ _ _ => by exact (pts_one (PW.pt (pw_or (pt_cmpR (inK K rfl) (pv 3) (pe_dget (hu_of hr) (pe_dget (hu_of hr) (pv 0) pe_str (fun _ _ => rfl)) (pv 1) (fun _ _ => rfl)) rfl) (pw_or1 (pt_cmpR (inK K rfl) (pv 3) (pe_dget (hu_of hr) (pe_dget (hu_of hr) (pv 0) pe_str (fun _ _ => rfl)) (pv 2) (fun _ _ => rfl)) rfl)))))) (fun _ _ _ _ _ => by exact (pv 3))))), ?_⟩
    obtain ⟨nn, hn1, hn2⟩ := hP.names
    refine ⟨_, rfl, p, _, rfl, hn1, nn, rfl, ⟨_, SqL.of hn2⟩, fun D hD => ?_⟩
    refine lcL (T := tt K) V.str (M.names T.es) (SqL.of hn2) (Nat.le_trans wf.few (by decide)) V.str (fun x => decide (x ∈ M.heldL T.es n o)) hD (fun x hx H' g Kp Ks kp ks => ?_) (fun H' g hl => ?_)
    · obtain ⟨d, q1, q2⟩ := (hP.mono g).order
      obtain ⟨a, q3, q4⟩ := q2 n hn
      obtain ⟨a', q5, q6⟩ := q2 o ho
      refine ⟨rfl, ?_⟩
      refine ⟨_, rfl, _, rfl, p, _, rfl, q1, _, rfl, d, _, rfl, q3, a, _, rfl, .inl (SqL.of q4), rfl, flat_sv _, _, rfl, ?_⟩
      rw [inV_sv]
      by_cases h1 : x ∈ M.line T.es n
      · rw [decide_eq_true h1]
        exact iteT (iteT ⟨_, rfl, kp (decide_eq_true (List.mem_append_left _ h1)) _ (Gr.refl _)⟩)
      · rw [decide_eq_false h1]
        refine iteF ⟨_, rfl, _, rfl, p, _, rfl, q1, _, rfl, d, _, rfl, q5, a', _, rfl, .inl (SqL.of q6), rfl, flat_sv _, _, rfl, ?_⟩
        rw [inV_sv]
        by_cases h2 : x ∈ M.line T.es o
        · rw [decide_eq_true h2]
          exact iteT ⟨_, rfl, kp (decide_eq_true (List.mem_append_right _ h2)) _ (Gr.refl _)⟩
        · rw [decide_eq_false h2]
          exact iteF (ks (decide_eq_false fun z => (List.mem_append.mp z).elim h1 h2) _ (Gr.refl _))
    · exact k _ D g hl
def spLRoad (K : PySem.W.Frag) : Sp := fun vs H Q _ => ∃ (p : Addr) (T : Tb Str) (n o : Str), vs = [.ref p, .str n, .str o] ∧ PlAt H p T ∧ WfL T ∧ n ∈ M.names T.es ∧ o ∈ M.names T.es ∧ Ans (tt K) H Q (.bl (M.hasRoad T n o))
theorem sc__law_road_held : FnScope ["_law_plain", "_law_name", "_law_other", "_law_found", "_law_at", "_law_held_here", "_law_one"] ["_law_plain", "_law_name", "_law_other"] (defScope s__law_road_held) := ⟨rfl, rfl, rfl, by decide +kernel, rfl, by decide +kernel, by decide +kernel⟩
theorem ok__law_road_held (c : Tx K mg base) : Ok P w K mg base 3 (ga K "_law_road_held") ["_law_plain", "_law_name", "_law_other"] (spLRoad K) := by
  refine Ok.mk' (fd__law_road_held c) sc__law_road_held (fun _ _ _ _ _ _ us hl => match us, hl with | [_, _, _], _ => rfl) (fun vs H Q E h => ?_) (fun cdv A outer s H vs Q E hr h => ?_)
  · obtain ⟨p, T, n, o, rfl, _⟩ := h
    rfl
  · obtain ⟨p, T, n, o, rfl, hP, wf, hn, ho, k⟩ := h
    refine ⟨_, (pss_cons (ps_asg (pe_tup (pa_cons (pe_lst (pa_cons (pv 1) pa_nil)) (pa_cons pe_int (pa_cons ((ok__law_held c).call hr (by decide) (g__law_held c) (pa_cons (pv 0) (pa_cons (pv 1) (pa_cons (pv 2) pa_nil)))) pa_nil)))) (gtupK K (n := 3) rfl rfl (pgs_cons (pg_name (i := 3) sc__law_road_held.nd rfl (Or.inr rfl)) (pgs_cons (pg_name (i := 4) sc__law_road_held.nd rfl (Or.inl rfl)) (pgs_cons (pg_name (i := 5) sc__law_road_held.nd rfl (Or.inr rfl)) pgs_nil))))) (pss_cons (ps_while PassesOwn.never (pt_cmpR op_lt (pv 4) (pe_callB (lenK K rfl) (by rfl) (n_len c) (by first | exact PySem.boot_len | exact boot_len | decide +kernel) (pa_cons (pv 3) pa_nil)) (nomark _)) (pss_cons (ps_set (i := 3) sc__law_road_held.nd rfl (Or.inr rfl) (pe_op op_cat (pv 3) (pe_lc (own := [("_law_one", 6)]) (g := (gName 6)) rfl sc__law_road_held.nd (piL K rfl ((ok__law_next c).call hr (by decide) (g__law_next c) (pa_cons (pv 0) (pa_cons (pe_ix (ixLK K rfl) (pv 3) (pv 4) (fun _ _ => rfl)) pa_nil)))) (blkOk_by (N := ["_law_plain", "_law_name", "_law_other", "_law_found", "_law_at", "_law_held_here", "_law_one"]) (sc := defScope s__law_road_held) (by decide +kernel)) (fun _ _ _ _ _ => (pg_name (i := 6) sc__law_road_held.nd rfl (by first | exact Or.inl rfl | exact Or.inr rfl))) (fun _ _ _ _ _ => by exact (pts_one (PW.pt (pw_and (pt_cmpR (inK K rfl) (pv 6) (pv 5) rfl) (pw_and1 (pt_cmpR (ninK K rfl) (pv 6) (pv 3) rfl)))))) (fun _ _ _ _ _ => by exact (pv 6))))) (pss_one (ps_set (i := 4) sc__law_road_held.nd rfl (Or.inl rfl) (pe_op op_add (pv 4) pe_int))))) (pss_one (ps_ret (pe_and ((ok__law_sworn c).call hr (by decide) (g__law_sworn c) (pa_cons (pv 0) (pa_cons (pv 2) pa_nil))) (pe_one (pe_cmpR (inK K rfl) (pv 2) (pv 3) rfl))))))), ?_⟩
    refine ⟨_, rfl, by show 1 ≤ sizeLine; decide, fun f hf => ?_⟩
    have gf : Gr (tt K) H (upd H f (.lst [.str n])) := Gr.new hf
    have hff : upd H f (.lst [.str n]) f = some (.lst (sv [n])) := upd_same
    generalize upd H f (.lst [.str n]) = H0 at *
    refine ⟨_, rfl, _, rfl, _, rfl, p, T, n, o, rfl, hP.mono gf, wf.toWfT, hn, ho, fun H1 e g1 he => ⟨by show 3 ≤ sizeLine; decide, fun z hz => ⟨z, _, rfl, SqT.of upd_same, rfl, _, _, rfl, _, _, rfl, _, _, rfl, rfl, ?_⟩⟩⟩
    have g0 : Gr (tt K) H (upd H1 z (.tup [.ref f, .int 0, .ref e])) := (gf.trans g1).trans (Gr.new hz)
    have hf0 : upd H1 z (.tup [.ref f, .int 0, .ref e]) f = some (.lst (sv [n])) := (Gr.new (T := tt K) hz).lst (g1.lst hff)
    have he0 : upd H1 z (.tup [.ref f, .int 0, .ref e]) e = some (.lst (sv ((M.names T.es).filter fun x => decide (x ∈ M.heldL T.es n o)))) := (Gr.new (T := tt K) hz).lst he
    generalize upd H1 z (.tup [.ref f, .int 0, .ref e]) = H2 at *
    refine ⟨fun m σ H' => ∃ (f : Addr) (i : Nat) (ks : List Str) (x : Option V), m = 13 - i ∧ σ = [some (.ref p), some (.str n), some (.str o), some (.ref f), some (.int i), some (.ref e), x] ∧ Gr (tt K) H H' ∧ H' e = some (.lst (sv ((M.names T.es).filter fun x => decide (x ∈ M.heldL T.es n o)))) ∧ H' f = some (.lst (sv ks)) ∧
      Clo (fun y => (M.next T y).filter fun x => decide (x ∈ M.heldL T.es n o)) n (M.names T.es) ks i, ⟨_, f, 0, [n], _, rfl, rfl, g0, he0, hf0, .start hn⟩, ?_⟩
    clear g0 hf0 he0 hf hz hff gf g1 he
    clear f z
    rintro m σ H' ⟨f, i, ks, x, rfl, rfl, g, he, hf, cl⟩
    have h12 : ks.length ≤ 12 := Nat.le_trans cl.len wf.few
    refine ⟨_, rfl, _, rfl, f, _, rfl, .inl (SqL.of hf), _, _, rfl, rfl, _, rfl, ?_⟩
    rw [sv_len]
    by_cases hlt : i < ks.length
    · have ed : decide ((i : Int) < (ks.length : Int)) = true := decide_eq_true (by omega)
      rw [ed]
      refine iteT ⟨fun σ' H' => ∃ m', m' < 13 - i ∧ _, fun _ _ h => h, ?_⟩
      obtain ⟨hh, hhe⟩ : ∃ hh, ks[i]? = some hh := ⟨ks[i], List.getElem?_eq_getElem hlt⟩
      have hhm := List.mem_of_getElem? hhe
      have hhn := cl.sub hh hhm
      refine ⟨_, rfl, _, rfl, _, rfl, _, rfl, f, _, (i : Int), .str hh, rfl, rfl, SqL.of hf, atI_nat (by unfold sv; rw [List.getElem?_map, hhe] <;> rfl), p, T, hh, rfl, hP.mono g, wf.toWfT, hhn, fun H1 a g1 ha => ⟨a, rfl, ⟨_, SqL.of ha⟩, fun D hD => ?_⟩⟩
      have hf1 := g1.lst hf
      have he1 := g1.lst he
      refine lcL (T := tt K) V.str (M.next T hh) (SqL.of ha) (Nat.le_trans (wf.nextLen hh) (by decide)) V.str (fun x => decide (x ∈ M.heldL T.es n o) && !decide (x ∈ ks)) hD (fun x hx H2 g2 Kp Ks kp ks' => ?_) (fun H2 g2 hl => ?_)
      · have hxn : x ∈ M.names T.es := wf.next hx
        have ex : decide (x ∈ (M.names T.es).filter fun x => decide (x ∈ M.heldL T.es n o)) = decide (x ∈ M.heldL T.es n o) := by
          refine decide_eq_decide.mpr ?_
          rw [List.mem_filter, decide_eq_true_iff]
          exact ⟨fun h => h.2, fun h => ⟨hxn, h⟩⟩
        refine ⟨rfl, ?_⟩
        refine ⟨_, rfl, _, rfl, e, _, rfl, .inl (SqL.of (g2.lst he1)), rfl, flat_sv _, _, rfl, ?_⟩
        rw [inV_sv, ex]
        cases e1 : decide (x ∈ M.heldL T.es n o) with
        | false =>
          rw [e1] at ks'
          exact iteF (iteF (ks' rfl _ (Gr.refl _)))
        | true =>
          rw [e1] at kp ks'
          refine iteT ⟨_, rfl, _, rfl, f, _, rfl, .inl (SqL.of (g2.lst hf1)), rfl, flat_sv _, _, rfl, ?_⟩
          rw [inV_sv]
          cases e2 : !decide (x ∈ ks) with
          | true =>
            rw [e2] at kp
            exact iteT ⟨_, rfl, kp rfl _ (Gr.refl _)⟩
          | false =>
            rw [e2] at ks'
            exact iteF (ks' rfl _ (Gr.refl _))
      · refine ⟨f, D, _, _, rfl, rfl, g2.lst hf1, hl, ?_, fun q hq => ?_⟩
        · rw [sv_len, List.length_map]
          have h1 := List.length_filter_le (fun x => decide (x ∈ M.heldL T.es n o) && !decide (x ∈ ks)) (M.next T hh)
          have h2 := wf.nextLen hh
          exact Nat.le_trans (show _ ≤ 1000 by omega) (by decide)
        · have eq : sv ks ++ List.map V.str ((M.next T hh).filter fun x => decide (x ∈ M.heldL T.es n o) && !decide (x ∈ ks)) = sv (ks ++ ((M.next T hh).filter fun x => decide (x ∈ M.heldL T.es n o)).filter fun x => !decide (x ∈ ks)) := by
            unfold sv
            rw [List.map_append, List.filter_filter]
            congr 2
            exact List.filter_congr fun o _ => Bool.and_comm _ _
          rw [eq]
          refine ⟨_, rfl, _, _, rfl, rfl, 13 - (i + 1), by omega, q, i + 1, _, _, rfl, rfl, ((g.trans g1).trans g2).trans (Gr.new hq), ((Gr.new (T := tt K) hq).lst (g2.lst he1)), upd_same, cl.step hhe ((wf.nx hh).filter _) fun o ho => wf.next (List.mem_filter.mp ho).1⟩
    · have ed : decide ((i : Int) < (ks.length : Int)) = false := decide_eq_false (by omega)
      rw [ed]
      refine iteF ⟨_, rfl, _, rfl, p, T, o, rfl, hP.mono g, wf.toWf, ho, fun H3 g3 => ⟨_, rfl, ?_⟩⟩
      have hfin := cl.fin hlt
      unfold M.hasRoad at k
      cases hs : M.sworn T.es o with
      | false =>
        rw [hs] at k
        exact iteF (k _ (g.trans g3))
      | true =>
        rw [hs, Bool.true_and] at k
        refine iteT ⟨_, rfl, _, rfl, f, _, rfl, .inl (SqL.of (g3.lst hf)), rfl, flat_sv _, ?_⟩
        rw [inV_sv]
        have e9 : decide (o ∈ ks) = @decide (M.Reach (M.stepR T n o) n o) (Classical.propDecidable _) := by
          refine decide_eq_decide.mpr ?_
          rw [hfin o]
          refine reach_congr fun x y => ?_
          unfold M.stepR
          rw [List.mem_filter, decide_eq_true_iff]
        rw [e9]
        exact k _ (g.trans g3)
end
end SW


set_option maxHeartbeats 2000000
namespace SW
open PySem PySem.Spec PyProof.Rows L2 He LamX NdefX
open SW.M (Ent Tb Oc)
theorem find_at : ∀ {es : List En} {i : Nat} {E : En}, (M.names es).Nodup → es[i]? = some E → M.find es E.label = some E
  | E0 :: es, 0, E, _, h => by
    simp at h
    subst h
    rw [find_cons, if_pos rfl]
  | E0 :: es, i + 1, E, nd, h => by
    have nd' : (E0.label :: M.names es).Nodup := nd
    obtain ⟨h1, h2⟩ := List.nodup_cons.mp nd'
    have h : es[i]? = some E := by simpa using h
    rw [find_cons, if_neg]
    · exact find_at h2 h
    · intro e
      exact h1 (by rw [e]; exact List.mem_map.mpr ⟨E, List.mem_of_getElem? h, rfl⟩)
theorem names_at {es : List En} {i : Nat} {n : Str} (h : (M.names es)[i]? = some n) : ∃ E, es[i]? = some E ∧ E.label = n := by
  unfold M.names at h
  rw [List.getElem?_map] at h
  cases q : es[i]? with
  | none =>
    rw [q] at h
    cases h
  | some E =>
    rw [q] at h
    exact ⟨E, rfl, Option.some.inj h⟩
/-- hooks of a few short clauses -/
def WfH (es : List En) : Prop := ∀ E ∈ es, ∀ cl, E.hook = some cl → cl.length ≤ 4 ∧ ∀ c ∈ cl, c.1.length ≤ 5
def flatE (es : List En) : List Str := (hooksOf es).flatMap wantsOf
theorem meths_flat (es : List En) : meths es = flatE es := rfl
theorem flatE_snoc {es : List En} {E : En} : flatE (es ++ [E]) = flatE es ++ (match E.hook with | none => [] | some cl => wantsOf cl) := by
  unfold flatE hooksOf
  rw [List.filterMap_append, List.flatMap_append]
  congr 1
  cases h : E.hook <;> simp [h]
theorem wants_len {cl : List (List Str × Bool)} (h2 : ∀ c ∈ cl, c.1.length ≤ 5) : (wantsOf cl).length ≤ 5 * cl.length := by
  unfold wantsOf
  induction cl with
  | nil => exact Nat.zero_le _
  | cons c r ih =>
    have h := ih fun d hd => h2 d (List.mem_cons_of_mem _ hd)
    have h0 := h2 c List.mem_cons_self
    rw [List.flatMap_cons, List.length_append, List.length_cons]
    omega
theorem flatE_cons {es : List En} {E : En} : flatE (E :: es) = (match E.hook with | none => [] | some cl => wantsOf cl) ++ flatE es := by
  unfold flatE hooksOf
  rw [List.filterMap_cons]
  cases h : E.hook <;> simp
theorem flatE_len {es : List En} (h : WfH es) : (flatE es).length ≤ 20 * es.length := by
  induction es with
  | nil => exact Nat.zero_le _
  | cons E r ih =>
    have h1 := ih fun E hE => h E (List.mem_cons_of_mem _ hE)
    rw [flatE_cons, List.length_append, List.length_cons]
    have h2 : (match E.hook with | none => [] | some cl => wantsOf cl).length ≤ 20 := by
      cases ho : E.hook with
      | none => exact Nat.zero_le _
      | some cl =>
        obtain ⟨a1, a2⟩ := h E List.mem_cons_self cl ho
        have a3 := wants_len a2
        show (wantsOf cl).length ≤ 20
        omega
    omega
section
variable {P : Program} {w : World} {K : PySem.W.Frag} {mg : Str → Option Value} {base : Heap}
def spLMeths (K : PySem.W.Frag) : Sp := fun vs H Q _ => ∃ (p : Addr) (T : Tb Str), vs = [.ref p] ∧ PlAt H p T ∧ Wf T.es ∧ WfH T.es ∧ WfM T.es ∧ AnsN (tt K) H Q (.lst (sv (asc (meths T.es))))
theorem sc__law_methods : FnScope ["_law_plain", "_law_found", "_law_name", "_law_wanted", "_law_answer"] ["_law_plain"] (defScope s__law_methods) := ⟨rfl, rfl, rfl, by decide +kernel, rfl, by decide +kernel, by decide +kernel⟩
theorem ok__law_methods (c : Tx K mg base) : Ok P w K mg base 1 (ga K "_law_methods") ["_law_plain"] (spLMeths K) := by
  refine Ok.mk' (fd__law_methods c) sc__law_methods (fun _ _ _ _ _ _ us hl => match us, hl with | [_], _ => rfl) (fun vs H Q E h => ?_) (fun cdv A outer s H vs Q E hr h => ?_)
  · obtain ⟨p, T, rfl, _⟩ := h
    rfl
  · obtain ⟨p, T, rfl, hP, wf, wh, wm, k⟩ := h
    refine ⟨_, (pss_cons (ps_set (i := 1) sc__law_methods.nd rfl (Or.inl rfl) (pe_lst pa_nil)) (pss_cons (ps_for PassesOwn.never rfl (piL K rfl (pe_dget (hu_of hr) (pv 0) pe_str (fun _ _ => rfl))) (pg_name (i := 2) sc__law_methods.nd rfl (Or.inl rfl)) (pss_one (ps_if (pt_cmpR op_notN (pe_dget (hu_of hr) (pe_dget (hu_of hr) (pv 0) pe_str (fun _ _ => rfl)) (pv 2) (fun _ _ => rfl)) pe_non (nomark _)) (pss_one (ps_for PassesOwn.never rfl (piT K rfl (pe_ix (ixTK K rfl) (pe_dget (hu_of hr) (pe_dget (hu_of hr) (pv 0) pe_str (fun _ _ => rfl)) (pv 2) (fun _ _ => rfl)) pe_int (fun _ _ => rfl))) (gtupK K (n := 2) rfl rfl (pgs_cons (pg_name (i := 3) sc__law_methods.nd rfl (Or.inl rfl)) (pgs_cons (pg_name (i := 4) sc__law_methods.nd rfl (Or.inl rfl)) pgs_nil))) (pss_one (ps_set (i := 1) sc__law_methods.nd rfl (Or.inl rfl) (pe_op op_cat (pv 1) (pe_callTy (listK K rfl) (by rfl) (n_list c) (by first | exact PySem.boot_list | exact boot_list | decide +kernel) (pa_cons (pv 3) pa_nil))))))) pss_nil))) (pss_one (ps_ret (pe_callB (cr_srtS rfl) (by rfl) (n_sorted c) (by first | exact PySem.boot_sorted | exact boot_sorted | decide +kernel) (pa_cons (pe_callTy (cr_setS rfl) (by rfl) (n_set c) (by first | exact PySem.boot_set | exact boot_set | decide +kernel) (pa_cons (pv 1) pa_nil)) pa_nil)))))), ?_⟩
    refine ⟨by show 0 ≤ sizeLine; decide, fun f hf => ?_⟩
    have g0 : Gr (tt K) H (upd H f (.lst [])) := Gr.new hf
    have hf0 : upd H f (.lst []) f = some (.lst []) := upd_same
    generalize upd H f (.lst []) = H0 at *
    obtain ⟨nn, hn1, hn2⟩ := (hP.mono g0).names
    have hnl : (M.names T.es).length = T.es.length := by simp [M.names]
    have few := wf.few
    refine ⟨_, rfl, p, _, rfl, hn1, nn, rfl, ⟨_, SqL.of hn2⟩, ?_⟩
    refine for_list (K := K) (a := nn) (xs := sv (M.names T.es)) (fun i σ H' => Gr (tt K) H0 H' ∧ ∃ f x y z, σ = [some (.ref p), some (.ref f), x, y, z] ∧ H' f = some (.lst (sv (flatE (T.es.take i))))) ⟨Gr.refl _, f, _, _, _, rfl, hf0⟩ (fun i σ H' _ h => h.1.sqL (SqL.of hn2)) ?_ ?_
    · rintro i v σ H' hi ⟨g, f, x, y, z, rfl, hf⟩
      obtain ⟨n, hn, rfl⟩ := sv_at hi
      obtain ⟨E, hE, hEl⟩ := names_at hn
      have hEm := List.mem_of_getElem? hE
      have ets : T.es.take (i + 1) = T.es.take i ++ [E] := by rw [List.take_succ, hE] <;> rfl
      have gH := g0.trans g
      obtain ⟨rr, q1, q2⟩ := (hP.mono gH).rules
      obtain ⟨v, E', q3, q4, q5, q6, q7⟩ := q2 n (List.mem_of_getElem? hn)
      have eE : E' = E := by
        have := find_at wf.nd hE
        rw [hEl, q5] at this
        exact Option.some.inj this
      subst eE
      refine ⟨_, rfl, p, _, rfl, q1, _, rfl, rr, _, rfl, q3, ?_⟩
      rcases q4 with ⟨ho, rfl⟩ | ⟨a, ha, cl, rfl, hta, ho, hcl⟩
      · refine ⟨rfl, _, rfl, iteF ⟨g, f, _, _, _, rfl, ?_⟩⟩
        rw [ets, flatE_snoc, ho, List.append_nil]
        exact hf
      · refine ⟨rfl, _, rfl, iteT ⟨_, rfl, p, _, rfl, q1, _, rfl, rr, _, rfl, q3, a, _, 0, _, rfl, rfl, SqT.of hta, rfl, ?_⟩⟩
        obtain ⟨a', xs, e1, hxs, hpc⟩ := hcl
        cases e1
        obtain ⟨w1, w2⟩ := wh _ hEm cl ho
        refine ⟨ha, rfl, ⟨_, SqT.of hxs⟩, ?_⟩
        refine for_tup (K := K) (a := ha) (xs := xs) (fun j σ H2 => Gr (tt K) H' H2 ∧ ∃ f x y z, σ = [some (.ref p), some (.ref f), x, y, z] ∧ H2 f = some (.lst (sv (flatE (T.es.take i) ++ wantsOf (cl.take j))))) ⟨Gr.refl _, f, _, _, _, rfl, by rw [List.take_zero]; simp [wantsOf, hf]⟩ (fun j σ H2 _ h => h.1.sqT (SqT.of hxs)) ?_ ?_
        · rintro j u σ H2 hj ⟨g2, f2, x, y, z, rfl, hf2⟩
          obtain ⟨c0, hc0, p0, q0, rfl, r1, r2⟩ := prd_getL hpc hj
          have hcm := List.mem_of_getElem? hc0
          refine ⟨p0, _, rfl, SqT.of (g2.tup r1), rfl, _, _, rfl, _, _, rfl, rfl, ?_⟩
          refine ⟨_, rfl, _, rfl, q0, _, rfl, .inr (SqT.of (g2.tup r2)), fun l hl => ?_⟩
          have nfl := ne_of_none hf2 hl
          refine ⟨f2, l, _, _, rfl, rfl, by rw [upd_ne nfl]; exact hf2, upd_same, ?_, fun f3 hf3 => ⟨g2.trans ((Gr.new hl).trans (Gr.new hf3)), f3, _, _, _, rfl, ?_⟩⟩
          · have b1 := flatE_len (es := T.es.take i) fun E hE => wh E (List.mem_of_mem_take hE)
            have b2 := wants_len (cl := cl.take j) fun c hc => w2 c (List.mem_of_mem_take hc)
            have b3 := w2 c0 hcm
            rw [List.length_take] at b1 b2
            simp only [sv, List.length_map, List.length_append]
            exact Nat.le_trans (show _ ≤ 1000 by omega) (by decide)
          · rw [upd_same, List.take_succ, hc0]
            unfold sv wantsOf
            simp [List.map_append]
        · rintro σ H2 ⟨g2, f2, x, y, z, rfl, hf2⟩
          refine ⟨g.trans g2, f2, _, _, _, rfl, ?_⟩
          rw [prd_len hpc, List.take_length] at hf2
          rw [ets, flatE_snoc, ho]
          exact hf2
    · rintro σ H' ⟨g, f, x, y, z, rfl, hf⟩
      rw [sv_len, hnl, List.take_length] at hf
      have b1 := flatE_len wh
      refine ⟨_, rfl, f, flatE T.es, rfl, .inl (SqL.of hf), by omega, fun s1 hs1 => ?_⟩
      refine ⟨s1, _, rfl, upd_same, ?_, fun ys q pm srt hq => ?_⟩
      · exact Nat.lt_of_le_of_lt wm.len (by decide)
      · refine k _ q (((g0.trans g).trans (Gr.new hs1)).trans (Gr.new hq)) ?_
        rw [upd_same, asc_of pm srt] <;> rfl
end
end SW


set_option maxHeartbeats 2000000
namespace SW
open PySem PySem.Spec PyProof.Rows L2 He LamX NdefX
open SW.M (Ent Tb Oc)
/-- lists of texts, tracked, in a list -/
def PlsAt (H : Hp) (p : Addr) (ps : List (List Str)) : Prop := ∃ qs : List V, H p = some (.lst qs) ∧ Paired (fun v ms => LsAt H ms v) qs ps
theorem PlsAt.pats {K : PySem.W.Frag} {H : Hp} {p : Addr} {ps : List (List Str)} (h : PlsAt H p ps) : PatsAt K H p ps := by
  obtain ⟨qs, h1, h2⟩ := h
  have : ∃ as : List Addr, qs = as.map V.ref ∧ Paired (fun q ms => MsAt K H q ms) as ps := by
    clear h1
    induction h2 with
    | nil => exact ⟨[], rfl, .nil⟩
    | cons r _ ih =>
      obtain ⟨q, rfl, h⟩ := r
      obtain ⟨as, rfl, h3⟩ := ih
      exact ⟨q :: as, rfl, .cons (.inl (SqL.of h)) h3⟩
  obtain ⟨as, rfl, h3⟩ := this
  exact ⟨as, h1, h3⟩
def twoC (T : Tb Str) : List (Str × Str) := ((M.names T.es).filter fun n => M.sworn T.es n).flatMap fun n => ((M.names T.es).filter fun o => decide (o ≠ n)).map fun o => (n, o)
theorem mem_twoC {T : Tb Str} {a b : Str} : (a, b) ∈ twoC T ↔ a ∈ M.names T.es ∧ M.sworn T.es a = true ∧ b ∈ M.names T.es ∧ b ≠ a := by
  unfold twoC
  rw [List.mem_flatMap]
  constructor
  · rintro ⟨n, hn, h⟩
    obtain ⟨h1, h2⟩ := List.mem_filter.mp hn
    obtain ⟨o, ho, e⟩ := List.mem_map.mp h
    obtain ⟨h3, h4⟩ := List.mem_filter.mp ho
    cases e
    exact ⟨h1, h2, h3, of_decide_eq_true h4⟩
  · rintro ⟨h1, h2, h3, h4⟩
    exact ⟨a, List.mem_filter.mpr ⟨h1, h2⟩, List.mem_map.mpr ⟨b, List.mem_filter.mpr ⟨h3, decide_eq_true h4⟩, rfl⟩⟩
section
variable {P : Program} {w : World} {K : PySem.W.Frag} {mg : Str → Option Value} {base : Heap}
def spLPats (K : PySem.W.Frag) : Sp := fun vs H Q _ => ∃ (p : Addr) (T : Tb Str), vs = [.ref p] ∧ PlAt H p T ∧ Wf T.es ∧ WfH T.es ∧ WfM T.es ∧ ∀ H' q, Gr (tt K) H H' → PatsAt K H' q (pats (asc (meths T.es))) → Q (.ref q) H'
theorem sc__law_patterns : FnScope ["_law_plain", "_law_found", "_law_method", "_law_one"] ["_law_plain"] (defScope s__law_patterns) := ⟨rfl, rfl, rfl, by decide +kernel, rfl, by decide +kernel, by decide +kernel⟩
theorem ok__law_patterns (c : Tx K mg base) : Ok P w K mg base 2 (ga K "_law_patterns") ["_law_plain"] (spLPats K) := by
  refine Ok.mk' (fd__law_patterns c) sc__law_patterns (fun _ _ _ _ _ _ us hl => match us, hl with | [_], _ => rfl) (fun vs H Q E h => ?_) (fun cdv A outer s H vs Q E hr h => ?_)
  · obtain ⟨p, T, rfl, _⟩ := h
    rfl
  · obtain ⟨p, T, rfl, hP, wf, wh, wm, k⟩ := h
    refine ⟨_, (pss_cons (ps_set (i := 1) sc__law_patterns.nd rfl (Or.inl rfl) (pe_lst (pa_cons (pe_lst pa_nil) pa_nil))) (pss_cons (ps_for PassesOwn.never rfl (piL K rfl ((ok__law_methods c).call hr (by decide) (g__law_methods c) (pa_cons (pv 0) pa_nil))) (pg_name (i := 2) sc__law_patterns.nd rfl (Or.inr rfl)) (pss_one (ps_set (i := 1) sc__law_patterns.nd rfl (Or.inl rfl) (pe_op op_cat (pv 1) (pe_lc (own := [("_law_one", 3)]) (g := (gName 3)) (tt := tYes) rfl sc__law_patterns.nd (piL K rfl (pv 1)) (blkOk_by (N := ["_law_plain", "_law_found", "_law_method", "_law_one"]) (sc := defScope s__law_patterns) (by decide +kernel)) (fun _ _ _ _ _ => (pg_name (i := 3) sc__law_patterns.nd rfl (by first | exact Or.inl rfl | exact Or.inr rfl))) (fun _ _ _ _ _ => by exact pts_nil) (fun _ _ _ _ _ => by exact (pe_op op_cat (pv 3) (pe_lst (pa_cons (pv 2) pa_nil))))))))) (pss_one (ps_ret (pv 1))))), ?_⟩
    refine ⟨by show 0 ≤ sizeLine; decide, fun z hz => ⟨by show 1 ≤ sizeLine; decide, fun f hf => ?_⟩⟩
    refine ⟨_, rfl, p, T, rfl, hP.mono (B := tt K) ((Gr.new hz).trans (Gr.new hf)), wf, wh, wm, fun H1 ml g1 hml => ?_⟩
    have g01 : Gr (tt K) H H1 := ((Gr.new hz).trans (Gr.new hf)).trans g1
    have l5 : (asc (meths T.es)).length ≤ 5 := Nat.le_trans (asc_le _) wm.len
    refine ⟨ml, rfl, ⟨_, SqL.of hml⟩, ?_⟩
    refine for_list (xs := sv (asc (meths T.es))) (fun i σ H' => Gr (tt K) H1 H' ∧ ∃ pf x y, σ = [some (.ref p), some (.ref pf), x, y] ∧ PlsAt H' pf (pats ((asc (meths T.es)).take i))) ⟨Gr.refl _, _, _, _, rfl, ⟨[.ref z], g1.lst upd_same, .cons ⟨z, rfl, g1.lst ?_⟩ .nil⟩⟩ (fun i σ H' _ h => h.1.sqL (SqL.of hml)) ?_ ?_
    · rw [upd_ne (ne_of_none upd_same hf)]
      exact upd_same
    · rintro i x σ H' hi ⟨g, pf, x', y', rfl, qs, hpf, hqs⟩
      obtain ⟨m, hm, rfl⟩ := sv_at hi
      have hi5 : i < 5 := Nat.lt_of_lt_of_le (List.getElem?_eq_some_iff.mp hm).1 l5
      obtain ⟨p1, p2⟩ := pats_len ((asc (meths T.es)).take i) i (by rw [List.length_take]; have := (List.getElem?_eq_some_iff.mp hm).1; omega)
      have p3 : (pats ((asc (meths T.es)).take i)).length ≤ 16 := by
        rw [p1]
        exact Nat.le_trans (Nat.pow_le_pow_right (by decide) (by omega : i ≤ 4)) (by decide)
      refine ⟨_, rfl, _, rfl, pf, rfl, ⟨_, SqL.of hpf⟩, fun D hD => ?_⟩
      refine lcR (T := tt K) (walk_list (K := K) (a := pf) (xs := qs)) (pats ((asc (meths T.es)).take i)) (prd_len hqs) (Nat.le_trans p3 (by decide)) (fun H p v => LsAt H (p ++ [m]) v) (fun b v H H' g h => h.mono g) (fun _ => true) hD (fun H2 g2 => g2.sqL (SqL.of hpf)) (fun j p x H2 H3 ys hj g2 hy y Kp Ks kp ks => ?_) (fun H2 ys g2 hl hq => ?_)
      · obtain ⟨rfl, hx⟩ := y
        obtain ⟨v, hv, q, rfl, hqq⟩ := prd_get hqs hj
        rw [hv] at hx
        cases hx
        have hql := p2 p (List.mem_of_getElem? hj)
        refine ⟨rfl, yesT ⟨_, rfl, _, rfl, by show 1 ≤ sizeLine; decide, fun u hu => ?_⟩⟩
        have hq2 := g2.lst hqq
        refine ⟨q, u, _, _, rfl, rfl, by rw [upd_ne (ne_of_none hq2 hu)]; exact hq2, upd_same, ?_, fun r hr => ?_⟩
        · rw [sv_len]
          exact Nat.le_trans (Nat.add_le_add_right hql 1) (by unfold sizeLine; omega)
        · refine kp rfl _ _ ((Gr.new hu).trans (Gr.new hr)) ⟨r, rfl, ?_⟩
          rw [wo_ne]
          · rw [upd_same]
            unfold sv
            rw [List.map_append] <;> rfl
          · intro z
            subst z
            rw [upd_ne (ne_of_none hy hu), hy] at hr
            cases hr
      · rw [filter_yes] at hq
        have hpf2 := g2.lst hpf
        refine ⟨pf, D, _, _, rfl, rfl, hpf2, hl, ?_, fun f2 hf2 => ?_⟩
        · rw [prd_len hqs, prd_len hq]
          exact Nat.le_trans (Nat.add_le_add p3 p3) (by unfold sizeLine; omega)
        · refine ⟨(g.trans g2).trans (Gr.new hf2), f2, _, _, rfl, ?_⟩
          have et : (asc (meths T.es)).take (i + 1) = (asc (meths T.es)).take i ++ [m] := by
            rw [List.take_succ, hm] <;> rfl
          rw [et, pats_snoc]
          exact ⟨_, upd_same, prd_app (prd_mono hqs fun v p h => h.mono (g2.trans (Gr.new hf2))) (prd_mapR (prd_mono hq fun v p h => h.mono (Gr.new (T := tt K) hf2)))⟩
    · rintro σ H' ⟨g, pf, x, y, rfl, hp⟩
      rw [sv_len, List.take_length] at hp
      exact ⟨_, rfl, k _ _ (g01.trans g) hp.pats⟩
def spLTwo (K : PySem.W.Frag) : Sp := fun vs H Q _ => ∃ (p : Addr) (T : Tb Str), vs = [.ref p] ∧ PlAt H p T ∧ Wf T.es ∧ ∀ H' q, Gr (tt K) H H' → PairsAt H' q (twoC T) → Q (.ref q) H'
theorem sc__law_two_classes : FnScope ["_law_plain", "_law_some", "_law_found", "_law_name", "_law_other"] ["_law_plain"] (defScope s__law_two_classes) := ⟨rfl, rfl, rfl, by decide +kernel, rfl, by decide +kernel, by decide +kernel⟩
theorem ok__law_two_classes (c : Tx K mg base) : Ok P w K mg base 2 (ga K "_law_two_classes") ["_law_plain"] (spLTwo K) := by
  refine Ok.mk' (fd__law_two_classes c) sc__law_two_classes (fun _ _ _ _ _ _ us hl => match us, hl with | [_], _ => rfl) (fun vs H Q E h => ?_) (fun cdv A outer s H vs Q E hr h => ?_)
  · obtain ⟨p, T, rfl, _⟩ := h
    rfl
  · obtain ⟨p, T, rfl, hP, wf, k⟩ := h
    refine ⟨_, (pss_cons (ps_setLc (i := 1) (own := [("_law_name", 3)]) (g := (gName 3)) rfl sc__law_two_classes.nd rfl rfl (sw_true rfl rfl rfl (by decide +kernel)) (piL K rfl (pe_dget (hu_of hr) (pv 0) pe_str (fun _ _ => rfl))) (blkOk_by (N := ["_law_plain", "_law_some", "_law_found", "_law_name", "_law_other"]) (sc := defScope s__law_two_classes) (by decide +kernel)) (fun _ _ _ _ _ => (pg_name (i := 3) sc__law_two_classes.nd rfl (by first | exact Or.inl rfl | exact Or.inr rfl))) (fun _ _ _ _ _ => by exact (pts_one (pt_val ((ok__law_sworn c).call hr (by decide) (g__law_sworn c) (pa_cons (pv 0) (pa_cons (pv 3) pa_nil)))))) (fun _ _ _ _ _ => by exact (pv 3))) (pss_cons (ps_set (i := 2) sc__law_two_classes.nd rfl (Or.inl rfl) (pe_lst pa_nil)) (pss_cons (ps_for PassesOwn.never rfl (piL K rfl (pv 1)) (pg_name (i := 3) sc__law_two_classes.nd rfl (Or.inr rfl)) (pss_one (ps_set (i := 2) sc__law_two_classes.nd rfl (Or.inl rfl) (pe_op op_cat (pv 2) (pe_lc (own := [("_law_other", 4)]) (g := (gName 4)) rfl sc__law_two_classes.nd (piL K rfl (pe_dget (hu_of hr) (pv 0) pe_str (fun _ _ => rfl))) (blkOk_by (N := ["_law_plain", "_law_some", "_law_found", "_law_name", "_law_other"]) (sc := defScope s__law_two_classes) (by decide +kernel)) (fun _ _ _ _ _ => (pg_name (i := 4) sc__law_two_classes.nd rfl (by first | exact Or.inl rfl | exact Or.inr rfl))) (fun _ _ _ _ _ => by exact (pts_one (pt_cmpR op_ne (pv 4) (pv 3) (nomark _)))) (fun _ _ _ _ _ => by exact (pe_tup (pa_cons (pv 3) (pa_cons (pv 4) pa_nil))))))))) (pss_one (ps_ret (pv 2)))))), ?_⟩
    obtain ⟨nn, hn1, hn2⟩ := hP.names
    have few := wf.few
    refine ⟨_, rfl, p, _, rfl, hn1, nn, rfl, ⟨_, SqL.of hn2⟩, fun D hD => ?_⟩
    refine lcL (T := tt K) V.str (M.names T.es) (SqL.of hn2) (Nat.le_trans few (by decide)) V.str (fun n => M.sworn T.es n) hD (fun n hn H' g Kp Ks kp ks => ?_) (fun H1 g1 hD1 => ?_)
    · refine ⟨rfl, _, rfl, _, rfl, p, T, n, rfl, hP.mono g, wf, hn, fun H2 g2 => ⟨_, rfl, ?_⟩⟩
      show if M.sworn T.es n = true then _ else _
      cases hc : M.sworn T.es n with
      | true => exact iteT ⟨_, rfl, kp hc _ g2⟩
      | false => exact iteF (ks hc _ g2)
    · have hD1 : H1 D = some (.lst (sv ((M.names T.es).filter fun n => M.sworn T.es n))) := hD1
      have fl : ((M.names T.es).filter fun n => M.sworn T.es n).length ≤ 12 := Nat.le_trans (List.length_filter_le _ _) few
      unfold twoC at k
      generalize (M.names T.es).filter (fun n => M.sworn T.es n) = SN at *
      refine ⟨by show 0 ≤ sizeLine; decide, fun f hf => ?_⟩
      have g0 : Gr (tt K) H (upd H1 f (.lst [])) := g1.trans (Gr.new hf)
      have hf0 : upd H1 f (.lst []) f = some (.lst []) := upd_same
      have hD0 : upd H1 f (.lst []) D = some (.lst (sv SN)) := (Gr.new (T := tt K) hf).lst hD1
      generalize upd H1 f (.lst []) = H0 at *
      refine ⟨_, rfl, D, rfl, ⟨_, SqL.of hD0⟩, ?_⟩
      refine for_list (K := K) (a := D) (xs := sv SN) (fun i σ H' => Gr (tt K) H0 H' ∧ ∃ f x y, σ = [some (.ref p), some (.ref D), some (.ref f), x, y] ∧ PairsAt H' f ((SN.take i).flatMap fun n => ((M.names T.es).filter fun o => decide (o ≠ n)).map fun o => (n, o)) ∧ ((SN.take i).flatMap fun n => ((M.names T.es).filter fun o => decide (o ≠ n)).map fun o => (n, o)).length ≤ 12 * i) ⟨Gr.refl _, f, _, _, rfl, ⟨[], hf0, .nil⟩, Nat.le_refl _⟩ (fun i σ H' _ h => h.1.sqL (SqL.of hD0)) ?_ ?_
      · rintro i v σ H' hi ⟨g, f, x, y, rfl, ⟨xs, hf, hxs⟩, hlen⟩
        obtain ⟨n, hn, rfl⟩ := sv_at hi
        have hil := (List.getElem?_eq_some_iff.mp hn).1
        have gH := g0.trans g
        obtain ⟨n2, m1, m2⟩ := (hP.mono gH).names
        refine ⟨_, rfl, _, rfl, p, _, rfl, m1, n2, rfl, ⟨_, SqL.of m2⟩, fun D2 hD2 => ?_⟩
        refine lcR (T := tt K) (walk_list (K := K) (a := n2) (xs := sv (M.names T.es))) (M.names T.es) (by simp [sv]) (Nat.le_trans few (by decide)) (fun G o v => ∃ a, v = .ref a ∧ G a = some (.tup [.str n, .str o])) (fun o v H1 H2 g ⟨a, e, h⟩ => ⟨a, e, g.tup h⟩) (fun o => decide (o ≠ n)) hD2 (fun H' g => g.sqL (SqL.of m2)) (fun j o x H2 H2' ys hj g2 hy y Kp Ks kp ks => ?_) (fun H2 ys g2 hl hys => ?_)
        · obtain ⟨rfl, hx⟩ := y
          obtain ⟨o', ho', rfl⟩ := sv_at hx
          rw [hj] at ho'
          cases ho'
          refine ⟨rfl, _, rfl, _, rfl, rfl, _, rfl, ?_⟩
          have e0 : (!decide (V.str o = V.str n)) = decide (o ≠ n) := by
            by_cases e : o = n <;> simp [e]
          rw [e0]
          cases hc : decide (o ≠ n) with
          | true =>
            refine iteT ⟨_, rfl, _, rfl, by show 2 ≤ sizeLine; decide, fun a ha => kp hc _ _ (Gr.new ha) ⟨a, rfl, ?_⟩⟩
            rw [wo_ne, upd_same]
            intro e
            rw [e, hy] at ha
            cases ha
          | false => exact iteF (ks hc _ (Gr.refl _))
        · refine ⟨f, D2, _, _, rfl, rfl, g2.lst hf, hl, ?_, fun q hq => ?_⟩
          · have a1 := prd_len hxs
            have a2 := prd_len hys
            have a3 := List.length_filter_le (fun o => decide (o ≠ n)) (M.names T.es)
            exact Nat.le_trans (show _ ≤ 1000 by omega) (by decide)
          · have ets : SN.take (i + 1) = SN.take i ++ [n] := by rw [List.take_succ, hn] <;> rfl
            have gq := g2.trans (Gr.new (o := .lst (xs ++ ys)) hq)
            refine ⟨g.trans gq, q, _, _, rfl, ⟨_, upd_same, ?_⟩, ?_⟩
            · rw [ets, List.flatMap_append]
              refine prd_app (prd_mono hxs fun v pr ⟨a, e, h⟩ => ⟨a, e, gq.tup h⟩) ?_
              rw [List.flatMap_cons, List.flatMap_nil, List.append_nil]
              exact prd_mapR (prd_mono hys fun v o ⟨a, e, h⟩ => ⟨a, e, (Gr.new (T := tt K) hq).tup h⟩)
            · rw [ets, List.flatMap_append, List.length_append, List.flatMap_cons, List.flatMap_nil, List.append_nil, List.length_map]
              have a3 := List.length_filter_le (fun o => decide (o ≠ n)) (M.names T.es)
              omega
      · rintro σ H' ⟨g, f, x, y, rfl, hf, _⟩
        rw [sv_len, List.take_length] at hf
        exact ⟨_, rfl, k _ f (g0.trans g) hf⟩
end
end SW


set_option maxHeartbeats 2000000
namespace SW
open PySem PySem.Spec PyProof.Rows L2 He LamX NdefX
open SW.M (Ent Tb Oc)
/-! ## {None: 0, "neither": 0, "reached": 1, "won": 2} -/
def rankK : Option Oc → Option Key
  | none => none
  | some .neither => some (.inr "neither")
  | some .reached => some (.inr "reached")
  | some .won => some (.inr "won")
def RankAt (P : Program) (w : World) (h : Heap) (a : Addr) : Prop := ∃ f, h.MapOf (noneKind P w) a f ∧ ∀ oc, ∃ t, f (rankK oc) = some (.int (M.rank oc : Nat) t)
def RankS (P : Program) (w : World) (a : Addr) : HO := .ext fun h => RankAt P w h a
theorem rank_ok {P : Program} {w : World} {H : Hp} {h : Heap} {a : Addr} (R : RankAt P w h a) : ObjOk P w H h a (RankS P w a) := by
  have R' := R
  obtain ⟨f, ⟨o, es, ep, ho, hx⟩, hf⟩ := R
  refine ⟨R', ⟨o, ho⟩, fun h1 h2 p k => ?_⟩
  obtain ⟨f, ⟨o, es, ep, ho, hx⟩, hf⟩ := p
  exact ⟨f, ⟨o, es, ep, k o ho, hx⟩, hf⟩
theorem rank_nt {P : Program} {w : World} {a : Addr} : NoTbl (RankS P w a) := nt_ext
def tRank (P : Program) (w : World) : TE := fun _ H Q => ∀ p, H p = none → Q (.ref p) (upd H p (RankS P w p))
theorem ocV_is {P : Program} {w : World} {oc : Option Oc} {u : Value} (h : RelV (ocV oc) u) : (noneKind P w).is (rankK oc) u = true := by
  cases oc with
  | none =>
    cases (show u = Value.none from h)
    rfl
  | some o =>
    cases o with
    | won =>
      obtain ⟨t, rfl⟩ := (show ∃ t, u = Value.str "won" t from h)
      exact keyIs_str _ t
    | reached =>
      obtain ⟨t, rfl⟩ := (show ∃ t, u = Value.str "reached" t from h)
      exact keyIs_str _ t
    | neither =>
      obtain ⟨t, rfl⟩ := (show ∃ t, u = Value.str "neither" t from h)
      exact keyIs_str _ t
section
variable {X : Cx} {pos : Pos}
theorem pe_rank {keys : List (Option Expr)} {values : List Expr} (h : PPs X pos keys values [(tC .non, tC (.int 0)), (tC (.str "neither"), tC (.int 0)), (tC (.str "reached"), tC (.int 1)), (tC (.str "won"), tC (.int 2))])
    (hall : keys.all (·.isSome) = true) (hl : keys.length = values.length) (h0 : keys ≠ []) (h15 : keys.length ≤ 15) : PE X (.Dict keys values pos) (tRank X.prog X.w) := by
  refine ⟨fun pins s σ H Q I q => ?_⟩
  have hn := I.hok.fresh (Nat.le_refl s.heap.objs.size)
  have I1 := I.laid (a := s.heap.objs.size) (o := .dK []) (h' := s.heap.push { cls := .type "dict", data := .dict #[] }) (t' := s.toks) (fun _ _ q => Heap.get?_push_of_some _ q) (Nat.le_refl _) (dk_empty s.heap I.big)
  refine wpAny_Dict_walk (knd := noneKind X.prog X.w) hall hl h0 h15 (thn (h.run pins _ σ _ (fun ps H2 => ps = [(.non, .int 0), (.str "neither", .int 0), (.str "reached", .int 1), (.str "won", .int 2)] ∧ H2 = upd H s.heap.objs.size (.dK [])) I1 ⟨rfl, rfl⟩) fun ws s2 hw => ?_)
  obtain ⟨ps, H2, I2, rel, rfl, rfl⟩ := hw
  have e : upd H s.heap.objs.size (.dK []) s.heap.objs.size = some (.dK []) := upd_same
  obtain ⟨z, hd, vs0, r0, dd⟩ := dk_of I2.hok e
  cases r0
  cases rel with
  | @cons _ q1 _ _ a1 rel =>
  cases rel with
  | @cons _ q2 _ _ a2 rel =>
  cases rel with
  | @cons _ q3 _ _ a3 rel =>
  cases rel with
  | @cons _ q4 _ _ a4 rel =>
  cases rel
  obtain ⟨k1, v1⟩ := q1
  obtain ⟨k2, v2⟩ := q2
  obtain ⟨k3, v3⟩ := q3
  obtain ⟨k4, v4⟩ := q4
  obtain ⟨a1, b1⟩ := a1
  obtain ⟨a2, b2⟩ := a2
  obtain ⟨a3, b3⟩ := a3
  obtain ⟨a4, b4⟩ := a4
  obtain ⟨t1, rfl⟩ := (show ∃ t, v1 = Value.int 0 t from b1)
  obtain ⟨t2, rfl⟩ := (show ∃ t, v2 = Value.int 0 t from b2)
  obtain ⟨t3, rfl⟩ := (show ∃ t, v3 = Value.int 1 t from b3)
  obtain ⟨t4, rfl⟩ := (show ∃ t, v4 = Value.int 2 t from b4)
  have dd0 : s2.heap.DictOf (noneKind X.prog X.w) s.heap.objs.size [] := by
    obtain ⟨o, es, ep, ho, hx, hdt, hk, hp, hnd⟩ := dd
    have he : es.toList = [] := by
      have := hp.length
      exact List.length_eq_zero_iff.mp this
    have he2 : es = #[] := by
      obtain ⟨l⟩ := es
      cases he
      rfl
    subst he2
    exact ⟨o, #[], ep, ho, hx, hdt, fun e he => by simp at he, .nil, List.nodup_nil⟩
  refine ⟨[(rankK none, .int 0 t1), (rankK (some .neither), .int 0 t2), (rankK (some .reached), .int 1 t3), (rankK (some .won), .int 2 t4)], ⟨ocV_is (oc := none) a1, rfl, ocV_is (oc := some .neither) a2, rfl, ocV_is (oc := some .reached) a3, rfl, ocV_is (oc := some .won) a4, rfl, trivial⟩, dd0, fun h' dd' hs => ⟨.ref s.heap.objs.size, _, ?_, rfl, q _ hn⟩⟩
  have he : ∃ q, h'.get? s.heap.objs.size = some q := let ⟨q, _, _, hq, _⟩ := dd'; ⟨q, hq⟩
  have I3 := d_write (t' := s2.toks + 4) I2 (ob := RankS X.prog X.w s.heap.objs.size) (by rw [e]; exact True.intro) hs he (rank_ok ⟨_, dd'.mapOf, fun oc => ?_⟩)
  · rw [L2.upd_upd] at I3
    exact I3
  · have n1 : ¬ (Str.ofString "neither" = Str.ofString "reached") := by decide +kernel
    have n2 : ¬ (Str.ofString "neither" = Str.ofString "won") := by decide +kernel
    have n3 : ¬ (Str.ofString "reached" = Str.ofString "won") := by decide +kernel
    have em : merged [] [(rankK none, (.int 0 t1 : Value)), (rankK (some .neither), .int 0 t2), (rankK (some .reached), .int 1 t3), (rankK (some .won), .int 2 t4)] = [(rankK none, .int 0 t1), (rankK (some .neither), .int 0 t2), (rankK (some .reached), .int 1 t3), (rankK (some .won), .int 2 t4)] := by
      simp [merged, stored, rankK, n1, n2, n3]
    rw [em]
    cases oc with
    | none => exact ⟨t1, by simp [valueAt, rankK, M.rank, n1, n2, n3]⟩
    | some o =>
      cases o with
      | won => exact ⟨t4, by simp [valueAt, rankK, M.rank, n1, n2, n3]⟩
      | reached => exact ⟨t3, by simp [valueAt, rankK, M.rank, n1, n2, n3]⟩
      | neither => exact ⟨t2, by simp [valueAt, rankK, M.rank, n1, n2, n3]⟩
def tRankGet (P : Program) (w : World) (td ty : TE) : TE := fun σ H Q => td σ H fun x H1 => ty σ H1 fun y H2 => ∃ a oc, x = .ref a ∧ H2 a = some (RankS P w a) ∧ y = ocV oc ∧ Q (.int (M.rank oc : Nat)) H2
theorem pe_rankget {o i : Expr} {td ty : TE} (ho : PE X o td) (hi : PE X i ty) (hs : NoSl i) : PE X (.Subscript o i pos) (tRankGet X.prog X.w td ty) := by
  refine ⟨fun pins s σ H Q I h => subD_of PySem.F.slot_dict_getitem.lookup hs (thn (ho.run pins s σ H _ I h) fun u s1 h1 => ?_)⟩
  obtain ⟨x, H1, I1, rx, q1⟩ := h1
  refine thn (hi.run pins s1 σ H1 _ I1 q1) fun iv s2 h2 => ?_
  obtain ⟨y, H2, I2, ry, a, oc, ex, ha, ey, q2⟩ := h2
  subst ex ey
  obtain rfl : u = Value.ref a := rx
  obtain ⟨f, hm, hf⟩ := (show RankAt X.prog X.w s2.heap a from (I2.hok a _ ha).1)
  obtain ⟨t, ht⟩ := hf oc
  exact ⟨hm.typeIs, wpAny_getItem_of (ocV_is ry) hm ht ⟨.int (M.rank oc : Nat), H2, I2.tok _, ⟨t, rfl⟩, q2⟩⟩
theorem pe_rankP {P : Program} {w : World} (hP : X.prog = P) (hw : X.w = w) {keys : List (Option Expr)} {values : List Expr} (h : PPs X pos keys values [(tC .non, tC (.int 0)), (tC (.str "neither"), tC (.int 0)), (tC (.str "reached"), tC (.int 1)), (tC (.str "won"), tC (.int 2))])
    (hall : keys.all (·.isSome) = true) (hl : keys.length = values.length) (h0 : keys ≠ []) (h15 : keys.length ≤ 15) : PE X (.Dict keys values pos) (tRank P w) := by
  subst hP hw
  exact pe_rank h hall hl h0 h15
theorem pe_rankgetP {P : Program} {w : World} (hP : X.prog = P) (hw : X.w = w) {o i : Expr} {td ty : TE} (ho : PE X o td) (hi : PE X i ty) (hs : NoSl i) : PE X (.Subscript o i pos) (tRankGet P w td ty) := by
  subst hP hw
  exact pe_rankget ho hi hs
end
end SW


set_option maxHeartbeats 2000000
namespace SW
open PySem PySem.Spec PyProof.Rows L2 He LamX NdefX
open SW.M (Ent Tb Oc)
section
variable {P : Program} {w : World} {K : PySem.W.Frag} {mg : Str → Option Value} {base : Heap}
theorem oc_dp {H : Hp} (o : Option Oc) : Dp K H (ocV o) (ocD o) := by
  cases o with
  | none => exact .non
  | some o => cases o <;> exact .str _
theorem oc_shape (o : Option Oc) : SeqAt.shaped (ocD o) = true := by
  cases o with
  | none => decide +kernel
  | some o => cases o <;> decide +kernel
theorem ocV_none (o : Option Oc) : decide (ocV o = V.non) = o.isNone := by
  cases o with
  | none => rfl
  | some o => cases o <;> rfl
abbrev sN__law_rises : List Str := ["_law_first", "_law_second", "_law_plain", "_law_ranks", "_law_many", "_law_name", "_law_other", "_law_some", "_law_before", "_law_after"]
def spLRises (K : PySem.W.Frag) : Sp := fun vs H Q _ => ∃ (w1 w2 p : Addr) (T1 T2 : Tb Str), vs = [.ref w1, .ref w2, .ref p] ∧ WorAt K H w1 T1 ∧ WorAt K H w2 T2 ∧ PlAt H p T1 ∧ T2.es = T1.es ∧ WfT T1 ∧ WfT T2 ∧ WfH T1.es ∧ WfM T1.es ∧ Tabs (tt K) H ∧
  (∀ c x ms, M.rank (M.oc T1 c x ms) ≤ M.rank (M.oc T2 c x ms) ∧ (M.oc T1 c x ms = none ↔ M.oc T2 c x ms = none)) ∧
  ∀ H' (m : Nat), Gr (tt K) H H' → (m = 0 ↔ ∀ q ∈ twoC T1, ∀ ms ∈ patsOf T1, M.oc T1 q.1 q.2 ms = M.oc T2 q.1 q.2 ms) → Q (.int m) H'
theorem sc__law_rises : FnScope ["_law_first", "_law_second", "_law_plain", "_law_ranks", "_law_many", "_law_name", "_law_other", "_law_some", "_law_before", "_law_after"] ["_law_first", "_law_second", "_law_plain"] (defScope s__law_rises) := ⟨rfl, rfl, rfl, by decide +kernel, rfl, by decide +kernel, by decide +kernel⟩
theorem ok__law_rises (c : Tx K mg base) : Ok P w K mg base 10 (ga K "_law_rises") ["_law_first", "_law_second", "_law_plain"] (spLRises K) := by
  refine Ok.mk' (fd__law_rises c) sc__law_rises (fun _ _ _ _ _ _ us hl => match us, hl with | [_, _, _], _ => rfl) (fun vs H Q E h => ?_) (fun cdv A outer s H vs Q E hr h => ?_)
  · obtain ⟨w1, w2, p, T1, T2, rfl, _⟩ := h
    rfl
  · obtain ⟨w1, w2, p, T1, T2, rfl, hW1, hW2, hP, he, wf1, wf2, wh, wm, hTab, hrise, k⟩ := h
    refine ⟨_, (pss_cons (ps_par (i := 3) (j := 4) rfl sc__law_rises.nd rfl rfl (by decide) rfl rfl (pa_cons (pe_rankP (P := P) (w := w) rfl rfl (pps_cons pe_non pe_int (pps_cons pe_str pe_int (pps_cons pe_str pe_int (pps_cons pe_str pe_int pps_nil)))) (by rfl) (by rfl) (fun z => by cases z) (by decide)) (pa_cons pe_int pa_nil)) (by rfl)) (pss_cons (ps_for PassesOwn.never rfl (piL K rfl ((ok__law_two_classes c).call hr (by decide) (g__law_two_classes c) (pa_cons (pv 2) pa_nil))) (gtupK K (n := 2) rfl rfl (pgs_cons (pg_name (i := 5) sc__law_rises.nd rfl (Or.inl rfl)) (pgs_cons (pg_name (i := 6) sc__law_rises.nd rfl (Or.inl rfl)) pgs_nil))) (pss_one (ps_for PassesOwn.never rfl (piL K rfl ((ok__law_patterns c).call hr (by decide) (g__law_patterns c) (pa_cons (pv 2) pa_nil))) (pg_name (i := 7) sc__law_rises.nd rfl (Or.inl rfl)) (pss_cons (ps_par (i := 8) (j := 9) rfl sc__law_rises.nd rfl rfl (by decide) rfl rfl (pa_cons ((ok_outcome c).call hr (by decide) (g_outcome c) (pa_cons (pv 0) (pa_cons (pv 5) (pa_cons (pv 6) (pa_cons (pv 7) pa_nil))))) (pa_cons ((ok_outcome c).call hr (by decide) (g_outcome c) (pa_cons (pv 1) (pa_cons (pv 5) (pa_cons (pv 6) (pa_cons (pv 7) pa_nil))))) pa_nil)) (by rfl)) (pss_cons (ps_if (PW.pt (pw_or (pt_cmpR op_lt (pe_rankgetP (P := P) (w := w) rfl rfl (pv 3) (pv 9) (fun _ _ => rfl)) (pe_rankgetP (P := P) (w := w) rfl rfl (pv 3) (pv 8) (fun _ _ => rfl)) (nomark _)) (pw_or1 (pt_cmpR op_ne (pe_cmpR op_isN (pv 8) pe_non (nomark _)) (pe_cmpR op_isN (pv 9) pe_non (nomark _)) (nomark _))))) (pss_one (ps_ret pe_non)) pss_nil) (pss_one (ps_set (i := 4) sc__law_rises.nd rfl (Or.inl rfl) (pe_op op_add (pv 4) (pe_callTy call_int1 (by rfl) (n_int c) (by first | exact PySem.boot_int | exact boot_int | decide +kernel) (pa_cons (pe_cmpR (neDK K rfl hr.units) (pv 8) (pv 9) (nomark _)) pa_nil)))))))))) (pss_one (ps_ret (pv 4))))), ?_⟩
    intro ra hra
    refine ⟨_, _, rfl, ?_⟩
    have g0 : Gr (tt K) H (upd H ra (RankS P w ra)) := Gr.new hra
    have hr0 : upd H ra (RankS P w ra) ra = some (RankS P w ra) := upd_same
    generalize upd H ra (RankS P w ra) = H0 at *
    refine ⟨_, rfl, p, T1, rfl, hP.mono g0, wf1.toWf, fun H1 q g1 hq => ?_⟩
    have g01 := g0.trans g1
    have hr1 := g1.1 _ _ hr0 rank_nt
    obtain ⟨xs, hq1, hq2⟩ := hq
    refine ⟨q, rfl, ⟨_, SqL.of hq1⟩, ?_⟩
    refine for_list (K := K) (a := q) (xs := xs) (fun i σ H' => Gr (tt K) H1 H' ∧ ∃ (m : Nat) (x5 x6 x7 x8 x9 : Option V), σ = [some (.ref w1), some (.ref w2), some (.ref p), some (.ref ra), some (.int m), x5, x6, x7, x8, x9] ∧ (m = 0 ↔ ∀ q ∈ (twoC T1).take i, ∀ ms ∈ patsOf T1, M.oc T1 q.1 q.2 ms = M.oc T2 q.1 q.2 ms))
      ⟨Gr.refl _, 0, _, _, _, _, _, rfl, by simp⟩ (fun i σ H' _ h => h.1.sqL (SqL.of hq1)) ?_ ?_
    · rintro i v σ H' hi ⟨g, m, x5, x6, x7, x8, x9, rfl, hm⟩
      obtain ⟨⟨c1, x1⟩, hci, a, rfl, ha⟩ := prd_getL hq2 hi
      have hcm := mem_twoC.mp (List.mem_of_getElem? hci)
      have hc2 : (twoC T1).take (i + 1) = (twoC T1).take i ++ [(c1, x1)] := by rw [List.take_succ, hci] <;> rfl
      refine ⟨a, _, rfl, SqT.of (g.tup ha), rfl, _, _, rfl, _, _, rfl, rfl, ?_⟩
      have gH := g01.trans g
      refine ⟨_, rfl, p, T1, rfl, hP.mono gH, wf1.toWf, wh, wm, fun H2 pp g2 hpp => ?_⟩
      have gH2 := gH.trans g2
      obtain ⟨qs, hp1, hp2⟩ := hpp
      refine ⟨pp, rfl, ⟨_, SqL.of hp1⟩, ?_⟩
      refine for_list (K := K) (a := pp) (xs := qs.map V.ref) (fun j σ H' => Gr (tt K) H2 H' ∧ ∃ (m : Nat) (x7 x8 x9 : Option V), σ = [some (.ref w1), some (.ref w2), some (.ref p), some (.ref ra), some (.int m), some (.str c1), some (.str x1), x7, x8, x9] ∧
          (m = 0 ↔ (∀ q ∈ (twoC T1).take i, ∀ ms ∈ patsOf T1, M.oc T1 q.1 q.2 ms = M.oc T2 q.1 q.2 ms) ∧ ∀ ms ∈ (patsOf T1).take j, M.oc T1 c1 x1 ms = M.oc T2 c1 x1 ms))
        ⟨Gr.refl _, m, _, _, _, rfl, by simpa using hm⟩ (fun i σ H' _ h => h.1.sqL (SqL.of hp1)) ?_ ?_
      · rintro j u σ H3 hj ⟨g3, m, x7, x8, x9, rfl, hm⟩
        rw [List.getElem?_map] at hj
        cases hqj : qs[j]? with
        | none =>
          rw [hqj] at hj
          cases hj
        | some qq =>
          rw [hqj] at hj
          cases hj
          obtain ⟨ms, hms, hmq⟩ := prd_getL hp2 hqj
          have hpt : (patsOf T1).take (j + 1) = (patsOf T1).take j ++ [ms] := by
            rw [List.take_succ, show (patsOf T1)[j]? = some ms from hms] <;> rfl
          have gH3 := gH2.trans g3
          have hx1 := hcm.2.2.1
          refine ⟨_, rfl, _, rfl, _, rfl, _, rfl, w1, T1, c1, x1, qq, ms, rfl, hW1.mono gH3, wf1, hcm.1, hx1, hmq.mono g3, gH3.2 hTab, fun H4 g4 => ?_⟩
          have gH4 := gH3.trans g4
          refine ⟨_, rfl, _, rfl, _, rfl, _, rfl, w2, T2, c1, x1, qq, ms, rfl, hW2.mono gH4, wf2, by rw [he]; exact hcm.1, by rw [he]; exact hx1, hmq.mono (g3.trans g4), gH4.2 hTab, fun H5 g5 => ⟨_, _, rfl, ?_⟩⟩
          have gH5 := gH4.trans g5
          have hr5 := (((g.trans g2).trans (g3.trans g4)).trans g5).1 _ _ hr1 rank_nt
          obtain ⟨hr1', hr2'⟩ := hrise c1 x1 ms
          refine ⟨_, rfl, _, rfl, ra, _, rfl, hr5, rfl, _, rfl, _, rfl, ra, _, rfl, hr5, rfl, _, _, rfl, rfl, _, rfl, ?_⟩
          have ed : decide (((M.rank (M.oc T2 c1 x1 ms) : Nat) : Int) < ((M.rank (M.oc T1 c1 x1 ms) : Nat) : Int)) = false := decide_eq_false (by omega)
          rw [ed]
          refine iteF ⟨_, rfl, rfl, _, rfl, rfl, rfl, _, rfl, ?_⟩
          have en : decide (ocV (M.oc T1 c1 x1 ms) = V.non) = decide (ocV (M.oc T2 c1 x1 ms) = V.non) := by
            rw [ocV_none, ocV_none]
            cases h1 : M.oc T1 c1 x1 ms with
            | none => rw [hr2'.mp h1]
            | some o1 =>
              cases h2 : M.oc T2 c1 x1 ms with
              | none =>
                rw [hr2'.mpr h2] at h1
                cases h1
              | some o2 => rfl
          rw [en]
          have e0 : (!decide (V.bl (decide (ocV (M.oc T2 c1 x1 ms) = V.non)) = V.bl (decide (ocV (M.oc T2 c1 x1 ms) = V.non)))) = false := by simp
          rw [e0]
          refine iteF ?_
          refine ⟨_, rfl, _, rfl, _, rfl, ocD (M.oc T1 c1 x1 ms), ocD (M.oc T2 c1 x1 ms), oc_dp _, oc_dp _, oc_shape _, oc_shape _, .inr ⟨_, rfl, _, _, rfl, rfl, ?_⟩⟩
          rw [ocD_eqv]
          refine ⟨(((g3.trans g4).trans g5)), m + (if M.oc T1 c1 x1 ms = M.oc T2 c1 x1 ms then 0 else 1), some (.ref qq), some (ocV (M.oc T1 c1 x1 ms)), some (ocV (M.oc T2 c1 x1 ms)), ?_, ?_⟩
          · by_cases e : M.oc T1 c1 x1 ms = M.oc T2 c1 x1 ms
            · rw [if_pos e, decide_eq_true e] <;> rfl
            · rw [if_neg e, decide_eq_false e] <;> rfl
          · rw [hpt]
            by_cases e : M.oc T1 c1 x1 ms = M.oc T2 c1 x1 ms
            · rw [if_pos e, Nat.add_zero, hm]
              constructor
              · rintro ⟨h1, h2⟩
                refine ⟨h1, fun z hz => ?_⟩
                rcases List.mem_append.mp hz with hz | hz
                · exact h2 z hz
                · rw [List.mem_singleton.mp hz]
                  exact e
              · rintro ⟨h1, h2⟩
                exact ⟨h1, fun z hz => h2 z (List.mem_append_left _ hz)⟩
            · rw [if_neg e]
              refine ⟨fun h => absurd h (Nat.succ_ne_zero _), fun h => absurd (h.2 ms (List.mem_append_right _ List.mem_cons_self)) e⟩
      · rintro σ H3 ⟨g3, m, x7, x8, x9, rfl, hm⟩
        have hl : (qs.map V.ref).length = (patsOf T1).length := by
          rw [List.length_map]
          exact prd_len hp2
        rw [hl, List.take_length] at hm
        refine ⟨(g.trans g2).trans g3, m, _, _, _, _, _, rfl, ?_⟩
        rw [hm, hc2]
        constructor
        · rintro ⟨h1, h2⟩ z hz
          rcases List.mem_append.mp hz with hz | hz
          · exact h1 z hz
          · rw [List.mem_singleton.mp hz]
            exact h2
        · intro h
          exact ⟨fun z hz => h z (List.mem_append_left _ hz), h (c1, x1) (List.mem_append_right _ List.mem_cons_self)⟩
    · rintro σ H' ⟨g, m, x5, x6, x7, x8, x9, rfl, hm⟩
      rw [prd_len hq2, List.take_length] at hm
      exact ⟨_, rfl, k _ m (g01.trans g) hm⟩
end
end SW


set_option maxHeartbeats 2000000
namespace SW
open PySem PySem.Spec PyProof.Rows L2 He LamX NdefX
open SW.M (Ent Tb Oc)
/-! ## draws -/
def BagAt (H : Hp) (b : Addr) (N : Nat) : Prop := ∃ d m n : Int, H b = some (.lst [.int d, .int m, .int n]) ∧ 0 ≤ m ∧ m < 2147483587 ∧ 0 ≤ n ∧ n ≤ N
theorem BagAt.mono {B : Tbs} {H H' : Hp} {b : Addr} {N N' : Nat} (g : Gr B H H') (h : BagAt H b N) (hN : N ≤ N') : BagAt H' b N' := by
  obtain ⟨d, m, n, h1, h2, h3, h4, h5⟩ := h
  exact ⟨d, m, n, g.lst h1, h2, h3, h4, by omega⟩
theorem BagAt.mut {H : Hp} {b : Addr} {N : Nat} (h : BagAt H b N) : MutO H b := by
  obtain ⟨d, m, n, h1, _⟩ := h
  exact .lst h1
theorem iteV {c : Prop} [Decidable c] {ta tb : VK → Prop} {X : VK} {H : Hp} (Pre : V → Prop) (h1 : c → ∀ Y : VK, (∀ v, Pre v → Y v H) → ta Y) (h2 : ¬ c → ∀ Y : VK, (∀ v, Pre v → Y v H) → tb Y) (h3 : ∀ v, Pre v → X v H) : if c then ta X else tb X := by
  by_cases h : c
  · rw [if_pos h]
    exact h1 h X h3
  · rw [if_neg h]
    exact h2 h X h3
section
variable {P : Program} {w : World} {K : PySem.W.Frag} {mg : Str → Option Value} {base : Heap}
def spBag (K : PySem.W.Frag) : Sp := fun vs H Q _ => ∃ (S : Addr) (ns : List Int) (i : Nat), vs = [.ref S, .int i] ∧ SqL K H S (ns.map V.int) ∧ i ≤ 100 ∧ ∀ H' b, Gr (tt K) H H' → Gr (tt K) H (woL [b] H') → BagAt H' b 0 → Q (.ref b) H'
theorem sc__law_bag : FnScope ["_law_script", "_law_at", "_law_cell", "_law_digits"] ["_law_script", "_law_at"] (defScope s__law_bag) := ⟨rfl, rfl, rfl, by decide +kernel, rfl, by decide +kernel, by decide +kernel⟩
theorem ok__law_bag (c : Tx K mg base) : Ok P w K mg base 1 (ga K "_law_bag") ["_law_script", "_law_at"] (spBag K) := by
  refine Ok.mk' (fd__law_bag c) sc__law_bag (fun _ _ _ _ _ _ us hl => match us, hl with | [_, _], _ => rfl) (fun vs H Q E h => ?_) (fun cdv A outer s H vs Q E hr h => ?_)
  · obtain ⟨S, ns, i, rfl, _⟩ := h
    rfl
  · obtain ⟨S, ns, i, rfl, hS, hi, k⟩ := h
    refine ⟨_, (pss_cons (ps_set (i := 2) sc__law_bag.nd rfl (Or.inl rfl) (pe_ifExp (pt_cmpR op_lt (pv 1) (pe_callB (lenK K rfl) (by rfl) (n_len c) (by first | exact PySem.boot_len | exact boot_len | decide +kernel) (pa_cons (pv 0) pa_nil)) (nomark _)) (pe_ix (ixLK K rfl) (pv 0) (pv 1) (fun _ _ => rfl)) pe_int)) (pss_cons (ps_set (i := 3) sc__law_bag.nd rfl (Or.inl rfl) (pe_ifExp (pt_cmpR op_ge (pe_callB call_abs (by rfl) (n_abs c) (by first | exact PySem.boot_abs | exact boot_abs | decide +kernel) (pa_cons (pv 2) pa_nil)) (pe_op op_pow pe_int pe_int) (nomark _)) (pe_callB call_abs (by rfl) (n_abs c) (by first | exact PySem.boot_abs | exact boot_abs | decide +kernel) (pa_cons (pv 2) pa_nil)) pe_int)) (pss_one (ps_ret (pe_lst (pa_cons (pv 3) (pa_cons (pe_op op_mod (pe_op op_add (pe_op op_add (pe_op op_mul (pe_op op_mod (pv 2) pe_int) pe_int) (pe_op op_mul pe_int (pv 1))) pe_int) pe_int) (pa_cons pe_int pa_nil)))))))), ?_⟩
    refine ⟨_, rfl, _, rfl, S, _, rfl, .inl hS, _, _, rfl, rfl, _, rfl, ?_⟩
    rw [List.length_map]
    refine iteV (H := H) (fun v => ∃ z : Int, v = .int z) (fun hc Y hY => ?_) (fun hc Y hY => ?_) ?_
    · have hlt : i < ns.length := by
        have := of_decide_eq_true hc
        omega
      exact ⟨_, rfl, _, rfl, S, _, (i : Int), .int ns[i], rfl, rfl, hS, atI_nat (by rw [List.getElem?_map, List.getElem?_eq_getElem hlt] <;> rfl), hY _ ⟨_, rfl⟩⟩
    · exact hY _ ⟨0, rfl⟩
    rintro _ ⟨z, rfl⟩
    refine ⟨_, rfl, _, rfl, _, _, rfl, rfl, ⟨by decide, by decide, by decide⟩, _, _, rfl, rfl, _, rfl, ?_⟩
    refine iteV (H := H) (fun v => ∃ z : Int, v = .int z) (fun hc Y hY => ?_) (fun hc Y hY => ?_) ?_
    · exact ⟨_, rfl, _, rfl, hY _ ⟨_, rfl⟩⟩
    · exact hY _ ⟨0, rfl⟩
    rintro _ ⟨d, rfl⟩
    have z0 : 0 ≤ z % 2147483629 := Int.emod_nonneg _ (by decide)
    have z1 : z % 2147483629 < 2147483629 := Int.emod_lt_of_pos _ (by decide)
    refine ⟨_, rfl, _, rfl, _, _, rfl, rfl, (by show (0 : Int) < _; decide), _, _, rfl, rfl, .inl ⟨by omega, by omega⟩, _, rfl, _, _, rfl, rfl, .inl ⟨by decide, by decide⟩, _, _, rfl, rfl, _, _, rfl, rfl, _, _, rfl, rfl, (by show (0 : Int) < _; decide), (by show 3 ≤ sizeLine; decide), fun b hb => ?_⟩
    refine k _ b (Gr.new hb) (by rw [woL_grow hb, woL_nil]; exact Gr.refl _) ⟨_, _, _, upd_same, Int.emod_nonneg _ (by decide), Int.emod_lt_of_pos _ (by decide), Int.le_refl _, Int.le_refl _⟩
def spTake (K : PySem.W.Frag) : Sp := fun vs H Q _ => ∃ (b : Addr) (many N : Nat), vs = [.ref b, .int many] ∧ BagAt H b N ∧ N ≤ 1000000 ∧ 0 < many ∧ many ≤ 1000 ∧ ∀ H' (r : Nat), r < many → Gr (tt K) (woL [b] H) (woL [b] H') → BagAt H' b (N + 1) → Q (.int r) H'
theorem sc__law_take : FnScope ["_law_bag_here", "_law_many", "_law_digit", "_law_mixed"] ["_law_bag_here", "_law_many"] (defScope s__law_take) := ⟨rfl, rfl, rfl, by decide +kernel, rfl, by decide +kernel, by decide +kernel⟩
theorem ok__law_take (c : Tx K mg base) : Ok P w K mg base 1 (ga K "_law_take") ["_law_bag_here", "_law_many"] (spTake K) := by
  refine Ok.mk' (fd__law_take c) sc__law_take (fun _ _ _ _ _ _ us hl => match us, hl with | [_, _], _ => rfl) (fun vs H Q E h => ?_) (fun cdv A outer s H vs Q E hr h => ?_)
  · obtain ⟨b, many, N, rfl, _⟩ := h
    rfl
  · obtain ⟨b, many, N, rfl, ⟨d, m, n, hb, hm0, hm1, hn0, hn1⟩, hN, h0, h1, k⟩ := h
    refine ⟨_, (pss_cons (ps_if (pt_cmpR op_gt (pe_ix (ixLK K rfl) (pv 0) pe_int (fun _ _ => rfl)) pe_int (nomark _)) (pss_cons (ps_set (i := 2) sc__law_take.nd rfl (Or.inl rfl) (pe_op op_mod (pe_ix (ixLK K rfl) (pv 0) pe_int (fun _ _ => rfl)) (pv 1))) (pss_cons (ps_asg (pe_op op_fdiv (pe_ix (ixLK K rfl) (pv 0) pe_int (fun _ _ => rfl)) (pv 1)) (pg_sub (pv 0) pe_int set_list)) (pss_one (ps_ret (pv 2))))) pss_nil) (pss_cons (ps_asg (pe_op op_add (pe_ix (ixLK K rfl) (pv 0) pe_int (fun _ _ => rfl)) pe_int) (pg_sub (pv 0) pe_int set_list)) (pss_cons (ps_set (i := 3) sc__law_take.nd rfl (Or.inl rfl) (pe_op op_mod (pe_op op_pow (pe_op op_add (pe_ix (ixLK K rfl) (pv 0) pe_int (fun _ _ => rfl)) (pe_op op_mul pe_int (pe_ix (ixLK K rfl) (pv 0) pe_int (fun _ _ => rfl)))) pe_int) pe_int)) (pss_one (ps_ret (pe_op op_mod (pe_op op_fdiv (pe_op op_mod (pe_op op_pow (pe_op op_add (pv 3) (pe_op op_mul pe_int (pe_ix (ixLK K rfl) (pv 0) pe_int (fun _ _ => rfl)))) pe_int) pe_int) pe_int) (pv 1))))))), ?_⟩
    refine ⟨_, rfl, b, _, 0, _, rfl, rfl, SqL.of hb, rfl, _, _, rfl, rfl, _, rfl, ?_⟩
    have hi0 : (0 : Int) < (many : Int) := by omega
    have key : ∀ {H' : Hp} {z : Int} {xs : List V}, H' = upd H b (.lst xs) → BagAt H' b (N + 1) → Q (.int (z % (many : Int))) H' := fun {H' z xs} e hb' => by
      have a1 := Int.emod_nonneg z (by omega : (many : Int) ≠ 0)
      have a2 := Int.emod_lt_of_pos z hi0
      have a3 : z % (many : Int) = ((z % (many : Int)).toNat : Int) := (Int.toNat_of_nonneg a1).symm
      rw [a3]
      refine k H' _ (by omega) ?_ hb'
      rw [e, woL_upd (by simp)]
      exact Gr.refl _
    by_cases hd : d > 0
    · rw [decide_eq_true hd]
      refine iteT ⟨_, rfl, b, _, 0, _, rfl, rfl, SqL.of hb, rfl, _, rfl, _, _, rfl, rfl, hi0, ?_⟩
      refine ⟨_, rfl, b, _, 0, _, rfl, rfl, SqL.of hb, rfl, _, rfl, _, _, rfl, rfl, ⟨hi0, by omega⟩, _, rfl, b, _, 0, 0, rfl, rfl, hb, rfl, ?_⟩
      refine ⟨_, rfl, key rfl ⟨_, m, n, upd_same, hm0, hm1, hn0, by omega⟩⟩
    · rw [decide_eq_false hd]
      refine iteF ?_
      refine ⟨_, rfl, b, _, 2, _, rfl, rfl, SqL.of hb, rfl, _, _, rfl, rfl, _, rfl, b, _, 2, 2, rfl, rfl, hb, rfl, ?_⟩
      have hb2 : upd H b (.lst ([V.int d, .int m, .int n].set 2 (.int (n + 1)))) b = some (.lst [.int d, .int m, .int (n + 1)]) := upd_same
      generalize hH2 : upd H b (.lst ([V.int d, .int m, .int n].set 2 (.int (n + 1)))) = H2 at hb2
      have hN2 : n + 1 ≤ 1000001 := by omega
      refine ⟨_, rfl, b, _, 1, _, rfl, rfl, SqL.of hb2, rfl, _, rfl, b, _, 2, _, rfl, rfl, SqL.of hb2, rfl, _, _, rfl, rfl, .inl ⟨by decide, by decide⟩, _, _, rfl, rfl, _, _, rfl, rfl, ⟨by decide, by decide, by omega⟩, _, _, rfl, rfl, (by show (0 : Int) < _; decide), ?_⟩
      generalize hx : (m + 61403 * (n + 1)) ^ (3 : Int).toNat % 2147483579 = x
      have hx0 : 0 ≤ x := by rw [← hx]; exact Int.emod_nonneg _ (by decide)
      have hx1 : x < 2147483579 := by rw [← hx]; exact Int.emod_lt_of_pos _ (by decide)
      refine ⟨_, rfl, _, rfl, b, _, 2, _, rfl, rfl, SqL.of hb2, rfl, _, _, rfl, rfl, .inl ⟨by decide, by decide⟩, _, _, rfl, rfl, _, _, rfl, rfl, ⟨by decide, by decide, by omega⟩, _, _, rfl, rfl, (by show (0 : Int) < _; decide), _, _, rfl, rfl, ⟨by decide, by decide⟩, _, rfl, _, _, rfl, rfl, hi0, ?_⟩
      exact key hH2.symm ⟨d, m, n + 1, hb2, hm0, hm1, by omega, by omega⟩
def spPick (K : PySem.W.Frag) : Sp := fun vs H Q _ => ∃ (b l : Addr) (xs : List V) (N : Nat), vs = [.ref b, .ref l] ∧ BagAt H b N ∧ N ≤ 1000000 ∧ woL [b] H l = some (.lst xs) ∧ xs ≠ [] ∧ xs.length ≤ 1000 ∧ ∀ H' x, x ∈ xs → Gr (tt K) (woL [b] H) (woL [b] H') → BagAt H' b (N + 1) → Q x H'
theorem sc__law_pick : FnScope ["_law_bag_here", "_law_some"] ["_law_bag_here", "_law_some"] (defScope s__law_pick) := ⟨rfl, rfl, rfl, by decide +kernel, rfl, by decide +kernel, by decide +kernel⟩
theorem ok__law_pick (c : Tx K mg base) : Ok P w K mg base 2 (ga K "_law_pick") ["_law_bag_here", "_law_some"] (spPick K) := by
  refine Ok.mk' (fd__law_pick c) sc__law_pick (fun _ _ _ _ _ _ us hl => match us, hl with | [_, _], _ => rfl) (fun vs H Q E h => ?_) (fun cdv A outer s H vs Q E hr h => ?_)
  · obtain ⟨b, l, xs, N, rfl, _⟩ := h
    rfl
  · obtain ⟨b, l, xs, N, rfl, hb, hN, hl, hne, hz, k⟩ := h
    refine ⟨_, (pss_one (ps_ret (pe_ix (ixLK K rfl) (pv 1) ((ok__law_take c).call hr (by decide) (g__law_take c) (pa_cons (pv 0) (pa_cons (pe_callB (lenK K rfl) (by rfl) (n_len c) (by first | exact PySem.boot_len | exact boot_len | decide +kernel) (pa_cons (pv 1) pa_nil)) pa_nil))) (fun _ _ => rfl)))), ?_⟩
    have hl' := (of_woL hl).2
    refine ⟨_, rfl, _, rfl, _, rfl, l, _, rfl, .inl (SqL.of hl'), b, xs.length, N, rfl, hb, hN, List.length_pos_iff.mpr hne, hz, fun H' r hr g hb' => ?_⟩
    exact ⟨l, _, (r : Int), xs[r], rfl, rfl, SqL.of (of_woL (g.lst hl)).2, atI_nat (List.getElem?_eq_getElem hr), k H' _ (List.getElem_mem hr) g hb'⟩
end
end SW


set_option maxHeartbeats 2000000
namespace SW
open PySem PySem.Spec PyProof.Rows L2 He LamX NdefX
open SW.M (Ent Tb Oc)
/-! ## the law's merge -/
theorem heads_sv {ls : List (List Str)} : (ls.filter fun l => !l.isEmpty).map (fun l => V.str (l.headD "")) = sv (M.heads ls) := by
  unfold M.heads sv
  induction ls with
  | nil => rfl
  | cons l r ih =>
    cases l with
    | nil =>
      rw [List.filter_cons_of_neg (by simp), ih] <;> rfl
    | cons a l =>
      rw [List.filter_cons_of_pos (by simp), List.map_cons, ih] <;> rfl
theorem atI_0 {x : Str} {r : List Str} : atI (sv (x :: r)) 0 = some (.str x) := atI_nat (j := 0) rfl
theorem heads_len (ls : List (List Str)) : (M.heads ls).length ≤ ls.length := List.length_filterMap_le _ _
theorem heads_str {ls : List (List Str)} (h : StrsOk ls) : ∀ n ∈ M.heads ls, PyData.strOk n = true := fun n hn => by
  obtain ⟨l, hl, e⟩ := List.mem_filterMap.mp hn
  exact h l hl n (List.mem_of_mem_head? (by rw [e]; rfl))
theorem good_any (ls : List (List Str)) (h : Str) : (!(ls.any fun l => decide (h ∈ l.tail))) = M.goodH ls h := by
  unfold M.goodH
  rw [List.not_any_eq_all_not]
section
variable {P : Program} {w : World} {K : PySem.W.Frag} {mg : Str → Option Value} {base : Heap}
theorem sc__law_merge : FnScope ["_law_lists", "_law_left", "_law_found", "_law_heads", "_law_good", "_law_one", "_law_head", "_law_other"] ["_law_lists"] (defScope s__law_merge) := ⟨rfl, rfl, rfl, by decide +kernel, rfl, by decide +kernel, by decide +kernel⟩
theorem ok__law_merge (c : Tx K mg base) : Ok P w K mg base 1 (ga K "_law_merge") ["_law_lists"] (spMerged K) := by
  refine Ok.mk' (fd__law_merge c) sc__law_merge (fun _ _ _ _ _ _ us hl => match us, hl with | [_], _ => rfl) (fun vs H Q E h => ?_) (fun cdv A outer s H vs Q E hr h => ?_)
  · obtain ⟨p, ls, W, rfl, _⟩ := h
    rfl
  · obtain ⟨p, ls, W, rfl, ⟨qs, hp, hq⟩, hs, hz, ht, hWm, k⟩ := h
    refine ⟨_, (pss_cons (ps_asg (pe_tup (pa_cons (pe_lc (own := [("_law_one", 5)]) (g := (gName 5)) (tt := tYes) rfl sc__law_merge.nd (piL K rfl (pv 0)) (blkOk_by (N := ["_law_lists", "_law_left", "_law_found", "_law_heads", "_law_good", "_law_one", "_law_head", "_law_other"]) (sc := defScope s__law_merge) (by decide +kernel)) (fun _ _ _ _ _ => (pg_name (i := 5) sc__law_merge.nd rfl (by first | exact Or.inl rfl | exact Or.inr rfl))) (fun _ _ _ _ _ => by exact pts_nil) (fun _ _ _ _ _ => by exact (pe_callTy (listK K rfl) (by rfl) (n_list c) (by first | exact PySem.boot_list | exact boot_list | decide +kernel) (pa_cons (pv 5) pa_nil)))) (pa_cons (pe_lst pa_nil) pa_nil))) (gtupK K (n := 2) rfl rfl (pgs_cons (pg_name (i := 1) sc__law_merge.nd rfl (Or.inr rfl)) (pgs_cons (pg_name (i := 2) sc__law_merge.nd rfl (Or.inl rfl)) pgs_nil)))) (pss_cons (ps_while PassesOwn.never (pt_cmpR (neDK K rfl hr.units) (pe_lc (own := [("_law_one", 5)]) (g := (gName 5)) rfl sc__law_merge.nd (piL K rfl (pv 1)) (blkOk_by (N := ["_law_lists", "_law_left", "_law_found", "_law_heads", "_law_good", "_law_one", "_law_head", "_law_other"]) (sc := defScope s__law_merge) (by decide +kernel)) (fun _ _ _ _ _ => (pg_name (i := 5) sc__law_merge.nd rfl (by first | exact Or.inl rfl | exact Or.inr rfl))) (fun _ _ _ _ _ => by exact (pts_one (pt_cmpR (neDK K rfl hr.units) (pv 5) (pe_lst pa_nil) (nomark _)))) (fun _ _ _ _ _ => by exact (pv 5))) (pe_lst pa_nil) (nomark _)) (pss_cons (ps_setLc (i := 3) (own := [("_law_one", 5)]) (g := (gName 5)) rfl sc__law_merge.nd rfl rfl (sw_true rfl rfl rfl (by decide +kernel)) (piL K rfl (pv 1)) (blkOk_by (N := ["_law_lists", "_law_left", "_law_found", "_law_heads", "_law_good", "_law_one", "_law_head", "_law_other"]) (sc := defScope s__law_merge) (by decide +kernel)) (fun _ _ _ _ _ => (pg_name (i := 5) sc__law_merge.nd rfl (by first | exact Or.inl rfl | exact Or.inr rfl))) (fun _ _ _ _ _ => by exact (pts_one (pt_cmpR (neDK K rfl hr.units) (pv 5) (pe_lst pa_nil) (nomark _)))) (fun _ _ _ _ _ => by exact (pe_ix (ixLK K rfl) (pv 5) pe_int (fun _ _ => rfl)))) (pss_cons (ps_set (i := 4) sc__law_merge.nd rfl (Or.inr rfl) (pe_lc (own := [("_law_head", 6)]) (g := (gName 6)) rfl sc__law_merge.nd (piL K rfl (pv 3)) (blkOk_by (N := ["_law_lists", "_law_left", "_law_found", "_law_heads", "_law_good", "_law_one", "_law_head", "_law_other"]) (sc := defScope s__law_merge) (by decide +kernel)) (fun _ _ _ _ _ => (pg_name (i := 6) sc__law_merge.nd rfl (by first | exact Or.inl rfl | exact Or.inr rfl))) (fun _ _ _ _ _ => by exact (pts_one (pt_not (pt_val (pe_callB (anyK K rfl rfl) (by rfl) (n_any c) (by first | exact PySem.boot_any | exact boot_any | decide +kernel) (pa_cons (pe_lc (own := [("_law_one", 5)]) (g := (gName 5)) (tt := tYes) rfl sc__law_merge.nd (piL K rfl (pv 1)) (blkOk_by (N := ["_law_lists", "_law_left", "_law_found", "_law_heads", "_law_good", "_law_one", "_law_head", "_law_other"]) (sc := (⟨.function, [(".0", .local), ("_law_head", .cell), ("any", .globalImplicit), ("_law_left", .cell)], false, false, []⟩ : Scope)) (by decide +kernel)) (fun _ _ _ _ _ => (pg_name (i := 5) sc__law_merge.nd rfl (by first | exact Or.inl rfl | exact Or.inr rfl))) (fun _ _ _ _ _ => by exact pts_nil) (fun _ _ _ _ _ => by exact (pe_cmpR (inK K rfl) (pv 6) (pe_slice (slLK K rfl) (pv 5) (po_some pe_int) po_none) rfl))) pa_nil)))))) (fun _ _ _ _ _ => by exact (pv 6)))) (pss_cons (ps_if (pt_cmpR (eqDK K rfl hr.units) (pv 4) (pe_lst pa_nil) (nomark _)) (pss_one (ps_ret pe_non)) pss_nil) (pss_cons (ps_expr (pe_bm PySem.F.plainAttrs_list PySem.F.slot_list_append PySem.F.type_list_append mt_append (pv 2) (pa_cons (pe_ix (ixLK K rfl) (pv 4) pe_int (fun _ _ => rfl)) pa_nil))) (pss_one (ps_set (i := 1) sc__law_merge.nd rfl (Or.inr rfl) (pe_lc (own := [("_law_one", 5)]) (g := (gName 5)) (tt := tYes) rfl sc__law_merge.nd (piL K rfl (pv 1)) (blkOk_by (N := ["_law_lists", "_law_left", "_law_found", "_law_heads", "_law_good", "_law_one", "_law_head", "_law_other"]) (sc := defScope s__law_merge) (by decide +kernel)) (fun _ _ _ _ _ => (pg_name (i := 5) sc__law_merge.nd rfl (by first | exact Or.inl rfl | exact Or.inr rfl))) (fun _ _ _ _ _ => by exact pts_nil) (fun _ _ _ _ _ => by exact (pe_lc (own := [("_law_other", 7)]) (g := (gName 7)) rfl sc__law_merge.nd (piL K rfl (pv 5)) (blkOk_by (N := ["_law_lists", "_law_left", "_law_found", "_law_heads", "_law_good", "_law_one", "_law_head", "_law_other"]) (sc := (⟨.function, [(".0", .local), ("_law_one", .local), ("_law_good", .cell)], false, false, []⟩ : Scope)) (by decide +kernel)) (fun _ _ _ _ _ => (pg_name (i := 7) sc__law_merge.nd rfl (by first | exact Or.inl rfl | exact Or.inr rfl))) (fun _ _ _ _ _ => by exact (pts_one (pt_cmpR op_ne (pv 7) (pe_ix (ixLK K rfl) (pv 4) pe_int (fun _ _ => rfl)) (nomark _)))) (fun _ _ _ _ _ => by exact (pv 7)))))))))))) (pss_one (ps_ret (pv 2))))), ?_⟩
    have hqz : qs.length = ls.length := prd_len hq
    refine ⟨_, rfl, p, rfl, ⟨_, SqL.of hp⟩, fun D hD => ?_⟩
    refine lcR (T := tt K) (walk_list (K := K) (a := p) (xs := qs.map V.ref)) ls (by simp [hqz]) (Nat.le_trans hz (by decide)) (fun G l v => ∃ q, v = .ref q ∧ G q = some (.lst (sv l))) (fun l v H1 H2 g ⟨q, e, h⟩ => ⟨q, e, g.lst h⟩) (fun l => true) hD (fun H' g => g.sqL (SqL.of hp)) (fun i l x H' H'' ys hi g hy y Kp Ks kp ks => ?_) (fun H1 ys g1 hl hys => ?_)
    · obtain ⟨rfl, hx⟩ := y
      obtain ⟨q, hqi, hm⟩ := prd_get hq hi
      rw [List.getElem?_map, hqi] at hx
      cases hx
      refine ⟨rfl, yesT ⟨_, rfl, q, _, rfl, .inl (g.sqL hm), fun a ha => kp rfl _ _ (Gr.new ha) ⟨a, rfl, ?_⟩⟩⟩
      rw [wo_ne, upd_same]
      intro e
      rw [e, hy] at ha
      cases ha
    · rw [filter_yes] at hys
      refine ⟨by show 0 ≤ sizeLine; decide, fun f hf => ⟨by show 2 ≤ sizeLine; decide, fun z hz => ⟨z, _, rfl, SqT.of upd_same, rfl, _, _, rfl, _, _, rfl, rfl, ?_⟩⟩⟩
      have hDf : D ≠ f := ne_of_none hl hf
      have gf : Gr (tt K) H1 (upd (upd H1 f (.lst [])) z (.tup [.ref D, .ref f])) := (Gr.new hf).trans (Gr.new hz)
      have hf0 : upd (upd H1 f (.lst [])) z (.tup [.ref D, .ref f]) f = some (.lst []) := (Gr.new (T := tt K) hz).lst upd_same
      have hfH : ∀ v, H f = some v → ¬ NoTbl v := g1.fresh hf
      have hfW : f ∉ W := not_in (fun w hw => (hWm w hw).gr g1) hf
      have hL0 : LLf K (upd (upd H1 f (.lst [])) z (.tup [.ref D, .ref f])) f D ls := by
        refine llf_of (gf.lst hl) hDf (prd_mono hys fun v l ⟨q, e, h⟩ => ?_)
        have n := ne_of_none h hf
        exact ⟨q, e, n, SqL.of (gf.lst h)⟩
      generalize upd (upd H1 f (.lst [])) z (.tup [.ref D, .ref f]) = H0 at *
      refine ⟨fun m σ H' => ∃ (w : Addr) (ls2 : List (List Str)) (fs : List Str) (x3 x4 x5 x6 x7 : Option V), m = M.tot ls2 ∧ σ = [some (.ref p), some (.ref w), some (.ref f), x3, x4, x5, x6, x7] ∧ Gr (tt K) H H' ∧ LLf K H' f w ls2 ∧ H' f = some (.lst (sv fs)) ∧
        StrsOk ls2 ∧ ls2.length ≤ 100 ∧ fs.length + M.tot ls2 ≤ 1000 ∧ ∀ r, M.Mg ls2 r → M.Mg ls (r.map (fs ++ ·)), ⟨_, D, ls, [], _, _, _, _, _, rfl, rfl, g1.trans gf, hL0, hf0, hs, by assumption, by simpa using ht, fun r hr => ?_⟩, ?_⟩
      · have e : (r.map fun x => ([] : List Str) ++ x) = r := by cases r <;> rfl
        rw [e]
        exact hr
      clear hL0 hf0 gf hys hl hD hf hDf
      rintro m σ H' ⟨w, ls2, fs, x3, x4, x5, x6, x7, rfl, rfl, g, hLL, hfs, hso, h100, h1000, hmg⟩
      obtain ⟨qs2, hw2, hwf, hq2⟩ := hLL
      have hqz2 : qs2.length = ls2.length := prd_len hq2
      -- the test
      refine ⟨_, rfl, w, rfl, ⟨_, SqL.of hw2⟩, fun D1 hD1 => ?_⟩
      refine lcR (T := tt K) (walk_list (K := K) (a := w) (xs := qs2.map V.ref)) ls2 (by simp [hqz2]) (Nat.le_trans h100 (by decide)) (fun G l v => ∃ q, v = .ref q ∧ q ≠ f ∧ SqL K G q (sv l)) (fun l v H1 H2 g ⟨q, e, n, h⟩ => ⟨q, e, n, g.sqL h⟩) (fun l => !l.isEmpty) hD1 (fun H' g => g.sqL (SqL.of hw2)) (fun j l xv H8 H8' ys8 hj g8 hy8 y Kp Ks kp ks => ?_) (fun H8 ys8 g8 hl8 hys8 => ?_)
      · obtain ⟨rfl, hx⟩ := y
        obtain ⟨q7, hqj, hq7f, hq7'⟩ := prd_get hq2 hj
        rw [List.getElem?_map, hqj] at hx
        cases hx
        refine ⟨rfl, _, rfl, by show 0 ≤ sizeLine; decide, fun z hz => ?_⟩
        have gz8 : Gr (tt K) H' (upd H8' z (.lst [])) := g8.trans (Gr.new hz)
        refine ne_nilS (gz8.sqL hq7') (hso l (List.mem_of_getElem? hj)) upd_same ⟨_, rfl, ?_⟩
        show if (!l.isEmpty) = true then _ else _
        have hq7D : SqL K (wo D1 (upd H8' z (.lst []))) q7 (sv l) := (((Gr.wo g8 hD1 hy8).trans (Gr.wo2 (Gr.new hz) ((Gr.new (T := tt K) hz).lst hy8)))).sqL hq7'
        cases hc : (!l.isEmpty) with
        | true => exact iteT ⟨_, rfl, kp hc _ _ (Gr.new hz) ⟨q7, rfl, hq7f, hq7D⟩⟩
        | false => exact iteF (ks hc _ (Gr.new hz))
      have hfs8 := g8.lst hfs
      have hD1f : D1 ≠ f := (ne_of_none hfs hD1).symm
      have hLL8 := llf_of hl8 hD1f hys8
      refine ⟨by show 0 ≤ sizeLine; decide, fun z hz => ?_⟩
      have gz : Gr (tt K) H' (upd H8 z (.lst [])) := g8.trans (Gr.new hz)
      have hso8 : StrsOk (ls2.filter fun l => !l.isEmpty) := fun l hl => hso l (List.mem_filter.mp hl).1
      refine ne_nilL (hLL8.at.mono (Gr.new (T := tt K) hz)) hso8 upd_same ⟨_, rfl, ?_⟩
      generalize upd H8 z (.lst []) = H2 at gz ⊢
      have hfs2 := gz.lst hfs
      cases hem : (ls2.filter fun l => !l.isEmpty) with
      | nil =>
        refine iteF ⟨_, rfl, ?_⟩
        have hall : ∀ l ∈ ls2, l = [] := fun l hl => by
          have := List.filter_eq_nil_iff.mp hem l hl
          simpa using this
        refine k _ _ _ (g.trans gz) (hmg _ (.done hall)) (fun e => by cases e) fun m e => ⟨f, rfl, ?_⟩
        cases e
        show _ = some (HO.lst (sv (fs ++ [])))
        rw [woL_out hfW, hfs2, List.append_nil]
      | cons l0 ls3 =>
        have hnall : ¬ ∀ l ∈ ls2, l = [] := fun h => by
          have : l0 ∈ ls2.filter fun l => !l.isEmpty := by rw [hem]; exact List.mem_cons_self
          obtain ⟨h1, h2⟩ := List.mem_filter.mp this
          rw [h l0 h1] at h2
          cases h2
        refine iteT ⟨fun σ' H' => ∃ m', m' < M.tot ls2 ∧ _, fun _ _ h => h, ?_⟩
        have hw3 := gz.lst hw2
        have hq3 : Paired (fun q l => q ≠ f ∧ SqL K H2 q (sv l)) qs2 ls2 := prd_mono hq2 fun q l h => ⟨h.1, gz.sqL h.2⟩
        -- heads
        refine ⟨_, rfl, w, rfl, ⟨_, SqL.of hw3⟩, fun D3 hD3 => ?_⟩
        refine lcF (T := tt K) (walk_list (K := K) (a := w) (xs := qs2.map V.ref)) ls2 (by simp [hqz2]) (Nat.le_trans h100 (by decide)) (fun l => V.str (l.headD "")) (fun l => !l.isEmpty) hD3 (fun H' g => g.sqL (SqL.of hw3)) (fun j l xv H4 H4' hj g4 y Kp Ks kp ks => ?_) (fun H4 g4 hl4 => ?_)
        · obtain ⟨rfl, hx⟩ := y
          obtain ⟨q7, hqj, hq7f, hq7'⟩ := prd_get hq3 hj
          rw [List.getElem?_map, hqj] at hx
          cases hx
          refine ⟨rfl, _, rfl, by show 0 ≤ sizeLine; decide, fun z hz => ?_⟩
          have gz8 : Gr (tt K) H2 (upd H4' z (.lst [])) := g4.trans (Gr.new hz)
          refine ne_nilS (gz8.sqL hq7') (hso l (List.mem_of_getElem? hj)) upd_same ⟨_, rfl, ?_⟩
          show if (!l.isEmpty) = true then _ else _
          cases l with
          | nil => exact iteF (ks rfl _ (Gr.new hz))
          | cons a r => exact iteT ⟨_, rfl, q7, _, 0, _, rfl, rfl, gz8.sqL hq7', atI_0, kp rfl _ (Gr.new hz)⟩
        rw [heads_sv] at hl4
        have hw4 := g4.lst hw3
        have hq4 : Paired (fun q l => q ≠ f ∧ SqL K H4 q (sv l)) qs2 ls2 := prd_mono hq3 fun q l h => ⟨h.1, g4.sqL h.2⟩
        have hhz : (M.heads ls2).length ≤ 100 := Nat.le_trans (heads_len ls2) h100
        -- good
        refine ⟨_, rfl, D3, rfl, ⟨_, SqL.of hl4⟩, fun D4 hD4 => ?_⟩
        refine lcL (T := tt K) V.str (M.heads ls2) (SqL.of hl4) (Nat.le_trans hhz (by decide)) V.str (fun h => M.goodH ls2 h) hD4 (fun h hh H5 g5 Kp Ks kp ks => ?_) (fun H5 g5 hl5 => ?_)
        · refine ⟨rfl, _, rfl, w, rfl, ⟨_, SqL.of (g5.lst hw4)⟩, fun D5 hD5 => ?_⟩
          refine lcF (T := tt K) (walk_list (K := K) (a := w) (xs := qs2.map V.ref)) ls2 (by simp [hqz2]) (Nat.le_trans h100 (by decide)) (fun l => .bl (decide (h ∈ l.tail))) (fun _ => true) hD5 (fun H' g => g.sqL (SqL.of (g5.lst hw4))) (fun j l xv H6 H6' hj g6 y Kp6 Ks6 kp6 ks6 => ?_) (fun H6 g6 hl6 => ?_)
          · obtain ⟨rfl, hx⟩ := y
            obtain ⟨q7, hqj, hq7f, hq7'⟩ := prd_get hq4 hj
            rw [List.getElem?_map, hqj] at hx
            cases hx
            refine ⟨rfl, yesT ⟨_, rfl, _, rfl, _, rfl, ?_⟩⟩
            refine ⟨q7, _, rfl, (g5.trans g6).sqL hq7', fun z hz => ⟨z, _, rfl, .inl (SqL.of upd_same), rfl, ?_⟩⟩
            rw [cut_tail, show (sv l).tail = sv l.tail by unfold sv; rw [List.map_tail]]
            refine ⟨flat_sv _, ?_⟩
            rw [inV_sv]
            exact kp6 rfl _ (Gr.new hz)
          · refine ⟨D5, ls2.map (fun l => decide (h ∈ l.tail)), rfl, SqL.of ?_, _, rfl, ?_⟩
            · rw [hl6, filter_yes, List.map_map] <;> rfl
            · rw [List.any_map]
              show if (!(ls2.any fun l => decide (h ∈ l.tail))) = true then _ else _
              rw [good_any]
              cases hc : M.goodH ls2 h with
              | true => exact iteT ⟨_, rfl, kp hc _ g6⟩
              | false => exact iteF (ks hc _ g6)
        have hl5 : H5 D4 = some (.lst (sv ((M.heads ls2).filter fun h => M.goodH ls2 h))) := hl5
        have g25 := g4.trans g5
        have gH5 := (g.trans gz).trans g25
        refine ⟨_, rfl, by show 0 ≤ sizeLine; decide, fun z hz => ?_⟩
        have gz5 : Gr (tt K) H5 (upd H5 z (.lst [])) := Gr.new hz
        refine eq_nilS (SqL.of (gz5.lst hl5)) (fun n hn => heads_str hso n (List.mem_filter.mp hn).1) upd_same ⟨_, rfl, ?_⟩
        generalize upd H5 z (.lst []) = H6 at gz5 ⊢
        have g26 := g25.trans gz5
        cases hg : ((M.heads ls2).filter fun h => M.goodH ls2 h) with
        | nil =>
          refine iteT (k _ _ none ((g.trans gz).trans g26) (hmg none (.stuck hnall ?_)) (fun _ => rfl) fun m e => by cases e)
          unfold M.mstep
          rw [List.find?_eq_none]
          intro x hx hgx
          have : x ∈ (M.heads ls2).filter fun h => M.goodH ls2 h := List.mem_filter.mpr ⟨hx, hgx⟩
          rw [hg] at this
          cases this
        | cons a gr =>
          refine iteF ?_
          rw [hg] at hl5
          have hst : M.mstep ls2 = some a := by
            unfold M.mstep
            rw [← List.head?_filter, hg] <;> rfl
          have ham : ∃ l ∈ ls2, a ∈ l := by
            obtain ⟨l, hl, he⟩ := (M.mstep_some hst).1
            exact ⟨l, hl, List.mem_of_mem_head? (by rw [he]; rfl)⟩
          have htl := M.tot_lt ham
          have hf6 := g26.lst hfs2
          have hl6 := gz5.lst hl5
          refine ⟨_, rfl, .inl ⟨rfl, _, SqL.of hf6⟩, _, rfl, D4, _, 0, _, rfl, rfl, SqL.of hl6, atI_0, f, _, _, rfl, rfl, hf6, ?_, ?_⟩
          · rw [sv_len]
            exact Nat.lt_of_lt_of_le (show fs.length < 1001 by omega) (by decide)
          have hD4f : D4 ≠ f := fun e => by
            have q := ne_of_none (g4.lst hfs2) hD4
            exact q e.symm
          have hLL6 : LLf K H6 f w ls2 := ⟨qs2, (g5.trans gz5).lst hw4, hwf, prd_mono hq4 fun q l h => ⟨h.1, (g5.trans gz5).sqL h.2⟩⟩
          have hLL7 := hLL6.upd (o := .lst (sv fs ++ [.str a]))
          have g7 : Gr (tt K) H (upd H6 f (.lst (sv fs ++ [.str a]))) := ((g.trans gz).trans g26).appd hfH hf6
          have hl7 : upd H6 f (.lst (sv fs ++ [.str a])) D4 = some (.lst (sv (a :: gr))) := by rw [upd_ne hD4f]; exact hl6
          have hf7 : upd H6 f (.lst (sv fs ++ [.str a])) f = some (.lst (sv (fs ++ [a]))) := by
            rw [upd_same]
            unfold sv
            rw [List.map_append] <;> rfl
          generalize upd H6 f (.lst (sv fs ++ [.str a])) = H7 at hLL7 g7 hf7 hl7 ⊢
          obtain ⟨qs7, hw7, _, hq7⟩ := hLL7
          have hqz7 : qs7.length = ls2.length := prd_len hq7
          refine ⟨_, rfl, w, rfl, ⟨_, SqL.of hw7⟩, fun D6 hD6 => ?_⟩
          refine lcR (T := tt K) (walk_list (K := K) (a := w) (xs := qs7.map V.ref)) ls2 (by simp [hqz7]) (Nat.le_trans h100 (by decide)) (fun G l v => ∃ q, v = .ref q ∧ q ≠ f ∧ SqL K G q (sv (l.filter fun n => decide (n ≠ a)))) (fun l v H1 H2 g ⟨q, e, n, h⟩ => ⟨q, e, n, g.sqL h⟩) (fun _ => true) hD6 (fun H' g => g.sqL (SqL.of hw7)) (fun j l xv H8 H8' ys hj g8 hy8 y Kp Ks kp ks => ?_) (fun H8 ys g8 hl8 hys8 => ?_)
          · obtain ⟨rfl, hx⟩ := y
            obtain ⟨q8, hqj, hq8f, hq8⟩ := prd_get hq7 hj
            rw [List.getElem?_map, hqj] at hx
            cases hx
            refine ⟨rfl, yesT ⟨_, rfl, q8, rfl, ⟨_, g8.sqL hq8⟩, fun D7 hD7 => ?_⟩⟩
            refine lcL (T := tt K) V.str l (g8.sqL hq8) ?_ V.str (fun n => decide (n ≠ a)) hD7 (fun n hn H9 g9 Kp9 Ks9 kp9 ks9 => ?_) (fun H9 g9 hl9 => ?_)
            · exact Nat.le_trans (M.len_tot (List.mem_of_getElem? hj)) (by omega)
            · refine ⟨rfl, _, rfl, _, rfl, D4, _, 0, _, rfl, rfl, SqL.of ((g8.trans g9).lst hl7), atI_0, rfl, _, rfl, ?_⟩
              have e0 : (!decide (V.str n = V.str a)) = decide (n ≠ a) := by
                by_cases e : n = a <;> simp [e]
              rw [e0]
              cases hc : decide (n ≠ a) with
              | true => exact iteT ⟨_, rfl, kp9 hc _ (Gr.refl _)⟩
              | false => exact iteF (ks9 hc _ (Gr.refl _))
            · have hD7D : D7 ≠ D6 := (ne_of_none hy8 hD7).symm
              have hD7f : D7 ≠ f := (ne_of_none (g8.lst hf7) hD7).symm
              exact kp rfl _ _ g9 ⟨D7, rfl, hD7f, sqL_wo hD7D (SqL.of hl9)⟩
          · have hD6f : D6 ≠ f := (ne_of_none hf7 hD6).symm
            refine ⟨M.tot (M.without a ls2), htl, D6, M.without a ls2, fs ++ [a], _, _, _, _, _, rfl, rfl, g7.trans g8, ?_, g8.lst hf7, hso.without a, by simp [M.without]; exact h100, ?_, ?_⟩
            · refine llf_of hl8 hD6f ?_
              rw [filter_yes] at hys8
              unfold M.without
              exact prd_mapR hys8
            · rw [List.length_append]
              show fs.length + 1 + _ ≤ 1000
              omega
            · intro r hr
              have h2 := hmg _ (.step hst hr)
              cases r with
              | none => exact h2
              | some m =>
                have e : (fs ++ [a]) ++ m = fs ++ (a :: m) := by simp
                show M.Mg ls (some ((fs ++ [a]) ++ m))
                rw [e]
                exact h2
end
end SW


set_option maxHeartbeats 2000000
namespace SW
open PySem PySem.Spec PyProof.Rows L2 He LamX NdefX
open SW.M (Ent Tb Oc)
/-! ## what the law knows, while it is written -/
structure PlOwn (H G : Hp) (p : Addr) (T : Tb Str) (kvs : List (Key × V)) (n b o s r d l : Addr) (kb ko ks kr kd : List (Key × V)) (las : List Addr) : Prop where
  hp : G p = some (.dK kvs)
  pk : PlK kvs n b o s r d l
  hn : H n = some (.lst (sv (M.names T.es)))
  hb : H b = some (.dK kb)
  pb : Dic (fun E v => LsAt G E.parents v) kb T.es
  ho : H o = some (.dK ko)
  po : Dic (fun E v => v = .bl E.own) ko T.es
  hs : H s = some (.dK ks)
  ps : Dic (fun E v => MkAt G E.marks v) ks T.es
  hr : H r = some (.dK kr)
  pr : Dic (fun E v => RuleAt G v E) kr T.es
  hd : H d = some (.dK kd)
  pd : Dic (fun E v => LsAt G E.line v) kd T.es
  hl : H l = some (.dK (klOf T.es las))
  pl : Paired (fun a (E : En) => H a = some (.lst (sv (T.rg E.label)))) las T.es
  nd : (n :: b :: o :: s :: r :: d :: l :: las).Nodup
/-- a list or a dict -/
def LD (H : Hp) (a : Addr) : Prop := (∃ xs, H a = some (.lst xs)) ∨ ∃ kvs, H a = some (.dK kvs)
theorem LD.mut {H : Hp} {a : Addr} (h : LD H a) : MutO H a := by
  rcases h with ⟨xs, h⟩ | ⟨kvs, h⟩
  · exact .lst h
  · exact .dK h
theorem LD.gr {B : Tbs} {H H' : Hp} {a : Addr} (h : LD H a) (g : Gr B H H') : LD H' a := h.imp (fun ⟨xs, h⟩ => ⟨xs, g.lst h⟩) fun ⟨xs, h⟩ => ⟨xs, g.dK h⟩
theorem LD.lst {H : Hp} {a p : Addr} {xs : List V} (h : LD H a) : LD (upd H p (.lst xs)) a := by
  by_cases e : a = p
  · exact .inl ⟨xs, by rw [e, upd_same]⟩
  · exact h.imp (fun ⟨xs, h⟩ => ⟨xs, by rw [upd_ne e]; exact h⟩) fun ⟨xs, h⟩ => ⟨xs, by rw [upd_ne e]; exact h⟩
theorem LD.dK {H : Hp} {a p : Addr} {xs : List (Key × V)} (h : LD H a) : LD (upd H p (.dK xs)) a := by
  by_cases e : a = p
  · exact .inr ⟨xs, by rw [e, upd_same]⟩
  · exact h.imp (fun ⟨xs, h⟩ => ⟨xs, by rw [upd_ne e]; exact h⟩) fun ⟨xs, h⟩ => ⟨xs, by rw [upd_ne e]; exact h⟩
def PlO (H : Hp) (B W : List Addr) (p : Addr) (T : Tb Str) : Prop := (∀ w ∈ W, LD H w) ∧ (∀ x ∈ B, MutO H x ∧ x ∉ W) ∧ ∃ kvs n b o s r d l kb ko ks kr kd las, PlOwn H (woL (W ++ B) H) p T kvs n b o s r d l kb ko ks kr kd las ∧ ∀ a ∈ n :: b :: o :: s :: r :: d :: l :: las, a ∈ W
theorem pl_lists {rg : Str → List Str} {H : Hp} : ∀ {es : List En} {las : List Addr}, Paired (fun a (E : En) => H a = some (.lst (sv (rg E.label)))) las es → Dic (fun E v => LsAt H (rg E.label) v) (klOf es las) es
  | [], _, .nil => .nil
  | E :: es, _, .cons r t => .cons ⟨rfl, _, rfl, r⟩ (pl_lists t)
theorem PlO.at {H : Hp} {B W : List Addr} {p : Addr} {T : Tb Str} (h : PlO H B W p T) : PlAt (woL B H) p T := by
  obtain ⟨hm, hB, kvs, n, b, o, s, r, d, l, kb, ko, ks, kr, kd, las, O, own⟩ := h
  have q : ∀ {a : Addr} {x : HO}, a ∈ W → H a = some x → woL B H a = some x := fun {a x} ha e => by
    rw [woL_out]
    · exact e
    · intro z
      exact (hB a z).2 ha
  have g : Gr [] (woL (W ++ B) H) (woL B H) := gr_sub fun x hx => List.mem_append_right _ hx
  refine ⟨kvs, n, b, o, s, r, d, l, kb, ko, ks, kr, kd, _, g.dK O.hp, O.pk, q (own n (by simp)) O.hn, ⟨q (own b (by simp)) O.hb, O.pb.mono fun _ _ h => h.mono g⟩, ⟨q (own o (by simp)) O.ho, O.po⟩, ⟨q (own s (by simp)) O.hs, O.ps.mono fun _ _ h => h.mono g⟩,
    ⟨q (own r (by simp)) O.hr, O.pr.mono fun _ _ h => h.mono g⟩, ⟨q (own d (by simp)) O.hd, O.pd.mono fun _ _ h => h.mono g⟩, ⟨q (own l (by simp)) O.hl, ?_⟩⟩
  refine pl_lists (prd_mem O.pl fun a E ha h => q (own a (by simp [ha])) h)
theorem PlO.here {H : Hp} {B W : List Addr} {p : Addr} {T : Tb Str} (h : PlO H B W p T) : PlAt H p T := h.at.mono (gr_of_woL (T := []))
theorem woL_comm {A W : List Addr} {H : Hp} : woL (A ++ W) H = woL (W ++ A) H := woL_congr fun b => by simp [or_comm]
/-- the others change -/
theorem PlO.other {T0 : Tbs} {H H' : Hp} {B W : List Addr} {p : Addr} {T : Tb Str} (g : Gr T0 (woL B H) (woL B H')) (hB' : ∀ x ∈ B, MutO H' x) (h : PlO H B W p T) : PlO H' B W p T ∧ Gr T0 (woL (W ++ B) H) (woL (W ++ B) H') := by
  obtain ⟨hm, hB, kvs, n, b, o, s, r, d, l, kb, ko, ks, kr, kd, las, O, own⟩ := h
  have nB : ∀ {a}, a ∈ W → a ∉ B := fun ha z => (hB _ z).2 ha
  have q : ∀ {a : Addr} {x : HO}, a ∈ W → NoTbl x → H a = some x → H' a = some x := fun {a x} ha n e => (of_woL (g.1 _ _ (by rw [woL_out (nB ha)]; exact e) n)).2
  have mo : ∀ w ∈ W, LD H' w := fun w hw => (hm w hw).imp (fun ⟨x, e⟩ => ⟨x, q hw nt_lst e⟩) fun ⟨x, e⟩ => ⟨x, q hw nt_dK e⟩
  have gg : Gr T0 (woL (W ++ B) H) (woL (W ++ B) H') := by
    rw [← woL_app, ← woL_app]
    refine g.woL fun w hw => ?_
    obtain ⟨x, e, n1, n2⟩ := (mo w hw).mut
    exact ⟨x, by rw [woL_out (nB hw)]; exact e, n1, n2⟩
  refine ⟨⟨mo, fun x hx => ⟨hB' x hx, (hB x hx).2⟩, kvs, n, b, o, s, r, d, l, kb, ko, ks, kr, kd, las, ⟨gg.dK O.hp, O.pk, q (own n (by simp)) nt_lst O.hn, q (own b (by simp)) nt_dK O.hb, O.pb.mono fun _ _ h => h.mono gg, q (own o (by simp)) nt_dK O.ho, O.po, q (own s (by simp)) nt_dK O.hs, O.ps.mono fun _ _ h => h.mono gg,
    q (own r (by simp)) nt_dK O.hr, O.pr.mono fun _ _ h => h.mono gg, q (own d (by simp)) nt_dK O.hd, O.pd.mono fun _ _ h => h.mono gg, q (own l (by simp)) nt_dK O.hl, prd_mem O.pl fun a E ha h => q (own a (by simp [ha])) nt_lst h, O.nd⟩, own⟩, gg⟩
theorem PlO.gr {T0 : Tbs} {H H' : Hp} {B W : List Addr} {p : Addr} {T : Tb Str} (g : Gr T0 H H') (h : PlO H B W p T) : PlO H' B W p T ∧ Gr T0 (woL (W ++ B) H) (woL (W ++ B) H') :=
  h.other (g.woL fun x hx => ((h.2.1 x hx).1).gr g) fun x hx => ((h.2.1 x hx).1).gr g
/-- a list of registrations, to be written -/
theorem lists_reg {H : Hp} {es : List En} {las : List Addr} {l : Addr} {rg : Str → List Str} (hl : H l = some (.dK (klOf es las))) (pl : Paired (fun a (E : En) => H a = some (.lst (sv (rg E.label)))) las es) (ndl : las.Nodup) (nd : (M.names es).Nodup) {n : Str} (hn : n ∈ M.names es) :
    ∃ a ∈ las, DGet H l (.str n) (some (.ref a)) ∧ H a = some (.lst (sv (rg n))) ∧ ∀ (ys : List Str) (rg' : Str → List Str), rg' n = ys → (∀ m, m ≠ n → rg' m = rg m) → Paired (fun b (E : En) => upd H a (.lst (sv ys)) b = some (.lst (sv (rg' E.label)))) las es := by
  obtain ⟨E, hE, rfl⟩ := List.mem_map.mp hn
  obtain ⟨i, hi⟩ := List.mem_iff_getElem?.mp hE
  obtain ⟨a, ha, hla⟩ := prd_get pl hi
  have hal : a ∈ las := List.mem_of_getElem? ha
  have hlen : las.length = es.length := prd_len pl
  have at_ : ∀ {j : Nat} {E' : En}, es[j]? = some E' → E'.label = E.label → j = i := fun {j E'} h2 e => by
    have a1 : (M.names es)[j]? = some E.label := by unfold M.names; rw [List.getElem?_map, h2, ← e] <;> rfl
    have a2 : (M.names es)[i]? = some E.label := by unfold M.names; rw [List.getElem?_map, hi] <;> rfl
    exact nd_index nd a1 a2
  refine ⟨a, hal, ?_, hla, fun ys rg' e1 e2 => ?_⟩
  · have hp : Paired (fun (p : Key × V) (E' : En) => p.1 = .inr E'.label ∧ (E' = E → p.2 = .ref a)) (klOf es las) es := by
      refine paired_of (klOf_len hlen) fun j p E' h1 h2 => ?_
      unfold klOf at h1
      rw [List.getElem?_map] at h1
      cases hz : (es.zip las)[j]? with
      | none =>
        rw [hz] at h1
        cases h1
      | some z =>
        rw [hz] at h1
        cases h1
        obtain ⟨z1, z2⟩ := List.getElem?_zip_eq_some.mp hz
        rw [h2] at z1
        cases z1
        refine ⟨rfl, fun e => ?_⟩
        have hj : j = i := at_ h2 (by rw [e])
        subst hj
        rw [ha] at z2
        cases z2
        rfl
    obtain ⟨p, E', g1, ⟨g2, g3⟩, g4, g5, g6⟩ := val_of (fun _ _ r => r.1) hp hn
    have e : E' = E := by
      obtain ⟨j, hj⟩ := List.mem_iff_getElem?.mp g6
      have := at_ hj g5
      subst this
      rw [hi] at hj
      cases hj
      rfl
    rw [← g3 e, ← g1]
    exact DGet.k (k := .inr E.label) hl
  · refine paired_of hlen fun j b E' h1 h2 => ?_
    obtain ⟨b', hb', hlb⟩ := prd_get pl h2
    rw [h1] at hb'
    cases hb'
    by_cases hj : j = i
    · subst hj
      rw [ha] at h1
      cases h1
      rw [hi] at h2
      cases h2
      show upd H a _ a = some (.lst (sv (rg' E.label)))
      rw [upd_same, e1]
    · have hne : b ≠ a := fun e => hj (nd_index ndl (by rw [← e]; exact h1) ha)
      have hln : E'.label ≠ E.label := fun e => hj (at_ h2 e)
      show upd H a _ b = some (.lst (sv (rg' E'.label)))
      rw [upd_ne hne, e2 _ hln]
      exact hlb
section
variable {P : Program} {w : World} {K : PySem.W.Frag} {mg : Str → Option Value} {base : Heap}
def spLAdmit (K : PySem.W.Frag) : Sp := fun vs H Q _ => ∃ (p : Addr) (B W : List Addr) (T : Tb Str) (n o : Str), vs = [.ref p, .str n, .str o] ∧ PlO H B W p T ∧ (M.names T.es).Nodup ∧ n ∈ M.names T.es ∧ (T.rg n).length ≤ 100 ∧
  ∀ H', Gr (tt K) (woL (W ++ B) H) (woL (W ++ B) H') → PlO H' B W p (if o ∈ T.rg n then T else M.admit T n o) → Gr (tt K) (woL W H) (woL W H') → Q .non H'
theorem sc__law_admit : FnScope ["_law_plain", "_law_name", "_law_other"] ["_law_plain", "_law_name", "_law_other"] (defScope s__law_admit) := ⟨rfl, rfl, rfl, by decide +kernel, rfl, by decide +kernel, by decide +kernel⟩
theorem ok__law_admit (c : Tx K mg base) : Ok P w K mg base 1 (ga K "_law_admit") ["_law_plain", "_law_name", "_law_other"] (spLAdmit K) := by
  refine Ok.mk' (fd__law_admit c) sc__law_admit (fun _ _ _ _ _ _ us hl => match us, hl with | [_, _, _], _ => rfl) (fun vs H Q E h => ?_) (fun cdv A outer s H vs Q E hr h => ?_)
  · obtain ⟨p, B, W, T, n, o, rfl, _⟩ := h
    rfl
  · obtain ⟨p, B, W, T, n, o, rfl, hP, nd, hn, hz, k⟩ := h
    refine ⟨_, (pss_one (ps_if (pt_cmpR (ninK K rfl) (pv 2) (pe_dget (hu_of hr) (pe_dget (hu_of hr) (pv 0) pe_str (fun _ _ => rfl)) (pv 1) (fun _ _ => rfl)) rfl) (pss_one (ps_expr (pe_bm PySem.F.plainAttrs_list PySem.F.slot_list_append PySem.F.type_list_append mt_append (pe_dget (hu_of hr) (pe_dget (hu_of hr) (pv 0) pe_str (fun _ _ => rfl)) (pv 1) (fun _ _ => rfl)) (pa_cons (pv 2) pa_nil)))) pss_nil)), ?_⟩
    have hP0 := hP
    obtain ⟨hm, hB, kvs, n1, b, o1, s1, r, d, l, kb, ko, ks, kr, kd, las, O, own⟩ := hP0
    have ndl : las.Nodup := by
      have := O.nd
      simp only [List.nodup_cons] at this
      exact this.2.2.2.2.2.2.2
    obtain ⟨a, hal, h1, h2, h3⟩ := lists_reg O.hl O.pl ndl nd hn
    have hp : DGet H p (.str "lists") (some (.ref l)) := dget_is (of_woL O.hp).2 O.pk.l
    have haW : a ∈ W := own a (by simp [hal])
    refine ⟨_, rfl, _, rfl, p, _, rfl, hp, _, rfl, l, _, rfl, h1, a, _, rfl, .inl (SqL.of h2), rfl, flat_sv _, _, rfl, ?_⟩
    rw [inV_sv]
    by_cases ho : o ∈ T.rg n
    · rw [decide_eq_true ho]
      rw [if_pos ho] at k
      exact iteF (k H (Gr.refl _) hP (Gr.refl _))
    · rw [decide_eq_false ho]
      rw [if_neg ho] at k
      refine iteT ⟨_, rfl, p, _, rfl, hp, _, rfl, l, _, rfl, h1, .inl ⟨rfl, _, SqL.of h2⟩, _, rfl, a, _, _, rfl, rfl, h2, ?_, ?_⟩
      · rw [sv_len]
        exact Nat.lt_of_le_of_lt hz (by decide)
      · have e : sv (T.rg n) ++ [V.str o] = sv (T.rg n ++ [o]) := by
          unfold sv
          rw [List.map_append] <;> rfl
        rw [e]
        have eW : woL (W ++ B) (upd H a (.lst (sv (T.rg n ++ [o])))) = woL (W ++ B) H := woL_upd (by simp [haW])
        have eW2 : woL W (upd H a (.lst (sv (T.rg n ++ [o])))) = woL W H := woL_upd haW
        refine k _ (by rw [eW]; exact Gr.refl _) ⟨fun w hw => (hm w hw).lst, fun x hx => ⟨((hB x hx).1).set nt_lst fun _ _ => code_lst, (hB x hx).2⟩, kvs, n1, b, o1, s1, r, d, l, kb, ko, ks, kr, kd, las, ?_, own⟩ (by rw [eW2]; exact Gr.refl _)
        have ne : ∀ {x : Addr} {y : HO}, H x = some y → (∀ zs, y ≠ .lst zs) → x ≠ a := fun {x y} hx hy e => by
          rw [e, h2] at hx
          exact hy _ (Option.some.inj hx).symm
        have nn : n1 ≠ a := fun e => by
          have := (List.nodup_cons.mp O.nd).1
          exact this (by rw [e]; simp [hal])
        rw [eW]
        exact ⟨O.hp, O.pk, by rw [upd_ne nn]; exact O.hn, by rw [upd_ne (ne O.hb fun _ z => by cases z)]; exact O.hb, O.pb, by rw [upd_ne (ne O.ho fun _ z => by cases z)]; exact O.ho, O.po, by rw [upd_ne (ne O.hs fun _ z => by cases z)]; exact O.hs, O.ps, by rw [upd_ne (ne O.hr fun _ z => by cases z)]; exact O.hr, O.pr, by rw [upd_ne (ne O.hd fun _ z => by cases z)]; exact O.hd, O.pd,
          by rw [upd_ne (ne O.hl fun _ z => by cases z)]; exact O.hl, h3 _ _ (if_pos rfl) (fun m hm => if_neg hm), O.nd⟩
end
end SW


set_option maxHeartbeats 2000000
namespace SW
open PySem PySem.Spec PyProof.Rows L2 He LamX NdefX
open SW.M (Ent Tb Oc)
section
variable {P : Program} {w : World} {K : PySem.W.Frag} {mg : Str → Option Value} {base : Heap}
def newK (n b o s r d l : Addr) : List (Key × V) := [(.inr "names", .ref n), (.inr "bases", .ref b), (.inr "own", .ref o), (.inr "signs", .ref s), (.inr "rules", .ref r), (.inr "order", .ref d), (.inr "lists", .ref l)]
theorem newK_merge {n b o s r d l : Addr} : mergeK [] (newK n b o s r d l) = newK n b o s r d l := by
  rw [mergeK_nd]
  · rfl
  · show (List.map Prod.fst (newK n b o s r d l)).Nodup
    unfold newK
    simp only [List.map_cons, List.map_nil]
    have e : [(Sum.inr "names" : Key), .inr "bases", .inr "own", .inr "signs", .inr "rules", .inr "order", .inr "lists"] = (["names", "bases", "own", "signs", "rules", "order", "lists"] : List Str).map Sum.inr := rfl
    rw [e]
    exact nd_inr (by decide +kernel)
theorem newK_pk {n b o s r d l : Addr} : PlK (newK n b o s r d l) n b o s r d l where
  n := rfl
  b := rfl
  o := rfl
  s := rfl
  r := rfl
  d := rfl
  l := rfl
def spLNew (K : PySem.W.Frag) : Sp := fun vs H Q _ => vs = [] ∧ ∃ B : List Addr, (∀ x ∈ B, MutO H x) ∧ ∀ H' W p, Gr (tt K) (woL B H) (woL (W ++ B) H') → PlO H' B W p T0 → Q (.ref p) H'
theorem sc__law_new : FnScope [] [] (defScope s__law_new) := ⟨rfl, rfl, rfl, by decide +kernel, rfl, by decide +kernel, by decide +kernel⟩
theorem ok__law_new (c : Tx K mg base) : Ok P w K mg base 1 (ga K "_law_new") [] (spLNew K) := by
  refine Ok.mk' (fd__law_new c) sc__law_new (fun _ _ _ _ _ _ us hl => match us, hl with | [], _ => rfl) (fun vs H Q E h => ?_) (fun cdv A outer s H vs Q E hr h => ?_)
  · obtain ⟨rfl, _⟩ := h
    rfl
  · obtain ⟨rfl, B, hB, k⟩ := h
    refine ⟨_, (pss_one (ps_ret (pe_disp (pps_cons pe_str (pe_lst pa_nil) (pps_cons pe_str pe_dnewK (pps_cons pe_str pe_dnewK (pps_cons pe_str pe_dnewK (pps_cons pe_str pe_dnewK (pps_cons pe_str pe_dnewK (pps_cons pe_str pe_dnewK pps_nil))))))) (by rfl) (by rfl) (fun z => by cases z) (by decide)))), ?_⟩
    intro p hp
    refine ⟨by show 0 ≤ sizeLine; decide, fun n hn => ?_⟩
    intro b hb o ho s1 hs r hr' d hd l hl
    have pB : p ∉ B := not_in hB hp
    have st : ∀ {Hi : Hp} {L : List Addr} {y : Addr} {u : HO}, (∀ x ∈ L, ∃ o, Hi x = some o) → L.Nodup → Hi y = none → (∀ x ∈ y :: L, ∃ o, upd Hi y u x = some o) ∧ (y :: L).Nodup := fun {Hi L y u} h1 h2 hy => by
      have nl : y ∉ L := fun z => by
        obtain ⟨o, e⟩ := h1 y z
        rw [hy] at e
        cases e
      refine ⟨fun x hx => ?_, List.nodup_cons.mpr ⟨nl, h2⟩⟩
      by_cases e : x = y
      · exact ⟨u, by rw [e, upd_same]⟩
      · rcases List.mem_cons.mp hx with h | h
        · exact absurd h e
        · obtain ⟨o, q⟩ := h1 x h
          exact ⟨o, by rw [upd_ne e]; exact q⟩
    have s0 := st (L := B ++ []) (u := .dK []) (Hi := H) (y := p)
    clear s0
    have p0 : upd H p (.dK []) p = some (.dK []) := upd_same
    have e0 : woL B (upd H p (.dK [])) = upd (woL B H) p (.dK []) := woL_new pB
    have f0 : (∀ x ∈ [p], ∃ o, upd H p (.dK []) x = some o) ∧ [p].Nodup := st (L := []) (fun x hx => by cases hx) List.nodup_nil hp
    have b0 : ∀ x ∈ B, MutO (upd H p (.dK [])) x := fun x hx => (hB x hx).upd hp
    generalize upd H p (.dK []) = H0 at *
    have f1 := st (u := .lst []) f0.1 f0.2 hn
    have e1 : woL (n :: B) (upd H0 n (.lst [])) = woL B H0 := woL_grow hn
    have b1 : ∀ x ∈ B, MutO (upd H0 n (.lst [])) x := fun x hx => (b0 x hx).upd hn
    have nB := not_in b0 hn
    have g1 : Gr (tt K) H0 (upd H0 n (.lst [])) := Gr.new hn
    have n1 : upd H0 n (.lst []) n = some (.lst []) := upd_same
    generalize upd H0 n (.lst []) = H1 at *
    have f2 := st (u := .dK []) f1.1 f1.2 hb
    have e2 : woL (b :: (n :: B)) (upd H1 b (.dK [])) = woL (n :: B) H1 := woL_grow hb
    have b2 : ∀ x ∈ B, MutO (upd H1 b (.dK [])) x := fun x hx => (b1 x hx).upd hb
    have bB := not_in b1 hb
    have g2 : Gr (tt K) H1 (upd H1 b (.dK [])) := Gr.new hb
    have n2 : upd H1 b (.dK []) b = some (.dK []) := upd_same
    generalize upd H1 b (.dK []) = H2 at *
    have f3 := st (u := .dK []) f2.1 f2.2 ho
    have e3 : woL (o :: (b :: (n :: B))) (upd H2 o (.dK [])) = woL (b :: (n :: B)) H2 := woL_grow ho
    have b3 : ∀ x ∈ B, MutO (upd H2 o (.dK [])) x := fun x hx => (b2 x hx).upd ho
    have oB := not_in b2 ho
    have g3 : Gr (tt K) H2 (upd H2 o (.dK [])) := Gr.new ho
    have n3 : upd H2 o (.dK []) o = some (.dK []) := upd_same
    generalize upd H2 o (.dK []) = H3 at *
    have f4 := st (u := .dK []) f3.1 f3.2 hs
    have e4 : woL (s1 :: (o :: (b :: (n :: B)))) (upd H3 s1 (.dK [])) = woL (o :: (b :: (n :: B))) H3 := woL_grow hs
    have b4 : ∀ x ∈ B, MutO (upd H3 s1 (.dK [])) x := fun x hx => (b3 x hx).upd hs
    have sB := not_in b3 hs
    have g4 : Gr (tt K) H3 (upd H3 s1 (.dK [])) := Gr.new hs
    have n4 : upd H3 s1 (.dK []) s1 = some (.dK []) := upd_same
    generalize upd H3 s1 (.dK []) = H4 at *
    have f5 := st (u := .dK []) f4.1 f4.2 hr'
    have e5 : woL (r :: (s1 :: (o :: (b :: (n :: B))))) (upd H4 r (.dK [])) = woL (s1 :: (o :: (b :: (n :: B)))) H4 := woL_grow hr'
    have b5 : ∀ x ∈ B, MutO (upd H4 r (.dK [])) x := fun x hx => (b4 x hx).upd hr'
    have rB := not_in b4 hr'
    have g5 : Gr (tt K) H4 (upd H4 r (.dK [])) := Gr.new hr'
    have n5 : upd H4 r (.dK []) r = some (.dK []) := upd_same
    generalize upd H4 r (.dK []) = H5 at *
    have f6 := st (u := .dK []) f5.1 f5.2 hd
    have e6 : woL (d :: (r :: (s1 :: (o :: (b :: (n :: B)))))) (upd H5 d (.dK [])) = woL (r :: (s1 :: (o :: (b :: (n :: B))))) H5 := woL_grow hd
    have b6 : ∀ x ∈ B, MutO (upd H5 d (.dK [])) x := fun x hx => (b5 x hx).upd hd
    have dB := not_in b5 hd
    have g6 : Gr (tt K) H5 (upd H5 d (.dK [])) := Gr.new hd
    have n6 : upd H5 d (.dK []) d = some (.dK []) := upd_same
    generalize upd H5 d (.dK []) = H6 at *
    have f7 := st (u := .dK []) f6.1 f6.2 hl
    have e7 : woL (l :: (d :: (r :: (s1 :: (o :: (b :: (n :: B))))))) (upd H6 l (.dK [])) = woL (d :: (r :: (s1 :: (o :: (b :: (n :: B)))))) H6 := woL_grow hl
    have b7 : ∀ x ∈ B, MutO (upd H6 l (.dK [])) x := fun x hx => (b6 x hx).upd hl
    have lB := not_in b6 hl
    have g7 : Gr (tt K) H6 (upd H6 l (.dK [])) := Gr.new hl
    have n7 : upd H6 l (.dK []) l = some (.dK []) := upd_same
    generalize upd H6 l (.dK []) = H7 at *
    have p7 := g7.dK (g6.dK (g5.dK (g4.dK (g3.dK (g2.dK (g1.dK p0))))))
    have nn := f7.2
    have nd : ([n, b, o, s1, r, d, l, p] : List Addr).Nodup := by
      have := ((List.reverse_perm _).nodup_iff).mpr nn
      simp only [List.reverse_cons, List.reverse_nil, List.nil_append, List.cons_append] at this
      have h2 : ([p, n, b, o, s1, r, d, l] : List Addr).Nodup := this
      obtain ⟨q1, q2⟩ := List.nodup_cons.mp h2
      have e : ([n, b, o, s1, r, d, l, p] : List Addr) = [n, b, o, s1, r, d, l] ++ [p] := rfl
      rw [e]
      exact List.nodup_append.mpr ⟨q2, by simp, fun x hx y hy z => q1 (by rw [← List.mem_singleton.mp hy, ← z]; exact hx)⟩
    have nd7 : ([n, b, o, s1, r, d, l] : List Addr).Nodup := by
      have e : ([n, b, o, s1, r, d, l, p] : List Addr) = [n, b, o, s1, r, d, l] ++ [p] := rfl
      rw [e] at nd
      exact (List.nodup_append.mp nd).1
    have pW : ∀ x ∈ ([n, b, o, s1, r, d, l] : List Addr), x ≠ p := fun x hx e => by
      have e2 : ([n, b, o, s1, r, d, l, p] : List Addr) = [n, b, o, s1, r, d, l] ++ [p] := rfl
      rw [e2] at nd
      exact (List.nodup_append.mp nd).2.2 x hx p (by simp) e
    have pWB : p ∉ l :: (d :: (r :: (s1 :: (o :: (b :: (n :: B)))))) := by
      simp only [List.mem_cons, not_or]
      exact ⟨(pW l (by simp)).symm, (pW d (by simp)).symm, (pW r (by simp)).symm, (pW s1 (by simp)).symm, (pW o (by simp)).symm, (pW b (by simp)).symm, (pW n (by simp)).symm, pB⟩
    refine ⟨p7, newK n b o s1 r d l, rfl, by show 7 ≤ 15; decide, ?_⟩
    rw [newK_merge]
    have eW : woL (l :: (d :: (r :: (s1 :: (o :: (b :: (n :: B))))))) (upd H7 p (.dK (newK n b o s1 r d l))) = upd (woL B H) p (.dK (newK n b o s1 r d l)) := by
      rw [woL_new pWB, e7, e6, e5, e4, e3, e2, e1, e0, L2.upd_upd]
    have at7 : ∀ {x : Addr} {u : HO}, x ∈ ([n, b, o, s1, r, d, l] : List Addr) → H7 x = some u → upd H7 p (.dK (newK n b o s1 r d l)) x = some u := fun hx e => by
      rw [upd_ne (pW _ hx)]
      exact e
    have hpB : woL B H p = none := by
      rw [woL_out pB]
      exact hp
    have m7 : ∀ x ∈ ([l, d, r, s1, o, b, n] : List Addr), LD H7 x := fun x hx => by
      simp only [List.mem_cons, List.not_mem_nil, or_false] at hx
      rcases hx with rfl | rfl | rfl | rfl | rfl | rfl | rfl
      · exact .inr ⟨_, n7⟩
      · exact .inr ⟨_, (g7.dK n6)⟩
      · exact .inr ⟨_, (g7.dK (g6.dK n5))⟩
      · exact .inr ⟨_, (g7.dK (g6.dK (g5.dK n4)))⟩
      · exact .inr ⟨_, (g7.dK (g6.dK (g5.dK (g4.dK n3))))⟩
      · exact .inr ⟨_, (g7.dK (g6.dK (g5.dK (g4.dK (g3.dK n2)))))⟩
      · exact .inl ⟨_, (g7.lst (g6.lst (g5.lst (g4.lst (g3.lst (g2.lst n1))))))⟩
    refine k _ [l, d, r, s1, o, b, n] p (by rw [show ([l, d, r, s1, o, b, n] ++ B : List Addr) = l :: (d :: (r :: (s1 :: (o :: (b :: (n :: B)))))) from rfl, eW]; exact Gr.new hpB) ⟨fun x hx => (m7 x hx).dK, fun x hx => ⟨(b7 x hx).set nt_dK fun _ _ => code_dK, fun z => ?_⟩, newK n b o s1 r d l, n, b, o, s1, r, d, l, [], [], [], [], [], [],
      ⟨by rw [show ([l, d, r, s1, o, b, n] ++ B : List Addr) = l :: (d :: (r :: (s1 :: (o :: (b :: (n :: B)))))) from rfl, eW, upd_same], newK_pk, at7 (by simp) (g7.lst (g6.lst (g5.lst (g4.lst (g3.lst (g2.lst n1)))))), at7 (by simp) (g7.dK (g6.dK (g5.dK (g4.dK (g3.dK n2))))), .nil, at7 (by simp) (g7.dK (g6.dK (g5.dK (g4.dK n3)))), .nil, at7 (by simp) (g7.dK (g6.dK (g5.dK n4))), .nil,
        at7 (by simp) (g7.dK (g6.dK n5)), .nil, at7 (by simp) (g7.dK n6), .nil, at7 (by simp) n7, .nil, nd7⟩, fun x hx => ?_⟩
    · simp only [List.mem_cons, List.not_mem_nil, or_false] at z
      rcases z with rfl | rfl | rfl | rfl | rfl | rfl | rfl
      · exact lB hx
      · exact dB hx
      · exact rB hx
      · exact sB hx
      · exact oB hx
      · exact bB hx
      · exact nB hx
    · simp only [List.mem_cons, List.not_mem_nil, or_false] at hx ⊢
      rcases hx with h | h | h | h | h | h | h <;> simp [h]
end
end SW


set_option maxHeartbeats 2000000
namespace SW
open PySem PySem.Spec PyProof.Rows L2 He LamX NdefX
open SW.M (Ent Tb Oc)
/-! ## a class more -/
inductive Sl | n | b | o | s | r | d | l deriving DecidableEq
structure Stt (H : Hp) (A : Sl → Addr) (f : Sl → HO) (las : List Addr) (T : Tb Str) (W B : List Addr) : Prop where
  at_ : ∀ i, H (A i) = some (f i)
  pl : Paired (fun a (E : En) => H a = some (.lst (sv (T.rg E.label)))) las T.es
  inj : ∀ i j, A i = A j → i = j
  dis : ∀ i, A i ∉ las
  mW : ∀ w ∈ W, LD H w
  mB : ∀ x ∈ B, MutO H x
section
variable {H H' : Hp} {A : Sl → Addr} {f : Sl → HO} {las : List Addr} {T : Tb Str} {W B : List Addr}
theorem Stt.gr {T0 : Tbs} (st : Stt H A f las T W B) (nt : ∀ i, NoTbl (f i)) (g : Gr T0 H H') : Stt H' A f las T W B :=
  ⟨fun i => g.1 _ _ (st.at_ i) (nt i), prd_mono st.pl fun a E h => g.lst h, st.inj, st.dis, fun w hw => (st.mW w hw).gr g, fun x hx => (st.mB x hx).gr g⟩
theorem Stt.set (st : Stt H A f las T W B) (i : Sl) {u : HO} (hu : (∃ xs, u = .lst xs) ∨ ∃ kvs, u = .dK kvs) (n1 : NoTbl u) (n2 : ∀ c q, u ≠ CodeO c q) : Stt (upd H (A i) u) A (fun j => if j = i then u else f j) las T W B where
  at_ := fun j => by
    by_cases e : j = i
    · subst e
      rw [upd_same, if_pos rfl]
    · rw [upd_ne (fun z => e (st.inj _ _ z)), if_neg e]
      exact st.at_ j
  pl := prd_mem st.pl fun a E ha h => by
    rw [upd_ne (fun z => st.dis i (by rw [← z]; exact ha))]
    exact h
  inj := st.inj
  dis := st.dis
  mW := fun w hw => by
    rcases hu with ⟨xs, rfl⟩ | ⟨xs, rfl⟩
    · exact (st.mW w hw).lst
    · exact (st.mW w hw).dK
  mB := fun x hx => (st.mB x hx).set n1 n2
end
theorem cut_take (xs : List V) (n : Nat) : cutV xs none (some (n : Int)) = xs.take n := by
  unfold cutV
  rw [HT.sIx_nat, HT.sIx_none, List.drop_zero, Nat.sub_zero]
  by_cases hn : n ≤ xs.length
  · rw [Nat.min_eq_left hn]
  · rw [Nat.min_eq_right (by omega), List.take_length, List.take_of_length_le (by omega)]
theorem Mades.head {es : List En} (h : Mades es) {n : Str} (hn : n ∈ M.names es) : ∃ m, M.line es n = n :: m := by
  obtain ⟨E, hE, rfl⟩ := List.mem_map.mp hn
  obtain ⟨i, hi, r⟩ := M.Built.all h hE
  obtain ⟨m, e, _⟩ := r.ord
  exact ⟨m, by rw [line_find (find_at h.facts.nd hi), e]⟩
theorem mg_one {es : List En} (h : Mades es) {b : Str} (hb : b ∈ M.names es) : M.Mg (mlists es [b]) (some (M.line es b)) := by
  obtain ⟨m, e⟩ := h.head hb
  refine M.Mg.one (h.facts.one b) (fun l hl => ?_) (by simp [mlists])
  unfold mlists at hl
  rcases List.mem_append.mp hl with hl | hl
  · obtain ⟨c, hc, rfl⟩ := List.mem_map.mp hl
    rw [List.mem_singleton.mp hc]
    exact .inr (.inr rfl)
  · rw [List.mem_singleton.mp hl, e]
    exact .inr (.inl rfl)
theorem putK_last {kr : List (Key × V)} {k : Key} {v v' : V} (h : valV kr k = none) : putK (kr ++ [(k, v)]) k v' = kr ++ [(k, v')] := by
  unfold putK
  have h0 : ∀ p ∈ kr, p.1 ≠ k := fun p hp e => by
    have h1 := valV_any k kr
    rw [h] at h1
    have h2 : (kr.any fun kv => decide (kv.1 = k)) = true := List.any_eq_true.mpr ⟨p, hp, decide_eq_true e⟩
    rw [h1] at h2
    cases h2
  rw [if_pos (List.any_eq_true.mpr ⟨(k, v), by simp, by simp⟩), List.map_append]
  congr 1
  · conv => rhs; rw [← List.map_id kr]
    exact List.map_congr_left fun p hp => if_neg (h0 p hp)
  · simp
def slA (n b o s r d l : Addr) : Sl → Addr
  | .n => n
  | .b => b
  | .o => o
  | .s => s
  | .r => r
  | .d => d
  | .l => l
def slF (xn xb xo xs xr xd xl : HO) : Sl → HO
  | .n => xn
  | .b => xb
  | .o => xo
  | .s => xs
  | .r => xr
  | .d => xd
  | .l => xl
theorem slF_set {xn xb xo xs xr xd xl u : HO} (i : Sl) : (fun j => if j = i then u else slF xn xb xo xs xr xd xl j) = match i with
    | .n => slF u xb xo xs xr xd xl
    | .b => slF xn u xo xs xr xd xl
    | .o => slF xn xb u xs xr xd xl
    | .s => slF xn xb xo u xr xd xl
    | .r => slF xn xb xo xs u xd xl
    | .d => slF xn xb xo xs xr u xl
    | .l => slF xn xb xo xs xr xd u := by
  funext j
  cases i <;> cases j <;> rfl
theorem Stt.out {H : Hp} {A : Sl → Addr} {f : Sl → HO} {las : List Addr} {T : Tb Str} {W B : List Addr} (st : Stt H A f las T W B) {x : Addr} (h : H x = none) : x ∉ W ++ B := fun z => by
  rcases List.mem_append.mp z with z | z
  · obtain ⟨o, e, _⟩ := (st.mW x z).mut
    rw [h] at e
    cases e
  · obtain ⟨o, e, _⟩ := st.mB x z
    rw [h] at e
    cases e
theorem PlO.orders {H : Hp} {B W : List Addr} {p : Addr} {T : Tb Str} (h : PlO H B W p T) : ∃ d, DGet H p (.str "order") (some (.ref d)) ∧ ∀ n ∈ M.names T.es, ∃ a, DGet H d (.str n) (some (.ref a)) ∧ woL (W ++ B) H a = some (.lst (sv (M.line T.es n))) := by
  obtain ⟨hm, hB, kvs, n1, b, o, s1, r, d, l, kb, ko, ks, kr, kd, las, O, own⟩ := h
  refine ⟨d, dget_is (of_woL O.hp).2 O.pk.d, fun n hn => ?_⟩
  obtain ⟨v, E, q1, ⟨a, rfl, q2⟩, q3, _⟩ := Dic.get O.hd O.pd hn
  exact ⟨a, q1, by rw [line_find q3]; exact q2⟩
theorem pl_swap {H : Hp} {rg : Str → List Str} {E E' : En} (e : E'.label = E.label) : ∀ {es : List En} {las : List Addr}, Paired (fun a (E : En) => H a = some (.lst (sv (rg E.label)))) las (es ++ [E]) → Paired (fun a (E : En) => H a = some (.lst (sv (rg E.label)))) las (es ++ [E'])
  | [], _, .cons r .nil => .cons (by rw [e]; exact r) .nil
  | F :: es, _, .cons r t => .cons r (pl_swap e (es := es) t)
/-- a rule as a value -/
def RuV (H : Hp) (v : V) : Option (List (List Str × Bool) × Bool) → Prop
  | none => v = .non
  | some (cl, pd) => ∃ a ha, v = .ref a ∧ H a = some (.tup [.ref ha, .bl pd]) ∧ HookAt H (.ref ha) (some cl)
theorem RuV.mono {B : Tbs} {H H' : Hp} {v : V} {ru} (g : Gr B H H') (h : RuV H v ru) : RuV H' v ru := by
  cases ru with
  | none => exact h
  | some q =>
    obtain ⟨cl, pd⟩ := q
    obtain ⟨a, ha, e, h1, h2⟩ := h
    exact ⟨a, ha, e, g.tup h1, h2.mono g⟩
theorem Dic.snoc {R : En → V → Prop} {kr : List (Key × V)} {es : List En} {E : En} {v : V} (h : Dic R kr es) (r : R E v) : Dic R (kr ++ [(.inr E.label, v)]) (es ++ [E]) := prd_snoc h ⟨rfl, r⟩
theorem Dic.put {R : En → V → Prop} {kr : List (Key × V)} {es : List En} {n : Str} {v : V} (h : Dic R kr es) (hn : n ∉ M.names es) : putK kr (.inr n) v = kr ++ [(.inr n, v)] := putK_new _ (val_none (fun _ _ r => r.1) h hn)
section
variable {P : Program} {w : World} {K : PySem.W.Frag} {mg : Str → Option Value} {base : Heap}
def spLMake (K : PySem.W.Frag) : Sp := fun vs H Q _ => ∃ (p bl sg : Addr) (n : Str) (ow : Bool) (rv : V) (B W : List Addr) (T : Tb Str) (bs : List Str) (ms : List (Str × Str)) (ru : Option (List (List Str × Bool) × Bool)), vs = [.ref p, .str n, .ref bl, .bl ow, .ref sg, rv] ∧
  PlO H B W p T ∧ Mades T.es ∧ T.es.length ≤ 10 ∧ n ∉ M.names T.es ∧ NameOk n ∧ T.rg n = [] ∧ woL (W ++ B) H bl = some (.lst (sv bs)) ∧ (∀ b ∈ bs, b ∈ M.names T.es) ∧ bs.Nodup ∧ bs.length ≤ 3 ∧ woL (W ++ B) H sg = some (.dK (marksKV ms)) ∧ MarksOk ms ∧ RuV (woL (W ++ B) H) rv ru ∧ (∀ cl pd, ru = some (cl, pd) → HookOk cl) ∧
  ∀ H' W' E, E.label = n → EntOk T.es E → (E.hook = none ∨ ∃ cl, E.hook = some cl ∧ ru = some (cl, E.passed)) → Gr (tt K) (woL (W ++ B) H) (woL (W' ++ B) H') → PlO H' B W' p ⟨T.es ++ [E], T.rg⟩ → Q .non H'
theorem sc__law_make : FnScope ["_law_plain", "_law_name", "_law_bases", "_law_oath", "_law_signs", "_law_rule", "_law_lists", "_law_rest", "_law_base"] ["_law_plain", "_law_name", "_law_bases", "_law_oath", "_law_signs", "_law_rule"] (defScope s__law_make) := ⟨rfl, rfl, rfl, by decide +kernel, rfl, by decide +kernel, by decide +kernel⟩
theorem ok__law_make (c : Tx K mg base) : Ok P w K mg base 3 (ga K "_law_make") ["_law_plain", "_law_name", "_law_bases", "_law_oath", "_law_signs", "_law_rule"] (spLMake K) := by
  refine Ok.mk' (fd__law_make c) sc__law_make (fun _ _ _ _ _ _ us hl => match us, hl with | [_, _, _, _, _, _], _ => rfl) (fun vs H Q E h => ?_) (fun cdv A outer s H vs Q E hr h => ?_)
  · obtain ⟨p, bl, sg, n, ow, rv, B, W, T, bs, ms, ru, rfl, _⟩ := h
    rfl
  · obtain ⟨p, bl, sg, n, ow, rv, B, W, T, bs, ms, ru, rfl, hP, hM, h10, hnew, hnok, hrg, hbl, hbs, hbnd, hb4, hsg, hmk, hru, hruo, k⟩ := h
    refine ⟨_, (pss_cons (ps_set (i := 6) sc__law_make.nd rfl (Or.inl rfl) (pe_op op_cat (pe_lc (own := [("_law_base", 8)]) (g := (gName 8)) (tt := tYes) rfl sc__law_make.nd (piL K rfl (pv 2)) (blkOk_by (N := ["_law_plain", "_law_name", "_law_bases", "_law_oath", "_law_signs", "_law_rule", "_law_lists", "_law_rest", "_law_base"]) (sc := defScope s__law_make) (by decide +kernel)) (fun _ _ _ _ _ => (pg_name (i := 8) sc__law_make.nd rfl (by first | exact Or.inl rfl | exact Or.inr rfl))) (fun _ _ _ _ _ => by exact pts_nil) (fun _ _ _ _ _ => by exact (pe_dget (hu_of hr) (pe_dget (hu_of hr) (pv 0) pe_str (fun _ _ => rfl)) (pv 8) (fun _ _ => rfl)))) (pe_lst (pa_cons (pv 2) pa_nil)))) (pss_cons (ps_set (i := 7) sc__law_make.nd rfl (Or.inl rfl) ((ok__law_merge c).call hr (by decide) (g__law_merge c) (pa_cons (pv 6) pa_nil))) (C8.pss_cut (ps_if (pt_cmpR op_isN (pv 7) pe_non (nomark _)) (pss_one (ps_par (i := 2) (j := 7) rfl sc__law_make.nd rfl rfl (by decide) rfl rfl (pa_cons (pe_slice (slLK K rfl) (pv 2) po_none (po_some pe_int)) (pa_cons (pe_dget (hu_of hr) (pe_dget (hu_of hr) (pv 0) pe_str (fun _ _ => rfl)) (pe_ix (ixLK K rfl) (pv 2) pe_int (fun _ _ => rfl)) (fun _ _ => rfl)) pa_nil)) (by rfl))) pss_nil) (pss_cons (ps_expr (pe_bm PySem.F.plainAttrs_list PySem.F.slot_list_append PySem.F.type_list_append mt_append (pe_dget (hu_of hr) (pv 0) pe_str (fun _ _ => rfl)) (pa_cons (pv 1) pa_nil))) (pss_cons (ps_dput (hu_of hr) (pe_dget (hu_of hr) (pv 0) pe_str (fun _ _ => rfl)) (pv 1) (pe_callTy (listK K rfl) (by rfl) (n_list c) (by first | exact PySem.boot_list | exact boot_list | decide +kernel) (pa_cons (pv 2) pa_nil)) rfl) (pss_cons (ps_dput (hu_of hr) (pe_dget (hu_of hr) (pv 0) pe_str (fun _ _ => rfl)) (pv 1) (pv 3) rfl) (pss_cons (ps_dput (hu_of hr) (pe_dget (hu_of hr) (pv 0) pe_str (fun _ _ => rfl)) (pv 1) (pe_callTy call_dictD (by rfl) (n_dict c) (by first | exact PySem.boot_dict | exact boot_dict | decide +kernel) (pa_cons (pv 4) pa_nil)) rfl) (pss_cons (ps_dput (hu_of hr) (pe_dget (hu_of hr) (pv 0) pe_str (fun _ _ => rfl)) (pv 1) (pe_op op_cat (pe_lst (pa_cons (pv 1) pa_nil)) (pv 7)) rfl) (pss_cons (ps_dput (hu_of hr) (pe_dget (hu_of hr) (pv 0) pe_str (fun _ _ => rfl)) (pv 1) (pe_lst pa_nil) rfl) (pss_cons (ps_dput (hu_of hr) (pe_dget (hu_of hr) (pv 0) pe_str (fun _ _ => rfl)) (pv 1) pe_non rfl) (pss_one (ps_if (pt_val ((ok__law_sworn c).call hr (by decide) (g__law_sworn c) (pa_cons (pv 0) (pa_cons (pv 1) pa_nil)))) (pss_one (ps_dput (hu_of hr) (pe_dget (hu_of hr) (pv 0) pe_str (fun _ _ => rfl)) (pv 1) (pv 5) rfl)) pss_nil)))))))))))), ?_⟩
    have wf := hM.wf (Nat.le_trans h10 (by decide))
    have hbl' := (of_woL hbl).2
    refine ⟨_, rfl, bl, rfl, ⟨_, SqL.of hbl'⟩, fun D hD => ?_⟩
    refine lcR (T := tt K) (walk_list (K := K) (a := bl) (xs := sv bs)) bs (by simp [sv]) (Nat.le_trans hb4 (by decide)) (fun G b v => ∃ q, v = .ref q ∧ G q = some (.lst (sv (M.line T.es b)))) (fun l v H1 H2 g ⟨q, e, h⟩ => ⟨q, e, g.lst h⟩) (fun _ => true) hD (fun H' g => g.sqL (SqL.of hbl')) (fun i b x H8 H8' ys hi g8 hy y Kp Ks kp ks => ?_) (fun H8 ys g8 hl8 hys8 => ?_)
    · obtain ⟨rfl, hx⟩ := y
      obtain ⟨b', hb', rfl⟩ := sv_at hx
      rw [hi] at hb'
      cases hb'
      obtain ⟨d, q1, q2⟩ := (hP.here.mono (Gr.wo g8 hD hy)).order
      obtain ⟨a, q3, q4⟩ := q2 b (hbs b (List.mem_of_getElem? hi))
      have gD : Gr (tt K) (wo D H8') H8' := gr_of_wo
      exact ⟨rfl, yesT ⟨_, rfl, p, _, rfl, dget_mono gD q1, _, rfl, d, _, rfl, dget_mono gD q3, kp rfl _ _ (Gr.refl _) ⟨a, rfl, q4⟩⟩⟩
    have hq8 : ∃ qs : List Addr, ys = qs.map V.ref ∧ Paired (fun q l => H8 q = some (.lst (sv l))) qs (bs.map (M.line T.es)) := by
      rw [filter_yes] at hys8
      clear hl8
      generalize bs = ps at hys8
      induction hys8 with
      | nil => exact ⟨[], rfl, .nil⟩
      | cons r _ ih =>
        obtain ⟨q, e, r⟩ := r
        obtain ⟨qs, e2, r3⟩ := ih
        subst e e2
        exact ⟨q :: qs, rfl, .cons r r3⟩
    obtain ⟨qs, rfl, hq8⟩ := hq8
    refine ⟨_, rfl, by show 1 ≤ sizeLine; decide, fun l2 hl2 => ?_⟩
    have gl : Gr (tt K) H8 (upd H8 l2 (.lst [.ref bl])) := Gr.new hl2
    refine ⟨D, l2, _, _, rfl, rfl, gl.lst hl8, upd_same, ?_, fun l3 hl3 => ?_⟩
    · have := prd_len hq8
      simp only [List.length_map] at this
      simp only [List.length_map, List.length_cons, List.length_nil]
      rw [this]
      exact Nat.le_trans (show bs.length + 1 ≤ 5 by omega) (by decide)
    have gl3 := gl.trans (Gr.new (o := .lst (qs.map V.ref ++ [V.ref bl])) hl3)
    have g19 := g8.trans gl3
    have hLL : LLAt K (upd (upd H8 l2 (.lst [.ref bl])) l3 (.lst (qs.map V.ref ++ [V.ref bl]))) l3 (mlists T.es bs) := by
      refine ⟨qs ++ [bl], by rw [upd_same, List.map_append] <;> rfl, ?_⟩
      unfold mlists
      exact prd_snoc (prd_mono hq8 fun q l h => SqL.of (gl3.lst h)) (SqL.of (g19.lst hbl'))
    have hmWB : ∀ x ∈ W ++ B, MutO H x := fun x hx => (List.mem_append.mp hx).elim (fun h => (hP.1 x h).mut) fun h => (hP.2.1 x h).1
    refine ⟨_, rfl, l3, mlists T.es bs, W ++ B, rfl, hLL, ?_, ?_, ?_, fun x hx => (hmWB x hx).gr g19, fun H9 v rr g9 hmg hn hs9 => ?_⟩
    · intro l hl n hn
      unfold mlists at hl
      rcases List.mem_append.mp hl with hl | hl
      · obtain ⟨b, hb, rfl⟩ := List.mem_map.mp hl
        exact (hM.nameOk (hM.facts.sub b n hn)).str
      · rw [List.mem_singleton.mp hl] at hn
        exact (hM.nameOk (hbs n hn)).str
    · simp [mlists]
      omega
    · unfold mlists
      rw [tot_app]
      have t1 : M.tot (bs.map (M.line T.es)) ≤ (bs.map (M.line T.es)).length * 12 := tot_short fun l hl => by
        obtain ⟨b, hb, rfl⟩ := List.mem_map.mp hl
        exact wf.short b
      have t2 : M.tot [bs] = bs.length := by simp [M.tot]
      rw [t2]
      rw [List.length_map] at t1
      omega
    have g20 := g19.trans g9
    clear hLL hq8 hl8 hl3 hl2 hD gl gl3 g19 g9 g8
    obtain ⟨hP9, gW9⟩ := hP.gr g20
    refine ⟨fun σ' H' => ∃ (b2 q : Addr) (bs' m : List Str) (x6 x8 : Option V), σ' = [some (.ref p), some (.str n), some (.ref b2), some (.bl ow), some (.ref sg), some rv, x6, some (.ref q), x8] ∧ Gr (tt K) H H' ∧ woL (W ++ B) H' b2 = some (.lst (sv bs')) ∧ woL (W ++ B) H' q = some (.lst (sv m)) ∧ M.Mg (mlists T.es bs') (some m) ∧ (∀ b ∈ bs', b ∈ M.names T.es) ∧ bs'.Nodup ∧ bs'.length ≤ 3, ?_, ?_⟩
    · refine ⟨_, rfl, rfl, _, rfl, ?_⟩
      cases rr with
      | some m =>
        obtain ⟨q, rfl, hq⟩ := hs9 m rfl
        exact iteF ⟨bl, q, bs, m, _, _, rfl, g20, gW9.lst hbl, hq, hmg, hbs, hbnd, hb4⟩
      | none =>
        obtain rfl := hn rfl
        refine iteT ?_
        cases bs with
        | nil =>
          have : M.Mg (mlists T.es []) (some []) := .done fun l hl => by simpa [mlists] using hl
          have := hmg.unique this
          cases this
        | cons b0 br =>
          have hb0 := hbs b0 List.mem_cons_self
          have hbl9 := g20.lst hbl'
          refine ⟨_, rfl, _, rfl, bl, _, rfl, SqL.of hbl9, fun z hz => ?_⟩
          have hz2 : cutV (sv (b0 :: br)) none (some 1) = sv [b0] := cut_take _ 1
          rw [hz2]
          have gz : Gr (tt K) H9 (upd H9 z (.lst (sv [b0]))) := Gr.new hz
          have hzW : z ∉ W ++ B := not_in (fun x hx => (hmWB x hx).gr g20) hz
          have gzW : Gr (tt K) (woL (W ++ B) H9) (woL (W ++ B) (upd H9 z (.lst (sv [b0])))) := Gr.newW hz hzW
          obtain ⟨d, q1, q2⟩ := (hP9.gr gz).1.orders
          obtain ⟨a', q5, q6⟩ := q2 b0 hb0
          refine ⟨_, rfl, p, _, rfl, q1, _, rfl, bl, _, 0, _, rfl, rfl, SqL.of (gz.lst hbl9), atI_0, d, _, rfl, q5, _, _, rfl, ?_⟩
          exact ⟨z, a', [b0], M.line T.es b0, _, _, rfl, g20.trans gz, by rw [woL_out hzW]; exact upd_same, q6, mg_one hM hb0, fun b hb => by rw [List.mem_singleton.mp hb]; exact hb0, by simp, by show 1 ≤ 3; decide⟩
    clear hs9 hn hmg g20 hP9 gW9
    clear v rr H9
    rintro σ H1 ⟨b2, q, bs', m, x6, x8, rfl, g1, hb2, hq, hmg, hbs', hbnd', hb4'⟩
    obtain ⟨hP1, gW1⟩ := hP.gr g1
    have hsg1 := gW1.dK hsg
    have hru1 := hru.mono gW1
    clear hsg hru hP hbl hbl'
    have hP1' := hP1
    obtain ⟨hm, hB, kvs, n1, b, o, s1, r, d, l, kb, ko, ks, kr, kd, las, O, own⟩ := hP1'
    have hnd := O.nd
    have st1 : Stt H1 (slA n1 b o s1 r d l) (slF (.lst (sv (M.names T.es))) (.dK kb) (.dK ko) (.dK ks) (.dK kr) (.dK kd) (.dK (klOf T.es las))) las T W B := by
      simp only [List.nodup_cons, List.mem_cons, not_or] at hnd
      refine ⟨fun i => ?_, O.pl, fun i j e => ?_, fun i => ?_, hm, fun x hx => (hB x hx).1⟩
      · cases i
        · exact O.hn
        · exact O.hb
        · exact O.ho
        · exact O.hs
        · exact O.hr
        · exact O.hd
        · exact O.hl
      · cases i <;> cases j <;> first | rfl | (exfalso; simp only [slA] at e; simp_all)
      · cases i <;> simp only [slA] <;> simp_all
    have ntF : ∀ {xs : List V} {k1 k2 k3 k4 k5 k6 : List (Key × V)} (i : Sl), NoTbl (slF (.lst xs) (.dK k1) (.dK k2) (.dK k3) (.dK k4) (.dK k5) (.dK k6) i) := fun i => by
      cases i
      · exact nt_lst
      all_goals exact nt_dK
    have inW : ∀ i, slA n1 b o s1 r d l i ∈ W := fun i => by cases i <;> exact own _ (by simp [slA])
    have inWB : ∀ i, slA n1 b o s1 r d l i ∈ W ++ B := fun i => List.mem_append_left _ (inW i)
    have nl : (M.names T.es).length = T.es.length := by simp [M.names]
    have lkb := prd_len O.pb
    have lko := prd_len O.po
    have lks := prd_len O.ps
    have lkr := prd_len O.pr
    have lkd := prd_len O.pd
    have lla : las.length = T.es.length := prd_len O.pl
    have small : ∀ {k : Nat}, k = T.es.length → k < sizeLine := fun e => Nat.lt_of_le_of_lt (show _ ≤ 10 by omega) (by decide)
    obtain ⟨mm, hmg'⟩ : ∃ mm, mm = m := ⟨m, rfl⟩
    generalize hE0 : (⟨n, bs', ow, ms, none, false, n :: m⟩ : En) = E0
    have ok0 : EntOk T.es E0 := by
      subst hE0
      exact ⟨⟨hnew, hbs', m, rfl, hmg⟩, hnok, hbnd', hb4', hmk, fun cl e => (by cases e), fun _ => rfl⟩
    have lenM : [V.str n].length + m.length ≤ sizeLine := by
      obtain ⟨m2, em2, hm2, mnd⟩ := ok0.toLnOk.mem
      have e3 : m2 = m := by
        rw [← hE0] at em2
        injection em2 with _ e
        exact e.symm
      subst e3
      have hle : m2.length ≤ (M.names T.es).length := M.nodup_len mnd fun y hy => by
        rcases (hm2 y).mp hy with h | ⟨b, hb, h⟩
        · exact ok0.par y h
        · exact wf.sub b y h
      show 1 + m2.length ≤ sizeLine
      exact Nat.le_trans (show 1 + m2.length ≤ 11 by omega) (by decide)
    have eL : E0.label = n := by rw [← hE0]
    have g : Gr (tt K) (woL (W ++ B) H1) (woL (W ++ B) H1) := Gr.refl _
    have st := st1
    clear st1
    have hp := O.hp
    have pb := O.pb
    have ps := O.ps
    have pr := O.pr
    have pd := O.pd
    have po := O.po
    have ntL : ∀ {k : Nat}, k = T.es.length → k < sizeLine := small
    refine ⟨_, rfl, p, _, rfl, dget_is (of_woL hp).2 O.pk.n, .inl ⟨rfl, _, SqL.of (st.at_ .n)⟩, _, rfl, n1, _, _, rfl, rfl, st.at_ .n, by rw [sv_len]; exact small nl, ?_⟩
    have stn : Stt (upd H1 n1 (.lst (sv (M.names T.es) ++ [V.str n]))) (slA n1 b o s1 r d l) (slF (.lst (sv (M.names T.es) ++ [V.str n])) (.dK kb) (.dK ko) (.dK ks) (.dK kr) (.dK kd) (.dK (klOf T.es las))) las T W B := by
      have q := st.set .n (u := (.lst (sv (M.names T.es) ++ [V.str n]))) (.inl ⟨_, rfl⟩) nt_lst fun _ _ => code_lst
      rw [slF_set .n] at q
      exact q
    have gs : Gr (tt K) (woL (W ++ B) H1) (woL (W ++ B) (upd H1 n1 (.lst (sv (M.names T.es) ++ [V.str n])))) := by
      rw [woL_upd (show n1 ∈ (W ++ B) from inWB .n)]
      exact Gr.refl _
    replace st := stn
    clear stn
    generalize upd H1 n1 (.lst (sv (M.names T.es) ++ [V.str n])) = H2 at *
    replace g := g.trans gs
    replace hp := gs.dK hp
    replace hb2 := gs.lst hb2
    replace hq := gs.lst hq
    replace hsg1 := gs.dK hsg1
    replace hru1 := hru1.mono gs
    replace pb := pb.mono fun _ _ h => h.mono gs
    replace ps := ps.mono fun _ _ h => h.mono gs
    replace pr := pr.mono fun _ _ h => h.mono gs
    replace pd := pd.mono fun _ _ h => h.mono gs
    clear gs
    refine ⟨_, rfl, b2, _, rfl, .inl (SqL.of (of_woL hb2).2), fun la hla => ?_⟩
    have laW : la ∉ (W ++ B) := st.out hla
    have gn : Gr (tt K) H2 (upd H2 la (.lst (sv bs'))) := Gr.new hla
    have gs : Gr (tt K) (woL (W ++ B) H2) (woL (W ++ B) (upd H2 la (.lst (sv bs')))) := Gr.newW hla laW
    have laA : woL (W ++ B) (upd H2 la (.lst (sv bs'))) la = some (.lst (sv bs')) := by rw [woL_out laW, upd_same]
    replace st := st.gr ntF gn
    generalize upd H2 la (.lst (sv bs')) = H3 at *
    replace g := g.trans gs
    replace hp := gs.dK hp
    replace hb2 := gs.lst hb2
    replace hq := gs.lst hq
    replace hsg1 := gs.dK hsg1
    replace hru1 := hru1.mono gs
    replace pb := pb.mono fun _ _ h => h.mono gs
    replace ps := ps.mono fun _ _ h => h.mono gs
    replace pr := pr.mono fun _ _ h => h.mono gs
    replace pd := pd.mono fun _ _ h => h.mono gs
    clear gs gn
    refine ⟨_, rfl, p, _, rfl, dget_is (of_woL hp).2 O.pk.b, _, rfl, b, _, rfl, DPut.k (k := .inr n) (st.at_ .b) ?_, ?_⟩
    · exact small lkb
    rw [pb.put hnew]
    have stn : Stt (upd H3 b (.dK (kb ++ [(.inr n, V.ref la)]))) (slA n1 b o s1 r d l) (slF (.lst (sv (M.names T.es) ++ [V.str n])) (.dK (kb ++ [(.inr n, V.ref la)])) (.dK ko) (.dK ks) (.dK kr) (.dK kd) (.dK (klOf T.es las))) las T W B := by
      have q := st.set .b (u := (.dK (kb ++ [(.inr n, V.ref la)]))) (.inr ⟨_, rfl⟩) nt_dK fun _ _ => code_dK
      rw [slF_set .b] at q
      exact q
    have gs : Gr (tt K) (woL (W ++ B) H3) (woL (W ++ B) (upd H3 b (.dK (kb ++ [(.inr n, V.ref la)])))) := by
      rw [woL_upd (show b ∈ (W ++ B) from inWB .b)]
      exact Gr.refl _
    replace st := stn
    clear stn
    generalize upd H3 b (.dK (kb ++ [(.inr n, V.ref la)])) = H4 at *
    replace g := g.trans gs
    replace hp := gs.dK hp
    replace hb2 := gs.lst hb2
    replace hq := gs.lst hq
    replace hsg1 := gs.dK hsg1
    replace hru1 := hru1.mono gs
    replace pb := pb.mono fun _ _ h => h.mono gs
    replace ps := ps.mono fun _ _ h => h.mono gs
    replace pr := pr.mono fun _ _ h => h.mono gs
    replace pd := pd.mono fun _ _ h => h.mono gs
    replace laA := gs.lst laA
    clear gs
    refine ⟨_, rfl, _, rfl, p, _, rfl, dget_is (of_woL hp).2 O.pk.o, _, rfl, o, _, rfl, DPut.k (k := .inr n) (st.at_ .o) ?_, ?_⟩
    · exact small lko
    rw [po.put hnew]
    have stn : Stt (upd H4 o (.dK (ko ++ [(.inr n, V.bl ow)]))) (slA n1 b o s1 r d l) (slF (.lst (sv (M.names T.es) ++ [V.str n])) (.dK (kb ++ [(.inr n, V.ref la)])) (.dK (ko ++ [(.inr n, V.bl ow)])) (.dK ks) (.dK kr) (.dK kd) (.dK (klOf T.es las))) las T W B := by
      have q := st.set .o (u := (.dK (ko ++ [(.inr n, V.bl ow)]))) (.inr ⟨_, rfl⟩) nt_dK fun _ _ => code_dK
      rw [slF_set .o] at q
      exact q
    have gs : Gr (tt K) (woL (W ++ B) H4) (woL (W ++ B) (upd H4 o (.dK (ko ++ [(.inr n, V.bl ow)])))) := by
      rw [woL_upd (show o ∈ (W ++ B) from inWB .o)]
      exact Gr.refl _
    replace st := stn
    clear stn
    generalize upd H4 o (.dK (ko ++ [(.inr n, V.bl ow)])) = H5 at *
    replace g := g.trans gs
    replace hp := gs.dK hp
    replace hb2 := gs.lst hb2
    replace hq := gs.lst hq
    replace hsg1 := gs.dK hsg1
    replace hru1 := hru1.mono gs
    replace pb := pb.mono fun _ _ h => h.mono gs
    replace ps := ps.mono fun _ _ h => h.mono gs
    replace pr := pr.mono fun _ _ h => h.mono gs
    replace pd := pd.mono fun _ _ h => h.mono gs
    replace laA := gs.lst laA
    clear gs
    refine ⟨_, rfl, sg, _, rfl, .inl (of_woL hsg1).2, fun sg2 hsg2 => ?_⟩
    have sg2W : sg2 ∉ (W ++ B) := st.out hsg2
    have gn : Gr (tt K) H5 (upd H5 sg2 (.dK (marksKV ms))) := Gr.new hsg2
    have gs : Gr (tt K) (woL (W ++ B) H5) (woL (W ++ B) (upd H5 sg2 (.dK (marksKV ms)))) := Gr.newW hsg2 sg2W
    have sg2A : woL (W ++ B) (upd H5 sg2 (.dK (marksKV ms))) sg2 = some (.dK (marksKV ms)) := by rw [woL_out sg2W, upd_same]
    replace st := st.gr ntF gn
    generalize upd H5 sg2 (.dK (marksKV ms)) = H6 at *
    replace g := g.trans gs
    replace hp := gs.dK hp
    replace hb2 := gs.lst hb2
    replace hq := gs.lst hq
    replace hsg1 := gs.dK hsg1
    replace hru1 := hru1.mono gs
    replace pb := pb.mono fun _ _ h => h.mono gs
    replace ps := ps.mono fun _ _ h => h.mono gs
    replace pr := pr.mono fun _ _ h => h.mono gs
    replace pd := pd.mono fun _ _ h => h.mono gs
    replace laA := gs.lst laA
    clear gs gn
    refine ⟨_, rfl, p, _, rfl, dget_is (of_woL hp).2 O.pk.s, _, rfl, s1, _, rfl, DPut.k (k := .inr n) (st.at_ .s) ?_, ?_⟩
    · exact small lks
    rw [ps.put hnew]
    have stn : Stt (upd H6 s1 (.dK (ks ++ [(.inr n, V.ref sg2)]))) (slA n1 b o s1 r d l) (slF (.lst (sv (M.names T.es) ++ [V.str n])) (.dK (kb ++ [(.inr n, V.ref la)])) (.dK (ko ++ [(.inr n, V.bl ow)])) (.dK (ks ++ [(.inr n, V.ref sg2)])) (.dK kr) (.dK kd) (.dK (klOf T.es las))) las T W B := by
      have q := st.set .s (u := (.dK (ks ++ [(.inr n, V.ref sg2)]))) (.inr ⟨_, rfl⟩) nt_dK fun _ _ => code_dK
      rw [slF_set .s] at q
      exact q
    have gs : Gr (tt K) (woL (W ++ B) H6) (woL (W ++ B) (upd H6 s1 (.dK (ks ++ [(.inr n, V.ref sg2)])))) := by
      rw [woL_upd (show s1 ∈ (W ++ B) from inWB .s)]
      exact Gr.refl _
    replace st := stn
    clear stn
    generalize upd H6 s1 (.dK (ks ++ [(.inr n, V.ref sg2)])) = H7 at *
    replace g := g.trans gs
    replace hp := gs.dK hp
    replace hb2 := gs.lst hb2
    replace hq := gs.lst hq
    replace hsg1 := gs.dK hsg1
    replace hru1 := hru1.mono gs
    replace pb := pb.mono fun _ _ h => h.mono gs
    replace ps := ps.mono fun _ _ h => h.mono gs
    replace pr := pr.mono fun _ _ h => h.mono gs
    replace pd := pd.mono fun _ _ h => h.mono gs
    replace laA := gs.lst laA
    replace sg2A := gs.dK sg2A
    clear gs
    refine ⟨_, rfl, by show 1 ≤ sizeLine; decide, fun t1 ht1 => ?_⟩
    have t1W : t1 ∉ (W ++ B) := st.out ht1
    have gn : Gr (tt K) H7 (upd H7 t1 (.lst [V.str n])) := Gr.new ht1
    have gs : Gr (tt K) (woL (W ++ B) H7) (woL (W ++ B) (upd H7 t1 (.lst [V.str n]))) := Gr.newW ht1 t1W
    have t1A : woL (W ++ B) (upd H7 t1 (.lst [V.str n])) t1 = some (.lst [V.str n]) := by rw [woL_out t1W, upd_same]
    replace st := st.gr ntF gn
    generalize upd H7 t1 (.lst [V.str n]) = H8 at *
    replace g := g.trans gs
    replace hp := gs.dK hp
    replace hb2 := gs.lst hb2
    replace hq := gs.lst hq
    replace hsg1 := gs.dK hsg1
    replace hru1 := hru1.mono gs
    replace pb := pb.mono fun _ _ h => h.mono gs
    replace ps := ps.mono fun _ _ h => h.mono gs
    replace pr := pr.mono fun _ _ h => h.mono gs
    replace pd := pd.mono fun _ _ h => h.mono gs
    replace laA := gs.lst laA
    replace sg2A := gs.dK sg2A
    clear gs gn
    refine ⟨_, rfl, t1, q, _, _, rfl, rfl, (of_woL t1A).2, (of_woL hq).2, ?_, fun od hod => ?_⟩
    · rw [sv_len]
      exact lenM
    have odW : od ∉ (W ++ B) := st.out hod
    have gn : Gr (tt K) H8 (upd H8 od (.lst ([V.str n] ++ sv m))) := Gr.new hod
    have gs : Gr (tt K) (woL (W ++ B) H8) (woL (W ++ B) (upd H8 od (.lst ([V.str n] ++ sv m)))) := Gr.newW hod odW
    have odA : woL (W ++ B) (upd H8 od (.lst ([V.str n] ++ sv m))) od = some (.lst ([V.str n] ++ sv m)) := by rw [woL_out odW, upd_same]
    replace st := st.gr ntF gn
    generalize upd H8 od (.lst ([V.str n] ++ sv m)) = H9 at *
    replace g := g.trans gs
    replace hp := gs.dK hp
    replace hb2 := gs.lst hb2
    replace hq := gs.lst hq
    replace hsg1 := gs.dK hsg1
    replace hru1 := hru1.mono gs
    replace pb := pb.mono fun _ _ h => h.mono gs
    replace ps := ps.mono fun _ _ h => h.mono gs
    replace pr := pr.mono fun _ _ h => h.mono gs
    replace pd := pd.mono fun _ _ h => h.mono gs
    replace laA := gs.lst laA
    replace sg2A := gs.dK sg2A
    replace t1A := gs.lst t1A
    clear gs gn
    refine ⟨_, rfl, p, _, rfl, dget_is (of_woL hp).2 O.pk.d, _, rfl, d, _, rfl, DPut.k (k := .inr n) (st.at_ .d) ?_, ?_⟩
    · exact small lkd
    rw [pd.put hnew]
    have stn : Stt (upd H9 d (.dK (kd ++ [(.inr n, V.ref od)]))) (slA n1 b o s1 r d l) (slF (.lst (sv (M.names T.es) ++ [V.str n])) (.dK (kb ++ [(.inr n, V.ref la)])) (.dK (ko ++ [(.inr n, V.bl ow)])) (.dK (ks ++ [(.inr n, V.ref sg2)])) (.dK kr) (.dK (kd ++ [(.inr n, V.ref od)])) (.dK (klOf T.es las))) las T W B := by
      have q := st.set .d (u := (.dK (kd ++ [(.inr n, V.ref od)]))) (.inr ⟨_, rfl⟩) nt_dK fun _ _ => code_dK
      rw [slF_set .d] at q
      exact q
    have gs : Gr (tt K) (woL (W ++ B) H9) (woL (W ++ B) (upd H9 d (.dK (kd ++ [(.inr n, V.ref od)])))) := by
      rw [woL_upd (show d ∈ (W ++ B) from inWB .d)]
      exact Gr.refl _
    replace st := stn
    clear stn
    generalize upd H9 d (.dK (kd ++ [(.inr n, V.ref od)])) = H10 at *
    replace g := g.trans gs
    replace hp := gs.dK hp
    replace hb2 := gs.lst hb2
    replace hq := gs.lst hq
    replace hsg1 := gs.dK hsg1
    replace hru1 := hru1.mono gs
    replace pb := pb.mono fun _ _ h => h.mono gs
    replace ps := ps.mono fun _ _ h => h.mono gs
    replace pr := pr.mono fun _ _ h => h.mono gs
    replace pd := pd.mono fun _ _ h => h.mono gs
    replace laA := gs.lst laA
    replace sg2A := gs.dK sg2A
    replace t1A := gs.lst t1A
    replace odA := gs.lst odA
    clear gs
    refine ⟨by show 0 ≤ sizeLine; decide, fun rl hrl => ?_⟩
    have rlW : rl ∉ W ++ B := st.out hrl
    have gn : Gr (tt K) H10 (upd H10 rl (.lst [])) := Gr.new hrl
    have gs : Gr (tt K) (woL (W ++ B) H10) (woL (rl :: W ++ B) (upd H10 rl (.lst []))) := by
      show Gr (tt K) (woL (W ++ B) H10) (woL (rl :: (W ++ B)) (upd H10 rl (.lst [])))
      rw [woL_grow hrl]
      exact Gr.refl _
    have stn : Stt (upd H10 rl (.lst [])) (slA n1 b o s1 r d l) (slF (.lst (sv (M.names T.es) ++ [V.str n])) (.dK (kb ++ [(.inr n, V.ref la)])) (.dK (ko ++ [(.inr n, V.bl ow)])) (.dK (ks ++ [(.inr n, V.ref sg2)])) (.dK kr) (.dK (kd ++ [(.inr n, V.ref od)])) (.dK (klOf T.es las))) (las ++ [rl]) ⟨T.es ++ [E0], T.rg⟩ (rl :: W) B := by
      have q := st.gr ntF gn
      refine ⟨q.at_, prd_snoc q.pl ?_, q.inj, fun i z => ?_, fun x hx => ?_, q.mB⟩
      · rw [upd_same]
        show some (HO.lst []) = some (HO.lst (sv (T.rg E0.label)))
        rw [eL, hrg] <;> rfl
      · rcases List.mem_append.mp z with z | z
        · exact q.dis i z
        · have e := st.at_ i
          rw [List.mem_singleton.mp z, hrl] at e
          cases e
      · rcases List.mem_cons.mp hx with rfl | hx
        · exact .inl ⟨_, upd_same⟩
        · exact q.mW x hx
    replace st := stn
    clear stn
    have rlA : upd H10 rl (.lst []) rl = some (.lst []) := upd_same
    generalize upd H10 rl (.lst []) = H11 at *
    have g' : Gr (tt K) (woL (W ++ B) H1) (woL (rl :: W ++ B) H11) := g.trans gs
    clear g
    have g := g'
    clear g'
    replace hp := gs.dK hp
    replace hb2 := gs.lst hb2
    replace hq := gs.lst hq
    replace hsg1 := gs.dK hsg1
    replace hru1 := hru1.mono gs
    replace pb := pb.mono fun _ _ h => h.mono gs
    replace ps := ps.mono fun _ _ h => h.mono gs
    replace pr := pr.mono fun _ _ h => h.mono gs
    replace pd := pd.mono fun _ _ h => h.mono gs
    replace laA := gs.lst laA
    replace sg2A := gs.dK sg2A
    replace t1A := gs.lst t1A
    replace odA := gs.lst odA
    clear gs gn
    refine ⟨_, rfl, p, _, rfl, dget_is (of_woL hp).2 O.pk.l, _, rfl, l, _, rfl, DPut.k (k := .inr n) (st.at_ .l) ?_, ?_⟩
    · rw [klOf_len lla]
      exact small rfl
    rw [show (Sum.inr n : Key) = .inr E0.label by rw [eL], klOf_put E0 rl lla (by rw [eL]; exact hnew)]
    have stn : Stt (upd H11 l (.dK (klOf (T.es ++ [E0]) (las ++ [rl])))) (slA n1 b o s1 r d l) (slF (.lst (sv (M.names T.es) ++ [V.str n])) (.dK (kb ++ [(.inr n, V.ref la)])) (.dK (ko ++ [(.inr n, V.bl ow)])) (.dK (ks ++ [(.inr n, V.ref sg2)])) (.dK kr) (.dK (kd ++ [(.inr n, V.ref od)])) (.dK (klOf (T.es ++ [E0]) (las ++ [rl])))) (las ++ [rl]) ⟨T.es ++ [E0], T.rg⟩ (rl :: W) B := by
      have q := st.set .l (u := (.dK (klOf (T.es ++ [E0]) (las ++ [rl])))) (.inr ⟨_, rfl⟩) nt_dK fun _ _ => code_dK
      rw [slF_set .l] at q
      exact q
    have gs : Gr (tt K) (woL (rl :: W ++ B) H11) (woL (rl :: W ++ B) (upd H11 l (.dK (klOf (T.es ++ [E0]) (las ++ [rl]))))) := by
      rw [woL_upd (show l ∈ (rl :: W ++ B) from List.mem_cons_of_mem _ (inWB .l))]
      exact Gr.refl _
    replace st := stn
    clear stn
    generalize upd H11 l (.dK (klOf (T.es ++ [E0]) (las ++ [rl]))) = H12 at *
    replace g := g.trans gs
    replace hp := gs.dK hp
    replace hb2 := gs.lst hb2
    replace hq := gs.lst hq
    replace hsg1 := gs.dK hsg1
    replace hru1 := hru1.mono gs
    replace pb := pb.mono fun _ _ h => h.mono gs
    replace ps := ps.mono fun _ _ h => h.mono gs
    replace pr := pr.mono fun _ _ h => h.mono gs
    replace pd := pd.mono fun _ _ h => h.mono gs
    replace laA := gs.lst laA
    replace sg2A := gs.dK sg2A
    replace t1A := gs.lst t1A
    replace odA := gs.lst odA
    clear gs
    refine ⟨_, rfl, p, _, rfl, dget_is (of_woL hp).2 O.pk.r, _, rfl, r, _, rfl, DPut.k (k := .inr n) (st.at_ .r) ?_, ?_⟩
    · exact small lkr
    rw [pr.put hnew]
    have stn : Stt (upd H12 r (.dK (kr ++ [(.inr n, V.non)]))) (slA n1 b o s1 r d l) (slF (.lst (sv (M.names T.es) ++ [V.str n])) (.dK (kb ++ [(.inr n, V.ref la)])) (.dK (ko ++ [(.inr n, V.bl ow)])) (.dK (ks ++ [(.inr n, V.ref sg2)])) (.dK (kr ++ [(.inr n, V.non)])) (.dK (kd ++ [(.inr n, V.ref od)])) (.dK (klOf (T.es ++ [E0]) (las ++ [rl])))) (las ++ [rl]) ⟨T.es ++ [E0], T.rg⟩ (rl :: W) B := by
      have q := st.set .r (u := (.dK (kr ++ [(.inr n, V.non)]))) (.inr ⟨_, rfl⟩) nt_dK fun _ _ => code_dK
      rw [slF_set .r] at q
      exact q
    have gs : Gr (tt K) (woL (rl :: W ++ B) H12) (woL (rl :: W ++ B) (upd H12 r (.dK (kr ++ [(.inr n, V.non)])))) := by
      rw [woL_upd (show r ∈ (rl :: W ++ B) from List.mem_cons_of_mem _ (inWB .r))]
      exact Gr.refl _
    replace st := stn
    clear stn
    generalize upd H12 r (.dK (kr ++ [(.inr n, V.non)])) = H13 at *
    replace g := g.trans gs
    replace hp := gs.dK hp
    replace hb2 := gs.lst hb2
    replace hq := gs.lst hq
    replace hsg1 := gs.dK hsg1
    replace hru1 := hru1.mono gs
    replace pb := pb.mono fun _ _ h => h.mono gs
    replace ps := ps.mono fun _ _ h => h.mono gs
    replace pr := pr.mono fun _ _ h => h.mono gs
    replace pd := pd.mono fun _ _ h => h.mono gs
    replace laA := gs.lst laA
    replace sg2A := gs.dK sg2A
    replace t1A := gs.lst t1A
    replace odA := gs.lst odA
    clear gs
    have mk : ∀ (Hi : Hp) (E : En) (krx : List (Key × V)), E.label = n → E.parents = bs' → E.own = ow → E.marks = ms → E.line = n :: m → Gr (tt K) (woL (rl :: W ++ B) H13) (woL (rl :: W ++ B) Hi) →
        Stt Hi (slA n1 b o s1 r d l) (slF (.lst (sv (M.names T.es) ++ [V.str n])) (.dK (kb ++ [(.inr n, V.ref la)])) (.dK (ko ++ [(.inr n, V.bl ow)])) (.dK (ks ++ [(.inr n, V.ref sg2)])) (.dK krx) (.dK (kd ++ [(.inr n, V.ref od)])) (.dK (klOf (T.es ++ [E0]) (las ++ [rl])))) (las ++ [rl]) ⟨T.es ++ [E0], T.rg⟩ (rl :: W) B →
        Dic (fun E v => RuleAt (woL (rl :: W ++ B) Hi) v E) krx (T.es ++ [E]) → PlO Hi B (rl :: W) p ⟨T.es ++ [E], T.rg⟩ := by
      intro Hi E krx e1 e2 e3 e4 e5 gi sti pri
      have eE : E.label = E0.label := by rw [e1, eL]
      refine ⟨sti.mW, fun x hx => ⟨sti.mB x hx, fun z => ?_⟩, kvs, n1, b, o, s1, r, d, l, _, _, _, krx, _, las ++ [rl], ⟨gi.dK hp, O.pk, ?_, sti.at_ .b, ?_, sti.at_ .o, ?_, sti.at_ .s, ?_, sti.at_ .r, pri, sti.at_ .d, ?_, ?_, pl_swap eE sti.pl, ?_⟩, ?_⟩
      · rcases List.mem_cons.mp z with z | z
        · exact rlW (by rw [← z]; exact List.mem_append_right _ hx)
        · exact (hB x hx).2 z
      · have := sti.at_ .n
        show Hi n1 = _
        rw [M.names_snoc, e1]
        unfold sv
        rw [List.map_append]
        exact this
      · rw [← e1]
        refine Dic.snoc (pb.mono fun _ _ h => h.mono gi) ?_
        rw [e2]
        exact ⟨la, rfl, gi.lst laA⟩
      · rw [← e1]
        exact Dic.snoc po (by rw [e3])
      · rw [← e1]
        refine Dic.snoc (ps.mono fun _ _ h => h.mono gi) ?_
        rw [e4]
        exact ⟨sg2, rfl, gi.dK sg2A⟩
      · rw [← e1]
        refine Dic.snoc (pd.mono fun _ _ h => h.mono gi) ?_
        rw [e5]
        exact ⟨od, rfl, gi.lst odA⟩
      · have := sti.at_ .l
        show Hi l = _
        rw [klOf_snoc E rl lla, eE, ← klOf_snoc E0 rl lla]
        exact this
      · have e0 : n1 :: b :: o :: s1 :: r :: d :: l :: (las ++ [rl]) = (n1 :: b :: o :: s1 :: r :: d :: l :: las) ++ [rl] := rfl
        rw [e0]
        exact List.nodup_append.mpr ⟨hnd, by simp, fun x hx y hy z => rlW (by rw [← List.mem_singleton.mp hy, ← z]; exact List.mem_append_left _ (own x hx))⟩
      · intro x hx
        have e0 : n1 :: b :: o :: s1 :: r :: d :: l :: (las ++ [rl]) = (n1 :: b :: o :: s1 :: r :: d :: l :: las) ++ [rl] := rfl
        rw [e0] at hx
        rcases List.mem_append.mp hx with hx | hx
        · exact List.mem_cons_of_mem _ (own x hx)
        · rw [List.mem_singleton.mp hx]
          exact List.mem_cons_self
    have rl0 : ∀ (Hi : Hp), Gr (tt K) (woL (rl :: W ++ B) H13) (woL (rl :: W ++ B) Hi) → Dic (fun E v => RuleAt (woL (rl :: W ++ B) Hi) v E) (kr ++ [(.inr n, V.non)]) (T.es ++ [E0]) := fun Hi gi => by
      rw [← eL]
      exact Dic.snoc (pr.mono fun _ _ h => h.mono gi) (.inl ⟨by rw [← hE0], rfl⟩)
    have hM0 : Mades (T.es ++ [E0]) := .snoc hM ok0
    have hz0 : (T.es ++ [E0]).length ≤ 12 := by
      rw [List.length_append]
      show T.es.length + 1 ≤ 12
      omega
    have hP13 := mk H13 E0 _ eL (by rw [← hE0]) (by rw [← hE0]) (by rw [← hE0]) (by rw [← hE0]) (Gr.refl _) st (rl0 H13 (Gr.refl _))
    refine ⟨_, rfl, _, rfl, p, ⟨T.es ++ [E0], T.rg⟩, n, rfl, hP13.here, hM0.wf hz0, M.mem_names_snoc.mpr (.inr eL.symm), fun H14 g14 => ⟨_, rfl, ?_⟩⟩
    obtain ⟨hP14, gi14⟩ := hP13.gr g14
    have gall := (gW1.trans g).trans gi14
    cases hsw : M.sworn (T.es ++ [E0]) n with
    | false => exact iteF (k H14 (rl :: W) E0 eL ok0 (.inl (by rw [← hE0])) gall hP14)
    | true =>
      refine iteT ?_
      have st14 := st.gr ntF g14
      refine ⟨_, rfl, _, rfl, p, _, rfl, dget_is (of_woL (gi14.dK hp)).2 O.pk.r, _, rfl, r, _, rfl, DPut.k (k := .inr n) (st14.at_ .r) ?_, ?_⟩
      · rw [List.length_append]
        exact Nat.lt_of_le_of_lt (show kr.length + 1 ≤ 11 by omega) (by decide)
      rw [putK_last (val_none (fun _ _ r => r.1) pr hnew)]
      have st15 : Stt (upd H14 r (.dK (kr ++ [(.inr n, rv)]))) (slA n1 b o s1 r d l) (slF (.lst (sv (M.names T.es) ++ [V.str n])) (.dK (kb ++ [(.inr n, V.ref la)])) (.dK (ko ++ [(.inr n, V.bl ow)])) (.dK (ks ++ [(.inr n, V.ref sg2)])) (.dK (kr ++ [(.inr n, rv)])) (.dK (kd ++ [(.inr n, V.ref od)])) (.dK (klOf (T.es ++ [E0]) (las ++ [rl])))) (las ++ [rl]) ⟨T.es ++ [E0], T.rg⟩ (rl :: W) B := by
        have q := st14.set .r (u := .dK (kr ++ [(.inr n, rv)])) (.inr ⟨_, rfl⟩) nt_dK (fun _ _ => code_dK)
        rw [slF_set .r] at q
        exact q
      have gi15 : Gr (tt K) (woL (rl :: W ++ B) H14) (woL (rl :: W ++ B) (upd H14 r (.dK (kr ++ [(.inr n, rv)])))) := by
        rw [woL_upd (show r ∈ rl :: W ++ B from List.mem_cons_of_mem _ (inWB .r))]
        exact Gr.refl _
      have gia := gi14.trans gi15
      have hru15 := hru1.mono gia
      generalize upd H14 r (.dK (kr ++ [(.inr n, rv)])) = H15 at *
      cases ru with
      | none =>
        have hv : rv = .non := hru15
        subst hv
        exact k H15 (rl :: W) E0 eL ok0 (.inl (by rw [← hE0])) (gall.trans gi15) (mk H15 E0 _ eL (by rw [← hE0]) (by rw [← hE0]) (by rw [← hE0]) (by rw [← hE0]) gia st15 (rl0 H15 gia))
      | some q =>
        obtain ⟨cl, pd'⟩ := q
        obtain ⟨a, ha, rfl, h1, h2⟩ := hru15
        have hsw2 := (M.sworn_new hM.facts ok0.toLnOk).mp (by rw [eL]; exact hsw)
        rw [← hE0] at hsw2
        refine k H15 (rl :: W) ⟨n, bs', ow, ms, some cl, pd', n :: m⟩ rfl ⟨⟨hnew, hbs', m, rfl, hmg⟩, hnok, hbnd', hb4', hmk, fun cl' e => ?_, fun e => (by cases e)⟩ (.inr ⟨cl, rfl, rfl⟩) (gall.trans gi15) (mk H15 _ _ rfl rfl rfl rfl rfl gia st15 ?_)
        · cases e
          exact ⟨hruo _ _ rfl, hsw2⟩
        · exact Dic.snoc (E := ⟨n, bs', ow, ms, some cl, pd', n :: m⟩) (pr.mono fun _ _ h => h.mono gia) (.inr ⟨a, ha, cl, rfl, h1, rfl, h2⟩)
end
end SW


set_option maxHeartbeats 2000000
namespace SW
open PySem PySem.Spec PyProof.Rows L2 He LamX NdefX
open SW.M (Ent Tb Oc)
/-! ## drawn hooks and classes -/
def RuleOk (L : List Str) (ru : Option (List (List Str × Bool) × Bool)) : Prop := ∀ cl pd, ru = some (cl, pd) → HookOk cl ∧ cl.length ≤ 4 ∧ ∀ c ∈ cl, c.1.length ≤ 5 ∧ ∀ m ∈ c.1, m ∈ L
section
variable {H H' : Hp} {b : Addr} {N : Nat}
theorem BagAt.frame (hb : BagAt H b N) : ∀ x ∈ [b], MutO H x := fun x hx => by
  rw [List.mem_singleton.mp hx]
  exact hb.mut
theorem BagAt.gr {B : Tbs} (hb : BagAt H b N) (g : Gr B H H') : BagAt H' b N ∧ Gr B (woL [b] H) (woL [b] H') :=
  ⟨hb.mono g (Nat.le_refl _), g.woL fun x hx => (hb.frame x hx).gr g⟩
end
section
variable {P : Program} {w : World} {K : PySem.W.Frag} {mg : Str → Option Value} {base : Heap}
def spNRule (K : PySem.W.Frag) : Sp := fun vs H Q _ => ∃ (b ml : Addr) (N : Nat) (L : List Str), vs = [.ref b, .ref ml] ∧ BagAt H b N ∧ N ≤ 900000 ∧ woL [b] H ml = some (.lst (sv L)) ∧ (∀ m ∈ L, NameOk m) ∧ L.Nodup ∧ L.length ≤ 5 ∧
  ∀ H' v ru, Gr (tt K) (woL [b] H) (woL [b] H') → BagAt H' b (N + 40) → RuV (woL [b] H') v ru → RuleOk L ru → Q v H'
theorem sc__law_new_rule : FnScope ["_law_bag_here", "_law_methods_here", "_law_found", "_law_turn", "_law_wanted", "_law_method"] ["_law_bag_here", "_law_methods_here"] (defScope s__law_new_rule) := ⟨rfl, rfl, rfl, by decide +kernel, rfl, by decide +kernel, by decide +kernel⟩
theorem ok__law_new_rule (c : Tx K mg base) : Ok P w K mg base 2 (ga K "_law_new_rule") ["_law_bag_here", "_law_methods_here"] (spNRule K) := by
  refine Ok.mk' (fd__law_new_rule c) sc__law_new_rule (fun _ _ _ _ _ _ us hl => match us, hl with | [_, _], _ => rfl) (fun vs H Q E h => ?_) (fun cdv A outer s H vs Q E hr h => ?_)
  · obtain ⟨b, ml, N, L, rfl, _⟩ := h
    rfl
  · obtain ⟨b, ml, N, L, rfl, hb, hN, hml, hnm, hnd, h5, k⟩ := h
    refine ⟨_, (pss_cons (ps_if (pt_cmpR op_lt ((ok__law_take c).call hr (by decide) (g__law_take c) (pa_cons (pv 0) (pa_cons pe_int pa_nil))) pe_int (nomark _)) (pss_one (ps_ret pe_non)) pss_nil) (pss_cons (ps_set (i := 2) sc__law_new_rule.nd rfl (Or.inl rfl) (pe_lst pa_nil)) (pss_cons (ps_for PassesOwn.never rfl (pi_range1 rfl (n_range c) (pa_cons (pe_op op_add pe_int ((ok__law_take c).call hr (by decide) (g__law_take c) (pa_cons (pv 0) (pa_cons pe_int pa_nil)))) pa_nil)) (pg_name (i := 3) sc__law_new_rule.nd rfl (Or.inl rfl)) (pss_cons (ps_set (i := 4) sc__law_new_rule.nd rfl (Or.inl rfl) (pe_callTy (tupK K rfl) (by rfl) (n_tuple c) (by first | exact PySem.boot_tuple | exact boot_tuple | decide +kernel) (pa_cons (pe_slice (slLK K rfl) (pe_lc (own := [("_law_method", 5)]) (g := (gName 5)) rfl sc__law_new_rule.nd (piL K rfl (pv 1)) (blkOk_by (N := ["_law_bag_here", "_law_methods_here", "_law_found", "_law_turn", "_law_wanted", "_law_method"]) (sc := defScope s__law_new_rule) (by decide +kernel)) (fun _ _ _ _ _ => (pg_name (i := 5) sc__law_new_rule.nd rfl (by first | exact Or.inl rfl | exact Or.inr rfl))) (fun _ _ _ _ _ => by exact (pts_one (pt_cmpR op_eq ((ok__law_take c).call hr (by decide) (g__law_take c) (pa_cons (pv 0) (pa_cons pe_int pa_nil))) pe_int (nomark _)))) (fun _ _ _ _ _ => by exact (pv 5))) po_none (po_some pe_int)) pa_nil))) (pss_one (ps_expr (pe_bm PySem.F.plainAttrs_list PySem.F.slot_list_append PySem.F.type_list_append mt_append (pv 2) (pa_cons (pe_tup (pa_cons (pv 4) (pa_cons (pe_cmpR op_eq ((ok__law_take c).call hr (by decide) (g__law_take c) (pa_cons (pv 0) (pa_cons pe_int pa_nil))) pe_int (nomark _)) pa_nil))) pa_nil)))))) (pss_one (ps_ret (pe_tup (pa_cons (pe_callTy (tupK K rfl) (by rfl) (n_tuple c) (by first | exact PySem.boot_tuple | exact boot_tuple | decide +kernel) (pa_cons (pv 2) pa_nil)) (pa_cons (pe_cmpR op_eq ((ok__law_take c).call hr (by decide) (g__law_take c) (pa_cons (pv 0) (pa_cons pe_int pa_nil))) pe_int (nomark _)) pa_nil)))))))), ?_⟩
    refine ⟨_, rfl, b, 5, N, rfl, hb, by omega, by decide, by decide, fun H1 r1 hr1 g1 hb1 => ⟨_, _, rfl, rfl, _, rfl, ?_⟩⟩
    by_cases h2 : (r1 : Int) < 2
    · rw [decide_eq_true h2]
      exact iteT (k H1 .non none g1 (hb1.mono (Gr.refl (T := tt K) _) (by omega)) rfl fun cl pd e => by cases e)
    rw [decide_eq_false h2]
    refine iteF ⟨by show 0 ≤ sizeLine; decide, fun f hf => ?_⟩
    have hbf : b ≠ f := mut_ne hb1.mut hf
    have hfW : f ∉ [b] := by simp [hbf.symm]
    have gf : Gr (tt K) (woL [b] H) (woL [b] (upd H1 f (.lst []))) := g1.trans (Gr.newW hf hfW)
    have hff : upd H1 f (.lst []) f = some (.lst []) := upd_same
    have hbB := hb1.gr (B := tt K) (Gr.new (o := .lst []) hf)
    have hb2 := hbB.1
    have hfr : ∀ v, woL [b] H f = some v → ¬ NoTbl v := g1.fresh (by rw [woL_out hfW]; exact hf)
    generalize upd H1 f (.lst []) = H2 at *
    refine ⟨_, rfl, b, 3, N + 1, rfl, hb2, by omega, by decide, by decide, fun H3 r3 hr3 g3 hb3 => ⟨_, _, rfl, rfl, 1 + (r3 : Int), rfl, by omega, by omega, ?_⟩⟩
    have hf3 : woL [b] H3 f = some (.lst []) := g3.lst (by rw [woL_out hfW]; exact hff)
    have gH3 := gf.trans g3
    have hn3 : (1 + (r3 : Int)).toNat ≤ 3 := by omega
    have hn1 : 1 ≤ (1 + (r3 : Int)).toNat := by omega
    generalize (1 + (r3 : Int)).toNat = nn at hn3 hn1 ⊢
    refine for_range (n := nn) (fun i σ H' => Gr (tt K) (woL [b] H) (woL [b] H') ∧ BagAt H' b (N + 2 + 6 * i) ∧ ∃ (qs : List V) (cl : List (List Str × Bool)) (x3 x4 x5 : Option V), σ = [some (.ref b), some (.ref ml), some (.ref f), x3, x4, x5] ∧ woL [b] H' f = some (.lst qs) ∧ Paired (ClauseAt (woL [b] H')) qs cl ∧ cl.length = i ∧ ∀ c ∈ cl, c.1.length ≤ 3 ∧ c.1.Nodup ∧ ∀ m ∈ c.1, m ∈ L)
      ⟨gH3, hb3.mono (Gr.refl (T := tt K) _) (by omega), [], [], _, _, _, rfl, hf3, .nil, rfl, fun c hc => by cases hc⟩ ?_ ?_
    · rintro i σ H4 hi ⟨g4, hb4, qs, cl, x3, x4, x5, rfl, hf4, hqs, hcl, hok⟩
      have hml4 := g4.lst hml
      refine ⟨_, rfl, ml, rfl, ⟨_, SqL.of (of_woL hml4).2⟩, fun D hD => ?_⟩
      have hDf : D ≠ f := (ne_of_none (of_woL hf4).2 hD).symm
      have hDb : D ≠ b := (mut_ne hb4.mut hD).symm
      have hDW : D ∉ [b] := by simp [hDb]
      have hDn : woL [b] H4 D = none := by rw [woL_out hDW]; exact hD
      refine lc_it (walk_list (K := K) (a := ml) (xs := sv L)) (fun j G => Gr (tt K) (woL [b] H4) (woL [b] G) ∧ BagAt G b (N + 2 + 6 * i + j) ∧ ∃ acc : List Str, G D = some (.lst (sv acc)) ∧ acc.Sublist (L.take j)) ⟨Gr.newW hD hDW, hb4.mono (Gr.new (T := tt K) hD) (by omega), [], upd_same, by simp⟩ (fun j G _ h => SqL.of (of_woL (h.1.lst hml4)).2) ?_ ?_
      · rintro j x G G' hj ⟨g5, hb5, acc, hacc, hsub⟩ ⟨rfl, hx⟩
        obtain ⟨m, hm, rfl⟩ := sv_at hx
        rw [sv_len] at hj
        refine ⟨rfl, _, rfl, b, 3, N + 2 + 6 * i + j, rfl, hb5, by omega, by decide, by decide, fun G2 r hr' g6 hb6 => ⟨rfl, _, rfl, ?_⟩⟩
        have hacc2 : woL [b] G2 D = some (.lst (sv acc)) := g6.lst (by rw [woL_out hDW]; exact hacc)
        have ets : L.take (j + 1) = L.take j ++ [m] := by rw [List.take_succ, hm] <;> rfl
        have hz : acc.length ≤ 5 := Nat.le_trans hsub.length_le (by rw [List.length_take]; omega)
        by_cases h0 : V.int (r : Int) = V.int 0
        · rw [decide_eq_true h0]
          refine iteT ⟨_, rfl, _, (of_woL hacc2).2, by rw [sv_len]; exact Nat.lt_of_le_of_lt hz (by decide), ?_, ?_, acc ++ [m], ?_, ?_⟩
          · rw [woL_new hDW]
            exact (g5.trans g6).appd (fresh_none hDn) hacc2
          · obtain ⟨d0, m0, n0, q1, q2⟩ := hb6
            exact ⟨d0, m0, n0, by rw [upd_ne hDb.symm]; exact q1, q2⟩
          · rw [upd_same]
            unfold sv
            rw [List.map_append] <;> rfl
          · rw [ets]
            exact List.Sublist.append hsub (List.Sublist.refl _)
        · rw [decide_eq_false h0]
          refine iteF ⟨g5.trans g6, hb6, acc, (of_woL hacc2).2, ?_⟩
          rw [ets]
          exact hsub.trans (List.sublist_append_left _ _)
      · rintro G ⟨g5, hb5, acc, hacc, hsub⟩
        rw [sv_len] at hb5 hsub
        rw [List.take_length] at hsub
        refine ⟨_, rfl, D, _, rfl, SqL.of hacc, fun z hz => ?_⟩
        rw [show cutV (sv acc) none (some 3) = sv (acc.take 3) by rw [show (some 3 : Option Int) = some ((3 : Nat) : Int) from rfl, cut_take]; unfold sv; rw [List.map_take]]
        refine ⟨z, _, rfl, .inl ⟨SqL.of upd_same, fun t1 ht1 => ?_⟩⟩
        have gz := (Gr.new (T := tt K) (o := .lst (sv (acc.take 3))) hz).trans (Gr.new (o := .tup (sv (acc.take 3))) ht1)
        have hbz := hb5.gr gz
        have ht1v : upd (upd G z (.lst (sv (acc.take 3)))) t1 (.tup (sv (acc.take 3))) t1 = some (.tup (sv (acc.take 3))) := upd_same
        have t1b : t1 ≠ b := (mut_ne (hb5.mono (Gr.new (T := tt K) hz) (Nat.le_refl _)).mut ht1).symm
        generalize upd (upd G z (.lst (sv (acc.take 3)))) t1 (.tup (sv (acc.take 3))) = G1 at *
        obtain ⟨hb6, gb6⟩ := hbz
        have g56 := g5.trans gb6
        have hf6 := g56.lst hf4
        refine ⟨_, rfl, .inl ⟨rfl, _, SqL.of (of_woL hf6).2⟩, _, rfl, _, rfl, b, 2, _, rfl, hb6, by omega, by decide, by decide, fun G2 r hr' g7 hb7 => ⟨rfl, by show 2 ≤ sizeLine; decide, fun t2 ht2 => ?_⟩⟩
        have hf7 := g7.lst hf6
        have t2f : f ≠ t2 := ne_of_none (of_woL hf7).2 ht2
        have t2b : t2 ≠ b := (mut_ne hb7.mut ht2).symm
        have gt2 : Gr (tt K) (woL [b] G2) (woL [b] (upd G2 t2 (.tup [.ref t1, .bl (decide (V.int (r : Int) = V.int 0))]))) := Gr.newW ht2 (by simp [t2b])
        have ht2v : woL [b] (upd G2 t2 (.tup [.ref t1, .bl (decide (V.int (r : Int) = V.int 0))])) t2 = some (.tup [.ref t1, .bl (decide (V.int (r : Int) = V.int 0))]) := by rw [woL_out (by simp [t2b]), upd_same]
        have ht1w : woL [b] (upd G2 t2 (.tup [.ref t1, .bl (decide (V.int (r : Int) = V.int 0))])) t1 = some (.tup (sv (acc.take 3))) := gt2.tup (g7.tup (by rw [woL_out (by simp [t1b])]; exact ht1v))
        have hf8 := gt2.lst hf7
        have hb8 := hb7.mono (Gr.new (T := tt K) (o := .tup [.ref t1, .bl (decide (V.int (r : Int) = V.int 0))]) ht2) (Nat.le_refl _)
        generalize upd G2 t2 (.tup [.ref t1, .bl (decide (V.int (r : Int) = V.int 0))]) = G3 at *
        have gall := ((g4.trans g56).trans g7).trans gt2
        refine ⟨f, _, _, rfl, rfl, (of_woL hf8).2, ?_, ?_, ?_, qs ++ [.ref t2], cl ++ [(acc.take 3, decide (V.int (r : Int) = V.int 0))], _, _, _, rfl, ?_, ?_, ?_, ?_⟩
        · have := prd_len hqs
          exact Nat.lt_of_le_of_lt (show qs.length ≤ 3 by omega) (by decide)
        · rw [woL_new hfW]
          exact gall.appd hfr hf8
        · obtain ⟨d0, m0, n0, q1, q2, q3, q4, q5⟩ := hb8
          exact ⟨d0, m0, n0, by rw [upd_ne hbf]; exact q1, q2, q3, q4, by have := h5; omega⟩
        · rw [woL_out hfW, upd_same]
        · have keep : ∀ {x : V} {c : List Str × Bool}, ClauseAt (woL [b] G3) x c → ClauseAt (woL [b] (upd G3 f (.lst (qs ++ [.ref t2])))) x c := fun {x c} ⟨p, q, e, h1, h2⟩ => by
            have nf : ∀ {y : Addr} {xs : List V}, woL [b] G3 y = some (.tup xs) → woL [b] (upd G3 f (.lst (qs ++ [.ref t2]))) y = some (.tup xs) := fun {y xs} hy => by
              rw [woL_new hfW, upd_ne]
              · exact hy
              · intro e
                rw [e, hf8] at hy
                cases hy
            exact ⟨p, q, e, nf h1, nf h2⟩
          refine prd_snoc (prd_mono hqs fun x c h => keep ?_) (keep ⟨t2, t1, rfl, ht2v, ht1w⟩)
          obtain ⟨p, q, e, h1, h2⟩ := h
          exact ⟨p, q, e, gt2.tup (g7.tup (g56.tup h1)), gt2.tup (g7.tup (g56.tup h2))⟩
        · rw [List.length_append, hcl] <;> rfl
        · intro c hc
          rcases List.mem_append.mp hc with hc | hc
          · exact hok c hc
          · rw [List.mem_singleton.mp hc]
            have s3 : (acc.take 3).Sublist L := (List.take_sublist _ _).trans hsub
            exact ⟨by rw [List.length_take]; omega, s3.nodup hnd, fun m hm => s3.subset hm⟩
    · rintro σ H4 ⟨g4, hb4, qs, cl, x3, x4, x5, rfl, hf4, hqs, hcl, hok⟩
      refine ⟨_, rfl, f, _, rfl, .inl ⟨SqL.of (of_woL hf4).2, fun ta hta => ?_⟩⟩
      obtain ⟨hb5, gb5⟩ := hb4.gr (Gr.new (T := tt K) (o := .tup qs) hta)
      have tab : ta ≠ b := (mut_ne hb4.mut hta).symm
      have htv : woL [b] (upd H4 ta (.tup qs)) ta = some (.tup qs) := by rw [woL_out (by simp [tab]), upd_same]
      generalize upd H4 ta (.tup qs) = H5 at *
      refine ⟨_, rfl, b, 2, _, rfl, hb5, by omega, by decide, by decide, fun H6 r hr' g6 hb6 => ⟨rfl, by show 2 ≤ sizeLine; decide, fun tb htb => ?_⟩⟩
      have tbb : tb ≠ b := (mut_ne hb6.mut htb).symm
      have gt : Gr (tt K) (woL [b] H6) (woL [b] (upd H6 tb (.tup [.ref ta, .bl (decide (V.int (r : Int) = V.int 0))]))) := Gr.newW htb (by simp [tbb])
      have g56 := (gb5.trans g6).trans gt
      refine k _ _ (some (cl, decide (V.int (r : Int) = V.int 0))) (g4.trans g56) (hb6.mono (Gr.new (T := tt K) htb) (by omega)) ⟨tb, ta, rfl, by rw [woL_out (by simp [tbb]), upd_same], ta, qs, rfl, gt.tup (g6.tup htv), ?_⟩ ?_
      · refine prd_mono hqs fun x c h => ?_
        obtain ⟨p, q, e, h1, h2⟩ := h
        exact ⟨p, q, e, g56.tup h1, g56.tup h2⟩
      · intro cl' pd e
        cases e
        refine ⟨⟨fun e => ?_, by omega, fun c hc => ⟨fun m hm => hnm m ((hok c hc).2.2 m hm), (hok c hc).2.1, Nat.le_trans (hok c hc).1 (by decide)⟩⟩, by omega, fun c hc => ⟨Nat.le_trans (hok c hc).1 (by decide), (hok c hc).2.2⟩⟩
        rw [e] at hcl
        simp at hcl
        omega
end
end SW


set_option maxHeartbeats 2000000
namespace SW
open PySem PySem.Spec PyProof.Rows L2 He LamX NdefX
open SW.M (Ent Tb Oc)
/-- a bag is none of it -/
theorem PlO.bag {H : Hp} {W : List Addr} {p b : Addr} {T : Tb Str} {N : Nat} (h : PlO H [] W p T) (hb : BagAt H b N) (hbW : b ∉ W) : PlO H [b] W p T := by
  obtain ⟨hm, _, kvs, n, b1, o, s, r, d, l, kb, ko, ks, kr, kd, las, O, own⟩ := h
  obtain ⟨d0, m0, n0, hb1, _⟩ := hb
  rw [List.append_nil] at O
  have e0 : ∀ {a : Addr} {u : HO}, woL W H a = some u → u ≠ .lst [.int d0, .int m0, .int n0] → woL (W ++ [b]) H a = some u := fun {a u} ha hne => by
    obtain ⟨h1, h2⟩ := of_woL ha
    rw [woL_out]
    · exact h2
    · intro z
      rcases List.mem_append.mp z with z | z
      · exact h1 z
      · rw [List.mem_singleton.mp z, hb1] at h2
        exact hne (Option.some.inj h2).symm
  have nsv : ∀ {xs : List Str}, HO.lst (sv xs) ≠ .lst [.int d0, .int m0, .int n0] := fun {xs} e => by
    injection e with e
    cases xs with
    | nil => cases e
    | cons x r =>
      injection e with e1 _
      cases e1
  have eL : ∀ {xs : List Str} {v : V}, LsAt (woL W H) xs v → LsAt (woL (W ++ [b]) H) xs v := fun ⟨a, e, h⟩ => ⟨a, e, e0 h nsv⟩
  have eM : ∀ {ms : List (Str × Str)} {v : V}, MkAt (woL W H) ms v → MkAt (woL (W ++ [b]) H) ms v := fun ⟨a, e, h⟩ => ⟨a, e, e0 h fun z => by cases z⟩
  have eR : ∀ {v : V} {E : En}, RuleAt (woL W H) v E → RuleAt (woL (W ++ [b]) H) v E := fun h => by
    rcases h with h | ⟨a, ha, cl, e, h1, h2, h3⟩
    · exact .inl h
    · exact .inr ⟨a, ha, cl, e, e0 h1 (fun z => by cases z), h2, h3.lift fun a xs h => e0 h fun z => by cases z⟩
  refine ⟨hm, fun x hx => ?_, kvs, n, b1, o, s, r, d, l, kb, ko, ks, kr, kd, las, ⟨e0 O.hp (fun z => by cases z), O.pk, O.hn, O.hb, O.pb.mono fun _ _ h => eL h, O.ho, O.po, O.hs, O.ps.mono fun _ _ h => eM h, O.hr, O.pr.mono fun _ _ h => eR h, O.hd, O.pd.mono fun _ _ h => eL h, O.hl, O.pl, O.nd⟩, own⟩
  rw [List.mem_singleton.mp hx]
  exact ⟨.lst hb1, hbW⟩
theorem PlO.unbag {H : Hp} {B W : List Addr} {p : Addr} {T : Tb Str} (h : PlO H B W p T) : PlO H [] W p T := by
  obtain ⟨hm, _, kvs, n, b1, o, s, r, d, l, kb, ko, ks, kr, kd, las, O, own⟩ := h
  have g : Gr [] (woL (W ++ B) H) (woL (W ++ []) H) := gr_sub fun x hx => by
    rw [List.append_nil] at hx
    exact List.mem_append_left _ hx
  exact ⟨hm, fun x hx => (by cases hx), kvs, n, b1, o, s, r, d, l, kb, ko, ks, kr, kd, las, ⟨g.dK O.hp, O.pk, O.hn, O.hb, O.pb.mono fun _ _ h => h.mono g, O.ho, O.po, O.hs, O.ps.mono fun _ _ h => h.mono g, O.hr, O.pr.mono fun _ _ h => h.mono g, O.hd, O.pd.mono fun _ _ h => h.mono g, O.hl, O.pl, O.nd⟩, own⟩
/-- behind draws -/
theorem PlO.drawn {T0 : Tbs} {H H' : Hp} {W : List Addr} {p b : Addr} {T : Tb Str} {N N' : Nat} (h : PlO H [] W p T) (hb : BagAt H b N) (hbW : b ∉ W) (g : Gr T0 (woL [b] H) (woL [b] H')) (hb' : BagAt H' b N') : PlO H' [] W p T ∧ Gr T0 (woL (W ++ [b]) H) (woL (W ++ [b]) H') := by
  obtain ⟨h1, h2⟩ := (h.bag hb hbW).other g hb'.frame
  exact ⟨h1.unbag, h2⟩
theorem erase_nd {A : Type} {l : List A} {k : Nat} {y : A} (nd : l.Nodup) (h : l[k]? = some y) : (l.eraseIdx k).Nodup ∧ y ∉ l.eraseIdx k ∧ (∀ x ∈ l.eraseIdx k, x ∈ l) ∧ (l.eraseIdx k).length + 1 = l.length := by
  have hs : (l.eraseIdx k).Sublist l := List.eraseIdx_sublist l k
  have hk := (List.getElem?_eq_some_iff.mp h).1
  refine ⟨hs.nodup nd, fun z => ?_, fun x hx => hs.subset hx, by rw [List.length_eraseIdx_of_lt hk]; omega⟩
  rw [List.eraseIdx_eq_take_drop_succ] at z
  have e : l = l.take k ++ y :: l.drop (k + 1) := by
    conv => lhs; rw [← List.take_append_drop k l]
    rw [drop_at h]
  rw [e] at nd
  obtain ⟨_, n2, n3⟩ := List.nodup_append.mp nd
  rcases List.mem_append.mp z with z | z
  · exact n3 y z y List.mem_cons_self rfl
  · exact (List.nodup_cons.mp n2).1 z
section
variable {P : Program} {w : World} {K : PySem.W.Frag} {mg : Str → Option Value} {base : Heap}
def spLClass (K : PySem.W.Frag) : Sp := fun vs H Q _ => ∃ (b p ml : Addr) (n : Str) (W : List Addr) (T : Tb Str) (N : Nat) (L : List Str), vs = [.ref b, .ref p, .str n, .ref ml] ∧ PlO H [] W p T ∧ BagAt H b N ∧ N ≤ 800000 ∧ b ∉ W ∧ Mades T.es ∧ T.es.length ≤ 10 ∧ n ∉ M.names T.es ∧ NameOk n ∧ T.rg n = [] ∧
  woL (W ++ [b]) H ml = some (.lst (sv L)) ∧ (∀ m ∈ L, NameOk m) ∧ L.Nodup ∧ L.length ≤ 5 ∧
  ∀ H' W' E, E.label = n → EntOk T.es E → (∀ cl, E.hook = some cl → cl.length ≤ 4 ∧ ∀ c ∈ cl, c.1.length ≤ 5 ∧ ∀ m ∈ c.1, m ∈ L) → Gr (tt K) (woL (W ++ [b]) H) (woL (W' ++ [b]) H') → PlO H' [] W' p ⟨T.es ++ [E], T.rg⟩ → BagAt H' b (N + 100) → b ∉ W' → Q .non H'
theorem sc__law_class : FnScope ["_law_bag_here", "_law_plain", "_law_name", "_law_methods_here", "_law_left", "_law_bases", "_law_turn", "_law_signs", "_law_method"] ["_law_bag_here", "_law_plain", "_law_name", "_law_methods_here"] (defScope s__law_class) := ⟨rfl, rfl, rfl, by decide +kernel, rfl, by decide +kernel, by decide +kernel⟩
theorem ok__law_class (c : Tx K mg base) : Ok P w K mg base 4 (ga K "_law_class") ["_law_bag_here", "_law_plain", "_law_name", "_law_methods_here"] (spLClass K) := by
  refine Ok.mk' (fd__law_class c) sc__law_class (fun _ _ _ _ _ _ us hl => match us, hl with | [_, _, _, _], _ => rfl) (fun vs H Q E h => ?_) (fun cdv A outer s H vs Q E hr h => ?_)
  · obtain ⟨b, p, ml, n, W, T, N, L, rfl, _⟩ := h
    rfl
  · obtain ⟨b, p, ml, n, W, T, N, L, rfl, hP, hb, hN, hbW, hM, h10, hnew, hnok, hrg, hml, hnm, hnd, h5, k⟩ := h
    refine ⟨_, (pss_cons (ps_par (i := 4) (j := 5) rfl sc__law_class.nd rfl rfl (by decide) rfl rfl (pa_cons (pe_callTy (listK K rfl) (by rfl) (n_list c) (by first | exact PySem.boot_list | exact boot_list | decide +kernel) (pa_cons (pe_dget (hu_of hr) (pv 1) pe_str (fun _ _ => rfl)) pa_nil)) (pa_cons (pe_lst pa_nil) pa_nil)) (by rfl)) (pss_cons (ps_for PassesOwn.never rfl (pi_range1 rfl (n_range c) (pa_cons (pe_callB (call_min2 rfl) (by rfl) (n_min c) (by first | exact PySem.boot_min | exact boot_min | decide +kernel) (pa_cons ((ok__law_pick c).call hr (by decide) (g__law_pick c) (pa_cons (pv 0) (pa_cons (pe_lst (pa_cons pe_int (pa_cons pe_int (pa_cons pe_int (pa_cons pe_int (pa_cons pe_int (pa_cons pe_int pa_nil))))))) pa_nil))) (pa_cons (pe_callB (lenK K rfl) (by rfl) (n_len c) (by first | exact PySem.boot_len | exact boot_len | decide +kernel) (pa_cons (pv 4) pa_nil)) pa_nil))) pa_nil)) (pg_name (i := 6) sc__law_class.nd rfl (Or.inl rfl)) (pss_one (ps_expr (pe_bm PySem.F.plainAttrs_list PySem.F.slot_list_append PySem.F.type_list_append mt_append (pv 5) (pa_cons (pe_bm PySem.F.plainAttrs_list PySem.F.slot_list_pop PySem.F.type_list_pop mt_popAt (pv 4) (pa_cons ((ok__law_take c).call hr (by decide) (g__law_take c) (pa_cons (pv 0) (pa_cons (pe_callB (lenK K rfl) (by rfl) (n_len c) (by first | exact PySem.boot_len | exact boot_len | decide +kernel) (pa_cons (pv 4) pa_nil)) pa_nil))) pa_nil)) pa_nil))))) (pss_cons (ps_set (i := 7) sc__law_class.nd rfl (Or.inl rfl) pe_dnewK) (pss_cons (ps_for PassesOwn.never rfl (piL K rfl (pv 3)) (pg_name (i := 8) sc__law_class.nd rfl (Or.inl rfl)) (pss_one (ps_if (pt_cmpR op_eq ((ok__law_take c).call hr (by decide) (g__law_take c) (pa_cons (pv 0) (pa_cons pe_int pa_nil))) pe_int (nomark _)) (pss_one (ps_dput (hu_of hr) (pv 7) (pv 8) ((ok__law_pick c).call hr (by decide) (g__law_pick c) (pa_cons (pv 0) (pa_cons (pe_lst (pa_cons pe_str (pa_cons pe_str (pa_cons pe_str pa_nil)))) pa_nil))) rfl)) pss_nil))) (pss_one (ps_expr ((ok__law_make c).call hr (by decide) (g__law_make c) (pa_cons (pv 1) (pa_cons (pv 2) (pa_cons (pv 5) (pa_cons (pe_cmpR op_eq ((ok__law_take c).call hr (by decide) (g__law_take c) (pa_cons (pv 0) (pa_cons pe_int pa_nil))) pe_int (nomark _)) (pa_cons (pv 7) (pa_cons ((ok__law_new_rule c).call hr (by decide) (g__law_new_rule c) (pa_cons (pv 0) (pa_cons (pv 3) pa_nil))) pa_nil))))))))))))), ?_⟩
    have wf := hM.wf (Nat.le_trans h10 (by decide))
    have hmlb : woL [b] H ml = some (.lst (sv L)) := (gr_sub (B := tt K) (W := W ++ [b]) (W' := [b]) fun x hx => List.mem_append_right _ hx).lst hml
    obtain ⟨nn, q1, q2⟩ := hP.here.names
    refine ⟨_, rfl, p, _, rfl, q1, nn, _, rfl, .inl (SqL.of q2), fun lf hlf => ⟨by show 0 ≤ sizeLine; decide, fun bl hbl => ⟨_, _, rfl, ?_⟩⟩⟩
    have lfb : lf ≠ b := (mut_ne hb.mut hlf).symm
    have hb1 := hb.mono (Gr.new (T := tt K) (o := .lst (sv (M.names T.es))) hlf) (Nat.le_refl _)
    have blb : bl ≠ b := (mut_ne hb1.mut hbl).symm
    have lfbl : lf ≠ bl := ne_of_none upd_same hbl
    have g2 : Gr (tt K) (woL [b] H) (woL [b] (upd (upd H lf (.lst (sv (M.names T.es)))) bl (.lst []))) := (Gr.newW hlf (by simp [lfb])).trans (Gr.newW hbl (by simp [blb]))
    have hb2 := hb1.mono (Gr.new (T := tt K) (o := .lst []) hbl) (Nat.le_refl _)
    have hlf2 : woL [b] (upd (upd H lf (.lst (sv (M.names T.es)))) bl (.lst [])) lf = some (.lst (sv (M.names T.es))) := by rw [woL_out (by simp [lfb]), upd_ne lfbl, upd_same]
    have hbl2 : woL [b] (upd (upd H lf (.lst (sv (M.names T.es)))) bl (.lst [])) bl = some (.lst (sv [])) := by rw [woL_out (by simp [blb]), upd_same] <;> rfl
    have flf : ∀ v, woL [b] H lf = some v → ¬ NoTbl v := fresh_none (by rw [woL_out (by simp [lfb])]; exact hlf)
    have lfn : lf ∉ [b] := by simp [lfb]
    have bln : bl ∉ [b] := by simp [blb]
    have blH : H bl = none := by
      have := hbl
      rw [upd_ne lfbl.symm] at this
      exact this
    have fbl : ∀ v, woL [b] H bl = some v → ¬ NoTbl v := fresh_none (by rw [woL_out bln]; exact blH)
    have lfW : lf ∉ W := not_in (fun w hw => (hP.1 w hw).mut) hlf
    have blW : bl ∉ W := not_in (fun w hw => (hP.1 w hw).mut) blH
    clear q1 q2 hb1
    generalize upd (upd H lf (.lst (sv (M.names T.es)))) bl (.lst []) = H2 at *
    refine ⟨_, rfl, by show 6 ≤ sizeLine; decide, fun pl hpl => ?_⟩
    have plb : pl ≠ b := (mut_ne hb2.mut hpl).symm
    have gp : Gr (tt K) (woL [b] H2) (woL [b] (upd H2 pl (.lst [.int 0, .int 1, .int 1, .int 2, .int 0, .int 3]))) := Gr.newW hpl (by simp [plb])
    refine ⟨b, pl, [.int 0, .int 1, .int 1, .int 2, .int 0, .int 3], N, rfl, hb2.mono (Gr.new (T := tt K) hpl) (Nat.le_refl _), by omega, by rw [woL_out (by simp [plb]), upd_same], by simp, by show 6 ≤ 1000; decide, fun H3 x hx g3 hb3 => ?_⟩
    have gp3 := gp.trans g3
    obtain ⟨kx, rfl, hkx⟩ : ∃ kx : Nat, x = .int kx ∧ kx ≤ 3 := by
      simp only [List.mem_cons, List.not_mem_nil, or_false] at hx
      rcases hx with rfl | rfl | rfl | rfl | rfl | rfl
      · exact ⟨0, rfl, by decide⟩
      · exact ⟨1, rfl, by decide⟩
      · exact ⟨1, rfl, by decide⟩
      · exact ⟨2, rfl, by decide⟩
      · exact ⟨0, rfl, by decide⟩
      · exact ⟨3, rfl, by decide⟩
    have hlf3 := gp3.lst hlf2
    have hbl3 := gp3.lst hbl2
    have g23 := g2.trans gp3
    refine ⟨_, rfl, lf, _, rfl, .inl (SqL.of (of_woL hlf3).2), _, _, rfl, _, rfl, ?_, ?_, ?_⟩
    · split <;> omega
    · rw [sv_len]
      have := wf.few
      split <;> omega
    rw [sv_len]
    have nn3 : (if ((M.names T.es).length : Int) < (kx : Int) then ((M.names T.es).length : Int) else (kx : Int)).toNat ≤ 3 := by split <;> omega
    have nnl : (if ((M.names T.es).length : Int) < (kx : Int) then ((M.names T.es).length : Int) else (kx : Int)).toNat ≤ (M.names T.es).length := by split <;> omega
    generalize (if ((M.names T.es).length : Int) < (kx : Int) then ((M.names T.es).length : Int) else (kx : Int)).toNat = nn at nn3 nnl ⊢
    have hn12 := wf.few
    refine for_range (n := nn) (fun j σ H4 => Gr (tt K) (woL [b] H) (woL [b] H4) ∧ BagAt H4 b (N + 1 + j) ∧ ∃ (ls bs : List Str) (x6 x7 x8 : Option V), σ = [some (.ref b), some (.ref p), some (.str n), some (.ref ml), some (.ref lf), some (.ref bl), x6, x7, x8] ∧ woL [b] H4 lf = some (.lst (sv ls)) ∧ woL [b] H4 bl = some (.lst (sv bs)) ∧
        bs.Nodup ∧ ls.Nodup ∧ (∀ x ∈ bs, x ∈ M.names T.es ∧ x ∉ ls) ∧ (∀ x ∈ ls, x ∈ M.names T.es) ∧ ls.length + j = (M.names T.es).length ∧ bs.length = j) ⟨g23, hb3, M.names T.es, [], _, _, _, rfl, hlf3, hbl3, List.nodup_nil, wf.nd, fun x hx => (by cases hx), fun x hx => hx, rfl, rfl⟩ ?_ ?_
    · rintro j σ H4 hj ⟨g4, hb4, ls, bs, x6, x7, x8, rfl, hlf4, hbl4, bnd, lnd, hbs, hls, hll, hbl⟩
      refine ⟨_, rfl, .inl ⟨rfl, _, SqL.of (of_woL hbl4).2⟩, _, rfl, .inl ⟨rfl, _, SqL.of (of_woL hlf4).2⟩, _, rfl, _, rfl, lf, _, rfl, .inl (SqL.of (of_woL hlf4).2), b, ls.length, N + 1 + j, by rw [sv_len] <;> rfl, hb4, by omega, by omega, by omega, fun H5 r hr' g5 hb5 => ?_⟩
      have hlf5 := g5.lst hlf4
      have hbl5 := g5.lst hbl4
      obtain ⟨y, hy⟩ : ∃ y, ls[r]? = some y := ⟨ls[r], List.getElem?_eq_getElem hr'⟩
      obtain ⟨k1, e1, e2, e3, e4, e5⟩ := atI_get (atI_nat (xs := sv ls) (j := r) (v := .str y) (by unfold sv; rw [List.getElem?_map, hy] <;> rfl))
      have hk1 : ls[k1]? = some y := by
        obtain ⟨y', h1, h2⟩ := sv_at e2
        cases h2
        exact h1
      obtain ⟨n1, n2, n3, n4⟩ := erase_nd lnd hk1
      refine ⟨lf, _, (r : Int), k1, .str y, rfl, rfl, (of_woL hlf5).2, by omega, by omega, e1, e2, ?_⟩
      have ee : (sv ls).eraseIdx k1 = sv (ls.eraseIdx k1) := erase_sv _ _
      rw [ee]
      have g6 : Gr (tt K) (woL [b] H) (woL [b] (upd H5 lf (.lst (sv (ls.eraseIdx k1))))) := by
        rw [woL_new lfn]
        exact (g4.trans g5).appd flf hlf5
      have hbl6 : woL [b] (upd H5 lf (.lst (sv (ls.eraseIdx k1)))) bl = some (.lst (sv bs)) := by
        rw [woL_new lfn, upd_ne lfbl.symm]
        exact hbl5
      have hlf6 : woL [b] (upd H5 lf (.lst (sv (ls.eraseIdx k1)))) lf = some (.lst (sv (ls.eraseIdx k1))) := by rw [woL_out lfn, upd_same]
      have hb6 : BagAt (upd H5 lf (.lst (sv (ls.eraseIdx k1)))) b (N + 1 + (j + 1)) := by
        obtain ⟨d0, m0, n0, q1, q2⟩ := hb5
        exact ⟨d0, m0, n0, by rw [upd_ne lfb.symm]; exact q1, q2⟩
      generalize upd H5 lf (.lst (sv (ls.eraseIdx k1))) = H6 at *
      refine ⟨bl, _, _, rfl, rfl, (of_woL hbl6).2, ?_, ?_, ?_, ls.eraseIdx k1, bs ++ [y], _, _, _, rfl, ?_, ?_, ?_, n1, ?_, fun x hx => hls x (n3 x hx), by omega, by rw [List.length_append, hbl] <;> rfl⟩
      · rw [sv_len]
        exact Nat.lt_of_le_of_lt (show bs.length ≤ 12 by omega) (by decide)
      · rw [woL_new bln]
        exact g6.appd fbl hbl6
      · obtain ⟨d0, m0, n0, q1, q2⟩ := hb6
        exact ⟨d0, m0, n0, by rw [upd_ne blb.symm]; exact q1, q2⟩
      · rw [woL_new bln, upd_ne lfbl]
        exact hlf6
      · rw [woL_out bln, upd_same]
        unfold sv
        rw [List.map_append] <;> rfl
      · exact List.nodup_append.mpr ⟨bnd, by simp, fun x hx z hz e => (hbs x hx).2 (by rw [e, List.mem_singleton.mp hz]; exact List.mem_of_getElem? hk1)⟩
      · intro x hx
        rcases List.mem_append.mp hx with hx | hx
        · exact ⟨(hbs x hx).1, fun z => (hbs x hx).2 (n3 x z)⟩
        · rw [List.mem_singleton.mp hx]
          exact ⟨hls y (List.mem_of_getElem? hk1), n2⟩
    · rintro σ H4 ⟨g4, hb4, ls, bs, x6, x7, x8, rfl, hlf4, hbl4, bnd, lnd, hbs, hls, hll, hbll⟩
      refine fun sg hsg => ?_
      have sgb : sg ≠ b := (mut_ne hb4.mut hsg).symm
      have sgn : sg ∉ [b] := by simp [sgb]
      have g5 : Gr (tt K) (woL [b] H) (woL [b] (upd H4 sg (.dK []))) := g4.trans (Gr.newW hsg sgn)
      have fsg : ∀ v, woL [b] H sg = some v → ¬ NoTbl v := g4.fresh (by rw [woL_out sgn]; exact hsg)
      have hb5 := hb4.mono (Gr.new (T := tt K) (o := .dK []) hsg) (Nat.le_refl _)
      have hsg5 : woL [b] (upd H4 sg (.dK [])) sg = some (.dK []) := by rw [woL_out sgn, upd_same]
      have hbl5 : woL [b] (upd H4 sg (.dK [])) bl = some (.lst (sv bs)) := (Gr.newW (T := tt K) (o := .dK []) hsg sgn).lst hbl4
      have sgW : sg ∉ W := by
        have := (hP.drawn hb hbW g4 hb4).1
        exact not_in (fun w hw => (this.1 w hw).mut) hsg
      have sgbl : sg ≠ bl := (ne_of_none (of_woL hbl4).2 hsg).symm
      generalize upd H4 sg (.dK []) = H5 at *
      have hml5 := g5.lst hmlb
      refine ⟨_, rfl, ml, rfl, ⟨_, SqL.of (of_woL hml5).2⟩, ?_⟩
      refine for_list (K := K) (a := ml) (xs := sv L) (fun i σ H6 => Gr (tt K) (woL [b] H) (woL [b] H6) ∧ BagAt H6 b (N + 4 + 2 * i) ∧ ∃ (ms : List (Str × Str)) (x6 x8 : Option V), σ = [some (.ref b), some (.ref p), some (.str n), some (.ref ml), some (.ref lf), some (.ref bl), x6, some (.ref sg), x8] ∧ woL [b] H6 bl = some (.lst (sv bs)) ∧ woL [b] H6 sg = some (.dK (marksKV ms)) ∧
          (ms.map (·.1)).Sublist (L.take i) ∧ ∀ q ∈ ms, q.2 ∈ markL) ⟨g5, hb5.mono (Gr.refl (T := tt K) _) (by omega), [], _, _, rfl, hbl5, hsg5, by simp, fun q hq => by cases hq⟩ (fun i σ H6 _ h => SqL.of (of_woL (h.1.lst hmlb)).2) ?_ ?_
      · rintro i v σ H6 hi ⟨g6, hb6, ms, x6, x8, rfl, hbl6, hsg6, hsub, hmk⟩
        obtain ⟨m, hm, rfl⟩ := sv_at hi
        have hil := (List.getElem?_eq_some_iff.mp hm).1
        have ets : L.take (i + 1) = L.take i ++ [m] := by rw [List.take_succ, hm] <;> rfl
        refine ⟨_, rfl, b, 3, N + 4 + 2 * i, rfl, hb6, by omega, by decide, by decide, fun H7 r hr' g7 hb7 => ⟨rfl, _, rfl, ?_⟩⟩
        have hbl7 := g7.lst hbl6
        have hsg7 := g7.dK hsg6
        have g67 := g6.trans g7
        have hmz : ms.length ≤ 5 := by
          have := hsub.length_le
          rw [List.length_map, List.length_take] at this
          omega
        by_cases h0 : V.int (r : Int) = V.int 0
        · rw [decide_eq_true h0]
          refine iteT ⟨_, rfl, by show 3 ≤ sizeLine; decide, fun ql hql => ?_⟩
          have qlb : ql ≠ b := (mut_ne hb7.mut hql).symm
          have gq : Gr (tt K) (woL [b] H7) (woL [b] (upd H7 ql (.lst [.str "plain", .str "abstract", .str "blocked"]))) := Gr.newW hql (by simp [qlb])
          refine ⟨b, ql, [.str "plain", .str "abstract", .str "blocked"], N + 4 + 2 * i + 1, rfl, hb7.mono (Gr.new (T := tt K) hql) (Nat.le_refl _), by omega, by rw [woL_out (by simp [qlb]), upd_same], by simp, by show 3 ≤ 1000; decide, fun H8 x hx g8 hb8 => ?_⟩
          obtain ⟨mk, rfl, hmkm⟩ : ∃ mk : Str, x = .str mk ∧ mk ∈ markL := by
            simp only [List.mem_cons, List.not_mem_nil, or_false] at hx
            rcases hx with rfl | rfl | rfl
            · exact ⟨_, rfl, by simp [markL]⟩
            · exact ⟨_, rfl, by simp [markL]⟩
            · exact ⟨_, rfl, by simp [markL]⟩
          have hbl8 := (gq.trans g8).lst hbl7
          have hsg8 := (gq.trans g8).dK hsg7
          have gall := g67.trans (gq.trans g8)
          have hmn : m ∉ ms.map (·.1) := fun z => by
            have h1 := hsub.subset z
            obtain ⟨j, hj⟩ := List.mem_iff_getElem?.mp h1
            rw [List.getElem?_take] at hj
            split at hj
            · rename_i hji
              have := nd_index hnd hj hm
              omega
            · cases hj
          have hvn : valV (marksKV ms) (.inr m) = none := by
            cases e : valV (marksKV ms) (.inr m) with
            | none => rfl
            | some v =>
              exfalso
              have h1 := valV_any (Sum.inr m : Key) (marksKV ms)
              rw [e] at h1
              obtain ⟨z, hz, hz2⟩ := List.any_eq_true.mp h1
              have hz3 : z.1 = .inr m := of_decide_eq_true hz2
              unfold marksKV at hz
              obtain ⟨q, hq, rfl⟩ := List.mem_map.mp hz
              exact hmn (List.mem_map.mpr ⟨q, hq, inr_inj hz3⟩)
          refine ⟨_, rfl, _, rfl, sg, _, rfl, DPut.k (k := .inr m) (of_woL hsg8).2 ?_, ?_⟩
          · unfold marksKV
            rw [List.length_map]
            exact Nat.lt_of_le_of_lt hmz (by decide)
          · rw [putK_new _ hvn]
            refine ⟨?_, ?_, ms ++ [(m, mk)], _, _, rfl, ?_, ?_, ?_, ?_⟩
            · rw [woL_new sgn]
              exact gall.mutK fsg hsg8
            · obtain ⟨d0, m0, n0, q1, q2, q3, q4, q5⟩ := hb8
              exact ⟨d0, m0, n0, by rw [upd_ne sgb.symm]; exact q1, q2, q3, q4, by omega⟩
            · rw [woL_new sgn, upd_ne sgbl.symm]
              exact hbl8
            · rw [woL_out sgn, upd_same]
              unfold marksKV
              rw [List.map_append] <;> rfl
            · rw [ets, List.map_append]
              exact List.Sublist.append hsub (List.Sublist.refl _)
            · intro q hq
              rcases List.mem_append.mp hq with hq | hq
              · exact hmk q hq
              · rw [List.mem_singleton.mp hq]
                exact hmkm
        · rw [decide_eq_false h0]
          refine iteF ⟨g67, hb7.mono (Gr.refl (T := tt K) _) (by omega), ms, _, _, rfl, hbl7, hsg7, ?_, hmk⟩
          rw [ets]
          exact hsub.trans (List.sublist_append_left _ _)
      · rintro σ H6 ⟨g6, hb6, ms, x6, x8, rfl, hbl6, hsg6, hsub, hmk⟩
        rw [sv_len] at hb6 hsub
        rw [List.take_length] at hsub
        have hms : MarksOk ms := ⟨fun q hq => hnm q.1 (hsub.subset (List.mem_map.mpr ⟨q, hq, rfl⟩)), hmk, hsub.nodup hnd, by
          have := hsub.length_le
          rw [List.length_map] at this
          omega⟩
        refine ⟨_, rfl, _, rfl, _, rfl, _, rfl, b, 2, N + 4 + 2 * L.length, rfl, hb6, by omega, by decide, by decide, fun H7 r hr' g7 hb7 => ⟨rfl, _, rfl, _, rfl, _, rfl, ?_⟩⟩
        have g67 := g6.trans g7
        refine ⟨b, ml, N + 4 + 2 * L.length + 1, L, rfl, hb7, by omega, g67.lst hmlb, hnm, hnd, h5, fun H8 rv ru g8 hb8 hru hrok => ?_⟩
        have g68 := g67.trans g8
        obtain ⟨hP8, gW8⟩ := hP.drawn hb hbW g68 hb8
        have ld8 := hP8.1
        have hru8 : RuV (woL (W ++ []) H8) rv ru := by
          rw [List.append_nil]
          cases ru with
          | none => exact hru
          | some q =>
            obtain ⟨cl, pd⟩ := q
            have lift : ∀ {a : Addr} {xs : List V}, woL [b] H8 a = some (.tup xs) → woL W H8 a = some (.tup xs) := fun {a xs} h => by
              have h2 := (of_woL h).2
              rw [woL_out]
              · exact h2
              · intro z
                rcases ld8 a z with ⟨ys, e⟩ | ⟨ys, e⟩ <;> (rw [h2] at e; cases e)
            obtain ⟨a, ha, e, h1, h2⟩ := hru
            exact ⟨a, ha, e, lift h1, h2.lift fun a xs h => lift h⟩
        have inWn : ∀ {a : Addr} {o : HO}, a ∉ W → woL [b] H8 a = some o → woL (W ++ []) H8 a = some o := fun h1 h2 => by
          rw [List.append_nil, woL_out h1]
          exact (of_woL h2).2
        refine ⟨p, bl, sg, n, _, rv, [], W, T, bs, ms, ru, rfl, hP8, hM, h10, hnew, hnok, hrg, inWn blW ((g7.trans g8).lst hbl6), fun x hx => (hbs x hx).1, bnd, by omega, inWn sgW ((g7.trans g8).dK hsg6), hms, hru8, fun cl pd e => (hrok cl pd e).1, fun H9 W' E e1 e2 e3 g9 hP9 => ?_⟩
        rw [List.append_nil, List.append_nil] at g9
        have hb9' : woL W H8 b = woL W H8 b := rfl
        obtain ⟨d0, m0, n0, q1, q2, q3, q4, q5⟩ := hb8
        have hbw := g9.lst (show woL W H8 b = some (.lst [.int d0, .int m0, .int n0]) by rw [woL_out hbW]; exact q1)
        obtain ⟨bW', hb9⟩ := of_woL hbw
        refine k H9 W' E e1 e2 (fun cl hcl => ?_) (gW8.trans ?_) hP9 ⟨d0, m0, n0, hb9, q2, q3, q4, by omega⟩ bW'
        · rcases e3 with e3 | ⟨cl', e3, e4⟩
          · rw [e3] at hcl
            cases hcl
          · rw [e3] at hcl
            cases hcl
            exact (hrok _ _ e4).2
        · have e : ∀ (G : Hp) (W : List Addr), woL (W ++ [b]) G = woL [b] (woL W G) := fun G W => by rw [woL_app, woL_comm]
          rw [e, e]
          exact g9.woL fun x hx => by
            rw [List.mem_singleton.mp hx]
            exact .lst hbw
end
end SW


set_option maxHeartbeats 2000000
namespace SW
open PySem PySem.Spec PyProof.Rows L2 He LamX NdefX
open SW.M (Ent Tb Oc)
/-! ## drawn worlds -/
structure GoodT (T : Tb Str) : Prop where
  mades : Mades T.es
  few : T.es.length ≤ 8
  reg : ∀ n o, o ∈ T.rg n → n ∈ M.names T.es ∧ o ∈ M.names T.es ∧ M.sworn T.es n = true
  nd : ∀ n, (T.rg n).Nodup
  acyc : M.Acyc T
  hooks : WfH T.es
  five : ∃ L : List Str, L.length ≤ 5 ∧ ∀ m ∈ meths T.es, m ∈ L
theorem GoodT.wf {T : Tb Str} (g : GoodT T) : Wf T.es := g.mades.wf (Nat.le_trans g.few (by decide))
theorem GoodT.wfT {T : Tb Str} (g : GoodT T) : WfT T where
  toWf := g.wf
  reg := fun n o h => (g.reg n o h).2.1
  regs := fun n => Nat.le_trans (M.nodup_len (g.nd n) fun o ho => (g.reg n o ho).2.1) g.wf.few
theorem GoodT.wfL {T : Tb Str} (g : GoodT T) : WfL T where
  toWfT := g.wfT
  nx := fun n => by
    unfold M.next
    split
    · refine List.nodup_append.mpr ⟨g.nd n, List.Pairwise.filter _ (show (M.below T.es n).Nodup from List.Pairwise.filter _ g.wf.nd), fun a ha b hb e => ?_⟩
      have := (List.mem_filter.mp hb).2
      rw [← e] at this
      simp [ha] at this
    · exact List.nodup_nil
theorem GoodT.admit {T : Tb Str} (g : GoodT T) {n o : Str} (hn : n ∈ M.names T.es) (ho : o ∈ M.names T.es) (hno : n ≠ o) (hs : M.sworn T.es n = true) (hr : ¬ M.Reach (fun a b => b ∈ M.next T a) o n) (hnr : o ∉ T.rg n) : GoodT (M.admit T n o) where
  mades := g.mades
  few := g.few
  reg := fun a c h => by
    have h : c ∈ (if a = n then T.rg n ++ [o] else T.rg a) := h
    split at h
    · rename_i e
      subst e
      rcases List.mem_append.mp h with h | h
      · exact g.reg _ _ h
      · rw [List.mem_singleton.mp h]
        exact ⟨hn, ho, hs⟩
    · exact g.reg _ _ h
  nd := fun a => by
    show (if a = n then T.rg n ++ [o] else T.rg a).Nodup
    split
    · exact List.nodup_append.mpr ⟨g.nd n, by simp, fun x hx y hy e => hnr (by rw [← List.mem_singleton.mp hy, ← e]; exact hx)⟩
    · exact g.nd a
  acyc := M.acyc_admit g.acyc hs hno hr
  hooks := g.hooks
  five := g.five
section
variable {P : Program} {w : World} {K : PySem.W.Frag} {mg : Str → Option Value} {base : Heap}
def spSome (K : PySem.W.Frag) : Sp := fun vs H Q _ => ∃ (b p : Addr) (W : List Addr) (T : Tb Str) (N m : Nat), vs = [.ref b, .ref p, .int m] ∧ PlO H [] W p T ∧ BagAt H b N ∧ N ≤ 700000 ∧ m ≤ 100 ∧ b ∉ W ∧ GoodT T ∧ M.names T.es ≠ [] ∧
  ∀ H' T', T'.es = T.es → GoodT T' → Gr (tt K) (woL (W ++ [b]) H) (woL (W ++ [b]) H') → PlO H' [] W p T' → BagAt H' b (N + 2 * m) → Q .non H'
theorem sc__law_some_admitted : FnScope ["_law_bag_here", "_law_plain", "_law_turns", "_law_turn", "_law_name", "_law_other"] ["_law_bag_here", "_law_plain", "_law_turns"] (defScope s__law_some_admitted) := ⟨rfl, rfl, rfl, by decide +kernel, rfl, by decide +kernel, by decide +kernel⟩
theorem ok__law_some_admitted (c : Tx K mg base) : Ok P w K mg base 5 (ga K "_law_some_admitted") ["_law_bag_here", "_law_plain", "_law_turns"] (spSome K) := by
  refine Ok.mk' (fd__law_some_admitted c) sc__law_some_admitted (fun _ _ _ _ _ _ us hl => match us, hl with | [_, _, _], _ => rfl) (fun vs H Q E h => ?_) (fun cdv A outer s H vs Q E hr h => ?_)
  · obtain ⟨b, p, W, T, N, m, rfl, _⟩ := h
    rfl
  · obtain ⟨b, p, W, T, N, m, rfl, hP, hb, hN, hm, hbW, hG, hne, k⟩ := h
    refine ⟨_, (pss_one (ps_for PassesOwn.never rfl (pi_range1 rfl (n_range c) (pa_cons (pv 2) pa_nil)) (pg_name (i := 3) sc__law_some_admitted.nd rfl (Or.inl rfl)) (pss_cons (ps_par (i := 4) (j := 5) rfl sc__law_some_admitted.nd rfl rfl (by decide) rfl rfl (pa_cons ((ok__law_pick c).call hr (by decide) (g__law_pick c) (pa_cons (pv 0) (pa_cons (pe_dget (hu_of hr) (pv 1) pe_str (fun _ _ => rfl)) pa_nil))) (pa_cons ((ok__law_pick c).call hr (by decide) (g__law_pick c) (pa_cons (pv 0) (pa_cons (pe_dget (hu_of hr) (pv 1) pe_str (fun _ _ => rfl)) pa_nil))) pa_nil)) (by rfl)) (pss_one (ps_if (pt_val ((ok__law_admits c).call hr (by decide) (g__law_admits c) (pa_cons (pv 1) (pa_cons (pv 4) (pa_cons (pv 5) pa_nil))))) (pss_one (ps_expr ((ok__law_admit c).call hr (by decide) (g__law_admit c) (pa_cons (pv 1) (pa_cons (pv 4) (pa_cons (pv 5) pa_nil)))))) pss_nil))))), ?_⟩
    refine ⟨_, rfl, (m : Int), rfl, by omega, by omega, ?_⟩
    rw [show (m : Int).toNat = m from rfl]
    refine for_range (n := m) (fun i σ H' => BagAt H' b (N + 2 * i) ∧ ∃ (T' : Tb Str) (x3 x4 x5 : Option V), σ = [some (.ref b), some (.ref p), some (.int m), x3, x4, x5] ∧ T'.es = T.es ∧ GoodT T' ∧ Gr (tt K) (woL (W ++ [b]) H) (woL (W ++ [b]) H') ∧ PlO H' [] W p T') ⟨hb, T, _, _, _, rfl, rfl, hG, Gr.refl _, hP⟩ ?_ ?_
    · rintro i σ H1 hi ⟨hb1, T1, x3, x4, x5, rfl, e1, hG1, g1, hP1⟩
      have hne1 : M.names T1.es ≠ [] := by rw [e1]; exact hne
      obtain ⟨nn, q1, q2⟩ := ((hP1.bag hb1 hbW).at).names
      have few := hG1.wf.few
      have q1' : DGet H1 p (.str "names") (some (.ref nn)) := dget_mono (gr_of_woL (T := tt K)) q1
      refine ⟨_, rfl, _, rfl, p, _, rfl, q1', b, nn, sv (M.names T1.es), N + 2 * i, rfl, hb1, by omega, q2, by cases h : M.names T1.es <;> simp_all [sv], by rw [sv_len]; exact Nat.le_trans few (by decide), fun H2 x hx g2 hb2 => ?_⟩
      obtain ⟨n, hn, rfl⟩ := List.mem_map.mp hx
      obtain ⟨hP2, gW2⟩ := hP1.drawn hb1 hbW g2 hb2
      obtain ⟨nn2, q3, q4⟩ := ((hP2.bag hb2 hbW).at).names
      have q3' : DGet H2 p (.str "names") (some (.ref nn2)) := dget_mono (gr_of_woL (T := tt K)) q3
      refine ⟨_, rfl, _, rfl, p, _, rfl, q3', b, nn2, sv (M.names T1.es), N + 2 * i + 1, rfl, hb2, by omega, q4, by cases h : M.names T1.es <;> simp_all [sv], by rw [sv_len]; exact Nat.le_trans few (by decide), fun H3 x hx g3 hb3 => ?_⟩
      obtain ⟨o, ho, rfl⟩ := List.mem_map.mp hx
      obtain ⟨hP3, gW3⟩ := hP2.drawn hb2 hbW g3 hb3
      refine ⟨_, _, rfl, _, rfl, _, rfl, _, rfl, p, T1, n, o, rfl, hP3.here, hG1.wfL, hn, ho, fun H4 c1 g4 hc1 => ⟨_, rfl, ?_⟩⟩
      obtain ⟨hP4, _⟩ := hP3.gr g4
      have hb4 := hb3.mono g4 (Nat.le_refl _)
      have gW4 : Gr (tt K) (woL (W ++ [b]) H3) (woL (W ++ [b]) H4) := ((hP3.bag hb3 hbW).gr g4).2
      have gall := ((g1.trans gW2).trans gW3).trans gW4
      cases c1 with
      | false => exact iteF ⟨hb4.mono (Gr.refl (T := tt K) _) (by omega), T1, _, _, _, rfl, e1, hG1, gall, hP4⟩
      | true =>
        obtain ⟨r1, r2, r3⟩ := hc1.mp rfl
        refine iteT ⟨_, rfl, _, rfl, _, rfl, p, [], W, T1, n, o, rfl, hP4, hG1.wf.nd, hn, Nat.le_trans (hG1.wfT.regs n) (by decide), fun H5 g5 hP5 g5' => ?_⟩
        obtain ⟨d0, m0, n0, z1, z2, z3, z4, z5⟩ := hb4
        have hbw := g5'.lst (show woL W H4 b = some (.lst [.int d0, .int m0, .int n0]) by rw [woL_out hbW]; exact z1)
        have g5b : Gr (tt K) (woL (W ++ [b]) H4) (woL (W ++ [b]) H5) := by
          have e : ∀ (G : Hp) (W : List Addr), woL (W ++ [b]) G = woL [b] (woL W G) := fun G W => by rw [woL_app, woL_comm]
          rw [e, e]
          exact g5'.woL fun x hx => by
            rw [List.mem_singleton.mp hx]
            exact .lst hbw
        refine ⟨⟨d0, m0, n0, (of_woL hbw).2, z2, z3, z4, by omega⟩, _, _, _, _, rfl, ?_, ?_, gall.trans g5b, hP5⟩
        · split <;> exact e1
        · split
          · exact hG1
          · rename_i hnr
            exact hG1.admit hn ho r1 r2 r3 hnr
    · rintro σ H1 ⟨hb1, T1, x3, x4, x5, rfl, e1, hG1, g1, hP1⟩
      exact k H1 T1 e1 hG1 g1 hP1 hb1
end
end SW


set_option maxHeartbeats 2000000
namespace SW
open PySem PySem.Spec PyProof.Rows L2 He LamX NdefX
open SW.M (Ent Tb Oc)
def mL : List Str := ["f", "g", "h", "run", "size"]
def nLa : List Str := ["a", "b", "c", "d", "e", "g", "h", "i"]
def nLb : List Str := ["aa", "ab", "a", "ba", "b", "sworn", "f", "z"]
instance : DecidablePred NameOk := fun n => decidable_of_iff (1 ≤ n.length ∧ n.length ≤ 8 ∧ ∀ c ∈ n.cps.toList, c ∈ azS.cps.toList) ⟨fun h => ⟨h.1, h.2.1, h.2.2⟩, fun h => ⟨h.some, h.few, h.az⟩⟩
theorem mL_ok : (∀ m ∈ mL, NameOk m) ∧ mL.Nodup := by decide +kernel
theorem nLa_ok : (∀ m ∈ nLa, NameOk m) ∧ nLa.Nodup ∧ nLa.length = 8 := by decide +kernel
theorem nLb_ok : (∀ m ∈ nLb, NameOk m) ∧ nLb.Nodup ∧ nLb.length = 8 := by decide +kernel
theorem WfH.snoc {es : List En} {E : En} (h : WfH es) (hE : ∀ cl, E.hook = some cl → cl.length ≤ 4 ∧ ∀ c ∈ cl, c.1.length ≤ 5) : WfH (es ++ [E]) := fun F hF => by
  rcases List.mem_append.mp hF with hF | hF
  · exact h F hF
  · rw [List.mem_singleton.mp hF]
    exact hE
theorem meths_snoc {es : List En} {E : En} {L : List Str} (h : ∀ m ∈ meths es, m ∈ L) (hE : ∀ cl, E.hook = some cl → ∀ c ∈ cl, ∀ m ∈ c.1, m ∈ L) : ∀ m ∈ meths (es ++ [E]), m ∈ L := fun m hm => by
  rw [meths_flat, flatE_snoc] at hm
  rcases List.mem_append.mp hm with hm | hm
  · exact h m hm
  · cases e : E.hook with
    | none =>
      rw [e] at hm
      cases hm
    | some cl =>
      rw [e] at hm
      obtain ⟨c, hc, hmc⟩ := List.mem_flatMap.mp hm
      exact hE cl e c hc m hmc
/-- a new object beside it -/
theorem PlO.newB {B : Tbs} {H : Hp} {W : List Addr} {p b a : Addr} {T : Tb Str} {N : Nat} {o : HO} (h : PlO H [] W p T) (hb : BagAt H b N) (ha : H a = none) : PlO (upd H a o) [] W p T ∧ BagAt (upd H a o) b N ∧ Gr B (woL (W ++ [b]) H) (woL (W ++ [b]) (upd H a o)) ∧ a ∉ W ++ [b] ∧ upd H a o a = some o := by
  have n1 : a ∉ W ++ [b] := not_in (H := H) (fun x hx => by
    rcases List.mem_append.mp hx with hx | hx
    · exact (h.1 x hx).mut
    · rw [List.mem_singleton.mp hx]
      exact hb.mut) ha
  exact ⟨(h.gr (Gr.new (T := B) ha)).1, hb.mono (Gr.new (T := B) ha) (Nat.le_refl _), Gr.newW ha n1, n1, upd_same⟩
section
variable {P : Program} {w : World} {K : PySem.W.Frag} {mg : Str → Option Value} {base : Heap}
def spDrawn (K : PySem.W.Frag) : Sp := fun vs H Q _ => ∃ (b : Addr) (N : Nat), vs = [.ref b, .int 6] ∧ BagAt H b N ∧ N ≤ 500000 ∧ ∀ H' p T, Gr (tt K) (woL [b] H) (woL [b] H') → PlAt H' p T → GoodT T → BagAt H' b (N + 1000) → Q (.ref p) H'
theorem sc__law_drawn : FnScope ["_law_bag_here", "_law_most", "_law_plain", "_law_methods_here", "_law_names", "_law_name"] ["_law_bag_here", "_law_most"] (defScope s__law_drawn) := ⟨rfl, rfl, rfl, by decide +kernel, rfl, by decide +kernel, by decide +kernel⟩
theorem ok__law_drawn (c : Tx K mg base) : Ok P w K mg base 6 (ga K "_law_drawn") ["_law_bag_here", "_law_most"] (spDrawn K) := by
  refine Ok.mk' (fd__law_drawn c) sc__law_drawn (fun _ _ _ _ _ _ us hl => match us, hl with | [_, _], _ => rfl) (fun vs H Q E h => ?_) (fun cdv A outer s H vs Q E hr h => ?_)
  · obtain ⟨b, N, rfl, _⟩ := h
    rfl
  · obtain ⟨b, N, rfl, hb, hN, k⟩ := h
    refine ⟨_, (pss_cons (ps_set (i := 2) sc__law_drawn.nd rfl (Or.inl rfl) ((ok__law_new c).call0 hr (by decide) (g__law_new c))) (pss_cons (ps_set (i := 3) sc__law_drawn.nd rfl (Or.inl rfl) (pe_slice (slLK K rfl) (pe_lst (pa_cons pe_str (pa_cons pe_str (pa_cons pe_str (pa_cons pe_str (pa_cons pe_str pa_nil)))))) po_none (po_some ((ok__law_pick c).call hr (by decide) (g__law_pick c) (pa_cons (pv 0) (pa_cons (pe_lst (pa_cons pe_int (pa_cons pe_int (pa_cons pe_int (pa_cons pe_int (pa_cons pe_int (pa_cons pe_int pa_nil))))))) pa_nil)))))) (pss_cons (ps_set (i := 4) sc__law_drawn.nd rfl (Or.inl rfl) ((ok__law_pick c).call hr (by decide) (g__law_pick c) (pa_cons (pv 0) (pa_cons (pe_lst (pa_cons (pe_lst (pa_cons pe_str (pa_cons pe_str (pa_cons pe_str (pa_cons pe_str (pa_cons pe_str (pa_cons pe_str (pa_cons pe_str (pa_cons pe_str pa_nil))))))))) (pa_cons (pe_lst (pa_cons pe_str (pa_cons pe_str (pa_cons pe_str (pa_cons pe_str (pa_cons pe_str (pa_cons pe_str (pa_cons pe_str (pa_cons pe_str pa_nil))))))))) pa_nil))) pa_nil)))) (pss_cons (ps_for PassesOwn.never rfl (piL K rfl (pe_slice (slLK K rfl) (pv 4) po_none (po_some (pe_op op_add pe_int ((ok__law_take c).call hr (by decide) (g__law_take c) (pa_cons (pv 0) (pa_cons (pe_op op_sub (pv 1) pe_int) pa_nil))))))) (pg_name (i := 5) sc__law_drawn.nd rfl (Or.inl rfl)) (pss_one (ps_expr ((ok__law_class c).call hr (by decide) (g__law_class c) (pa_cons (pv 0) (pa_cons (pv 2) (pa_cons (pv 5) (pa_cons (pv 3) pa_nil)))))))) (pss_cons (ps_expr ((ok__law_some_admitted c).call hr (by decide) (g__law_some_admitted c) (pa_cons (pv 0) (pa_cons (pv 2) (pa_cons (pe_callB (call_min2 rfl) (by rfl) (n_min c) (by first | exact PySem.boot_min | exact boot_min | decide +kernel) (pa_cons (pe_op op_mul pe_int (pe_callB (lenK K rfl) (by rfl) (n_len c) (by first | exact PySem.boot_len | exact boot_len | decide +kernel) (pa_cons (pe_dget (hu_of hr) (pv 2) pe_str (fun _ _ => rfl)) pa_nil))) (pa_cons pe_int pa_nil))) pa_nil))))) (pss_one (ps_ret (pv 2)))))))), ?_⟩
    refine ⟨rfl, [], (fun x hx => (by cases hx)), fun H1 W0 p g1 hP1 => ?_⟩
    have mb : MutO H b := hb.mut
    obtain ⟨d0, m0, n0, z1, z2, z3, z4, z5⟩ := hb
    have g1 : Gr (tt K) H (woL W0 H1) := by
      have := g1
      rw [List.append_nil] at this
      exact this
    have hbw := g1.lst z1
    have bW0 : b ∉ W0 := (of_woL hbw).1
    have hb1 : BagAt H1 b N := ⟨d0, m0, n0, (of_woL hbw).2, z2, z3, z4, z5⟩
    have g1b : Gr (tt K) (woL [b] H) (woL (W0 ++ [b]) H1) := by
      have e : woL (W0 ++ [b]) H1 = woL [b] (woL W0 H1) := by rw [woL_app, woL_comm]
      rw [e]
      exact g1.woL fun x hx => by
        rw [List.mem_singleton.mp hx]
        exact .lst hbw
    clear hbw z1 z2 z3 z4 z5 mb
    have mades0 : Mades ([] : List En) := .nil
    refine ⟨by show 5 ≤ sizeLine; decide, fun ml0 hml0 => ⟨_, rfl, by show 6 ≤ sizeLine; decide, fun pl hpl => ?_⟩⟩
    obtain ⟨hP2, hb2, g2, na, hml0'⟩ := hP1.newB (B := tt K) (o := .lst (sv mL)) hb1 hml0
    obtain ⟨hP3, hb3, g3, nb, hpl'⟩ := hP2.newB (B := tt K) (o := .lst [.int 1, .int 2, .int 2, .int 3, .int 0, .int 2]) hb2 hpl
    have hml1 := g3.lst (show woL (W0 ++ [b]) _ ml0 = some (.lst (sv mL)) by rw [woL_out na]; exact hml0')
    refine ⟨b, pl, [.int 1, .int 2, .int 2, .int 3, .int 0, .int 2], N, rfl, hb3, by omega, by rw [woL_out (fun z => nb (List.mem_append_right _ z))]; exact hpl', by simp, by show 6 ≤ 1000; decide, fun H4 x hx g4 hb4 => ?_⟩
    obtain ⟨kx, rfl⟩ : ∃ kx : Nat, x = .int kx := by
      simp only [List.mem_cons, List.not_mem_nil, or_false] at hx
      rcases hx with rfl | rfl | rfl | rfl | rfl | rfl
      · exact ⟨1, rfl⟩
      · exact ⟨2, rfl⟩
      · exact ⟨2, rfl⟩
      · exact ⟨3, rfl⟩
      · exact ⟨0, rfl⟩
      · exact ⟨2, rfl⟩
    obtain ⟨hP4, g4'⟩ := hP3.drawn hb3 bW0 g4 hb4
    have hml4 := (of_woL (g4'.lst hml1)).2
    have gA := ((g1b.trans g2).trans g3).trans g4'
    refine ⟨_, rfl, ml0, _, rfl, SqL.of hml4, fun ml hml => ?_⟩
    rw [cut_take, show (sv mL).take kx = sv (mL.take kx) by unfold sv; rw [List.map_take]]
    obtain ⟨hP5, hb5, g5, n5, hml5⟩ := hP4.newB (B := tt K) (o := .lst (sv (mL.take kx))) hb4 hml
    have hml6 : woL (W0 ++ [b]) (upd H4 ml (.lst (sv (mL.take kx)))) ml = some (.lst (sv (mL.take kx))) := by rw [woL_out n5]; exact hml5
    clear hml0' hml1 hml4 hml5 hP1 hP2 hP3 hP4 hb1 hb2 hb3 hb4
    have gB := gA.trans g5
    generalize upd H4 ml (.lst (sv (mL.take kx))) = H5 at *
    refine ⟨_, rfl, by show 8 ≤ sizeLine; decide, fun la hla => ⟨by show 8 ≤ sizeLine; decide, fun lb hlb => ⟨by show 2 ≤ sizeLine; decide, fun lp hlp => ?_⟩⟩⟩
    obtain ⟨hP6, hb6, g6, n6, hla6⟩ := hP5.newB (B := tt K) (o := .lst (sv nLa)) hb5 hla
    obtain ⟨hP7, hb7, g7, n7, hlb7⟩ := hP6.newB (B := tt K) (o := .lst (sv nLb)) hb6 hlb
    obtain ⟨hP8, hb8, g8, n8, hlp8⟩ := hP7.newB (B := tt K) (o := .lst [.ref la, .ref lb]) hb7 hlp
    have hml8 := g8.lst (g7.lst (g6.lst hml6))
    have hla8 := g8.lst (g7.lst (show woL (W0 ++ [b]) (upd H5 la (.lst (sv nLa))) la = some (.lst (sv nLa)) by rw [woL_out n6]; exact hla6))
    have hlb8 := g8.lst (show woL (W0 ++ [b]) (upd (upd H5 la (.lst (sv nLa))) lb (.lst (sv nLb))) lb = some (.lst (sv nLb)) by rw [woL_out n7]; exact hlb7)
    have gC := ((gB.trans g6).trans g7).trans g8
    refine ⟨b, lp, [.ref la, .ref lb], N + 1, rfl, hb8, by omega, by rw [woL_out (fun z => n8 (List.mem_append_right _ z))]; exact hlp8, by simp, by show 2 ≤ 1000; decide, fun H9 x hx g9 hb9 => ?_⟩
    obtain ⟨hP9, g9'⟩ := hP8.drawn hb8 bW0 g9 hb9
    have gD := gC.trans g9'
    have hml9 := g9'.lst hml8
    obtain ⟨nm, NL, rfl, hnm, hNL, ndL, h8⟩ : ∃ nm NL, x = .ref nm ∧ woL (W0 ++ [b]) H9 nm = some (.lst (sv NL)) ∧ (∀ m ∈ NL, NameOk m) ∧ NL.Nodup ∧ NL.length = 8 := by
      simp only [List.mem_cons, List.not_mem_nil, or_false] at hx
      rcases hx with rfl | rfl
      · exact ⟨la, nLa, rfl, g9'.lst hla8, nLa_ok.1, nLa_ok.2.1, nLa_ok.2.2⟩
      · exact ⟨lb, nLb, rfl, g9'.lst hlb8, nLb_ok.1, nLb_ok.2.1, nLb_ok.2.2⟩
    clear hla6 hlb7 hlp8 hml8 hla8 hlb8 hml6 hP5 hP6 hP7 hP8 hb5 hb6 hb7 hb8 gA gB gC
    refine ⟨_, rfl, _, rfl, _, rfl, _, _, rfl, rfl, ?_⟩
    refine ⟨b, 5, N + 1 + 1, rfl, hb9, by omega, by decide, by decide, fun H10 r hr' g10 hb10 => ⟨_, _, rfl, rfl, _, rfl, nm, sv NL, rfl, ?_, fun ns hns => ?_⟩⟩
    · exact SqL.of (of_woL ((hP9.drawn hb9 bW0 g10 hb10).2.lst hnm)).2
    obtain ⟨hP10, g10'⟩ := hP9.drawn hb9 bW0 g10 hb10
    have ec : cutV (sv NL) none (some (2 + (r : Int))) = sv (NL.take (2 + r)) := by
      rw [show (some (2 + (r : Int)) : Option Int) = some ((2 + r : Nat) : Int) by congr 1 <;> omega, cut_take]
      unfold sv
      rw [List.map_take]
    rw [ec]
    obtain ⟨hP11, hb11, g11, n11, hns11⟩ := hP10.newB (B := tt K) (o := .lst (sv (NL.take (2 + r)))) hb10 hns
    have gE := (gD.trans g10').trans g11
    have hns12 : woL (W0 ++ [b]) (upd H10 ns (.lst (sv (NL.take (2 + r))))) ns = some (.lst (sv (NL.take (2 + r)))) := by
      rw [woL_out n11]
      exact hns11
    have hml12 := g11.lst (g10'.lst hml9)
    clear hns11 hP10 hb10 hml9 hP9 hb9 hnm
    generalize upd H10 ns (.lst (sv (NL.take (2 + r)))) = Hb at *
    refine ⟨_, rfl, ⟨_, SqL.of (of_woL hns12).2⟩, ?_⟩
    have hNz : (NL.take (2 + r)).length = 2 + r := by
      rw [List.length_take]
      omega
    have h2r : (NL.take (2 + r)).Nodup := (List.take_sublist _ _).nodup ndL
    have hNo : ∀ m ∈ NL.take (2 + r), NameOk m := fun m hm => hNL m (List.mem_of_mem_take hm)
    generalize NL.take (2 + r) = NS at *
    refine for_list (K := K) (a := ns) (xs := sv NS) (fun i σ H' => ∃ (Wi : List Addr) (es : List En) (x5 : Option V), σ = [some (.ref b), some (.int 6), some (.ref p), some (.ref ml), some (.ref nm), x5] ∧ PlO H' [] Wi p ⟨es, fun _ => []⟩ ∧ BagAt H' b (N + 3 + 100 * i) ∧ b ∉ Wi ∧ Gr (tt K) (woL (W0 ++ [b]) Hb) (woL (Wi ++ [b]) H') ∧
        Mades es ∧ M.names es = NS.take i ∧ WfH es ∧ ∀ m ∈ meths es, m ∈ mL.take kx) ⟨W0, [], _, rfl, hP11, hb11, bW0, Gr.refl _, mades0, rfl, fun E hE => (by cases hE), fun m hm => (by cases hm)⟩ (fun i σ H' _ ⟨Wi, es, x5, e, _, _, _, g, _⟩ => SqL.of (of_woL (g.lst hns12)).2) ?_ ?_
    · rintro i v σ H' hi ⟨Wi, es, x5, rfl, hPi, hbi, bWi, gi, mi, ni, wi, ti⟩
      obtain ⟨n, hn, rfl⟩ := sv_at hi
      have hil := (List.getElem?_eq_some_iff.mp hn).1
      have hlen : es.length = i := by
        have := congrArg List.length ni
        unfold M.names at this
        rw [List.length_map, List.length_take] at this
        omega
      have ets : NS.take (i + 1) = NS.take i ++ [n] := by rw [List.take_succ, hn] <;> rfl
      refine ⟨_, rfl, _, rfl, _, rfl, _, rfl, b, p, ml, n, Wi, ⟨es, fun _ => []⟩, N + 3 + 100 * i, mL.take kx, rfl, hPi, hbi, by omega, bWi, mi, by show es.length ≤ 10; omega, ?_, hNo n (List.mem_of_getElem? hn), rfl, gi.lst hml12, fun m hm => mL_ok.1 m (List.mem_of_mem_take hm), (List.take_sublist _ _).nodup mL_ok.2, by rw [List.length_take]; show min kx 5 ≤ 5; omega, fun H2 W2 E1 el eok ehk g2' hP2' hb2' bW2 => ?_⟩
      · show n ∉ M.names es
        rw [ni]
        intro z
        have h2r' := h2r
        rw [← List.take_append_drop i NS, drop_at hn] at h2r'
        exact (List.nodup_append.mp h2r').2.2 n z n List.mem_cons_self rfl
      · refine ⟨W2, es ++ [E1], _, rfl, hP2', hb2'.mono (Gr.refl (T := tt K) _) (by omega), bW2, gi.trans g2', .snoc mi eok, ?_, wi.snoc fun cl e => ⟨(ehk cl e).1, fun c hc => ((ehk cl e).2 c hc).1⟩, meths_snoc ti fun cl e c hc => ((ehk cl e).2 c hc).2⟩
        rw [ets, ← ni, ← el]
        unfold M.names
        rw [List.map_append] <;> rfl
    · rintro σ H' ⟨Wi, es, x5, rfl, hPi, hbi, bWi, gi, mi, ni, wi, ti⟩
      rw [sv_len, hNz] at hbi
      rw [sv_len, List.take_length] at ni
      have hG : GoodT (⟨es, fun _ => []⟩ : Tb Str) := {
        mades := mi
        few := by
          show es.length ≤ 8
          have := congrArg List.length ni
          unfold M.names at this
          rw [List.length_map, hNz] at this
          omega
        reg := fun n o h => by cases h
        nd := fun n => List.nodup_nil
        acyc := M.acyc_below (fun _ _ r => r.toLnOk) mi
        hooks := wi
        five := ⟨mL.take kx, by rw [List.length_take]; show min kx 5 ≤ 5; omega, ti⟩ }
      obtain ⟨nn, q1, q2⟩ := ((hPi.bag hbi bWi).at).names
      have q1' : DGet H' p (.str "names") (some (.ref nn)) := dget_mono (gr_of_woL (T := tt K)) q1
      have hne : M.names es ≠ [] := fun e => by
        rw [e] at ni
        rw [← ni] at hNz
        simp at hNz
        omega
      have q2' : H' nn = some (.lst (sv (M.names es))) := (of_woL q2).2
      refine ⟨_, rfl, _, rfl, _, rfl, p, _, rfl, q1', nn, _, rfl, .inl (SqL.of q2'), _, _, rfl, rfl, ?_, _, _, rfl, ?_⟩
      · exact .inl ⟨by decide, by decide⟩
      rw [sv_len, ni, hNz]
      refine ⟨b, p, Wi, ⟨es, fun _ => []⟩, N + 3 + 100 * (2 + r), min (2 * (2 + r)) 10, ?_, hPi, hbi, by omega, by omega, bWi, hG, hne, fun H2 T' eT hG' g2' hP' hb' => ⟨_, rfl, ?_⟩⟩
      · rw [show (if (10 : Int) < 2 * ((2 + r : Nat) : Int) then (10 : Int) else 2 * ((2 + r : Nat) : Int)) = ((min (2 * (2 + r)) 10 : Nat) : Int) by split <;> omega]
        rfl
      have gF := (gE.trans gi).trans g2'
      refine k H2 p T' (gF.trans (gr_sub fun x hx => List.mem_append_right _ hx)) hP'.here hG' (hb'.mono (Gr.refl (T := tt K) _) (by omega))
end
end SW


set_option maxHeartbeats 2000000
namespace SW
open PySem PySem.Spec PyProof.Rows L2 He LamX NdefX
open SW.M (Ent Tb Oc)
/-- not there before -/
def Fre (H : Hp) (a : Addr) : Prop := ∀ v, H a = some v → ¬ NoTbl v
/-- fresh cells hidden -/
theorem Gr.hide {T : Tbs} {H H' : Hp} {W : List Addr} (g : Gr T H H') (m : ∀ w ∈ W, MutO H' w ∧ Fre H w) : Gr T H (SW.woL W H') := by
  refine ⟨fun b u e n => ?_, fun t => tabs_woL (g.2 t) fun w hw => (m w hw).1⟩
  rw [woL_out]
  · exact g.1 _ _ e n
  · intro z
    exact (m b z).2 u e n
theorem Fre.of {T : Tbs} {H H' : Hp} {a : Addr} (g : Gr T H H') (h : H' a = none) : Fre H a := g.fresh h
theorem lcA {T : Tbs} {J : It} {n : Nat} {G : Hp → Prop} {Y : Nat → Hp → V → Hp → Prop} (w : Walk J n G Y) {B : Type} (bs : List B) (hn : n = bs.length) (hsz : bs.length ≤ 100000) (R : Hp → B → V → Addr → Prop) (hR : ∀ b v a, Mo T fun H => R H b v a) (hRa : ∀ H b v a, R H b v a → ∃ u, H a = some u ∧ NoTbl u)
    {g : TG} {tt : TT} {te : TE} {vs : List Nat} {σ : L2.St} {H1 : Hp} {D : Addr} {Qd : Hp → Prop} (hD : H1 D = none) (hG : ∀ H, Gr T H1 H → G H)
    (hs : ∀ i b x H H', bs[i]? = some b → Gr T H1 H → (∃ ys, H D = some (.lst ys)) → Y i H x H' → ∀ (Kp : V → Hp → Prop) (Ks : Hp → Prop), (∀ y a H4, Gr T H H4 → Fre H a → R (wo D H4) b y a → Kp y H4) →
      g x (wipe σ vs) H' fun σ2 H2 => wipe σ2 vs = wipe σ vs ∧ tt σ2 H2 fun c H3 => if c = true then te σ2 H3 Kp else Ks H3)
    (hd : ∀ H (zs : List (V × Addr)), Gr T H1 H → H D = some (.lst (zs.map (·.1))) → Paired (fun z b => R H b z.1 z.2) zs bs → (zs.map (·.2)).Nodup → (∀ z ∈ zs, Fre H1 z.2) → Qd H) :
    ∃ W : Nat → Nat → Hp → Prop, (∃ m, W 0 m (upd H1 D (.lst []))) ∧ ∀ i m H, W i m H →
      (J.stop i H ∧ Qd H) ∨ (J.go i H ∧ ∃ Nx : Hp → Prop, (∀ H', Nx H' → ∃ m', m' < m ∧ W (i + 1) m' H') ∧ ∀ x H', J.yld i H x H' → g x (wipe σ vs) H' fun σ2 H2 => wipe σ2 vs = wipe σ vs ∧ tt σ2 H2 fun b H3 =>
        if b = true then te σ2 H3 fun y H4 => ∃ acc, H4 D = some (.lst acc) ∧ acc.length < sizeLine ∧ Nx (upd H4 D (.lst (acc ++ [y]))) else Nx H3) := by
  subst hn
  refine lc_it w (fun i H => Gr T H1 H ∧ ∃ zs : List (V × Addr), H D = some (.lst (zs.map (·.1))) ∧ Paired (fun z b => R (wo D H) b z.1 z.2) zs (bs.take i) ∧ (zs.map (·.2)).Nodup ∧ ∀ z ∈ zs, Fre H1 z.2) ⟨Gr.new hD, [], upd_same, by simp; exact .nil, List.nodup_nil, fun z hz => (by cases hz)⟩ (fun i H _ h => hG H h.1) (fun i x H H' hi h y => ?_) (fun H h => ?_)
  · obtain ⟨gr, zs, hy, hp, hnd, hfr⟩ := h
    have hb : bs[i]? = some bs[i] := List.getElem?_eq_getElem hi
    have ht : bs.take (i + 1) = bs.take i ++ [bs[i]] := by rw [List.take_succ, hb] <;> rfl
    refine hs i bs[i] x H H' hb gr ⟨_, hy⟩ y _ _ (fun v a H4 g4 fa r => ?_)
    have hl : (zs.map (·.1)).length ≤ bs.length := by
      rw [List.length_map, prd_len hp, List.length_take]
      omega
    refine ⟨_, g4.lst hy, Nat.lt_of_le_of_lt (Nat.le_trans hl hsz) (by decide), (gr.trans g4).appd (fresh_none hD) (g4.lst hy), zs ++ [(v, a)], by rw [upd_same, List.map_append] <;> rfl, ?_, ?_, ?_⟩
    · rw [ht, wo_upd]
      exact prd_snoc (prd_mono hp fun y b q => hR b _ _ _ _ (g4.wo2 (g4.lst hy)) q) r
    · rw [List.map_append]
      refine List.nodup_append.mpr ⟨hnd, by simp, fun c hc d hd e => ?_⟩
      obtain ⟨z, hz, rfl⟩ := List.mem_map.mp hc
      have hd : d = a := by simpa using hd
      obtain ⟨j, hj⟩ := List.mem_iff_getElem?.mp hz
      obtain ⟨b2, _, r2⟩ := prd_getL hp hj
      obtain ⟨u, hu, hnu⟩ := hRa _ _ _ _ r2
      rw [e, hd] at hu
      exact fa u (of_wo hu).2 hnu
    · intro z hz
      rcases List.mem_append.mp hz with hz | hz
      · exact hfr z hz
      · rw [List.mem_singleton.mp hz]
        exact fun u e nu => fa u (gr.1 _ _ e nu) nu
  · obtain ⟨gr, zs, hy, hp, hnd, hfr⟩ := h
    rw [List.take_length] at hp
    exact hd H zs gr hy (prd_mono hp fun y b q => hR b _ _ _ _ gr_of_wo q) hnd hfr
theorem pairs_kl {H : Hp} {S : Addr → En → Prop} : ∀ {zs : List (V × Addr)} {es : List En}, Paired (fun z (E : En) => ∃ t, z.1 = .ref t ∧ H t = some (.tup [.str E.label, .ref z.2]) ∧ S z.2 E) zs es → ∃ ps : List Addr, zs.map (·.1) = ps.map V.ref ∧ Paired (fun p (kv : Key × V) => H p = some (.tup [kV kv.1, kv.2])) ps (klOf es (zs.map (·.2))) ∧ Paired S (zs.map (·.2)) es
  | [], _, .nil => ⟨[], rfl, .nil, .nil⟩
  | (y, a) :: zs, E :: es, .cons ⟨t, e, h1, h2⟩ r => by
    obtain ⟨ps, i1, i2, i3⟩ := pairs_kl r
    refine ⟨t :: ps, ?_, .cons h1 i2, .cons h2 i3⟩
    show y :: _ = V.ref t :: _
    rw [i1]
    congr 1
theorem klOf_keys : ∀ {es : List En} {las : List Addr}, las.length = es.length → (klOf es las).map (·.1) = (M.names es).map Sum.inr
  | [], [], _ => rfl
  | [], _ :: _, h => by cases h
  | _ :: _, [], h => by cases h
  | E :: es, a :: las, h => by
    show Sum.inr E.label :: (klOf es las).map (·.1) = Sum.inr E.label :: (M.names es).map Sum.inr
    rw [klOf_keys (Nat.succ.inj h)]
theorem klOf_merge {es : List En} {las : List Addr} (h : las.length = es.length) (nd : (M.names es).Nodup) : mergeK [] (klOf es las) = klOf es las := by
  rw [mergeK_nd]
  · rfl
  · rw [List.nil_append, klOf_keys h]
    exact nd_inr nd
theorem klOf_dic {S : En → V → Prop} : ∀ {es : List En} {las : List Addr}, Paired (fun a E => S E (.ref a)) las es → Dic S (klOf es las) es
  | [], _, .nil => .nil
  | E :: es, _, .cons r t => .cons ⟨rfl, r⟩ (klOf_dic t)
def ptS : List Str := ["bases", "own", "rules", "order"]
def ptK (as : List Addr) : List (Key × V) := (ptS.zip as).map fun z => (.inr z.1, .ref z.2)
theorem ptK_put {n2 : Addr} : ∀ {as : List Addr} {i : Nat} {s : Str} (a : Addr), as.length = i → ptS[i]? = some s → putK ((.inr "names", .ref n2) :: ptK as) (.inr s) (.ref a) = (.inr "names", .ref n2) :: ptK (as ++ [a])
  | [], 0, s, a, _, h => by
    cases h
    rfl
  | [_], 1, s, a, _, h => by
    cases h
    rfl
  | [_, _], 2, s, a, _, h => by
    cases h
    rfl
  | [_, _, _], 3, s, a, _, h => by
    cases h
    rfl
  | _ :: _ :: _ :: _ :: _, 3, s, a, h, _ => by
    simp at h
  | _, i + 4, s, a, _, h => by cases h
section
variable {P : Program} {w : World} {K : PySem.W.Frag} {mg : Str → Option Value} {base : Heap}
def spCopy (K : PySem.W.Frag) : Sp := fun vs H Q _ => ∃ (p : Addr) (T : Tb Str), vs = [.ref p] ∧ PlAt H p T ∧ GoodT T ∧ ∀ H' W q, Gr (tt K) H (woL W H') → PlO H' [] W q T → Q (.ref q) H'
theorem sc__law_copy : FnScope ["_law_plain", "_law_found", "_law_part", "_law_name"] ["_law_plain"] (defScope s__law_copy) := ⟨rfl, rfl, rfl, by decide +kernel, rfl, by decide +kernel, by decide +kernel⟩
theorem ok__law_copy (c : Tx K mg base) : Ok P w K mg base 1 (ga K "_law_copy") ["_law_plain"] (spCopy K) := by
  refine Ok.mk' (fd__law_copy c) sc__law_copy (fun _ _ _ _ _ _ us hl => match us, hl with | [_], _ => rfl) (fun vs H Q E h => ?_) (fun cdv A outer s H vs Q E hr h => ?_)
  · obtain ⟨p, T, rfl, _⟩ := h
    rfl
  · obtain ⟨p, T, rfl, hP, hG, k⟩ := h
    refine ⟨_, (pss_cons (ps_set (i := 1) sc__law_copy.nd rfl (Or.inl rfl) (pe_disp (pps_cons pe_str (pe_callTy (listK K rfl) (by rfl) (n_list c) (by first | exact PySem.boot_list | exact boot_list | decide +kernel) (pa_cons (pe_dget (hu_of hr) (pv 0) pe_str (fun _ _ => rfl)) pa_nil)) pps_nil) (by rfl) (by rfl) (fun z => by cases z) (by decide))) (pss_cons (ps_for PassesOwn.never rfl (piL K rfl (pe_lst (pa_cons pe_str (pa_cons pe_str (pa_cons pe_str (pa_cons pe_str pa_nil)))))) (pg_name (i := 2) sc__law_copy.nd rfl (Or.inl rfl)) (pss_one (ps_dput (hu_of hr) (pv 1) (pv 2) (pe_callTy call_dictD (by rfl) (n_dict c) (by first | exact PySem.boot_dict | exact boot_dict | decide +kernel) (pa_cons (pe_dget (hu_of hr) (pv 0) (pv 2) (fun _ _ => rfl)) pa_nil)) rfl))) (pss_cons (ps_dput (hu_of hr) (pv 1) pe_str (pe_callTy (dictPK K rfl rfl) (by rfl) (n_dict c) (by first | exact PySem.boot_dict | exact boot_dict | decide +kernel) (pa_cons (pe_lc (own := [("_law_name", 3)]) (g := (gName 3)) (tt := tYes) rfl sc__law_copy.nd (piL K rfl (pe_dget (hu_of hr) (pv 0) pe_str (fun _ _ => rfl))) (blkOk_by (N := ["_law_plain", "_law_found", "_law_part", "_law_name"]) (sc := defScope s__law_copy) (by decide +kernel)) (fun _ _ _ _ _ => (pg_name (i := 3) sc__law_copy.nd rfl (by first | exact Or.inl rfl | exact Or.inr rfl))) (fun _ _ _ _ _ => by exact pts_nil) (fun _ _ _ _ _ => by exact (pe_tup (pa_cons (pv 3) (pa_cons (pe_callTy call_dictD (by rfl) (n_dict c) (by first | exact PySem.boot_dict | exact boot_dict | decide +kernel) (pa_cons (pe_dget (hu_of hr) (pe_dget (hu_of hr) (pv 0) pe_str (fun _ _ => rfl)) (pv 3) (fun _ _ => rfl)) pa_nil)) pa_nil))))) pa_nil)) rfl) (pss_cons (ps_dput (hu_of hr) (pv 1) pe_str (pe_callTy (dictPK K rfl rfl) (by rfl) (n_dict c) (by first | exact PySem.boot_dict | exact boot_dict | decide +kernel) (pa_cons (pe_lc (own := [("_law_name", 3)]) (g := (gName 3)) (tt := tYes) rfl sc__law_copy.nd (piL K rfl (pe_dget (hu_of hr) (pv 0) pe_str (fun _ _ => rfl))) (blkOk_by (N := ["_law_plain", "_law_found", "_law_part", "_law_name"]) (sc := defScope s__law_copy) (by decide +kernel)) (fun _ _ _ _ _ => (pg_name (i := 3) sc__law_copy.nd rfl (by first | exact Or.inl rfl | exact Or.inr rfl))) (fun _ _ _ _ _ => by exact pts_nil) (fun _ _ _ _ _ => by exact (pe_tup (pa_cons (pv 3) (pa_cons (pe_callTy (listK K rfl) (by rfl) (n_list c) (by first | exact PySem.boot_list | exact boot_list | decide +kernel) (pa_cons (pe_dget (hu_of hr) (pe_dget (hu_of hr) (pv 0) pe_str (fun _ _ => rfl)) (pv 3) (fun _ _ => rfl)) pa_nil)) pa_nil))))) pa_nil)) rfl) (pss_one (ps_ret (pv 1))))))), ?_⟩
    have hP0 := hP
    obtain ⟨kvs, n, b, o, s1, r, d, l, kb, ko, ks, kr, kd, kl, h1, h2, h3, ⟨b1, b2⟩, ⟨o1, o2⟩, ⟨s2, s3⟩, ⟨r1, r2⟩, ⟨d1, d2⟩, ⟨l1, l2⟩⟩ := hP0
    intro q hq
    have gq : Gr (tt K) H (upd H q (.dK [])) := Gr.new hq
    have fq : Fre H q := fresh_none hq
    refine ⟨_, rfl, p, _, rfl, dget_is (gq.dK h1) h2.n, n, _, rfl, .inl (SqL.of (gq.lst h3)), fun n2 hn2 => ?_⟩
    have qn : q ≠ n2 := ne_of_none upd_same hn2
    have fn : Fre H n2 := Fre.of gq hn2
    refine ⟨by rw [upd_ne qn, upd_same], [(.inr "names", .ref n2)], rfl, by show 1 ≤ 15; decide, ?_⟩
    have gA : Gr (tt K) H (upd (upd (upd H q (.dK [])) n2 (.lst (sv (M.names T.es)))) q (.dK [(.inr "names", .ref n2)])) := (gq.trans (Gr.new hn2)).mutK fq (by rw [upd_ne qn, upd_same])
    have cq : (upd (upd (upd H q (.dK [])) n2 (.lst (sv (M.names T.es)))) q (.dK [(.inr "names", .ref n2)])) q = some (.dK [(.inr "names", .ref n2)]) := upd_same
    have cn : (upd (upd (upd H q (.dK [])) n2 (.lst (sv (M.names T.es)))) q (.dK [(.inr "names", .ref n2)])) n2 = some (.lst (sv (M.names T.es))) := by rw [upd_ne qn.symm, upd_same]
    rw [show mergeK [] [((Sum.inr "names" : Key), V.ref n2)] = [((Sum.inr "names" : Key), V.ref n2)] from rfl]
    generalize upd (upd (upd H q (.dK [])) n2 (.lst (sv (M.names T.es)))) q (.dK [(.inr "names", .ref n2)]) = H1 at *
    refine ⟨by show 4 ≤ sizeLine; decide, fun l5 hl5 => ⟨l5, rfl, ⟨_, SqL.of upd_same⟩, ?_⟩⟩
    have q5 : q ≠ l5 := ne_of_none cq hl5
    have n5 : n2 ≠ l5 := ne_of_none cn hl5
    have f5 : Fre H l5 := Fre.of gA hl5
    have hPK : ∀ (i : Nat) (s : Str), ptS[i]? = some s → ∃ a kv, [kb, ko, kr, kd][i]? = some kv ∧ DGet H p (.str s) (some (.ref a)) ∧ H a = some (.dK kv) := fun i s hs => by
      match i, hs with
      | 0, hs =>
        cases hs
        exact ⟨b, kb, rfl, dget_is h1 h2.b, b1⟩
      | 1, hs =>
        cases hs
        exact ⟨o, ko, rfl, dget_is h1 h2.o, o1⟩
      | 2, hs =>
        cases hs
        exact ⟨r, kr, rfl, dget_is h1 h2.r, r1⟩
      | 3, hs =>
        cases hs
        exact ⟨d, kd, rfl, dget_is h1 h2.d, d1⟩
    refine for_list (K := K) (a := l5) (xs := sv ptS) (fun i σ H' => ∃ (as : List Addr) (x2 x3 : Option V), σ = [some (.ref p), some (.ref q), x2, x3] ∧ Gr (tt K) H H' ∧ H' l5 = some (.lst (sv ptS)) ∧ H' n2 = some (.lst (sv (M.names T.es))) ∧ H' q = some (.dK ((.inr "names", .ref n2) :: ptK as)) ∧
        Paired (fun a kv => H' a = some (.dK kv) ∧ Fre H a) as ([kb, ko, kr, kd].take i) ∧ (q :: n2 :: as).Nodup) ⟨[], _, _, rfl, gA.trans (Gr.new hl5), upd_same, by rw [upd_ne n5]; exact cn, by rw [upd_ne q5]; exact cq, .nil, by simp [qn]⟩ (fun i σ H' _ ⟨_, _, _, _, _, h, _⟩ => SqL.of h) ?_ ?_
    · rintro i v σ H2 hi ⟨as, x2, x3, rfl, g2, c5, c2, cq2, hp2, nd2⟩
      obtain ⟨s, hs, rfl⟩ := sv_at hi
      obtain ⟨a, kv, e1, e2, e3⟩ := hPK i s hs
      have hil : as.length = i := by
        rw [prd_len hp2, List.length_take]
        have := (List.getElem?_eq_some_iff.mp e1).1
        omega
      refine ⟨_, rfl, _, rfl, p, _, rfl, dget_mono g2 e2, a, kv, rfl, .inl (g2.dK e3), fun a2 ha2 => ?_⟩
      have nq : q ≠ a2 := ne_of_none cq2 ha2
      have nn : n2 ≠ a2 := ne_of_none c2 ha2
      have n5' : l5 ≠ a2 := ne_of_none c5 ha2
      have q5' : q ≠ l5 := q5
      refine ⟨_, rfl, _, rfl, q, _, rfl, DPut.k (k := .inr s) (by rw [upd_ne nq]; exact cq2) (by
        show (ptK as).length + 1 < sizeLine
        unfold ptK
        rw [List.length_map, List.length_zip]
        exact Nat.lt_of_le_of_lt (Nat.add_le_add_right (Nat.min_le_left _ _) 1) (show 5 < sizeLine by decide)), ?_⟩
      rw [ptK_put a2 hil hs]
      refine ⟨as ++ [a2], _, _, rfl, ((g2.trans (Gr.new ha2)).mutK fq (by rw [upd_ne nq]; exact cq2)), by rw [upd_ne q5.symm, upd_ne n5']; exact c5, by rw [upd_ne qn.symm, upd_ne nn]; exact c2, upd_same, ?_, ?_⟩
      · rw [List.take_succ, e1]
        refine prd_snoc (prd_mem hp2 fun c kv hc h => ⟨?_, h.2⟩) ⟨by rw [upd_ne nq.symm, upd_same], Fre.of g2 ha2⟩
        have c1 : c ≠ q := fun e => (List.nodup_cons.mp nd2).1 (by rw [← e]; simp [hc])
        rw [upd_ne c1, upd_ne (ne_of_none h.1 ha2)]
        exact h.1
      · have e : q :: n2 :: (as ++ [a2]) = (q :: n2 :: as) ++ [a2] := rfl
        rw [e]
        refine List.nodup_append.mpr ⟨nd2, by simp, fun x hx y hy z => ?_⟩
        rw [List.mem_singleton.mp hy] at z
        simp only [List.mem_cons] at hx
        rcases hx with rfl | rfl | hx
        · exact nq z
        · exact nn z
        · obtain ⟨j, hj⟩ := List.mem_iff_getElem?.mp hx
          obtain ⟨kv2, _, h, _⟩ := prd_getL hp2 hj
          exact ne_of_none h ha2 z
    · rintro σ H2 ⟨as, x2, x3, rfl, g2, c5, c2, cq2, hp2, nd2⟩
      clear c5 hPK
      obtain ⟨bb, oo, rr, dd, rfl, hb2, ho2, hr2, hd2⟩ : ∃ bb oo rr dd, as = [bb, oo, rr, dd] ∧ (H2 bb = some (.dK kb) ∧ Fre H bb) ∧ (H2 oo = some (.dK ko) ∧ Fre H oo) ∧ (H2 rr = some (.dK kr) ∧ Fre H rr) ∧ (H2 dd = some (.dK kd) ∧ Fre H dd) := by
        have hp3 : Paired (fun a kv => H2 a = some (.dK kv) ∧ Fre H a) as [kb, ko, kr, kd] := hp2
        cases hp3 with
        | cons r1 t => cases t with
          | cons r2 t => cases t with
            | cons r3 t => cases t with
              | cons r4 t => cases t with
                | nil => exact ⟨_, _, _, _, rfl, r1, r2, r3, r4⟩
      clear hp2
      have hs1 := hG.wf.nd
      refine ⟨_, rfl, p, _, rfl, dget_mono g2 (dget_is h1 h2.n), n, rfl, ⟨_, SqL.of (g2.lst h3)⟩, fun D hD => ?_⟩
      refine lcA (T := tt K) (walk_list (K := K) (a := n) (xs := sv (M.names T.es))) T.es (by simp [sv, M.names]) (Nat.le_trans hG.few (by decide)) (fun G E y a => ∃ t, y = .ref t ∧ G t = some (.tup [.str E.label, .ref a]) ∧ G a = some (.dK (marksKV E.marks)) ∧ a ∉ [q, n2, bb, oo, rr, dd]) (fun E y a G G' g ⟨t, h1, h2, h3, h4⟩ => ⟨t, h1, g.tup h2, g.dK h3, h4⟩) (fun G E y a ⟨t, h1, h2, h3, h4⟩ => ⟨_, h3, nt_dK⟩) hD (fun G g => g.sqL (SqL.of (g2.lst h3))) (fun i E x G G' hi g ⟨ys, hys⟩ y Kp Ks kp => ?_) (fun G zs g hl hz hnd hfr => ?_)
      · obtain ⟨rfl, hx⟩ := y
        obtain ⟨o', ho', rfl⟩ := sv_at hx
        have eo : o' = E.label := by
          unfold M.names at ho'
          rw [List.getElem?_map, hi] at ho'
          exact (Option.some.inj ho').symm
        subst eo
        have gG := g2.trans g
        obtain ⟨sd, q1, q2⟩ := hP.signs
        obtain ⟨a0, E', q3, q4, q5, q6, q7⟩ := q2 E.label (List.mem_map.mpr ⟨E, List.mem_of_getElem? hi, rfl⟩)
        have eE : E' = E := by
          rw [find_at hs1 hi] at q5
          exact (Option.some.inj q5).symm
        subst eE
        refine ⟨rfl, yesT ⟨_, rfl, _, rfl, p, _, rfl, dget_mono gG q1, _, rfl, sd, _, rfl, dget_mono gG q3, a0, _, rfl, .inl (gG.dK q4), fun a ha => ⟨by show 2 ≤ sizeLine; decide, fun t ht => ?_⟩⟩⟩
        have aD : a ≠ D := fun e => by
          rw [e, hys] at ha
          cases ha
        have tD : t ≠ D := fun e => by
          rw [e, upd_ne aD.symm, hys] at ht
          cases ht
        have at' : a ≠ t := ne_of_none upd_same ht
        refine kp _ a _ ((Gr.new ha).trans (Gr.new ht)) (fresh_none ha) ⟨t, rfl, by rw [wo_ne tD, upd_same], by rw [wo_ne aD, upd_ne at', upd_same], fun z => ?_⟩
        simp only [List.mem_cons, List.not_mem_nil, or_false] at z
        rcases z with rfl | rfl | rfl | rfl | rfl | rfl
        · exact ne_of_none (g.dK cq2) ha rfl
        · exact ne_of_none (g.lst c2) ha rfl
        · exact ne_of_none (g.dK hb2.1) ha rfl
        · exact ne_of_none (g.dK ho2.1) ha rfl
        · exact ne_of_none (g.dK hr2.1) ha rfl
        · exact ne_of_none (g.dK hd2.1) ha rfl
      · obtain ⟨ps, e1, e2, e3⟩ := pairs_kl (S := fun a E => G a = some (.dK (marksKV E.marks)) ∧ a ∉ [q, n2, bb, oo, rr, dd]) hz
        have hlen : (zs.map (·.2)).length = T.es.length := by rw [List.length_map, prd_len hz]
        refine ⟨D, ps, klOf T.es (zs.map (·.2)), rfl, SqL.of (by rw [← e1]; exact hl), prd_mono e2 (fun _ _ h => SqT.of h), fun ss hss => ?_⟩
        rw [klOf_merge hlen hs1]
        have gG := g2.trans g
        have fss : Fre H ss := Fre.of gG hss
        have qss : q ≠ ss := ne_of_none (g.dK cq2) hss
        refine ⟨_, rfl, q, _, rfl, DPut.k (k := .inr "signs") (by rw [upd_ne qss]; exact g.dK cq2) (by show 5 < sizeLine; decide), ?_⟩
        have gG3 : Gr (tt K) H (upd (upd G ss (.dK (klOf T.es (zs.map (·.2))))) q (.dK (putK ((.inr "names", .ref n2) :: ptK [bb, oo, rr, dd]) (.inr "signs") (.ref ss)))) := (gG.trans (Gr.new hss)).mutK fq (by rw [upd_ne qss]; exact g.dK cq2)
        have at3 : ∀ {x : Addr} {u : HO}, G x = some u → x ≠ q → (upd (upd G ss (.dK (klOf T.es (zs.map (·.2))))) q (.dK (putK ((.inr "names", .ref n2) :: ptK [bb, oo, rr, dd]) (.inr "signs") (.ref ss)))) x = some u := fun {x u} h hx => by
          rw [upd_ne hx, upd_ne (ne_of_none h hss)]
          exact h
        have cs3 : (upd (upd G ss (.dK (klOf T.es (zs.map (·.2))))) q (.dK (putK ((.inr "names", .ref n2) :: ptK [bb, oo, rr, dd]) (.inr "signs") (.ref ss)))) ss = some (.dK (klOf T.es (zs.map (·.2)))) := by rw [upd_ne qss.symm, upd_same]
        have cq3 : (upd (upd G ss (.dK (klOf T.es (zs.map (·.2))))) q (.dK (putK ((.inr "names", .ref n2) :: ptK [bb, oo, rr, dd]) (.inr "signs") (.ref ss)))) q = some (.dK (putK ((.inr "names", .ref n2) :: ptK [bb, oo, rr, dd]) (.inr "signs") (.ref ss))) := upd_same
        have nd3 : [ss, q, n2, bb, oo, rr, dd].Nodup := List.nodup_cons.mpr ⟨fun z => by
          simp only [List.mem_cons, List.not_mem_nil, or_false] at z
          rcases z with rfl | rfl | rfl | rfl | rfl | rfl
          · exact qss rfl
          · exact ne_of_none (g.lst c2) hss rfl
          · exact ne_of_none (g.dK hb2.1) hss rfl
          · exact ne_of_none (g.dK ho2.1) hss rfl
          · exact ne_of_none (g.dK hr2.1) hss rfl
          · exact ne_of_none (g.dK hd2.1) hss rfl, nd2⟩
        have nq : ∀ x ∈ [n2, bb, oo, rr, dd], x ≠ q := fun x hx e => (List.nodup_cons.mp nd2).1 (by rw [← e]; exact hx)
        have cn3 := at3 (g.lst c2) (nq n2 (by simp))
        have cb3 := at3 (g.dK hb2.1) (nq bb (by simp))
        have co3 := at3 (g.dK ho2.1) (nq oo (by simp))
        have cr3 := at3 (g.dK hr2.1) (nq rr (by simp))
        have cd3 := at3 (g.dK hd2.1) (nq dd (by simp))
        have e33 := prd_mono e3 fun a E h => (⟨at3 h.1 (fun e => h.2 (by simp [e])), h.2, fun e => ne_of_none h.1 hss e⟩ : _ = _ ∧ _ ∧ a ≠ ss)
        clear at3
        generalize upd (upd G ss (.dK (klOf T.es (zs.map (·.2))))) q (.dK (putK ((.inr "names", .ref n2) :: ptK [bb, oo, rr, dd]) (.inr "signs") (.ref ss))) = G3 at *
        clear e3 e2 e1 hz hnd hfr hl gA cq cn hl5 
        generalize zs.map (·.2) = mls at *
        refine ⟨_, rfl, p, _, rfl, dget_mono gG3 (dget_is h1 h2.n), n, rfl, ⟨_, SqL.of (gG3.lst h3)⟩, fun D hD => ?_⟩
        refine lcA (T := tt K) (walk_list (K := K) (a := n) (xs := sv (M.names T.es))) T.es (by simp [sv, M.names]) (Nat.le_trans hG.few (by decide)) (fun G E y a => ∃ t, y = .ref t ∧ G t = some (.tup [.str E.label, .ref a]) ∧ G a = some (.lst (sv (T.rg E.label)))) (fun E y a G G' g ⟨t, h1, h2, h3⟩ => ⟨t, h1, g.tup h2, g.lst h3⟩) (fun G E y a ⟨t, h1, h2, h3⟩ => ⟨_, h3, nt_lst⟩) hD (fun G g => g.sqL (SqL.of (gG3.lst h3))) (fun i E x G G' hi g ⟨ys, hys⟩ y Kp Ks kp => ?_) (fun G4 zs g4 hl hz hnd hfr => ?_)
        · obtain ⟨rfl, hx⟩ := y
          obtain ⟨o', ho', rfl⟩ := sv_at hx
          have eo : o' = E.label := by
            unfold M.names at ho'
            rw [List.getElem?_map, hi] at ho'
            exact (Option.some.inj ho').symm
          subst eo
          have gG := gG3.trans g
          obtain ⟨sd, q1, q2⟩ := hP.lists
          obtain ⟨a0, q3, q4⟩ := q2 E.label (List.mem_map.mpr ⟨E, List.mem_of_getElem? hi, rfl⟩)
          refine ⟨rfl, yesT ⟨_, rfl, _, rfl, p, _, rfl, dget_mono gG q1, _, rfl, sd, _, rfl, dget_mono gG q3, a0, _, rfl, .inl (SqL.of (gG.lst q4)), fun a ha => ⟨by show 2 ≤ sizeLine; decide, fun t ht => ?_⟩⟩⟩
          have aD : a ≠ D := fun e => by
            rw [e, hys] at ha
            cases ha
          have tD : t ≠ D := fun e => by
            rw [e, upd_ne aD.symm, hys] at ht
            cases ht
          have at' : a ≠ t := ne_of_none upd_same ht
          exact kp _ a _ ((Gr.new ha).trans (Gr.new ht)) (fresh_none ha) ⟨t, rfl, by rw [wo_ne tD, upd_same], by rw [wo_ne aD, upd_ne at', upd_same]⟩
        · obtain ⟨ps, e1, e2, e3⟩ := pairs_kl (S := fun a E => G4 a = some (.lst (sv (T.rg E.label)))) hz
          have hlen4 : (zs.map (·.2)).length = T.es.length := by rw [List.length_map, prd_len hz]
          refine ⟨D, ps, klOf T.es (zs.map (·.2)), rfl, SqL.of (by rw [← e1]; exact hl), prd_mono e2 (fun _ _ h => SqT.of h), fun ll hll => ?_⟩
          rw [klOf_merge hlen4 hs1]
          have gG4 := gG3.trans g4
          have fll : Fre H ll := Fre.of gG4 hll
          have qll : q ≠ ll := ne_of_none (g4.dK cq3) hll
          refine ⟨_, rfl, q, _, rfl, DPut.k (k := .inr "lists") (by rw [upd_ne qll]; exact g4.dK cq3) (by show 6 < sizeLine; decide), ?_⟩
          have hfr' : ∀ a ∈ zs.map (·.2), Fre G3 a := fun a ha => by
            obtain ⟨z, hz, rfl⟩ := List.mem_map.mp ha
            exact hfr z hz
          generalize zs.map (·.2) = las at *
          have gG5 : Gr (tt K) H (upd (upd G4 ll (.dK (klOf T.es las))) q (.dK (putK (putK ((.inr "names", .ref n2) :: ptK [bb, oo, rr, dd]) (.inr "signs") (.ref ss)) (.inr "lists") (.ref ll)))) := (gG4.trans (Gr.new hll)).mutK fq (by rw [upd_ne qll]; exact g4.dK cq3)
          have at5 : ∀ {x : Addr} {u : HO}, G4 x = some u → x ≠ q → (upd (upd G4 ll (.dK (klOf T.es las))) q (.dK (putK (putK ((.inr "names", .ref n2) :: ptK [bb, oo, rr, dd]) (.inr "signs") (.ref ss)) (.inr "lists") (.ref ll)))) x = some u := fun {x u} h hx => by
            rw [upd_ne hx, upd_ne (ne_of_none h hll)]
            exact h
          have cl5 : (upd (upd G4 ll (.dK (klOf T.es las))) q (.dK (putK (putK ((.inr "names", .ref n2) :: ptK [bb, oo, rr, dd]) (.inr "signs") (.ref ss)) (.inr "lists") (.ref ll)))) ll = some (.dK (klOf T.es las)) := by rw [upd_ne qll.symm, upd_same]
          have cq5 : (upd (upd G4 ll (.dK (klOf T.es las))) q (.dK (putK (putK ((.inr "names", .ref n2) :: ptK [bb, oo, rr, dd]) (.inr "signs") (.ref ss)) (.inr "lists") (.ref ll)))) q = some (.dK (putK (putK ((.inr "names", .ref n2) :: ptK [bb, oo, rr, dd]) (.inr "signs") (.ref ss)) (.inr "lists") (.ref ll))) := upd_same
          have cn5 := at5 (g4.lst cn3) (nq n2 (by simp))
          have cb5 := at5 (g4.dK cb3) (nq bb (by simp))
          have co5 := at5 (g4.dK co3) (nq oo (by simp))
          have cr5 := at5 (g4.dK cr3) (nq rr (by simp))
          have cd5 := at5 (g4.dK cd3) (nq dd (by simp))
          have cs5 := at5 (g4.dK cs3) qss.symm
          generalize upd (upd G4 ll (.dK (klOf T.es las))) q (.dK (putK (putK ((.inr "names", .ref n2) :: ptK [bb, oo, rr, dd]) (.inr "signs") (.ref ss)) (.inr "lists") (.ref ll))) = H' at *
          have lasq : ∀ a ∈ las, a ≠ q := fun a ha e => hfr' q (e ▸ ha) _ cq3 nt_dK
          have lasn : ∀ {x : Addr} {u : HO}, G3 x = some u → NoTbl u → x ∉ las := fun {x u} h hn z => hfr' x z u h hn
          have e35 : Paired (fun a (E : En) => H' a = some (HO.lst (sv (T.rg E.label)))) las T.es := prd_mem e3 fun a E ha h => at5 h (lasq a ha)
          have lal : ∀ a ∈ las, a ≠ ll := fun a ha e => by
            obtain ⟨j, hj⟩ := List.mem_iff_getElem?.mp ha
            obtain ⟨E, _, h⟩ := prd_getL e3 hj
            exact ne_of_none h hll e
          have m5 : Paired (fun a (E : En) => H' a = some (HO.dK (marksKV E.marks)) ∧ a ∉ n2 :: bb :: oo :: ss :: rr :: dd :: ll :: las) mls T.es := prd_mono e33 fun a E h => ⟨at5 (g4.dK h.1) (fun e => h.2.1 (by simp [e])), fun z => by
            simp only [List.mem_cons] at z
            have h2 := h.2.1
            simp only [List.mem_cons, List.not_mem_nil, or_false, not_or] at h2
            rcases z with z | z | z | z | z | z | z | z
            · exact h2.2.1 z
            · exact h2.2.2.1 z
            · exact h2.2.2.2.1 z
            · exact h.2.2 z
            · exact h2.2.2.2.2.1 z
            · exact h2.2.2.2.2.2 z
            · exact ne_of_none (g4.dK h.1) hll z
            · exact lasn h.1 nt_dK z⟩
          have lasF : ∀ a ∈ las, Fre H a := fun a ha v e nv => hfr' a ha v (gG3.1 _ _ e nv) nv
          have ndW : (n2 :: bb :: oo :: ss :: rr :: dd :: ll :: las).Nodup := by
            simp only [List.nodup_cons, List.mem_cons, List.not_mem_nil, or_false, not_or, not_false_eq_true, List.nodup_nil, and_true] at nd3
            have l1 := lasn cn3 nt_lst
            have l2 := lasn cb3 nt_dK
            have l3 := lasn co3 nt_dK
            have l4 := lasn cs3 nt_dK
            have l5 := lasn cr3 nt_dK
            have l6 := lasn cd3 nt_dK
            have l7 : ll ∉ las := fun z => lal ll z rfl
            have k1 := ne_of_none (g4.lst cn3) hll
            have k2 := ne_of_none (g4.dK cb3) hll
            have k3 := ne_of_none (g4.dK co3) hll
            have k4 := ne_of_none (g4.dK cs3) hll
            have k5 := ne_of_none (g4.dK cr3) hll
            have k6 := ne_of_none (g4.dK cd3) hll
            obtain ⟨⟨s1, s2, s3, s4, s5, s6⟩, ⟨a1, a2, a3, a4, a5⟩, ⟨b1, b2, b3, b4⟩, ⟨c1, c2, c3⟩, ⟨d1, d2⟩, e1⟩ := nd3
            simp only [List.nodup_cons, List.mem_cons, not_or]
            refine ⟨⟨b1, b2, fun e => s2 e.symm, b3, b4, k1, l1⟩, ⟨c1, fun e => s3 e.symm, c2, c3, k2, l2⟩, ⟨fun e => s4 e.symm, d1, d2, k3, l3⟩, ⟨s5, s6, k4, l4⟩, ⟨e1, k5, l5⟩, ⟨k6, l6⟩, l7, hnd⟩
          have qW : q ∉ n2 :: bb :: oo :: ss :: rr :: dd :: ll :: las := fun z => by
            simp only [List.mem_cons] at z
            rcases z with z | z | z | z | z | z | z | z
            · exact nq n2 (by simp) z.symm
            · exact nq bb (by simp) z.symm
            · exact nq oo (by simp) z.symm
            · exact qss z
            · exact nq rr (by simp) z.symm
            · exact nq dd (by simp) z.symm
            · exact qll z
            · exact lasq q z rfl
          clear at5 hl e1 e2 e3 hz hfr hnd
          have mLD : ∀ x ∈ n2 :: bb :: oo :: ss :: rr :: dd :: ll :: las, LD H' x ∧ Fre H x := fun x hx => by
            simp only [List.mem_cons] at hx
            rcases hx with rfl | rfl | rfl | rfl | rfl | rfl | rfl | hx
            · exact ⟨.inl ⟨_, cn5⟩, fn⟩
            · exact ⟨.inr ⟨_, cb5⟩, hb2.2⟩
            · exact ⟨.inr ⟨_, co5⟩, ho2.2⟩
            · exact ⟨.inr ⟨_, cs5⟩, fss⟩
            · exact ⟨.inr ⟨_, cr5⟩, hr2.2⟩
            · exact ⟨.inr ⟨_, cd5⟩, hd2.2⟩
            · exact ⟨.inr ⟨_, cl5⟩, fll⟩
            · obtain ⟨j, hj⟩ := List.mem_iff_getElem?.mp hx
              obtain ⟨E, _, h⟩ := prd_getL e35 hj
              exact ⟨.inl ⟨_, h⟩, lasF x hx⟩
          have gH : Gr (tt K) H (woL (n2 :: bb :: oo :: ss :: rr :: dd :: ll :: las) H') := gG5.hide fun w hw => ⟨(mLD w hw).1.mut, (mLD w hw).2⟩
          have gH2 : Gr (tt K) H (woL ((n2 :: bb :: oo :: ss :: rr :: dd :: ll :: las) ++ []) H') := by
            rw [List.append_nil]
            exact gH
          refine ⟨_, rfl, k H' (n2 :: bb :: oo :: ss :: rr :: dd :: ll :: las) q gH ⟨fun w hw => (mLD w hw).1, fun x hx => (by cases hx), putK (putK ((.inr "names", .ref n2) :: ptK [bb, oo, rr, dd]) (.inr "signs") (.ref ss)) (.inr "lists") (.ref ll), n2, bb, oo, ss, rr, dd, ll, kb, ko, klOf T.es mls, kr, kd, las, ⟨?_, ⟨rfl, rfl, rfl, rfl, rfl, rfl, rfl⟩, cn5, cb5, b2.mono fun _ _ h => h.mono gH2, co5, o2, cs5, klOf_dic (prd_mono m5 fun a E h => ⟨a, rfl, ?_⟩), cr5, r2.mono fun _ _ h => h.mono gH2, cd5, d2.mono fun _ _ h => h.mono gH2, cl5, e35, ndW⟩, fun a ha => ha⟩⟩
          · rw [List.append_nil, woL_out qW]
            exact cq5
          · rw [List.append_nil, woL_out h.2]
            exact h.1
end
end SW


set_option maxHeartbeats 2000000
namespace SW
open PySem PySem.Spec PyProof.Rows L2 He LamX NdefX
open SW.M (Ent Tb Oc)
theorem pairs_marks {H : Hp} : ∀ {ts : List Addr} {ms : List (Str × Str)}, Paired (fun (t : Addr) (q : Key × V) => H t = some (.tup [kV q.1, q.2])) ts (marksKV ms) → Paired (fun v (q : Str × Str) => ∃ a, v = .ref a ∧ H a = some (.tup [.str q.1, .str q.2])) (ts.map V.ref) ms
  | [], [], _ => .nil
  | t :: ts, q :: ms, .cons h r => .cons ⟨t, rfl, h⟩ (pairs_marks r)
section
variable {P : Program} {w : World} {K : PySem.W.Frag} {mg : Str → Option Value} {base : Heap}
def spMadeIn (K : PySem.W.Frag) : Sp := fun vs H Q _ => ∃ (wd p t : Addr) (W : List Addr) (T : Tb Str) (es' : List En) (E : En), vs = [.ref wd, .ref p, .str E.label] ∧ PlAt (woL W H) p T ∧ WorO K H W wd t ⟨es', fun _ => []⟩ ∧ KnOk K H t es'.length ∧ Mades T.es ∧ T.es.length ≤ 12 ∧ Mades es' ∧ es'.length ≤ 12 ∧ EntOk es' E ∧ E ∈ T.es ∧
  ∀ H' W', Gr (tt K) (woL W H) (woL W' H') → WorO K H' W' wd t ⟨es' ++ [E], fun _ => []⟩ → KnOk K H' t (es'.length + 1) → Q .non H'
theorem sc__law_made_in : FnScope ["_law_world", "_law_plain", "_law_name", "_law_oath", "_law_signs", "_law_told", "_law_rule", "_law_goes_down", "_law_some"] ["_law_world", "_law_plain", "_law_name"] (defScope s__law_made_in) := ⟨rfl, rfl, rfl, by decide +kernel, rfl, by decide +kernel, by decide +kernel⟩
theorem ok__law_made_in (c : Tx K mg base) : Ok P w K mg base 8 (ga K "_law_made_in") ["_law_world", "_law_plain", "_law_name"] (spMadeIn K) := by
  refine Ok.mk' (fd__law_made_in c) sc__law_made_in (fun _ _ _ _ _ _ us hl => match us, hl with | [_, _, _], _ => rfl) (fun vs H Q E h => ?_) (fun cdv A outer s H vs Q E hr h => ?_)
  · obtain ⟨wd, p, t, W, T, es', E, rfl, _⟩ := h
    rfl
  · obtain ⟨wd, p, t, W, T, es', E0, rfl, hP, hW, hkn, hM, h12, hM', h12', ok, hE, k⟩ := h
    refine ⟨_, (pss_cons (ps_par (i := 3) (j := 4) rfl sc__law_made_in.nd rfl rfl (by decide) rfl rfl (pa_cons (pe_dget (hu_of hr) (pe_dget (hu_of hr) (pv 1) pe_str (fun _ _ => rfl)) (pv 2) (fun _ _ => rfl)) (pa_cons (LiI.pe_listItems rfl (pe_dget (hu_of hr) (pe_dget (hu_of hr) (pv 1) pe_str (fun _ _ => rfl)) (pv 2) (fun _ _ => rfl)) (by rfl) (n_list c) (by first | exact PySem.boot_list | exact boot_list | decide +kernel)) pa_nil)) (by rfl)) (pss_cons (ps_set (i := 5) sc__law_made_in.nd rfl (Or.inl rfl) (pe_dget (hu_of hr) (pe_dget (hu_of hr) (pv 1) pe_str (fun _ _ => rfl)) (pv 2) (fun _ _ => rfl))) (C8.pss_cut (ps_asg (pe_ifExp (pt_cmpR op_notN (pv 5) pe_non (nomark _)) (pv 5) (pe_tup (pa_cons pe_non (pa_cons pe_bl pa_nil)))) (gtupK K (n := 2) rfl rfl (pgs_cons (pg_name (i := 6) sc__law_made_in.nd rfl (Or.inl rfl)) (pgs_cons (pg_name (i := 7) sc__law_made_in.nd rfl (Or.inl rfl)) pgs_nil)))) (pss_cons (ps_set (i := 8) sc__law_made_in.nd rfl (Or.inl rfl) (pe_dget (hu_of hr) (pe_dget (hu_of hr) (pv 1) pe_str (fun _ _ => rfl)) (pv 2) (fun _ _ => rfl))) (pss_one (ps_if (pt_cmpR (eqDK K rfl hr.units) (pv 8) (pe_lst pa_nil) (nomark _)) (pss_one (ps_expr (pe_methK (ok_World_make c) hr (by decide) (cl_World c) (me_World_make c) (pv 0) (pa_cons (pv 2) pa_nil) (pk_cons (pv 3) (pk_cons (pv 4) (pk_cons (pv 6) (pk_cons (pv 7) pk_nil))))))) (pss_one (ps_if (pt_cmpR op_eq (pe_callB (lenK K rfl) (by rfl) (n_len c) (by first | exact PySem.boot_len | exact boot_len | decide +kernel) (pa_cons (pv 8) pa_nil)) pe_int (nomark _)) (pss_one (ps_expr (pe_methK (ok_World_make c) hr (by decide) (cl_World c) (me_World_make c) (pv 0) (pa_cons (pv 2) (pa_cons (pe_ix (ixLK K rfl) (pv 8) pe_int (fun _ _ => rfl)) pa_nil)) (pk_cons (pv 3) (pk_cons (pv 4) (pk_cons (pv 6) (pk_cons (pv 7) pk_nil))))))) (pss_one (ps_if (pt_cmpR op_eq (pe_callB (lenK K rfl) (by rfl) (n_len c) (by first | exact PySem.boot_len | exact boot_len | decide +kernel) (pa_cons (pv 8) pa_nil)) pe_int (nomark _)) (pss_one (ps_expr (pe_methK (ok_World_make c) hr (by decide) (cl_World c) (me_World_make c) (pv 0) (pa_cons (pv 2) (pa_cons (pe_ix (ixLK K rfl) (pv 8) pe_int (fun _ _ => rfl)) (pa_cons (pe_ix (ixLK K rfl) (pv 8) pe_int (fun _ _ => rfl)) pa_nil))) (pk_cons (pv 3) (pk_cons (pv 4) (pk_cons (pv 6) (pk_cons (pv 7) pk_nil))))))) (pss_one (ps_expr (pe_methK (ok_World_make c) hr (by decide) (cl_World c) (me_World_make c) (pv 0) (pa_cons (pv 2) (pa_cons (pe_ix (ixLK K rfl) (pv 8) pe_int (fun _ _ => rfl)) (pa_cons (pe_ix (ixLK K rfl) (pv 8) pe_int (fun _ _ => rfl)) (pa_cons (pe_ix (ixLK K rfl) (pv 8) pe_int (fun _ _ => rfl)) pa_nil)))) (pk_cons (pv 3) (pk_cons (pv 4) (pk_cons (pv 6) (pk_cons (pv 7) pk_nil))))))))))))))))), ?_⟩
    have nd := (hM.wf h12).nd
    have hn : E0.label ∈ M.names T.es := List.mem_map.mpr ⟨E0, hE, rfl⟩
    have uniq : ∀ {E' : En}, M.find T.es E0.label = some E' → E' = E0 := fun {E'} h => by
      obtain ⟨i, hi⟩ := List.mem_iff_getElem?.mp hE
      rw [find_at nd hi] at h
      exact (Option.some.inj h).symm
    obtain ⟨ow, o1, o2⟩ := hP.own
    obtain ⟨sg, s1, s2⟩ := hP.signs
    obtain ⟨ru, r1, r2⟩ := hP.rules
    obtain ⟨ba, b1, b2⟩ := hP.bases
    have o3 := o2 _ hn
    obtain ⟨sa, E1, s3, s4, s5, _, _⟩ := s2 _ hn
    obtain ⟨rv, E2, r3, r4, r5, _, _⟩ := r2 _ hn
    obtain ⟨bv, b3, b4⟩ := b2 _ hn
    rw [uniq s5] at s4
    rw [uniq r5] at r4
    have ho : M.own T.es E0.label = E0.own := by
      unfold M.own
      obtain ⟨i, hi⟩ := List.mem_iff_getElem?.mp hE
      rw [find_at nd hi]
    have hp0 : M.parents T.es E0.label = E0.parents := by
      obtain ⟨i, hi⟩ := List.mem_iff_getElem?.mp hE
      exact par_find (find_at nd hi)
    rw [ho] at o3
    rw [hp0] at b4
    have out : ∀ {a x : Addr} {k : Str} {v : V}, DGet (woL W H) a (.str k) (some v) → DGet H a (.str k) (some v) := fun h => dget_mono (gr_of_woL (T := tt K)) h
    refine ⟨_, rfl, p, _, rfl, dget_mono (gr_of_woL (T := tt K)) o1, _, rfl, ow, _, rfl, dget_mono (gr_of_woL (T := tt K)) o3, _, rfl, p, _, rfl, dget_mono (gr_of_woL (T := tt K)) s1, _, rfl, sg, _, rfl, dget_mono (gr_of_woL (T := tt K)) s3, sa, _, rfl, (of_woL s4).2, fun H1 mp ts e1 hmp hts hmt hl1 hp1 => ⟨_, _, rfl, ?_⟩⟩
    have g1 : Gr (tt K) H H1 := ⟨ExtN.of e1, fun t => t.ext e1⟩
    have hmp1 : PairsAt H1 mp E0.marks := ⟨_, hl1, pairs_marks hp1⟩
    have hW1 := hW.gr g1
    have g1W : Gr (tt K) (woL W H) (woL W H1) := g1.woL fun x hx => (hW.mut x hx).gr g1
    have hkn1 : KnOk K H1 t es'.length := by
      obtain ⟨_, _, _, _, _, _, k1, k2, k3⟩ := hkn
      exact ⟨_, _, _, _, _, _, g1.ins k1, g1.dK k2, k3⟩
    clear out hts hmt hl1 hp1 e1
    refine ⟨_, rfl, p, _, rfl, dget_mono (g1.trans (Gr.refl _)) (dget_mono (gr_of_woL (T := tt K)) r1), _, rfl, ru, _, rfl, dget_mono g1 (dget_mono (gr_of_woL (T := tt K)) r3), ?_⟩
    have hgo : RuleAt (woL W H1) rv E0 := r4.mono g1W
    have b1' := dget_mono g1W b1
    have b3' := dget_mono g1W b3
    have b4' := g1W.lst b4
    refine ⟨fun σ H' => ∃ (hv : V) (x5 x8 : Option V), σ = [some (.ref wd), some (.ref p), some (.str E0.label), some (.bl E0.own), some (.ref mp), x5, some hv, some (.bl E0.passed), x8] ∧ Gr (tt K) H1 H' ∧ HookAt (woL W H') hv E0.hook, ?_, ?_⟩
    · rcases hgo with ⟨hn0, rfl⟩ | ⟨a, ha, cl, rfl, t1, t2, t3⟩
      · have hpas := ok.pass hn0
        refine ⟨_, rfl, rfl, _, rfl, iteF ⟨by show 2 ≤ sizeLine; decide, fun z hz => ⟨z, _, rfl, SqT.of upd_same, rfl, _, _, rfl, _, _, rfl, rfl, .non, some .non, none, ?_, Gr.new hz, ?_⟩⟩⟩
        · rw [hpas]
          rfl
        · rw [hn0]
          rfl
      · refine ⟨_, rfl, rfl, _, rfl, iteT ⟨_, rfl, a, _, rfl, SqT.of (of_woL t1).2, rfl, _, _, rfl, _, _, rfl, rfl, .ref ha, some (.ref a), none, rfl, Gr.refl _, ?_⟩⟩
        rw [t2]
        exact t3
    · rintro σ H2 ⟨hv, x5, x8, rfl, g2, hh⟩
      have g2W : Gr (tt K) (woL W H1) (woL W H2) := g2.woL fun x hx => (hW1.mut x hx).gr g2
      have hb2 := g2W.lst b4'
      refine ⟨_, rfl, p, _, rfl, dget_mono g2 (dget_mono (gr_of_woL (T := tt K)) b1'), _, rfl, ba, _, rfl, dget_mono g2 (dget_mono (gr_of_woL (T := tt K)) b3'), ?_⟩
      refine ⟨_, rfl, by show 0 ≤ sizeLine; decide, fun z hz => ?_⟩
      have g3 : Gr (tt K) H2 (upd H2 z (.lst [])) := Gr.new hz
      have zW : z ∉ W := not_in (fun w hw => ((hW1.mut w hw).gr g2)) hz
      have g3W : Gr (tt K) (woL W H2) (woL W (upd H2 z (.lst []))) := Gr.newW hz zW
      have hb3 := (of_woL (g3W.lst hb2)).2
      refine eq_nilS (SqL.of hb3) (fun n hn => (hM'.nameOk (ok.par n hn)).str) upd_same ⟨_, rfl, ?_⟩
      have hW3 := hW1.gr (g2.trans g3)
      have hkn3 : KnOk K (upd H2 z (.lst [])) t es'.length := by
        obtain ⟨_, _, _, _, _, _, k1, k2, k3⟩ := hkn1
        exact ⟨_, _, _, _, _, _, (g2.trans g3).ins k1, (g2.trans g3).dK k2, k3⟩
      have hat : ∃ dx fs, (upd H2 z (.lst [])) wd = some (.ins (ga K "World") dx fs) ∧ fs.lookup ("make" : Str) = none := by
        obtain ⟨dx, ca, vi, th, cl, cdx, kk, Wt, rfl, h0, h1, h2, h3, h4, h5⟩ := hW3
        exact ⟨dx, _, (of_woL h1).2, rfl⟩
      have hmp3 := hmp1.mono (g2.trans g3)
      have hh3 : HookAt (woL W (upd H2 z (.lst []))) hv E0.hook := hh.mono g3W
      have gall := (g1W.trans g2W).trans g3W
      generalize upd H2 z (.lst []) = H3 at *
      have fin : spMake K (.ref wd :: .str E0.label :: sv E0.parents) [.bl E0.own, .ref mp, hv, .bl E0.passed] H3 (fun _ H' => Q .non H') := ⟨wd, t, W, ⟨es', fun _ => []⟩, E0, mp, hv, es'.length, rfl, rfl, hW3, hkn3, by omega, hM', h12', ok, rfl, hmp3, hh3, fun H' W' g hW' hk' => k H' W' (gall.trans g) hW' hk'⟩
      obtain ⟨dx, fs, hwd, hlk⟩ := hat
      have hpf := ok.pfew
      rcases hps : E0.parents with _ | ⟨a1, _ | ⟨a2, _ | ⟨a3, _ | ⟨a4, ar⟩⟩⟩⟩
      · rw [hps] at fin
        refine iteT ⟨_, rfl, wd, dx, fs, rfl, hwd, hlk, _, rfl, _, rfl, _, rfl, _, rfl, _, rfl, rfl, fin⟩
      · rw [hps] at fin hb3
        refine iteF ⟨_, rfl, bv, _, rfl, .inl (SqL.of hb3), rfl, _, rfl, ?_⟩
        refine iteT ⟨_, rfl, wd, dx, fs, rfl, hwd, hlk, _, rfl, _, rfl, bv, _, 0, _, rfl, rfl, SqL.of hb3, rfl, _, rfl, _, rfl, _, rfl, _, rfl, rfl, fin⟩
      · rw [hps] at fin hb3
        refine iteF ⟨_, rfl, bv, _, rfl, .inl (SqL.of hb3), rfl, _, rfl, ?_⟩
        refine iteF ⟨_, rfl, bv, _, rfl, .inl (SqL.of hb3), rfl, _, rfl, ?_⟩
        refine iteT ⟨_, rfl, wd, dx, fs, rfl, hwd, hlk, _, rfl, _, rfl, bv, _, 0, _, rfl, rfl, SqL.of hb3, rfl, _, rfl, bv, _, 1, _, rfl, rfl, SqL.of hb3, rfl, _, rfl, _, rfl, _, rfl, _, rfl, rfl, fin⟩
      · rw [hps] at fin hb3
        refine iteF ⟨_, rfl, bv, _, rfl, .inl (SqL.of hb3), rfl, _, rfl, ?_⟩
        refine iteF ⟨_, rfl, bv, _, rfl, .inl (SqL.of hb3), rfl, _, rfl, ?_⟩
        refine iteF ⟨_, rfl, wd, dx, fs, rfl, hwd, hlk, _, rfl, _, rfl, bv, _, 0, _, rfl, rfl, SqL.of hb3, rfl, _, rfl, bv, _, 1, _, rfl, rfl, SqL.of hb3, rfl, _, rfl, bv, _, 2, _, rfl, rfl, SqL.of hb3, rfl, _, rfl, _, rfl, _, rfl, _, rfl, rfl, fin⟩
      · rw [hps] at hpf
        simp at hpf
end
end SW


set_option maxHeartbeats 2000000
namespace SW
open PySem PySem.Spec PyProof.Rows L2 He LamX NdefX
open SW.M (Ent Tb Oc)
def rgA (T : Tb Str) (i : Nat) : Str → List Str := fun m => if m ∈ (M.names T.es).take i then T.rg m else []
def rgB (T : Tb Str) (i : Nat) (n : Str) (j : Nat) : Str → List Str := fun m => if m ∈ (M.names T.es).take i then T.rg m else if m = n then (T.rg n).take j else []
theorem rgB_sub {T : Tb Str} {i j : Nat} {n m o : Str} (h : o ∈ rgB T i n j m) : o ∈ T.rg m := by
  unfold rgB at h
  split at h
  · exact h
  · split at h
    · rename_i e
      rw [e]
      exact List.mem_of_mem_take h
    · cases h
theorem rgB_len {T : Tb Str} {i j : Nat} {n m : Str} : (rgB T i n j m).length ≤ (T.rg m).length := by
  unfold rgB
  split
  · exact Nat.le_refl _
  · split
    · rename_i e
      rw [e, List.length_take]
      omega
    · simp
theorem rgB_zero {T : Tb Str} {i : Nat} {n : Str} : rgB T i n 0 = rgA T i := by
  funext m
  unfold rgB rgA
  split
  · rfl
  · split <;> simp
theorem rgA_zero {T : Tb Str} : rgA T 0 = fun _ => [] := by
  funext m
  unfold rgA
  simp
theorem rgB_full {T : Tb Str} {i : Nat} {n : Str} (h : (M.names T.es)[i]? = some n) : rgB T i n (T.rg n).length = rgA T (i + 1) := by
  funext m
  unfold rgB rgA
  rw [List.take_succ, h]
  by_cases h1 : m ∈ (M.names T.es).take i
  · rw [if_pos h1, if_pos (by simp [h1])]
  · rw [if_neg h1]
    by_cases h2 : m = n
    · rw [if_pos h2, if_pos (by simp [h2]), List.take_length, h2]
    · rw [if_neg h2, if_neg (by simp [h1, h2])]
theorem rgA_all {T : Tb Str} (g : GoodT T) : rgA T (M.names T.es).length = T.rg := by
  funext m
  unfold rgA
  rw [List.take_length]
  split
  · rfl
  · rename_i h
    cases e : T.rg m with
    | nil => rfl
    | cons o r => exact absurd (g.reg m o (by rw [e]; simp)).1 h
theorem rgB_succ {T : Tb Str} {i j : Nat} {n o : Str} (hn : n ∉ (M.names T.es).take i) (h : (T.rg n)[j]? = some o) : M.admit ⟨T.es, rgB T i n j⟩ n o = ⟨T.es, rgB T i n (j + 1)⟩ := by
  unfold M.admit
  congr 1
  funext m
  show (if m = n then rgB T i n j n ++ [o] else rgB T i n j m) = _
  unfold rgB
  by_cases e : m = n
  · subst e
    rw [if_pos rfl, if_neg hn, if_pos rfl, if_neg hn, if_pos rfl, List.take_succ, h]
    rfl
  · rw [if_neg e]
    split
    · rfl
    · rfl
section
variable {P : Program} {w : World} {K : PySem.W.Frag} {mg : Str → Option Value} {base : Heap}
def spMade (K : PySem.W.Frag) : Sp := fun vs H Q _ => ∃ (p : Addr) (T : Tb Str), vs = [.ref p] ∧ PlAt H p T ∧ GoodT T ∧ ∀ H' wd, Gr (tt K) H H' → WorAt K H' wd T → Q (.ref wd) H'
theorem sc__law_made : FnScope ["_law_plain", "_law_world", "_law_name", "_law_other"] ["_law_plain"] (defScope s__law_made) := ⟨rfl, rfl, rfl, by decide +kernel, rfl, by decide +kernel, by decide +kernel⟩
theorem ok__law_made (c : Tx K mg base) : Ok P w K mg base 9 (ga K "_law_made") ["_law_plain"] (spMade K) := by
  refine Ok.mk' (fd__law_made c) sc__law_made (fun _ _ _ _ _ _ us hl => match us, hl with | [_], _ => rfl) (fun vs H Q E h => ?_) (fun cdv A outer s H vs Q E hr h => ?_)
  · obtain ⟨p, T, rfl, _⟩ := h
    rfl
  · obtain ⟨p, T, rfl, hP, hG, k⟩ := h
    refine ⟨_, (pss_cons (ps_set (i := 1) sc__law_made.nd rfl (Or.inl rfl) ((ok_World_init c).make0 hr (by decide) (mk_World c) (g_World c))) (pss_cons (ps_for PassesOwn.never rfl (piL K rfl (pe_dget (hu_of hr) (pv 0) pe_str (fun _ _ => rfl))) (pg_name (i := 2) sc__law_made.nd rfl (Or.inl rfl)) (pss_one (ps_expr ((ok__law_made_in c).call hr (by decide) (g__law_made_in c) (pa_cons (pv 1) (pa_cons (pv 0) (pa_cons (pv 2) pa_nil))))))) (pss_cons (ps_for PassesOwn.never rfl (piL K rfl (pe_dget (hu_of hr) (pv 0) pe_str (fun _ _ => rfl))) (pg_name (i := 2) sc__law_made.nd rfl (Or.inl rfl)) (pss_one (ps_for PassesOwn.never rfl (piL K rfl (pe_dget (hu_of hr) (pe_dget (hu_of hr) (pv 0) pe_str (fun _ _ => rfl)) (pv 2) (fun _ _ => rfl))) (pg_name (i := 3) sc__law_made.nd rfl (Or.inl rfl)) (pss_one (ps_expr ((ok_World_admit c).meth hr (by decide) (cl_World c) (me_World_admit c) (pv 1) (pa_cons (pv 2) (pa_cons (pv 3) pa_nil)))))))) (pss_one (ps_ret (pv 1)))))), ?_⟩
    have wf := hG.wf
    have few := hG.few
    intro x dx hx hdx hne
    refine ⟨x, dx, rfl, upd_same, fun H1 W t g1 hW1 hk1 => ⟨rfl, ?_⟩⟩
    have gA : Gr (tt K) H (woL W H1) := by
      refine Gr.trans ?_ g1
      rw [woL_grow (by rw [upd_ne hne.symm]; exact hx), woL_nil]
      exact Gr.new hdx
    have gA1 := gA.trans gr_of_woL
    obtain ⟨nn, q1, q2⟩ := hP.names
    refine ⟨_, rfl, p, _, rfl, dget_mono gA1 q1, nn, rfl, ⟨_, SqL.of (gA1.lst q2)⟩, ?_⟩
    refine for_list (K := K) (a := nn) (xs := sv (M.names T.es)) (fun i σ H' => ∃ (W' : List Addr) (x2 x3 : Option V), σ = [some (.ref p), some (.ref x), x2, x3] ∧ Gr (tt K) H (woL W' H') ∧ WorO K H' W' x t ⟨T.es.take i, fun _ => []⟩ ∧ KnOk K H' t i) ⟨W, _, _, rfl, gA, hW1, hk1⟩ (fun i σ H' _ ⟨W', _, _, _, g, _⟩ => SqL.of ((g.trans gr_of_woL).lst q2)) ?_ ?_
    · rintro i v σ H' hi ⟨W', x2, x3, rfl, g, hW', hk'⟩
      obtain ⟨n, hn, rfl⟩ := sv_at hi
      obtain ⟨E, hE, rfl⟩ := names_at hn
      have hil := (List.getElem?_eq_some_iff.mp hE).1
      have ets : T.es.take (i + 1) = T.es.take i ++ [E] := by rw [List.take_succ, hE] <;> rfl
      have hlen : (T.es.take i).length = i := by rw [List.length_take]; omega
      refine ⟨_, rfl, _, rfl, _, rfl, x, p, t, W', T, T.es.take i, E, rfl, hP.mono g, hW', by rw [hlen]; exact hk', hG.mades, by omega, M.Built.pre hG.mades i, by omega, M.Built.at hG.mades hE, List.mem_of_getElem? hE, fun H2 W2 g2 hW2 hk2 => ?_⟩
      rw [hlen] at hk2
      refine ⟨W2, _, _, rfl, g.trans g2, ?_, hk2⟩
      rw [ets]
      exact hW2
    · rintro σ H' ⟨W', x2, x3, rfl, g, hW', hk'⟩
      have e8 : T.es.take (sv (M.names T.es)).length = T.es := by
        rw [sv_len]
        unfold M.names
        rw [List.length_map, List.take_length]
      rw [e8] at hW'
      have g' := g.trans (gr_of_woL)
      refine ⟨_, rfl, p, _, rfl, dget_mono g' q1, nn, rfl, ⟨_, SqL.of (g'.lst q2)⟩, ?_⟩
      refine for_list (K := K) (a := nn) (xs := sv (M.names T.es)) (fun i σ H' => ∃ (W' : List Addr) (x2 x3 : Option V), σ = [some (.ref p), some (.ref x), x2, x3] ∧ Gr (tt K) H (woL W' H') ∧ WorO K H' W' x t ⟨T.es, rgA T i⟩) ⟨W', _, _, rfl, g, by rw [rgA_zero]; exact hW'⟩ (fun i σ H' _ ⟨W', _, _, _, g, _⟩ => SqL.of ((g.trans gr_of_woL).lst q2)) ?_ ?_
      · rintro i v σ H2 hi ⟨W2, x2, x3, rfl, g2, hW2⟩
        obtain ⟨n, hn, rfl⟩ := sv_at hi
        have hnm := List.mem_of_getElem? hn
        have hnt : n ∉ (M.names T.es).take i := fun z => by
          have nd := wf.nd
          rw [← List.take_append_drop i (M.names T.es), drop_at hn] at nd
          exact (List.nodup_append.mp nd).2.2 n z n List.mem_cons_self rfl
        obtain ⟨ll, l1, l2⟩ := hP.lists
        obtain ⟨la, l3, l4⟩ := l2 n hnm
        have g2' := g2.trans (gr_of_woL)
        refine ⟨_, rfl, p, _, rfl, dget_mono g2' l1, _, rfl, ll, _, rfl, dget_mono g2' l3, la, rfl, ⟨_, SqL.of (g2'.lst l4)⟩, ?_⟩
        refine for_list (K := K) (a := la) (xs := sv (T.rg n)) (fun j σ H' => ∃ (W' : List Addr) (x3 : Option V), σ = [some (.ref p), some (.ref x), some (.str n), x3] ∧ Gr (tt K) H (woL W' H') ∧ WorO K H' W' x t ⟨T.es, rgB T i n j⟩) ⟨W2, _, rfl, g2, by rw [rgB_zero]; exact hW2⟩ (fun i σ H' _ ⟨W', _, _, g, _⟩ => SqL.of ((g.trans gr_of_woL).lst l4)) ?_ ?_
        · rintro j v σ H3 hj ⟨W3, x3, rfl, g3, hW3⟩
          obtain ⟨o, ho, rfl⟩ := sv_at hj
          have hom := List.mem_of_getElem? ho
          obtain ⟨r1, r2, r3⟩ := hG.reg n o hom
          obtain ⟨n1, n2⟩ := M.no_ring (es := T.es) (r := T.rg) (r' := rgB T i n j) (fun n o h => rgB_sub h) hG.acyc r3 hom
          obtain ⟨dx3, fs3, hwd, hlk⟩ : ∃ dx fs, H3 x = some (.ins (ga K "World") dx fs) ∧ fs.lookup ("admit" : Str) = none := by
            obtain ⟨dx, ca, vi, th, cl, cdx, kk, Wt, rfl, h0, h1, h2, h3, h4, h5⟩ := hW3
            exact ⟨dx, _, (of_woL h1).2, rfl⟩
          refine ⟨_, rfl, x, dx3, fs3, rfl, hwd, hlk, _, rfl, _, rfl, x, t, W3, ⟨T.es, rgB T i n j⟩, n, o, rfl, hW3, ⟨wf, fun m o h => (hG.reg m o (rgB_sub h)).2.1, fun m => Nat.le_trans rgB_len (hG.wfT.regs m)⟩, fun m hm => hG.mades.nameOk hm, r1, r2, r3, n1, n2, ?_, fun H4 g4 hW4 => ?_⟩
          · show o ∉ rgB T i n j n
            unfold rgB
            rw [if_neg hnt, if_pos rfl]
            intro z
            have nd := hG.nd n
            rw [← List.take_append_drop j (T.rg n), drop_at ho] at nd
            exact (List.nodup_append.mp nd).2.2 o z o List.mem_cons_self rfl
          · rw [rgB_succ hnt ho] at hW4
            exact ⟨W3, _, rfl, g3.trans g4, hW4⟩
        · rintro σ H3 ⟨W3, x3, rfl, g3, hW3⟩
          rw [sv_len, rgB_full hn] at hW3
          exact ⟨W3, _, _, rfl, g3, hW3⟩
      · rintro σ H2 ⟨W2, x2, x3, rfl, g2, hW2⟩
        rw [sv_len, rgA_all hG] at hW2
        exact ⟨_, rfl, k H2 x (g2.trans gr_of_woL) hW2.at⟩
end
end SW


set_option maxHeartbeats 2000000
namespace SW
open PySem PySem.Spec PyProof.Rows L2 He LamX NdefX
open SW.M (Ent Tb Oc)
/-! ## what the law asks, in plain Lean -/
theorem ascP_sub {ms : List (Str × Str)} {q : Str × Str} (h : q ∈ ascP ms) : q ∈ ms := by
  unfold ascP at h
  split at h
  · rename_i hh
    exact (Classical.choose_spec hh).1.mem_iff.mp h
  · cases h
theorem ascP_len {ms : List (Str × Str)} : (ascP ms).length ≤ ms.length := by
  unfold ascP
  split
  · rename_i hh
    rw [(Classical.choose_spec hh).1.length_eq]
    exact Nat.le_refl _
  · simp
theorem markL_str : ∀ m ∈ markL, PyData.strOk m = true := by decide +kernel
theorem marks_lay : ∀ {ms : List (Str × Str)}, (∀ q ∈ ms, NameOk q.1 ∧ q.2 ∈ markL) → PyData.canLayAll0 (ms.map markD) = true ∧ PyData.depthAll (ms.map markD) ≤ 2
  | [], _ => ⟨rfl, Nat.zero_le _⟩
  | q :: ms, h => by
    obtain ⟨h1, h2⟩ := marks_lay (ms := ms) fun d hd => h d (List.mem_cons_of_mem _ hd)
    obtain ⟨g1, g2⟩ := h q List.mem_cons_self
    have e1 : PyData.canLay0 (markD q) = true := by
      unfold markD
      simp only [PyData.canLay0, PyData.canLayAll0, g1.str, markL_str _ g2, Bool.and_self]
    have e2 : PyData.depth (markD q) ≤ 2 := by
      unfold markD
      simp only [PyData.depth, PyData.depthAll]
      decide
    constructor
    · show PyData.canLayAll0 (markD q :: ms.map markD) = true
      rw [PyData.canLayAll0, e1, h1] <;> rfl
    · show PyData.depthAll (markD q :: ms.map markD) ≤ 2
      rw [PyData.depthAll]
      exact Nat.max_le.mpr ⟨e2, h2⟩
theorem hookD_lay {E : En} (h : ∀ cl, E.hook = some cl → HookOk cl) : PyData.canLay0 (hookD E) = true ∧ PyData.depth (hookD E) ≤ 10 := by
  unfold hookD
  cases e : E.hook with
  | none => exact ⟨rfl, by simp only [PyData.depth]; decide⟩
  | some cl =>
    obtain ⟨h1, h2⟩ := clauses_lay (h cl e).2.2
    constructor
    · simp only [PyData.canLay0, PyData.canLayAll0, h1, Bool.and_self]
    · simp only [PyData.depth, PyData.depthAll]
      omega
theorem GoodT.wfD {T : Tb Str} (g : GoodT T) : WfD T.es where
  marks := fun E hE => by
    obtain ⟨es', r⟩ := g.mades.ent hE
    exact Nat.le_trans r.marks.few (by decide)
  shape := fun E hE => by
    obtain ⟨es', r⟩ := g.mades.ent hE
    have hpar : ∀ n ∈ E.parents, NameOk n := fun n hn => by
      obtain ⟨i, hi, r2⟩ := M.Built.all g.mades hE
      exact Mades.nameOk (M.Built.pre g.mades i) (r2.par n hn)
    obtain ⟨p1, p2⟩ := names_lay hpar
    obtain ⟨m1, m2⟩ := marks_lay (ms := ascP E.marks) fun q hq => ⟨r.marks.names q (ascP_sub hq), r.marks.marks q (ascP_sub hq)⟩
    obtain ⟨h1, h2⟩ := hookD_lay fun cl e => (r.hook cl e).1
    unfold SeqAt.shaped picD
    have a1 : PyData.canLay0 (.tuple [.str E.label, .tuple (E.parents.map .str), .bool (M.sworn T.es E.label), .list ((ascP E.marks).map markD), hookD E]) = true := by
      simp only [PyData.canLay0, PyData.canLayAll0, r.name.str, p1, m1, h1, Bool.and_self]
    have a2 : PyData.depth (.tuple [.str E.label, .tuple (E.parents.map .str), .bool (M.sworn T.es E.label), .list ((ascP E.marks).map markD), hookD E]) ≤ 64 := by
      simp only [PyData.depth, PyData.depthAll]
      omega
    rw [a1, decide_eq_true a2] <;> rfl
theorem GoodT.wfM {T : Tb Str} (g : GoodT T) : WfM T.es := ⟨g.five⟩
theorem dropR_admit {T : Tb Str} {a b : Str} (h : b ∉ T.rg a) : dropR (M.admit T a b) a b = T := by
  unfold dropR M.admit
  show (⟨T.es, _⟩ : Tb Str) = ⟨T.es, T.rg⟩
  congr 1
  funext m
  by_cases e : m = a
  · subst e
    simp only [if_true]
    rw [List.erase_append_right _ h]
    simp
  · simp [e]
/-- the heart: what a registration more does -/
theorem right_free {T : Tb Str} (g : GoodT T) {a b : Str} (ha : a ∈ M.names T.es) (hb : b ∈ M.names T.es) (hs : M.sworn T.es a = true) (hab : a ≠ b) :
    (sameSt T (M.admit T a b) ↔ M.state T a b (patsOf T) = M.state (M.admit T a b) a b (patsOf T)) ∧
    (M.state T a b (patsOf T) = M.state (M.admit T a b) a b (patsOf T) → ∀ q ∈ twoC T, ∀ ms ∈ patsOf T, M.oc T q.1 q.2 ms = M.oc (M.admit T a b) q.1 q.2 ms) ∧
    ((∀ q ∈ twoC T, ∀ ms ∈ patsOf T, M.oc T q.1 q.2 ms = M.oc (M.admit T a b) q.1 q.2 ms) → M.hasRoad T a b = M.hasRoad (M.admit T a b) a b → M.state T a b (patsOf T) = M.state (M.admit T a b) a b (patsOf T)) := by
  have L : M.Lines T.es := g.mades.facts.toLines
  refine ⟨⟨fun h => h a ha hs b hb (Ne.symm hab), fun e c hc _ x _ _ => M.state_all L hs hb e hc⟩, fun e q hq ms hms => ?_, fun h r => ?_⟩
  · obtain ⟨c, x⟩ := q
    obtain ⟨hc, _⟩ := mem_twoC.mp hq
    have := M.state_all L hs hb e (x := x) hc
    unfold M.state at this
    exact List.map_inj_left.mp (Prod.mk.inj this).1 ms hms
  · unfold M.state
    refine Prod.ext ?_ r
    exact List.map_congr_left fun ms hms => h (a, b) (mem_twoC.mpr ⟨ha, hs, hb, Ne.symm hab⟩) ms hms
section
variable {P : Program} {w : World} {K : PySem.W.Frag} {mg : Str → Option Value} {base : Heap}
def spRight (K : PySem.W.Frag) : Sp := fun vs H Q _ => ∃ (p : Addr) (T : Tb Str) (a b : Str), vs = [.ref p, .str a, .str b] ∧ PlAt H p T ∧ GoodT T ∧ a ∈ M.names T.es ∧ b ∈ M.names T.es ∧ a ≠ b ∧ M.sworn T.es a = true ∧ ¬ M.Reach (fun x y => y ∈ M.next T x) b a ∧ b ∉ T.rg a ∧ Tabs (tt K) H ∧
  ∀ H', Gr (tt K) H H' → Q (.bl true) H'
theorem sc__law_right : FnScope ["_law_plain", "_law_name", "_law_other", "_law_more", "_law_first", "_law_second", "_law_many", "_law_is_free", "_law_roads", "_law_one"] ["_law_plain", "_law_name", "_law_other"] (defScope s__law_right) := ⟨rfl, rfl, rfl, by decide +kernel, rfl, by decide +kernel, by decide +kernel⟩
theorem ok__law_right (c : Tx K mg base) : Ok P w K mg base 13 (ga K "_law_right") ["_law_plain", "_law_name", "_law_other"] (spRight K) := by
  refine Ok.mk' (fd__law_right c) sc__law_right (fun _ _ _ _ _ _ us hl => match us, hl with | [_, _, _], _ => rfl) (fun vs H Q E h => ?_) (fun cdv A outer s H vs Q E hr h => ?_)
  · obtain ⟨p, T, a, b, rfl, _⟩ := h
    rfl
  · obtain ⟨p, T, a, b, rfl, hP, hG, ha, hb, hab, hs, hr0, hnr, hT, k⟩ := h
    refine ⟨_, (pss_cons (ps_set (i := 3) sc__law_right.nd rfl (Or.inl rfl) ((ok__law_copy c).call hr (by decide) (g__law_copy c) (pa_cons (pv 0) pa_nil))) (pss_cons (ps_expr ((ok__law_admit c).call hr (by decide) (g__law_admit c) (pa_cons (pv 3) (pa_cons (pv 1) (pa_cons (pv 2) pa_nil))))) (pss_cons (ps_par (i := 4) (j := 5) rfl sc__law_right.nd rfl rfl (by decide) rfl rfl (pa_cons ((ok__law_made c).call hr (by decide) (g__law_made c) (pa_cons (pv 0) pa_nil)) (pa_cons ((ok__law_made c).call hr (by decide) (g__law_made c) (pa_cons (pv 3) pa_nil)) pa_nil)) (by rfl)) (pss_cons (ps_par (i := 6) (j := 7) rfl sc__law_right.nd rfl rfl (by decide) rfl rfl (pa_cons ((ok__law_rises c).call hr (by decide) (g__law_rises c) (pa_cons (pv 4) (pa_cons (pv 5) (pa_cons (pv 0) pa_nil)))) (pa_cons ((ok_is_needless c).call hr (by decide) (g_is_needless c) (pa_cons (pv 5) (pa_cons (pv 1) (pa_cons (pv 2) pa_nil)))) pa_nil)) (by rfl)) (C8.pss_cut (ps_if (PW.pt (pw_or (pt_cmpR op_isN (pv 6) pe_non (nomark _)) (pw_or (pt_cmpR op_ne ((ok_alike c).call hr (by decide) (g_alike c) (pa_cons (pv 4) (pa_cons (pv 5) pa_nil))) (pv 7) (nomark _)) (pw_or1 (PW.pt (pw_and (pt_val (pv 7)) (pw_and1 (pt_cmpR op_gt (pv 6) pe_int (nomark _))))))))) (pss_one (ps_ret pe_bl)) pss_nil) (pss_cons (ps_setLc (i := 8) (own := [("_law_one", 9)]) (g := (gName 9)) (tt := tYes) rfl sc__law_right.nd rfl rfl (sw_true rfl rfl rfl (by decide +kernel)) (piT K rfl (pe_tup (pa_cons (pv 0) (pa_cons (pv 3) pa_nil)))) (blkOk_by (N := ["_law_plain", "_law_name", "_law_other", "_law_more", "_law_first", "_law_second", "_law_many", "_law_is_free", "_law_roads", "_law_one"]) (sc := defScope s__law_right) (by decide +kernel)) (fun _ _ _ _ _ => (pg_name (i := 9) sc__law_right.nd rfl (by first | exact Or.inl rfl | exact Or.inr rfl))) (fun _ _ _ _ _ => by exact pts_nil) (fun _ _ _ _ _ => by exact ((ok__law_road_held c).call hr (by decide) (g__law_road_held c) (pa_cons (pv 9) (pa_cons (pv 1) (pa_cons (pv 2) pa_nil)))))) (pss_one (ps_ret (pe_or (pe_cmpR op_gt (pv 6) pe_int (nomark _)) (pe_or (pv 7) (pe_one (pe_cmpR op_ne (pe_ix (ixLK K rfl) (pv 8) pe_int (fun _ _ => rfl)) (pe_ix (ixLK K rfl) (pv 8) pe_int (fun _ _ => rfl)) (nomark _))))))))))))), ?_⟩
    refine ⟨_, rfl, p, T, rfl, hP, hG, fun H1 W p2 g1 hP2 => ?_⟩
    refine ⟨_, rfl, _, rfl, _, rfl, p2, [], W, T, a, b, rfl, hP2, hG.wf.nd, ha, Nat.le_trans (hG.wfT.regs a) (by decide), fun H2 g2 hP2' g2' => ?_⟩
    rw [if_neg hnr] at hP2'
    have hG2 := hG.admit ha hb hab hs hr0 hnr
    have gA : Gr (tt K) H H2 := (g1.trans g2').trans gr_of_woL
    have hPa := hP.mono gA
    refine ⟨_, rfl, p, T, rfl, hPa, hG, fun H3 w1 g3 hw1 => ?_⟩
    have hP3 := hP2'.here.mono g3
    refine ⟨_, rfl, p2, M.admit T a b, rfl, hP3, hG2, fun H4 w2 g4 hw2 => ⟨_, _, rfl, ?_⟩⟩
    have gB := (gA.trans g3).trans g4
    obtain ⟨f1, f2, f3⟩ := right_free hG ha hb hs hab
    have hb2 : b ∈ (M.admit T a b).rg a := by
      show b ∈ (if a = a then T.rg a ++ [b] else T.rg a)
      rw [if_pos rfl]
      simp
    refine ⟨_, rfl, _, rfl, _, rfl, w1, w2, p, T, M.admit T a b, rfl, hw1.mono g4, hw2, hP.mono gB, rfl, hG.wfT, hG2.wfT, hG.hooks, hG.wfM, gB.2 hT, fun c x ms => M.rises hs c x ms, fun H5 m g5 hm => ?_⟩
    have gC := gB.trans g5
    refine ⟨_, rfl, _, rfl, _, rfl, w2, M.admit T a b, a, b, rfl, hw2.mono g5, hG2.wfT, hG2.wfM, ha, hb2, gC.2 hT, fun H6 r g6 hr => ⟨_, _, rfl, ?_⟩⟩
    rw [dropR_admit hnr] at hr
    have gD := gC.trans g6
    have gw1 := (g4.trans g5).trans g6
    refine ⟨fun σ H' => σ = [some (.ref p), some (.str a), some (.str b), some (.ref p2), some (.ref w1), some (.ref w2), some (.int m), some (.bl r), none, none] ∧ Gr (tt K) H6 H', ?_, ?_⟩
    · refine ⟨_, rfl, rfl, _, rfl, iteF ⟨_, rfl, _, rfl, w1, w2, T, M.admit T a b, rfl, hw1.mono gw1, hw2.mono (g5.trans g6), rfl, hG.wfT, hG2.wfT, hG.wfM, hG.wfD, gD.2 hT, fun H7 ba g7 hba => ⟨_, rfl, rfl, _, rfl, ?_⟩⟩⟩
      have er : ba = r := by
        have : ba = true ↔ r = true := hba.trans (f1.trans hr.symm)
        cases ba <;> cases r <;> simp_all
      subst er
      have e0 : (!decide (V.bl ba = V.bl ba)) = false := by simp
      rw [e0]
      refine iteF ?_
      cases ba with
      | false => exact ⟨_, rfl, _, rfl, iteF (iteF ⟨rfl, g7⟩)⟩
      | true =>
        have m0 : m = 0 := hm.mpr (f2 (hr.mp rfl))
        subst m0
        exact ⟨_, rfl, _, rfl, iteT ⟨_, rfl, _, _, rfl, rfl, _, rfl, iteF ⟨rfl, g7⟩⟩⟩
    · rintro σ H7 ⟨rfl, g7⟩
      have gE := gD.trans g7
      have gP2 := gw1.trans g7
      refine ⟨_, rfl, _, rfl, by show 2 ≤ sizeLine; decide, fun u hu => ⟨u, rfl, ⟨_, SqT.of upd_same⟩, fun D hD => ?_⟩⟩
      have gu : Gr (tt K) H7 (upd H7 u (.tup [.ref p, .ref p2])) := Gr.new hu
      have hu1 : upd H7 u (.tup [.ref p, .ref p2]) u = some (.tup [.ref p, .ref p2]) := upd_same
      generalize upd H7 u (.tup [.ref p, .ref p2]) = H8 at *
      have gF := gE.trans gu
      have gP := gP2.trans gu
      refine lcF (T := tt K) (walk_tup (K := K) (a := u) (xs := [.ref p, .ref p2])) [false, true] rfl (by decide) (fun c => .bl (if c = true then M.hasRoad (M.admit T a b) a b else M.hasRoad T a b)) (fun _ => true) hD (fun H' g => g.sqT (SqT.of hu1)) (fun i c x H9 H9' hi g9 y Kp Ks kp ks => ?_) (fun H9 g9 hl => ?_)
      · obtain ⟨rfl, hx⟩ := y
        match i, hi, hx with
        | 0, hi, hx =>
          cases hi
          cases hx
          exact ⟨rfl, yesT ⟨_, rfl, _, rfl, _, rfl, p, T, a, b, rfl, hP.mono (gF.trans g9), hG.wfL, ha, hb, fun H' g => kp rfl _ g⟩⟩
        | 1, hi, hx =>
          cases hi
          cases hx
          exact ⟨rfl, yesT ⟨_, rfl, _, rfl, _, rfl, p2, M.admit T a b, a, b, rfl, hP3.mono (gP.trans g9), hG2.wfL, ha, hb, fun H' g => kp rfl _ g⟩⟩
      · have hl2 : H9 D = some (.lst [.bl (M.hasRoad T a b), .bl (M.hasRoad (M.admit T a b) a b)]) := hl
        have gG := gF.trans g9
        refine ⟨_, rfl, _, _, rfl, rfl, _, rfl, ?_⟩
        by_cases m0 : m = 0
        · subst m0
          refine iteF ⟨_, rfl, _, rfl, ?_⟩
          cases r with
          | true => exact iteT (k _ gG)
          | false =>
            refine iteF ⟨_, rfl, D, _, 0, _, rfl, rfl, SqL.of hl2, rfl, _, rfl, D, _, 1, _, rfl, rfl, SqL.of hl2, rfl, ?_⟩
            have hne : V.bl (M.hasRoad T a b) ≠ V.bl (M.hasRoad (M.admit T a b) a b) := fun e => by
              have e2 : M.hasRoad T a b = M.hasRoad (M.admit T a b) a b := by injection e
              have := hr.mpr (f3 (hm.mp rfl) e2)
              cases this
            refine ⟨rfl, ?_⟩
            rw [decide_eq_false hne]
            exact k _ gG
        · rw [decide_eq_true (show (0 : Int) < (m : Int) by omega)]
          exact iteT (k _ gG)
end
end SW


set_option maxHeartbeats 2000000
namespace SW
open PySem PySem.Spec PyProof.Rows L2 He LamX NdefX
open SW.M (Ent Tb Oc)
section
variable {P : Program} {w : World} {K : PySem.W.Frag} {mg : Str → Option Value} {base : Heap} {x qual : Str} {params : Arguments} {body : List Stmt} {scope : Scope} {f : Addr} {N ps : List Str} {k : Nat} {sp : Sp} {fd : FuncData}
theorem fnokF (F : FunD K x qual params body scope [] [] f fd) (S : FnScope N ps scope)
    (len : ∀ vs H Q E, sp vs H Q E → vs.length = ps.length)
    (hbody : ∀ (cdv : Value) (A : Around) (outer : List Env) (s : Shared) (H : Hp) (vs : List V) (Q : VK) (E : XK), Room k (A.deeper (envOfC qual scope s.heap.objs.size f cdv)) → sp vs H Q E →
      ∃ t, PSs (cxOf CX0 P w K mg base N qual scope f cdv A outer s H E).nox body t ∧ t { nx := fun _ H' => Q .non H', rt := Q } (start N vs) H) : FnOk P w K mg base CX0 (k + 1) f fd ps sp := by
  refine F.ok S len fun cdv A outer s H vs Q E hr h => ?_
  obtain ⟨t, h1, h2⟩ := hbody cdv A outer s H vs Q E hr h
  exact ⟨t, h1.nox, h2⟩
end
section
variable {P : Program} {w : World} {K : PySem.W.Frag} {mg : Str → Option Value} {base : Heap}
def spLaw (K : PySem.W.Frag) : Sp := fun vs H Q _ => ∃ (S : Addr) (ns : List Int), vs = [.ref S] ∧ SqL K H S (ns.map V.int) ∧ Tabs (tt K) H ∧ ∀ H', Q (.bl true) H'
theorem sc_law : FnScope ["_law_script", "_law_at", "_law_bag_here", "_law_turn", "_law_plain", "_law_name", "_law_other"] ["_law_script"] (defScope s_law) := ⟨rfl, rfl, rfl, by decide +kernel, rfl, by decide +kernel, by decide +kernel⟩
abbrev sN_law : List Str := ["_law_script", "_law_at", "_law_bag_here", "_law_turn", "_law_plain", "_law_name", "_law_other"]
theorem fn_law (c : Tx K mg base) {fd : FuncData} (F : FunD K "law" "law" (defArgs s_law) (defBody s_law) (defScope s_law) [] [] (ga K "law") fd) : FnOk P w K mg base CX0 15 (ga K "law") fd ["_law_script"] (spLaw K) := by
  refine fnokF F sc_law (fun vs H Q E h => ?_) fun cdv A outer s H vs Q E hr h => ?_
  · obtain ⟨S, ns, rfl, _⟩ := h
    rfl
  · obtain ⟨S, ns, rfl, hS, hT, k⟩ := h
    refine ⟨_, (pss_cons (ps_for PassesOwn.never rfl (pi_range1 rfl (n_range c) (pa_cons (pe_callB (call_max2 rfl) (by rfl) (n_max c) (by first | exact PySem.boot_max | exact boot_max | decide +kernel) (pa_cons pe_int (pa_cons (pe_callB (call_min2 rfl) (by rfl) (n_min c) (by first | exact PySem.boot_min | exact boot_min | decide +kernel) (pa_cons pe_int (pa_cons (pe_callB (lenK K rfl) (by rfl) (n_len c) (by first | exact PySem.boot_len | exact boot_len | decide +kernel) (pa_cons (pv 0) pa_nil)) pa_nil))) pa_nil))) pa_nil)) (pg_name (i := 1) sc_law.nd rfl (Or.inl rfl)) (pss_cons (ps_set (i := 2) sc_law.nd rfl (Or.inl rfl) ((ok__law_bag c).call hr (by decide) (g__law_bag c) (pa_cons (pv 0) (pa_cons (pv 1) pa_nil)))) (pss_one (ps_for PassesOwn.never rfl (pi_range1 rfl (n_range c) (pa_cons pe_int pa_nil)) (pg_name (i := 3) sc_law.nd rfl (Or.inl rfl)) (pss_cons (ps_set (i := 4) sc_law.nd rfl (Or.inl rfl) ((ok__law_drawn c).call hr (by decide) (g__law_drawn c) (pa_cons (pv 2) (pa_cons pe_int pa_nil)))) (pss_one (ps_for PassesOwn.never rfl (piL K rfl (pe_dget (hu_of hr) (pv 4) pe_str (fun _ _ => rfl))) (pg_name (i := 5) sc_law.nd rfl (Or.inl rfl)) (pss_one (ps_for PassesOwn.never rfl (piL K rfl (pe_dget (hu_of hr) (pv 4) pe_str (fun _ _ => rfl))) (pg_name (i := 6) sc_law.nd rfl (Or.inl rfl)) (pss_one (ps_if (PW.pt (pw_and (pt_val ((ok__law_admits c).call hr (by decide) (g__law_admits c) (pa_cons (pv 4) (pa_cons (pv 5) (pa_cons (pv 6) pa_nil))))) (pw_and1 (pt_cmpR (ninK K rfl) (pv 6) (pe_dget (hu_of hr) (pe_dget (hu_of hr) (pv 4) pe_str (fun _ _ => rfl)) (pv 5) (fun _ _ => rfl)) rfl)))) (pss_one (ps_if (pt_not (pt_val ((ok__law_right c).call hr (by decide) (g__law_right c) (pa_cons (pv 4) (pa_cons (pv 5) (pa_cons (pv 6) pa_nil)))))) (pss_one (ps_ret pe_bl)) pss_nil)) pss_nil))))))))))) (pss_one (ps_ret pe_bl))), ?_⟩
    refine ⟨_, rfl, S, _, rfl, .inl hS, _, _, rfl, _, _, rfl, _, rfl, ?_, ?_, ?_⟩
    · split <;> split <;> omega
    · split <;> split <;> omega
    have hn3 : (if (if ((ns.map V.int).length : Int) < 3 then ((ns.map V.int).length : Int) else 3) > 2 then (if ((ns.map V.int).length : Int) < 3 then ((ns.map V.int).length : Int) else 3) else (2 : Int)).toNat ≤ 3 := by
      split <;> split <;> omega
    generalize (if (if ((ns.map V.int).length : Int) < 3 then ((ns.map V.int).length : Int) else 3) > 2 then (if ((ns.map V.int).length : Int) < 3 then ((ns.map V.int).length : Int) else 3) else (2 : Int)).toNat = n at hn3 ⊢
    refine for_range (n := n) (fun i σ H' => Gr (tt K) H H' ∧ ∃ x1 x2 x3 x4 x5 x6 : Option V, σ = [some (.ref S), x1, x2, x3, x4, x5, x6]) ⟨Gr.refl _, _, _, _, _, _, _, rfl⟩ ?_ ?_
    · rintro i σ H0 hi ⟨g0, x1, x2, x3, x4, x5, x6, rfl⟩
      refine ⟨_, rfl, _, rfl, S, ns, i, (by rw [Int.zero_add]; rfl), g0.sqL hS, by omega, fun H1 b g1 gb hb => ?_⟩
      refine ⟨2, rfl, by decide, by decide, ?_⟩
      rw [show (2 : Int).toNat = 2 from rfl]
      refine for_range (n := 2) (fun j σ H' => BagAt H' b (1000 * j) ∧ Gr (tt K) (woL [b] H1) (woL [b] H') ∧ ∃ x1 x3 x4 x5 x6 : Option V, σ = [some (.ref S), x1, some (.ref b), x3, x4, x5, x6]) ⟨hb, Gr.refl _, _, _, _, _, _, rfl⟩ ?_ ?_
      · rintro j σ H2 hj ⟨hb2, g2, x1, x3, x4, x5, x6, rfl⟩
        refine ⟨_, rfl, b, 1000 * j, rfl, hb2, by omega, fun H3 p T g3 hP hG hb3 => ?_⟩
        obtain ⟨nn, q1, q2⟩ := hP.names
        have gT3 : Gr (tt K) H H3 := (((g0.trans gb).trans g2).trans g3).trans gr_of_woL
        refine ⟨_, rfl, p, _, rfl, q1, nn, rfl, ⟨_, SqL.of q2⟩, ?_⟩
        refine for_list (K := K) (a := nn) (xs := sv (M.names T.es)) (fun i σ H' => Gr (tt K) H3 H' ∧ ∃ x1 x3 x5 x6 : Option V, σ = [some (.ref S), x1, some (.ref b), x3, some (.ref p), x5, x6]) ⟨Gr.refl _, _, _, _, _, rfl⟩ (fun i σ H' _ h => SqL.of (h.1.lst q2)) ?_ ?_
        · rintro i1 v σ H4 hi1 ⟨g4, x1, x3, x5, x6, rfl⟩
          obtain ⟨a, ha, rfl⟩ := sv_at hi1
          have han := List.mem_of_getElem? ha
          refine ⟨_, rfl, p, _, rfl, dget_mono g4 q1, nn, rfl, ⟨_, SqL.of (g4.lst q2)⟩, ?_⟩
          refine for_list (K := K) (a := nn) (xs := sv (M.names T.es)) (fun i σ H' => Gr (tt K) H3 H' ∧ ∃ x1 x3 x6 : Option V, σ = [some (.ref S), x1, some (.ref b), x3, some (.ref p), some (.str a), x6]) ⟨g4, _, _, _, rfl⟩ (fun i σ H' _ h => SqL.of (h.1.lst q2)) ?_ ?_
          · rintro i2 v σ H5 hi2 ⟨g5, x1, x3, x6, rfl⟩
            obtain ⟨o, ho, rfl⟩ := sv_at hi2
            have hon := List.mem_of_getElem? ho
            refine ⟨_, rfl, _, rfl, _, rfl, p, T, a, o, rfl, hP.mono g5, hG.wfL, han, hon, fun H6 c1 g6 hc1 => ⟨_, rfl, ?_⟩⟩
            have g56 := g5.trans g6
            cases c1 with
            | false => exact iteF (iteF ⟨g56, _, _, _, rfl⟩)
            | true =>
              obtain ⟨r1, r2, r3⟩ := hc1.mp rfl
              obtain ⟨ll, l1, l2⟩ := hP.lists
              obtain ⟨la, l3, l4⟩ := l2 a han
              refine iteT ⟨_, rfl, _, rfl, p, _, rfl, dget_mono g56 l1, _, rfl, ll, _, rfl, dget_mono g56 l3, la, _, rfl, .inl (SqL.of (g56.lst l4)), rfl, flat_sv _, _, rfl, ?_⟩
              rw [inV_sv]
              by_cases hm : o ∈ T.rg a
              · rw [decide_eq_true hm]
                exact iteF ⟨g56, _, _, _, rfl⟩
              · rw [decide_eq_false hm]
                refine iteT ⟨_, rfl, _, rfl, _, rfl, p, T, a, o, rfl, hP.mono g56, hG, han, hon, r1, r2, r3, hm, (gT3.trans g56).2 hT, fun H7 g7 => ⟨_, rfl, iteF ⟨g56.trans g7, _, _, _, rfl⟩⟩⟩
          · rintro σ H5 ⟨g5, x1, x3, x6, rfl⟩
            exact ⟨g5, _, _, _, _, rfl⟩
        · rintro σ H4 ⟨g4, x1, x3, x5, x6, rfl⟩
          have hb4 := hb3.mono g4 (Nat.le_refl _)
          have gw : Gr (tt K) (woL [b] H3) (woL [b] H4) := g4.woL fun x hx => by
            rw [List.mem_singleton.mp hx]
            exact hb4.mut
          exact ⟨hb4.mono (Gr.refl (T := tt K) _) (by omega), (g2.trans g3).trans gw, _, _, _, _, _, rfl⟩
      · rintro σ H2 ⟨hb2, g2, x1, x3, x4, x5, x6, rfl⟩
        exact ⟨((g0.trans gb).trans g2).trans gr_of_woL, _, _, _, _, _, _, rfl⟩
    · rintro σ H0 ⟨g0, x1, x2, x3, x4, x5, x6, rfl⟩
      exact k H0
end
end SW


set_option maxHeartbeats 0
namespace SW
open PySem PySem.Spec PyProof.Rows L2 He
theorem law_at {P : Program} {w : World} {K : PySem.W.Frag} {h : Heap} {mg : Str → Option Value} {fa : Addr} (X : K.In h) (G : h.Ns mainGlobals mg) (hfa : mg ("law" : Str) = some (.ref fa)) (c : SaysS h K) :
    ∃ (fd : FuncData), (∀ (s : Shared) (u : Value), BindsTo s fd ⟨[u], []⟩ [("_law_script", u)]) ∧
      ∀ base : Heap, K.In base → base.Ns mainGlobals mg → (∀ p ∈ tfl.map (He.cT K), LamX.TabB base mg p.1 p.2) → FnOk P w K mg base CX0 15 fa fd ["_law_script"] (spLaw K) := by
  obtain ⟨fd, F⟩ : ∃ fd, FunD K "law" "law" (defArgs s_law) (defBody s_law) (defScope s_law) [] [] (ga K "law") fd := c.d.def_ 57 rfl
  have mk : ∀ base : Heap, (∀ p ∈ tfl.map (He.cT K), LamX.TabB base mg p.1 p.2) → Tx K mg base := fun base t => ⟨c.d, c.more, c.g, ⟨h, X, G⟩, fun p hp => t _ (List.mem_map.mpr ⟨p, hp, rfl⟩)⟩
  have e : ga K "law" = fa := by
    have := hfa.symm.trans (He.glo_ok X G (c.d.fact 57 (f := He.Fa.glo "law") rfl))
    cases this
    rfl
  subst e
  have b := FunD.bindsA (ps := ["_law_script"]) F fun _ _ _ _ _ _ us hl => match us, hl with | [_], _ => rfl
  exact ⟨fd, fun s v => b s [v] rfl, fun base _ _ t => fn_law (mk base t) F⟩
theorem tabs_new {K : PySem.W.Frag} {H : Hp} (h : ∀ p ∈ tfl.map (He.cT K), H p.2 = some (.tbl #[])) : LamX.Tabs (tt K) H := fun p hp => by
  have hp2 : H p.1 = some (.tbl #[]) := by
    unfold tt at hp
    simp only [List.mem_cons, List.not_mem_nil, or_false] at hp
    rcases hp with rfl | rfl
    · exact h (He.cT K ("led_to", none)) (List.mem_map.mpr ⟨("led_to", none), by simp [tfl], rfl⟩)
    · exact h (He.cT K ("has_road", none)) (List.mem_map.mpr ⟨("has_road", none), by simp [tfl], rfl⟩)
  exact ⟨#[], hp2, trivial, fun pos cv hc => by cases hc⟩
end SW

set_option maxHeartbeats 0
namespace SW
open PySem PySem.Spec PyProof.Rows L2 He
end SW
open PySem PySem.W PySem.Calls PyProof.Rows
theorem PySem.Challenge.cw_sworntypes_k78_whole_one_registration_mo_holds : PySem.Challenge.rw_sworntypes_k78_whole_one_registration_mo.Holds := by
  w_on; o_law
  refine HandSHeadRun.head_any (r := OpenLaw.row PySem.Challenge.rw_sworntypes_k78_whole_one_registration_mo) (q := view (OpenLaw.row PySem.Challenge.rw_sworntypes_k78_whole_one_registration_mo).prog [101]) (H := SW.hk) (ob := SW.ob) (M := 20000) (loose := SW.loose) (d := HandSHeadRun.topDef (OpenLaw.row PySem.Challenge.rw_sworntypes_k78_whole_one_registration_mo).prog 101) (kwd := []) SW.ob_eq
    (by kernel_rfl) (fun s => by kernel_rfl) SW.run (by kernel_rfl) (by kernel_rfl) (by kernel_rfl) (by rfl) (by first | assumption | decide +kernel) (by decide +kernel) ⟨rfl, rfl, rfl, rfl, rfl, by decide +kernel⟩ ?hw ?hc
  case hw => w_witness2
  case hc =>
    refine LamX.walk_ofTsE (l := PySem.Challenge.rw_sworntypes_k78_whole_one_registration_mo) (n := 63) (k := 15) (x := "_law_script") (CX := fun _ => L2.CX0) rfl (by decide) (by kernel_rfl) ⟨rfl, by decide, by decide⟩ ?F (fun _ _ _ _ _ z => z)
    intro w mg fa h Y G hmg0
    obtain ⟨K, KX, c⟩ := Y
    have hmg : mg ("law" : PySem.Str) = some (.ref fa) := by
      have e : (HandSHeadRun.topDef (OpenLaw.row PySem.Challenge.rw_sworntypes_k78_whole_one_registration_mo).prog 101).name = ("law" : PySem.Str) := by kernel_rfl
      rw [← e]
      exact hmg0
    obtain ⟨fd, hb, hF⟩ := SW.law_at (P := (PySem.Challenge.rw_sworntypes_k78_whole_one_registration_mo).prog) (w := w) KX G hmg c
    refine ⟨K, KX, fd, SW.tfl.map (He.cT K), SW.spLaw K, ?_, ?_, ?_, hb, fun H a ns hl _ ht hS => ⟨a, ns, rfl, hS, SW.tabs_new ht, fun _ => rfl⟩, hF⟩
    · intro p hp
      obtain ⟨q, hq, rfl⟩ := List.mem_map.mp hp
      exact c.empty q hq
    · intro p hp
      obtain ⟨q, hq, rfl⟩ := List.mem_map.mp hp
      exact c.out q hq
    · intro p hp
      obtain ⟨q, hq, rfl⟩ := List.mem_map.mp hp
      exact PySem.W.codeHd_of_K KX (c.hd q hq)

import PyProof.Rows.All
import Wide.All
import OpenK.AllK
import Wide.FinOn
import HandS.ForMost
import HandS.Defaults
import HandS.HeadHook4
import HandS.HeadWalk
import HandS.Star
import PySem.Challenge.RW_sworntypes_k79_whole_kernels_after_drops
import KE.KStateDown
import HandS.Head0
import HandS.Head1
import HandS.Head2
import HandS.Walk
import HandS.TupAny
import HandS.Style
import HandS.Flow
import HandS.IsInst
import HandS.Conv
import HandS.SetKeys
import HandS.DictComp
import HandS.ListItems
import HandS.Deep
import HandS.Lambda
import PyProof.Rows.StrInSeq3
import KE.Datum
import PyProof.Rows.SetFrom
import HandS.Set
import HandS.SetTxt0
import HandS.SetFor
import HandS.Strs
import HandS.SetBool
import KE.GoesMore
import KE.KUnpackStar
import HandS.Iter
import HandS.Text
set_option Elab.async false
set_option linter.all false
set_option maxRecDepth 100000
set_option maxHeartbeats 0
namespace ST
open PySem PySem.Spec PyProof.Rows L2
def top (i : Nat) : Stmt := PySem.Challenge.pw_sworntypes_k79_whole_kernels_after_drops.main.body.getD i (.Pass ⟨0, 0, 0, 0⟩)
abbrev s_roads_from : Stmt := top 15
abbrev s_is_name : Stmt := top 19
abbrev s_is_clause : Stmt := top 21
abbrev s_hook_fault : Stmt := top 22
abbrev s_hook_answer : Stmt := top 23
abbrev s_is_mark : Stmt := top 30
abbrev s_look_marks : Stmt := top 31
abbrev s_is_sworn : Stmt := top 32
abbrev s_hook_for : Stmt := top 37
abbrev s_answer_by_hook : Stmt := top 38
abbrev s_subclasses : Stmt := top 39
abbrev s_methods_in : Stmt := top 41
abbrev s_patterns_in : Stmt := top 46
abbrev s_held_by : Stmt := top 47
abbrev s_declines : Stmt := top 48
abbrev s_next_in : Stmt := top 49
abbrev s_led_to : Stmt := top 50
abbrev s_is_reached : Stmt := top 51
abbrev s_outcome_in : Stmt := top 52
abbrev s_has_road : Stmt := top 53
abbrev s_state_of : Stmt := top 54
abbrev s_outcome : Stmt := top 55
abbrev s_is_needless_in : Stmt := top 56
abbrev s_needless : Stmt := top 57
abbrev s_kernel : Stmt := top 58
abbrev s_can_be_first : Stmt := top 62
abbrev s_merged : Stmt := top 63
abbrev s_look_bases : Stmt := top 65
abbrev s_look_hook : Stmt := top 66
abbrev s_new_entry : Stmt := top 67
abbrev s_law_bag : Stmt := top 74
abbrev s_law_take : Stmt := top 75
abbrev s_law_pick : Stmt := top 76
abbrev s_law_merge : Stmt := top 77
abbrev s_law_new : Stmt := top 78
abbrev s_law_sworn : Stmt := top 79
abbrev s_law_next : Stmt := top 80
abbrev s_law_led : Stmt := top 81
abbrev s_law_make : Stmt := top 82
abbrev s_law_new_rule : Stmt := top 83
abbrev s_law_class : Stmt := top 84
abbrev s_law_admits : Stmt := top 85
abbrev s_law_admit : Stmt := top 86
abbrev s_law_some_admitted : Stmt := top 87
abbrev s_law_drawn : Stmt := top 88
abbrev s_law_made_in : Stmt := top 89
abbrev s_law_made : Stmt := top 90
abbrev s_law_methods : Stmt := top 91
abbrev s_law_patterns : Stmt := top 92
abbrev s_law_two_classes : Stmt := top 93
abbrev s_law_drop : Stmt := top 94
abbrev s_law_outcomes : Stmt := top 95
abbrev s_law_lowest : Stmt := top 96
abbrev s_law : Stmt := top 97
abbrev s_Entry_init : Stmt := inClass (top 29) 0
abbrev s_Cache_init : Stmt := inClass (top 60) 0
abbrev s_Cache_refresh : Stmt := inClass (top 60) 6
abbrev s_Table_init : Stmt := inClass (top 69) 0
abbrev s_Table_copied : Stmt := inClass (top 69) 1
abbrev s_Table_has : Stmt := inClass (top 69) 2
abbrev s_Table_add_class : Stmt := inClass (top 69) 4
abbrev s_Table_remove_class : Stmt := inClass (top 69) 6
abbrev s_Table_add_registration : Stmt := inClass (top 69) 7
abbrev s_Table_remove_registration : Stmt := inClass (top 69) 8
abbrev s_Table_registrations : Stmt := inClass (top 69) 9
abbrev s_Table_is_above : Stmt := inClass (top 69) 10
abbrev s_Table_sworn : Stmt := inClass (top 69) 11
abbrev s_Table_below : Stmt := inClass (top 69) 12
abbrev s_Table_next_of : Stmt := inClass (top 69) 13
abbrev s_Table_answer_for : Stmt := inClass (top 69) 15
abbrev s_Table_shortest_road : Stmt := inClass (top 69) 19
abbrev s_Table_ring_by : Stmt := inClass (top 69) 20
abbrev s_World_init : Stmt := inClass (top 72) 0
abbrev s_World_look : Stmt := inClass (top 72) 8
abbrev s_World_refresh : Stmt := inClass (top 72) 9
abbrev s_World_make : Stmt := inClass (top 72) 11
abbrev s_World_look_registration : Stmt := inClass (top 72) 14
abbrev s_World_admit : Stmt := inClass (top 72) 15
abbrev s_World_drop : Stmt := inClass (top 72) 16
/-- how a def is told to the head -/
abbrev dd (p : Str × Option Str) (n q : Str) (st : Stmt) : He.DefD := ⟨p, n, q, defArgs st, defBody st, defScope st, [], []⟩
def d_roads_from : He.DefD := dd ("roads_from", none) "roads_from" "roads_from" s_roads_from
def d_is_name : He.DefD := dd ("is_name", none) "is_name" "is_name" s_is_name
def d_is_clause : He.DefD := dd ("is_clause", none) "is_clause" "is_clause" s_is_clause
def d_hook_fault : He.DefD := dd ("hook_fault", none) "hook_fault" "hook_fault" s_hook_fault
def d_hook_answer : He.DefD := dd ("hook_answer", none) "hook_answer" "hook_answer" s_hook_answer
def d_is_mark : He.DefD := dd ("is_mark", none) "is_mark" "is_mark" s_is_mark
def d_look_marks : He.DefD := dd ("look_marks", none) "look_marks" "look_marks" s_look_marks
def d_is_sworn : He.DefD := dd ("is_sworn", none) "is_sworn" "is_sworn" s_is_sworn
def d_hook_for : He.DefD := dd ("hook_for", none) "hook_for" "hook_for" s_hook_for
def d_answer_by_hook : He.DefD := dd ("answer_by_hook", none) "answer_by_hook" "answer_by_hook" s_answer_by_hook
def d_subclasses : He.DefD := dd ("subclasses", none) "subclasses" "subclasses" s_subclasses
def d_methods_in : He.DefD := dd ("methods_in", none) "methods_in" "methods_in" s_methods_in
def d_patterns_in : He.DefD := dd ("patterns_in", none) "patterns_in" "patterns_in" s_patterns_in
def d_held_by : He.DefD := dd ("held_by", none) "held_by" "held_by" s_held_by
def d_declines : He.DefD := dd ("declines", none) "declines" "declines" s_declines
def d_next_in : He.DefD := dd ("next_in", none) "next_in" "next_in" s_next_in
def d_led_to : He.DefD := dd ("led_to", none) "led_to" "led_to" s_led_to
def d_is_reached : He.DefD := dd ("is_reached", none) "is_reached" "is_reached" s_is_reached
def d_outcome_in : He.DefD := dd ("outcome_in", none) "outcome_in" "outcome_in" s_outcome_in
def d_has_road : He.DefD := dd ("has_road", none) "has_road" "has_road" s_has_road
def d_state_of : He.DefD := dd ("state_of", none) "state_of" "state_of" s_state_of
def d_outcome : He.DefD := dd ("outcome", none) "outcome" "outcome" s_outcome
def d_is_needless_in : He.DefD := dd ("is_needless_in", none) "is_needless_in" "is_needless_in" s_is_needless_in
def d_needless : He.DefD := dd ("needless", none) "needless" "needless" s_needless
def d_kernel : He.DefD := dd ("kernel", none) "kernel" "kernel" s_kernel
def d_can_be_first : He.DefD := dd ("can_be_first", none) "can_be_first" "can_be_first" s_can_be_first
def d_merged : He.DefD := dd ("merged", none) "merged" "merged" s_merged
def d_look_bases : He.DefD := dd ("look_bases", none) "look_bases" "look_bases" s_look_bases
def d_look_hook : He.DefD := dd ("look_hook", none) "look_hook" "look_hook" s_look_hook
def d_new_entry : He.DefD := dd ("new_entry", none) "new_entry" "new_entry" s_new_entry
def d_law_bag : He.DefD := dd ("_law_bag", none) "_law_bag" "_law_bag" s_law_bag
def d_law_take : He.DefD := dd ("_law_take", none) "_law_take" "_law_take" s_law_take
def d_law_pick : He.DefD := dd ("_law_pick", none) "_law_pick" "_law_pick" s_law_pick
def d_law_merge : He.DefD := dd ("_law_merge", none) "_law_merge" "_law_merge" s_law_merge
def d_law_new : He.DefD := dd ("_law_new", none) "_law_new" "_law_new" s_law_new
def d_law_sworn : He.DefD := dd ("_law_sworn", none) "_law_sworn" "_law_sworn" s_law_sworn
def d_law_next : He.DefD := dd ("_law_next", none) "_law_next" "_law_next" s_law_next
def d_law_led : He.DefD := dd ("_law_led", none) "_law_led" "_law_led" s_law_led
def d_law_make : He.DefD := dd ("_law_make", none) "_law_make" "_law_make" s_law_make
def d_law_new_rule : He.DefD := dd ("_law_new_rule", none) "_law_new_rule" "_law_new_rule" s_law_new_rule
def d_law_class : He.DefD := dd ("_law_class", none) "_law_class" "_law_class" s_law_class
def d_law_admits : He.DefD := dd ("_law_admits", none) "_law_admits" "_law_admits" s_law_admits
def d_law_admit : He.DefD := dd ("_law_admit", none) "_law_admit" "_law_admit" s_law_admit
def d_law_some_admitted : He.DefD := dd ("_law_some_admitted", none) "_law_some_admitted" "_law_some_admitted" s_law_some_admitted
def d_law_drawn : He.DefD := dd ("_law_drawn", none) "_law_drawn" "_law_drawn" s_law_drawn
def d_law_made_in : He.DefD := dd ("_law_made_in", none) "_law_made_in" "_law_made_in" s_law_made_in
def d_law_made : He.DefD := dd ("_law_made", none) "_law_made" "_law_made" s_law_made
def d_law_methods : He.DefD := dd ("_law_methods", none) "_law_methods" "_law_methods" s_law_methods
def d_law_patterns : He.DefD := dd ("_law_patterns", none) "_law_patterns" "_law_patterns" s_law_patterns
def d_law_two_classes : He.DefD := dd ("_law_two_classes", none) "_law_two_classes" "_law_two_classes" s_law_two_classes
def d_law_drop : He.DefD := dd ("_law_drop", none) "_law_drop" "_law_drop" s_law_drop
def d_law_outcomes : He.DefD := dd ("_law_outcomes", none) "_law_outcomes" "_law_outcomes" s_law_outcomes
def d_law_lowest : He.DefD := dd ("_law_lowest", none) "_law_lowest" "_law_lowest" s_law_lowest
def d_law : He.DefD := dd ("law", none) "law" "law" s_law
def d_Entry_init : He.DefD := dd ("Entry", some "__init__") "__init__" "Entry.__init__" s_Entry_init
def d_Cache_init : He.DefD := dd ("Cache", some "__init__") "__init__" "Cache.__init__" s_Cache_init
def d_Cache_refresh : He.DefD := dd ("Cache", some "refresh") "refresh" "Cache.refresh" s_Cache_refresh
def d_Table_init : He.DefD := dd ("Table", some "__init__") "__init__" "Table.__init__" s_Table_init
def d_Table_copied : He.DefD := dd ("Table", some "copied") "copied" "Table.copied" s_Table_copied
def d_Table_has : He.DefD := dd ("Table", some "has") "has" "Table.has" s_Table_has
def d_Table_add_class : He.DefD := dd ("Table", some "add_class") "add_class" "Table.add_class" s_Table_add_class
def d_Table_remove_class : He.DefD := dd ("Table", some "remove_class") "remove_class" "Table.remove_class" s_Table_remove_class
def d_Table_add_registration : He.DefD := dd ("Table", some "add_registration") "add_registration" "Table.add_registration" s_Table_add_registration
def d_Table_remove_registration : He.DefD := dd ("Table", some "remove_registration") "remove_registration" "Table.remove_registration" s_Table_remove_registration
def d_Table_registrations : He.DefD := dd ("Table", some "registrations") "registrations" "Table.registrations" s_Table_registrations
def d_Table_is_above : He.DefD := dd ("Table", some "is_above") "is_above" "Table.is_above" s_Table_is_above
def d_Table_sworn : He.DefD := dd ("Table", some "sworn") "sworn" "Table.sworn" s_Table_sworn
def d_Table_below : He.DefD := dd ("Table", some "below") "below" "Table.below" s_Table_below
def d_Table_next_of : He.DefD := dd ("Table", some "next_of") "next_of" "Table.next_of" s_Table_next_of
def d_Table_answer_for : He.DefD := dd ("Table", some "answer_for") "answer_for" "Table.answer_for" s_Table_answer_for
def d_Table_shortest_road : He.DefD := dd ("Table", some "shortest_road") "shortest_road" "Table.shortest_road" s_Table_shortest_road
def d_Table_ring_by : He.DefD := dd ("Table", some "ring_by") "ring_by" "Table.ring_by" s_Table_ring_by
def d_World_init : He.DefD := dd ("World", some "__init__") "__init__" "World.__init__" s_World_init
def d_World_look : He.DefD := dd ("World", some "look") "look" "World.look" s_World_look
def d_World_refresh : He.DefD := dd ("World", some "refresh") "refresh" "World.refresh" s_World_refresh
def d_World_make : He.DefD := dd ("World", some "make") "make" "World.make" s_World_make
def d_World_look_registration : He.DefD := dd ("World", some "look_registration") "look_registration" "World.look_registration" s_World_look_registration
def d_World_admit : He.DefD := dd ("World", some "admit") "admit" "World.admit" s_World_admit
def d_World_drop : He.DefD := dd ("World", some "drop") "drop" "World.drop" s_World_drop
def fn : List He.DefD := [d_roads_from, d_is_name, d_is_clause, d_hook_fault, d_hook_answer, d_is_mark, d_look_marks, d_is_sworn, d_hook_for, d_answer_by_hook, d_subclasses, d_methods_in, d_patterns_in, d_held_by, d_declines, d_next_in, d_led_to, d_is_reached, d_outcome_in, d_has_road, d_state_of, d_outcome, d_is_needless_in, d_needless, d_kernel, d_can_be_first, d_merged, d_look_bases, d_look_hook, d_new_entry, d_law_bag, d_law_take, d_law_pick, d_law_merge, d_law_new, d_law_sworn, d_law_next, d_law_led, d_law_make, d_law_new_rule] ++ [d_law_class, d_law_admits, d_law_admit, d_law_some_admitted, d_law_drawn, d_law_made_in, d_law_made, d_law_methods, d_law_patterns, d_law_two_classes, d_law_drop, d_law_outcomes, d_law_lowest, d_law, d_Entry_init, d_Cache_init, d_Cache_refresh, d_Table_init, d_Table_copied, d_Table_has, d_Table_add_class, d_Table_remove_class, d_Table_add_registration, d_Table_remove_registration, d_Table_registrations, d_Table_is_above, d_Table_sworn, d_Table_below, d_Table_next_of, d_Table_answer_for, d_Table_shortest_road, d_Table_ring_by, d_World_init, d_World_look, d_World_refresh, d_World_make, d_World_look_registration, d_World_admit, d_World_drop]
def fa0 : List He.Fa := [.glo "roads_from", .glo "is_name", .glo "is_clause", .glo "hook_fault", .glo "hook_answer", .glo "is_mark", .glo "look_marks", .glo "is_sworn", .glo "hook_for", .glo "answer_by_hook", .glo "subclasses", .glo "methods_in", .glo "patterns_in", .glo "held_by", .glo "declines", .glo "next_in", .glo "led_to", .glo "is_reached", .glo "outcome_in", .glo "has_road", .glo "state_of", .glo "outcome", .glo "is_needless_in", .glo "needless", .glo "kernel", .glo "can_be_first", .glo "merged", .glo "look_bases", .glo "look_hook", .glo "new_entry", .glo "_law_bag", .glo "_law_take", .glo "_law_pick", .glo "_law_merge", .glo "_law_new", .glo "_law_sworn", .glo "_law_next", .glo "_law_led", .glo "_law_make", .glo "_law_new_rule"]
def fa1 : List He.Fa := [.glo "_law_class", .glo "_law_admits", .glo "_law_admit", .glo "_law_some_admitted", .glo "_law_drawn", .glo "_law_made_in", .glo "_law_made", .glo "_law_methods", .glo "_law_patterns", .glo "_law_two_classes", .glo "_law_drop", .glo "_law_outcomes", .glo "_law_lowest", .glo "law", .glo "Entry", .glo "Cache", .glo "Table", .glo "World", .free "len", .free "list", .free "isinstance", .free "str", .free "tuple", .free "all", .free "any", .free "set", .free "enumerate", .free "dict", .free "sorted", .free "range", .free "min", .free "max", .free "abs", .free "bool", .str "WON" "won", .str "REACHED" "reached", .str "NEITHER" "neither", .str "LETTERS" "abcdefghijklmnopqrstuvwxyz", .int "MOST_LETTERS" 8, .glo "MARKS"]
def fa2 : List He.Fa := [.cls "Entry", .mkr "Entry", .noat "Entry" "label", .noat "Entry" "parents", .noat "Entry" "own_sworn", .noat "Entry" "given_marks", .noat "Entry" "own_hook", .noat "Entry" "passed_on", .noat "Entry" "line", .cls "Cache", .mkr "Cache", .meth "Cache" "refresh", .noat "Cache" "kept", .cls "Table", .mkr "Table", .meth "Table" "copied", .meth "Table" "has", .meth "Table" "add_class", .meth "Table" "remove_class", .meth "Table" "add_registration", .meth "Table" "remove_registration", .meth "Table" "registrations", .meth "Table" "is_above", .meth "Table" "sworn", .meth "Table" "below", .meth "Table" "next_of", .meth "Table" "answer_for", .meth "Table" "shortest_road", .meth "Table" "ring_by", .noat "Table" "records", .noat "Table" "numbers", .noat "Table" "lists", .noat "Table" "made", .cls "World", .mkr "World", .meth "World" "look", .meth "World" "refresh", .meth "World" "make", .meth "World" "look_registration", .meth "World" "admit"]
def fa3 : List He.Fa := [.meth "World" "drop", .noat "World" "table", .noat "World" "cache", .noat "World" "visits", .noat "World" "things", .noat "World" "choice_lists"]
def fa : List He.Fa := fa0 ++ (fa1 ++ (fa2 ++ (fa3)))
def tf : List (Str × Option Str) := [("led_to", none), ("has_road", none)]
def ex (K : PySem.W.Frag) : Bool := He.tupB K "MARKS" [.str "plain", .str "abstract", .str "blocked"] && !Nat.beq (He.cT K ("led_to", none)).2 (He.cT K ("has_road", none)).2
/-- what every def leans on: the facts, and a heap that bears them -/
structure Tx (K : PySem.W.Frag) (mg : Str → Option Value) : Prop where
  c : He.SaysD fa fn K
  x : ex K = true
  ns : ∃ h : Heap, K.In h ∧ h.Ns mainGlobals mg
noncomputable def Tx.hp {K : PySem.W.Frag} {mg : Str → Option Value} (T : Tx K mg) : Heap := T.ns.choose
theorem Tx.h {K : PySem.W.Frag} {mg : Str → Option Value} (T : Tx K mg) : K.In T.hp ∧ T.hp.Ns mainGlobals mg := T.ns.choose_spec
section
variable {K : PySem.W.Frag} {mg : Str → Option Value}
theorem g_roads_from (T : Tx K mg) : mg "roads_from" = some (.ref (He.ga K "roads_from")) := He.glo_ok T.h.1 T.h.2 (T.c.facts (f := .glo "roads_from") (List.mem_of_getElem? (i := 0) rfl))
theorem g_is_name (T : Tx K mg) : mg "is_name" = some (.ref (He.ga K "is_name")) := He.glo_ok T.h.1 T.h.2 (T.c.facts (f := .glo "is_name") (List.mem_of_getElem? (i := 1) rfl))
theorem g_is_clause (T : Tx K mg) : mg "is_clause" = some (.ref (He.ga K "is_clause")) := He.glo_ok T.h.1 T.h.2 (T.c.facts (f := .glo "is_clause") (List.mem_of_getElem? (i := 2) rfl))
theorem g_hook_fault (T : Tx K mg) : mg "hook_fault" = some (.ref (He.ga K "hook_fault")) := He.glo_ok T.h.1 T.h.2 (T.c.facts (f := .glo "hook_fault") (List.mem_of_getElem? (i := 3) rfl))
theorem g_hook_answer (T : Tx K mg) : mg "hook_answer" = some (.ref (He.ga K "hook_answer")) := He.glo_ok T.h.1 T.h.2 (T.c.facts (f := .glo "hook_answer") (List.mem_of_getElem? (i := 4) rfl))
theorem g_is_mark (T : Tx K mg) : mg "is_mark" = some (.ref (He.ga K "is_mark")) := He.glo_ok T.h.1 T.h.2 (T.c.facts (f := .glo "is_mark") (List.mem_of_getElem? (i := 5) rfl))
theorem g_look_marks (T : Tx K mg) : mg "look_marks" = some (.ref (He.ga K "look_marks")) := He.glo_ok T.h.1 T.h.2 (T.c.facts (f := .glo "look_marks") (List.mem_of_getElem? (i := 6) rfl))
theorem g_is_sworn (T : Tx K mg) : mg "is_sworn" = some (.ref (He.ga K "is_sworn")) := He.glo_ok T.h.1 T.h.2 (T.c.facts (f := .glo "is_sworn") (List.mem_of_getElem? (i := 7) rfl))
theorem g_hook_for (T : Tx K mg) : mg "hook_for" = some (.ref (He.ga K "hook_for")) := He.glo_ok T.h.1 T.h.2 (T.c.facts (f := .glo "hook_for") (List.mem_of_getElem? (i := 8) rfl))
theorem g_answer_by_hook (T : Tx K mg) : mg "answer_by_hook" = some (.ref (He.ga K "answer_by_hook")) := He.glo_ok T.h.1 T.h.2 (T.c.facts (f := .glo "answer_by_hook") (List.mem_of_getElem? (i := 9) rfl))
theorem g_subclasses (T : Tx K mg) : mg "subclasses" = some (.ref (He.ga K "subclasses")) := He.glo_ok T.h.1 T.h.2 (T.c.facts (f := .glo "subclasses") (List.mem_of_getElem? (i := 10) rfl))
theorem g_methods_in (T : Tx K mg) : mg "methods_in" = some (.ref (He.ga K "methods_in")) := He.glo_ok T.h.1 T.h.2 (T.c.facts (f := .glo "methods_in") (List.mem_of_getElem? (i := 11) rfl))
theorem g_patterns_in (T : Tx K mg) : mg "patterns_in" = some (.ref (He.ga K "patterns_in")) := He.glo_ok T.h.1 T.h.2 (T.c.facts (f := .glo "patterns_in") (List.mem_of_getElem? (i := 12) rfl))
theorem g_held_by (T : Tx K mg) : mg "held_by" = some (.ref (He.ga K "held_by")) := He.glo_ok T.h.1 T.h.2 (T.c.facts (f := .glo "held_by") (List.mem_of_getElem? (i := 13) rfl))
theorem g_declines (T : Tx K mg) : mg "declines" = some (.ref (He.ga K "declines")) := He.glo_ok T.h.1 T.h.2 (T.c.facts (f := .glo "declines") (List.mem_of_getElem? (i := 14) rfl))
theorem g_next_in (T : Tx K mg) : mg "next_in" = some (.ref (He.ga K "next_in")) := He.glo_ok T.h.1 T.h.2 (T.c.facts (f := .glo "next_in") (List.mem_of_getElem? (i := 15) rfl))
theorem g_led_to (T : Tx K mg) : mg "led_to" = some (.ref (He.ga K "led_to")) := He.glo_ok T.h.1 T.h.2 (T.c.facts (f := .glo "led_to") (List.mem_of_getElem? (i := 16) rfl))
theorem g_is_reached (T : Tx K mg) : mg "is_reached" = some (.ref (He.ga K "is_reached")) := He.glo_ok T.h.1 T.h.2 (T.c.facts (f := .glo "is_reached") (List.mem_of_getElem? (i := 17) rfl))
theorem g_outcome_in (T : Tx K mg) : mg "outcome_in" = some (.ref (He.ga K "outcome_in")) := He.glo_ok T.h.1 T.h.2 (T.c.facts (f := .glo "outcome_in") (List.mem_of_getElem? (i := 18) rfl))
theorem g_has_road (T : Tx K mg) : mg "has_road" = some (.ref (He.ga K "has_road")) := He.glo_ok T.h.1 T.h.2 (T.c.facts (f := .glo "has_road") (List.mem_of_getElem? (i := 19) rfl))
theorem g_state_of (T : Tx K mg) : mg "state_of" = some (.ref (He.ga K "state_of")) := He.glo_ok T.h.1 T.h.2 (T.c.facts (f := .glo "state_of") (List.mem_of_getElem? (i := 20) rfl))
theorem g_outcome (T : Tx K mg) : mg "outcome" = some (.ref (He.ga K "outcome")) := He.glo_ok T.h.1 T.h.2 (T.c.facts (f := .glo "outcome") (List.mem_of_getElem? (i := 21) rfl))
theorem g_is_needless_in (T : Tx K mg) : mg "is_needless_in" = some (.ref (He.ga K "is_needless_in")) := He.glo_ok T.h.1 T.h.2 (T.c.facts (f := .glo "is_needless_in") (List.mem_of_getElem? (i := 22) rfl))
theorem g_needless (T : Tx K mg) : mg "needless" = some (.ref (He.ga K "needless")) := He.glo_ok T.h.1 T.h.2 (T.c.facts (f := .glo "needless") (List.mem_of_getElem? (i := 23) rfl))
theorem g_kernel (T : Tx K mg) : mg "kernel" = some (.ref (He.ga K "kernel")) := He.glo_ok T.h.1 T.h.2 (T.c.facts (f := .glo "kernel") (List.mem_of_getElem? (i := 24) rfl))
theorem g_can_be_first (T : Tx K mg) : mg "can_be_first" = some (.ref (He.ga K "can_be_first")) := He.glo_ok T.h.1 T.h.2 (T.c.facts (f := .glo "can_be_first") (List.mem_of_getElem? (i := 25) rfl))
theorem g_merged (T : Tx K mg) : mg "merged" = some (.ref (He.ga K "merged")) := He.glo_ok T.h.1 T.h.2 (T.c.facts (f := .glo "merged") (List.mem_of_getElem? (i := 26) rfl))
theorem g_look_bases (T : Tx K mg) : mg "look_bases" = some (.ref (He.ga K "look_bases")) := He.glo_ok T.h.1 T.h.2 (T.c.facts (f := .glo "look_bases") (List.mem_of_getElem? (i := 27) rfl))
theorem g_look_hook (T : Tx K mg) : mg "look_hook" = some (.ref (He.ga K "look_hook")) := He.glo_ok T.h.1 T.h.2 (T.c.facts (f := .glo "look_hook") (List.mem_of_getElem? (i := 28) rfl))
theorem g_new_entry (T : Tx K mg) : mg "new_entry" = some (.ref (He.ga K "new_entry")) := He.glo_ok T.h.1 T.h.2 (T.c.facts (f := .glo "new_entry") (List.mem_of_getElem? (i := 29) rfl))
theorem g_law_bag (T : Tx K mg) : mg "_law_bag" = some (.ref (He.ga K "_law_bag")) := He.glo_ok T.h.1 T.h.2 (T.c.facts (f := .glo "_law_bag") (List.mem_of_getElem? (i := 30) rfl))
theorem g_law_take (T : Tx K mg) : mg "_law_take" = some (.ref (He.ga K "_law_take")) := He.glo_ok T.h.1 T.h.2 (T.c.facts (f := .glo "_law_take") (List.mem_of_getElem? (i := 31) rfl))
theorem g_law_pick (T : Tx K mg) : mg "_law_pick" = some (.ref (He.ga K "_law_pick")) := He.glo_ok T.h.1 T.h.2 (T.c.facts (f := .glo "_law_pick") (List.mem_of_getElem? (i := 32) rfl))
theorem g_law_merge (T : Tx K mg) : mg "_law_merge" = some (.ref (He.ga K "_law_merge")) := He.glo_ok T.h.1 T.h.2 (T.c.facts (f := .glo "_law_merge") (List.mem_of_getElem? (i := 33) rfl))
theorem g_law_new (T : Tx K mg) : mg "_law_new" = some (.ref (He.ga K "_law_new")) := He.glo_ok T.h.1 T.h.2 (T.c.facts (f := .glo "_law_new") (List.mem_of_getElem? (i := 34) rfl))
theorem g_law_sworn (T : Tx K mg) : mg "_law_sworn" = some (.ref (He.ga K "_law_sworn")) := He.glo_ok T.h.1 T.h.2 (T.c.facts (f := .glo "_law_sworn") (List.mem_of_getElem? (i := 35) rfl))
theorem g_law_next (T : Tx K mg) : mg "_law_next" = some (.ref (He.ga K "_law_next")) := He.glo_ok T.h.1 T.h.2 (T.c.facts (f := .glo "_law_next") (List.mem_of_getElem? (i := 36) rfl))
theorem g_law_led (T : Tx K mg) : mg "_law_led" = some (.ref (He.ga K "_law_led")) := He.glo_ok T.h.1 T.h.2 (T.c.facts (f := .glo "_law_led") (List.mem_of_getElem? (i := 37) rfl))
theorem g_law_make (T : Tx K mg) : mg "_law_make" = some (.ref (He.ga K "_law_make")) := He.glo_ok T.h.1 T.h.2 (T.c.facts (f := .glo "_law_make") (List.mem_of_getElem? (i := 38) rfl))
theorem g_law_new_rule (T : Tx K mg) : mg "_law_new_rule" = some (.ref (He.ga K "_law_new_rule")) := He.glo_ok T.h.1 T.h.2 (T.c.facts (f := .glo "_law_new_rule") (List.mem_of_getElem? (i := 39) rfl))
theorem g_law_class (T : Tx K mg) : mg "_law_class" = some (.ref (He.ga K "_law_class")) := He.glo_ok T.h.1 T.h.2 (T.c.facts (f := .glo "_law_class") (List.mem_of_getElem? (i := 40) rfl))
theorem g_law_admits (T : Tx K mg) : mg "_law_admits" = some (.ref (He.ga K "_law_admits")) := He.glo_ok T.h.1 T.h.2 (T.c.facts (f := .glo "_law_admits") (List.mem_of_getElem? (i := 41) rfl))
theorem g_law_admit (T : Tx K mg) : mg "_law_admit" = some (.ref (He.ga K "_law_admit")) := He.glo_ok T.h.1 T.h.2 (T.c.facts (f := .glo "_law_admit") (List.mem_of_getElem? (i := 42) rfl))
theorem g_law_some_admitted (T : Tx K mg) : mg "_law_some_admitted" = some (.ref (He.ga K "_law_some_admitted")) := He.glo_ok T.h.1 T.h.2 (T.c.facts (f := .glo "_law_some_admitted") (List.mem_of_getElem? (i := 43) rfl))
theorem g_law_drawn (T : Tx K mg) : mg "_law_drawn" = some (.ref (He.ga K "_law_drawn")) := He.glo_ok T.h.1 T.h.2 (T.c.facts (f := .glo "_law_drawn") (List.mem_of_getElem? (i := 44) rfl))
theorem g_law_made_in (T : Tx K mg) : mg "_law_made_in" = some (.ref (He.ga K "_law_made_in")) := He.glo_ok T.h.1 T.h.2 (T.c.facts (f := .glo "_law_made_in") (List.mem_of_getElem? (i := 45) rfl))
theorem g_law_made (T : Tx K mg) : mg "_law_made" = some (.ref (He.ga K "_law_made")) := He.glo_ok T.h.1 T.h.2 (T.c.facts (f := .glo "_law_made") (List.mem_of_getElem? (i := 46) rfl))
theorem g_law_methods (T : Tx K mg) : mg "_law_methods" = some (.ref (He.ga K "_law_methods")) := He.glo_ok T.h.1 T.h.2 (T.c.facts (f := .glo "_law_methods") (List.mem_of_getElem? (i := 47) rfl))
theorem g_law_patterns (T : Tx K mg) : mg "_law_patterns" = some (.ref (He.ga K "_law_patterns")) := He.glo_ok T.h.1 T.h.2 (T.c.facts (f := .glo "_law_patterns") (List.mem_of_getElem? (i := 48) rfl))
theorem g_law_two_classes (T : Tx K mg) : mg "_law_two_classes" = some (.ref (He.ga K "_law_two_classes")) := He.glo_ok T.h.1 T.h.2 (T.c.facts (f := .glo "_law_two_classes") (List.mem_of_getElem? (i := 49) rfl))
theorem g_law_drop (T : Tx K mg) : mg "_law_drop" = some (.ref (He.ga K "_law_drop")) := He.glo_ok T.h.1 T.h.2 (T.c.facts (f := .glo "_law_drop") (List.mem_of_getElem? (i := 50) rfl))
theorem g_law_outcomes (T : Tx K mg) : mg "_law_outcomes" = some (.ref (He.ga K "_law_outcomes")) := He.glo_ok T.h.1 T.h.2 (T.c.facts (f := .glo "_law_outcomes") (List.mem_of_getElem? (i := 51) rfl))
theorem g_law_lowest (T : Tx K mg) : mg "_law_lowest" = some (.ref (He.ga K "_law_lowest")) := He.glo_ok T.h.1 T.h.2 (T.c.facts (f := .glo "_law_lowest") (List.mem_of_getElem? (i := 52) rfl))
theorem g_law (T : Tx K mg) : mg "law" = some (.ref (He.ga K "law")) := He.glo_ok T.h.1 T.h.2 (T.c.facts (f := .glo "law") (List.mem_of_getElem? (i := 53) rfl))
theorem g_Entry (T : Tx K mg) : mg "Entry" = some (.ref (He.ga K "Entry")) := He.glo_ok T.h.1 T.h.2 (T.c.facts (f := .glo "Entry") (List.mem_of_getElem? (i := 54) rfl))
theorem g_Cache (T : Tx K mg) : mg "Cache" = some (.ref (He.ga K "Cache")) := He.glo_ok T.h.1 T.h.2 (T.c.facts (f := .glo "Cache") (List.mem_of_getElem? (i := 55) rfl))
theorem g_Table (T : Tx K mg) : mg "Table" = some (.ref (He.ga K "Table")) := He.glo_ok T.h.1 T.h.2 (T.c.facts (f := .glo "Table") (List.mem_of_getElem? (i := 56) rfl))
theorem g_World (T : Tx K mg) : mg "World" = some (.ref (He.ga K "World")) := He.glo_ok T.h.1 T.h.2 (T.c.facts (f := .glo "World") (List.mem_of_getElem? (i := 57) rfl))
theorem z_len (T : Tx K mg) : mg "len" = none := He.free_ok T.h.1 T.h.2 (T.c.facts (f := .free "len") (List.mem_of_getElem? (i := 58) rfl))
theorem z_list (T : Tx K mg) : mg "list" = none := He.free_ok T.h.1 T.h.2 (T.c.facts (f := .free "list") (List.mem_of_getElem? (i := 59) rfl))
theorem z_isinstance (T : Tx K mg) : mg "isinstance" = none := He.free_ok T.h.1 T.h.2 (T.c.facts (f := .free "isinstance") (List.mem_of_getElem? (i := 60) rfl))
theorem z_str (T : Tx K mg) : mg "str" = none := He.free_ok T.h.1 T.h.2 (T.c.facts (f := .free "str") (List.mem_of_getElem? (i := 61) rfl))
theorem z_tuple (T : Tx K mg) : mg "tuple" = none := He.free_ok T.h.1 T.h.2 (T.c.facts (f := .free "tuple") (List.mem_of_getElem? (i := 62) rfl))
theorem z_all (T : Tx K mg) : mg "all" = none := He.free_ok T.h.1 T.h.2 (T.c.facts (f := .free "all") (List.mem_of_getElem? (i := 63) rfl))
theorem z_any (T : Tx K mg) : mg "any" = none := He.free_ok T.h.1 T.h.2 (T.c.facts (f := .free "any") (List.mem_of_getElem? (i := 64) rfl))
theorem z_set (T : Tx K mg) : mg "set" = none := He.free_ok T.h.1 T.h.2 (T.c.facts (f := .free "set") (List.mem_of_getElem? (i := 65) rfl))
theorem z_enumerate (T : Tx K mg) : mg "enumerate" = none := He.free_ok T.h.1 T.h.2 (T.c.facts (f := .free "enumerate") (List.mem_of_getElem? (i := 66) rfl))
theorem z_dict (T : Tx K mg) : mg "dict" = none := He.free_ok T.h.1 T.h.2 (T.c.facts (f := .free "dict") (List.mem_of_getElem? (i := 67) rfl))
theorem z_sorted (T : Tx K mg) : mg "sorted" = none := He.free_ok T.h.1 T.h.2 (T.c.facts (f := .free "sorted") (List.mem_of_getElem? (i := 68) rfl))
theorem z_range (T : Tx K mg) : mg "range" = none := He.free_ok T.h.1 T.h.2 (T.c.facts (f := .free "range") (List.mem_of_getElem? (i := 69) rfl))
theorem z_min (T : Tx K mg) : mg "min" = none := He.free_ok T.h.1 T.h.2 (T.c.facts (f := .free "min") (List.mem_of_getElem? (i := 70) rfl))
theorem z_max (T : Tx K mg) : mg "max" = none := He.free_ok T.h.1 T.h.2 (T.c.facts (f := .free "max") (List.mem_of_getElem? (i := 71) rfl))
theorem z_abs (T : Tx K mg) : mg "abs" = none := He.free_ok T.h.1 T.h.2 (T.c.facts (f := .free "abs") (List.mem_of_getElem? (i := 72) rfl))
theorem z_bool (T : Tx K mg) : mg "bool" = none := He.free_ok T.h.1 T.h.2 (T.c.facts (f := .free "bool") (List.mem_of_getElem? (i := 73) rfl))
theorem c_WON (T : Tx K mg) : ∃ t, mg "WON" = some (.str "won" t) := He.str_ok T.h.1 T.h.2 (T.c.facts (f := .str "WON" "won") (List.mem_of_getElem? (i := 74) rfl))
theorem c_REACHED (T : Tx K mg) : ∃ t, mg "REACHED" = some (.str "reached" t) := He.str_ok T.h.1 T.h.2 (T.c.facts (f := .str "REACHED" "reached") (List.mem_of_getElem? (i := 75) rfl))
theorem c_NEITHER (T : Tx K mg) : ∃ t, mg "NEITHER" = some (.str "neither" t) := He.str_ok T.h.1 T.h.2 (T.c.facts (f := .str "NEITHER" "neither") (List.mem_of_getElem? (i := 76) rfl))
theorem c_LETTERS (T : Tx K mg) : ∃ t, mg "LETTERS" = some (.str "abcdefghijklmnopqrstuvwxyz" t) := He.str_ok T.h.1 T.h.2 (T.c.facts (f := .str "LETTERS" "abcdefghijklmnopqrstuvwxyz") (List.mem_of_getElem? (i := 77) rfl))
theorem c_MOST_LETTERS (T : Tx K mg) : ∃ t, mg "MOST_LETTERS" = some (.int 8 t) := He.int_ok T.h.1 T.h.2 (T.c.facts (f := .int "MOST_LETTERS" 8) (List.mem_of_getElem? (i := 78) rfl))
theorem g_MARKS (T : Tx K mg) : mg "MARKS" = some (.ref (He.ga K "MARKS")) := He.glo_ok T.h.1 T.h.2 (T.c.facts (f := .glo "MARKS") (List.mem_of_getElem? (i := 79) rfl))
theorem cl_Entry (T : Tx K mg) : Cls K (He.ga K "Entry") := He.cls_ok (T.c.facts (f := .cls "Entry") (List.mem_of_getElem? (i := 80) rfl))
theorem mk_Entry (T : Tx K mg) : Mk K (He.ga K "Entry") (He.ma K (He.ga K "Entry") "__init__") := He.mkr_ok (T.c.facts (f := .mkr "Entry") (List.mem_of_getElem? (i := 81) rfl))
theorem na_Entry_label (T : Tx K mg) : NoAttr K (He.ga K "Entry") "label" := He.noat_ok (T.c.facts (f := .noat "Entry" "label") (List.mem_of_getElem? (i := 82) rfl))
theorem na_Entry_parents (T : Tx K mg) : NoAttr K (He.ga K "Entry") "parents" := He.noat_ok (T.c.facts (f := .noat "Entry" "parents") (List.mem_of_getElem? (i := 83) rfl))
theorem na_Entry_own_sworn (T : Tx K mg) : NoAttr K (He.ga K "Entry") "own_sworn" := He.noat_ok (T.c.facts (f := .noat "Entry" "own_sworn") (List.mem_of_getElem? (i := 84) rfl))
theorem na_Entry_given_marks (T : Tx K mg) : NoAttr K (He.ga K "Entry") "given_marks" := He.noat_ok (T.c.facts (f := .noat "Entry" "given_marks") (List.mem_of_getElem? (i := 85) rfl))
theorem na_Entry_own_hook (T : Tx K mg) : NoAttr K (He.ga K "Entry") "own_hook" := He.noat_ok (T.c.facts (f := .noat "Entry" "own_hook") (List.mem_of_getElem? (i := 86) rfl))
theorem na_Entry_passed_on (T : Tx K mg) : NoAttr K (He.ga K "Entry") "passed_on" := He.noat_ok (T.c.facts (f := .noat "Entry" "passed_on") (List.mem_of_getElem? (i := 87) rfl))
theorem na_Entry_line (T : Tx K mg) : NoAttr K (He.ga K "Entry") "line" := He.noat_ok (T.c.facts (f := .noat "Entry" "line") (List.mem_of_getElem? (i := 88) rfl))
theorem cl_Cache (T : Tx K mg) : Cls K (He.ga K "Cache") := He.cls_ok (T.c.facts (f := .cls "Cache") (List.mem_of_getElem? (i := 89) rfl))
theorem mk_Cache (T : Tx K mg) : Mk K (He.ga K "Cache") (He.ma K (He.ga K "Cache") "__init__") := He.mkr_ok (T.c.facts (f := .mkr "Cache") (List.mem_of_getElem? (i := 90) rfl))
theorem m_Cache_refresh (T : Tx K mg) : Meth K (He.ga K "Cache") "refresh" (He.ma K (He.ga K "Cache") "refresh") := He.meth_ok (T.c.facts (f := .meth "Cache" "refresh") (List.mem_of_getElem? (i := 91) rfl))
theorem na_Cache_kept (T : Tx K mg) : NoAttr K (He.ga K "Cache") "kept" := He.noat_ok (T.c.facts (f := .noat "Cache" "kept") (List.mem_of_getElem? (i := 92) rfl))
theorem cl_Table (T : Tx K mg) : Cls K (He.ga K "Table") := He.cls_ok (T.c.facts (f := .cls "Table") (List.mem_of_getElem? (i := 93) rfl))
theorem mk_Table (T : Tx K mg) : Mk K (He.ga K "Table") (He.ma K (He.ga K "Table") "__init__") := He.mkr_ok (T.c.facts (f := .mkr "Table") (List.mem_of_getElem? (i := 94) rfl))
theorem m_Table_copied (T : Tx K mg) : Meth K (He.ga K "Table") "copied" (He.ma K (He.ga K "Table") "copied") := He.meth_ok (T.c.facts (f := .meth "Table" "copied") (List.mem_of_getElem? (i := 95) rfl))
theorem m_Table_has (T : Tx K mg) : Meth K (He.ga K "Table") "has" (He.ma K (He.ga K "Table") "has") := He.meth_ok (T.c.facts (f := .meth "Table" "has") (List.mem_of_getElem? (i := 96) rfl))
theorem m_Table_add_class (T : Tx K mg) : Meth K (He.ga K "Table") "add_class" (He.ma K (He.ga K "Table") "add_class") := He.meth_ok (T.c.facts (f := .meth "Table" "add_class") (List.mem_of_getElem? (i := 97) rfl))
theorem m_Table_remove_class (T : Tx K mg) : Meth K (He.ga K "Table") "remove_class" (He.ma K (He.ga K "Table") "remove_class") := He.meth_ok (T.c.facts (f := .meth "Table" "remove_class") (List.mem_of_getElem? (i := 98) rfl))
theorem m_Table_add_registration (T : Tx K mg) : Meth K (He.ga K "Table") "add_registration" (He.ma K (He.ga K "Table") "add_registration") := He.meth_ok (T.c.facts (f := .meth "Table" "add_registration") (List.mem_of_getElem? (i := 99) rfl))
theorem m_Table_remove_registration (T : Tx K mg) : Meth K (He.ga K "Table") "remove_registration" (He.ma K (He.ga K "Table") "remove_registration") := He.meth_ok (T.c.facts (f := .meth "Table" "remove_registration") (List.mem_of_getElem? (i := 100) rfl))
theorem m_Table_registrations (T : Tx K mg) : Meth K (He.ga K "Table") "registrations" (He.ma K (He.ga K "Table") "registrations") := He.meth_ok (T.c.facts (f := .meth "Table" "registrations") (List.mem_of_getElem? (i := 101) rfl))
theorem m_Table_is_above (T : Tx K mg) : Meth K (He.ga K "Table") "is_above" (He.ma K (He.ga K "Table") "is_above") := He.meth_ok (T.c.facts (f := .meth "Table" "is_above") (List.mem_of_getElem? (i := 102) rfl))
theorem m_Table_sworn (T : Tx K mg) : Meth K (He.ga K "Table") "sworn" (He.ma K (He.ga K "Table") "sworn") := He.meth_ok (T.c.facts (f := .meth "Table" "sworn") (List.mem_of_getElem? (i := 103) rfl))
theorem m_Table_below (T : Tx K mg) : Meth K (He.ga K "Table") "below" (He.ma K (He.ga K "Table") "below") := He.meth_ok (T.c.facts (f := .meth "Table" "below") (List.mem_of_getElem? (i := 104) rfl))
theorem m_Table_next_of (T : Tx K mg) : Meth K (He.ga K "Table") "next_of" (He.ma K (He.ga K "Table") "next_of") := He.meth_ok (T.c.facts (f := .meth "Table" "next_of") (List.mem_of_getElem? (i := 105) rfl))
theorem m_Table_answer_for (T : Tx K mg) : Meth K (He.ga K "Table") "answer_for" (He.ma K (He.ga K "Table") "answer_for") := He.meth_ok (T.c.facts (f := .meth "Table" "answer_for") (List.mem_of_getElem? (i := 106) rfl))
theorem m_Table_shortest_road (T : Tx K mg) : Meth K (He.ga K "Table") "shortest_road" (He.ma K (He.ga K "Table") "shortest_road") := He.meth_ok (T.c.facts (f := .meth "Table" "shortest_road") (List.mem_of_getElem? (i := 107) rfl))
theorem m_Table_ring_by (T : Tx K mg) : Meth K (He.ga K "Table") "ring_by" (He.ma K (He.ga K "Table") "ring_by") := He.meth_ok (T.c.facts (f := .meth "Table" "ring_by") (List.mem_of_getElem? (i := 108) rfl))
theorem na_Table_records (T : Tx K mg) : NoAttr K (He.ga K "Table") "records" := He.noat_ok (T.c.facts (f := .noat "Table" "records") (List.mem_of_getElem? (i := 109) rfl))
theorem na_Table_numbers (T : Tx K mg) : NoAttr K (He.ga K "Table") "numbers" := He.noat_ok (T.c.facts (f := .noat "Table" "numbers") (List.mem_of_getElem? (i := 110) rfl))
theorem na_Table_lists (T : Tx K mg) : NoAttr K (He.ga K "Table") "lists" := He.noat_ok (T.c.facts (f := .noat "Table" "lists") (List.mem_of_getElem? (i := 111) rfl))
theorem na_Table_made (T : Tx K mg) : NoAttr K (He.ga K "Table") "made" := He.noat_ok (T.c.facts (f := .noat "Table" "made") (List.mem_of_getElem? (i := 112) rfl))
theorem cl_World (T : Tx K mg) : Cls K (He.ga K "World") := He.cls_ok (T.c.facts (f := .cls "World") (List.mem_of_getElem? (i := 113) rfl))
theorem mk_World (T : Tx K mg) : Mk K (He.ga K "World") (He.ma K (He.ga K "World") "__init__") := He.mkr_ok (T.c.facts (f := .mkr "World") (List.mem_of_getElem? (i := 114) rfl))
theorem m_World_look (T : Tx K mg) : Meth K (He.ga K "World") "look" (He.ma K (He.ga K "World") "look") := He.meth_ok (T.c.facts (f := .meth "World" "look") (List.mem_of_getElem? (i := 115) rfl))
theorem m_World_refresh (T : Tx K mg) : Meth K (He.ga K "World") "refresh" (He.ma K (He.ga K "World") "refresh") := He.meth_ok (T.c.facts (f := .meth "World" "refresh") (List.mem_of_getElem? (i := 116) rfl))
theorem m_World_make (T : Tx K mg) : Meth K (He.ga K "World") "make" (He.ma K (He.ga K "World") "make") := He.meth_ok (T.c.facts (f := .meth "World" "make") (List.mem_of_getElem? (i := 117) rfl))
theorem m_World_look_registration (T : Tx K mg) : Meth K (He.ga K "World") "look_registration" (He.ma K (He.ga K "World") "look_registration") := He.meth_ok (T.c.facts (f := .meth "World" "look_registration") (List.mem_of_getElem? (i := 118) rfl))
theorem m_World_admit (T : Tx K mg) : Meth K (He.ga K "World") "admit" (He.ma K (He.ga K "World") "admit") := He.meth_ok (T.c.facts (f := .meth "World" "admit") (List.mem_of_getElem? (i := 119) rfl))
theorem m_World_drop (T : Tx K mg) : Meth K (He.ga K "World") "drop" (He.ma K (He.ga K "World") "drop") := He.meth_ok (T.c.facts (f := .meth "World" "drop") (List.mem_of_getElem? (i := 120) rfl))
theorem na_World_table (T : Tx K mg) : NoAttr K (He.ga K "World") "table" := He.noat_ok (T.c.facts (f := .noat "World" "table") (List.mem_of_getElem? (i := 121) rfl))
theorem na_World_cache (T : Tx K mg) : NoAttr K (He.ga K "World") "cache" := He.noat_ok (T.c.facts (f := .noat "World" "cache") (List.mem_of_getElem? (i := 122) rfl))
theorem na_World_visits (T : Tx K mg) : NoAttr K (He.ga K "World") "visits" := He.noat_ok (T.c.facts (f := .noat "World" "visits") (List.mem_of_getElem? (i := 123) rfl))
theorem na_World_things (T : Tx K mg) : NoAttr K (He.ga K "World") "things" := He.noat_ok (T.c.facts (f := .noat "World" "things") (List.mem_of_getElem? (i := 124) rfl))
theorem na_World_choice_lists (T : Tx K mg) : NoAttr K (He.ga K "World") "choice_lists" := He.noat_ok (T.c.facts (f := .noat "World" "choice_lists") (List.mem_of_getElem? (i := 125) rfl))
theorem x_marks (T : Tx K mg) (H : Hp) : SqT K H (He.ga K "MARKS") [.str "plain", .str "abstract", .str "blocked"] := He.tupB_ok (He.ba T.x).1 H
theorem x_tabs (T : Tx K mg) : (He.cT K ("led_to", none)).2 ≠ (He.cT K ("has_road", none)).2 := fun e => by
  have h : (!Nat.beq (He.cT K ("led_to", none)).2 (He.cT K ("has_road", none)).2) = true := (He.ba T.x).2
  rw [e, show Nat.beq (He.cT K ("has_road", none)).2 (He.cT K ("has_road", none)).2 = true from Nat.beq_refl _] at h
  cases h
/-- the def that stands at a -/
def fdOf (K : PySem.W.Frag) (a : Addr) : FuncData := match K.lookup a with
  | some ⟨_, _, .func fd, _⟩ => fd
  | _ => default
abbrev FnS (K : PySem.W.Frag) (n q : Str) (st : Stmt) (f : Addr) (fd : FuncData) : Prop := FunD K n q (defArgs st) (defBody st) (defScope st) [] [] f fd
theorem funD_of {d : He.DefD} (h : ∃ fd, FunD K d.name d.qual d.params d.body d.scope (d.dvs K) (d.kws K) (He.fAd K d.at_) fd) : FunD K d.name d.qual d.params d.body d.scope (d.dvs K) (d.kws K) (He.fAd K d.at_) (fdOf K (He.fAd K d.at_)) := by
  obtain ⟨fd, F⟩ := h
  obtain ⟨oc, od, dV, kV, doc, pm, an, cdv, ct, osl, e, l, r⟩ := F.ex
  have q : fdOf K (He.fAd K d.at_) = fd := by
    unfold fdOf
    rw [l]
  rw [q]
  exact F
theorem F_roads_from (T : Tx K mg) : FnS K d_roads_from.name d_roads_from.qual s_roads_from (He.fAd K d_roads_from.at_) (fdOf K (He.fAd K d_roads_from.at_)) := funD_of (T.c.defs (d := d_roads_from) (List.mem_of_getElem? (i := 0) rfl))
theorem F_is_name (T : Tx K mg) : FnS K d_is_name.name d_is_name.qual s_is_name (He.fAd K d_is_name.at_) (fdOf K (He.fAd K d_is_name.at_)) := funD_of (T.c.defs (d := d_is_name) (List.mem_of_getElem? (i := 1) rfl))
theorem F_is_clause (T : Tx K mg) : FnS K d_is_clause.name d_is_clause.qual s_is_clause (He.fAd K d_is_clause.at_) (fdOf K (He.fAd K d_is_clause.at_)) := funD_of (T.c.defs (d := d_is_clause) (List.mem_of_getElem? (i := 2) rfl))
theorem F_hook_fault (T : Tx K mg) : FnS K d_hook_fault.name d_hook_fault.qual s_hook_fault (He.fAd K d_hook_fault.at_) (fdOf K (He.fAd K d_hook_fault.at_)) := funD_of (T.c.defs (d := d_hook_fault) (List.mem_of_getElem? (i := 3) rfl))
theorem F_hook_answer (T : Tx K mg) : FnS K d_hook_answer.name d_hook_answer.qual s_hook_answer (He.fAd K d_hook_answer.at_) (fdOf K (He.fAd K d_hook_answer.at_)) := funD_of (T.c.defs (d := d_hook_answer) (List.mem_of_getElem? (i := 4) rfl))
theorem F_is_mark (T : Tx K mg) : FnS K d_is_mark.name d_is_mark.qual s_is_mark (He.fAd K d_is_mark.at_) (fdOf K (He.fAd K d_is_mark.at_)) := funD_of (T.c.defs (d := d_is_mark) (List.mem_of_getElem? (i := 5) rfl))
theorem F_look_marks (T : Tx K mg) : FnS K d_look_marks.name d_look_marks.qual s_look_marks (He.fAd K d_look_marks.at_) (fdOf K (He.fAd K d_look_marks.at_)) := funD_of (T.c.defs (d := d_look_marks) (List.mem_of_getElem? (i := 6) rfl))
theorem F_is_sworn (T : Tx K mg) : FnS K d_is_sworn.name d_is_sworn.qual s_is_sworn (He.fAd K d_is_sworn.at_) (fdOf K (He.fAd K d_is_sworn.at_)) := funD_of (T.c.defs (d := d_is_sworn) (List.mem_of_getElem? (i := 7) rfl))
theorem F_hook_for (T : Tx K mg) : FnS K d_hook_for.name d_hook_for.qual s_hook_for (He.fAd K d_hook_for.at_) (fdOf K (He.fAd K d_hook_for.at_)) := funD_of (T.c.defs (d := d_hook_for) (List.mem_of_getElem? (i := 8) rfl))
theorem F_answer_by_hook (T : Tx K mg) : FnS K d_answer_by_hook.name d_answer_by_hook.qual s_answer_by_hook (He.fAd K d_answer_by_hook.at_) (fdOf K (He.fAd K d_answer_by_hook.at_)) := funD_of (T.c.defs (d := d_answer_by_hook) (List.mem_of_getElem? (i := 9) rfl))
theorem F_subclasses (T : Tx K mg) : FnS K d_subclasses.name d_subclasses.qual s_subclasses (He.fAd K d_subclasses.at_) (fdOf K (He.fAd K d_subclasses.at_)) := funD_of (T.c.defs (d := d_subclasses) (List.mem_of_getElem? (i := 10) rfl))
theorem F_methods_in (T : Tx K mg) : FnS K d_methods_in.name d_methods_in.qual s_methods_in (He.fAd K d_methods_in.at_) (fdOf K (He.fAd K d_methods_in.at_)) := funD_of (T.c.defs (d := d_methods_in) (List.mem_of_getElem? (i := 11) rfl))
theorem F_patterns_in (T : Tx K mg) : FnS K d_patterns_in.name d_patterns_in.qual s_patterns_in (He.fAd K d_patterns_in.at_) (fdOf K (He.fAd K d_patterns_in.at_)) := funD_of (T.c.defs (d := d_patterns_in) (List.mem_of_getElem? (i := 12) rfl))
theorem F_held_by (T : Tx K mg) : FnS K d_held_by.name d_held_by.qual s_held_by (He.fAd K d_held_by.at_) (fdOf K (He.fAd K d_held_by.at_)) := funD_of (T.c.defs (d := d_held_by) (List.mem_of_getElem? (i := 13) rfl))
theorem F_declines (T : Tx K mg) : FnS K d_declines.name d_declines.qual s_declines (He.fAd K d_declines.at_) (fdOf K (He.fAd K d_declines.at_)) := funD_of (T.c.defs (d := d_declines) (List.mem_of_getElem? (i := 14) rfl))
theorem F_next_in (T : Tx K mg) : FnS K d_next_in.name d_next_in.qual s_next_in (He.fAd K d_next_in.at_) (fdOf K (He.fAd K d_next_in.at_)) := funD_of (T.c.defs (d := d_next_in) (List.mem_of_getElem? (i := 15) rfl))
theorem F_led_to (T : Tx K mg) : FnS K d_led_to.name d_led_to.qual s_led_to (He.fAd K d_led_to.at_) (fdOf K (He.fAd K d_led_to.at_)) := funD_of (T.c.defs (d := d_led_to) (List.mem_of_getElem? (i := 16) rfl))
theorem F_is_reached (T : Tx K mg) : FnS K d_is_reached.name d_is_reached.qual s_is_reached (He.fAd K d_is_reached.at_) (fdOf K (He.fAd K d_is_reached.at_)) := funD_of (T.c.defs (d := d_is_reached) (List.mem_of_getElem? (i := 17) rfl))
theorem F_outcome_in (T : Tx K mg) : FnS K d_outcome_in.name d_outcome_in.qual s_outcome_in (He.fAd K d_outcome_in.at_) (fdOf K (He.fAd K d_outcome_in.at_)) := funD_of (T.c.defs (d := d_outcome_in) (List.mem_of_getElem? (i := 18) rfl))
theorem F_has_road (T : Tx K mg) : FnS K d_has_road.name d_has_road.qual s_has_road (He.fAd K d_has_road.at_) (fdOf K (He.fAd K d_has_road.at_)) := funD_of (T.c.defs (d := d_has_road) (List.mem_of_getElem? (i := 19) rfl))
theorem F_state_of (T : Tx K mg) : FnS K d_state_of.name d_state_of.qual s_state_of (He.fAd K d_state_of.at_) (fdOf K (He.fAd K d_state_of.at_)) := funD_of (T.c.defs (d := d_state_of) (List.mem_of_getElem? (i := 20) rfl))
theorem F_outcome (T : Tx K mg) : FnS K d_outcome.name d_outcome.qual s_outcome (He.fAd K d_outcome.at_) (fdOf K (He.fAd K d_outcome.at_)) := funD_of (T.c.defs (d := d_outcome) (List.mem_of_getElem? (i := 21) rfl))
theorem F_is_needless_in (T : Tx K mg) : FnS K d_is_needless_in.name d_is_needless_in.qual s_is_needless_in (He.fAd K d_is_needless_in.at_) (fdOf K (He.fAd K d_is_needless_in.at_)) := funD_of (T.c.defs (d := d_is_needless_in) (List.mem_of_getElem? (i := 22) rfl))
theorem F_needless (T : Tx K mg) : FnS K d_needless.name d_needless.qual s_needless (He.fAd K d_needless.at_) (fdOf K (He.fAd K d_needless.at_)) := funD_of (T.c.defs (d := d_needless) (List.mem_of_getElem? (i := 23) rfl))
theorem F_kernel (T : Tx K mg) : FnS K d_kernel.name d_kernel.qual s_kernel (He.fAd K d_kernel.at_) (fdOf K (He.fAd K d_kernel.at_)) := funD_of (T.c.defs (d := d_kernel) (List.mem_of_getElem? (i := 24) rfl))
theorem F_can_be_first (T : Tx K mg) : FnS K d_can_be_first.name d_can_be_first.qual s_can_be_first (He.fAd K d_can_be_first.at_) (fdOf K (He.fAd K d_can_be_first.at_)) := funD_of (T.c.defs (d := d_can_be_first) (List.mem_of_getElem? (i := 25) rfl))
theorem F_merged (T : Tx K mg) : FnS K d_merged.name d_merged.qual s_merged (He.fAd K d_merged.at_) (fdOf K (He.fAd K d_merged.at_)) := funD_of (T.c.defs (d := d_merged) (List.mem_of_getElem? (i := 26) rfl))
theorem F_look_bases (T : Tx K mg) : FnS K d_look_bases.name d_look_bases.qual s_look_bases (He.fAd K d_look_bases.at_) (fdOf K (He.fAd K d_look_bases.at_)) := funD_of (T.c.defs (d := d_look_bases) (List.mem_of_getElem? (i := 27) rfl))
theorem F_look_hook (T : Tx K mg) : FnS K d_look_hook.name d_look_hook.qual s_look_hook (He.fAd K d_look_hook.at_) (fdOf K (He.fAd K d_look_hook.at_)) := funD_of (T.c.defs (d := d_look_hook) (List.mem_of_getElem? (i := 28) rfl))
theorem F_new_entry (T : Tx K mg) : FnS K d_new_entry.name d_new_entry.qual s_new_entry (He.fAd K d_new_entry.at_) (fdOf K (He.fAd K d_new_entry.at_)) := funD_of (T.c.defs (d := d_new_entry) (List.mem_of_getElem? (i := 29) rfl))
theorem F_law_bag (T : Tx K mg) : FnS K d_law_bag.name d_law_bag.qual s_law_bag (He.fAd K d_law_bag.at_) (fdOf K (He.fAd K d_law_bag.at_)) := funD_of (T.c.defs (d := d_law_bag) (List.mem_of_getElem? (i := 30) rfl))
theorem F_law_take (T : Tx K mg) : FnS K d_law_take.name d_law_take.qual s_law_take (He.fAd K d_law_take.at_) (fdOf K (He.fAd K d_law_take.at_)) := funD_of (T.c.defs (d := d_law_take) (List.mem_of_getElem? (i := 31) rfl))
theorem F_law_pick (T : Tx K mg) : FnS K d_law_pick.name d_law_pick.qual s_law_pick (He.fAd K d_law_pick.at_) (fdOf K (He.fAd K d_law_pick.at_)) := funD_of (T.c.defs (d := d_law_pick) (List.mem_of_getElem? (i := 32) rfl))
theorem F_law_merge (T : Tx K mg) : FnS K d_law_merge.name d_law_merge.qual s_law_merge (He.fAd K d_law_merge.at_) (fdOf K (He.fAd K d_law_merge.at_)) := funD_of (T.c.defs (d := d_law_merge) (List.mem_of_getElem? (i := 33) rfl))
theorem F_law_new (T : Tx K mg) : FnS K d_law_new.name d_law_new.qual s_law_new (He.fAd K d_law_new.at_) (fdOf K (He.fAd K d_law_new.at_)) := funD_of (T.c.defs (d := d_law_new) (List.mem_of_getElem? (i := 34) rfl))
theorem F_law_sworn (T : Tx K mg) : FnS K d_law_sworn.name d_law_sworn.qual s_law_sworn (He.fAd K d_law_sworn.at_) (fdOf K (He.fAd K d_law_sworn.at_)) := funD_of (T.c.defs (d := d_law_sworn) (List.mem_of_getElem? (i := 35) rfl))
theorem F_law_next (T : Tx K mg) : FnS K d_law_next.name d_law_next.qual s_law_next (He.fAd K d_law_next.at_) (fdOf K (He.fAd K d_law_next.at_)) := funD_of (T.c.defs (d := d_law_next) (List.mem_of_getElem? (i := 36) rfl))
theorem F_law_led (T : Tx K mg) : FnS K d_law_led.name d_law_led.qual s_law_led (He.fAd K d_law_led.at_) (fdOf K (He.fAd K d_law_led.at_)) := funD_of (T.c.defs (d := d_law_led) (List.mem_of_getElem? (i := 37) rfl))
theorem F_law_make (T : Tx K mg) : FnS K d_law_make.name d_law_make.qual s_law_make (He.fAd K d_law_make.at_) (fdOf K (He.fAd K d_law_make.at_)) := funD_of (T.c.defs (d := d_law_make) (List.mem_of_getElem? (i := 38) rfl))
theorem F_law_new_rule (T : Tx K mg) : FnS K d_law_new_rule.name d_law_new_rule.qual s_law_new_rule (He.fAd K d_law_new_rule.at_) (fdOf K (He.fAd K d_law_new_rule.at_)) := funD_of (T.c.defs (d := d_law_new_rule) (List.mem_of_getElem? (i := 39) rfl))
theorem F_law_class (T : Tx K mg) : FnS K d_law_class.name d_law_class.qual s_law_class (He.fAd K d_law_class.at_) (fdOf K (He.fAd K d_law_class.at_)) := funD_of (T.c.defs (d := d_law_class) (List.mem_of_getElem? (i := 40) rfl))
theorem F_law_admits (T : Tx K mg) : FnS K d_law_admits.name d_law_admits.qual s_law_admits (He.fAd K d_law_admits.at_) (fdOf K (He.fAd K d_law_admits.at_)) := funD_of (T.c.defs (d := d_law_admits) (List.mem_of_getElem? (i := 41) rfl))
theorem F_law_admit (T : Tx K mg) : FnS K d_law_admit.name d_law_admit.qual s_law_admit (He.fAd K d_law_admit.at_) (fdOf K (He.fAd K d_law_admit.at_)) := funD_of (T.c.defs (d := d_law_admit) (List.mem_of_getElem? (i := 42) rfl))
theorem F_law_some_admitted (T : Tx K mg) : FnS K d_law_some_admitted.name d_law_some_admitted.qual s_law_some_admitted (He.fAd K d_law_some_admitted.at_) (fdOf K (He.fAd K d_law_some_admitted.at_)) := funD_of (T.c.defs (d := d_law_some_admitted) (List.mem_of_getElem? (i := 43) rfl))
theorem F_law_drawn (T : Tx K mg) : FnS K d_law_drawn.name d_law_drawn.qual s_law_drawn (He.fAd K d_law_drawn.at_) (fdOf K (He.fAd K d_law_drawn.at_)) := funD_of (T.c.defs (d := d_law_drawn) (List.mem_of_getElem? (i := 44) rfl))
theorem F_law_made_in (T : Tx K mg) : FnS K d_law_made_in.name d_law_made_in.qual s_law_made_in (He.fAd K d_law_made_in.at_) (fdOf K (He.fAd K d_law_made_in.at_)) := funD_of (T.c.defs (d := d_law_made_in) (List.mem_of_getElem? (i := 45) rfl))
theorem F_law_made (T : Tx K mg) : FnS K d_law_made.name d_law_made.qual s_law_made (He.fAd K d_law_made.at_) (fdOf K (He.fAd K d_law_made.at_)) := funD_of (T.c.defs (d := d_law_made) (List.mem_of_getElem? (i := 46) rfl))
theorem F_law_methods (T : Tx K mg) : FnS K d_law_methods.name d_law_methods.qual s_law_methods (He.fAd K d_law_methods.at_) (fdOf K (He.fAd K d_law_methods.at_)) := funD_of (T.c.defs (d := d_law_methods) (List.mem_of_getElem? (i := 47) rfl))
theorem F_law_patterns (T : Tx K mg) : FnS K d_law_patterns.name d_law_patterns.qual s_law_patterns (He.fAd K d_law_patterns.at_) (fdOf K (He.fAd K d_law_patterns.at_)) := funD_of (T.c.defs (d := d_law_patterns) (List.mem_of_getElem? (i := 48) rfl))
theorem F_law_two_classes (T : Tx K mg) : FnS K d_law_two_classes.name d_law_two_classes.qual s_law_two_classes (He.fAd K d_law_two_classes.at_) (fdOf K (He.fAd K d_law_two_classes.at_)) := funD_of (T.c.defs (d := d_law_two_classes) (List.mem_of_getElem? (i := 49) rfl))
theorem F_law_drop (T : Tx K mg) : FnS K d_law_drop.name d_law_drop.qual s_law_drop (He.fAd K d_law_drop.at_) (fdOf K (He.fAd K d_law_drop.at_)) := funD_of (T.c.defs (d := d_law_drop) (List.mem_of_getElem? (i := 50) rfl))
theorem F_law_outcomes (T : Tx K mg) : FnS K d_law_outcomes.name d_law_outcomes.qual s_law_outcomes (He.fAd K d_law_outcomes.at_) (fdOf K (He.fAd K d_law_outcomes.at_)) := funD_of (T.c.defs (d := d_law_outcomes) (List.mem_of_getElem? (i := 51) rfl))
theorem F_law_lowest (T : Tx K mg) : FnS K d_law_lowest.name d_law_lowest.qual s_law_lowest (He.fAd K d_law_lowest.at_) (fdOf K (He.fAd K d_law_lowest.at_)) := funD_of (T.c.defs (d := d_law_lowest) (List.mem_of_getElem? (i := 52) rfl))
theorem F_law (T : Tx K mg) : FnS K d_law.name d_law.qual s_law (He.fAd K d_law.at_) (fdOf K (He.fAd K d_law.at_)) := funD_of (T.c.defs (d := d_law) (List.mem_of_getElem? (i := 53) rfl))
theorem F_Entry_init (T : Tx K mg) : FnS K d_Entry_init.name d_Entry_init.qual s_Entry_init (He.fAd K d_Entry_init.at_) (fdOf K (He.fAd K d_Entry_init.at_)) := funD_of (T.c.defs (d := d_Entry_init) (List.mem_of_getElem? (i := 54) rfl))
theorem F_Cache_init (T : Tx K mg) : FnS K d_Cache_init.name d_Cache_init.qual s_Cache_init (He.fAd K d_Cache_init.at_) (fdOf K (He.fAd K d_Cache_init.at_)) := funD_of (T.c.defs (d := d_Cache_init) (List.mem_of_getElem? (i := 55) rfl))
theorem F_Cache_refresh (T : Tx K mg) : FnS K d_Cache_refresh.name d_Cache_refresh.qual s_Cache_refresh (He.fAd K d_Cache_refresh.at_) (fdOf K (He.fAd K d_Cache_refresh.at_)) := funD_of (T.c.defs (d := d_Cache_refresh) (List.mem_of_getElem? (i := 56) rfl))
theorem F_Table_init (T : Tx K mg) : FnS K d_Table_init.name d_Table_init.qual s_Table_init (He.fAd K d_Table_init.at_) (fdOf K (He.fAd K d_Table_init.at_)) := funD_of (T.c.defs (d := d_Table_init) (List.mem_of_getElem? (i := 57) rfl))
theorem F_Table_copied (T : Tx K mg) : FnS K d_Table_copied.name d_Table_copied.qual s_Table_copied (He.fAd K d_Table_copied.at_) (fdOf K (He.fAd K d_Table_copied.at_)) := funD_of (T.c.defs (d := d_Table_copied) (List.mem_of_getElem? (i := 58) rfl))
theorem F_Table_has (T : Tx K mg) : FnS K d_Table_has.name d_Table_has.qual s_Table_has (He.fAd K d_Table_has.at_) (fdOf K (He.fAd K d_Table_has.at_)) := funD_of (T.c.defs (d := d_Table_has) (List.mem_of_getElem? (i := 59) rfl))
theorem F_Table_add_class (T : Tx K mg) : FnS K d_Table_add_class.name d_Table_add_class.qual s_Table_add_class (He.fAd K d_Table_add_class.at_) (fdOf K (He.fAd K d_Table_add_class.at_)) := funD_of (T.c.defs (d := d_Table_add_class) (List.mem_of_getElem? (i := 60) rfl))
theorem F_Table_remove_class (T : Tx K mg) : FnS K d_Table_remove_class.name d_Table_remove_class.qual s_Table_remove_class (He.fAd K d_Table_remove_class.at_) (fdOf K (He.fAd K d_Table_remove_class.at_)) := funD_of (T.c.defs (d := d_Table_remove_class) (List.mem_of_getElem? (i := 61) rfl))
theorem F_Table_add_registration (T : Tx K mg) : FnS K d_Table_add_registration.name d_Table_add_registration.qual s_Table_add_registration (He.fAd K d_Table_add_registration.at_) (fdOf K (He.fAd K d_Table_add_registration.at_)) := funD_of (T.c.defs (d := d_Table_add_registration) (List.mem_of_getElem? (i := 62) rfl))
theorem F_Table_remove_registration (T : Tx K mg) : FnS K d_Table_remove_registration.name d_Table_remove_registration.qual s_Table_remove_registration (He.fAd K d_Table_remove_registration.at_) (fdOf K (He.fAd K d_Table_remove_registration.at_)) := funD_of (T.c.defs (d := d_Table_remove_registration) (List.mem_of_getElem? (i := 63) rfl))
theorem F_Table_registrations (T : Tx K mg) : FnS K d_Table_registrations.name d_Table_registrations.qual s_Table_registrations (He.fAd K d_Table_registrations.at_) (fdOf K (He.fAd K d_Table_registrations.at_)) := funD_of (T.c.defs (d := d_Table_registrations) (List.mem_of_getElem? (i := 64) rfl))
theorem F_Table_is_above (T : Tx K mg) : FnS K d_Table_is_above.name d_Table_is_above.qual s_Table_is_above (He.fAd K d_Table_is_above.at_) (fdOf K (He.fAd K d_Table_is_above.at_)) := funD_of (T.c.defs (d := d_Table_is_above) (List.mem_of_getElem? (i := 65) rfl))
theorem F_Table_sworn (T : Tx K mg) : FnS K d_Table_sworn.name d_Table_sworn.qual s_Table_sworn (He.fAd K d_Table_sworn.at_) (fdOf K (He.fAd K d_Table_sworn.at_)) := funD_of (T.c.defs (d := d_Table_sworn) (List.mem_of_getElem? (i := 66) rfl))
theorem F_Table_below (T : Tx K mg) : FnS K d_Table_below.name d_Table_below.qual s_Table_below (He.fAd K d_Table_below.at_) (fdOf K (He.fAd K d_Table_below.at_)) := funD_of (T.c.defs (d := d_Table_below) (List.mem_of_getElem? (i := 67) rfl))
theorem F_Table_next_of (T : Tx K mg) : FnS K d_Table_next_of.name d_Table_next_of.qual s_Table_next_of (He.fAd K d_Table_next_of.at_) (fdOf K (He.fAd K d_Table_next_of.at_)) := funD_of (T.c.defs (d := d_Table_next_of) (List.mem_of_getElem? (i := 68) rfl))
theorem F_Table_answer_for (T : Tx K mg) : FnS K d_Table_answer_for.name d_Table_answer_for.qual s_Table_answer_for (He.fAd K d_Table_answer_for.at_) (fdOf K (He.fAd K d_Table_answer_for.at_)) := funD_of (T.c.defs (d := d_Table_answer_for) (List.mem_of_getElem? (i := 69) rfl))
theorem F_Table_shortest_road (T : Tx K mg) : FnS K d_Table_shortest_road.name d_Table_shortest_road.qual s_Table_shortest_road (He.fAd K d_Table_shortest_road.at_) (fdOf K (He.fAd K d_Table_shortest_road.at_)) := funD_of (T.c.defs (d := d_Table_shortest_road) (List.mem_of_getElem? (i := 70) rfl))
theorem F_Table_ring_by (T : Tx K mg) : FnS K d_Table_ring_by.name d_Table_ring_by.qual s_Table_ring_by (He.fAd K d_Table_ring_by.at_) (fdOf K (He.fAd K d_Table_ring_by.at_)) := funD_of (T.c.defs (d := d_Table_ring_by) (List.mem_of_getElem? (i := 71) rfl))
theorem F_World_init (T : Tx K mg) : FnS K d_World_init.name d_World_init.qual s_World_init (He.fAd K d_World_init.at_) (fdOf K (He.fAd K d_World_init.at_)) := funD_of (T.c.defs (d := d_World_init) (List.mem_of_getElem? (i := 72) rfl))
theorem F_World_look (T : Tx K mg) : FnS K d_World_look.name d_World_look.qual s_World_look (He.fAd K d_World_look.at_) (fdOf K (He.fAd K d_World_look.at_)) := funD_of (T.c.defs (d := d_World_look) (List.mem_of_getElem? (i := 73) rfl))
theorem F_World_refresh (T : Tx K mg) : FnS K d_World_refresh.name d_World_refresh.qual s_World_refresh (He.fAd K d_World_refresh.at_) (fdOf K (He.fAd K d_World_refresh.at_)) := funD_of (T.c.defs (d := d_World_refresh) (List.mem_of_getElem? (i := 74) rfl))
theorem F_World_make (T : Tx K mg) : FnS K d_World_make.name d_World_make.qual s_World_make (He.fAd K d_World_make.at_) (fdOf K (He.fAd K d_World_make.at_)) := funD_of (T.c.defs (d := d_World_make) (List.mem_of_getElem? (i := 75) rfl))
theorem F_World_look_registration (T : Tx K mg) : FnS K d_World_look_registration.name d_World_look_registration.qual s_World_look_registration (He.fAd K d_World_look_registration.at_) (fdOf K (He.fAd K d_World_look_registration.at_)) := funD_of (T.c.defs (d := d_World_look_registration) (List.mem_of_getElem? (i := 76) rfl))
theorem F_World_admit (T : Tx K mg) : FnS K d_World_admit.name d_World_admit.qual s_World_admit (He.fAd K d_World_admit.at_) (fdOf K (He.fAd K d_World_admit.at_)) := funD_of (T.c.defs (d := d_World_admit) (List.mem_of_getElem? (i := 77) rfl))
theorem F_World_drop (T : Tx K mg) : FnS K d_World_drop.name d_World_drop.qual s_World_drop (He.fAd K d_World_drop.at_) (fdOf K (He.fAd K d_World_drop.at_)) := funD_of (T.c.defs (d := d_World_drop) (List.mem_of_getElem? (i := 78) rfl))
end
end ST
set_option maxHeartbeats 0
namespace ST
open PySem PySem.W PySem.Calls PyProof.Rows
abbrev R : OpenRow := OpenLaw.row PySem.Challenge.rw_sworntypes_k79_whole_kernels_after_drops
def refM (o : Obj) : List Addr := match o.data with
  | .dict es _ => es.toList.flatMap fun e => He.refV e.val
  | .func fd => He.refV fd.code
  | .cls cd => [cd.ns]
  | _ => []
def stepM (g : Addr → Option Obj) (as : List Addr) : List Addr := as.flatMap fun a => match g a with
  | some o => refM o
  | none => []
def asM4 (A B C D : List Addr) : List Addr := mainGlobals :: (A ++ (B ++ (C ++ D)))
def asM3 (g : Addr → Option Obj) (A B C : List Addr) : List Addr := asM4 A B C (stepM g C)
def asM2 (g : Addr → Option Obj) (A B : List Addr) : List Addr := asM3 g A B (stepM g B)
def asM1 (g : Addr → Option Obj) (A : List Addr) : List Addr := asM2 g A (stepM g A)
def asM (g : Addr → Option Obj) : List Addr := asM1 g (stepM g [mainGlobals])
def KM (g : Addr → Option Obj) : Frag := He.frT g (asM g)
/-- what is told of the head's heap -/
structure Says (h : Heap) (K : Frag) : Prop where
  c : He.SaysD fa fn K
  x : ex K = true
  hd : ∀ p ∈ tf, codeHdIn K (He.cT K p).1 (He.cT K p).2 = true
  out : ∀ p ∈ tf, K.lookup (He.cT K p).2 = none
  empty : ∀ p ∈ tf, h.get? (He.cT K p).2 = some { cls := .none, data := .fields #[] }
abbrev AlM : Type := Bool × (Bool × (Bool × List He.FnW))
def obs1 (g : Addr → Option Obj) : Bool := ex (KM g) && He.tabsB g tf (KM g)
def obs2 (g : Addr → Option Obj) : Bool := fa.all fun f => f.ok (KM g)
def obs3 (g : Addr → Option Obj) : Bool := fn.all fun d => d.ok (KM g)
def obs4 (g : Addr → Option Obj) : List He.FnW := fn.map fun d => He.fnW (KM g) d.at_
def obsM (g : Addr → Option Obj) : AlM := (obs1 g, obs2 g, obs3 g, obs4 g)
def valM : AlM := (true, true, true, fn.map He.DefD.val)
theorem says_of {h : Heap} (e : obsM h.get? = valM) : ∃ K : Frag, K.In h ∧ Says h K := by
  have e1 : (obs1 h.get?, obs2 h.get?, obs3 h.get?, obs4 h.get?) = (true, true, true, fn.map He.DefD.val) := e
  obtain ⟨a1, a2⟩ := Prod.mk.inj e1
  obtain ⟨a2, a3⟩ := Prod.mk.inj a2
  obtain ⟨a3, a4⟩ := Prod.mk.inj a3
  obtain ⟨x1, x2⟩ := He.ba (show (ex (KM h.get?) && He.tabsB h.get? tf (KM h.get?)) = true from a1)
  have a2' : (fa.all fun f => f.ok (KM h.get?)) = true := a2
  have a3' : (fn.all fun d => d.ok (KM h.get?)) = true := a3
  have a4' : (fn.map fun d => He.fnW (KM h.get?) d.at_) = fn.map He.DefD.val := a4
  have tb : ∀ p ∈ tf, codeHdIn (KM h.get?) (He.cT (KM h.get?) p).1 (He.cT (KM h.get?) p).2 = true ∧ ∃ o, h.get? (He.cT (KM h.get?) p).2 = some o ∧ He.emptyTab o = true := fun p hp => by
    have z := List.all_eq_true.mp x2 p hp
    obtain ⟨z1, z2⟩ := He.ba z
    refine ⟨z1, ?_⟩
    cases q : h.get? (He.cT (KM h.get?) p).2 with
    | none =>
      rw [q] at z2
      cases z2
    | some o =>
      rw [q] at z2
      exact ⟨o, rfl, z2⟩
  refine ⟨KM h.get?, He.frT_in, ?_, x1, fun p hp => (tb p hp).1, fun p hp => ?_, fun p hp => ?_⟩
  · show (((fa.all fun f => f.ok (KM h.get?)) && fn.all fun d => d.ok (KM h.get?), fn.map fun d => He.fnW (KM h.get?) d.at_) : He.AlD) = (true, fn.map He.DefD.val)
    rw [a2', a3', a4']
    rfl
  · obtain ⟨o, q1, q2⟩ := (tb p hp).2
    exact He.frT_none q1 q2
  · obtain ⟨o, q1, q2⟩ := (tb p hp).2
    rw [q1, He.emptyTab_eq q2]
def hk : Hook where
  α := AlM
  obs := fun s => obsM s.heap.get?
  val := fun _ => valM
  says := fun _ h => ∃ K : Frag, K.In h ∧ Says h K
  of := fun _ _ e => says_of e
  keeps := fun _ _ _ ⟨K, hK, c⟩ k => ⟨K, Frag.In.keeps hK k, ⟨c.c, c.x, c.hd, c.out, fun p hp => k _ _ (c.empty p hp)⟩⟩
def ob (s : SharedT) : AlM := obsM (HandSHeadRun.getT s)
theorem ob_eq (s : SharedT) : ob s = hk.obs s.abs := by
  have e : HandSHeadRun.getT s = s.abs.heap.get? := funext (HandSHeadRun.getT_eq s)
  show obsM (HandSHeadRun.getT s) = obsM s.abs.heap.get?
  rw [e]
def lo0 : List PySem.Str := ["_wall", "__name__", "WorldError", "BadName", "BadMark", "BadHook", "UnknownClass", "NoOrder", "Taken", "InUse", "Ring", "Repeated", "NotSworn", "Abstract", "roads_from"]
def lo1 : List PySem.Str := ["MOST_LETTERS", "LETTERS", "is_name", "is_clause", "hook_fault", "hook_answer", "PLAIN", "ABSTRACT", "BLOCKED", "MARKS", "Entry", "is_mark", "look_marks", "is_sworn", "found_mark"]
def lo2 : List PySem.Str := ["all_found", "methods_had", "methods_left", "hook_for", "answer_by_hook", "subclasses", "methods_in", "WON", "REACHED", "NEITHER", "patterns_in", "held_by", "declines", "next_in", "led_to"]
def lo3 : List PySem.Str := ["is_reached", "outcome_in", "has_road", "state_of", "outcome", "is_needless_in", "needless", "kernel", "Cache", "can_be_first", "merged", "look_bases", "look_hook", "new_entry", "Table"]
def lo4 : List PySem.Str := ["Thing", "World", "_law_bag", "_law_take", "_law_pick", "_law_merge", "_law_new", "_law_sworn", "_law_next", "_law_led", "_law_make", "_law_new_rule", "_law_class", "_law_admits", "_law_admit"]
def lo5 : List PySem.Str := ["_law_some_admitted", "_law_drawn", "_law_made_in", "_law_made", "_law_methods", "_law_patterns", "_law_two_classes", "_law_drop", "_law_outcomes", "_law_lowest"]
def loose : List PySem.Str := lo0 ++ (lo1 ++ (lo2 ++ (lo3 ++ (lo4 ++ (lo5)))))
noncomputable def go (w : World) (os : OsState) {α : Type} (f : SharedT → α) : Option α := (HandSHeadRun.endF (HandSHeadRun.stepQ (HandSHeadRun.denQ HandSHeadRun.tabQ) R.prog w) 20000 R.prog w os).map f
abbrev qv : Program := view R.prog [97]
theorem run1 (w : World) (os : OsState) : go w os (fun s => (HandSHeadRun.looksF R.prog (boot_heap w.params) s.abs, HandSHeadRun.seenQ qv loose (importedModules R.prog.main.body) (fun s => xlAt qv [] s && recOk R.toRowW.records s) s.abs)) = some (true, openGood qv loose) := by kernel_rfl
theorem run2 (w : World) (os : OsState) : go w os (fun s => (obs1 (HandSHeadRun.getT s), obs2 (HandSHeadRun.getT s))) = some (true, true) := by kernel_rfl
theorem run3 (w : World) (os : OsState) : go w os (fun s => (obs3 (HandSHeadRun.getT s), obs4 (HandSHeadRun.getT s))) = some (true, fn.map He.DefD.val) := by kernel_rfl
theorem run (w : World) : HandSHeadRun.RunEq R qv hk ob 20000 loose w := by
  intro os
  have a := run1 w os
  have b := run2 w os
  have c := run3 w os
  unfold go at a b c
  cases e : HandSHeadRun.endF (HandSHeadRun.stepQ (HandSHeadRun.denQ HandSHeadRun.tabQ) R.prog w) 20000 R.prog w os with
  | none =>
    rw [e] at a
    cases a
  | some s =>
    rw [e] at a b c
    obtain ⟨a1, a2⟩ := Prod.mk.inj (Option.some.inj a)
    obtain ⟨b1, b2⟩ := Prod.mk.inj (Option.some.inj b)
    obtain ⟨c1, c2⟩ := Prod.mk.inj (Option.some.inj c)
    have d : ob s = valM := by
      show (obs1 (HandSHeadRun.getT s), obs2 (HandSHeadRun.getT s), obs3 (HandSHeadRun.getT s), obs4 (HandSHeadRun.getT s)) = valM
      rw [b1, b2, c1, c2]
      rfl
    refine congrArg some ?_
    show (HandSHeadRun.looksF R.prog (boot_heap w.params) s.abs, HandSHeadRun.seenQ qv loose (importedModules R.prog.main.body) (fun s => xlAt qv [] s && recOk R.toRowW.records s) s.abs, ob s) = (true, openGood qv loose, valM)
    rw [a1, a2, d]
end ST
set_option maxHeartbeats 4000000
namespace ST
open PySem PySem.Spec PyProof.Rows L2
/-- 0 start, 1 next_of, 2 found, 3 at, 4 here, 5 other -/
theorem sc_roads_from : FnScope ["start", "next_of", "found", "at", "here", "other"] ["start", "next_of"] (defScope s_roads_from) := ⟨rfl, rfl, rfl, by decide +kernel, rfl, by decide +kernel, by decide +kernel⟩
theorem b_roads_from {K : PySem.W.Frag} {mg : Str → Option Value} (T : Tx K mg) : Binds K (fdOf K (He.fAd K d_roads_from.at_)) ["start", "next_of"] [] := (F_roads_from T).bindsN fun _ _ _ _ _ _ us hl => match us, hl with | [_, _], _ => rfl
/-- 0 value, 1 letter -/
theorem sc_is_name : FnScope ["value", "letter"] ["value"] (defScope s_is_name) := ⟨rfl, rfl, rfl, by decide +kernel, rfl, by decide +kernel, by decide +kernel⟩
theorem b_is_name {K : PySem.W.Frag} {mg : Str → Option Value} (T : Tx K mg) : Binds K (fdOf K (He.fAd K d_is_name.at_)) ["value"] [] := (F_is_name T).bindsN fun _ _ _ _ _ _ us hl => match us, hl with | [_], _ => rfl
/-- 0 value, 1 methods, 2 answer, 3 method -/
theorem sc_is_clause : FnScope ["value", "methods", "answer", "method"] ["value"] (defScope s_is_clause) := ⟨rfl, rfl, rfl, by decide +kernel, rfl, by decide +kernel, by decide +kernel⟩
theorem b_is_clause {K : PySem.W.Frag} {mg : Str → Option Value} (T : Tx K mg) : Binds K (fdOf K (He.fAd K d_is_clause.at_)) ["value"] [] := (F_is_clause T).bindsN fun _ _ _ _ _ _ us hl => match us, hl with | [_], _ => rfl
/-- 0 value, 1 place, 2 clause -/
theorem sc_hook_fault : FnScope ["value", "place", "clause"] ["value"] (defScope s_hook_fault) := ⟨rfl, rfl, rfl, by decide +kernel, rfl, by decide +kernel, by decide +kernel⟩
theorem b_hook_fault {K : PySem.W.Frag} {mg : Str → Option Value} (T : Tx K mg) : Binds K (fdOf K (He.fAd K d_hook_fault.at_)) ["value"] [] := (F_hook_fault T).bindsN fun _ _ _ _ _ _ us hl => match us, hl with | [_], _ => rfl
/-- 0 hook, 1 methods, 2 wanted, 3 answer, 4 method -/
theorem sc_hook_answer : FnScope ["hook", "methods", "wanted", "answer", "method"] ["hook", "methods"] (defScope s_hook_answer) := ⟨rfl, rfl, rfl, by decide +kernel, rfl, by decide +kernel, by decide +kernel⟩
theorem b_hook_answer {K : PySem.W.Frag} {mg : Str → Option Value} (T : Tx K mg) : Binds K (fdOf K (He.fAd K d_hook_answer.at_)) ["hook", "methods"] [] := (F_hook_answer T).bindsN fun _ _ _ _ _ _ us hl => match us, hl with | [_, _], _ => rfl
/-- 0 value -/
theorem sc_is_mark : FnScope ["value"] ["value"] (defScope s_is_mark) := ⟨rfl, rfl, rfl, by decide +kernel, rfl, by decide +kernel, by decide +kernel⟩
theorem b_is_mark {K : PySem.W.Frag} {mg : Str → Option Value} (T : Tx K mg) : Binds K (fdOf K (He.fAd K d_is_mark.at_)) ["value"] [] := (F_is_mark T).bindsN fun _ _ _ _ _ _ us hl => match us, hl with | [_], _ => rfl
/-- 0 marks, 1 known, 2 pair -/
theorem sc_look_marks : FnScope ["marks", "known", "pair"] ["marks"] (defScope s_look_marks) := ⟨rfl, rfl, rfl, by decide +kernel, rfl, by decide +kernel, by decide +kernel⟩
theorem b_look_marks {K : PySem.W.Frag} {mg : Str → Option Value} (T : Tx K mg) : Binds K (fdOf K (He.fAd K d_look_marks.at_)) ["marks"] [] := (F_look_marks T).bindsN fun _ _ _ _ _ _ us hl => match us, hl with | [_], _ => rfl
/-- 0 table, 1 name, 2 one -/
theorem sc_is_sworn : FnScope ["table", "name", "one"] ["table", "name"] (defScope s_is_sworn) := ⟨rfl, rfl, rfl, by decide +kernel, rfl, by decide +kernel, by decide +kernel⟩
theorem b_is_sworn {K : PySem.W.Frag} {mg : Str → Option Value} (T : Tx K mg) : Binds K (fdOf K (He.fAd K d_is_sworn.at_)) ["table", "name"] [] := (F_is_sworn T).bindsN fun _ _ _ _ _ _ us hl => match us, hl with | [_, _], _ => rfl
/-- 0 table, 1 name, 2 one, 3 entry -/
theorem sc_hook_for : FnScope ["table", "name", "one", "entry"] ["table", "name"] (defScope s_hook_for) := ⟨rfl, rfl, rfl, by decide +kernel, rfl, by decide +kernel, by decide +kernel⟩
theorem b_hook_for {K : PySem.W.Frag} {mg : Str → Option Value} (T : Tx K mg) : Binds K (fdOf K (He.fAd K d_hook_for.at_)) ["table", "name"] [] := (F_hook_for T).bindsN fun _ _ _ _ _ _ us hl => match us, hl with | [_, _], _ => rfl
/-- 0 table, 1 name, 2 methods, 3 hook -/
theorem sc_answer_by_hook : FnScope ["table", "name", "methods", "hook"] ["table", "name", "methods"] (defScope s_answer_by_hook) := ⟨rfl, rfl, rfl, by decide +kernel, rfl, by decide +kernel, by decide +kernel⟩
theorem b_answer_by_hook {K : PySem.W.Frag} {mg : Str → Option Value} (T : Tx K mg) : Binds K (fdOf K (He.fAd K d_answer_by_hook.at_)) ["table", "name", "methods"] [] := (F_answer_by_hook T).bindsN fun _ _ _ _ _ _ us hl => match us, hl with | [_, _, _], _ => rfl
/-- 0 table, 1 name, 2 one -/
theorem sc_subclasses : FnScope ["table", "name", "one"] ["table", "name"] (defScope s_subclasses) := ⟨rfl, rfl, rfl, by decide +kernel, rfl, by decide +kernel, by decide +kernel⟩
theorem b_subclasses {K : PySem.W.Frag} {mg : Str → Option Value} (T : Tx K mg) : Binds K (fdOf K (He.fAd K d_subclasses.at_)) ["table", "name"] [] := (F_subclasses T).bindsN fun _ _ _ _ _ _ us hl => match us, hl with | [_, _], _ => rfl
/-- 0 table, 1 hooks, 2 entry, 3 hook, 4 methods, 5 answer, 6 method -/
theorem sc_methods_in : FnScope ["table", "hooks", "entry", "hook", "methods", "answer", "method"] ["table"] (defScope s_methods_in) := ⟨rfl, rfl, rfl, by decide +kernel, rfl, by decide +kernel, by decide +kernel⟩
theorem b_methods_in {K : PySem.W.Frag} {mg : Str → Option Value} (T : Tx K mg) : Binds K (fdOf K (He.fAd K d_methods_in.at_)) ["table"] [] := (F_methods_in T).bindsN fun _ _ _ _ _ _ us hl => match us, hl with | [_], _ => rfl
/-- 0 table, 1 found, 2 method, 3 pattern -/
theorem sc_patterns_in : FnScope ["table", "found", "method", "pattern"] ["table"] (defScope s_patterns_in) := ⟨rfl, rfl, rfl, by decide +kernel, rfl, by decide +kernel, by decide +kernel⟩
theorem b_patterns_in {K : PySem.W.Frag} {mg : Str → Option Value} (T : Tx K mg) : Binds K (fdOf K (He.fAd K d_patterns_in.at_)) ["table"] [] := (F_patterns_in T).bindsN fun _ _ _ _ _ _ us hl => match us, hl with | [_], _ => rfl
/-- 0 table, 1 cls, 2 other, 3 name -/
theorem sc_held_by : FnScope ["table", "cls", "other", "name"] ["table", "cls", "other"] (defScope s_held_by) := ⟨rfl, rfl, rfl, by decide +kernel, rfl, by decide +kernel, by decide +kernel⟩
theorem b_held_by {K : PySem.W.Frag} {mg : Str → Option Value} (T : Tx K mg) : Binds K (fdOf K (He.fAd K d_held_by.at_)) ["table", "cls", "other"] [] := (F_held_by T).bindsN fun _ _ _ _ _ _ us hl => match us, hl with | [_, _, _], _ => rfl
/-- 0 table, 1 name, 2 methods -/
theorem sc_declines : FnScope ["table", "name", "methods"] ["table", "name", "methods"] (defScope s_declines) := ⟨rfl, rfl, rfl, by decide +kernel, rfl, by decide +kernel, by decide +kernel⟩
theorem b_declines {K : PySem.W.Frag} {mg : Str → Option Value} (T : Tx K mg) : Binds K (fdOf K (He.fAd K d_declines.at_)) ["table", "name", "methods"] [] := (F_declines T).bindsN fun _ _ _ _ _ _ us hl => match us, hl with | [_, _, _], _ => rfl
/-- 0 table, 1 held, 2 name, 3 other -/
theorem sc_next_in : FnScope ["table", "held", "name", "other"] ["table", "held", "name"] (defScope s_next_in) := ⟨rfl, rfl, rfl, by decide +kernel, rfl, by decide +kernel, by decide +kernel⟩
theorem b_next_in {K : PySem.W.Frag} {mg : Str → Option Value} (T : Tx K mg) : Binds K (fdOf K (He.fAd K d_next_in.at_)) ["table", "held", "name"] [] := (F_next_in T).bindsN fun _ _ _ _ _ _ us hl => match us, hl with | [_, _, _], _ => rfl
/-- 0 table, 1 held, 2 cls, 3 methods, 4 name -/
theorem sc_led_to : FnScope ["table", "held", "cls", "methods", "name"] ["table", "held", "cls", "methods"] (defScope s_led_to) := ⟨rfl, rfl, rfl, by decide +kernel, rfl, by decide +kernel, by decide +kernel⟩
theorem b_led_to {K : PySem.W.Frag} {mg : Str → Option Value} (T : Tx K mg) : Binds K (fdOf K (He.fAd K d_led_to.at_)) ["table", "held", "cls", "methods"] [] := (F_led_to T).bindsN fun _ _ _ _ _ _ us hl => match us, hl with | [_, _, _, _], _ => rfl
/-- 0 table, 1 ends, 2 other, 3 methods, 4 name -/
theorem sc_is_reached : FnScope ["table", "ends", "other", "methods", "name"] ["table", "ends", "other", "methods"] (defScope s_is_reached) := ⟨rfl, rfl, rfl, by decide +kernel, rfl, by decide +kernel, by decide +kernel⟩
theorem b_is_reached {K : PySem.W.Frag} {mg : Str → Option Value} (T : Tx K mg) : Binds K (fdOf K (He.fAd K d_is_reached.at_)) ["table", "ends", "other", "methods"] [] := (F_is_reached T).bindsN fun _ _ _ _ _ _ us hl => match us, hl with | [_, _, _, _], _ => rfl
/-- 0 table, 1 held, 2 cls, 3 other, 4 methods, 5 ends, 6 name -/
theorem sc_outcome_in : FnScope ["table", "held", "cls", "other", "methods", "ends", "name"] ["table", "held", "cls", "other", "methods"] (defScope s_outcome_in) := ⟨rfl, rfl, rfl, by decide +kernel, rfl, by decide +kernel, by decide +kernel⟩
theorem b_outcome_in {K : PySem.W.Frag} {mg : Str → Option Value} (T : Tx K mg) : Binds K (fdOf K (He.fAd K d_outcome_in.at_)) ["table", "held", "cls", "other", "methods"] [] := (F_outcome_in T).bindsN fun _ _ _ _ _ _ us hl => match us, hl with | [_, _, _, _, _], _ => rfl
/-- 0 table, 1 held, 2 cls, 3 other, 4 name -/
theorem sc_has_road : FnScope ["table", "held", "cls", "other", "name"] ["table", "held", "cls", "other"] (defScope s_has_road) := ⟨rfl, rfl, rfl, by decide +kernel, rfl, by decide +kernel, by decide +kernel⟩
theorem b_has_road {K : PySem.W.Frag} {mg : Str → Option Value} (T : Tx K mg) : Binds K (fdOf K (He.fAd K d_has_road.at_)) ["table", "held", "cls", "other"] [] := (F_has_road T).bindsN fun _ _ _ _ _ _ us hl => match us, hl with | [_, _, _, _], _ => rfl
/-- 0 table, 1 cls, 2 other, 3 patterns, 4 held, 5 outcomes, 6 methods -/
theorem sc_state_of : FnScope ["table", "cls", "other", "patterns", "held", "outcomes", "methods"] ["table", "cls", "other", "patterns"] (defScope s_state_of) := ⟨rfl, rfl, rfl, by decide +kernel, rfl, by decide +kernel, by decide +kernel⟩
theorem b_state_of {K : PySem.W.Frag} {mg : Str → Option Value} (T : Tx K mg) : Binds K (fdOf K (He.fAd K d_state_of.at_)) ["table", "cls", "other", "patterns"] [] := (F_state_of T).bindsN fun _ _ _ _ _ _ us hl => match us, hl with | [_, _, _, _], _ => rfl
/-- 0 world, 1 cls, 2 other, 3 methods -/
theorem sc_outcome : FnScope ["world", "cls", "other", "methods"] ["world", "cls", "other", "methods"] (defScope s_outcome) := ⟨rfl, rfl, rfl, by decide +kernel, rfl, by decide +kernel, by decide +kernel⟩
theorem b_outcome {K : PySem.W.Frag} {mg : Str → Option Value} (T : Tx K mg) : Binds K (fdOf K (He.fAd K d_outcome.at_)) ["world", "cls", "other", "methods"] [] := (F_outcome T).bindsN fun _ _ _ _ _ _ us hl => match us, hl with | [_, _, _, _], _ => rfl
/-- 0 table, 1 cls, 2 other, 3 patterns, 4 bare -/
theorem sc_is_needless_in : FnScope ["table", "cls", "other", "patterns", "bare"] ["table", "cls", "other", "patterns"] (defScope s_is_needless_in) := ⟨rfl, rfl, rfl, by decide +kernel, rfl, by decide +kernel, by decide +kernel⟩
theorem b_is_needless_in {K : PySem.W.Frag} {mg : Str → Option Value} (T : Tx K mg) : Binds K (fdOf K (He.fAd K d_is_needless_in.at_)) ["table", "cls", "other", "patterns"] [] := (F_is_needless_in T).bindsN fun _ _ _ _ _ _ us hl => match us, hl with | [_, _, _, _], _ => rfl
/-- 0 world, 1 table, 2 patterns, 3 pair -/
theorem sc_needless : FnScope ["world", "table", "patterns", "pair"] ["world"] (defScope s_needless) := ⟨rfl, rfl, rfl, by decide +kernel, rfl, by decide +kernel, by decide +kernel⟩
theorem b_needless {K : PySem.W.Frag} {mg : Str → Option Value} (T : Tx K mg) : Binds K (fdOf K (He.fAd K d_needless.at_)) ["world"] [] := (F_needless T).bindsN fun _ _ _ _ _ _ us hl => match us, hl with | [_], _ => rfl
/-- 0 world, 1 left, 2 pair -/
theorem sc_kernel : FnScope ["world", "left", "pair"] ["world"] (defScope s_kernel) := ⟨rfl, rfl, rfl, by decide +kernel, rfl, by decide +kernel, by decide +kernel⟩
theorem b_kernel {K : PySem.W.Frag} {mg : Str → Option Value} (T : Tx K mg) : Binds K (fdOf K (He.fAd K d_kernel.at_)) ["world"] [] := (F_kernel T).bindsN fun _ _ _ _ _ _ us hl => match us, hl with | [_], _ => rfl
/-- 0 name, 1 lists, 2 one -/
theorem sc_can_be_first : FnScope ["name", "lists", "one"] ["name", "lists"] (defScope s_can_be_first) := ⟨rfl, rfl, rfl, by decide +kernel, rfl, by decide +kernel, by decide +kernel⟩
theorem b_can_be_first {K : PySem.W.Frag} {mg : Str → Option Value} (T : Tx K mg) : Binds K (fdOf K (He.fAd K d_can_be_first.at_)) ["name", "lists"] [] := (F_can_be_first T).bindsN fun _ _ _ _ _ _ us hl => match us, hl with | [_, _], _ => rfl
/-- 0 lists, 1 waiting, 2 found, 3 first, 4 rest, 5 one, 6 name -/
theorem sc_merged : FnScope ["lists", "waiting", "found", "first", "rest", "one", "name"] ["lists"] (defScope s_merged) := ⟨rfl, rfl, rfl, by decide +kernel, rfl, by decide +kernel, by decide +kernel⟩
theorem b_merged {K : PySem.W.Frag} {mg : Str → Option Value} (T : Tx K mg) : Binds K (fdOf K (He.fAd K d_merged.at_)) ["lists"] [] := (F_merged T).bindsN fun _ _ _ _ _ _ us hl => match us, hl with | [_], _ => rfl
/-- 0 table, 1 bases, 2 place, 3 base -/
theorem sc_look_bases : FnScope ["table", "bases", "place", "base"] ["table", "bases"] (defScope s_look_bases) := ⟨rfl, rfl, rfl, by decide +kernel, rfl, by decide +kernel, by decide +kernel⟩
theorem b_look_bases {K : PySem.W.Frag} {mg : Str → Option Value} (T : Tx K mg) : Binds K (fdOf K (He.fAd K d_look_bases.at_)) ["table", "bases"] [] := (F_look_bases T).bindsN fun _ _ _ _ _ _ us hl => match us, hl with | [_, _], _ => rfl
/-- 0 hook, 1 is_allowed, 2 place -/
theorem sc_look_hook : FnScope ["hook", "is_allowed", "place"] ["hook", "is_allowed"] (defScope s_look_hook) := ⟨rfl, rfl, rfl, by decide +kernel, rfl, by decide +kernel, by decide +kernel⟩
theorem b_look_hook {K : PySem.W.Frag} {mg : Str → Option Value} (T : Tx K mg) : Binds K (fdOf K (He.fAd K d_look_hook.at_)) ["hook", "is_allowed"] [] := (F_look_hook T).bindsN fun _ _ _ _ _ _ us hl => match us, hl with | [_, _], _ => rfl
/-- 0 table, 1 name, 2 bases, 3 sworn, 4 marks, 5 hook, 6 passed, 7 behind, 8 base -/
theorem sc_new_entry : FnScope ["table", "name", "bases", "sworn", "marks", "hook", "passed", "behind", "base"] ["table", "name", "bases", "sworn", "marks", "hook", "passed"] (defScope s_new_entry) := ⟨rfl, rfl, rfl, by decide +kernel, rfl, by decide +kernel, by decide +kernel⟩
theorem b_new_entry {K : PySem.W.Frag} {mg : Str → Option Value} (T : Tx K mg) : Binds K (fdOf K (He.fAd K d_new_entry.at_)) ["table", "name", "bases", "sworn", "marks", "hook", "passed"] [] := (F_new_entry T).bindsN fun _ _ _ _ _ _ us hl => match us, hl with | [_, _, _, _, _, _, _], _ => rfl
/-- 0 _law_script, 1 _law_at, 2 _law_cell, 3 _law_digits -/
theorem sc_law_bag : FnScope ["_law_script", "_law_at", "_law_cell", "_law_digits"] ["_law_script", "_law_at"] (defScope s_law_bag) := ⟨rfl, rfl, rfl, by decide +kernel, rfl, by decide +kernel, by decide +kernel⟩
theorem b_law_bag {K : PySem.W.Frag} {mg : Str → Option Value} (T : Tx K mg) : Binds K (fdOf K (He.fAd K d_law_bag.at_)) ["_law_script", "_law_at"] [] := (F_law_bag T).bindsN fun _ _ _ _ _ _ us hl => match us, hl with | [_, _], _ => rfl
/-- 0 _law_bag_here, 1 _law_many, 2 _law_digit, 3 _law_mixed -/
theorem sc_law_take : FnScope ["_law_bag_here", "_law_many", "_law_digit", "_law_mixed"] ["_law_bag_here", "_law_many"] (defScope s_law_take) := ⟨rfl, rfl, rfl, by decide +kernel, rfl, by decide +kernel, by decide +kernel⟩
theorem b_law_take {K : PySem.W.Frag} {mg : Str → Option Value} (T : Tx K mg) : Binds K (fdOf K (He.fAd K d_law_take.at_)) ["_law_bag_here", "_law_many"] [] := (F_law_take T).bindsN fun _ _ _ _ _ _ us hl => match us, hl with | [_, _], _ => rfl
/-- 0 _law_bag_here, 1 _law_some -/
theorem sc_law_pick : FnScope ["_law_bag_here", "_law_some"] ["_law_bag_here", "_law_some"] (defScope s_law_pick) := ⟨rfl, rfl, rfl, by decide +kernel, rfl, by decide +kernel, by decide +kernel⟩
theorem b_law_pick {K : PySem.W.Frag} {mg : Str → Option Value} (T : Tx K mg) : Binds K (fdOf K (He.fAd K d_law_pick.at_)) ["_law_bag_here", "_law_some"] [] := (F_law_pick T).bindsN fun _ _ _ _ _ _ us hl => match us, hl with | [_, _], _ => rfl
/-- 0 _law_lists, 1 _law_left, 2 _law_found, 3 _law_heads, 4 _law_good, 5 _law_one, 6 _law_head, 7 _law_other -/
theorem sc_law_merge : FnScope ["_law_lists", "_law_left", "_law_found", "_law_heads", "_law_good", "_law_one", "_law_head", "_law_other"] ["_law_lists"] (defScope s_law_merge) := ⟨rfl, rfl, rfl, by decide +kernel, rfl, by decide +kernel, by decide +kernel⟩
theorem b_law_merge {K : PySem.W.Frag} {mg : Str → Option Value} (T : Tx K mg) : Binds K (fdOf K (He.fAd K d_law_merge.at_)) ["_law_lists"] [] := (F_law_merge T).bindsN fun _ _ _ _ _ _ us hl => match us, hl with | [_], _ => rfl
/--  -/
theorem sc_law_new : FnScope [] [] (defScope s_law_new) := ⟨rfl, rfl, rfl, by decide +kernel, rfl, by decide +kernel, by decide +kernel⟩
theorem b_law_new {K : PySem.W.Frag} {mg : Str → Option Value} (T : Tx K mg) : Binds K (fdOf K (He.fAd K d_law_new.at_)) [] [] := (F_law_new T).bindsN fun _ _ _ _ _ _ us hl => match us, hl with | [], _ => rfl
/-- 0 _law_plain, 1 _law_name, 2 _law_one -/
theorem sc_law_sworn : FnScope ["_law_plain", "_law_name", "_law_one"] ["_law_plain", "_law_name"] (defScope s_law_sworn) := ⟨rfl, rfl, rfl, by decide +kernel, rfl, by decide +kernel, by decide +kernel⟩
theorem b_law_sworn {K : PySem.W.Frag} {mg : Str → Option Value} (T : Tx K mg) : Binds K (fdOf K (He.fAd K d_law_sworn.at_)) ["_law_plain", "_law_name"] [] := (F_law_sworn T).bindsN fun _ _ _ _ _ _ us hl => match us, hl with | [_, _], _ => rfl
/-- 0 _law_plain, 1 _law_name, 2 _law_found, 3 _law_one -/
theorem sc_law_next : FnScope ["_law_plain", "_law_name", "_law_found", "_law_one"] ["_law_plain", "_law_name"] (defScope s_law_next) := ⟨rfl, rfl, rfl, by decide +kernel, rfl, by decide +kernel, by decide +kernel⟩
theorem b_law_next {K : PySem.W.Frag} {mg : Str → Option Value} (T : Tx K mg) : Binds K (fdOf K (He.fAd K d_law_next.at_)) ["_law_plain", "_law_name"] [] := (F_law_next T).bindsN fun _ _ _ _ _ _ us hl => match us, hl with | [_, _], _ => rfl
/-- 0 _law_plain, 1 _law_name, 2 _law_found, 3 _law_at, 4 _law_one -/
theorem sc_law_led : FnScope ["_law_plain", "_law_name", "_law_found", "_law_at", "_law_one"] ["_law_plain", "_law_name"] (defScope s_law_led) := ⟨rfl, rfl, rfl, by decide +kernel, rfl, by decide +kernel, by decide +kernel⟩
theorem b_law_led {K : PySem.W.Frag} {mg : Str → Option Value} (T : Tx K mg) : Binds K (fdOf K (He.fAd K d_law_led.at_)) ["_law_plain", "_law_name"] [] := (F_law_led T).bindsN fun _ _ _ _ _ _ us hl => match us, hl with | [_, _], _ => rfl
/-- 0 _law_plain, 1 _law_name, 2 _law_bases, 3 _law_oath, 4 _law_signs, 5 _law_rule, 6 _law_lists, 7 _law_rest, 8 _law_base -/
theorem sc_law_make : FnScope ["_law_plain", "_law_name", "_law_bases", "_law_oath", "_law_signs", "_law_rule", "_law_lists", "_law_rest", "_law_base"] ["_law_plain", "_law_name", "_law_bases", "_law_oath", "_law_signs", "_law_rule"] (defScope s_law_make) := ⟨rfl, rfl, rfl, by decide +kernel, rfl, by decide +kernel, by decide +kernel⟩
theorem b_law_make {K : PySem.W.Frag} {mg : Str → Option Value} (T : Tx K mg) : Binds K (fdOf K (He.fAd K d_law_make.at_)) ["_law_plain", "_law_name", "_law_bases", "_law_oath", "_law_signs", "_law_rule"] [] := (F_law_make T).bindsN fun _ _ _ _ _ _ us hl => match us, hl with | [_, _, _, _, _, _], _ => rfl
/-- 0 _law_bag_here, 1 _law_methods_here, 2 _law_found, 3 _law_turn, 4 _law_wanted, 5 _law_method -/
theorem sc_law_new_rule : FnScope ["_law_bag_here", "_law_methods_here", "_law_found", "_law_turn", "_law_wanted", "_law_method"] ["_law_bag_here", "_law_methods_here"] (defScope s_law_new_rule) := ⟨rfl, rfl, rfl, by decide +kernel, rfl, by decide +kernel, by decide +kernel⟩
theorem b_law_new_rule {K : PySem.W.Frag} {mg : Str → Option Value} (T : Tx K mg) : Binds K (fdOf K (He.fAd K d_law_new_rule.at_)) ["_law_bag_here", "_law_methods_here"] [] := (F_law_new_rule T).bindsN fun _ _ _ _ _ _ us hl => match us, hl with | [_, _], _ => rfl
/-- 0 _law_bag_here, 1 _law_plain, 2 _law_name, 3 _law_methods_here, 4 _law_left, 5 _law_bases, 6 _law_turn, 7 _law_signs, 8 _law_method -/
theorem sc_law_class : FnScope ["_law_bag_here", "_law_plain", "_law_name", "_law_methods_here", "_law_left", "_law_bases", "_law_turn", "_law_signs", "_law_method"] ["_law_bag_here", "_law_plain", "_law_name", "_law_methods_here"] (defScope s_law_class) := ⟨rfl, rfl, rfl, by decide +kernel, rfl, by decide +kernel, by decide +kernel⟩
theorem b_law_class {K : PySem.W.Frag} {mg : Str → Option Value} (T : Tx K mg) : Binds K (fdOf K (He.fAd K d_law_class.at_)) ["_law_bag_here", "_law_plain", "_law_name", "_law_methods_here"] [] := (F_law_class T).bindsN fun _ _ _ _ _ _ us hl => match us, hl with | [_, _, _, _], _ => rfl
/-- 0 _law_plain, 1 _law_name, 2 _law_other -/
theorem sc_law_admits : FnScope ["_law_plain", "_law_name", "_law_other"] ["_law_plain", "_law_name", "_law_other"] (defScope s_law_admits) := ⟨rfl, rfl, rfl, by decide +kernel, rfl, by decide +kernel, by decide +kernel⟩
theorem b_law_admits {K : PySem.W.Frag} {mg : Str → Option Value} (T : Tx K mg) : Binds K (fdOf K (He.fAd K d_law_admits.at_)) ["_law_plain", "_law_name", "_law_other"] [] := (F_law_admits T).bindsN fun _ _ _ _ _ _ us hl => match us, hl with | [_, _, _], _ => rfl
/-- 0 _law_plain, 1 _law_name, 2 _law_other -/
theorem sc_law_admit : FnScope ["_law_plain", "_law_name", "_law_other"] ["_law_plain", "_law_name", "_law_other"] (defScope s_law_admit) := ⟨rfl, rfl, rfl, by decide +kernel, rfl, by decide +kernel, by decide +kernel⟩
theorem b_law_admit {K : PySem.W.Frag} {mg : Str → Option Value} (T : Tx K mg) : Binds K (fdOf K (He.fAd K d_law_admit.at_)) ["_law_plain", "_law_name", "_law_other"] [] := (F_law_admit T).bindsN fun _ _ _ _ _ _ us hl => match us, hl with | [_, _, _], _ => rfl
/-- 0 _law_bag_here, 1 _law_plain, 2 _law_turns, 3 _law_turn, 4 _law_name, 5 _law_other -/
theorem sc_law_some_admitted : FnScope ["_law_bag_here", "_law_plain", "_law_turns", "_law_turn", "_law_name", "_law_other"] ["_law_bag_here", "_law_plain", "_law_turns"] (defScope s_law_some_admitted) := ⟨rfl, rfl, rfl, by decide +kernel, rfl, by decide +kernel, by decide +kernel⟩
theorem b_law_some_admitted {K : PySem.W.Frag} {mg : Str → Option Value} (T : Tx K mg) : Binds K (fdOf K (He.fAd K d_law_some_admitted.at_)) ["_law_bag_here", "_law_plain", "_law_turns"] [] := (F_law_some_admitted T).bindsN fun _ _ _ _ _ _ us hl => match us, hl with | [_, _, _], _ => rfl
/-- 0 _law_bag_here, 1 _law_most, 2 _law_plain, 3 _law_methods_here, 4 _law_names, 5 _law_name -/
theorem sc_law_drawn : FnScope ["_law_bag_here", "_law_most", "_law_plain", "_law_methods_here", "_law_names", "_law_name"] ["_law_bag_here", "_law_most"] (defScope s_law_drawn) := ⟨rfl, rfl, rfl, by decide +kernel, rfl, by decide +kernel, by decide +kernel⟩
theorem b_law_drawn {K : PySem.W.Frag} {mg : Str → Option Value} (T : Tx K mg) : Binds K (fdOf K (He.fAd K d_law_drawn.at_)) ["_law_bag_here", "_law_most"] [] := (F_law_drawn T).bindsN fun _ _ _ _ _ _ us hl => match us, hl with | [_, _], _ => rfl
/-- 0 _law_world, 1 _law_plain, 2 _law_name, 3 _law_oath, 4 _law_signs, 5 _law_told, 6 _law_rule, 7 _law_goes_down, 8 _law_some -/
theorem sc_law_made_in : FnScope ["_law_world", "_law_plain", "_law_name", "_law_oath", "_law_signs", "_law_told", "_law_rule", "_law_goes_down", "_law_some"] ["_law_world", "_law_plain", "_law_name"] (defScope s_law_made_in) := ⟨rfl, rfl, rfl, by decide +kernel, rfl, by decide +kernel, by decide +kernel⟩
theorem b_law_made_in {K : PySem.W.Frag} {mg : Str → Option Value} (T : Tx K mg) : Binds K (fdOf K (He.fAd K d_law_made_in.at_)) ["_law_world", "_law_plain", "_law_name"] [] := (F_law_made_in T).bindsN fun _ _ _ _ _ _ us hl => match us, hl with | [_, _, _], _ => rfl
/-- 0 _law_plain, 1 _law_world, 2 _law_name, 3 _law_other -/
theorem sc_law_made : FnScope ["_law_plain", "_law_world", "_law_name", "_law_other"] ["_law_plain"] (defScope s_law_made) := ⟨rfl, rfl, rfl, by decide +kernel, rfl, by decide +kernel, by decide +kernel⟩
theorem b_law_made {K : PySem.W.Frag} {mg : Str → Option Value} (T : Tx K mg) : Binds K (fdOf K (He.fAd K d_law_made.at_)) ["_law_plain"] [] := (F_law_made T).bindsN fun _ _ _ _ _ _ us hl => match us, hl with | [_], _ => rfl
/-- 0 _law_plain, 1 _law_found, 2 _law_name, 3 _law_wanted, 4 _law_answer -/
theorem sc_law_methods : FnScope ["_law_plain", "_law_found", "_law_name", "_law_wanted", "_law_answer"] ["_law_plain"] (defScope s_law_methods) := ⟨rfl, rfl, rfl, by decide +kernel, rfl, by decide +kernel, by decide +kernel⟩
theorem b_law_methods {K : PySem.W.Frag} {mg : Str → Option Value} (T : Tx K mg) : Binds K (fdOf K (He.fAd K d_law_methods.at_)) ["_law_plain"] [] := (F_law_methods T).bindsN fun _ _ _ _ _ _ us hl => match us, hl with | [_], _ => rfl
/-- 0 _law_plain, 1 _law_found, 2 _law_method, 3 _law_one -/
theorem sc_law_patterns : FnScope ["_law_plain", "_law_found", "_law_method", "_law_one"] ["_law_plain"] (defScope s_law_patterns) := ⟨rfl, rfl, rfl, by decide +kernel, rfl, by decide +kernel, by decide +kernel⟩
theorem b_law_patterns {K : PySem.W.Frag} {mg : Str → Option Value} (T : Tx K mg) : Binds K (fdOf K (He.fAd K d_law_patterns.at_)) ["_law_plain"] [] := (F_law_patterns T).bindsN fun _ _ _ _ _ _ us hl => match us, hl with | [_], _ => rfl
/-- 0 _law_plain, 1 _law_some, 2 _law_found, 3 _law_name, 4 _law_other -/
theorem sc_law_two_classes : FnScope ["_law_plain", "_law_some", "_law_found", "_law_name", "_law_other"] ["_law_plain"] (defScope s_law_two_classes) := ⟨rfl, rfl, rfl, by decide +kernel, rfl, by decide +kernel, by decide +kernel⟩
theorem b_law_two_classes {K : PySem.W.Frag} {mg : Str → Option Value} (T : Tx K mg) : Binds K (fdOf K (He.fAd K d_law_two_classes.at_)) ["_law_plain"] [] := (F_law_two_classes T).bindsN fun _ _ _ _ _ _ us hl => match us, hl with | [_], _ => rfl
/-- 0 _law_plain, 1 _law_name, 2 _law_part, 3 _law_other -/
theorem sc_law_drop : FnScope ["_law_plain", "_law_name", "_law_part", "_law_other"] ["_law_plain", "_law_name"] (defScope s_law_drop) := ⟨rfl, rfl, rfl, by decide +kernel, rfl, by decide +kernel, by decide +kernel⟩
theorem b_law_drop {K : PySem.W.Frag} {mg : Str → Option Value} (T : Tx K mg) : Binds K (fdOf K (He.fAd K d_law_drop.at_)) ["_law_plain", "_law_name"] [] := (F_law_drop T).bindsN fun _ _ _ _ _ _ us hl => match us, hl with | [_, _], _ => rfl
/-- 0 _law_world, 1 _law_plain, 2 _law_some, 3 _law_found, 4 _law_name, 5 _law_other, 6 _law_one -/
theorem sc_law_outcomes : FnScope ["_law_world", "_law_plain", "_law_some", "_law_found", "_law_name", "_law_other", "_law_one"] ["_law_world", "_law_plain", "_law_some"] (defScope s_law_outcomes) := ⟨rfl, rfl, rfl, by decide +kernel, rfl, by decide +kernel, by decide +kernel⟩
theorem b_law_outcomes {K : PySem.W.Frag} {mg : Str → Option Value} (T : Tx K mg) : Binds K (fdOf K (He.fAd K d_law_outcomes.at_)) ["_law_world", "_law_plain", "_law_some"] [] := (F_law_outcomes T).bindsN fun _ _ _ _ _ _ us hl => match us, hl with | [_, _, _], _ => rfl
/-- 0 _law_plain, 1 _law_used, 2 _law_name -/
theorem sc_law_lowest : FnScope ["_law_plain", "_law_used", "_law_name"] ["_law_plain"] (defScope s_law_lowest) := ⟨rfl, rfl, rfl, by decide +kernel, rfl, by decide +kernel, by decide +kernel⟩
theorem b_law_lowest {K : PySem.W.Frag} {mg : Str → Option Value} (T : Tx K mg) : Binds K (fdOf K (He.fAd K d_law_lowest.at_)) ["_law_plain"] [] := (F_law_lowest T).bindsN fun _ _ _ _ _ _ us hl => match us, hl with | [_], _ => rfl
/-- 0 _law_script, 1 _law_at, 2 _law_bag_here, 3 _law_turn, 4 _law_plain, 5 _law_world, 6 _law_some, 7 _law_left, 8 _law_core, 9 _law_before, 10 _law_gone, 11 _law_pair, 12 _law_row -/
theorem sc_law : FnScope ["_law_script", "_law_at", "_law_bag_here", "_law_turn", "_law_plain", "_law_world", "_law_some", "_law_left", "_law_core", "_law_before", "_law_gone", "_law_pair", "_law_row"] ["_law_script"] (defScope s_law) := ⟨rfl, rfl, rfl, by decide +kernel, rfl, by decide +kernel, by decide +kernel⟩
theorem b_law {K : PySem.W.Frag} {mg : Str → Option Value} (T : Tx K mg) : Binds K (fdOf K (He.fAd K d_law.at_)) ["_law_script"] [] := (F_law T).bindsN fun _ _ _ _ _ _ us hl => match us, hl with | [_], _ => rfl
/-- 0 self, 1 name, 2 bases, 3 own_sworn, 4 marks, 5 hook, 6 passed, 7 order -/
theorem sc_Entry_init : FnScope ["self", "name", "bases", "own_sworn", "marks", "hook", "passed", "order"] ["self", "name", "bases", "own_sworn", "marks", "hook", "passed", "order"] (defScope s_Entry_init) := ⟨rfl, rfl, rfl, by decide +kernel, rfl, by decide +kernel, by decide +kernel⟩
theorem b_Entry_init {K : PySem.W.Frag} {mg : Str → Option Value} (T : Tx K mg) : Binds K (fdOf K (He.fAd K d_Entry_init.at_)) ["self", "name", "bases", "own_sworn", "marks", "hook", "passed", "order"] [] := (F_Entry_init T).bindsN fun _ _ _ _ _ _ us hl => match us, hl with | [_, _, _, _, _, _, _, _], _ => rfl
/-- 0 self -/
theorem sc_Cache_init : FnScope ["self"] ["self"] (defScope s_Cache_init) := ⟨rfl, rfl, rfl, by decide +kernel, rfl, by decide +kernel, by decide +kernel⟩
theorem b_Cache_init {K : PySem.W.Frag} {mg : Str → Option Value} (T : Tx K mg) : Binds K (fdOf K (He.fAd K d_Cache_init.at_)) ["self"] [] := (F_Cache_init T).bindsN fun _ _ _ _ _ _ us hl => match us, hl with | [_], _ => rfl
/-- 0 self, 1 table, 2 fresh, 3 name, 4 answers, 5 here, 6 one -/
theorem sc_Cache_refresh : FnScope ["self", "table", "fresh", "name", "answers", "here", "one"] ["self", "table"] (defScope s_Cache_refresh) := ⟨rfl, rfl, rfl, by decide +kernel, rfl, by decide +kernel, by decide +kernel⟩
theorem b_Cache_refresh {K : PySem.W.Frag} {mg : Str → Option Value} (T : Tx K mg) : Binds K (fdOf K (He.fAd K d_Cache_refresh.at_)) ["self", "table"] [] := (F_Cache_refresh T).bindsN fun _ _ _ _ _ _ us hl => match us, hl with | [_, _], _ => rfl
/-- 0 self -/
theorem sc_Table_init : FnScope ["self"] ["self"] (defScope s_Table_init) := ⟨rfl, rfl, rfl, by decide +kernel, rfl, by decide +kernel, by decide +kernel⟩
theorem b_Table_init {K : PySem.W.Frag} {mg : Str → Option Value} (T : Tx K mg) : Binds K (fdOf K (He.fAd K d_Table_init.at_)) ["self"] [] := (F_Table_init T).bindsN fun _ _ _ _ _ _ us hl => match us, hl with | [_], _ => rfl
/-- 0 self, 1 found, 2 name, 3 others -/
theorem sc_Table_copied : FnScope ["self", "found", "name", "others"] ["self"] (defScope s_Table_copied) := ⟨rfl, rfl, rfl, by decide +kernel, rfl, by decide +kernel, by decide +kernel⟩
theorem b_Table_copied {K : PySem.W.Frag} {mg : Str → Option Value} (T : Tx K mg) : Binds K (fdOf K (He.fAd K d_Table_copied.at_)) ["self"] [] := (F_Table_copied T).bindsN fun _ _ _ _ _ _ us hl => match us, hl with | [_], _ => rfl
/-- 0 self, 1 name -/
theorem sc_Table_has : FnScope ["self", "name"] ["self", "name"] (defScope s_Table_has) := ⟨rfl, rfl, rfl, by decide +kernel, rfl, by decide +kernel, by decide +kernel⟩
theorem b_Table_has {K : PySem.W.Frag} {mg : Str → Option Value} (T : Tx K mg) : Binds K (fdOf K (He.fAd K d_Table_has.at_)) ["self", "name"] [] := (F_Table_has T).bindsN fun _ _ _ _ _ _ us hl => match us, hl with | [_, _], _ => rfl
/-- 0 self, 1 entry -/
theorem sc_Table_add_class : FnScope ["self", "entry"] ["self", "entry"] (defScope s_Table_add_class) := ⟨rfl, rfl, rfl, by decide +kernel, rfl, by decide +kernel, by decide +kernel⟩
theorem b_Table_add_class {K : PySem.W.Frag} {mg : Str → Option Value} (T : Tx K mg) : Binds K (fdOf K (He.fAd K d_Table_add_class.at_)) ["self", "entry"] [] := (F_Table_add_class T).bindsN fun _ _ _ _ _ _ us hl => match us, hl with | [_, _], _ => rfl
/-- 0 self, 1 name, 2 others -/
theorem sc_Table_remove_class : FnScope ["self", "name", "others"] ["self", "name"] (defScope s_Table_remove_class) := ⟨rfl, rfl, rfl, by decide +kernel, rfl, by decide +kernel, by decide +kernel⟩
theorem b_Table_remove_class {K : PySem.W.Frag} {mg : Str → Option Value} (T : Tx K mg) : Binds K (fdOf K (He.fAd K d_Table_remove_class.at_)) ["self", "name"] [] := (F_Table_remove_class T).bindsN fun _ _ _ _ _ _ us hl => match us, hl with | [_, _], _ => rfl
/-- 0 self, 1 name, 2 other -/
theorem sc_Table_add_registration : FnScope ["self", "name", "other"] ["self", "name", "other"] (defScope s_Table_add_registration) := ⟨rfl, rfl, rfl, by decide +kernel, rfl, by decide +kernel, by decide +kernel⟩
theorem b_Table_add_registration {K : PySem.W.Frag} {mg : Str → Option Value} (T : Tx K mg) : Binds K (fdOf K (He.fAd K d_Table_add_registration.at_)) ["self", "name", "other"] [] := (F_Table_add_registration T).bindsN fun _ _ _ _ _ _ us hl => match us, hl with | [_, _, _], _ => rfl
/-- 0 self, 1 name, 2 other -/
theorem sc_Table_remove_registration : FnScope ["self", "name", "other"] ["self", "name", "other"] (defScope s_Table_remove_registration) := ⟨rfl, rfl, rfl, by decide +kernel, rfl, by decide +kernel, by decide +kernel⟩
theorem b_Table_remove_registration {K : PySem.W.Frag} {mg : Str → Option Value} (T : Tx K mg) : Binds K (fdOf K (He.fAd K d_Table_remove_registration.at_)) ["self", "name", "other"] [] := (F_Table_remove_registration T).bindsN fun _ _ _ _ _ _ us hl => match us, hl with | [_, _, _], _ => rfl
/-- 0 self, 1 name, 2 others, 3 other -/
theorem sc_Table_registrations : FnScope ["self", "name", "others", "other"] ["self"] (defScope s_Table_registrations) := ⟨rfl, rfl, rfl, by decide +kernel, rfl, by decide +kernel, by decide +kernel⟩
theorem b_Table_registrations {K : PySem.W.Frag} {mg : Str → Option Value} (T : Tx K mg) : Binds K (fdOf K (He.fAd K d_Table_registrations.at_)) ["self"] [] := (F_Table_registrations T).bindsN fun _ _ _ _ _ _ us hl => match us, hl with | [_], _ => rfl
/-- 0 self, 1 name, 2 other -/
theorem sc_Table_is_above : FnScope ["self", "name", "other"] ["self", "name", "other"] (defScope s_Table_is_above) := ⟨rfl, rfl, rfl, by decide +kernel, rfl, by decide +kernel, by decide +kernel⟩
theorem b_Table_is_above {K : PySem.W.Frag} {mg : Str → Option Value} (T : Tx K mg) : Binds K (fdOf K (He.fAd K d_Table_is_above.at_)) ["self", "name", "other"] [] := (F_Table_is_above T).bindsN fun _ _ _ _ _ _ us hl => match us, hl with | [_, _, _], _ => rfl
/-- 0 self, 1 name -/
theorem sc_Table_sworn : FnScope ["self", "name"] ["self", "name"] (defScope s_Table_sworn) := ⟨rfl, rfl, rfl, by decide +kernel, rfl, by decide +kernel, by decide +kernel⟩
theorem b_Table_sworn {K : PySem.W.Frag} {mg : Str → Option Value} (T : Tx K mg) : Binds K (fdOf K (He.fAd K d_Table_sworn.at_)) ["self", "name"] [] := (F_Table_sworn T).bindsN fun _ _ _ _ _ _ us hl => match us, hl with | [_, _], _ => rfl
/-- 0 self, 1 name -/
theorem sc_Table_below : FnScope ["self", "name"] ["self", "name"] (defScope s_Table_below) := ⟨rfl, rfl, rfl, by decide +kernel, rfl, by decide +kernel, by decide +kernel⟩
theorem b_Table_below {K : PySem.W.Frag} {mg : Str → Option Value} (T : Tx K mg) : Binds K (fdOf K (He.fAd K d_Table_below.at_)) ["self", "name"] [] := (F_Table_below T).bindsN fun _ _ _ _ _ _ us hl => match us, hl with | [_, _], _ => rfl
/-- 0 self, 1 name, 2 listed, 3 other -/
theorem sc_Table_next_of : FnScope ["self", "name", "listed", "other"] ["self", "name"] (defScope s_Table_next_of) := ⟨rfl, rfl, rfl, by decide +kernel, rfl, by decide +kernel, by decide +kernel⟩
theorem b_Table_next_of {K : PySem.W.Frag} {mg : Str → Option Value} (T : Tx K mg) : Binds K (fdOf K (He.fAd K d_Table_next_of.at_)) ["self", "name"] [] := (F_Table_next_of T).bindsN fun _ _ _ _ _ _ us hl => match us, hl with | [_, _], _ => rfl
/-- 0 self, 1 name, 2 methods -/
theorem sc_Table_answer_for : FnScope ["self", "name", "methods"] ["self", "name", "methods"] (defScope s_Table_answer_for) := ⟨rfl, rfl, rfl, by decide +kernel, rfl, by decide +kernel, by decide +kernel⟩
theorem b_Table_answer_for {K : PySem.W.Frag} {mg : Str → Option Value} (T : Tx K mg) : Binds K (fdOf K (He.fAd K d_Table_answer_for.at_)) ["self", "name", "methods"] [] := (F_Table_answer_for T).bindsN fun _ _ _ _ _ _ us hl => match us, hl with | [_, _, _], _ => rfl
/-- 0 self, 1 name, 2 other, 3 roads, 4 seen, 5 longer, 6 road, 7 further -/
theorem sc_Table_shortest_road : FnScope ["self", "name", "other", "roads", "seen", "longer", "road", "further"] ["self", "name", "other"] (defScope s_Table_shortest_road) := ⟨rfl, rfl, rfl, by decide +kernel, rfl, by decide +kernel, by decide +kernel⟩
theorem b_Table_shortest_road {K : PySem.W.Frag} {mg : Str → Option Value} (T : Tx K mg) : Binds K (fdOf K (He.fAd K d_Table_shortest_road.at_)) ["self", "name", "other"] [] := (F_Table_shortest_road T).bindsN fun _ _ _ _ _ _ us hl => match us, hl with | [_, _, _], _ => rfl
/-- 0 self, 1 name, 2 other, 3 road -/
theorem sc_Table_ring_by : FnScope ["self", "name", "other", "road"] ["self", "name", "other"] (defScope s_Table_ring_by) := ⟨rfl, rfl, rfl, by decide +kernel, rfl, by decide +kernel, by decide +kernel⟩
theorem b_Table_ring_by {K : PySem.W.Frag} {mg : Str → Option Value} (T : Tx K mg) : Binds K (fdOf K (He.fAd K d_Table_ring_by.at_)) ["self", "name", "other"] [] := (F_Table_ring_by T).bindsN fun _ _ _ _ _ _ us hl => match us, hl with | [_, _, _], _ => rfl
/-- 0 self -/
theorem sc_World_init : FnScope ["self"] ["self"] (defScope s_World_init) := ⟨rfl, rfl, rfl, by decide +kernel, rfl, by decide +kernel, by decide +kernel⟩
theorem b_World_init {K : PySem.W.Frag} {mg : Str → Option Value} (T : Tx K mg) : Binds K (fdOf K (He.fAd K d_World_init.at_)) ["self"] [] := (F_World_init T).bindsN fun _ _ _ _ _ _ us hl => match us, hl with | [_], _ => rfl
/-- 0 self, 1 names, 2 name -/
theorem sc_World_look : FnScope ["self", "names", "name"] ["self", "names"] (defScope s_World_look) := ⟨rfl, rfl, rfl, by decide +kernel, rfl, by decide +kernel, by decide +kernel⟩
/-- 0 self, 1 kept -/
theorem sc_World_refresh : FnScope ["self", "kept"] ["self"] (defScope s_World_refresh) := ⟨rfl, rfl, rfl, by decide +kernel, rfl, by decide +kernel, by decide +kernel⟩
theorem b_World_refresh {K : PySem.W.Frag} {mg : Str → Option Value} (T : Tx K mg) : Binds K (fdOf K (He.fAd K d_World_refresh.at_)) ["self"] [] := (F_World_refresh T).bindsN fun _ _ _ _ _ _ us hl => match us, hl with | [_], _ => rfl
/-- 0 self, 1 cls, 2 other, 3 ring -/
theorem sc_World_look_registration : FnScope ["self", "cls", "other", "ring"] ["self", "cls", "other"] (defScope s_World_look_registration) := ⟨rfl, rfl, rfl, by decide +kernel, rfl, by decide +kernel, by decide +kernel⟩
theorem b_World_look_registration {K : PySem.W.Frag} {mg : Str → Option Value} (T : Tx K mg) : Binds K (fdOf K (He.fAd K d_World_look_registration.at_)) ["self", "cls", "other"] [] := (F_World_look_registration T).bindsN fun _ _ _ _ _ _ us hl => match us, hl with | [_, _, _], _ => rfl
/-- 0 self, 1 cls, 2 other -/
theorem sc_World_admit : FnScope ["self", "cls", "other"] ["self", "cls", "other"] (defScope s_World_admit) := ⟨rfl, rfl, rfl, by decide +kernel, rfl, by decide +kernel, by decide +kernel⟩
theorem b_World_admit {K : PySem.W.Frag} {mg : Str → Option Value} (T : Tx K mg) : Binds K (fdOf K (He.fAd K d_World_admit.at_)) ["self", "cls", "other"] [] := (F_World_admit T).bindsN fun _ _ _ _ _ _ us hl => match us, hl with | [_, _, _], _ => rfl
/-- 0 self, 1 cls, 2 kept -/
theorem sc_World_drop : FnScope ["self", "cls", "kept"] ["self", "cls"] (defScope s_World_drop) := ⟨rfl, rfl, rfl, by decide +kernel, rfl, by decide +kernel, by decide +kernel⟩
theorem b_World_drop {K : PySem.W.Frag} {mg : Str → Option Value} (T : Tx K mg) : Binds K (fdOf K (He.fAd K d_World_drop.at_)) ["self", "cls"] [] := (F_World_drop T).bindsN fun _ _ _ _ _ _ us hl => match us, hl with | [_, _], _ => rfl
end ST
set_option maxHeartbeats 4000000
namespace ST
open PySem PySem.Spec PyProof.Rows L2
/-- the tables of the two defs that make a lambda -/
def Tbs (K : PySem.W.Frag) : List (Addr × Str) := [((He.cT K ("led_to", none)).2, "led_to.<locals>.<lambda>"), ((He.cT K ("has_road", none)).2, "has_road.<locals>.<lambda>")]
/-- no table -/
def NT (o : HO) : Prop := ∀ ps, o ≠ .tbl ps
/-- something stands there, no table -/
def Al (H : Hp) (b : Addr) : Prop := ∃ o, H b = some o ∧ NT o
def IsT (o : HO) : Prop := ∃ xs, o = .tup xs
/-- what a store may change -/
def MK : HO → Prop
  | .lst _ => True
  | .dK _ => True
  | .ins _ _ _ => True
  | _ => False
theorem MK.nt {o : HO} (h : MK o) : NT o := fun ps e => by subst e; exact h
theorem MK.not {o : HO} (h : MK o) : ¬ IsT o := fun ⟨xs, e⟩ => by subst e; exact h
theorem nt_lst (xs : List V) : NT (.lst xs) := fun _ e => by cases e
theorem nt_tup (xs : List V) : NT (.tup xs) := fun _ e => by cases e
theorem nt_dK (xs : List (Key × V)) : NT (.dK xs) := fun _ e => by cases e
theorem nt_ins (C d : Addr) (fs : List (Str × V)) : NT (.ins C d fs) := fun _ e => by cases e
theorem nt_own (x : Addr) : NT (.own x) := fun _ e => by cases e
theorem nt_frz (o : Obj) (u : HO) : NT (.frz o u) := fun _ e => by cases e
/-- all but what is in S is as it was; tuples always -/
structure Frm (K : PySem.W.Frag) (S : Addr → Prop) (H H' : Hp) : Prop where
  keep : ∀ b o, H b = some o → NT o → (S b → IsT o) → H' b = some o
  al : ∀ b, Al H b → Al H' b
  tabs : LamX.Tabs (Tbs K) H → LamX.Tabs (Tbs K) H'
abbrev Ext (K : PySem.W.Frag) : Hp → Hp → Prop := Frm K (fun _ => False)
section
variable {K : PySem.W.Frag} {S S' : Addr → Prop} {H H1 H2 : Hp} {p : Addr} {o o0 : HO}
theorem Frm.refl : Frm K S H H := ⟨fun _ _ h _ _ => h, fun _ h => h, fun h => h⟩
theorem Frm.trans (a : Frm K S H H1) (b : Frm K S H1 H2) : Frm K S H H2 := ⟨fun c o h n t => b.keep c o (a.keep c o h n t) n t, fun c h => b.al c (a.al c h), fun h => b.tabs (a.tabs h)⟩
theorem Frm.mono (a : Frm K S H H1) (h : ∀ b, S b → S' b) : Frm K S' H H1 := ⟨fun c o e n t => a.keep c o e n fun z => t (h c z), a.al, a.tabs⟩
theorem Frm.of (a : Ext K H H1) : Frm K S H H1 := a.mono fun _ z => z.elim
theorem al_upd {b : Addr} (n : NT o) (h : Al H b) : Al (upd H p o) b := by
  by_cases e : b = p
  · exact ⟨o, by rw [e, upd_same], n⟩
  · obtain ⟨u, h1, h2⟩ := h
    exact ⟨u, by rw [upd_ne e]; exact h1, h2⟩
theorem tabs_new (h : H p = none) {T : List (Addr × Str)} (t : LamX.Tabs T H) : LamX.Tabs T (upd H p o) := t.ext fun b u e => by rw [upd_ne (ne_of_none e h)]; exact e
theorem tabs_mut (h : H p = some o0) (m : MK o0) {T : List (Addr × Str)} (t : LamX.Tabs T H) : LamX.Tabs T (upd H p o) := fun q hq => by
  obtain ⟨ps, h1, h2, h3⟩ := t q hq
  have n1 : q.1 ≠ p := fun e => by
    rw [e, h] at h1
    cases h1
    exact m
  refine ⟨ps, by rw [upd_ne n1]; exact h1, h2, fun pos cv hc => ?_⟩
  obtain ⟨c, e1, e2⟩ := h3 pos cv hc
  refine ⟨c, e1, ?_⟩
  rw [upd_ne (fun e => ?_)]
  · exact e2
  · rw [e, h] at e2
    cases e2
    exact m
/-- a change of what is no table, no code object -/
theorem tabs_mut2 (h : H p = some o0) (m1 : NT o0) (m2 : ∀ f, o0 ≠ .ext f) {T : List (Addr × Str)} (t : LamX.Tabs T H) : LamX.Tabs T (upd H p o) := fun q hq => by
  obtain ⟨ps, h1, h2, h3⟩ := t q hq
  have n1 : q.1 ≠ p := fun e => by
    rw [e, h] at h1
    exact m1 ps (Option.some.inj h1)
  refine ⟨ps, by rw [upd_ne n1]; exact h1, h2, fun pos cv hc => ?_⟩
  obtain ⟨c, e1, e2⟩ := h3 pos cv hc
  refine ⟨c, e1, ?_⟩
  rw [upd_ne (fun e => ?_)]
  · exact e2
  · rw [e, h] at e2
    exact m2 _ (Option.some.inj e2)
theorem Frm.new (h : H p = none) (n : NT o) : Frm K S H (upd H p o) := ⟨fun b u e _ _ => by rw [upd_ne (ne_of_none e h)]; exact e, fun b hb => al_upd n hb, tabs_new h⟩
theorem Frm.mut (h : H p = some o0) (m : MK o0) (s : S p) (n : NT o) : Frm K S H (upd H p o) := by
  refine ⟨fun b u e _ t => ?_, fun b hb => al_upd n hb, tabs_mut h m⟩
  by_cases z : b = p
  · rw [z, h] at e
    cases e
    rw [z] at t
    exact (m.not (t s)).elim
  · rw [upd_ne z]
    exact e
/-- a change of what is new since H -/
theorem Frm.mutNew (a : Frm K S H H1) (f : ¬ Al H p) (h : H1 p = some o0) (m : MK o0) (n : NT o) : Frm K S H (upd H1 p o) := by
  refine ⟨fun b u e nu t => ?_, fun b hb => al_upd n (a.al b hb), fun t => tabs_mut h m (a.tabs t)⟩
  by_cases z : b = p
  · rw [z] at e
    exact (f ⟨u, e, nu⟩).elim
  · rw [upd_ne z]
    exact a.keep b u e nu t
/-- a lock: what stands at p is read only -/
theorem Frm.lock (h : H p = some o0) (m : MK o0) {od : Obj} : Frm K (fun b => b = p) H (upd H p (.frz od o0)) := .mut h m rfl (nt_frz _ _)
theorem ext_unlock (h : H p = some o0) (m : MK o0) {od : Obj} (e : Ext K (upd H p (.frz od o0)) H1) (h1 : H1 p = some (.frz od o0)) : Ext K H (upd H1 p o0) := by
  refine ⟨fun b u eb nu _ => ?_, fun b hb => al_upd m.nt (e.al b (al_upd (nt_frz _ _) hb)), fun t => tabs_mut2 h1 (nt_frz _ _) (fun f z => by cases z) (e.tabs (tabs_mut h m t))⟩
  by_cases z : b = p
  · rw [z, upd_same, ← h, ← eb, z]
  · rw [upd_ne z]
    exact e.keep b u (by rw [upd_ne z]; exact eb) nu fun q => q.elim
theorem fresh_of (a : Frm K S H H1) (h : H1 p = none) : ¬ Al H p := fun z => by
  obtain ⟨o, e, _⟩ := a.al p z
  rw [h] at e
  cases e
theorem fresh_none (h : H p = none) : ¬ Al H p := fun ⟨o, e, _⟩ => by
  rw [h] at e
  cases e
theorem fresh_back (a : Frm K S H H1) (h : ¬ Al H1 p) : ¬ Al H p := fun z => h (a.al p z)
theorem al_of (h : H p = some o) (n : NT o) : Al H p := ⟨o, h, n⟩
theorem ne_fresh {q : Addr} (h : Al H q) (f : ¬ Al H p) : q ≠ p := fun e => f (e ▸ h)
theorem Frm.lst (a : Frm K S H H1) {xs : List V} (h : H p = some (.lst xs)) (s : ¬ S p) : H1 p = some (.lst xs) := a.keep _ _ h (nt_lst _) fun z => (s z).elim
theorem Frm.tup (a : Frm K S H H1) {xs : List V} (h : H p = some (.tup xs)) : H1 p = some (.tup xs) := a.keep _ _ h (nt_tup _) fun _ => ⟨_, rfl⟩
theorem Frm.dK (a : Frm K S H H1) {xs : List (Key × V)} (h : H p = some (.dK xs)) (s : ¬ S p) : H1 p = some (.dK xs) := a.keep _ _ h (nt_dK _) fun z => (s z).elim
theorem Frm.ins (a : Frm K S H H1) {C d : Addr} {fs : List (Str × V)} (h : H p = some (.ins C d fs)) (s : ¬ S p) : H1 p = some (.ins C d fs) := a.keep _ _ h (nt_ins _ _ _) fun z => (s z).elim
theorem Frm.at (a : Ext K H H1) (h : H p = some o) (n : NT o) : H1 p = some o := a.keep _ _ h n fun z => z.elim
theorem ext_rd (a : Ext K H H1) {u : HO} (n : NT u) (h : Rd H p u) : Rd H1 p u := h.elim (fun z => .inl (a.at z n)) fun ⟨o, z⟩ => .inr ⟨o, a.at z (nt_frz _ _)⟩
theorem ext_l (a : Ext K H H1) {K' : PySem.W.Frag} {xs : List V} (h : SqL K' H p xs) : SqL K' H1 p xs := h.elim (fun z => .inl (ext_rd a (nt_lst _) z)) .inr
theorem ext_t (a : Ext K H H1) {K' : PySem.W.Frag} {xs : List V} (h : SqT K' H p xs) : SqT K' H1 p xs := h.elim (fun z => .inl (ext_rd a (nt_tup _) z)) .inr
mutual
theorem ext_dp (a : Ext K H H1) {K' : PySem.W.Frag} : ∀ {v : V} {d : PyData}, Dp K' H v d → Dp K' H1 v d
  | _, _, .non => .non
  | _, _, .bl b => .bl b
  | _, _, .int i => .int i
  | _, _, .str x => .str x
  | _, _, .lst h r => .lst (ext_l a h) (ext_dps a r)
  | _, _, .tup h r => .tup (ext_t a h) (ext_dps a r)
theorem ext_dps (a : Ext K H H1) {K' : PySem.W.Frag} : ∀ {vs : List V} {ds : List PyData}, DpAll K' H vs ds → DpAll K' H1 vs ds
  | _, _, .nil => .nil
  | _, _, .cons h r => .cons (ext_dp a h) (ext_dps a r)
end
end
abbrev strL (xs : List Str) : List V := xs.map V.str
def RetV (K : PySem.W.Frag) (v : V) (H : Hp) (Q : VK) : Prop := ∀ H', Ext K H H' → Q v H'
def RetL (K : PySem.W.Frag) (xs : List V) (H : Hp) (Q : VK) : Prop := ∀ p H', Ext K H H' → ¬ Al H p → H' p = some (.lst xs) → Q (.ref p) H'
def RetT (K : PySem.W.Frag) (xs : List V) (H : Hp) (Q : VK) : Prop := ∀ p H', Ext K H H' → H' p = some (.tup xs) → Q (.ref p) H'
def RetD (K : PySem.W.Frag) (d : PyData) (H : Hp) (Q : VK) : Prop := ∀ v H', Ext K H H' → Dp K H' v d → Q v H'
section
variable {K : PySem.W.Frag} {H H1 H2 : Hp} {Q : VK} {v : V} {xs : List V} {d : PyData}
theorem RetV.go (k : RetV K v H Q) (e : Ext K H H1) : Q v H1 := k H1 e
theorem RetL.go (k : RetL K xs H Q) {p : Addr} (e : Ext K H H1) (f : ¬ Al H p) (h : H1 p = some (.lst xs)) : Q (.ref p) H1 := k p H1 e f h
/-- a new list, just laid -/
theorem RetL.new (k : RetL K xs H Q) {p : Addr} (e : Ext K H H1) (h : H1 p = none) : Q (.ref p) (upd H1 p (.lst xs)) := k p _ (e.trans (.new h (nt_lst _))) (fresh_of e h) upd_same
end
theorem drop_cons {α : Type} {xs : List α} {i : Nat} {m : α} (h : xs[i]? = some m) : xs.drop i = m :: xs.drop (i + 1) := by
  obtain ⟨hi, e⟩ := List.getElem?_eq_some_iff.mp h
  rw [List.drop_eq_getElem_cons hi, e]
theorem filterMap_step {β : Type} (F : Nat → Option β) (i : Nat) : (List.range (i + 1)).filterMap F = (List.range i).filterMap F ++ (F i).toList := by
  rw [List.range_succ, List.filterMap_append]
  cases h : F i <;> simp [h]
theorem range_bind {α β : Type} (xs : List α) (f : α → Option β) : (List.range xs.length).filterMap (fun i => (xs[i]?).bind f) = xs.filterMap f := by
  have key : ∀ n, n ≤ xs.length → (List.range n).filterMap (fun i => (xs[i]?).bind f) = (xs.take n).filterMap f := by
    intro n
    induction n with
    | zero => intro _; simp
    | succ n ih =>
      intro hn
      have hlt : n < xs.length := hn
      rw [filterMap_step, ih (Nat.le_of_lt hlt), List.take_succ, List.filterMap_append]
      congr 1
      rw [List.getElem?_eq_getElem hlt]
      cases h : f xs[n] <;> simp [h]
  rw [key xs.length (Nat.le_refl _), List.take_length]
theorem paired_snoc {α β : Type} {F : α → β → Prop} : ∀ {xs : List α} {ys : List β} {x : α} {y : β}, Paired F xs ys → F x y → Paired F (xs ++ [x]) (ys ++ [y])
  | [], _, _, _, .nil, h => .cons h .nil
  | _ :: _, _, _, _, .cons h r, q => .cons h (paired_snoc r q)
theorem paired_str : ∀ {xs : List V} {ys : List Str}, Paired (fun (x : V) (y : Str) => x = .str y) xs ys → xs = strL ys
  | _, _, .nil => rfl
  | _, _, .cons h r => by
    have e := paired_str r
    subst h
    rw [e]
    rfl
theorem paired_len {α β : Type} {F : α → β → Prop} : ∀ {xs : List α} {ys : List β}, Paired F xs ys → xs.length = ys.length
  | _, _, .nil => rfl
  | _, _, .cons _ r => congrArg Nat.succ (paired_len r)
section
variable {K : PySem.W.Frag} {J : It} {n : Nat} {G : Hp → Prop} {Y : Nat → Hp → V → Hp → Prop} {g : TG} {tt : TT} {te : TE} {vs : List Nat} {σ : L2.St} {H1 : Hp} {Qd : Addr → Hp → Prop} {β : Type}
/-- a list comprehension over any walk whose turns only add to the heap: R tells each item (F i: what turn i gives, if anything); D is the list itself, that grows -/
theorem lcw (w : Walk J n G Y) (R : Addr → Hp → V → β → Prop) (F : Nat → Option β) (hR : ∀ D H H' y b, Frm K (fun a => a = D) H H' → R D H y b → R D H' y b) (hG : ∀ H, Ext K H1 H → G H) (hn : n ≤ 10000)
    (hs : ∀ i x H H' D, i < n → Ext K H1 H → Y i H x H' → ¬ Al H1 D → Al H D → ∀ (N0 : Hp → Prop) (N1 : V → Hp → Prop), (F i = none → ∀ H2, Ext K H H2 → N0 H2) → (∀ b, F i = some b → ∀ y H2, Ext K H H2 → R D H2 y b → N1 y H2) →
      g x (wipe σ vs) H' fun σ2 H2 => wipe σ2 vs = wipe σ vs ∧ tt σ2 H2 fun k H3 => if k = true then te σ2 H3 N1 else N0 H3)
    (hd : ∀ D acc H', ¬ Al H1 D → Ext K H1 H' → H' D = some (.lst acc) → Paired (R D H') acc ((List.range n).filterMap F) → Qd D H') :
    ∀ D, H1 D = none → ∃ W : Nat → Nat → Hp → Prop, (∃ m, W 0 m (upd H1 D (.lst []))) ∧ ∀ i m H, W i m H →
      (J.stop i H ∧ Qd D H) ∨ (J.go i H ∧ ∃ Nx : Hp → Prop, (∀ H', Nx H' → ∃ m', m' < m ∧ W (i + 1) m' H') ∧ ∀ x H', J.yld i H x H' → g x (wipe σ vs) H' fun σ2 H2 => wipe σ2 vs = wipe σ vs ∧ tt σ2 H2 fun b H3 =>
        if b = true then te σ2 H3 fun y H4 => ∃ acc, H4 D = some (.lst acc) ∧ acc.length < sizeLine ∧ Nx (upd H4 D (.lst (acc ++ [y]))) else Nx H3) := by
  intro D hD
  have fD : ¬ Al H1 D := fresh_none hD
  refine lc_it w (Qd := fun H => Qd D H) (fun i H => Ext K H1 H ∧ ∃ acc, H D = some (.lst acc) ∧ Paired (R D H) acc ((List.range i).filterMap F)) ⟨.new hD (nt_lst _), [], upd_same, .nil⟩ (fun i H _ p => hG H p.1) ?_ ?_
  · rintro i x H H' hi ⟨e1, acc, hacc, pr⟩ y
    have lacc : acc.length ≤ 10000 := by
      rw [paired_len pr]
      refine Nat.le_trans (List.length_filterMap_le _ _) ?_
      rw [List.length_range]
      omega
    refine hs i x H H' D hi e1 y fD (al_of hacc (nt_lst _)) _ _ (fun h0 H2 e2 => ?_) (fun b hb z H2 e2 r => ?_)
    · refine ⟨e1.trans e2, acc, e2.at hacc (nt_lst _), ?_⟩
      rw [filterMap_step, h0]
      show Paired (R D H2) acc ((List.range i).filterMap F ++ [])
      rw [List.append_nil]
      exact L2.Paired.mapP pr fun _ _ h => hR _ _ _ _ _ (.of e2) h
    · have h2 := e2.at hacc (nt_lst _)
      have up : Frm K (fun a => a = D) H2 (upd H2 D (.lst (acc ++ [z]))) := .mut h2 trivial rfl (nt_lst _)
      refine ⟨acc, h2, Nat.lt_of_le_of_lt lacc (by decide), (e1.trans e2).mutNew fD h2 trivial (nt_lst _), _, upd_same, ?_⟩
      rw [filterMap_step, hb]
      exact paired_snoc (L2.Paired.mapP (L2.Paired.mapP pr fun _ _ h => hR _ _ _ _ _ (.of e2) h) fun _ _ h => hR _ _ _ _ _ up h) (hR _ _ _ _ _ up r)
  · rintro H ⟨e1, acc, hacc, pr⟩
    exact hd D acc H fD e1 hacc pr
/-- .. whose items are texts -/
theorem lcw_str (w : Walk J n G Y) (F : Nat → Option Str) (hG : ∀ H, Ext K H1 H → G H) (hn : n ≤ 10000)
    (hs : ∀ i x H H', i < n → Ext K H1 H → Y i H x H' → ∀ (N0 : Hp → Prop) (N1 : V → Hp → Prop), (F i = none → ∀ H2, Ext K H H2 → N0 H2) → (∀ b, F i = some b → ∀ H2, Ext K H H2 → N1 (.str b) H2) →
      g x (wipe σ vs) H' fun σ2 H2 => wipe σ2 vs = wipe σ vs ∧ tt σ2 H2 fun k H3 => if k = true then te σ2 H3 N1 else N0 H3)
    (hd : ∀ D H', ¬ Al H1 D → Ext K H1 H' → H' D = some (.lst (strL ((List.range n).filterMap F))) → Qd D H') :
    ∀ D, H1 D = none → ∃ W : Nat → Nat → Hp → Prop, (∃ m, W 0 m (upd H1 D (.lst []))) ∧ ∀ i m H, W i m H →
      (J.stop i H ∧ Qd D H) ∨ (J.go i H ∧ ∃ Nx : Hp → Prop, (∀ H', Nx H' → ∃ m', m' < m ∧ W (i + 1) m' H') ∧ ∀ x H', J.yld i H x H' → g x (wipe σ vs) H' fun σ2 H2 => wipe σ2 vs = wipe σ vs ∧ tt σ2 H2 fun b H3 =>
        if b = true then te σ2 H3 fun y H4 => ∃ acc, H4 D = some (.lst acc) ∧ acc.length < sizeLine ∧ Nx (upd H4 D (.lst (acc ++ [y]))) else Nx H3) :=
  lcw w (fun _ _ (y : V) (b : Str) => y = .str b) F (fun _ _ _ _ _ _ h => h) hG hn (fun i x H H' D hi e y _ _ N0 N1 h0 h1 => hs i x H H' hi e y N0 N1 h0 fun b hb H2 e2 => h1 b hb (.str b) H2 e2 rfl)
    fun D acc H' f e h p => hd D H' f e (by rw [h, paired_str p])
/-- .. truth values, one a turn -/
theorem lcw_bl (w : Walk J n G Y) (F : Nat → Bool) (hG : ∀ H, Ext K H1 H → G H) (hn : n ≤ 10000)
    (hs : ∀ i x H H', i < n → Ext K H1 H → Y i H x H' → ∀ (N0 : Hp → Prop) (N1 : V → Hp → Prop), (∀ H2, Ext K H H2 → N1 (.bl (F i)) H2) →
      g x (wipe σ vs) H' fun σ2 H2 => wipe σ2 vs = wipe σ vs ∧ tt σ2 H2 fun k H3 => if k = true then te σ2 H3 N1 else N0 H3)
    (hd : ∀ D H', ¬ Al H1 D → Ext K H1 H' → H' D = some (.lst (((List.range n).map F).map V.bl)) → Qd D H') :
    ∀ D, H1 D = none → ∃ W : Nat → Nat → Hp → Prop, (∃ m, W 0 m (upd H1 D (.lst []))) ∧ ∀ i m H, W i m H →
      (J.stop i H ∧ Qd D H) ∨ (J.go i H ∧ ∃ Nx : Hp → Prop, (∀ H', Nx H' → ∃ m', m' < m ∧ W (i + 1) m' H') ∧ ∀ x H', J.yld i H x H' → g x (wipe σ vs) H' fun σ2 H2 => wipe σ2 vs = wipe σ vs ∧ tt σ2 H2 fun b H3 =>
        if b = true then te σ2 H3 fun y H4 => ∃ acc, H4 D = some (.lst acc) ∧ acc.length < sizeLine ∧ Nx (upd H4 D (.lst (acc ++ [y]))) else Nx H3) := by
  refine lcw w (fun _ _ (y : V) (b : Bool) => y = .bl b) (fun i => some (F i)) (fun _ _ _ _ _ _ h => h) hG hn (fun i x H H' D hi e y _ _ N0 N1 h0 h1 => hs i x H H' hi e y N0 N1 fun H2 e2 => h1 _ rfl _ H2 e2 rfl)
    fun D acc H' f e h p => hd D H' f e ?_
  rw [h]
  have key : ∀ {xs : List V} {ys : List Bool}, Paired (fun (x : V) (y : Bool) => x = .bl y) xs ys → xs = ys.map V.bl := by
    intro xs ys q
    induction q with
    | nil => rfl
    | cons h _ ih => rw [h, ih]; rfl
  rw [key p]
  congr 2
  induction (List.range n) with
  | nil => rfl
  | cons a l ih => simp [ih]
end
section
variable {K : PySem.W.Frag} {J1 : It} {n1 : Nat} {G1 : Hp → Prop} {Y1 : Nat → Hp → V → Hp → Prop} {g1 : TG} {tt1 : TT} {te : TE} {vs1 : List Nat} {σ2 : L2.St} {H1 H4 : Hp} {D : Addr} {Nx : Hp → Prop} {β : Type}
/-- the inner walk: the list at D goes on growing -/
theorem lcw_from (w1 : Walk J1 n1 G1 Y1) (R : Addr → Hp → V → β → Prop) (F1 : Nat → Option β) (hR : ∀ D H H' y b, Frm K (fun a => a = D) H H' → R D H y b → R D H' y b) {acc0 : List V} {l0 : List β} (fD : ¬ Al H1 D) (e14 : Ext K H1 H4) (h4 : H4 D = some (.lst acc0)) (p0 : Paired (R D H4) acc0 l0)
    (hG : ∀ H, Frm K (fun b => b = D) H4 H → G1 H) (hn : l0.length + n1 ≤ 20000)
    (hs : ∀ i x H H', i < n1 → Frm K (fun b => b = D) H4 H → Y1 i H x H' → Al H D → ∀ (N0 : Hp → Prop) (N1 : V → Hp → Prop), (F1 i = none → ∀ H2, Ext K H H2 → N0 H2) → (∀ b, F1 i = some b → ∀ y H2, Ext K H H2 → R D H2 y b → N1 y H2) →
      g1 x (wipe σ2 vs1) H' fun σ3 H5 => wipe σ3 vs1 = wipe σ2 vs1 ∧ tt1 σ3 H5 fun k H6 => if k = true then te σ3 H6 N1 else N0 H6)
    (hd : ∀ acc H', Ext K H1 H' → Frm K (fun b => b = D) H4 H' → H' D = some (.lst acc) → Paired (R D H') acc (l0 ++ (List.range n1).filterMap F1) → Nx H') :
    ∃ W : Nat → Nat → Hp → Prop, (∃ m, W 0 m H4) ∧ ∀ j k H, W j k H →
      (J1.stop j H ∧ Nx H) ∨ (J1.go j H ∧ ∃ Nx1 : Hp → Prop, (∀ H', Nx1 H' → ∃ k', k' < k ∧ W (j + 1) k' H') ∧ ∀ x H', J1.yld j H x H' → g1 x (wipe σ2 vs1) H' fun σ3 H5 => wipe σ3 vs1 = wipe σ2 vs1 ∧ tt1 σ3 H5 fun b H6 =>
        if b = true then te σ3 H6 fun y H7 => ∃ acc, H7 D = some (.lst acc) ∧ acc.length < sizeLine ∧ Nx1 (upd H7 D (.lst (acc ++ [y]))) else Nx1 H6) := by
  have inv : ∀ i H, (Ext K H1 H ∧ Frm K (fun b => b = D) H4 H ∧ ∃ acc, H D = some (.lst acc) ∧ Paired (R D H) acc (l0 ++ (List.range i).filterMap F1)) → True := fun _ _ _ => trivial
  refine ⟨fun i m H => m = n1 - i ∧ i ≤ n1 ∧ Ext K H1 H ∧ Frm K (fun b => b = D) H4 H ∧ ∃ acc, H D = some (.lst acc) ∧ Paired (R D H) acc (l0 ++ (List.range i).filterMap F1), ⟨n1, by simp, Nat.zero_le _, e14, .refl, acc0, h4, by simpa using p0⟩, ?_⟩
  rintro i m H ⟨rfl, hi, e1, e4, acc, hacc, pr⟩
  have q := hG H e4
  by_cases hlt : i < n1
  · refine .inr ⟨w1.goes i H hlt q, fun H' => Ext K H1 H' ∧ Frm K (fun b => b = D) H4 H' ∧ ∃ acc, H' D = some (.lst acc) ∧ Paired (R D H') acc (l0 ++ (List.range (i + 1)).filterMap F1), fun H' p' => ⟨n1 - (i + 1), by omega, rfl, hlt, p'⟩, fun x H' y => ?_⟩
    have lacc : acc.length ≤ 20000 := by
      rw [paired_len pr, List.length_append]
      have := List.length_filterMap_le F1 (List.range i)
      rw [List.length_range] at this
      omega
    refine hs i x H H' hlt e4 (w1.yields i H x H' hlt q y) (al_of hacc (nt_lst _)) _ _ (fun h0 H2 e2 => ?_) (fun b hb z H2 e2 r => ?_)
    · refine ⟨e1.trans e2, e4.trans (.of e2), acc, e2.at hacc (nt_lst _), ?_⟩
      rw [filterMap_step, h0]
      show Paired (R D H2) acc (l0 ++ ((List.range i).filterMap F1 ++ []))
      rw [List.append_nil]
      exact L2.Paired.mapP pr fun _ _ h => hR _ _ _ _ _ (.of e2) h
    · have h2 := e2.at hacc (nt_lst _)
      have up : Frm K (fun a => a = D) H2 (upd H2 D (.lst (acc ++ [z]))) := .mut h2 trivial rfl (nt_lst _)
      refine ⟨acc, h2, Nat.lt_of_le_of_lt lacc (by decide), (e1.trans e2).mutNew fD h2 trivial (nt_lst _), (e4.trans (.of e2)).trans up, _, upd_same, ?_⟩
      rw [filterMap_step, hb, ← List.append_assoc]
      exact paired_snoc (L2.Paired.mapP (L2.Paired.mapP pr fun _ _ h => hR _ _ _ _ _ (.of e2) h) fun _ _ h => hR _ _ _ _ _ up h) (hR _ _ _ _ _ up r)
  · have e : i = n1 := by omega
    subst e
    exact .inl ⟨w1.stops H q, hd acc H e1 e4 hacc pr⟩
end
section
variable {K : PySem.W.Frag} {J : It} {n : Nat} {G : Hp → Prop} {Y : Nat → Hp → V → Hp → Prop} {g : TG} {tt : TT} {wi1 : TI} {g1 : TG} {tt1 : TT} {te : TE} {vs vs1 : List Nat} {σ : L2.St} {H1 : Hp} {Qd : Addr → Hp → Prop} {β : Type}
theorem lc2w (w : Walk J n G Y) (R : Addr → Hp → V → β → Prop) (F : Nat → List β) (hG : ∀ H, Ext K H1 H → G H) (hn : n ≤ 100) (hl : ∀ i, i < n → (F i).length ≤ 100)
    (hs : ∀ i x H H' D l acc, i < n → Ext K H1 H → Y i H x H' → ¬ Al H1 D → H D = some (.lst acc) → Paired (R D H) acc l → l.length ≤ 10000 → ∀ (Nx : Hp → Prop), (∀ acc' H2, Ext K H1 H2 → H2 D = some (.lst acc') → Paired (R D H2) acc' (l ++ F i) → Nx H2) →
      g x (wipe σ vs) H' fun σ2 H2 => wipe σ2 vs = wipe σ vs ∧ tt σ2 H2 fun b H3 =>
        if b = true then wi1 σ2 H3 fun J1 H4 => ∃ W1 : Nat → Nat → Hp → Prop, (∃ m, W1 0 m H4) ∧ ∀ j k H, W1 j k H →
          (J1.stop j H ∧ Nx H) ∨ (J1.go j H ∧ ∃ Nx1 : Hp → Prop, (∀ H', Nx1 H' → ∃ k', k' < k ∧ W1 (j + 1) k' H') ∧ ∀ x H', J1.yld j H x H' → g1 x (wipe σ2 vs1) H' fun σ3 H5 => wipe σ3 vs1 = wipe σ2 vs1 ∧ tt1 σ3 H5 fun b H6 =>
            if b = true then te σ3 H6 fun y H7 => ∃ acc, H7 D = some (.lst acc) ∧ acc.length < sizeLine ∧ Nx1 (upd H7 D (.lst (acc ++ [y]))) else Nx1 H6)
        else Nx H3)
    (hd : ∀ D acc H', ¬ Al H1 D → Ext K H1 H' → H' D = some (.lst acc) → Paired (R D H') acc ((List.range n).flatMap F) → Qd D H') :
    ∀ D, H1 D = none → ∃ W : Nat → Nat → Hp → Prop, (∃ m, W 0 m (upd H1 D (.lst []))) ∧ ∀ i m H, W i m H →
      (J.stop i H ∧ Qd D H) ∨ (J.go i H ∧ ∃ Nx : Hp → Prop, (∀ H', Nx H' → ∃ m', m' < m ∧ W (i + 1) m' H') ∧ ∀ x H', J.yld i H x H' → g x (wipe σ vs) H' fun σ2 H2 => wipe σ2 vs = wipe σ vs ∧ tt σ2 H2 fun b H3 =>
        if b = true then wi1 σ2 H3 fun J1 H4 => ∃ W1 : Nat → Nat → Hp → Prop, (∃ m, W1 0 m H4) ∧ ∀ j k H, W1 j k H →
          (J1.stop j H ∧ Nx H) ∨ (J1.go j H ∧ ∃ Nx1 : Hp → Prop, (∀ H', Nx1 H' → ∃ k', k' < k ∧ W1 (j + 1) k' H') ∧ ∀ x H', J1.yld j H x H' → g1 x (wipe σ2 vs1) H' fun σ3 H5 => wipe σ3 vs1 = wipe σ2 vs1 ∧ tt1 σ3 H5 fun b H6 =>
            if b = true then te σ3 H6 fun y H7 => ∃ acc, H7 D = some (.lst acc) ∧ acc.length < sizeLine ∧ Nx1 (upd H7 D (.lst (acc ++ [y]))) else Nx1 H6)
        else Nx H3) := by
  intro D hD
  have fD : ¬ Al H1 D := fresh_none hD
  refine ⟨fun i m H => m = n - i ∧ i ≤ n ∧ Ext K H1 H ∧ ∃ acc, H D = some (.lst acc) ∧ Paired (R D H) acc ((List.range i).flatMap F), ⟨n, by simp, Nat.zero_le _, .new hD (nt_lst _), [], upd_same, .nil⟩, ?_⟩
  rintro i m H ⟨rfl, hi, e1, acc, hacc, pr⟩
  have q := hG H e1
  by_cases hlt : i < n
  · refine .inr ⟨w.goes i H hlt q, fun H' => Ext K H1 H' ∧ ∃ acc, H' D = some (.lst acc) ∧ Paired (R D H') acc ((List.range (i + 1)).flatMap F), fun H' p' => ⟨n - (i + 1), by omega, rfl, hlt, p'⟩, fun x H' y => ?_⟩
    have key : ∀ i, i ≤ n → ((List.range i).flatMap F).length ≤ i * 100 := fun i => by
      induction i with
      | zero => intro _; simp
      | succ i ih =>
        intro h
        rw [List.range_succ, List.flatMap_append, List.length_append]
        have h1 := ih (by omega)
        have h2 := hl i (by omega)
        simp only [List.flatMap_cons, List.flatMap_nil, List.append_nil]
        omega
    refine hs i x H H' D _ acc hlt e1 (w.yields i H x H' hlt q y) fD hacc pr (Nat.le_trans (key i hi) (by omega)) _ fun acc' H2 e2 h2 p2 => ⟨e2, acc', h2, ?_⟩
    rw [List.range_succ, List.flatMap_append]
    simpa using p2
  · have e : i = n := by omega
    subst e
    exact .inl ⟨w.stops H q, hd D acc H fD e1 hacc pr⟩
end
section
variable {K : PySem.W.Frag} {J : It} {n : Nat} {G : Hp → Prop} {Y : Nat → Hp → V → Hp → Prop} {g : TG} {tt : TT} {tk tv : TE} {vs : List Nat} {σ : L2.St} {H1 : Hp} {Qd : Addr → Hp → Prop}
theorem dcw (w : Walk J n G Y) (R : Nat → Addr → Hp → List (Key × V) → Prop) (hR : ∀ i D H H' kvs, Frm K (fun a => a = D) H H' → R i D H kvs → R i D H' kvs) (hl : ∀ i D H kvs, R i D H kvs → kvs.length ≤ i) (h0 : ∀ D H, R 0 D H []) (hG : ∀ H, Ext K H1 H → G H) (hn : n ≤ 10000)
    (hs : ∀ i x H H' D kvs, i < n → Ext K H1 H → Y i H x H' → ¬ Al H1 D → H D = some (.dK kvs) → R i D H kvs → ∀ (N0 : Hp → Prop) (N1 : V → V → Hp → Prop), (∀ H2, Ext K H H2 → R (i + 1) D H2 kvs → N0 H2) → (∀ k z H2, Ext K H H2 → R (i + 1) D H2 (putK kvs k z) → N1 (kV k) z H2) →
      g x (wipe σ vs) H' fun σ2 H2 => wipe σ2 vs = wipe σ vs ∧ tt σ2 H2 fun b H3 => if b = true then tk σ2 H3 fun y H4 => tv σ2 H4 fun z H5 => N1 y z H5 else N0 H3)
    (hd : ∀ D kvs H', ¬ Al H1 D → Ext K H1 H' → H' D = some (.dK kvs) → R n D H' kvs → Qd D H') :
    ∀ D, H1 D = none → ∃ W : Nat → Nat → Hp → Prop, (∃ m, W 0 m (upd H1 D (.dK []))) ∧ ∀ i m H, W i m H →
      (J.stop i H ∧ Qd D H) ∨ (J.go i H ∧ ∃ Nx : Hp → Prop, (∀ H', Nx H' → ∃ m', m' < m ∧ W (i + 1) m' H') ∧ ∀ x H', J.yld i H x H' → g x (wipe σ vs) H' fun σ2 H2 => wipe σ2 vs = wipe σ vs ∧ tt σ2 H2 fun b H3 =>
        if b = true then tk σ2 H3 fun y H4 => tv σ2 H4 fun z H5 => ∃ kvs k, y = kV k ∧ H5 D = some (.dK kvs) ∧ kvs.length < sizeLine ∧ Nx (upd H5 D (.dK (putK kvs k z))) else Nx H3) := by
  intro D hD
  have fD : ¬ Al H1 D := fresh_none hD
  refine ⟨fun i m H => m = n - i ∧ i ≤ n ∧ Ext K H1 H ∧ ∃ kvs, H D = some (.dK kvs) ∧ R i D H kvs, ⟨n, by simp, Nat.zero_le _, .new hD (nt_dK _), [], upd_same, h0 _ _⟩, ?_⟩
  rintro i m H ⟨rfl, hi, e1, kvs, hk, r⟩
  have q := hG H e1
  by_cases hlt : i < n
  · refine .inr ⟨w.goes i H hlt q, fun H' => Ext K H1 H' ∧ ∃ kvs, H' D = some (.dK kvs) ∧ R (i + 1) D H' kvs, fun H' p' => ⟨n - (i + 1), by omega, rfl, hlt, p'⟩, fun x H' y => ?_⟩
    have lk := hl _ _ _ _ r
    refine hs i x H H' D kvs hlt e1 (w.yields i H x H' hlt q y) fD hk r _ _ (fun H2 e2 r2 => ⟨e1.trans e2, kvs, e2.at hk (nt_dK _), r2⟩) fun k z H2 e2 r2 => ?_
    have h2 := e2.at hk (nt_dK _)
    have up : Frm K (fun a => a = D) H2 (upd H2 D (.dK (putK kvs k z))) := .mut h2 trivial rfl (nt_dK _)
    exact ⟨kvs, k, rfl, h2, Nat.lt_of_le_of_lt lk (Nat.lt_of_lt_of_le (by omega) (show 10001 ≤ sizeLine by decide)), (e1.trans e2).mutNew fD h2 trivial (nt_dK _), _, upd_same, hR _ _ _ _ _ up r2⟩
  · have e : i = n := by omega
    subst e
    exact .inl ⟨w.stops H q, hd D kvs H fD e1 hk r⟩
end
end ST
set_option maxHeartbeats 4000000
namespace ST
open PySem PySem.Spec PyProof.Rows L2
section
variable {X : Cx} {K : PySem.W.Frag}
theorem o_in (h : X.K = K) : OpR X (compareOp .In) (rIn K false) := by subst h; exact op_in_seq
theorem o_ni (h : X.K = K) : OpR X (compareOp .NotIn) (rIn K true) := by subst h; exact op_notIn_seq
theorem o_eqD (h : X.K = K) (hu : X.A.units + 64 < cLine) : OpR X (compareOp .Eq) (rEqD K) := by subst h; exact op_eqD hu
theorem o_neD (h : X.K = K) (hu : X.A.units + 64 < cLine) : OpR X (compareOp .NotEq) (rNeD K) := by subst h; exact op_neD hu
theorem o_inD (h : X.K = K) (hu : X.A.units + 65 < cLine) : OpR X (compareOp .In) (rInD K) := by subst h; exact op_inD hu
theorem o_niD (h : X.K = K) (hu : X.A.units + 65 < cLine) : OpR X (compareOp .NotIn) (rNotInD K) := by subst h; exact op_notInD hu
theorem o_catT (h : X.K = K) : OpR X (binaryOp .Add) (rCatA K) := by subst h; exact op_catA
theorem x_l (h : X.K = K) : IxR X (rIxL K) := by subst h; exact ix_list
theorem x_t (h : X.K = K) : IxR X (rIxT K) := by subst h; exact ix_tup
theorem l_l (h : X.K = K) : SlR X (rSlL K) := by subst h; exact sl_list
theorem l_t (h : X.K = K) : SlR X (rSlA K) := by subst h; exact sl_tupA
def rLen (K : PySem.W.Frag) : List V → Hp → VK → Prop := fun xs H Q => ∃ p ys, xs = [.ref p] ∧ (SqL K H p ys ∨ SqT K H p ys) ∧ Q (.int ys.length) H
def rLenD : List V → Hp → VK → Prop := fun xs H Q => ∃ a kvs, xs = [V.ref a] ∧ H a = some (.dK kvs) ∧ Q (.int kvs.length) H
def rLenS : List V → Hp → VK → Prop := fun xs H Q => ∃ z : Str, xs = [.str z] ∧ z.length ≤ sizeLine ∧ Q (.int z.length) H
def rListOf (K : PySem.W.Frag) : List V → Hp → VK → Prop := fun xs H Q => ∃ p ys, xs = [.ref p] ∧ (SqL K H p ys ∨ SqT K H p ys) ∧ ∀ l, H l = none → Q (.ref l) (upd H l (.lst ys))
def rTupOf (K : PySem.W.Frag) : List V → Hp → VK → Prop := fun xs H Q => ∃ p ys, xs = [.ref p] ∧ ((SqL K H p ys ∧ ∀ l, H l = none → Q (.ref l) (upd H l (.tup ys))) ∨ (SqT K H p ys ∧ Q (.ref p) H))
def rDictD : List V → Hp → VK → Prop := fun xs H Q => ∃ (a : Addr) (kvs : List (Key × V)), xs = [.ref a] ∧ Rd H a (.dK kvs) ∧ ∀ p, H p = none → Q (.ref p) (upd H p (.dK kvs))
def rDictP (K : PySem.W.Frag) : List V → Hp → VK → Prop := fun xs H Q => ∃ (a : Addr) (ps : List Addr) (kvs : List (Key × V)), xs = [.ref a] ∧ SqL K H a (ps.map V.ref) ∧ Paired (fun p kv => SqT K H p [kV kv.1, kv.2]) ps kvs ∧ ∀ p, H p = none → Q (.ref p) (upd H p (.dK (mergeK [] kvs)))
def rAbs : List V → Hp → VK → Prop := fun xs H Q => ∃ i, xs = [.int i] ∧ Q (.int (if i < 0 then -i else i)) H
def rMax2 : List V → Hp → VK → Prop := fun xs H Q => ∃ i j, xs = [.int i, .int j] ∧ Q (.int (if j > i then j else i)) H
def rMin2 : List V → Hp → VK → Prop := fun xs H Q => ∃ i j, xs = [.int i, .int j] ∧ Q (.int (if j < i then j else i)) H
theorem k_len (h : X.K = K) : CallR X (.builtin "len") (rLen K) := by subst h; exact call_len_seq
theorem k_lenD : CallR X (.builtin "len") rLenD := call_lenD
theorem k_lenS : CallR X (.builtin "len") rLenS := call_len_str
theorem k_list (h : X.K = K) : CallR X (.type "list") (rListOf K) := by subst h; exact call_list_of
theorem k_listD (h : X.calm = true) : CallR X (.type "list") rListD := call_list_dK h
theorem k_tuple (h : X.K = K) : CallR X (.type "tuple") (rTupOf K) := by subst h; exact call_tuple_of
theorem k_dictD : CallR X (.type "dict") rDictD := call_dictD
theorem k_dictP (h : X.K = K) (hc : X.calm = true) : CallR X (.type "dict") (rDictP K) := by subst h; exact call_dictP hc
theorem k_any (h : X.K = K) (hc : X.calm = true) : CallR X (.builtin "any") (rAny K) := by subst h; exact cr_any hc
theorem k_all (h : X.K = K) (hc : X.calm = true) : CallR X (.builtin "all") (rAll K) := by subst h; exact cr_all hc
theorem k_abs : CallR X (.builtin "abs") rAbs := call_abs
theorem k_max2 (hc : X.calm = true) : CallR X (.builtin "max") rMax2 := call_max2 hc
theorem k_min2 (hc : X.calm = true) : CallR X (.builtin "min") rMin2 := call_min2 hc
theorem k_isi (h : X.K = K) : CallR X (.builtin "isinstance") (rIsi K) := by subst h; exact call_isi
theorem k_isiT (h : X.K = K) : CallR X (.builtin "isinstance") (rIsiT K) := by subst h; exact call_isiT
section
variable {e o : Expr} {ta te to : TE} {f : Str} {pos apos cpos : Pos} {tg : Expr} {es : List Expr} {t : TA}
theorem w_fld (h : X.K = K) (he : PE X e ta) (hb : attributeBase e f X.env (eval e X.env) = eval e X.env := by rfl) : PE X (.Attribute e f pos) (tFld K ta f) := by subst h; exact pe_fld he hb
theorem i_list (h : X.K = K) (hl : PE X e te) : PI X tg e (iList K te) := by subst h; exact pi_list hl
theorem i_tup (h : X.K = K) (hl : PE X e te) : PI X tg e (iTup K te) := by subst h; exact pi_tup hl
theorem g_tup (h : X.K = K) {es : List Expr} {k : Nat} {t : TGs} {n : Nat} (hc : X.calm = true) (hp : PGs X es t) (hn : (assignEach es X.env).length = n := by rfl) (hst : (assignEach es X.env).findIdx? (·.1) = none := by rfl) : PG X (.Tuple es k pos) (gTup K n t) := by subst h; exact pg_tup hc hp hn hst
theorem a_star (h : X.K = K) {p : Pos} (he : PE X e te) (hr : PA X es t) (hs : starEach (.Starred e p :: es) X.env = (true, eval e X.env) :: starEach es X.env := by rfl) : PA X (.Starred e p :: es) (StX.tStar K te t) := by subst h; exact StX.pa_star he hr hs
theorem w_append (h : X.K = K) {y : Expr} {ty : TE} (ho : PE X o to) (hy : PE X y ty) (hbase : attributeBase o "append" X.env (eval o X.env) = eval o X.env := by rfl)
    (hfew : ((backTo cpos (starEach [y] X.env)).all (fun x => !x.1) && (backToKw cpos (keywordEach [] X.env)).all (fun x => x.1.isSome) && decide (([y] : List Expr).length + ([] : List Keyword).length + (if ([] : List Keyword).isEmpty then 0 else 1) < 30)) = true := by rfl)
    (hline : (apos.endLine == cpos.line) = true := by rfl) (hs : starEach [y] X.env = (false, eval y X.env) :: starEach [] X.env := by rfl) (hplain : (backTo cpos (starEach [] X.env)).any (·.1) = false := by rfl) :
    PE X (.Call (.Attribute o "append" apos) [y] [] cpos) (tBM K "list" rAppend to (tCons ty tNil)) := by
  subst h
  exact pe_bm PySem.F.plainAttrs_list PySem.F.slot_list_append PySem.F.type_list_append mt_append ho (pa_cons hy pa_nil hs) hbase hfew hline hs hplain
theorem w_popAt (h : X.K = K) {y : Expr} {ty : TE} (ho : PE X o to) (hy : PE X y ty) (hbase : attributeBase o "pop" X.env (eval o X.env) = eval o X.env := by rfl)
    (hfew : ((backTo cpos (starEach [y] X.env)).all (fun x => !x.1) && (backToKw cpos (keywordEach [] X.env)).all (fun x => x.1.isSome) && decide (([y] : List Expr).length + ([] : List Keyword).length + (if ([] : List Keyword).isEmpty then 0 else 1) < 30)) = true := by rfl)
    (hline : (apos.endLine == cpos.line) = true := by rfl) (hs : starEach [y] X.env = (false, eval y X.env) :: starEach [] X.env := by rfl) (hplain : (backTo cpos (starEach [] X.env)).any (·.1) = false := by rfl) :
    PE X (.Call (.Attribute o "pop" apos) [y] [] cpos) (tBM K "list" rPopAt to (tCons ty tNil)) := by
  subst h
  exact pe_bm PySem.F.plainAttrs_list PySem.F.slot_list_pop PySem.F.type_list_pop mt_popAt ho (pa_cons hy pa_nil hs) hbase hfew hline hs hplain
/-- a text constant of the module; an int -/
theorem w_gstr {x z : Str} {pos : Pos} (hg : Gl X x) (hm : ∃ t, X.mg x = some (.str z t)) (hd : (x == ("__debug__" : Str)) = false := by decide) : PE X (.Name x pos) (tC (.str z)) := by
  obtain ⟨t, ht⟩ := hm
  exact pe_glob hg ht ⟨_, rfl⟩ hd
theorem w_gint {x : Str} {i : Int} {pos : Pos} (hg : Gl X x) (hm : ∃ t, X.mg x = some (.int i t)) (hd : (x == ("__debug__" : Str)) = false := by decide) : PE X (.Name x pos) (tC (.int i)) := by
  obtain ⟨t, ht⟩ := hm
  exact pe_glob hg ht ⟨_, rfl⟩ hd
/-- o.f = v as a target -/
def gFld (K : PySem.W.Frag) (ta : TE) (f : Str) : TG := fun v σ H Q => ta σ H fun x H2 => ∃ a C dx fs, x = .ref a ∧ H2 a = some (.ins C dx fs) ∧ Cls K C ∧ NoAttr K C f ∧ fs.length < 1000 ∧ Q σ (upd H2 a (.ins C dx (putF f v fs)))
end
end
end ST
set_option maxHeartbeats 4000000
namespace ST
open PySem PySem.Spec PyProof.Rows L2
abbrev Hk : Type := List (List Str × Bool)
/-- a class: name, bases, own swornness, hook, passed on, order, what is registered at it -/
structure C where
  nm : Str
  bs : List Str
  ow : Bool
  hk : Option Hk
  pa : Bool
  ln : List Str
  rg : List Str
def C.none : C := ⟨"", [], false, .none, false, [], []⟩
abbrev nms (D : List C) : List Str := D.map (·.nm)
def at_ (D : List C) (n : Str) : C := (D.find? fun c => decide (c.nm = n)).getD C.none
theorem at_mem {D : List C} {n : Str} (h : n ∈ nms D) : at_ D n ∈ D ∧ (at_ D n).nm = n := by
  obtain ⟨c, hc, e⟩ := List.mem_map.mp h
  have hs : (D.find? fun c => decide (c.nm = n)).isSome = true := List.find?_isSome.mpr ⟨c, hc, by simpa using e⟩
  obtain ⟨d, hd⟩ := Option.isSome_iff_exists.mp hs
  have e2 : at_ D n = d := by
    unfold at_
    rw [hd]
    rfl
  rw [e2]
  exact ⟨List.mem_of_find?_eq_some hd, by simpa using List.find?_some hd⟩
/-- is a class sworn -/
def sw (D : List C) (n : Str) : Bool := (at_ D n).ln.any fun m => (at_ D m).ow
def hookGo (D : List C) (n : Str) : List Str → Option Hk
  | [] => none
  | m :: r => match (at_ D m).hk with
    | some h => if m = n ∨ (at_ D m).pa = true then some h else none
    | none => hookGo D n r
def hookFor (D : List C) (n : Str) : Option Hk := hookGo D n (at_ D n).ln
def hasAll (ws ms : List Str) : Bool := ws.all fun m => decide (m ∈ ms)
def ansH (ms : List Str) : Hk → Option Bool
  | [] => none
  | c :: r => if hasAll c.1 ms = true then some c.2 else ansH ms r
def ans (D : List C) (n : Str) (ms : List Str) : Option Bool := if sw D n = true then (hookFor D n).bind (ansH ms) else none
def subs (D : List C) (n : Str) : List Str := (D.filter fun c => decide (n ∈ c.bs)).map (·.nm)
def nxt (D : List C) (n : Str) : List Str := if sw D n = true then (at_ D n).rg ++ (subs D n).filter (fun o => decide (o ∉ (at_ D n).rg)) else []
def decl (D : List C) (n : Str) (ms : List Str) : Bool := sw D n && decide (ans D n ms = none)
/-- the methods that occur in hooks -/
def methodsOf (D : List C) : List Str := D.flatMap fun c => (c.hk.getD []).flatMap (·.1)
/-- the sizes, the names that are told stand there -/
structure Wf (D : List C) : Prop where
  nd : (nms D).Nodup
  len : D.length ≤ 50
  ln : ∀ c ∈ D, (∀ m ∈ c.ln, m ∈ nms D) ∧ c.ln.length ≤ 50
  rg : ∀ c ∈ D, (∀ m ∈ c.rg, m ∈ nms D) ∧ c.rg.length ≤ 50
  hk : ∀ c ∈ D, ∀ h, c.hk = some h → h.length ≤ 50 ∧ ∀ q ∈ h, q.1.length ≤ 50
  me : ∃ U : List Str, U.length ≤ 6 ∧ ∀ m ∈ methodsOf D, m ∈ U
def oB : Option Bool → V
  | none => .non
  | some b => .bl b
def HkR (H : Hp) (v : V) : Option Hk → Prop
  | none => v = .non
  | some cs => ∃ (a : Addr) (rs : List Addr), v = .ref a ∧ H a = some (.tup (rs.map V.ref)) ∧ Paired (fun (r : Addr) (c : List Str × Bool) => ∃ m : Addr, H r = some (.tup [.ref m, .bl c.2]) ∧ H m = some (.tup (strL c.1))) rs cs
abbrev entF (c : C) (ap am al : Addr) (hv : V) : List (Str × V) := [("label", .str c.nm), ("parents", .ref ap), ("own_sworn", .bl c.ow), ("given_marks", .ref am), ("own_hook", hv), ("passed_on", .bl c.pa), ("line", .ref al)]
/-- an entry; its objects but the tuples lie in W -/
def EntR (K : PySem.W.Frag) (W : Addr → Prop) (H : Hp) (e : Addr) (c : C) : Prop :=
  ∃ (dx ap am al : Addr) (hv : V), H e = some (.ins (He.ga K "Entry") dx (entF c ap am al hv)) ∧ H ap = some (.tup (strL c.bs)) ∧ H al = some (.lst (strL c.ln)) ∧ HkR H hv c.hk ∧ W e ∧ W al
abbrev recKV (ent : Str → Addr) (D : List C) : List (Key × V) := D.map fun c => (.inr c.nm, .ref (ent c.nm))
/-- the dict of entries at d, as it is read -/
def RecR (K : PySem.W.Frag) (H : Hp) (d : Addr) (D : List C) : Prop :=
  ∃ ent : Str → Addr, Rd H d (.dK (recKV ent D)) ∧ ∀ c ∈ D, EntR K (fun _ => True) H (ent c.nm) c
theorem HkR.frm {K : PySem.W.Frag} {S : Addr → Prop} {H H' : Hp} (a : Frm K S H H') {v : V} : ∀ {o : Option Hk}, HkR H v o → HkR H' v o
  | none, h => h
  | some _, ⟨p, rs, h1, h2, h3⟩ => ⟨p, rs, h1, a.tup h2, L2.Paired.mapP h3 fun _ _ ⟨m, q1, q2⟩ => ⟨m, a.tup q1, a.tup q2⟩⟩
theorem EntR.frm {K : PySem.W.Frag} {S W : Addr → Prop} {H H' : Hp} (a : Frm K S H H') (d : ∀ b, W b → ¬ S b) {e : Addr} {c : C} : EntR K W H e c → EntR K W H' e c
  | ⟨dx, ap, am, al, hv, h1, h2, h3, h4, w1, w2⟩ => ⟨dx, ap, am, al, hv, a.ins h1 (d _ w1), a.tup h2, a.lst h3 (d _ w2), h4.frm a, w1, w2⟩
theorem EntR.mono {K : PySem.W.Frag} {W W' : Addr → Prop} {H : Hp} {e : Addr} {c : C} (d : ∀ b, Al H b → W b → W' b) : EntR K W H e c → EntR K W' H e c
  | ⟨dx, ap, am, al, hv, h1, h2, h3, h4, w1, w2⟩ => ⟨dx, ap, am, al, hv, h1, h2, h3, h4, d _ (al_of h1 (nt_ins _ _ _)) w1, d _ (al_of h3 (nt_lst _)) w2⟩
theorem RecR.ext {K : PySem.W.Frag} {H H' : Hp} (a : Ext K H H') {d : Addr} {D : List C} : RecR K H d D → RecR K H' d D
  | ⟨ent, h1, h2⟩ => ⟨ent, ext_rd a (nt_dK _) h1, fun c hc => (h2 c hc).frm a fun _ _ z => z⟩
theorem valV_map {D : List C} (f : Str → V) {n : Str} : valV (D.map fun c => ((.inr c.nm : Key), f c.nm)) (.inr n) = if n ∈ nms D then some (f n) else none := by
  induction D with
  | nil => rfl
  | cons c r ih =>
    by_cases h : c.nm = n
    · show valV (((.inr c.nm : Key), f c.nm) :: r.map fun c => ((.inr c.nm : Key), f c.nm)) (.inr n) = _
      rw [valV_pos (by rw [h]), if_pos (by rw [← h]; exact List.mem_cons_self ..), h]
    · show valV (((.inr c.nm : Key), f c.nm) :: r.map fun c => ((.inr c.nm : Key), f c.nm)) (.inr n) = _
      rw [valV_neg (fun z => h (Sum.inr.inj z)), ih]
      by_cases q : n ∈ nms r
      · rw [if_pos q, if_pos (show n ∈ nms (c :: r) from List.mem_cons_of_mem _ q)]
      · rw [if_neg q, if_neg (show ¬ n ∈ nms (c :: r) from fun z => (List.mem_cons.mp z).elim (fun e => h e.symm) q)]
/-- what is read at a class's name -/
theorem RecR.get {K : PySem.W.Frag} {H : Hp} {d : Addr} {D : List C} (h : RecR K H d D) {n : Str} (hn : n ∈ nms D) :
    ∃ (e dx ap am al : Addr) (hv : V), DGet H d (.str n) (some (.ref e)) ∧ H e = some (.ins (He.ga K "Entry") dx (entF (at_ D n) ap am al hv)) ∧ H ap = some (.tup (strL (at_ D n).bs)) ∧ H al = some (.lst (strL (at_ D n).ln)) ∧ HkR H hv (at_ D n).hk := by
  obtain ⟨ent, h1, h2⟩ := h
  obtain ⟨m1, m2⟩ := at_mem hn
  obtain ⟨dx, ap, am, al, hv, q1, q2, q3, q4, _⟩ := h2 _ m1
  rw [m2] at q1
  refine ⟨ent n, dx, ap, am, al, hv, .inl ⟨_, .inr n, h1, rfl, ?_⟩, q1, q2, q3, q4⟩
  rw [valV_map fun n => V.ref (ent n), if_pos hn]
/-- the dict of entries at d, not locked -/
def RecX (K : PySem.W.Frag) (H : Hp) (d : Addr) (D : List C) : Prop :=
  ∃ ent : Str → Addr, H d = some (.dK (recKV ent D)) ∧ ∀ c ∈ D, EntR K (fun _ => True) H (ent c.nm) c
theorem RecX.r {K : PySem.W.Frag} {H : Hp} {d : Addr} {D : List C} : RecX K H d D → RecR K H d D
  | ⟨ent, h1, h2⟩ => ⟨ent, .of h1, h2⟩
theorem RecX.ext {K : PySem.W.Frag} {H H' : Hp} (a : Ext K H H') {d : Addr} {D : List C} : RecX K H d D → RecX K H' d D
  | ⟨ent, h1, h2⟩ => ⟨ent, a.at h1 (nt_dK _), fun c hc => (h2 c hc).frm a fun _ _ z => z⟩
theorem EntR.ne {K : PySem.W.Frag} {W : Addr → Prop} {H : Hp} {d e : Addr} {kvs : List (Key × V)} {c : C} (h : H d = some (.dK kvs)) : EntR K W H e c → EntR K (fun b => b ≠ d) H e c
  | ⟨dx, ap, am, al, hv, h1, h2, h3, h4, _, _⟩ => ⟨dx, ap, am, al, hv, h1, h2, h3, h4, ne_of h1 h (fun z => by cases z), ne_of h3 h (fun z => by cases z)⟩
/-- under a lock of the dict -/
theorem RecX.lock {K : PySem.W.Frag} {H : Hp} {d : Addr} {D : List C} (h : RecX K H d D) : ∃ ent : Str → Addr, H d = some (.dK (recKV ent D)) ∧ ∀ od, RecR K (upd H d (.frz od (.dK (recKV ent D)))) d D := by
  obtain ⟨ent, h1, h2⟩ := h
  refine ⟨ent, h1, fun od => ⟨ent, .inr ⟨od, upd_same⟩, fun c hc => ?_⟩⟩
  have a : Frm K (fun b => b = d) H (upd H d (.frz od (.dK (recKV ent D)))) := .lock h1 trivial
  exact (((h2 c hc).ne h1).frm a fun _ z q => z q).mono fun _ _ _ => trivial
theorem walk_recs {D : List C} (f : C → V) {d : Addr} {o : Obj} : Walk (Itk d o (D.map fun c => ((.inr c.nm : Key), f c))) (strL (nms D)).length (fun H => H d = some (.frz o (.dK (D.map fun c => ((.inr c.nm : Key), f c))))) (YAt (strL (nms D))) := by
  have el : (strL (nms D)).length = (D.map fun c => ((.inr c.nm : Key), f c)).length := by simp
  rw [el]
  refine walk_keys.mono (fun _ h => h) fun i H x H' _ _ y => ?_
  obtain ⟨rfl, k, v, hk, rfl⟩ := y
  refine ⟨rfl, ?_⟩
  rw [List.getElem?_map] at hk
  rw [List.getElem?_map, List.getElem?_map]
  cases e : D[i]? with
  | none => rw [e] at hk; cases hk
  | some c =>
    rw [e] at hk
    cases hk
    rfl
theorem strL_append (a b : List Str) : strL (a ++ b) = strL a ++ strL b := List.map_append
theorem strL_length (a : List Str) : (strL a).length = a.length := List.length_map _
theorem inV_str (n : Str) (xs : List Str) : inV (.str n) (strL xs) = decide (n ∈ xs) := by
  unfold inV
  induction xs with
  | nil => rfl
  | cons x r ih =>
    show (eqV (.str x) (.str n) || (strL r).any fun y => eqV y (.str n)) = _
    rw [ih]
    show ((x == n) || decide (n ∈ r)) = _
    by_cases h : x = n
    · subst h; simp
    · simp [h, Ne.symm h]
theorem flat_strL (xs : List Str) : (strL xs).all flatV = true := by
  rw [List.all_eq_true]
  intro v hv
  obtain ⟨x, _, rfl⟩ := List.mem_map.mp hv
  rfl
theorem strL_get {xs : List Str} {i : Nat} {v : V} (h : (strL xs)[i]? = some v) : ∃ x, xs[i]? = some x ∧ v = .str x ∧ x ∈ xs := by
  rw [List.getElem?_map] at h
  cases e : xs[i]? with
  | none => rw [e] at h; cases h
  | some x => rw [e] at h; exact ⟨x, rfl, (Option.some.inj h).symm, List.mem_of_getElem? e⟩
theorem range_strs {β : Type} (xs : List Str) (f : Str → Option β) : (List.range (strL xs).length).filterMap (fun i => (xs[i]?).bind f) = xs.filterMap f := by
  rw [List.length_map]
  exact range_bind xs f
section
variable {K : PySem.W.Frag} {J : It} {G : Hp → Prop} {g : TG} {tt : TT} {te : TE} {vs : List Nat} {σ : L2.St} {H1 : Hp} {Qd : Addr → Hp → Prop} {xs : List Str}
theorem lcS {β : Type} (w : Walk J (strL xs).length G (YAt (strL xs))) (R : Addr → Hp → V → β → Prop) (f : Str → Option β) (hR : ∀ D H H' y b, Frm K (fun a => a = D) H H' → R D H y b → R D H' y b) (hG : ∀ H, Ext K H1 H → G H) (hn : xs.length ≤ 10000)
    (hs : ∀ x ∈ xs, ∀ H D, Ext K H1 H → ¬ Al H1 D → Al H D → ∀ (N0 : Hp → Prop) (N1 : V → Hp → Prop), (f x = none → ∀ H2, Ext K H H2 → N0 H2) → (∀ b, f x = some b → ∀ y H2, Ext K H H2 → R D H2 y b → N1 y H2) →
      g (.str x) (wipe σ vs) H fun σ2 H2 => wipe σ2 vs = wipe σ vs ∧ tt σ2 H2 fun k H3 => if k = true then te σ2 H3 N1 else N0 H3)
    (hd : ∀ D acc H', ¬ Al H1 D → Ext K H1 H' → H' D = some (.lst acc) → Paired (R D H') acc (xs.filterMap f) → Qd D H') :
    ∀ D, H1 D = none → ∃ W : Nat → Nat → Hp → Prop, (∃ m, W 0 m (upd H1 D (.lst []))) ∧ ∀ i m H, W i m H →
      (J.stop i H ∧ Qd D H) ∨ (J.go i H ∧ ∃ Nx : Hp → Prop, (∀ H', Nx H' → ∃ m', m' < m ∧ W (i + 1) m' H') ∧ ∀ x H', J.yld i H x H' → g x (wipe σ vs) H' fun σ2 H2 => wipe σ2 vs = wipe σ vs ∧ tt σ2 H2 fun b H3 =>
        if b = true then te σ2 H3 fun y H4 => ∃ acc, H4 D = some (.lst acc) ∧ acc.length < sizeLine ∧ Nx (upd H4 D (.lst (acc ++ [y]))) else Nx H3) := by
  refine lcw (K := K) w R (fun i => (xs[i]?).bind f) hR hG (by rw [List.length_map]; exact hn) (fun i x H H' D hi e y fD aD N0 N1 h0 h1 => ?_) fun D acc H' fD e h p => hd D acc H' fD e h (by rw [range_strs] at p; exact p)
  obtain ⟨rfl, hx⟩ := y
  obtain ⟨m, hm, rfl, mm⟩ := strL_get hx
  rw [hm] at h0 h1
  exact hs m mm H' D e fD aD N0 N1 h0 h1
theorem lcS_str (w : Walk J (strL xs).length G (YAt (strL xs))) (f : Str → Option Str) (hG : ∀ H, Ext K H1 H → G H) (hn : xs.length ≤ 10000)
    (hs : ∀ x ∈ xs, ∀ H, Ext K H1 H → ∀ (N0 : Hp → Prop) (N1 : V → Hp → Prop), (f x = none → ∀ H2, Ext K H H2 → N0 H2) → (∀ b, f x = some b → ∀ H2, Ext K H H2 → N1 (.str b) H2) →
      g (.str x) (wipe σ vs) H fun σ2 H2 => wipe σ2 vs = wipe σ vs ∧ tt σ2 H2 fun k H3 => if k = true then te σ2 H3 N1 else N0 H3)
    (hd : ∀ D H', ¬ Al H1 D → Ext K H1 H' → H' D = some (.lst (strL (xs.filterMap f))) → Qd D H') :
    ∀ D, H1 D = none → ∃ W : Nat → Nat → Hp → Prop, (∃ m, W 0 m (upd H1 D (.lst []))) ∧ ∀ i m H, W i m H →
      (J.stop i H ∧ Qd D H) ∨ (J.go i H ∧ ∃ Nx : Hp → Prop, (∀ H', Nx H' → ∃ m', m' < m ∧ W (i + 1) m' H') ∧ ∀ x H', J.yld i H x H' → g x (wipe σ vs) H' fun σ2 H2 => wipe σ2 vs = wipe σ vs ∧ tt σ2 H2 fun b H3 =>
        if b = true then te σ2 H3 fun y H4 => ∃ acc, H4 D = some (.lst acc) ∧ acc.length < sizeLine ∧ Nx (upd H4 D (.lst (acc ++ [y]))) else Nx H3) :=
  lcS (K := K) w (fun _ _ (y : V) (b : Str) => y = .str b) f (fun _ _ _ _ _ _ h => h) hG hn (fun x hx H D e _ _ N0 N1 h0 h1 => hs x hx H e N0 N1 h0 fun b hb H2 e2 => h1 b hb _ H2 e2 rfl)
    fun D acc H' fD e h p => hd D H' fD e (by rw [h, paired_str p])
theorem lcS_bl (w : Walk J (strL xs).length G (YAt (strL xs))) (f : Str → Bool) (hG : ∀ H, Ext K H1 H → G H) (hn : xs.length ≤ 10000)
    (hs : ∀ x ∈ xs, ∀ H, Ext K H1 H → ∀ (N0 : Hp → Prop) (N1 : V → Hp → Prop), (∀ H2, Ext K H H2 → N1 (.bl (f x)) H2) →
      g (.str x) (wipe σ vs) H fun σ2 H2 => wipe σ2 vs = wipe σ vs ∧ tt σ2 H2 fun k H3 => if k = true then te σ2 H3 N1 else N0 H3)
    (hd : ∀ D H', ¬ Al H1 D → Ext K H1 H' → H' D = some (.lst ((xs.map f).map V.bl)) → Qd D H') :
    ∀ D, H1 D = none → ∃ W : Nat → Nat → Hp → Prop, (∃ m, W 0 m (upd H1 D (.lst []))) ∧ ∀ i m H, W i m H →
      (J.stop i H ∧ Qd D H) ∨ (J.go i H ∧ ∃ Nx : Hp → Prop, (∀ H', Nx H' → ∃ m', m' < m ∧ W (i + 1) m' H') ∧ ∀ x H', J.yld i H x H' → g x (wipe σ vs) H' fun σ2 H2 => wipe σ2 vs = wipe σ vs ∧ tt σ2 H2 fun b H3 =>
        if b = true then te σ2 H3 fun y H4 => ∃ acc, H4 D = some (.lst acc) ∧ acc.length < sizeLine ∧ Nx (upd H4 D (.lst (acc ++ [y]))) else Nx H3) := by
  refine lcw_bl (K := K) w (fun i => match xs[i]? with | some m => f m | none => false) hG (by rw [List.length_map]; exact hn) (fun i x H H' hi e y N0 N1 h1 => ?_) fun D H' fD e h => hd D H' fD e ?_
  · obtain ⟨rfl, hx⟩ := y
    obtain ⟨m, hm, rfl, mm⟩ := strL_get hx
    rw [hm] at h1
    exact hs m mm H' e N0 N1 h1
  · rw [h]
    congr 3
    refine List.ext_getElem (by simp) fun i h1 h2 => ?_
    have hi : i < xs.length := by simpa using h2
    simp [hi]
end
/-- a dict that is asked for names alone -/
def HeldR (H : Hp) (h : Addr) (hs : List Str) : Prop := ∃ kvs : List (Key × V), H h = some (.dK kvs) ∧ ∀ n : Str, (valV kvs (.inr n)).isSome = decide (n ∈ hs)
theorem HeldR.ext {K : PySem.W.Frag} {H H' : Hp} (a : Ext K H H') {h : Addr} {hs : List Str} : HeldR H h hs → HeldR H' h hs
  | ⟨kvs, h1, h2⟩ => ⟨kvs, a.at h1 (nt_dK _), h2⟩
section
variable {K : PySem.W.Frag} {J : It} {G : Hp → Prop} {g : TG} {tt : TT} {tk tv : TE} {vs : List Nat} {σ : L2.St} {H1 : Hp} {Qd : Addr → Hp → Prop} {xs : List Str}
/-- {name: True for name in ..} -/
theorem dcS_true (w : Walk J (strL xs).length G (YAt (strL xs))) (hG : ∀ H, Ext K H1 H → G H) (hn : xs.length ≤ 10000)
    (hs : ∀ x ∈ xs, ∀ H, Ext K H1 H → ∀ (N0 : Hp → Prop) (N1 : V → V → Hp → Prop), N1 (.str x) (.bl true) H →
      g (.str x) (wipe σ vs) H fun σ2 H2 => wipe σ2 vs = wipe σ vs ∧ tt σ2 H2 fun b H3 => if b = true then tk σ2 H3 fun y H4 => tv σ2 H4 fun z H5 => N1 y z H5 else N0 H3)
    (hd : ∀ D H', ¬ Al H1 D → Ext K H1 H' → HeldR H' D xs → Qd D H') :
    ∀ D, H1 D = none → ∃ W : Nat → Nat → Hp → Prop, (∃ m, W 0 m (upd H1 D (.dK []))) ∧ ∀ i m H, W i m H →
      (J.stop i H ∧ Qd D H) ∨ (J.go i H ∧ ∃ Nx : Hp → Prop, (∀ H', Nx H' → ∃ m', m' < m ∧ W (i + 1) m' H') ∧ ∀ x H', J.yld i H x H' → g x (wipe σ vs) H' fun σ2 H2 => wipe σ2 vs = wipe σ vs ∧ tt σ2 H2 fun b H3 =>
        if b = true then tk σ2 H3 fun y H4 => tv σ2 H4 fun z H5 => ∃ kvs k, y = kV k ∧ H5 D = some (.dK kvs) ∧ kvs.length < sizeLine ∧ Nx (upd H5 D (.dK (putK kvs k z))) else Nx H3) := by
  refine dcw (K := K) w (fun i _ _ kvs => kvs.length ≤ i ∧ ∀ n : Str, valV kvs (.inr n) = if n ∈ xs.take i then some (.bl true) else none) (fun _ _ _ _ _ _ h => h) (fun _ _ _ _ h => h.1) (fun _ _ => ⟨Nat.le_refl _, fun n => by simp [valV_nil]⟩) hG (by rw [List.length_map]; exact hn) (fun i x H H' D kvs hi e y fD hk r N0 N1 h0 h1 => ?_) (fun D kvs H' fD e h r => hd D H' fD e ⟨kvs, h, fun n => ?_⟩)
  · obtain ⟨rfl, hx⟩ := y
    obtain ⟨m, hm, rfl, mm⟩ := strL_get hx
    refine hs m mm H' e N0 N1 (h1 (.inr m) (.bl true) H' .refl ⟨Nat.le_trans (length_putK _ _ _) (Nat.succ_le_succ r.1), fun n => ?_⟩)
    rw [valV_put, r.2 n]
    obtain ⟨hi', em⟩ := List.getElem?_eq_some_iff.mp hm
    rw [List.take_succ, hm]
    by_cases z : n = m
    · subst z; simp
    · by_cases q : n ∈ xs.take i
      · simp [z, q]
      · simp [z, q]
  · rw [r.2 n, List.length_map, List.take_length]
    by_cases z : n ∈ xs <;> simp [z]
end
abbrev lsKV (ls : Str → Addr) (D : List C) : List (Key × V) := D.map fun c => (.inr c.nm, .ref (ls c.nm))
abbrev tabF (dr dn dl : Addr) (m : Int) : List (Str × V) := [("records", .ref dr), ("numbers", .ref dn), ("lists", .ref dl), ("made", .int m)]
/-- the table at t, as it is read -/
def TabR (K : PySem.W.Frag) (H : Hp) (t : Addr) (D : List C) : Prop :=
  ∃ (dx dr dn dl : Addr) (m : Int) (ls : Str → Addr), H t = some (.ins (He.ga K "Table") dx (tabF dr dn dl m)) ∧ RecX K H dr D ∧ H dl = some (.dK (lsKV ls D)) ∧ (∀ c ∈ D, H (ls c.nm) = some (.lst (strL c.rg))) ∧ ∃ nk, H dn = some (.dK nk)
theorem TabR.ext {K : PySem.W.Frag} {H H' : Hp} (a : Ext K H H') {t : Addr} {D : List C} : TabR K H t D → TabR K H' t D
  | ⟨dx, dr, dn, dl, m, ls, h1, h2, h3, h4, nk, h5⟩ => ⟨dx, dr, dn, dl, m, ls, a.at h1 (nt_ins _ _ _), h2.ext a, a.at h3 (nt_dK _), fun c hc => a.at (h4 c hc) (nt_lst _), nk, a.at h5 (nt_dK _)⟩
end ST
set_option maxHeartbeats 4000000
namespace ST
open PySem PySem.Spec PyProof.Rows L2
section
variable {P : Program} {w : World} {K : PySem.W.Frag} {mg : Str → Option Value} {base : Heap}
def spSworn (K : PySem.W.Frag) : Sp := fun vs H Q _ => ∃ (d : Addr) (D : List C) (n : Str), vs = [.ref d, .str n] ∧ RecR K H d D ∧ Wf D ∧ n ∈ nms D ∧ RetV K (.bl (sw D n)) H Q
theorem ok_is_sworn (T : Tx K mg) : FnOk P w K mg base CX0 1 (He.fAd K d_is_sworn.at_) (fdOf K (He.fAd K d_is_sworn.at_)) ["table", "name"] (spSworn K) := by
  refine (F_is_sworn T).ok sc_is_sworn (fun vs H Q E h => ?_) (fun cdv A outer s H vs Q E hr h => ?_)
  · obtain ⟨d, D, n, rfl, _⟩ := h
    rfl
  · obtain ⟨d, D, n, rfl, hD, wf, hn, k⟩ := h
    have hu := hu_of hr
    refine ⟨_, PSs.nox (pss_one (ps_ret (pe_callB (k_any (K := K) rfl rfl) (by rfl) (z_any T) (by decide +kernel) (pa_cons (pe_lc (own := [("one", 2)]) (g := gName 2) (tt := tYes) rfl (sc_is_sworn).nd (i_list (K := K) rfl (w_fld (K := K) rfl (pe_dget hu (pv 0) (pv 1) (fun _ _ => rfl)))) (blkOk_by (by kernel_rfl)) (fun _ _ _ _ _ => (pg_name (i := 2) (sc_is_sworn).nd rfl (by first | exact Or.inl rfl | exact Or.inr rfl))) (fun _ _ _ _ _ => pts_nil) (fun _ _ _ _ _ => (w_fld (K := K) rfl (pe_dget hu (pv 0) (pv 2) (fun _ _ => rfl))))) pa_nil)))), ?_⟩
    obtain ⟨e, dx, ap, am, al, hv, g1, g2, g3, g4, g5⟩ := hD.get hn
    obtain ⟨l1, l2⟩ := wf.ln _ (at_mem hn).1
    refine ⟨_, rfl, _, rfl, d, _, rfl, g1, e, _, dx, _, _, rfl, g2, cl_Entry T, na_Entry_line T, rfl, al, rfl, ⟨_, .of g4⟩, ?_⟩
    refine lcS_bl (K := K) walk_list (fun m => (at_ D m).ow) (fun H e => ext_l e (.of g4)) (by omega) (fun m mm H1 e1 N0 N1 h1 => ?_) (fun L H' f e1 h => ?_)
    · obtain ⟨e', dx', ap', am', al', hv', q1, q2, _⟩ := (hD.ext e1).get (l1 m mm)
      exact ⟨rfl, _, rfl, _, rfl, d, _, rfl, q1, e', _, dx', _, _, rfl, q2, cl_Entry T, na_Entry_own_sworn T, rfl, h1 _ .refl⟩
    · refine ⟨L, _, rfl, .of h, ?_⟩
      rw [List.any_map]
      exact k _ e1
def spHookAns (K : PySem.W.Frag) : Sp := fun vs H Q _ => ∃ (a m : Addr) (cs : Hk) (ms : List Str), vs = [.ref a, .ref m] ∧ HkR H (.ref a) (some cs) ∧ (SqL K H m (strL ms) ∨ SqT K H m (strL ms)) ∧ (∀ q ∈ cs, q.1.length ≤ 50) ∧ RetV K (oB (ansH ms cs)) H Q
theorem ok_hook_answer (T : Tx K mg) : FnOk P w K mg base CX0 1 (He.fAd K d_hook_answer.at_) (fdOf K (He.fAd K d_hook_answer.at_)) ["hook", "methods"] (spHookAns K) := by
  refine (F_hook_answer T).ok sc_hook_answer (fun vs H Q E h => ?_) (fun cdv A outer s H vs Q E hr h => ?_)
  · obtain ⟨_, _, _, _, rfl, _⟩ := h
    rfl
  · obtain ⟨a, m, cs, ms, rfl, ⟨a', rs, ea, h1, h2⟩, hm, hl, k⟩ := h
    cases ea
    have hu := hu_of hr
    refine ⟨_, PSs.nox (pss_cons (ps_for PassesOwn.never rfl (i_tup (K := K) rfl (pv 0)) (g_tup (K := K) rfl rfl (pgs_cons (pg_name (i := 2) (sc_hook_answer).nd rfl (Or.inl rfl)) (pgs_cons (pg_name (i := 3) (sc_hook_answer).nd rfl (Or.inl rfl)) pgs_nil))) (pss_one (ps_if (pt_val (pe_callB (k_all (K := K) rfl rfl) (by rfl) (z_all T) (by decide +kernel) (pa_cons (pe_lc (own := [("method", 4)]) (g := gName 4) (tt := tYes) rfl (sc_hook_answer).nd (i_tup (K := K) rfl (pv 2)) (blkOk_by (by kernel_rfl)) (fun _ _ _ _ _ => (pg_name (i := 4) (sc_hook_answer).nd rfl (by first | exact Or.inl rfl | exact Or.inr rfl))) (fun _ _ _ _ _ => pts_nil) (fun _ _ _ _ _ => (pe_cmpR (o_in (K := K) rfl) (pv 4) (pv 1) (by rfl)))) pa_nil))) (pss_one (ps_ret (pv 3))) pss_nil)))
    (pss_one (ps_ret pe_non))), ?_⟩
    refine ⟨_, rfl, a, rfl, ⟨_, .of h1⟩, for_it walk_tup (fun i σ H' => (∃ x2 x3 x4, σ = [some (.ref a), some (.ref m), x2, x3, x4]) ∧ Ext K H H' ∧ ansH ms (cs.drop i) = ansH ms cs)
      ⟨⟨_, _, _, rfl⟩, .refl, rfl⟩ (fun i σ H' _ p => .of (p.2.1.tup h1)) ?_ ?_⟩
    · rintro i x σ H1 H1' hi ⟨⟨x2, x3, x4, rfl⟩, e1, ea⟩ ⟨rfl, hx⟩
      rw [List.getElem?_map] at hx
      obtain ⟨r, hr0, rfl⟩ : ∃ r, rs[i]? = some r ∧ x = .ref r := by
        cases q : rs[i]? with
        | none => rw [q] at hx; cases hx
        | some r => rw [q] at hx; exact ⟨r, rfl, (Option.some.inj hx).symm⟩
      obtain ⟨c, hc, p, p1, p2⟩ := paired_get h2 hr0
      rw [drop_cons hc] at ea
      refine ⟨r, _, rfl, .of (e1.tup p1), rfl, _, _, rfl, _, _, rfl, rfl, ?_⟩
      refine ⟨_, rfl, p, rfl, ⟨_, .of (e1.tup p2)⟩, ?_⟩
      refine lcS_bl (K := K) walk_tup (fun m => decide (m ∈ ms)) (fun H e => .of (e.tup (e1.tup p2))) (Nat.le_trans (hl c (List.mem_of_getElem? hc)) (by decide)) (fun z mm H2 e2 N0 N1 h1 => ?_) (fun L H' f e2 h => ?_)
      · refine ⟨rfl, _, rfl, _, rfl, m, _, rfl, hm.imp (ext_l (e1.trans e2)) (ext_t (e1.trans e2)), rfl, flat_strL _, ?_⟩
        show N1 (.bl (inV (.str z) (strL ms))) _
        rw [inV_str]
        exact h1 _ .refl
      · refine ⟨L, _, rfl, .of h, _, rfl, ?_⟩
        rw [List.all_map]
        refine ite2 (fun q => ?_) (fun q => ?_)
        · refine ⟨_, rfl, ?_⟩
          have z : ansH ms cs = some c.2 := by
            rw [← ea]
            exact if_pos q
          rw [z] at k
          exact k _ (e1.trans e2)
        · refine ⟨⟨_, _, _, rfl⟩, e1.trans e2, ?_⟩
          rw [← ea]
          exact (if_neg q).symm
    · rintro σ H1 ⟨⟨x2, x3, x4, rfl⟩, e1, ea⟩
      have z : cs.drop (rs.map V.ref).length = [] := by
        rw [List.length_map, paired_len h2, List.drop_length]
      rw [z] at ea
      rw [← ea] at k
      exact k _ e1
def spHookFor (K : PySem.W.Frag) : Sp := fun vs H Q _ => ∃ (d : Addr) (D : List C) (n : Str), vs = [.ref d, .str n] ∧ RecR K H d D ∧ Wf D ∧ n ∈ nms D ∧ ∀ v H', Ext K H H' → HkR H' v (hookFor D n) → Q v H'
theorem ok_hook_for (T : Tx K mg) : FnOk P w K mg base CX0 1 (He.fAd K d_hook_for.at_) (fdOf K (He.fAd K d_hook_for.at_)) ["table", "name"] (spHookFor K) := by
  refine (F_hook_for T).ok sc_hook_for (fun vs H Q E h => ?_) (fun cdv A outer s H vs Q E hr h => ?_)
  · obtain ⟨d, D, n, rfl, _⟩ := h
    rfl
  · obtain ⟨d, D, n, rfl, hD, wf, hn, k⟩ := h
    have hu := hu_of hr
    refine ⟨_, PSs.nox (pss_cons (ps_for PassesOwn.never rfl (i_list (K := K) rfl (w_fld (K := K) rfl (pe_dget hu (pv 0) (pv 1) (fun _ _ => rfl)))) (pg_name (i := 2) (sc_hook_for).nd rfl (Or.inl rfl)) (pss_cons (ps_set (i := 3) (sc_hook_for).nd rfl (Or.inl rfl) (pe_dget hu (pv 0) (pv 2) (fun _ _ => rfl)))
    (pss_one (ps_if (pt_cmpR op_notN (w_fld (K := K) rfl (pv 3)) pe_non (nomark _)) (pss_one (ps_ret (pe_ifExp (PW.pt (pw_or (pt_cmpR op_eq (pv 2) (pv 1) (nomark _)) (pw_or1 (pt_val (w_fld (K := K) rfl (pv 3)))))) (w_fld (K := K) rfl (pv 3)) pe_non))) pss_nil))))
    (pss_one (ps_ret pe_non))), ?_⟩
    obtain ⟨e, dx, ap, am, al, hv, g1, g2, g3, g4, g5⟩ := hD.get hn
    obtain ⟨l1, l2⟩ := wf.ln _ (at_mem hn).1
    refine ⟨_, rfl, _, rfl, d, _, rfl, g1, e, _, dx, _, _, rfl, g2, cl_Entry T, na_Entry_line T, rfl, al, rfl, ⟨_, .of g4⟩, for_it walk_list (fun i σ H' => (∃ x2 x3, σ = [some (.ref d), some (.str n), x2, x3]) ∧ Ext K H H' ∧ hookGo D n ((at_ D n).ln.drop i) = hookFor D n)
      ⟨⟨_, _, rfl⟩, .refl, rfl⟩ (fun i σ H' _ p => ext_l p.2.1 (.of g4)) ?_ ?_⟩
    · rintro i x σ H1 H1' hi ⟨⟨x2, x3, rfl⟩, e1, ea⟩ ⟨rfl, hx⟩
      obtain ⟨m, hm, rfl, mm⟩ := strL_get hx
      rw [drop_cons hm] at ea
      obtain ⟨e', dx', ap', am', al', hv', q1, q2, _, _, q5⟩ := (hD.ext e1).get (l1 m mm)
      refine ⟨_, rfl, _, rfl, d, _, rfl, q1, ?_⟩
      refine ⟨_, rfl, e', _, dx', _, _, rfl, q2, cl_Entry T, na_Entry_own_hook T, rfl, rfl, _, rfl, ?_⟩
      cases ek : (at_ D m).hk with
      | none =>
        rw [ek] at q5
        have q5 : hv' = .non := q5
        subst q5
        refine ⟨⟨_, _, rfl⟩, e1, ?_⟩
        rw [← ea]
        show _ = (match (at_ D m).hk with | some h => _ | none => _)
        rw [ek]
      | some cs =>
        rw [ek] at q5
        have ea2 : (if m = n ∨ (at_ D m).pa = true then some cs else none) = hookFor D n := by
          rw [← ea]
          show _ = (match (at_ D m).hk with | some h => _ | none => _)
          rw [ek]
        obtain ⟨a, rs, rfl, _⟩ := id q5
        refine iteT ?_
        refine ⟨_, rfl, _, rfl, rfl, _, rfl, ?_⟩
        have out : ∀ b : Prop, [Decidable b] → (b ↔ (m = n ∨ (at_ D m).pa = true)) → (if b then Q (.ref a) H1' else Q .non H1') := fun b _ ib => by
          by_cases hb : b
          · rw [if_pos hb]
            rw [if_pos (ib.mp hb)] at ea2
            exact k _ _ e1 (by rw [← ea2]; exact q5)
          · rw [if_neg hb]
            rw [if_neg (fun z => hb (ib.mpr z))] at ea2
            exact k _ _ e1 (by rw [← ea2]; rfl)
        by_cases hmn : m = n
        · have z := out True (by simp [hmn])
          rw [if_pos trivial] at z
          refine ite2 (fun _ => ?_) (fun q => (q (by rw [hmn]; simp)).elim)
          refine iteT ?_
          exact ⟨_, rfl, e', _, dx', _, _, rfl, q2, cl_Entry T, na_Entry_own_hook T, rfl, z⟩
        · refine ite2 (fun q => (hmn (by simpa using q)).elim) (fun _ => ?_)
          refine ⟨_, rfl, e', _, dx', _, _, rfl, q2, cl_Entry T, na_Entry_passed_on T, rfl, _, rfl, ?_⟩
          have z := out ((at_ D m).pa = true) (by simp [hmn])
          refine ite2 (fun hp => ?_) (fun hp => ?_)
          · rw [if_pos hp] at z
            exact ⟨_, rfl, e', _, dx', _, _, rfl, q2, cl_Entry T, na_Entry_own_hook T, rfl, z⟩
          · rw [if_neg hp] at z
            exact z
    · rintro σ H1 ⟨⟨x2, x3, rfl⟩, e1, ea⟩
      rw [List.length_map, List.drop_length] at ea
      exact k _ _ e1 (by rw [← ea]; rfl)
def spAnsBy (K : PySem.W.Frag) : Sp := fun vs H Q _ => ∃ (d m : Addr) (D : List C) (n : Str) (ms : List Str), vs = [.ref d, .str n, .ref m] ∧ RecR K H d D ∧ Wf D ∧ n ∈ nms D ∧ (SqL K H m (strL ms) ∨ SqT K H m (strL ms)) ∧ RetV K (oB (ans D n ms)) H Q
theorem hookGo_mem {D : List C} {n : Str} {h : Hk} : ∀ {l : List Str}, hookGo D n l = some h → ∃ m ∈ l, (at_ D m).hk = some h
  | [], e => by cases e
  | m :: r, e => by
    have e' : (match (at_ D m).hk with | some h => if m = n ∨ (at_ D m).pa = true then some h else none | none => hookGo D n r) = some h := e
    cases q : (at_ D m).hk with
    | none =>
      rw [q] at e'
      obtain ⟨z, hz, e2⟩ := hookGo_mem e'
      exact ⟨z, List.mem_cons_of_mem _ hz, e2⟩
    | some h' =>
      rw [q] at e'
      have e2 : (if m = n ∨ (at_ D m).pa = true then some h' else none) = some h := e'
      by_cases z : m = n ∨ (at_ D m).pa = true
      · rw [if_pos z] at e2
        exact ⟨m, List.mem_cons_self .., by rw [q, e2]⟩
      · rw [if_neg z] at e2
        cases e2
theorem ok_answer_by_hook (T : Tx K mg) : FnOk P w K mg base CX0 2 (He.fAd K d_answer_by_hook.at_) (fdOf K (He.fAd K d_answer_by_hook.at_)) ["table", "name", "methods"] (spAnsBy K) := by
  refine (F_answer_by_hook T).ok sc_answer_by_hook (fun vs H Q E h => ?_) (fun cdv A outer s H vs Q E hr h => ?_)
  · obtain ⟨_, _, _, _, _, rfl, _⟩ := h
    rfl
  · obtain ⟨d, m, D, n, ms, rfl, hD, wf, hn, hm, k⟩ := h
    have hu := hu_of hr
    refine ⟨_, PSs.nox (pss_cons (ps_set (i := 3) (sc_answer_by_hook).nd rfl (Or.inl rfl) (pe_ifExp (pt_val (pe_call (ok_is_sworn T) (hr.mono (by decide)) rfl (g_is_sworn T) (F_is_sworn T).kp (b_is_sworn T) .nil pass0 (pa_cons (pv 0) (pa_cons (pv 1) pa_nil)))) (pe_call (ok_hook_for T) (hr.mono (by decide)) rfl (g_hook_for T) (F_hook_for T).kp (b_hook_for T) .nil pass0 (pa_cons (pv 0) (pa_cons (pv 1) pa_nil))) pe_non))
    (pss_one (ps_ret (pe_ifExp (pt_cmpR op_isN (pv 3) pe_non (nomark _)) pe_non (pe_call (ok_hook_answer T) (hr.mono (by decide)) rfl (g_hook_answer T) (F_hook_answer T).kp (b_hook_answer T) .nil pass0 (pa_cons (pv 3) (pa_cons (pv 2) pa_nil))))))), ?_⟩
    refine ⟨_, rfl, _, rfl, d, D, n, rfl, hD, wf, hn, fun H1 e1 => ⟨_, rfl, ?_⟩⟩
    refine ite2 (fun hs => ?_) (fun hs => ?_)
    · refine ⟨_, rfl, _, rfl, d, D, n, rfl, hD.ext e1, wf, hn, fun v H2 e2 hv => ?_⟩
      refine ⟨_, rfl, rfl, _, rfl, ?_⟩
      have ea : ans D n ms = (hookFor D n).bind (ansH ms) := if_pos hs
      rw [ea] at k
      cases eh : hookFor D n with
      | none =>
        rw [eh] at hv k
        have hv : v = .non := hv
        subst hv
        exact k _ (e1.trans e2)
      | some cs =>
        rw [eh] at hv k
        obtain ⟨a, rs, rfl, _⟩ := id hv
        refine iteF ?_
        obtain ⟨z, hz, e3⟩ := hookGo_mem eh
        obtain ⟨w1, w2⟩ := wf.hk _ (at_mem ((wf.ln _ (at_mem hn).1).1 z hz)).1 _ e3
        exact ⟨_, rfl, _, rfl, a, m, cs, ms, rfl, hv, hm.imp (ext_l (e1.trans e2)) (ext_t (e1.trans e2)), w2, fun H3 e3 => k _ ((e1.trans e2).trans e3)⟩
    · refine ⟨_, rfl, rfl, _, rfl, ?_⟩
      have ea : ans D n ms = none := if_neg hs
      rw [ea] at k
      exact k _ e1
def spSubs (K : PySem.W.Frag) : Sp := fun vs H Q _ => ∃ (d : Addr) (D : List C) (n : Str), vs = [.ref d, .str n] ∧ RecX K H d D ∧ Wf D ∧ RetL K (strL (subs D n)) H Q
theorem subs_eq {D : List C} (nd : (nms D).Nodup) (n : Str) : (nms D).filterMap (fun m => if n ∈ (at_ D m).bs then some m else none) = subs D n := by
  unfold subs nms
  rw [List.filterMap_map]
  have key : ∀ E : List C, (∀ c ∈ E, at_ D c.nm = c) → E.filterMap ((fun m => if n ∈ (at_ D m).bs then some m else none) ∘ fun x => x.nm) = (E.filter fun c => decide (n ∈ c.bs)).map (·.nm) := by
    intro E
    induction E with
    | nil => intro _; rfl
    | cons c r ih =>
      intro h
      have hc := h c (List.mem_cons_self ..)
      have ih := ih fun x hx => h x (List.mem_cons_of_mem _ hx)
      by_cases q : n ∈ c.bs
      · simp [List.filterMap_cons, hc, q, ih]
      · simp [List.filterMap_cons, hc, q, ih]
  refine key D fun c hc => ?_
  obtain ⟨m1, m2⟩ := at_mem (D := D) (n := c.nm) (List.mem_map.mpr ⟨c, hc, rfl⟩)
  obtain ⟨i, hi, ei⟩ := List.getElem_of_mem m1
  obtain ⟨j, hj, ej⟩ := List.getElem_of_mem hc
  have e1 : (nms D)[i]? = some c.nm := by
    rw [List.getElem?_map, List.getElem?_eq_getElem hi, ei]
    exact congrArg some m2
  have e2 : (nms D)[j]? = some c.nm := by
    rw [List.getElem?_map, List.getElem?_eq_getElem hj, ej]
    rfl
  have := nodup_ix nd e1 e2
  subst this
  rw [← ei, ej]
theorem ok_subclasses (T : Tx K mg) : FnOk P w K mg base CX0 1 (He.fAd K d_subclasses.at_) (fdOf K (He.fAd K d_subclasses.at_)) ["table", "name"] (spSubs K) := by
  refine (F_subclasses T).ok sc_subclasses (fun vs H Q E h => ?_) (fun cdv A outer s H vs Q E hr h => ?_)
  · obtain ⟨_, _, _, rfl, _⟩ := h
    rfl
  · obtain ⟨d, D, n, rfl, hD, wf, k⟩ := h
    have hu := hu_of hr
    refine ⟨_, PSs.nox (pss_one (ps_ret (pe_lock (pe_lc (own := [("one", 2)]) (g := gName 2) (tt := _) rfl (sc_subclasses).nd (pi_keys (pv 0)) (blkOk_by (by kernel_rfl)) (fun _ _ _ _ _ => (pg_name (i := 2) (sc_subclasses).nd rfl (by first | exact Or.inl rfl | exact Or.inr rfl))) (fun _ _ _ _ _ => pts_one (pt_cmpR (o_in (K := K) rfl) (pv 1) (w_fld (K := K) rfl (pe_dget hu (pv 0) (pv 2) (fun _ _ => rfl))) (by rfl))) (fun _ _ _ _ _ => (pv 2)))))), ?_⟩
    obtain ⟨ent, h1, hl⟩ := hD.lock
    refine ⟨d, _, h1, trivial, fun od => ⟨_, rfl, d, od, rfl, .inl ⟨_, upd_same, ?_⟩⟩⟩
    refine lcS_str (K := K) (walk_recs fun c => V.ref (ent c.nm)) (fun m => if n ∈ (at_ D m).bs then some m else none) (fun H e => e.at upd_same (nt_frz _ _)) (by rw [List.length_map]; exact Nat.le_trans wf.len (by decide)) (fun m mm H1 e1 N0 N1 h0 h1 => ?_) (fun L H' f e1 h => ?_)
    · obtain ⟨e', dx', ap', am', al', hv', q1, q2, q3, _⟩ := ((hl od).ext e1).get mm
      refine ⟨rfl, _, rfl, _, rfl, _, rfl, d, _, rfl, q1, e', _, dx', _, _, rfl, q2, cl_Entry T, na_Entry_parents T, rfl, ap', _, rfl, .inr (.of q3), rfl, flat_strL _, _, rfl, ?_⟩
      show if inV (.str n) (strL (at_ D m).bs) = true then _ else _
      rw [inV_str]
      by_cases hb : n ∈ (at_ D m).bs
      · rw [if_pos (decide_eq_true hb)]
        exact ⟨_, rfl, h1 _ (if_pos hb) _ .refl⟩
      · rw [if_neg (by simpa using hb)]
        exact h0 (if_neg hb) _ .refl
    · have hd := e1.at upd_same (nt_frz _ _)
      refine ⟨hd, k _ _ (ext_unlock h1 trivial e1 hd) (fun z => f (al_upd (nt_frz _ _) z)) ?_⟩
      rw [upd_ne (ne_of h hd (fun z => by cases z)), h, subs_eq wf.nd]
end
end ST
set_option maxHeartbeats 4000000
namespace ST
open PySem PySem.Spec PyProof.Rows L2
section
variable {P : Program} {w : World} {K : PySem.W.Frag} {mg : Str → Option Value} {base : Heap}
def spTSworn (K : PySem.W.Frag) : Sp := fun vs H Q _ => ∃ (t : Addr) (D : List C) (n : Str), vs = [.ref t, .str n] ∧ TabR K H t D ∧ Wf D ∧ n ∈ nms D ∧ RetV K (.bl (sw D n)) H Q
theorem ok_Table_sworn (T : Tx K mg) : FnOk P w K mg base CX0 2 (He.fAd K d_Table_sworn.at_) (fdOf K (He.fAd K d_Table_sworn.at_)) ["self", "name"] (spTSworn K) := by
  refine (F_Table_sworn T).ok sc_Table_sworn (fun vs H Q E h => ?_) (fun cdv A outer s H vs Q E hr h => ?_)
  · obtain ⟨_, _, _, rfl, _⟩ := h
    rfl
  · obtain ⟨t, D, n, rfl, ⟨dx, dr, dn, dl, m, ls, h1, h2, h3, h4⟩, wf, hn, k⟩ := h
    have hu := hu_of hr
    refine ⟨_, PSs.nox (pss_one (ps_ret (pe_call (ok_is_sworn T) (hr.mono (by decide)) rfl (g_is_sworn T) (F_is_sworn T).kp (b_is_sworn T) .nil pass0 (pa_cons (w_fld (K := K) rfl (pv 0)) (pa_cons (pv 1) pa_nil))))), ?_⟩
    exact ⟨_, rfl, t, _, dx, _, _, rfl, h1, cl_Table T, na_Table_records T, rfl, _, rfl, dr, D, n, rfl, h2.r, wf, hn, k⟩
def spTBelow (K : PySem.W.Frag) : Sp := fun vs H Q _ => ∃ (t : Addr) (D : List C) (n : Str), vs = [.ref t, .str n] ∧ TabR K H t D ∧ Wf D ∧ RetL K (strL (subs D n)) H Q
theorem ok_Table_below (T : Tx K mg) : FnOk P w K mg base CX0 2 (He.fAd K d_Table_below.at_) (fdOf K (He.fAd K d_Table_below.at_)) ["self", "name"] (spTBelow K) := by
  refine (F_Table_below T).ok sc_Table_below (fun vs H Q E h => ?_) (fun cdv A outer s H vs Q E hr h => ?_)
  · obtain ⟨_, _, _, rfl, _⟩ := h
    rfl
  · obtain ⟨t, D, n, rfl, ⟨dx, dr, dn, dl, m, ls, h1, h2, h3, h4⟩, wf, k⟩ := h
    have hu := hu_of hr
    refine ⟨_, PSs.nox (pss_one (ps_ret (pe_call (ok_subclasses T) (hr.mono (by decide)) rfl (g_subclasses T) (F_subclasses T).kp (b_subclasses T) .nil pass0 (pa_cons (w_fld (K := K) rfl (pv 0)) (pa_cons (pv 1) pa_nil))))), ?_⟩
    exact ⟨_, rfl, t, _, dx, _, _, rfl, h1, cl_Table T, na_Table_records T, rfl, _, rfl, dr, D, n, rfl, h2, wf, k⟩
def spTAnsFor (K : PySem.W.Frag) : Sp := fun vs H Q _ => ∃ (t m : Addr) (D : List C) (n : Str) (ms : List Str), vs = [.ref t, .str n, .ref m] ∧ TabR K H t D ∧ Wf D ∧ n ∈ nms D ∧ (SqL K H m (strL ms) ∨ SqT K H m (strL ms)) ∧ RetV K (oB (ans D n ms)) H Q
theorem ok_Table_answer_for (T : Tx K mg) : FnOk P w K mg base CX0 3 (He.fAd K d_Table_answer_for.at_) (fdOf K (He.fAd K d_Table_answer_for.at_)) ["self", "name", "methods"] (spTAnsFor K) := by
  refine (F_Table_answer_for T).ok sc_Table_answer_for (fun vs H Q E h => ?_) (fun cdv A outer s H vs Q E hr h => ?_)
  · obtain ⟨_, _, _, _, _, rfl, _⟩ := h
    rfl
  · obtain ⟨t, m, D, n, ms, rfl, ⟨dx, dr, dn, dl, mm, ls, h1, h2, h3, h4⟩, wf, hn, hm, k⟩ := h
    have hu := hu_of hr
    refine ⟨_, PSs.nox (pss_one (ps_ret (pe_call (ok_answer_by_hook T) (hr.mono (by decide)) rfl (g_answer_by_hook T) (F_answer_by_hook T).kp (b_answer_by_hook T) .nil pass0 (pa_cons (w_fld (K := K) rfl (pv 0)) (pa_cons (pv 1) (pa_cons (pv 2) pa_nil)))))), ?_⟩
    exact ⟨_, rfl, t, _, dx, _, _, rfl, h1, cl_Table T, na_Table_records T, rfl, _, rfl, _, rfl, dr, m, D, n, ms, rfl, h2.r, wf, hn, hm, k⟩
def spTAbove (K : PySem.W.Frag) : Sp := fun vs H Q _ => ∃ (t : Addr) (D : List C) (n o : Str), vs = [.ref t, .str n, .str o] ∧ TabR K H t D ∧ o ∈ nms D ∧ RetV K (.bl (decide (n ∈ (at_ D o).ln))) H Q
theorem ok_Table_is_above (T : Tx K mg) : FnOk P w K mg base CX0 1 (He.fAd K d_Table_is_above.at_) (fdOf K (He.fAd K d_Table_is_above.at_)) ["self", "name", "other"] (spTAbove K) := by
  refine (F_Table_is_above T).ok sc_Table_is_above (fun vs H Q E h => ?_) (fun cdv A outer s H vs Q E hr h => ?_)
  · obtain ⟨_, _, _, _, rfl, _⟩ := h
    rfl
  · obtain ⟨t, D, n, o, rfl, ⟨dx, dr, dn, dl, m, ls, h1, h2, h3, h4⟩, ho, k⟩ := h
    have hu := hu_of hr
    refine ⟨_, PSs.nox (pss_one (ps_ret (pe_cmpR (o_in (K := K) rfl) (pv 1) (w_fld (K := K) rfl (pe_dget hu (w_fld (K := K) rfl (pv 0)) (pv 2) (fun _ _ => rfl))) (by rfl)))), ?_⟩
    obtain ⟨e, dx', ap, am, al, hv, g1, g2, g3, g4, g5⟩ := h2.r.get ho
    refine ⟨_, rfl, _, rfl, t, _, dx, _, _, rfl, h1, cl_Table T, na_Table_records T, rfl, _, rfl, dr, _, rfl, g1, e, _, dx', _, _, rfl, g2, cl_Entry T, na_Entry_line T, rfl, al, _, rfl, .inl (.of g4), rfl, flat_strL _, ?_⟩
    show Q (.bl (inV (.str n) (strL (at_ D o).ln))) _
    rw [inV_str]
    exact k _ .refl
def spTNext (K : PySem.W.Frag) : Sp := fun vs H Q _ => ∃ (t : Addr) (D : List C) (n : Str), vs = [.ref t, .str n] ∧ TabR K H t D ∧ Wf D ∧ n ∈ nms D ∧ RetL K (strL (nxt D n)) H Q
theorem subs_len {D : List C} (wf : Wf D) (n : Str) : (subs D n).length ≤ 50 := by
  unfold subs
  rw [List.length_map]
  exact Nat.le_trans (List.length_filter_le _ _) wf.len
theorem nxt_len {D : List C} (wf : Wf D) {n : Str} (hn : n ∈ nms D) : (nxt D n).length ≤ 100 := by
  unfold nxt
  split
  · rw [List.length_append]
    have h1 := (wf.rg _ (at_mem hn).1).2
    have h2 := Nat.le_trans (List.length_filter_le (fun o => decide (o ∉ (at_ D n).rg)) (subs D n)) (subs_len wf n)
    omega
  · exact Nat.zero_le _
theorem filterMap_filter {α : Type} (p : α → Prop) [DecidablePred p] (xs : List α) : xs.filterMap (fun x => if p x then some x else none) = xs.filter fun x => decide (p x) := by
  induction xs with
  | nil => rfl
  | cons x r ih =>
    by_cases h : p x
    · simp [List.filterMap_cons, List.filter_cons, h, ih]
    · simp [List.filterMap_cons, List.filter_cons, h, ih]
theorem ok_Table_next_of (T : Tx K mg) : FnOk P w K mg base CX0 3 (He.fAd K d_Table_next_of.at_) (fdOf K (He.fAd K d_Table_next_of.at_)) ["self", "name"] (spTNext K) := by
  refine (F_Table_next_of T).ok sc_Table_next_of (fun vs H Q E h => ?_) (fun cdv A outer s H vs Q E hr h => ?_)
  · obtain ⟨_, _, _, rfl, _⟩ := h
    rfl
  · obtain ⟨t, D, n, rfl, hT, wf, hn, k⟩ := h
    have hu := hu_of hr
    refine ⟨_, PSs.nox (pss_cons (ps_if (pt_not (pt_val (pe_meth (pv 0) (cl_Table T) (m_Table_sworn T) (ok_Table_sworn T) (hr.mono (by decide)) (b_Table_sworn T) .nil pass0 (pa_cons (pv 1) pa_nil)))) (pss_one (ps_ret (pe_lst pa_nil))) pss_nil)
    (pss_cons (ps_set (i := 2) (sc_Table_next_of).nd rfl (Or.inr rfl) (pe_dget hu (w_fld (K := K) rfl (pv 0)) (pv 1) (fun _ _ => rfl)))
    (pss_one (ps_ret (pe_op op_cat (pv 2) (pe_lc (own := [("other", 3)]) (g := gName 3) (tt := _) rfl (sc_Table_next_of).nd (i_list (K := K) rfl (pe_meth (pv 0) (cl_Table T) (m_Table_below T) (ok_Table_below T) (hr.mono (by decide)) (b_Table_below T) .nil pass0 (pa_cons (pv 1) pa_nil))) (blkOk_by (by kernel_rfl)) (fun _ _ _ _ _ => (pg_name (i := 3) (sc_Table_next_of).nd rfl (by first | exact Or.inl rfl | exact Or.inr rfl))) (fun _ _ _ _ _ => pts_one (pt_cmpR (o_ni (K := K) rfl) (pv 3) (pv 2) (by rfl))) (fun _ _ _ _ _ => (pv 3)))))))), ?_⟩
    obtain ⟨dx, dr, dn, dl, m, ls, h1, _⟩ := id hT
    refine ⟨_, rfl, t, dx, _, rfl, h1, rfl, _, rfl, t, D, n, rfl, hT, wf, hn, fun H1 e1 => ⟨_, rfl, ?_⟩⟩
    obtain ⟨dx, dr, dn, dl, m, ls, h1, h2, h3, h4⟩ := id (hT.ext e1)
    have hnx : nxt D n = if sw D n = true then (at_ D n).rg ++ (subs D n).filter (fun o => decide (o ∉ (at_ D n).rg)) else [] := rfl
    cases hs : sw D n with
    | false =>
      rw [hs] at hnx
      rw [hnx] at k
      refine iteT ⟨Nat.zero_le _, fun p hp => ?_⟩
      exact k.new e1 hp
    | true =>
      rw [hs] at hnx
      have hnx : nxt D n = (at_ D n).rg ++ (subs D n).filter (fun o => decide (o ∉ (at_ D n).rg)) := hnx
      obtain ⟨m1, m2⟩ := at_mem hn
      have hl := h4.1 _ m1
      rw [m2] at hl
      refine iteF ⟨_, rfl, t, _, dx, _, _, rfl, h1, cl_Table T, na_Table_lists T, rfl, _, rfl, dl, .ref (ls n), rfl, .inl ⟨_, .inr n, .of h3, rfl, by rw [valV_map fun n => V.ref (ls n), if_pos hn]⟩, ?_⟩
      refine ⟨_, rfl, _, rfl, t, dx, _, rfl, h1, rfl, _, rfl, t, D, n, rfl, hT.ext e1, wf, fun p H2 e2 f2 hp => ?_⟩
      refine ⟨p, rfl, ⟨_, .of hp⟩, ?_⟩
      refine lcS_str (K := K) walk_list (fun o => if o ∉ (at_ D n).rg then some o else none) (fun H e => ext_l e (.of hp)) (Nat.le_trans (subs_len wf n) (by decide)) (fun o ho H3 e3 N0 N1 h0 h1 => ?_) (fun L H' f3 e3 h => ?_)
      · refine ⟨rfl, _, rfl, _, rfl, ls n, _, rfl, .inl (.of ((e2.trans e3).at hl (nt_lst _))), rfl, flat_strL _, _, rfl, ?_⟩
        show if (!inV (.str o) (strL (at_ D n).rg)) = true then _ else _
        rw [inV_str]
        by_cases q : o ∈ (at_ D n).rg
        · rw [if_neg (by simp [q])]
          exact h0 (if_neg (fun z => z q)) _ .refl
        · rw [if_pos (by simp [q])]
          exact ⟨_, rfl, h1 _ (if_pos q) _ .refl⟩
      · rw [filterMap_filter] at h
        refine ⟨ls n, L, _, _, rfl, rfl, (e2.trans e3).at hl (nt_lst _), h, ?_, fun p' hp' => ?_⟩
        · have := nxt_len wf hn
          rw [hnx, List.length_append] at this
          rw [List.length_map, List.length_map]
          exact Nat.le_trans this (by decide)
        · rw [hnx] at k
          have z := k.new ((e1.trans e2).trans e3) hp'
          rw [strL_append] at z
          exact z
def spDecl (K : PySem.W.Frag) : Sp := fun vs H Q _ => ∃ (t m : Addr) (D : List C) (n : Str) (ms : List Str), vs = [.ref t, .str n, .ref m] ∧ TabR K H t D ∧ Wf D ∧ n ∈ nms D ∧ (SqL K H m (strL ms) ∨ SqT K H m (strL ms)) ∧ RetV K (.bl (decl D n ms)) H Q
theorem oB_none (o : Option Bool) : decide (oB o = V.non) = decide (o = none) := by cases o <;> rfl
theorem ok_declines (T : Tx K mg) : FnOk P w K mg base CX0 4 (He.fAd K d_declines.at_) (fdOf K (He.fAd K d_declines.at_)) ["table", "name", "methods"] (spDecl K) := by
  refine (F_declines T).ok sc_declines (fun vs H Q E h => ?_) (fun cdv A outer s H vs Q E hr h => ?_)
  · obtain ⟨_, _, _, _, _, rfl, _⟩ := h
    rfl
  · obtain ⟨t, m, D, n, ms, rfl, hT, wf, hn, hm, k⟩ := h
    have hu := hu_of hr
    refine ⟨_, PSs.nox (pss_one (ps_ret (pe_and (pe_meth (pv 0) (cl_Table T) (m_Table_sworn T) (ok_Table_sworn T) (hr.mono (by decide)) (b_Table_sworn T) .nil pass0 (pa_cons (pv 1) pa_nil)) (pe_one (pe_cmpR op_isN (pe_meth (pv 0) (cl_Table T) (m_Table_answer_for T) (ok_Table_answer_for T) (hr.mono (by decide)) (b_Table_answer_for T) .nil pass0 (pa_cons (pv 1) (pa_cons (pv 2) pa_nil))) pe_non (nomark _)))))), ?_⟩
    obtain ⟨dx, dr, dn, dl, mm, ls, h1, _⟩ := id hT
    refine ⟨_, rfl, t, dx, _, rfl, h1, rfl, _, rfl, t, D, n, rfl, hT, wf, hn, fun H1 e1 => ⟨_, rfl, ?_⟩⟩
    have hd : decl D n ms = (sw D n && decide (ans D n ms = none)) := rfl
    cases hs : sw D n with
    | false =>
      rw [hs] at hd
      rw [hd] at k
      exact iteF (k _ e1)
    | true =>
      rw [hs] at hd
      rw [hd] at k
      refine iteT ⟨_, rfl, t, dx, _, rfl, e1.at h1 (nt_ins _ _ _), rfl, _, rfl, _, rfl, t, m, D, n, ms, rfl, hT.ext e1, wf, hn, hm.imp (ext_l e1) (ext_t e1), fun H2 e2 => ⟨rfl, ?_⟩⟩
      rw [oB_none]
      exact k _ (e1.trans e2)
def spNextIn (K : PySem.W.Frag) : Sp := fun vs H Q _ => ∃ (t h : Addr) (D : List C) (hs : List Str) (n : Str), vs = [.ref t, .ref h, .str n] ∧ TabR K H t D ∧ Wf D ∧ HeldR H h hs ∧ n ∈ nms D ∧ RetL K (strL ((nxt D n).filter fun o => decide (o ∈ hs))) H Q
theorem ok_next_in (T : Tx K mg) : FnOk P w K mg base CX0 4 (He.fAd K d_next_in.at_) (fdOf K (He.fAd K d_next_in.at_)) ["table", "held", "name"] (spNextIn K) := by
  refine (F_next_in T).ok sc_next_in (fun vs H Q E h => ?_) (fun cdv A outer s H vs Q E hr h => ?_)
  · obtain ⟨_, _, _, _, _, rfl, _⟩ := h
    rfl
  · obtain ⟨t, hh, D, hs, n, rfl, hT, wf, hH, hn, k⟩ := h
    have hu := hu_of hr
    refine ⟨_, PSs.nox (pss_one (ps_ret (pe_lc (own := [("other", 3)]) (g := gName 3) (tt := _) rfl (sc_next_in).nd (i_list (K := K) rfl (pe_meth (pv 0) (cl_Table T) (m_Table_next_of T) (ok_Table_next_of T) (hr.mono (by decide)) (b_Table_next_of T) .nil pass0 (pa_cons (pv 2) pa_nil))) (blkOk_by (by kernel_rfl)) (fun _ _ _ _ _ => (pg_name (i := 3) (sc_next_in).nd rfl (by first | exact Or.inl rfl | exact Or.inr rfl))) (fun _ _ _ _ _ => pts_one (pt_cmp (pc_din hu (pv 3) (pv 1)))) (fun _ _ _ _ _ => (pv 3))))), ?_⟩
    obtain ⟨dx, dr, dn, dl, mm, ls, h1, _⟩ := id hT
    refine ⟨_, rfl, t, dx, _, rfl, h1, rfl, _, rfl, t, D, n, rfl, hT, wf, hn, fun p H2 e2 f2 hp => ?_⟩
    refine ⟨p, rfl, ⟨_, .of hp⟩, ?_⟩
    refine lcS_str (K := K) walk_list (fun o => if o ∈ hs then some o else none) (fun H e => ext_l e (.of hp)) (Nat.le_trans (nxt_len wf hn) (by decide)) (fun o ho H3 e3 N0 N1 h0 h1 => ?_) (fun L H' f3 e3 h => ?_)
    · obtain ⟨kvs, q1, q2⟩ := hH.ext (e2.trans e3)
      refine ⟨rfl, _, rfl, _, rfl, hh, _, rfl, DGet.k (k := Sum.inr o) q1, _, rfl, ?_⟩
      rw [q2 o]
      refine ite2 (fun q => ?_) (fun q => ?_)
      · exact ⟨_, rfl, h1 _ (if_pos (by simpa using q)) _ .refl⟩
      · exact h0 (if_neg (by simpa using q)) _ .refl
    · rw [filterMap_filter] at h
      exact k.go (e2.trans e3) (fresh_back e2 f3) h
def spHeld (K : PySem.W.Frag) : Sp := fun vs H Q _ => ∃ (t : Addr) (D : List C) (c o : Str), vs = [.ref t, .str c, .str o] ∧ TabR K H t D ∧ Wf D ∧ c ∈ nms D ∧ o ∈ nms D ∧ ∀ p H', Ext K H H' → HeldR H' p ((at_ D c).ln ++ (at_ D o).ln) → Q (.ref p) H'
theorem ok_held_by (T : Tx K mg) : FnOk P w K mg base CX0 1 (He.fAd K d_held_by.at_) (fdOf K (He.fAd K d_held_by.at_)) ["table", "cls", "other"] (spHeld K) := by
  refine (F_held_by T).ok sc_held_by (fun vs H Q E h => ?_) (fun cdv A outer s H vs Q E hr h => ?_)
  · obtain ⟨_, _, _, _, rfl, _⟩ := h
    rfl
  · obtain ⟨t, D, c, o, rfl, ⟨dx, dr, dn, dl, m, ls, h1, h2, h3, h4⟩, wf, hc, ho, k⟩ := h
    have hu := hu_of hr
    refine ⟨_, PSs.nox (pss_one (ps_ret (pe_dc (own := [("name", 3)]) (g := gName 3) (tt := tYes) rfl (sc_held_by).nd (i_list (K := K) rfl (pe_lst (a_star (K := K) rfl (w_fld (K := K) rfl (pe_dget hu (w_fld (K := K) rfl (pv 0)) (pv 1) (fun _ _ => rfl))) (a_star (K := K) rfl (w_fld (K := K) rfl (pe_dget hu (w_fld (K := K) rfl (pv 0)) (pv 2) (fun _ _ => rfl))) pa_nil)))) (blkOk_by (by kernel_rfl)) (fun _ _ _ _ _ => (pg_name (i := 3) (sc_held_by).nd rfl (by first | exact Or.inl rfl | exact Or.inr rfl))) (fun _ _ _ _ _ => pts_nil) (fun _ _ _ _ _ => (pv 3)) (fun _ _ _ _ _ => pe_bl)))), ?_⟩
    obtain ⟨e, dx', ap, am, al, hv, g1, g2, g3, g4, g5⟩ := h2.r.get hc
    obtain ⟨e', dx'', ap', am', al', hv', q1, q2, q3, q4, q5⟩ := h2.r.get ho
    have l1 := (wf.ln _ (at_mem hc).1).2
    have l2 := (wf.ln _ (at_mem ho).1).2
    refine ⟨_, rfl, t, _, dx, _, _, rfl, h1, cl_Table T, na_Table_records T, rfl, _, rfl, dr, _, rfl, g1, e, _, dx', _, _, rfl, g2, cl_Entry T, na_Entry_line T, rfl, al, _, rfl, .inr (.of g4), ?_⟩
    refine ⟨_, rfl, t, _, dx, _, _, rfl, h1, cl_Table T, na_Table_records T, rfl, _, rfl, dr, _, rfl, q1, e', _, dx'', _, _, rfl, q2, cl_Entry T, na_Entry_line T, rfl, al', _, rfl, .inr (.of q4), ?_⟩
    have ea : strL (at_ D c).ln ++ (strL (at_ D o).ln ++ []) = strL ((at_ D c).ln ++ (at_ D o).ln) := by rw [List.append_nil, strL_append]
    show (strL (at_ D c).ln ++ (strL (at_ D o).ln ++ [])).length ≤ sizeLine ∧ ∀ p, H p = none → _
    rw [ea]
    have hlen : ((at_ D c).ln ++ (at_ D o).ln).length ≤ 100 := by rw [List.length_append]; omega
    refine ⟨by rw [List.length_map]; exact Nat.le_trans hlen (by decide), fun p hp => ⟨p, rfl, ⟨_, .of upd_same⟩, ?_⟩⟩
    refine dcS_true (K := K) walk_list (fun H e => ext_l e (.of upd_same)) (Nat.le_trans hlen (by decide)) (fun x hx H1 e1 N0 N1 h1 => ⟨rfl, _, rfl, h1⟩) (fun L H' f e1 h => k L H' (Frm.trans (.new hp (nt_lst _)) e1) h)
def above (D : List C) (o n : Str) : Bool := decide (n ∈ (at_ D o).ln)
def reached (D : List C) (ends : List Str) (o : Str) (ms : List Str) : Bool := if sw D o = true then decide (o ∈ ends) && decl D o ms else ends.any fun n => !sw D n && above D o n
def spReach (K : PySem.W.Frag) : Sp := fun vs H Q _ => ∃ (t e m : Addr) (D : List C) (es : List Str) (o : Str) (ms : List Str), vs = [.ref t, .ref e, .str o, .ref m] ∧ TabR K H t D ∧ Wf D ∧ SqL K H e (strL es) ∧ es.length ≤ 100 ∧ (∀ x ∈ es, x ∈ nms D) ∧ o ∈ nms D ∧ (SqL K H m (strL ms) ∨ SqT K H m (strL ms)) ∧ RetV K (.bl (reached D es o ms)) H Q
theorem ok_is_reached (T : Tx K mg) : FnOk P w K mg base CX0 5 (He.fAd K d_is_reached.at_) (fdOf K (He.fAd K d_is_reached.at_)) ["table", "ends", "other", "methods"] (spReach K) := by
  refine (F_is_reached T).ok sc_is_reached (fun vs H Q E h => ?_) (fun cdv A outer s H vs Q E hr h => ?_)
  · obtain ⟨_, _, _, _, _, _, _, rfl, _⟩ := h
    rfl
  · obtain ⟨t, ea, m, D, es, o, ms, rfl, hT, wf, he, hel, hes, ho, hm, k⟩ := h
    have hu := hu_of hr
    refine ⟨_, PSs.nox (pss_cons (ps_if (pt_val (pe_meth (pv 0) (cl_Table T) (m_Table_sworn T) (ok_Table_sworn T) (hr.mono (by decide)) (b_Table_sworn T) .nil pass0 (pa_cons (pv 2) pa_nil))) (pss_one (ps_ret (pe_and (pe_cmpR (o_in (K := K) rfl) (pv 2) (pv 1) (by rfl)) (pe_one (pe_call (ok_declines T) (hr.mono (by decide)) rfl (g_declines T) (F_declines T).kp (b_declines T) .nil pass0 (pa_cons (pv 0) (pa_cons (pv 2) (pa_cons (pv 3) pa_nil)))))))) pss_nil)
    (pss_one (ps_ret (pe_callB (k_any (K := K) rfl rfl) (by rfl) (z_any T) (by decide +kernel) (pa_cons (pe_lc (own := [("name", 4)]) (g := gName 4) (tt := tYes) rfl (sc_is_reached).nd (i_list (K := K) rfl (pv 1)) (blkOk_by (by kernel_rfl)) (fun _ _ _ _ _ => (pg_name (i := 4) (sc_is_reached).nd rfl (by first | exact Or.inl rfl | exact Or.inr rfl))) (fun _ _ _ _ _ => pts_nil) (fun _ _ _ _ _ => (pe_and (pe_not (pe_meth (pv 0) (cl_Table T) (m_Table_sworn T) (ok_Table_sworn T) (hr.mono (by decide)) (b_Table_sworn T) .nil pass0 (pa_cons (pv 4) pa_nil))) (pe_one (pe_meth (pv 0) (cl_Table T) (m_Table_is_above T) (ok_Table_is_above T) (hr.mono (by decide)) (b_Table_is_above T) .nil pass0 (pa_cons (pv 4) (pa_cons (pv 2) pa_nil))))))) pa_nil))))), ?_⟩
    obtain ⟨dx, dr, dn, dl, mm, ls, h1, _⟩ := id hT
    refine ⟨_, rfl, t, dx, _, rfl, h1, rfl, _, rfl, t, D, o, rfl, hT, wf, ho, fun H1 e1 => ⟨_, rfl, ?_⟩⟩
    have hd : reached D es o ms = if sw D o = true then decide (o ∈ es) && decl D o ms else es.any fun n => !sw D n && above D o n := rfl
    refine ite2 (fun hs => ?_) (fun hs => ?_)
    · rw [if_pos hs] at hd
      rw [hd] at k
      refine ⟨_, rfl, _, rfl, ea, _, rfl, .inl (ext_l e1 he), rfl, flat_strL _, _, rfl, ?_⟩
      show if inV (.str o) (strL es) = true then _ else _
      rw [inV_str]
      by_cases q : o ∈ es
      · rw [decide_eq_true q] at k
        rw [if_pos (decide_eq_true q)]
        exact ⟨_, rfl, _, rfl, _, rfl, t, m, D, o, ms, rfl, hT.ext e1, wf, ho, hm.imp (ext_l e1) (ext_t e1), fun H2 e2 => k _ (e1.trans e2)⟩
      · rw [decide_eq_false q] at k
        rw [if_neg (by simpa using q)]
        exact k _ e1
    · rw [if_neg hs] at hd
      rw [hd] at k
      refine ⟨_, rfl, ea, rfl, ⟨_, ext_l e1 he⟩, ?_⟩
      refine lcS_bl (K := K) walk_list (fun n => !sw D n && above D o n) (fun H e => ext_l (e1.trans e) he) (Nat.le_trans hel (by decide)) (fun n hn H2 e2 N0 N1 h2 => ?_) (fun L H' f e2 h => ?_)
      · refine ⟨rfl, _, rfl, t, dx, _, rfl, (e1.trans e2).at h1 (nt_ins _ _ _), rfl, _, rfl, t, D, n, rfl, hT.ext (e1.trans e2), wf, hes n hn, fun H3 e3 => ⟨_, rfl, _, rfl, ?_⟩⟩
        have h2 := h2
        cases q : sw D n with
        | true =>
          rw [q] at h2
          exact iteF (h2 _ e3)
        | false =>
          rw [q] at h2
          refine iteT ⟨_, rfl, t, dx, _, rfl, ((e1.trans e2).trans e3).at h1 (nt_ins _ _ _), rfl, _, rfl, _, rfl, t, D, n, o, rfl, hT.ext ((e1.trans e2).trans e3), ho, fun H4 e4 => h2 _ (e3.trans e4)⟩
      · refine ⟨L, _, rfl, .of h, ?_⟩
        rw [List.any_map]
        exact k _ (e1.trans e2)
end
end ST
set_option maxHeartbeats 4000000
namespace ST
open PySem PySem.Spec PyProof.Rows L2
open LamX (CodeO Tabs TabB)
/-- one parameter p; else captured names and globals -/
structure LamS1 (sc scope : Scope) (p : Str) : Prop where
  kind : scope.kind = .function
  co : scope.isCoroutine = false
  gen : scope.isGenerator = false
  own : ∀ y ∈ scope.names, (y.2 = .local → y.1 = p) ∧ y.2 ≠ .cell
  par : scope.names.lookup p = some .local
  free : ∀ y ∈ scope.names, y.2 = .free → sc.names.lookup y.1 = some .cell ∨ sc.names.lookup y.1 = some .free
def lamSB1 (sc scope : Scope) (p : Str) : Bool :=
  decide (scope.kind = .function) && !scope.isCoroutine && !scope.isGenerator && (scope.names.all fun y => (!decide (y.2 = .local) || decide (y.1 = p)) && !decide (y.2 = .cell) && (!decide (y.2 = .free) || decide (sc.names.lookup y.1 = some .cell) || decide (sc.names.lookup y.1 = some .free))) && decide (scope.names.lookup p = some .local)
theorem lamS1_by {sc scope : Scope} {p : Str} (h : lamSB1 sc scope p = true) : LamS1 sc scope p := by
  unfold lamSB1 at h
  simp only [Bool.and_eq_true, Bool.or_eq_true, Bool.not_eq_true', decide_eq_true_eq, decide_eq_false_iff_not, List.all_eq_true] at h
  obtain ⟨⟨⟨⟨h1, h2⟩, h3⟩, h4⟩, h5⟩ := h
  refine ⟨h1, h2, h3, fun y hy => ⟨fun e => ?_, (h4 y hy).1.2⟩, h5, fun y hy e => ?_⟩
  · rcases (h4 y hy).1.1 with z | z
    · exact absurd e z
    · exact z
  · rcases (h4 y hy).2 with (z | z) | z
    · exact absurd e z
    · exact .inl z
    · exact .inr z
theorem LamS1.has {X : Cx} {scope : Scope} {p : Str} (L : LamS1 X.env.scope scope p) (ok : X.Ok) : ∀ y ∈ scope.names, y.2 = .free → ∃ c, X.env.cells.lookup y.1 = some c := fun y hy e => by
  rcases L.free y hy e with k | k
  · exact ok.has _ (.inl k)
  · exact ok.has _ (.inr k)
abbrev lamEnv (X : Cx) (scope : Scope) (L f c' : Addr) : Env := LamX.lamEnv X scope L f c'
/-- the context of the lambda's body, entered at s from the frames outer -/
def lamCx1 (X : Cx) (A : Around) (outer : List Env) (s : Shared) (H : Hp) (scope : Scope) (f c' : Addr) : Cx where
  prog := X.prog
  w := X.w
  K := X.K
  mg := X.mg
  base := X.base
  A := A.deeper (lamEnv X scope s.heap.objs.size f c')
  N := X.N
  s_0 := s
  H_0 := H
  env := lamEnv X scope s.heap.objs.size f c'
  outer := outer
  stack := lamEnv X scope s.heap.objs.size f c' :: outer
  ex := []
  fn := fun _ => false
  calm := true
  pn := []
  xe := fun _ _ => False
section
variable {X : Cx} {pins : List (Addr × Obj)} {σ : L2.St} {H HZ : Hp} {s s1 : Shared}
theorem lam_start1 {A : Around} {outer : List Env} {scope : Scope} {f c' : Addr} {h1 : Heap} {tk : Nat} {p : Str} {j : Nat} {v : V} {u : Value} (I : Inv X pins σ H s) (hN : X.N.Nodup) (hj : X.N[j]? = some p) (r : RelV v u) (L : LamS1 X.env.scope scope p) (e0 : Env0 X.prog X.w X.K X.mg X.base A outer s1 HZ) (hd : A.handled = none)
    (un : Un (frs X.stack) [] H HZ s.heap s1.heap) (hns : h1.Ns s1.heap.objs.size fun y => ([(p, u)] : List (Str × Value)).reverse.lookup y) (kp : ∀ b o, s1.heap.get? b = some o → h1.get? b = some o) :
    Inv (lamCx1 X A outer s1 HZ scope f c') [] (σ.set j (some v)) HZ { s1 with heap := h1, toks := tk } := by
  have hfree := L.has I.ok
  have cm : ∀ {y c}, (cloFrom X.env.cells scope.names []).lookup y = some c → X.env.cells.lookup y = some c := fun {y c} e => by
    rcases cloFrom_mem (PySem.mem_of_lookup e) with hm | ⟨h1, h2⟩
    · cases hm
    · obtain ⟨c1, hc⟩ := hfree _ h1 rfl
      have hc : X.env.cells.lookup y = some c1 := hc
      have e2 : c = c1 := by
        rw [h2, hc] <;> rfl
      rw [e2]
      exact hc
  have look : ∀ {y}, scope.names.lookup y = some .free → ∃ c, (cloFrom X.env.cells scope.names []).lookup y = some c := fun {y} hl => by
    have hy : (y, NameKind.free) ∈ scope.names := PySem.mem_of_lookup hl
    exact mem_lookup (cloFrom_has (cells := X.env.cells) (acc := []) hy)
  have cellK : ∀ {c : Addr} {v : Option Value}, H c = none → s.heap.IsCell c v → h1.IsCell c v := fun {c v} n ⟨o, ho, hd⟩ => by
    obtain ⟨sl, q⟩ := un.any ho n (by simp)
    exact ⟨_, kp _ _ q, hd⟩
  have noA : ∀ b : Addr, b ∉ (lamCx1 X A outer s1 HZ scope f c').ex := fun b z => absurd (show b ∈ ([] : List Addr) from z) (by simp)
  have hjl : j < σ.length := by
    rw [I.len]
    exact (List.getElem?_eq_some_iff.mp hj).1
  refine ⟨⟨e0.mod, L.kind, rfl, rfl, Nat.le_refl _, fun y z c e1 e2 => I.ok.inj y z c (cm e1) (cm e2), fun y hy => ?_, fun y c z _ => ?_, fun _ => hd, Around.frames_deeper e0.frames, .inr ⟨rfl, rfl⟩, fun b z => absurd z (noA b), e0.bs, e0.bsz, fun b _ _ => noA b,
      fun b z => absurd z (noA b), e0.funs, e0.frf⟩,
    rfl, e0.bare, Un.kept kp, ⟨_, hns, fun i y x e1 e2 e3 => ?_⟩, fun y c e => ?_, e0.hok.fresh (Nat.le_refl _), fun y c e => ?_, fun q hq => absurd (show q ∈ ([] : List (Addr × Obj)) ++ [] from hq) (by simp), e0.hok.kept kp, by rw [List.length_set]; exact I.len⟩
  · have hy : scope.names.lookup y = some .cell ∨ scope.names.lookup y = some .free := hy
    rcases hy with hy | hy
    · exact absurd rfl (L.own _ (PySem.mem_of_lookup hy)).2
    · exact look hy
  · have z : false = true := z
    cases z
  · have e1 : X.N[i]? = some y := e1
    have e3 : Vis scope y := e3
    rcases e3 with k | k | k
    · have ey : y = p := (L.own _ (PySem.mem_of_lookup k)).1 rfl
      subst ey
      have ei : i = j := nodup_ix hN e1 hj
      subst ei
      rw [List.getElem?_set_self hjl] at e2
      cases e2
      refine ⟨u, r, .inl ⟨k, ?_⟩⟩
      show List.lookup y [(y, u)] = some u
      simp [List.lookup]
    · exact absurd rfl (L.own _ (PySem.mem_of_lookup k)).2
    · have nej : j ≠ i := fun e => by
        subst e
        have := Option.some.inj (hj.symm.trans e1)
        subst this
        rw [L.par] at k
        cases k
      rw [List.getElem?_set_ne nej] at e2
      obtain ⟨m, hn, hl⟩ := I.loc
      have hvis : Vis X.env.scope y := (L.free _ (PySem.mem_of_lookup k) rfl).elim (fun k => .inr (.inl k)) (fun k => .inr (.inr k))
      obtain ⟨w', r', q⟩ := hl i y x e1 e2 hvis
      obtain ⟨c2, h2⟩ := look k
      refine ⟨w', r', .inr ⟨.inr k, c2, h2, ?_⟩⟩
      have c1 := cm h2
      rcases q with ⟨k', _⟩ | ⟨_, c3, e', z⟩
      · have k' : X.env.scope.names.lookup y = some .local := k'
        rcases L.free _ (PySem.mem_of_lookup k) rfl with k2 | k2 <;> rw [show X.env.scope.names.lookup y = _ from k2] at k' <;> cases k'
      · rw [c1] at e'
        cases e'
        exact cellK (I.freeC y _ c1) z
  · obtain ⟨w', z⟩ := I.cell y c (cm e)
    exact ⟨w', cellK (I.freeC y c (cm e)) z⟩
  · obtain ⟨v, o, ho, hd⟩ := I.cell y c (cm e)
    exact un.free c o ho (I.freeC y c (cm e)) (by simp)
/-- the context of the def that got the lambda, entered from X at s -/
abbrev gotCx (X : Cx) (Ng : List Str) (qg : Str) (sg : Scope) (g : Addr) (cdg : Value) (s : Shared) (H : Hp) : Cx := (cxOf CX0 X.prog X.w X.K X.mg X.base Ng qg sg g cdg X.A X.stack s H E0).nox
/-- a(e), a the name of the lambda there -/
theorem pe_act1 {Ng : List Str} {qg : Str} {sg : Scope} {g f c' : Addr} {cdg pm ctv : Value} {params : Arguments} {body : Expr} {scope : Scope} {k i j : Nat} {a p : Str} {tb te : TE} {e : Expr} {p1 p2 : Pos}
    (I : Inv X pins σ H s) (hND : X.N.Nodup) (hj : X.N[j]? = some p) (L : LamS1 X.env.scope scope p) (hf : s.heap.get? f = some (PySem.W.kla_obj "<lambda>" (X.env.qual ++ "<lambda>") params body scope (cloFrom X.env.cells scope.names []) pm c' ctv)) (hfn : H f = none) (hfr : f ∉ frs X.stack)
    (hbind : ∀ u : Value, bindArgs (PySem.W.kla_fn "<lambda>" (X.env.qual ++ "<lambda>") params body scope (cloFrom X.env.cells scope.names []) pm (.ref c') ctv) ⟨[u], []⟩ = pure [(p, u)])
    (hr : Room (k + 1) (X.A.deeper (envOfC qg sg s.heap.objs.size g cdg)))
    (hbody : ∀ (A : Around) (outer : List Env) (s : Shared) (H : Hp), Room k (A.deeper (lamEnv X scope s.heap.objs.size f c')) → PE (lamCx1 X A outer s H scope f c') body tb)
    (hN : Ng[i]? = some a) (hv : Vis sg a) (he : PE (gotCx X Ng qg sg g cdg s H) e te) (hd : (a == ("__debug__" : Str)) = false := by decide) (hcd : (a == ("__classdict__" : Str)) = false := by decide)
    (hst : starEach [e] (gotCx X Ng qg sg g cdg s H).env = (false, eval e (gotCx X Ng qg sg g cdg s H).env) :: starEach [] (gotCx X Ng qg sg g cdg s H).env := by rfl) :
    PE (gotCx X Ng qg sg g cdg s H) (.Call (.Name a p1) [e] [] p2)
      (fun σZ HZ Q => σZ[i]? = some (some (.ref f)) ∧ te σZ HZ fun v HY => HY c' = some (CodeO c' (X.env.qual ++ "<lambda>")) ∧ tb (σ.set j (some v)) HY Q) := by
  refine ⟨fun pinsZ sZ σZ HZ Q IZ h => ?_⟩
  obtain ⟨hs, ht⟩ := h
  have of0 : ∀ {sY : Shared} {HY : Hp}, Inv (gotCx X Ng qg sg g cdg s H) pinsZ σZ HY sY → sY.heap.get? f = some (PySem.W.kla_obj "<lambda>" (X.env.qual ++ "<lambda>") params body scope (cloFrom X.env.cells scope.names []) pm c' ctv) := fun I1 => I1.base.keep f _ hf hfn hfr (fun z => nomatch (show f ∈ ([] : List Addr) from z))
  refine wpAny_Call_Name_kw (thn ((pe_var (pos := p1) (i := i) hN hv hd hcd).run pinsZ sZ σZ HZ (fun v H1 => v = .ref f ∧ H1 = HZ) IZ ⟨.ref f, hs, rfl, rfl⟩) fun u s0 ⟨v, H1, I0, r1, q1⟩ => ?_)
  obtain ⟨ev, eH⟩ := q1
  subst ev
  rw [eH] at I0
  obtain rfl : u = Value.ref f := r1
  refine PySem.W.callWith_F ⟨_, _, _, _, of0 I0⟩ ?_ hst (by rfl)
  rw [hst]
  show wpAny _ _ (spliced ((false, eval e (gotCx X Ng qg sg g cdg s H).env) :: backTo p2 (starEach [] (gotCx X Ng qg sg g cdg s H).env))) _ _ s0
  refine Calls.spliced_cons (thn (he.run pinsZ s0 σZ HZ _ I0 ht) fun u1 s1 ⟨v, HY, I1, rv, hc, ht⟩ => ?_)
  refine Calls.spliced_nil ⟨⟨_, _, _, _, of0 I1⟩, ?_⟩
  have of1 := of0 I1
  have un : Un (frs X.stack) [] H HY s.heap s1.heap := I1.base
  obtain ⟨⟨oc, vs, t, hoc, hdc, hvc⟩, _, _⟩ := I1.hok c' _ hc
  have rc : codeAny (model X.prog X.w) (X.A.deeper (envOfC qg sg s.heap.objs.size g cdg)) (.call (.ref f) ⟨[u1], []⟩) (CR CX0 (envOfC qg sg s.heap.objs.size g cdg :: X.stack) X.prog X.w HY s1 Q E0) s1 := by
    refine PySem.W.kla_callFunE hr.depth of1 rfl L.co L.gen rfl ⟨c', oc, vs, t, rfl, hoc, hdc, hvc⟩ ?_
    rw [hbind u1]
    refine wpAny_pure (wpAny_newFunctionEnv (fun y hy => (L.own y hy).2) (fun y hy => ?_) (fun h1 hns hsb => ⟨I1.nolimit.fresh _ hsb, ?_⟩) L.kind)
    · have e : y = (p, u1) := by simpa using hy
      rw [e]
      exact L.par
    show codeAny _ _ (.expr body (lamEnv X scope s1.heap.objs.size f c')) _ _
    have kp : ∀ b o, s1.heap.get? b = some o → h1.get? b = some o := fun b o e => hsb.extBut b o (Nat.ne_of_lt (Heap.lt_size e)) (Heap.get?_push_of_some _ e)
    have J : Inv (lamCx1 X (X.A.deeper (envOfC qg sg s.heap.objs.size g cdg)) (envOfC qg sg s.heap.objs.size g cdg :: X.stack) s1 HY scope f c') [] (σ.set j (some v)) HY { s1 with heap := h1, toks := s1.toks + ([(p, u1)] : List (Str × Value)).length } :=
      lam_start1 I hND hj rv L I1.env0 hr.hd un hns kp
    refine PySem.W.kla_codeExpr (wpAny_mono ((hbody _ _ s1 HY (hr.deeper _)).run [] _ _ HY Q J ht) (fun v s' hq => ?_) fun e s' hq => hq.elim)
    obtain ⟨w', H', J', rv, q⟩ := hq
    exact ⟨w', H', J'.os, J'.bare, J'.base, J'.hok, rv, q⟩
  refine wpAny_call (codeAny_mono rc fun r s' hq => ?_)
  cases r with
  | error e => exact (show False from hq).elim
  | ok fl =>
    cases fl with
    | ret u => exact I1.after hq
    | next => exact False.elim hq
    | brk => exact False.elim hq
    | cont => exact False.elim hq
/-- g(e, lambda p: body) -/
theorem pe_lam1 {T : List (Addr × Str)} {TT : (Hp → V → VK → Prop) → V → Hp → VK → Prop} {x a b0 pp : Str} {g c P : Addr} {k j : Nat} {pg : Arguments} {bg : List Stmt} {sg : Scope} {dV kV doc pm cdv ct oc : Value} {an od : Option Addr} {osl : Array (Option Value)} {Ng : List Str}
    {params : Arguments} {body e1 : Expr} {scope : Scope} {t t1 : TE} {p lpos pos : Pos} (hg : Gl X x) (hm : X.mg x = some (.ref g)) (hk : PySem.W.keepIn X.K (.ref g) = true) (hND : X.N.Nodup) (hj : X.N[j]? = some pp)
    (lk : X.K.lookup g = some ⟨oc, od, .func (PySem.W.fnOf x x pg bg sg dV kV doc pm an cdv ct), osl⟩) (hcg : PySem.W.codeIn X.K cdv x = true) (hb : L2.Binds X.K (PySem.W.fnOf x x pg bg sg dV kV doc pm an cdv ct) [b0, a] []) (Sg : FnScope Ng [b0, a] sg) (hNg : Ng[1]? = some a) (hva : Vis sg a)
    (hG : ∀ (f c' : Addr) (s : Shared) (H : Hp) (v : V) (Q : VK) (nb : Hp → V → VK → Prop), Room (k + 1) (X.A.deeper (envOfC x sg s.heap.objs.size g cdv)) → H c' = some (CodeO c' (X.env.qual ++ "<lambda>")) →
      (∀ (e : Expr) (te : TE) (p1 p2 : Pos), PE (gotCx X Ng x sg g cdv s H) e te → (starEach [e] (gotCx X Ng x sg g cdv s H).env = (false, eval e (gotCx X Ng x sg g cdv s H).env) :: starEach [] (gotCx X Ng x sg g cdv s H).env) →
        PE (gotCx X Ng x sg g cdv s H) (.Call (.Name a p1) [e] [] p2) (fun σZ HZ Q => σZ[1]? = some (some (.ref f)) ∧ te σZ HZ fun v HY => HY c' = some (CodeO c' (X.env.qual ++ "<lambda>")) ∧ nb HY v Q)) →
      TT nb v H Q → ∃ t, PSs (gotCx X Ng x sg g cdv s H) bg t ∧ t { nx := fun _ H' => Q .non H', rt := Q } (L2.start Ng [v, .ref f]) H)
    (TB : TabB X.base X.mg c P) (hcode : X.env.code = .ref c) (hmT : (P, X.env.qual ++ "<lambda>") ∈ T) (hu : ∀ p ∈ T, p.1 = P → p.2 = X.env.qual ++ "<lambda>") (hr : Room (k + 2) X.A) (L : LamS1 X.env.scope scope pp) (hdef : defaultsOf params X.env = ([], []))
    (hbind : ∀ (q : Str) (cl : List (Str × Addr)) (pm cv ctv u : Value), bindArgs (PySem.W.kla_fn "<lambda>" q params body scope cl pm cv ctv) ⟨[u], []⟩ = pure [(pp, u)])
    (h1 : PE X e1 t1)
    (hbody : ∀ (A : Around) (outer : List Env) (s : Shared) (H : Hp) (f c' : Addr), Room k (A.deeper (lamEnv X scope s.heap.objs.size f c')) → PE (lamCx1 X A outer s H scope f c') body t)
    (hdb : (x == ("__debug__" : Str)) = false := by decide) (hd : (a == ("__debug__" : Str)) = false := by decide) (hcd : (a == ("__classdict__" : Str)) = false := by decide) (hst : starEach [e1, .Lambda params body scope lpos] X.env = (false, eval e1 X.env) :: (false, eval (.Lambda params body scope lpos) X.env) :: [] := by rfl) :
    PE X (.Call (.Name x p) [e1, .Lambda params body scope lpos] [] pos) (fun σ H Q => t1 σ H fun v H0 => Tabs T H0 ∧ ∀ H1, LamX.ExtN H0 H1 → Tabs T H1 → (∀ b, Al H0 b → Al H1 b) → TT (fun H' v' Q' => t (σ.set j (some v')) H' Q') v H1 Q) := by
  refine ⟨fun pins s σ H Q I h => ?_⟩
  refine wpAny_Call_Name_kw (ld_glob I hg hm ?_ hdb)
  refine PySem.W.callWith_K (h₀ := X.base) I.ok.mod.kin hk ?_ (by rw [hst]; rfl) (by rfl)
  rw [hst]
  show wpAny _ _ (spliced ((false, eval e1 X.env) :: backTo pos ((false, eval (.Lambda params body scope lpos) X.env) :: []))) _ _ s
  refine Calls.spliced_cons (thn (h1.run pins s σ H _ I h) fun u1 s0 ⟨v, H0, I0, rv, hT, h⟩ => ?_)
  show wpAny _ _ (spliced ((false, eval (.Lambda params body scope lpos) X.env) :: backTo pos [])) _ _ s0
  refine Calls.spliced_cons (LamX.lam_make2 I0 TB hcode hmT hu hT hdef (L.has I.ok) fun f c' pm' ctv H1 s' I1 eN T1 hf hfn hfr hco => ?_)
  refine Calls.spliced_nil ⟨I1.kIn, ?_⟩
  have al : ∀ b, Al H0 b → Al H1 b := fun b ⟨o, ho, n⟩ => ⟨o, eN b o ho n, n⟩
  have rc : codeAny (model X.prog X.w) X.A (.call (.ref g) ⟨[u1, .ref f], []⟩) (CR CX0 X.stack X.prog X.w H1 s' Q E0) s' := by
    refine LamX.run_ofS (N := Ng) (ps := [b0, a]) (us := [u1, .ref f]) (vs := [v, .ref f]) lk hcg Sg hr I1.env0 (hb s' [u1, .ref f] I1.kIn rfl) (.cons rv (.cons rfl .nil)) rfl fun hr' => ?_
    obtain ⟨t', ht', hq'⟩ := hG f c' s' H1 v Q (fun H' v' Q' => t (σ.set j (some v')) H' Q') hr' hco (fun e te p1 p2 he hst' => pe_act1 (i := 1) I1 hND hj L hf hfn hfr (hbind _ _ _ _ _) hr' (fun A outer s H hr2 => hbody A outer s H f c' hr2) hNg hva he hd hcd hst') (h H1 eN T1 al)
    exact ⟨t', ht'.nox, hq'⟩
  refine wpAny_call (codeAny_mono rc fun r s2 hq => ?_)
  cases r with
  | error e => exact (show False from hq).elim
  | ok fl =>
    cases fl with
    | ret u => exact I1.after hq
    | next => exact False.elim hq
    | brk => exact False.elim hq
    | cont => exact False.elim hq
end
end ST
set_option maxHeartbeats 4000000
namespace ST
open PySem PySem.Spec PyProof.Rows L2
section
variable {X : Cx} {K : PySem.W.Frag}
/-- x is True, x None or a bool -/
def rIsT : R2 := fun x y H Q => ∃ o : Option Bool, x = oB o ∧ y = .bl true ∧ Q (.bl (decide (o = some true))) H
theorem op_isTrue : OpR X (compareOp .Is) rIsT := by
  rintro pins s σ H x y v u Q I rx ry ⟨o, rfl, rfl, q⟩
  cases (show u = Value.bool true from ry)
  cases o with
  | none =>
    cases (show v = Value.none from rx)
    exact wpAny_is_other rfl (fun z => by cases z) ⟨.bl false, H, I, rfl, by simpa using q⟩
  | some b =>
    cases (show v = Value.bool b from rx)
    cases b with
    | true => exact wpAny_is_self rfl ⟨.bl true, H, I, rfl, by simpa using q⟩
    | false => exact wpAny_is_other rfl (fun z => by cases z) ⟨.bl false, H, I, rfl, by simpa using q⟩
theorem pg_fld (h : X.K = K) {o : Expr} {ta : TE} {f : Str} {pos : Pos} (ho : PE X o ta) : PG X (.Attribute o f pos) (gFld K ta f) := by
  subst h
  refine ⟨fun pins s σ H v u Q I r h => ?_⟩
  rw [assign_Attribute]
  refine wpAny_bind (wpAny_holding (thn (ho.run pins s σ H _ I h) fun ov s1 ⟨x, H1, I1, r1, a, C, dx, fs, ex, ea, c, n, l, q⟩ => ?_))
  subst ex
  obtain rfl : ov = Value.ref a := r1
  refine wpAny_bind (wpAny_standAt (wpAny_bind (wpAny_holding (setattr_ok I1 ea c n l r fun s3 I3 => ?_))))
  exact wpAny_release ⟨σ, _, I3, q⟩
theorem first_atS : ∀ {ns : List Str} {k : Str}, k ∈ ns → ∃ j, j < ns.length ∧ ns[j]? = some k ∧ (∀ i, i < j → ns[i]? ≠ some k) ∧ ns.eraseIdx j = ns.erase k
  | [], _, h => by cases h
  | x :: r, k, h => by
    by_cases e : x = k
    · subst e
      exact ⟨0, Nat.succ_pos _, rfl, fun i hi => absurd hi (Nat.not_lt_zero _), by simp⟩
    · have hr : k ∈ r := (List.mem_cons.mp h).resolve_left (fun z => e z.symm)
      obtain ⟨j, h1, h2, h3, h4⟩ := first_atS hr
      refine ⟨j + 1, Nat.succ_lt_succ h1, h2, fun i hi => ?_, ?_⟩
      · cases i with
        | zero => exact fun z => e (Option.some.inj z)
        | succ i => exact h3 i (Nat.lt_of_succ_lt_succ hi)
      · rw [List.erase_cons_tail (by simpa using e)]
        show x :: r.eraseIdx j = _
        rw [h4]
theorem erase_mapS : ∀ (l : List Str) (j : Nat), (strL l).eraseIdx j = strL (l.eraseIdx j)
  | [], _ => by simp
  | _ :: _, 0 => by simp
  | a :: r, j + 1 => by
    have ih := erase_mapS r j
    show V.str a :: (strL r).eraseIdx j = V.str a :: strL (r.eraseIdx j)
    rw [ih]
/-- xs.remove(k) of a list of texts that has it -/
def rRemS : V → List V → Hp → VK → Prop := fun x xs H Q => ∃ (l : Addr) (ns : List Str) (k : Str), x = .ref l ∧ xs = [.str k] ∧ H l = some (.lst (strL ns)) ∧ k ∈ ns ∧ Q .non (upd H l (.lst (strL (ns.erase k))))
theorem mt_removeS : MtM X "list.remove" rRemS := by
  intro pins s σ H x xs v us Q I rx rxs h
  obtain ⟨l, ns, k, rfl, rfl, hH, hk, q⟩ := h
  cases rx
  obtain ⟨u, rfl, ru⟩ := rxs.one
  obtain ⟨t, rfl⟩ := ru
  obtain ⟨j, hjn, hj, hno, he⟩ := first_atS hk
  obtain ⟨z, its, n, r, hl, e⟩ := I.lstM hH
  have hi := Vals.strs r
  rw [strL_length] at hl z
  have hjl : j < its.toArray.size := by rw [List.size_toArray]; omega
  have at_i : ∀ m, (hm : m < its.toArray.size) → ∃ y, ns[m]? = some y ∧ isStrOf k its.toArray[m] = (y == k) := fun m hm => by
    have hmn : m < ns.length := by rw [List.size_toArray] at hm; omega
    obtain ⟨u, hu, ru⟩ := r.get (i := m) (x := .str ns[m]) (by rw [List.getElem?_map, List.getElem?_eq_getElem hmn]; rfl)
    obtain ⟨tt, rfl⟩ := ru
    refine ⟨ns[m], List.getElem?_eq_getElem hmn, ?_⟩
    obtain ⟨h1, h2⟩ := List.getElem?_eq_some_iff.mp hu
    have e1 : its.toArray[m] = .str ns[m] tt := by simpa using h2
    rw [e1]
    rfl
  refine call_meets PySem.F.slot_list_remove ⟨_, e, rfl⟩ PySem.F.entry_list_remove (PySem.F.args_list_remove_2 _ _)
    (MeetsSeq.list_remove l its.toArray n (.str k t) (isStrOf k) (fun y hy => eq_isStrOf k t hi y (by simpa using hy)) j hjl ?_ ?_ (by rw [List.size_toArray]; omega)) ⟨e, ?_⟩
  · obtain ⟨y, h1, h2⟩ := at_i j hjl
    rw [hj] at h1
    cases h1
    rw [h2]
    exact beq_self_eq_true k
  · intro m hm hmj
    obtain ⟨y, h1, h2⟩ := at_i m hm
    rw [h2]
    exact beq_eq_false_iff_ne.mpr fun e2 => hno m hmj (by rw [h1, e2])
  · have rr := r.eraseIdx j
    rw [erase_mapS, he] at rr
    refine ⟨.non, _, I.lset (its' := its.eraseIdx j) (t' := s.toks) hH e ?_ rr ?_, rfl, q⟩
    · show its.toArray.eraseIdxIfInBounds j = (its.eraseIdx j).toArray
      rw [List.eraseIdxIfInBounds_toArray]
    · rw [strL_length]
      exact Nat.le_trans (List.length_erase_le) z
theorem w_remove (h : X.K = K) {o y : Expr} {to ty : TE} {apos cpos : Pos} (ho : PE X o to) (hy : PE X y ty) (hbase : attributeBase o "remove" X.env (eval o X.env) = eval o X.env := by rfl)
    (hfew : ((backTo cpos (starEach [y] X.env)).all (fun x => !x.1) && (backToKw cpos (keywordEach [] X.env)).all (fun x => x.1.isSome) && decide (([y] : List Expr).length + ([] : List Keyword).length + (if ([] : List Keyword).isEmpty then 0 else 1) < 30)) = true := by rfl)
    (hline : (apos.endLine == cpos.line) = true := by rfl) (hs : starEach [y] X.env = (false, eval y X.env) :: starEach [] X.env := by rfl) (hplain : (backTo cpos (starEach [] X.env)).any (·.1) = false := by rfl) :
    PE X (.Call (.Attribute o "remove" apos) [y] [] cpos) (tBM K "list" rRemS to (tCons ty tNil)) := by
  subst h
  exact pe_bm PySem.F.plainAttrs_list PySem.F.slot_list_remove PySem.F.type_list_remove mt_removeS ho (pa_cons hy pa_nil hs) hbase hfew hline hs hplain
end
end ST
set_option maxHeartbeats 4000000
namespace ST
open PySem PySem.Spec PyProof.Rows L2
open LamX (CodeO Tabs TabB)
def addAll (f : List Str) : List Str → List Str
  | [] => f
  | o :: r => addAll (if o ∈ f then f else f ++ [o]) r
def bfsGo (succ : Str → List Str) : Nat → List Str → Nat → List Str
  | 0, f, _ => f
  | k + 1, f, a => match f[a]? with
    | some n => bfsGo succ k (addAll f (succ n)) (a + 1)
    | none => f
/-- all names to which roads lead, in the order in which they are found -/
def bfs (succ : Str → List Str) (st : Str) : List Str := bfsGo succ 51 [st] 0
theorem nodup_len {α : Type} [DecidableEq α] : ∀ {l U : List α}, l.Nodup → (∀ x ∈ l, x ∈ U) → l.length ≤ U.length
  | [], _, _, _ => Nat.zero_le _
  | x :: r, U, nd, h => by
    obtain ⟨n1, n2⟩ := List.nodup_cons.mp nd
    have hx := h x (List.mem_cons_self ..)
    have := nodup_len (l := r) (U := U.erase x) n2 fun y hy => (List.mem_erase_of_ne (fun e : y = x => n1 (by rw [← e]; exact hy))).mpr (h y (List.mem_cons_of_mem _ hy))
    rw [List.length_erase_of_mem hx] at this
    have hp : 0 < U.length := List.length_pos_of_mem hx
    show r.length + 1 ≤ _
    omega
theorem addAll_mem {U : List Str} : ∀ {l f : List Str}, f.Nodup → (∀ x ∈ f, x ∈ U) → (∀ x ∈ l, x ∈ U) → (addAll f l).Nodup ∧ ∀ x ∈ addAll f l, x ∈ U
  | [], f, n, h, _ => ⟨n, h⟩
  | o :: r, f, n, h, hl => by
    have hr := fun x hx => hl x (List.mem_cons_of_mem _ hx)
    show (addAll (if o ∈ f then f else f ++ [o]) r).Nodup ∧ _
    by_cases q : o ∈ f
    · rw [if_pos q]
      have := addAll_mem (l := r) n h hr
      exact ⟨this.1, fun x hx => this.2 x (by rw [show addAll f (o :: r) = addAll f r from by show addAll (if o ∈ f then f else f ++ [o]) r = _; rw [if_pos q]] at hx; exact hx)⟩
    · rw [if_neg q]
      have n' : (f ++ [o]).Nodup := nd_snoc n q
      have h' : ∀ x ∈ f ++ [o], x ∈ U := fun x hx => (List.mem_append.mp hx).elim (h x) fun z => by rw [List.mem_singleton.mp z]; exact hl o (List.mem_cons_self ..)
      have := addAll_mem (l := r) n' h' hr
      exact ⟨this.1, fun x hx => this.2 x (by rw [show addAll f (o :: r) = addAll (f ++ [o]) r from by show addAll (if o ∈ f then f else f ++ [o]) r = _; rw [if_neg q]] at hx; exact hx)⟩
theorem addAll_snoc : ∀ (l f : List Str) (o : Str), addAll f (l ++ [o]) = if o ∈ addAll f l then addAll f l else addAll f l ++ [o]
  | [], _, _ => rfl
  | x :: r, f, o => addAll_snoc r (if x ∈ f then f else f ++ [x]) o
theorem addAll_sub : ∀ (l f : List Str) {x : Str}, x ∈ f → x ∈ addAll f l
  | [], _, _, h => h
  | o :: r, f, x, h => by
    show x ∈ addAll (if o ∈ f then f else f ++ [o]) r
    refine addAll_sub r _ ?_
    split
    · exact h
    · exact List.mem_append_left _ h
/-- a dict whose keys are these names, in order -/
def KeysR (H : Hp) (p : Addr) (ns : List Str) : Prop := ∃ kvs : List (Key × V), H p = some (.dK kvs) ∧ kvs.map (·.1) = ns.map fun n => (.inr n : Key)
/-- what roads_from is to be told of the function that it gets -/
def TR (K : PySem.W.Frag) (nb : Hp → V → VK → Prop) (v : V) (H : Hp) (Q : VK) : Prop :=
  ∃ (st : Str) (U : List Str) (succ : Str → List Str), v = .str st ∧ st ∈ U ∧ U.length ≤ 50 ∧ (∀ n ∈ U, ∀ m ∈ succ n, m ∈ U) ∧ (∀ n ∈ U, ∀ H', Ext K H H' → ∀ Q', RetL K (strL (succ n)) H' Q' → nb H' (.str n) Q') ∧
    ∀ p H', Ext K H H' → ¬ Al H p → KeysR H' p (bfs succ st) → Q (.ref p) H'
theorem valV_none {kvs : List (Key × V)} {fs : List Str} (h : kvs.map (·.1) = fs.map fun n => (.inr n : Key)) (n : Str) : (valV kvs (.inr n) = none) ↔ n ∉ fs := by
  have e : ∀ n : Str, (.inr n : Key) ∈ kvs.map (·.1) ↔ n ∈ fs := fun n => by
    rw [h]
    constructor
    · intro z
      obtain ⟨m, hm, e⟩ := List.mem_map.mp z
      rw [← Sum.inr.inj e]
      exact hm
    · intro z
      exact List.mem_map.mpr ⟨n, z, rfl⟩
  constructor
  · intro z q
    exact valV_not z ((e n).mpr q)
  · intro z
    cases q : valV kvs (.inr n) with
    | none => rfl
    | some v => exact (z ((e n).mp (valV_in q))).elim
theorem valV_mem {kvs : List (Key × V)} {k : Key} {v : V} (h : valV kvs k = some v) : (k, v) ∈ kvs := by
  unfold valV at h
  cases q : kvs.find? fun kv => decide (kv.1 = k) with
  | none => rw [q] at h; cases h
  | some p =>
    rw [q] at h
    have e := List.find?_some q
    have e : p.1 = k := by simpa using e
    have e2 : p.2 = v := Option.some.inj h
    have := List.mem_of_find?_eq_some q
    rw [← e, ← e2]
    exact this
section
variable {P : Program} {w : World} {K : PySem.W.Frag} {mg : Str → Option Value} {base : Heap}
/-- the roads' lists -/
def RdsR (K : PySem.W.Frag) (H0 H : Hp) (kvs : List (Key × V)) (fd : Addr) (n : Nat) : Prop := ∀ k v, (k, v) ∈ kvs → ∃ (l : Addr) (xs : List V), v = .ref l ∧ l ≠ fd ∧ H l = some (.lst xs) ∧ xs.length ≤ n
theorem RdsR.ext {H0 H H' : Hp} {kvs : List (Key × V)} {fd : Addr} {n m : Nat} (a : Frm K (fun b => b = fd) H H') (hn : n ≤ m) (h : RdsR K H0 H kvs fd n) : RdsR K H0 H' kvs fd m := fun k v hk => by
  obtain ⟨l, xs, h1, h2, h3, h4⟩ := h k v hk
  exact ⟨l, xs, h1, h2, a.lst h3 (fun z => h2 z), Nat.le_trans h4 hn⟩
theorem roads_body (T : Tx K mg) {k : Nat} {g : Addr} {cd : Value} {A : Around} {outer : List Env} {s : Shared} {H : Hp} {f c' : Addr} {q : Str} {v : V} {Q : VK} {nb : Hp → V → VK → Prop} (hr : Room k (A.deeper (envOfC "roads_from" (defScope s_roads_from) s.heap.objs.size g cd))) (hco : H c' = some (CodeO c' q))
    (hact : ∀ (e : Expr) (te : TE) (p1 p2 : Pos), PE (cxOf CX0 P w K mg base ["start", "next_of", "found", "at", "here", "other"] "roads_from" (defScope s_roads_from) g cd A outer s H E0).nox e te →
      (starEach [e] (cxOf CX0 P w K mg base ["start", "next_of", "found", "at", "here", "other"] "roads_from" (defScope s_roads_from) g cd A outer s H E0).nox.env = (false, eval e (cxOf CX0 P w K mg base ["start", "next_of", "found", "at", "here", "other"] "roads_from" (defScope s_roads_from) g cd A outer s H E0).nox.env) :: starEach [] (cxOf CX0 P w K mg base ["start", "next_of", "found", "at", "here", "other"] "roads_from" (defScope s_roads_from) g cd A outer s H E0).nox.env) →
      PE (cxOf CX0 P w K mg base ["start", "next_of", "found", "at", "here", "other"] "roads_from" (defScope s_roads_from) g cd A outer s H E0).nox (.Call (.Name "next_of" p1) [e] [] p2) (fun σZ HZ Q => σZ[1]? = some (some (.ref f)) ∧ te σZ HZ fun v HY => HY c' = some (CodeO c' q) ∧ nb HY v Q))
    (h : TR K nb v H Q) : ∃ t, PSs (cxOf CX0 P w K mg base ["start", "next_of", "found", "at", "here", "other"] "roads_from" (defScope s_roads_from) g cd A outer s H E0).nox (defBody s_roads_from) t ∧ t { nx := fun _ H' => Q .non H', rt := Q } (L2.start ["start", "next_of", "found", "at", "here", "other"] [v, .ref f]) H := by
  obtain ⟨st, U, succ, rfl, hst, hU, hs, hnb, kq⟩ := h
  have hu := hu_of hr
  refine ⟨_, (pss_cons (ps_par (i := 2) (j := 3) rfl (sc_roads_from).nd rfl rfl (by decide) rfl rfl (pa_cons (pe_disp (pps_cons (pv 0) (pe_lst (pa_cons (pv 0) pa_nil)) pps_nil) (by rfl) (by rfl) (fun z => by cases z) (by decide)) (pa_cons pe_int pa_nil)) rfl)
    (pss_cons (ps_while PassesOwn.never (pt_cmpR op_lt (pv 3) (pe_callB k_lenD (by rfl) (z_len T) (by decide +kernel) (pa_cons (pv 2) pa_nil)) (nomark _)) (pss_cons (ps_set (i := 4) (sc_roads_from).nd rfl (Or.inl rfl) (pe_ix (x_l (K := K) rfl) (pe_callTy (k_listD rfl) (by rfl) (z_list T) (by decide +kernel) (pa_cons (pv 2) pa_nil)) (pv 3) (fun _ _ => rfl)))
    (pss_cons (ps_for PassesOwn.never rfl (i_list (K := K) rfl (hact _ _ _ _ (pv 4) rfl)) (pg_name (i := 5) (sc_roads_from).nd rfl (Or.inl rfl)) (pss_one (ps_expr (pe_dsetd (pv 2) (pv 5) (pe_op op_cat (pe_dget hu (pv 2) (pv 4) (fun _ _ => rfl)) (pe_lst (pa_cons (pv 5) pa_nil))) ⟨rfl, rfl, rfl, rfl⟩))))
    (pss_one (ps_aug (i := 3) (sc_roads_from).nd rfl (Or.inl rfl) pe_int ip_add)))))
    (pss_one (ps_ret (pv 2))))), ?_⟩
  refine fun fd hfd => ⟨_, rfl, _, rfl, Nat.le_of_ble_eq_true rfl, fun l hl => ?_⟩
  have nfl : fd ≠ l := fun e => by rw [← e, upd_same] at hl; cases hl
  have hl0 : H l = none := by rw [upd_ne nfl.symm] at hl; exact hl
  refine ⟨by rw [upd_ne nfl, upd_same], [(.inr st, .ref l)], rfl, Nat.le_of_ble_eq_true rfl, ?_⟩
  have e1 : Ext K H (upd (upd (upd H fd (.dK [])) l (.lst [.str st])) fd (.dK (mergeK [] [(.inr st, .ref l)]))) := by
    refine Frm.mutNew (o0 := .dK []) (Frm.trans (.new hfd (nt_dK _)) (.new hl (nt_lst _))) (fresh_none hfd) (by rw [upd_ne nfl, upd_same]) trivial (nt_dK _)
  refine ⟨_, _, rfl, ?_⟩
  refine ⟨fun m σ H' => ∃ (fs : List Str) (kvs : List (Key × V)) (a : Nat) (x4 x5 : Option V), m = 51 - a ∧ σ = [some (.str st), some (.ref f), some (.ref fd), some (.int (a : Nat)), x4, x5] ∧ Ext K H H' ∧ H' fd = some (.dK kvs) ∧ kvs.map (·.1) = fs.map (fun n => (.inr n : Key)) ∧ RdsR K H H' kvs fd (a + 1) ∧
      fs.Nodup ∧ (∀ x ∈ fs, x ∈ U) ∧ a ≤ fs.length ∧ bfsGo succ (51 - a) fs a = bfs succ st, ⟨51, [st], _, 0, _, _, rfl, rfl, e1, upd_same, rfl, ?_, by simp, fun x hx => ?_, Nat.zero_le _, rfl⟩, ?_⟩
  · intro k v hk
    have hk : (k, v) ∈ [((.inr st : Key), V.ref l)] := hk
    have e : (k, v) = ((.inr st : Key), V.ref l) := by simpa using hk
    cases e
    exact ⟨l, _, rfl, nfl.symm, by rw [upd_ne nfl.symm, upd_same], Nat.le_refl _⟩
  · rw [List.mem_singleton.mp hx]
    exact hst
  · rintro m σ H1 ⟨fs, kvs, a, x4, x5, rfl, rfl, e1, hd, hk, hrd, nd, hsub, ha, hgo⟩
    have lfs : fs.length ≤ 50 := Nat.le_trans (nodup_len nd hsub) hU
    have lkv : kvs.length = fs.length := by
      have := congrArg List.length hk
      simpa using this
    refine ⟨_, rfl, _, rfl, fd, kvs, rfl, hd, _, _, rfl, rfl, _, rfl, ?_⟩
    refine ite2 (fun hlt => ?_) (fun hlt => ?_)
    · have hlt : a < fs.length := by
        have : (a : Int) < (kvs.length : Int) := by simpa using hlt
        omega
      obtain ⟨n, hn⟩ : ∃ n, fs[a]? = some n := ⟨_, List.getElem?_eq_getElem hlt⟩
      have hnU : n ∈ U := hsub n (List.mem_of_getElem? hn)
      refine ⟨_, fun σ' H' z => z, ?_⟩
      have ekv : (kvs.map fun kv => kV kv.1) = strL fs := by
        have : (kvs.map (·.1)).map kV = strL fs := by rw [hk, List.map_map]; rfl
        rw [List.map_map] at this
        exact this
      refine ⟨_, rfl, fd, kvs, rfl, hd, fun q hq => ⟨_, rfl, q, _, _, .str n, rfl, rfl, .of upd_same, atI_nat (by rw [ekv, List.getElem?_map, hn]; rfl), ?_⟩⟩
      have e2 : Ext K H1 (upd H1 q (.lst (kvs.map fun kv => kV kv.1))) := .new hq (nt_lst _)
      refine ⟨rfl, _, rfl, (e1.trans e2).keep c' _ hco (fun ps z => by cases z) (fun z => z.elim), ?_⟩
      refine hnb n hnU _ (e1.trans e2) _ fun p H3 e3 f3 hp => ?_
      have ne3 : fd ≠ p := ne_fresh ((e1.trans e2).al fd |> fun _ => al_of (e2.at hd (nt_dK _)) (nt_dK _)) f3
      refine ⟨p, rfl, ⟨_, .of hp⟩, ?_⟩
      obtain ⟨vn, hvn⟩ : ∃ vn, valV kvs (.inr n) = some vn := by
        cases z : valV kvs (.inr n) with
        | none => exact (((valV_none hk n).mp z) (List.mem_of_getElem? hn)).elim
        | some vn => exact ⟨vn, rfl⟩
      obtain ⟨ln, xn, rfl, nln, hln, lxn⟩ := hrd _ _ (valV_mem hvn)
      refine for_it walk_list (fun i σ H' => ∃ (x5 : Option V) (fs' : List Str) (kvs' : List (Key × V)), σ = [some (.str st), some (.ref f), some (.ref fd), some (.int (a : Nat)), some (.str n), x5] ∧ Ext K H H' ∧ H' p = some (.lst (strL (succ n))) ∧ H' fd = some (.dK kvs') ∧ kvs'.map (·.1) = fs'.map (fun n => (.inr n : Key)) ∧
          RdsR K H H' kvs' fd (a + 2) ∧ fs'.Nodup ∧ (∀ x ∈ fs', x ∈ U) ∧ fs.length ≤ fs'.length ∧ valV kvs' (.inr n) = some (.ref ln) ∧ H' ln = some (.lst xn) ∧ fs' = addAll fs ((succ n).take i))
        ⟨_, fs, kvs, rfl, (e1.trans e2).trans e3, hp, (e2.trans e3).at hd (nt_dK _), hk, hrd.ext (.of (e2.trans e3)) (by omega), nd, hsub, Nat.le_refl _, hvn, (e2.trans e3).at hln (nt_lst _), rfl⟩ (fun i σ H' _ ⟨_, _, _, _, _, h, _⟩ => .of h) ?_ ?_
      · rintro i x σ H4 H4' hi ⟨x5, fs', kvs', rfl, e4, hp4, hd4, hk4, hrd4, nd4, hsub4, hle4, hvn4, hln4, hfs4⟩ ⟨rfl, hx⟩
        obtain ⟨o, ho, rfl, om⟩ := strL_get hx
        have lfs' : fs'.length ≤ 50 := Nat.le_trans (nodup_len nd4 hsub4) hU
        have lkv' : kvs'.length = fs'.length := by
          have := congrArg List.length hk4
          simpa using this
        refine ⟨_, rfl, fd, rfl, .inl ⟨_, .of hd4⟩, _, rfl, ?_⟩
        refine ⟨_, rfl, _, rfl, fd, _, rfl, .inl ⟨_, .inr n, .of hd4, rfl, hvn4.symm⟩, _, rfl, Nat.le_of_ble_eq_true rfl, fun l1 hl1 => ?_⟩
        have n1 : ∀ {b : Addr} {u : HO}, H4' b = some u → b ≠ l1 := fun hb => ne_of_none hb hl1
        refine ⟨ln, l1, xn, _, rfl, rfl, by rw [upd_ne (n1 hln4)]; exact hln4, upd_same, ?_, fun l2 hl2 => ?_⟩
        · show xn.length + 1 ≤ sizeLine
          exact Nat.le_trans (show xn.length + 1 ≤ 100 by omega) (by decide)
        have n2 : ∀ {b : Addr} {u : HO}, H4' b = some u → b ≠ l2 := fun hb => ne_of_none (by rw [upd_ne (n1 hb)]; exact hb) hl2
        have ex : Ext K H4' (upd (upd H4' l1 (.lst [.str o])) l2 (.lst (xn ++ [.str o]))) := Frm.trans (.new hl1 (nt_lst _)) (.new hl2 (nt_lst _))
        have eT : addAll fs ((succ n).take (i + 1)) = if o ∈ fs' then fs' else fs' ++ [o] := by
          rw [List.take_succ, ho]
          show addAll fs ((succ n).take i ++ [o]) = _
          rw [addAll_snoc, ← hfs4]
        refine ⟨kvs', .inr o, ex.at hd4 (nt_dK _), rfl, Nat.lt_of_le_of_lt (show kvs'.length ≤ 50 by omega) (by decide), fun vo hvo => ?_, fun hvo => ?_⟩
        · have hin : o ∈ fs' := Decidable.byContradiction fun z => by rw [(valV_none hk4 o).mpr z] at hvo; cases hvo
          rw [if_pos hin] at eT
          exact ⟨_, fs', kvs', rfl, e4.trans ex, ex.at hp4 (nt_lst _), ex.at hd4 (nt_dK _), hk4, hrd4.ext (.of ex) (Nat.le_refl _), nd4, hsub4, hle4, hvn4, ex.at hln4 (nt_lst _), eT.symm⟩
        · have hin : o ∉ fs' := (valV_none hk4 o).mp hvo
          rw [if_neg hin] at eT
          have hd5 := ex.at hd4 (nt_dK _)
          have up : Frm K (fun b => b = fd) (upd (upd H4' l1 (.lst [.str o])) l2 (.lst (xn ++ [.str o]))) (upd (upd (upd H4' l1 (.lst [.str o])) l2 (.lst (xn ++ [.str o]))) fd (.dK (putK kvs' (.inr o) (.ref l2)))) := .mut hd5 trivial rfl (nt_dK _)
          refine ⟨_, fs' ++ [o], putK kvs' (.inr o) (.ref l2), rfl, (e4.trans ex).mutNew (fresh_none hfd) hd5 trivial (nt_dK _), up.lst (ex.at hp4 (nt_lst _)) (fun z => ne3 z.symm), upd_same, ?_, fun k v hkv => ?_, nd_snoc nd4 hin, fun x hx => ?_, by rw [List.length_append]; omega, ?_, up.lst (ex.at hln4 (nt_lst _)) (fun z => nln z), eT.symm⟩
          · rw [putK_new _ hvo, List.map_append, List.map_append, hk4]
            rfl
          · rw [putK_new _ hvo] at hkv
            rcases List.mem_append.mp hkv with z | z
            · exact (hrd4.ext (.of ex) (Nat.le_refl _)).ext up (Nat.le_refl _) k v z
            · have e : (k, v) = ((.inr o : Key), V.ref l2) := by simpa using z
              cases e
              exact ⟨l2, _, rfl, (n2 hd4).symm, up.lst upd_same (fun z => (n2 hd4) z.symm), by rw [List.length_append]; show xn.length + 1 ≤ a + 2; omega⟩
          · rcases List.mem_append.mp hx with z | z
            · exact hsub4 x z
            · rw [List.mem_singleton.mp z]
              exact hs n hnU o om
          · rw [valV_put]
            by_cases z : n = o
            · subst z
              rw [hvo] at hvn4
              cases hvn4
            · rw [if_neg (fun q => z (Sum.inr.inj q))]
              exact hvn4
      · rintro σ H4 ⟨x5, fs', kvs', rfl, e4, hp4, hd4, hk4, hrd4, nd4, hsub4, hle4, hvn4, hln4, hfs4⟩
        refine ⟨_, rfl, _, _, rfl, rfl, 51 - (a + 1), by omega, fs', kvs', a + 1, _, _, rfl, rfl, e4, hd4, hk4, hrd4, nd4, hsub4, by omega, ?_⟩
        rw [List.length_map, List.take_length] at hfs4
        rw [← hgo, show 51 - a = (51 - (a + 1)) + 1 by omega]
        show _ = (match fs[a]? with | some n => bfsGo succ (51 - (a + 1)) (addAll fs (succ n)) (a + 1) | none => fs)
        rw [hn, hfs4]
    · have hge : fs[a]? = none := by
        rw [List.getElem?_eq_none_iff]
        have : ¬ (a : Int) < (kvs.length : Int) := by simpa using hlt
        omega
      have hR : bfs succ st = fs := by
        rw [← hgo, show 51 - a = (51 - (a + 1)) + 1 by omega]
        show (match fs[a]? with | some n => _ | none => fs) = fs
        rw [hge]
      exact ⟨_, rfl, kq fd H1 e1 (fresh_none hfd) ⟨kvs, hd, by rw [hR]; exact hk⟩⟩
end
end ST
set_option maxHeartbeats 4000000
namespace ST
open PySem PySem.Spec PyProof.Rows L2
open LamX (CodeO Tabs TabB)
/-- the tables' facts, over the base -/
structure Tb (base : Heap) (mg : Str → Option Value) (K : PySem.W.Frag) : Prop where
  b1 : TabB base mg (He.cT K ("led_to", none)).1 (He.cT K ("led_to", none)).2
  b2 : TabB base mg (He.cT K ("has_road", none)).1 (He.cT K ("has_road", none)).2
def inHeld (D : List C) (hs : List Str) (n : Str) : List Str := (nxt D n).filter fun o => decide (o ∈ hs)
def succL (D : List C) (hs ms : List Str) (n : Str) : List Str := if decl D n ms = true then inHeld D hs n else []
def ledTo (D : List C) (hs : List Str) (c : Str) (ms : List Str) : List Str := bfs (succL D hs ms) c
def hasRoad (D : List C) (hs : List Str) (c o : Str) : Bool := sw D o && decide (o ∈ bfs (inHeld D hs) c)
theorem nxt_mem {D : List C} (wf : Wf D) {n m : Str} (hn : n ∈ nms D) (h : m ∈ nxt D n) : m ∈ nms D := by
  unfold nxt at h
  split at h
  · rcases List.mem_append.mp h with z | z
    · exact (wf.rg _ (at_mem hn).1).1 m z
    · have := (List.mem_filter.mp z).1
      unfold subs at this
      obtain ⟨c, hc, e⟩ := List.mem_map.mp this
      exact List.mem_map.mpr ⟨c, (List.mem_filter.mp hc).1, e⟩
  · cases h
theorem inHeld_mem {D : List C} (wf : Wf D) {hs : List Str} {n m : Str} (hn : n ∈ nms D) (h : m ∈ inHeld D hs n) : m ∈ nms D := nxt_mem wf hn (List.mem_filter.mp h).1
theorem nms_len {D : List C} (wf : Wf D) : (nms D).length ≤ 50 := by
  rw [List.length_map]
  exact wf.len
theorem bfsGo_mem {U : List Str} {succ : Str → List Str} (hs : ∀ n ∈ U, ∀ m ∈ succ n, m ∈ U) : ∀ (k : Nat) {f : List Str} (a : Nat), f.Nodup → (∀ x ∈ f, x ∈ U) → (bfsGo succ k f a).Nodup ∧ ∀ x ∈ bfsGo succ k f a, x ∈ U
  | 0, f, a, n, h => ⟨n, h⟩
  | k + 1, f, a, n, h => by
    cases e : f[a]? with
    | none =>
      have : bfsGo succ (k + 1) f a = f := by
        show (match f[a]? with | some n => _ | none => f) = f
        rw [e]
      rw [this]
      exact ⟨n, h⟩
    | some x =>
      have : bfsGo succ (k + 1) f a = bfsGo succ k (addAll f (succ x)) (a + 1) := by
        show (match f[a]? with | some n => _ | none => f) = _
        rw [e]
      rw [this]
      have q := addAll_mem n h (hs x (h x (List.mem_of_getElem? e)))
      exact bfsGo_mem hs k (a + 1) q.1 q.2
theorem bfs_mem {U : List Str} {succ : Str → List Str} {st : Str} (hs : ∀ n ∈ U, ∀ m ∈ succ n, m ∈ U) (h : st ∈ U) : (bfs succ st).Nodup ∧ ∀ x ∈ bfs succ st, x ∈ U :=
  bfsGo_mem hs 51 0 (by simp) fun x hx => by rw [List.mem_singleton.mp hx]; exact h
theorem succL_mem {D : List C} (wf : Wf D) {hs ms : List Str} {n m : Str} (hn : n ∈ nms D) (h : m ∈ succL D hs ms n) : m ∈ nms D := by
  unfold succL at h
  split at h
  · exact inHeld_mem wf hn h
  · cases h
theorem ledTo_mem {D : List C} (wf : Wf D) {hs ms : List Str} {c : Str} (hc : c ∈ nms D) : (ledTo D hs c ms).Nodup ∧ ∀ x ∈ ledTo D hs c ms, x ∈ nms D := bfs_mem (fun n hn m hm => succL_mem wf hn hm) hc
section
variable {P : Program} {w : World} {K : PySem.W.Frag} {mg : Str → Option Value} {base : Heap}
theorem tb_ne (T : Tx K mg) {q : Str} {P0 : Addr} (h : (P0, q) ∈ Tbs K) : ∀ p ∈ Tbs K, p.1 = P0 → p.2 = q := by
  intro p hp e
  have ne := x_tabs T
  have h : (P0, q) ∈ [((He.cT K ("led_to", none)).2, ("led_to.<locals>.<lambda>" : Str)), ((He.cT K ("has_road", none)).2, ("has_road.<locals>.<lambda>" : Str))] := h
  have hp : p ∈ [((He.cT K ("led_to", none)).2, ("led_to.<locals>.<lambda>" : Str)), ((He.cT K ("has_road", none)).2, ("has_road.<locals>.<lambda>" : Str))] := hp
  rcases List.mem_cons.mp h with z | z <;> rcases List.mem_cons.mp hp with y | y
  · cases z; rw [y]
  · have y := List.mem_singleton.mp y
    cases z
    rw [y] at e
    exact (ne e.symm).elim
  · have z := List.mem_singleton.mp z
    cases z
    rw [y] at e
    exact (ne e).elim
  · have z := List.mem_singleton.mp z
    have y := List.mem_singleton.mp y
    cases z
    rw [y]
def spLed (K : PySem.W.Frag) : Sp := fun vs H Q _ => ∃ (t h m : Addr) (D : List C) (hs : List Str) (c : Str) (ms : List Str), vs = [.ref t, .ref h, .str c, .ref m] ∧ TabR K H t D ∧ Wf D ∧ HeldR H h hs ∧ c ∈ nms D ∧ (SqL K H m (strL ms) ∨ SqT K H m (strL ms)) ∧ Tabs (Tbs K) H ∧ RetL K (strL (ledTo D hs c ms)) H Q
theorem ok_led_to (T : Tx K mg) (B : Tb base mg K) : FnOk P w K mg base CX0 7 (He.fAd K d_led_to.at_) (fdOf K (He.fAd K d_led_to.at_)) ["table", "held", "cls", "methods"] (spLed K) := by
  obtain ⟨oc, od, dV, kVv, doc, pm, an, cdv, ct, osl, e, lk, hcd, _⟩ := (F_led_to T).ex
  obtain ⟨c0, rfl⟩ := He.codeIn_ref hcd
  obtain ⟨oc2, od2, dV2, kVv2, doc2, pm2, an2, cdv2, ct2, osl2, e2, lk2, hcd2, _⟩ := (F_roads_from T).ex
  have hb2 := b_roads_from T
  rw [e2] at lk2 hb2
  rw [e] at lk ⊢
  have ec : (He.cT K ("led_to", none)).1 = c0 := He.codeOf_eq lk rfl
  have TB := B.b1
  rw [ec] at TB
  refine fn_of lk hcd sc_led_to (fun vs H Q E h => ?_) (fun A outer s H vs Q E hr h => ?_)
  · obtain ⟨_, _, _, _, _, _, _, rfl, _⟩ := h
    rfl
  · obtain ⟨t, h, m, D, hs, c, ms, rfl, hT, wf, hH, hc, hm, hTb, k⟩ := h
    have hmT : ((He.cT K ("led_to", none)).2, ("led_to.<locals>.<lambda>" : Str)) ∈ Tbs K := List.mem_cons_self ..
    refine ⟨_, PSs.nox (pss_one (ps_ret (pe_callTy (k_listD rfl) (by rfl) (z_list T) (by decide +kernel) (pa_cons (pe_lam1 (T := Tbs K) (TT := TR K) (j := 4) (k := 4) rfl (g_roads_from T) (F_roads_from T).kp sc_led_to.nd rfl lk2 hcd2 hb2 sc_roads_from rfl (Or.inl rfl)
      (fun f c' s H v Q nb hr2 hco hact hTR => roads_body T hr2 hco hact hTR) TB rfl hmT (tb_ne T hmT) (hr.mono (by decide)) (lamS1_by (by kernel_rfl)) rfl (fun _ _ _ _ _ _ => rfl) (pv 2)
      (fun A outer s H f c' hr3 => (pe_ifExp (pt_val (pe_call (ok_declines T) (hr3.mono (by decide)) rfl (g_declines T) (F_declines T).kp (b_declines T) .nil pass0 (pa_cons (pv 0) (pa_cons (pv 4) (pa_cons (pv 3) pa_nil)))))
        (pe_call (ok_next_in T) (hr3.mono (by decide)) rfl (g_next_in T) (F_next_in T).kp (b_next_in T) .nil pass0 (pa_cons (pv 0) (pa_cons (pv 1) (pa_cons (pv 4) pa_nil)))) (pe_lst pa_nil)))) pa_nil)))), ?_⟩
    refine ⟨_, rfl, hTb, fun H1 eN T1 al => ?_⟩
    have e1 : Ext K H H1 := ⟨fun b o ho n _ => eN b o ho n, al, fun _ => T1⟩
    refine ⟨c, nms D, succL D hs ms, rfl, hc, nms_len wf, fun n hn m hm => succL_mem wf hn hm, fun n hn H2 e2 Q' k' => ?_, fun p H2 e2 f2 ⟨kvs, hk1, hk2⟩ => ?_⟩
    · have e3 := e1.trans e2
      refine ⟨_, rfl, _, rfl, _, rfl, t, m, D, n, ms, rfl, hT.ext e3, wf, hn, hm.imp (ext_l e3) (ext_t e3), fun H3 e4 => ⟨_, rfl, ?_⟩⟩
      have hd : succL D hs ms n = if decl D n ms = true then inHeld D hs n else [] := rfl
      refine ite2 (fun q => ?_) (fun q => ?_)
      · rw [if_pos q] at hd
        rw [hd] at k'
        exact ⟨_, rfl, _, rfl, _, rfl, t, h, D, hs, n, rfl, hT.ext (e3.trans e4), wf, hH.ext (e3.trans e4), hn, fun p H4 e5 f5 hp => k'.go (e4.trans e5) (fresh_back e4 f5) hp⟩
      · rw [if_neg q] at hd
        rw [hd] at k'
        exact ⟨Nat.zero_le _, fun p hp => k'.new e4 hp⟩
    · refine ⟨p, kvs, rfl, hk1, fun q hq => ?_⟩
      have ekv : (kvs.map fun kv => kV kv.1) = strL (ledTo D hs c ms) := by
        have : (kvs.map (·.1)).map kV = strL (ledTo D hs c ms) := by rw [hk2, List.map_map]; rfl
        rw [List.map_map] at this
        exact this
      rw [ekv]
      exact k.new (e1.trans e2) hq
def spRoad (K : PySem.W.Frag) : Sp := fun vs H Q _ => ∃ (t h : Addr) (D : List C) (hs : List Str) (c o : Str), vs = [.ref t, .ref h, .str c, .str o] ∧ TabR K H t D ∧ Wf D ∧ HeldR H h hs ∧ c ∈ nms D ∧ o ∈ nms D ∧ Tabs (Tbs K) H ∧ RetV K (.bl (hasRoad D hs c o)) H Q
theorem ok_has_road (T : Tx K mg) (B : Tb base mg K) : FnOk P w K mg base CX0 7 (He.fAd K d_has_road.at_) (fdOf K (He.fAd K d_has_road.at_)) ["table", "held", "cls", "other"] (spRoad K) := by
  obtain ⟨oc, od, dV, kVv, doc, pm, an, cdv, ct, osl, e, lk, hcd, _⟩ := (F_has_road T).ex
  obtain ⟨c0, rfl⟩ := He.codeIn_ref hcd
  obtain ⟨oc2, od2, dV2, kVv2, doc2, pm2, an2, cdv2, ct2, osl2, e2, lk2, hcd2, _⟩ := (F_roads_from T).ex
  have hb2 := b_roads_from T
  rw [e2] at lk2 hb2
  rw [e] at lk ⊢
  have ec : (He.cT K ("has_road", none)).1 = c0 := He.codeOf_eq lk rfl
  have TB := B.b2
  rw [ec] at TB
  refine fn_of lk hcd sc_has_road (fun vs H Q E h => ?_) (fun A outer s H vs Q E hr h => ?_)
  · obtain ⟨_, _, _, _, _, _, rfl, _⟩ := h
    rfl
  · obtain ⟨t, h, D, hs, c, o, rfl, hT, wf, hH, hc, ho, hTb, k⟩ := h
    have hu := hu_of hr
    have hmT : ((He.cT K ("has_road", none)).2, ("has_road.<locals>.<lambda>" : Str)) ∈ Tbs K := List.mem_cons_of_mem _ (List.mem_cons_self ..)
    refine ⟨_, PSs.nox (pss_one (ps_ret (pe_and (pe_meth (pv 0) (cl_Table T) (m_Table_sworn T) (ok_Table_sworn T) (hr.mono (by decide)) (b_Table_sworn T) .nil pass0 (pa_cons (pv 3) pa_nil)) (pe_one (pe_cmp (pc_din hu (pv 3)
      (pe_lam1 (T := Tbs K) (TT := TR K) (j := 4) (k := 4) rfl (g_roads_from T) (F_roads_from T).kp sc_has_road.nd rfl lk2 hcd2 hb2 sc_roads_from rfl (Or.inl rfl)
      (fun f c' s H v Q nb hr2 hco hact hTR => roads_body T hr2 hco hact hTR) TB rfl hmT (tb_ne T hmT) (hr.mono (by decide)) (lamS1_by (by kernel_rfl)) rfl (fun _ _ _ _ _ _ => rfl) (pv 2)
      (fun A outer s H f c' hr3 => pe_call (ok_next_in T) (hr3.mono (by decide)) rfl (g_next_in T) (F_next_in T).kp (b_next_in T) .nil pass0 (pa_cons (pv 0) (pa_cons (pv 1) (pa_cons (pv 4) pa_nil))))))))))), ?_⟩
    obtain ⟨dx, dr, dn, dl, mm, ls, h1, _⟩ := id hT
    refine ⟨_, rfl, t, dx, _, rfl, h1, rfl, _, rfl, t, D, o, rfl, hT, wf, ho, fun H0 e0 => ⟨_, rfl, ?_⟩⟩
    have hd : hasRoad D hs c o = (sw D o && decide (o ∈ bfs (inHeld D hs) c)) := rfl
    cases q : sw D o with
    | false =>
      rw [q] at hd
      rw [hd] at k
      exact iteF (k _ e0)
    | true =>
      rw [q] at hd
      rw [hd] at k
      refine iteT ⟨_, rfl, _, rfl, e0.tabs hTb, fun H1 eN T1 al => ?_⟩
      have e1 : Ext K H H1 := e0.trans ⟨fun b o ho n _ => eN b o ho n, al, fun _ => T1⟩
      refine ⟨c, nms D, inHeld D hs, rfl, hc, nms_len wf, fun n hn m hm => inHeld_mem wf hn hm, fun n hn H2 e2 Q' k' => ?_, fun p H2 e2 f2 ⟨kvs, hk1, hk2⟩ => ?_⟩
      · have e3 := e1.trans e2
        exact ⟨_, rfl, _, rfl, _, rfl, t, h, D, hs, n, rfl, hT.ext e3, wf, hH.ext e3, hn, k'⟩
      · refine ⟨p, _, rfl, DGet.k (k := Sum.inr o) hk1, ?_⟩
        have : (valV kvs (.inr o)).isSome = decide (o ∈ bfs (inHeld D hs) c) := by
          by_cases z : o ∈ bfs (inHeld D hs) c
          · rw [decide_eq_true z]
            cases y : valV kvs (.inr o) with
            | some _ => rfl
            | none => exact (((valV_none hk2 o).mp y) z).elim
          · rw [decide_eq_false z, (valV_none hk2 o).mpr z]
            rfl
        rw [this]
        exact k _ (e1.trans e2)
end
end ST
set_option maxHeartbeats 4000000
namespace ST
open PySem PySem.Spec PyProof.Rows L2
/-- a table whose dicts and lists are new since H0, its entries of H0 -/
def TabN (K : PySem.W.Frag) (H0 H : Hp) (t : Addr) (D : List C) : Prop :=
  ∃ (dx dr dn dl : Addr) (m : Int) (ls ent : Str → Addr) (nk : List (Key × V)), H t = some (.ins (He.ga K "Table") dx (tabF dr dn dl m)) ∧ H dr = some (.dK (recKV ent D)) ∧ (∀ c ∈ D, EntR K (Al H0) H (ent c.nm) c) ∧ H dl = some (.dK (lsKV ls D)) ∧
    (∀ c ∈ D, H (ls c.nm) = some (.lst (strL c.rg)) ∧ ¬ Al H0 (ls c.nm)) ∧ (∀ c ∈ D, ∀ c' ∈ D, ls c.nm = ls c'.nm → c.nm = c'.nm) ∧ H dn = some (.dK nk)
theorem TabN.ext {K : PySem.W.Frag} {H0 H H' : Hp} (a : Ext K H H') {t : Addr} {D : List C} : TabN K H0 H t D → TabN K H0 H' t D
  | ⟨dx, dr, dn, dl, m, ls, ent, nk, h1, h2, h3, h4, h5, h6, h7⟩ => ⟨dx, dr, dn, dl, m, ls, ent, nk, a.at h1 (nt_ins _ _ _), a.at h2 (nt_dK _), fun c hc => (h3 c hc).frm a fun _ _ z => z, a.at h4 (nt_dK _), fun c hc => ⟨a.at (h5 c hc).1 (nt_lst _), (h5 c hc).2⟩, h6, a.at h7 (nt_dK _)⟩
theorem TabN.r {K : PySem.W.Frag} {H0 H : Hp} {t : Addr} {D : List C} : TabN K H0 H t D → TabR K H t D
  | ⟨dx, dr, dn, dl, m, ls, ent, nk, h1, h2, h3, h4, h5, h6, h7⟩ => ⟨dx, dr, dn, dl, m, ls, h1, ⟨ent, h2, fun c hc => (h3 c hc).mono fun _ _ _ => trivial⟩, h4, fun c hc => (h5 c hc).1, nk, h7⟩
/-- without a registration -/
def rmReg (D : List C) (n o : Str) : List C := D.map fun c => if c.nm = n then { c with rg := c.rg.erase o } else c
theorem rmReg_nms (D : List C) (n o : Str) : nms (rmReg D n o) = nms D := by
  unfold rmReg nms
  rw [List.map_map]
  refine List.map_congr_left fun c _ => ?_
  show (if c.nm = n then { c with rg := c.rg.erase o } else c).nm = c.nm
  split <;> rfl
theorem rmReg_map {β : Type} (f : Str → β) (D : List C) (n o : Str) : (rmReg D n o).map (fun c => ((.inr c.nm : Key), f c.nm)) = D.map fun c => ((.inr c.nm : Key), f c.nm) := by
  have h := rmReg_nms D n o
  have e : ∀ E : List C, E.map (fun c => ((.inr c.nm : Key), f c.nm)) = (nms E).map fun x => ((.inr x : Key), f x) := fun E => by rw [List.map_map]; rfl
  rw [e, e, h]
theorem nd_inj {D : List C} (nd : (nms D).Nodup) {c c' : C} (h : c ∈ D) (h' : c' ∈ D) (e : c.nm = c'.nm) : c = c' := by
  obtain ⟨i, hi, rfl⟩ := List.getElem_of_mem h
  obtain ⟨j, hj, rfl⟩ := List.getElem_of_mem h'
  have e1 : (nms D)[i]? = some D[i].nm := by rw [List.getElem?_map, List.getElem?_eq_getElem hi]; rfl
  have e2 : (nms D)[j]? = some D[i].nm := by rw [List.getElem?_map, List.getElem?_eq_getElem hj, e]; rfl
  have := nodup_ix nd e1 e2
  subst this
  rfl
def regsOf (D : List C) : List (Str × Str) := D.flatMap fun c => c.rg.map fun o => (c.nm, o)
/-- a list of pairs of texts -/
def PairsR (H : Hp) (p : Addr) (ps : List (Str × Str)) : Prop := ∃ rs : List Addr, H p = some (.lst (rs.map V.ref)) ∧ Paired (fun (r : Addr) (q : Str × Str) => H r = some (.tup [.str q.1, .str q.2])) rs ps
theorem PairsR.frm {K : PySem.W.Frag} {S : Addr → Prop} {H H' : Hp} (a : Frm K S H H') {p : Addr} (hp : ¬ S p) {ps : List (Str × Str)} : PairsR H p ps → PairsR H' p ps
  | ⟨rs, h1, h2⟩ => ⟨rs, a.lst h1 hp, L2.Paired.mapP h2 fun _ _ h => a.tup h⟩
abbrev pairD (q : Str × Str) : PyData := .tuple [.str q.1, .str q.2]
theorem dp_pair {K : PySem.W.Frag} {H : Hp} {r : Addr} {q : Str × Str} (h : H r = some (.tup [.str q.1, .str q.2])) : Dp K H (.ref r) (pairD q) := .tup (.of h) (.cons (.str _) (.cons (.str _) .nil))
theorem dps_pairs {K : PySem.W.Frag} {H : Hp} : ∀ {rs : List Addr} {ps : List (Str × Str)}, Paired (fun (r : Addr) (q : Str × Str) => H r = some (.tup [.str q.1, .str q.2])) rs ps → DpAll K H (rs.map V.ref) (ps.map pairD)
  | _, _, .nil => .nil
  | _, _, .cons h r => .cons (dp_pair h) (dps_pairs r)
theorem PairsR.dp {K : PySem.W.Frag} {H : Hp} {p : Addr} {ps : List (Str × Str)} : PairsR H p ps → Dp K H (.ref p) (.list (ps.map pairD))
  | ⟨rs, h1, h2⟩ => .lst (.of h1) (dps_pairs h2)
theorem paired_refs {H : Hp} {ps : List (Str × Str)} : ∀ {acc : List V} {qs : List (Str × Str)}, Paired (fun (y : V) (q : Str × Str) => ∃ r, y = .ref r ∧ H r = some (.tup [.str q.1, .str q.2])) acc qs → ∃ rs : List Addr, acc = rs.map V.ref ∧ Paired (fun (r : Addr) (q : Str × Str) => H r = some (.tup [.str q.1, .str q.2])) rs qs
  | _, _, .nil => ⟨[], rfl, .nil⟩
  | _, _, .cons ⟨r, e, h⟩ q => by
    obtain ⟨rs, e2, h2⟩ := paired_refs (H := H) (ps := ps) q
    exact ⟨r :: rs, by rw [e, e2]; rfl, .cons h h2⟩
section
variable {P : Program} {w : World} {K : PySem.W.Frag} {mg : Str → Option Value} {base : Heap}
def spTInit (K : PySem.W.Frag) : Sp := fun vs H Q _ => ∃ (p dx : Addr), vs = [.ref p] ∧ H p = some (.ins (He.ga K "Table") dx []) ∧ ∀ (H' : Hp) (dr dn dl : Addr), Frm K (fun b => b = p) H H' → H' p = some (.ins (He.ga K "Table") dx (tabF dr dn dl 0)) → H' dr = some (.dK []) → H' dn = some (.dK []) → H' dl = some (.dK []) → H dr = none → H dn = none → H dl = none → dr ≠ dn → dr ≠ dl → dn ≠ dl → Q .non H'
theorem ok_Table_init (T : Tx K mg) : FnOk P w K mg base CX0 1 (He.fAd K d_Table_init.at_) (fdOf K (He.fAd K d_Table_init.at_)) ["self"] (spTInit K) := by
  refine (F_Table_init T).ok sc_Table_init (fun vs H Q E h => ?_) (fun cdv A outer s H vs Q E hr h => ?_)
  · obtain ⟨_, _, rfl, _⟩ := h
    rfl
  · obtain ⟨p, dx, rfl, h1, k⟩ := h
    refine ⟨_, PSs.nox (pss_cons (ps_fld (pv 0) pe_dnewK rfl)
    (pss_cons (ps_fld (pv 0) pe_dnewK rfl)
    (pss_cons (ps_fld (pv 0) pe_dnewK rfl)
    (pss_one (ps_fld (pv 0) pe_int rfl))))), ?_⟩
    intro dr hdr
    have n1 : p ≠ dr := ne_of_none h1 hdr
    refine ⟨_, rfl, p, _, dx, _, rfl, by rw [upd_ne n1]; exact h1, cl_Table T, na_Table_records T, Nat.lt_of_sub_eq_succ rfl, fun dn hdn => ?_⟩
    have n2 : p ≠ dn := ne_of_none upd_same hdn
    have n3 : dr ≠ dn := fun e => by rw [← e, upd_ne n1.symm, upd_same] at hdn; cases hdn
    refine ⟨_, rfl, p, _, dx, _, rfl, by rw [upd_ne n2, upd_same], cl_Table T, na_Table_numbers T, Nat.lt_of_sub_eq_succ rfl, fun dl hdl => ?_⟩
    have n4 : p ≠ dl := ne_of_none upd_same hdl
    have n5 : dn ≠ dl := fun e => by rw [← e, upd_ne n2.symm, upd_same] at hdl; cases hdl
    have n6 : dr ≠ dl := fun e => by rw [← e, upd_ne n1.symm, upd_ne n3, upd_ne n1.symm, upd_same] at hdl; cases hdl
    refine ⟨_, rfl, p, _, dx, _, rfl, by rw [upd_ne n4, upd_same], cl_Table T, na_Table_lists T, Nat.lt_of_sub_eq_succ rfl, ?_⟩
    refine ⟨_, rfl, p, _, dx, _, rfl, upd_same, cl_Table T, na_Table_made T, Nat.lt_of_sub_eq_succ rfl, ?_⟩
    have hdn0 : H dn = none := by rw [upd_ne n2.symm, upd_ne n3.symm] at hdn; exact hdn
    have hdl0 : H dl = none := by rw [upd_ne n4.symm, upd_ne n5.symm, upd_ne n4.symm, upd_ne n6.symm] at hdl; exact hdl
    refine k _ dr dn dl ?_ upd_same (by rw [upd_ne n1.symm, upd_ne n1.symm, upd_ne n6, upd_ne n1.symm, upd_ne n3, upd_ne n1.symm, upd_same]) (by rw [upd_ne n2.symm, upd_ne n2.symm, upd_ne n5, upd_ne n2.symm, upd_same]) (by rw [upd_ne n4.symm, upd_ne n4.symm, upd_same]) hdr hdn0 hdl0 n3 n6 n5
    have a1 : Frm K (fun b => b = p) H (upd H dr (.dK [])) := .new hdr (nt_dK _)
    have a2 := a1.trans (.mut (o0 := .ins (He.ga K "Table") dx []) (o := .ins (He.ga K "Table") dx (putF "records" (.ref dr) [])) (by rw [upd_ne n1]; exact h1) trivial rfl (nt_ins _ _ _))
    have a3 := a2.trans (.new hdn (nt_dK []))
    have a4 := a3.trans (.mut (o0 := .ins (He.ga K "Table") dx (putF "records" (.ref dr) [])) (o := .ins (He.ga K "Table") dx (putF "numbers" (.ref dn) (putF "records" (.ref dr) []))) (by rw [upd_ne n2, upd_same]) trivial rfl (nt_ins _ _ _))
    have a5 := a4.trans (.new hdl (nt_dK []))
    have a6 := a5.trans (.mut (o0 := .ins (He.ga K "Table") dx (putF "numbers" (.ref dn) (putF "records" (.ref dr) []))) (o := .ins (He.ga K "Table") dx (putF "lists" (.ref dl) (putF "numbers" (.ref dn) (putF "records" (.ref dr) [])))) (by rw [upd_ne n4, upd_same]) trivial rfl (nt_ins _ _ _))
    exact a6.trans (.mut (o0 := .ins (He.ga K "Table") dx (putF "lists" (.ref dl) (putF "numbers" (.ref dn) (putF "records" (.ref dr) [])))) upd_same trivial rfl (nt_ins _ _ _))
def spCopied (K : PySem.W.Frag) : Sp := fun vs H Q _ => ∃ (t : Addr) (D : List C), vs = [.ref t] ∧ TabR K H t D ∧ Wf D ∧ ∀ t' H', Ext K H H' → TabN K H H' t' D → Q (.ref t') H'
theorem take_mem {α : Type} {xs : List α} {i : Nat} {x : α} (h : xs[i]? = some x) {y : α} (hy : y ∈ xs.take (i + 1)) : y ∈ xs.take i ∨ y = x := by
  rw [List.take_succ, h] at hy
  rcases List.mem_append.mp hy with z | z
  · exact .inl z
  · exact .inr (by simpa using z)
theorem take_nd {D : List C} (nd : (nms D).Nodup) {i : Nat} {c c' : C} (h : D[i]? = some c) (h' : c' ∈ D.take i) : c'.nm ≠ c.nm := fun e => by
  obtain ⟨j, hj, ej⟩ := List.getElem_of_mem h'
  have hj' : j < i := by rw [List.length_take] at hj; omega
  have e1 : (nms D)[i]? = some c.nm := by rw [List.getElem?_map, h]; rfl
  have e2 : (nms D)[j]? = some c.nm := by
    rw [List.getElem_take] at ej
    have hl : j < D.length := by
      have := (List.getElem?_eq_some_iff.mp h).1
      omega
    rw [List.getElem?_map, List.getElem?_eq_getElem hl, ej, ← e]
    rfl
  have := nodup_ix nd e1 e2
  omega
theorem ok_Table_copied (T : Tx K mg) : FnOk P w K mg base CX0 3 (He.fAd K d_Table_copied.at_) (fdOf K (He.fAd K d_Table_copied.at_)) ["self"] (spCopied K) := by
  refine (F_Table_copied T).ok sc_Table_copied (fun vs H Q E h => ?_) (fun cdv A outer s H vs Q E hr h => ?_)
  · obtain ⟨_, _, rfl, _⟩ := h
    rfl
  · obtain ⟨t, D, rfl, ⟨dx, dr, dn, dl, m, ls, h1, ⟨ent, h2, h3⟩, h4, h5, nk, h6⟩, wf, k⟩ := h
    have hu := hu_of hr
    refine ⟨_, PSs.nox (pss_cons (ps_set (i := 1) (sc_Table_copied).nd rfl (Or.inl rfl) (pe_make0 (mk_Table T) (ok_Table_init T) (hr.mono (by decide)) rfl (g_Table T) (b_Table_init T) .nil pass0))
    (pss_cons (ps_asg (pe_tup (pa_cons (pe_callTy k_dictD (by rfl) (z_dict T) (by decide +kernel) (pa_cons (w_fld (K := K) rfl (pv 0)) pa_nil)) (pa_cons (pe_callTy k_dictD (by rfl) (z_dict T) (by decide +kernel) (pa_cons (w_fld (K := K) rfl (pv 0)) pa_nil)) (pa_cons (w_fld (K := K) rfl (pv 0)) pa_nil)))) (g_tup (K := K) rfl rfl (pgs_cons (pg_fld (K := K) rfl (pv 1)) (pgs_cons (pg_fld (K := K) rfl (pv 1)) (pgs_cons (pg_fld (K := K) rfl (pv 1)) pgs_nil)))))
    (pss_cons (ps_fld (pv 1) (pe_lock (pe_dc (own := [("name", 2), ("others", 3)]) (g := gTup K 2 (gCons (gName 2) (gCons (gName 3) gNil))) (tt := tYes) rfl (sc_Table_copied).nd (pi_items (w_fld (K := K) rfl (pv 0))) (blkOk_by (by kernel_rfl)) (fun _ _ _ _ _ => (g_tup (K := K) rfl rfl (pgs_cons (pg_name (i := 2) (sc_Table_copied).nd rfl (by first | exact Or.inl rfl | exact Or.inr rfl)) (pgs_cons (pg_name (i := 3) (sc_Table_copied).nd rfl (by first | exact Or.inl rfl | exact Or.inr rfl)) pgs_nil)))) (fun _ _ _ _ _ => pts_nil) (fun _ _ _ _ _ => (pv 2)) (fun _ _ _ _ _ => (pe_callTy (k_list (K := K) rfl) (by rfl) (z_list T) (by decide +kernel) (pa_cons (pv 3) pa_nil))))) rfl)
    (pss_one (ps_ret (pv 1)))))), ?_⟩
    intro x ox nx nox nex
    have e0 : Ext K H (upd (upd H ox (.own x)) x (.ins (He.ga K "Table") ox [])) := Frm.trans (.new nox (nt_own _)) (.new (by rw [upd_ne nex.symm]; exact nx) (nt_ins _ _ _))
    refine ⟨x, ox, rfl, upd_same, fun H1 dr1 dn1 dl1 f1 g1 g2 g3 g4 q2 q3 q4 q5 q6 q7 => ⟨rfl, ?_⟩⟩
    have fx : ¬ Al H x := fresh_none nx
    have old : ∀ {b : Addr} {o : HO}, H b = some o → NT o → H1 b = some o := fun {b o} hb n => by
      have := e0.at hb n
      exact f1.keep b o this n fun z => (fx ⟨o, by rw [← z]; exact hb, n⟩).elim
    have e1 : Ext K H H1 := ⟨fun b o hb n _ => old hb n, fun b hb => f1.al b (e0.al b hb), fun tt => f1.tabs (e0.tabs tt)⟩
    -- found.records, found.numbers, found.made = ..
    refine ⟨_, rfl, t, _, dx, _, _, rfl, e1.at h1 (nt_ins _ _ _), cl_Table T, na_Table_records T, rfl, dr, _, rfl, .of (e1.at h2 (nt_dK _)), fun nr hnr => ?_⟩
    have e2 := e1.trans (Frm.new hnr (nt_dK (recKV ent D)))
    have xr : x ≠ nr := ne_of_none g1 hnr
    refine ⟨_, rfl, t, _, dx, _, _, rfl, e2.at h1 (nt_ins _ _ _), cl_Table T, na_Table_numbers T, rfl, dn, _, rfl, .of (e2.at h6 (nt_dK _)), fun nn hnn => ?_⟩
    have e3 := e2.trans (Frm.new hnn (nt_dK nk))
    have xn : x ≠ nn := ne_of_none (by rw [upd_ne xr]; exact g1) hnn
    have rn : nr ≠ nn := ne_of_none upd_same hnn
    refine ⟨_, rfl, t, _, dx, _, _, rfl, e3.at h1 (nt_ins _ _ _), cl_Table T, na_Table_made T, rfl, Nat.le_of_ble_eq_true rfl, fun tp htp => ?_⟩
    have xt : x ≠ tp := ne_of_none (by rw [upd_ne xn, upd_ne xr]; exact g1) htp
    have rt : nr ≠ tp := ne_of_none (by rw [upd_ne rn, upd_same]) htp
    have nt : nn ≠ tp := ne_of_none upd_same htp
    have e4 := e3.trans (Frm.new htp (nt_tup [.ref nr, .ref nn, .int m]))
    refine ⟨tp, _, rfl, .of upd_same, rfl, _, _, rfl, ?_⟩
    refine ⟨_, rfl, x, _, ox, _, rfl, by rw [upd_ne xt, upd_ne xn, upd_ne xr]; exact g1, cl_Table T, na_Table_records T, Nat.lt_of_sub_eq_succ rfl, _, _, rfl, ?_⟩
    refine ⟨_, rfl, x, _, ox, _, rfl, upd_same, cl_Table T, na_Table_numbers T, Nat.lt_of_sub_eq_succ rfl, _, _, rfl, ?_⟩
    refine ⟨_, rfl, x, _, ox, _, rfl, upd_same, cl_Table T, na_Table_made T, Nat.lt_of_sub_eq_succ rfl, rfl, ?_⟩
    -- the heap now
    generalize hH2 : upd (upd (upd (upd (upd (upd H1 nr (.dK (recKV ent D))) nn (.dK nk)) tp (.tup [.ref nr, .ref nn, .int m])) x (.ins (He.ga K "Table") ox (putF "records" (.ref nr) (tabF dr1 dn1 dl1 0)))) x (.ins (He.ga K "Table") ox (putF "numbers" (.ref nn) (putF "records" (.ref nr) (tabF dr1 dn1 dl1 0))))) x (.ins (He.ga K "Table") ox (putF "made" (.int m) (putF "numbers" (.ref nn) (putF "records" (.ref nr) (tabF dr1 dn1 dl1 0))))) = H2
    have hx2 : H2 x = some (.ins (He.ga K "Table") ox (tabF nr nn dl1 m)) := by rw [← hH2]; exact upd_same
    have hr2 : H2 nr = some (.dK (recKV ent D)) := by rw [← hH2, upd_ne xr.symm, upd_ne xr.symm, upd_ne xr.symm, upd_ne rt, upd_ne rn, upd_same]
    have hn2 : H2 nn = some (.dK nk) := by rw [← hH2, upd_ne xn.symm, upd_ne xn.symm, upd_ne xn.symm, upd_ne nt, upd_same]
    have e5 : Ext K H H2 := by
      rw [← hH2]
      have b1 := e4.mutNew fx (o0 := .ins (He.ga K "Table") ox (tabF dr1 dn1 dl1 0)) (o := .ins (He.ga K "Table") ox (putF "records" (.ref nr) (tabF dr1 dn1 dl1 0))) (by rw [upd_ne xt, upd_ne xn, upd_ne xr]; exact g1) trivial (nt_ins _ _ _)
      have b2 := b1.mutNew fx (o0 := .ins (He.ga K "Table") ox (putF "records" (.ref nr) (tabF dr1 dn1 dl1 0))) (o := .ins (He.ga K "Table") ox (putF "numbers" (.ref nn) (putF "records" (.ref nr) (tabF dr1 dn1 dl1 0)))) upd_same trivial (nt_ins _ _ _)
      exact b2.mutNew fx (o0 := .ins (He.ga K "Table") ox (putF "numbers" (.ref nn) (putF "records" (.ref nr) (tabF dr1 dn1 dl1 0)))) upd_same trivial (nt_ins _ _ _)
    clear hH2
    -- found.lists = {name: list(others) ..}
    have hdl2 := e5.at h4 (nt_dK _)
    refine ⟨dl, _, hdl2, trivial, fun od => ?_⟩
    have lk : Frm K (fun b => b = dl) H2 (upd H2 dl (.frz od (.dK (lsKV ls D)))) := .lock hdl2 trivial
    have ht2 := e5.at h1 (nt_ins _ _ _)
    have ntl : t ≠ dl := ne_of ht2 hdl2 (fun z => by cases z)
    refine ⟨_, rfl, t, _, dx, _, _, rfl, by rw [upd_ne ntl]; exact ht2, cl_Table T, na_Table_lists T, rfl, dl, od, _, rfl, upd_same, ?_⟩
    refine dcw (K := K) walk_items (fun i DD H' kvs => ∃ ls' : Str → Addr, kvs = lsKV ls' (D.take i) ∧ (∀ c ∈ D.take i, H' (ls' c.nm) = some (.lst (strL c.rg)) ∧ ls' c.nm ≠ DD ∧ ¬ Al H2 (ls' c.nm)) ∧ ∀ c ∈ D.take i, ∀ c' ∈ D.take i, ls' c.nm = ls' c'.nm → c.nm = c'.nm)
      (fun i DD Ha Hb kvs a ⟨ls', z1, z2, z3⟩ => ⟨ls', z1, fun c hc => ⟨a.lst (z2 c hc).1 (z2 c hc).2.1, (z2 c hc).2⟩, z3⟩) (fun i DD H' kvs ⟨ls', z1, _⟩ => by rw [z1, List.length_map, List.length_take]; omega)
      (fun DD H' => ⟨ls, by simp, fun c hc => by simp at hc, fun c hc => by simp at hc⟩) (fun H' e => e.at upd_same (nt_frz _ _)) (by rw [List.length_map]; exact Nat.le_trans wf.len (by decide)) (fun i x' H3 H3' DD kvs hi e6 y fD hk r N0 N1 h0 hN1 => ?_) (fun DD kvs H3 fD e6 hk r => ?_)
    · obtain ⟨Tt, n, v, rfl, hT0, rfl, hn, hv⟩ := y
      obtain ⟨ls', rfl, z2, z3⟩ := r
      have hlen : i < D.length := by rw [List.length_map] at hi; exact hi
      have hc : D[i]? = some D[i] := List.getElem?_eq_getElem hlen
      have hn : ((lsKV ls D)[i]?).map (fun kv => kV kv.1) = some n := hn
      have hv : ((lsKV ls D)[i]?).map (fun kv => kv.2) = some v := hv
      rw [List.getElem?_map, hc] at hn hv
      cases hn
      cases hv
      have e7 : Ext K H3 (upd H3 Tt (.tup [.str D[i].nm, .ref (ls D[i].nm)])) := .new hT0 (nt_tup _)
      refine ⟨Tt, _, rfl, .of upd_same, rfl, _, _, rfl, _, _, rfl, rfl, ?_⟩
      have hls := lk.lst (e5.at (h5 _ (List.getElem_mem hlen)) (nt_lst _)) (ne_of (e5.at (h5 _ (List.getElem_mem hlen)) (nt_lst _)) hdl2 (fun z => by cases z))
      refine ⟨rfl, _, rfl, _, rfl, ls D[i].nm, _, rfl, .inl (.of ((e6.trans e7).at hls (nt_lst _))), fun l hl => ?_⟩
      have e8 := e7.trans (Frm.new hl (nt_lst (strL D[i].rg)))
      refine hN1 (.inr D[i].nm) (.ref l) _ e8 ⟨fun n => if n = D[i].nm then l else ls' n, ?_, fun c hc' => ?_, fun c hc1 c' hc2 he => ?_⟩
      · rw [putK_new]
        · rw [List.take_succ, hc]
          show lsKV ls' (D.take i) ++ [((.inr D[i].nm : Key), V.ref l)] = lsKV _ (D.take i ++ [D[i]])
          show _ = List.map _ _
          rw [List.map_append]
          congr 1
          · refine List.map_congr_left fun c hcm => ?_
            dsimp only
            rw [if_neg (take_nd wf.nd hc hcm)]
          · simp
        · rw [valV_map fun n => V.ref (ls' n)]
          refine if_neg fun z => ?_
          obtain ⟨c, hcm, e⟩ := List.mem_map.mp z
          exact take_nd wf.nd hc hcm e
      · dsimp only
        rcases take_mem hc hc' with z | rfl
        · rw [if_neg (take_nd wf.nd hc z)]
          exact ⟨e8.at (z2 c z).1 (nt_lst _), (z2 c z).2⟩
        · rw [if_pos rfl]
          exact ⟨upd_same, ne_of_none (e7.at hk (nt_dK _)) hl |> Ne.symm, fun z => fresh_of ((lk.trans (.of (e6.trans e7)))) hl z⟩
      · dsimp only at he
        rcases take_mem hc hc1 with z | rfl <;> rcases take_mem hc hc2 with y | rfl
        · rw [if_neg (take_nd wf.nd hc z), if_neg (take_nd wf.nd hc y)] at he
          exact z3 c z c' y he
        · rw [if_neg (take_nd wf.nd hc z), if_pos rfl] at he
          exact (ne_of_none (e7.at (z2 c z).1 (nt_lst _)) hl he).elim
        · rw [if_neg (take_nd wf.nd hc y), if_pos rfl] at he
          exact (ne_of_none (e7.at (z2 c' y).1 (nt_lst _)) hl he.symm).elim
        · rfl
    · obtain ⟨ls', rfl, z2, z3⟩ := r
      rw [List.length_map, List.take_length] at hk z2 z3
      have hdl3 := e6.at upd_same (nt_frz _ _)
      refine ⟨hdl3, ?_⟩
      have e9 : Ext K H2 (upd H3 dl (.dK (lsKV ls D))) := ext_unlock hdl2 trivial e6 hdl3
      refine ⟨_, rfl, x, _, ox, _, rfl, e9.at hx2 (nt_ins _ _ _), cl_Table T, na_Table_lists T, Nat.lt_of_sub_eq_succ rfl, ?_⟩
      refine ⟨_, rfl, ?_⟩
      have ex := (e5.trans e9).mutNew fx (o := .ins (He.ga K "Table") ox (tabF nr nn DD m)) (e9.at hx2 (nt_ins _ _ _)) trivial (nt_ins _ _ _)
      have hD : DD ≠ dl := ne_of hk hdl3 (fun z => by cases z)
      have fD2 : ¬ Al H2 DD := fun z => fD (lk.al _ z)
      have neD : DD ≠ x := ne_of hk (e6.at (by rw [upd_ne (ne_of hx2 hdl2 (fun z => by cases z))]; exact hx2) (nt_ins _ _ _)) (fun z => by cases z)
      refine k x _ ex ⟨ox, nr, nn, DD, m, ls', ent, nk, upd_same, by rw [upd_ne xr.symm]; exact e9.at hr2 (nt_dK _), fun c hc => ?_, by rw [upd_ne neD, upd_ne hD]; exact hk, fun c hc => ?_, z3, by rw [upd_ne xn.symm]; exact e9.at hn2 (nt_dK _)⟩
      · exact ((h3 c hc).mono (W' := Al H) fun b hb _ => hb).frm ex fun _ _ z => z
      · obtain ⟨y1, y2, y3⟩ := z2 c hc
        refine ⟨?_, fresh_back e5 y3⟩
        rw [upd_ne, upd_ne]
        · exact y1
        · exact ne_of y1 hdl3 (fun z => by cases z)
        · exact ne_of y1 (e6.at (by rw [upd_ne (ne_of hx2 hdl2 (fun z => by cases z))]; exact hx2) (nt_ins _ _ _)) (fun z => by cases z)
end
end ST
set_option maxHeartbeats 4000000
namespace ST
open PySem PySem.Spec PyProof.Rows L2
section
variable {P : Program} {w : World} {K : PySem.W.Frag} {mg : Str → Option Value} {base : Heap}
def spTRem (K : PySem.W.Frag) : Sp := fun vs H Q _ => ∃ (t : Addr) (D : List C) (n o : Str) (H0 : Hp), vs = [.ref t, .str n, .str o] ∧ Ext K H0 H ∧ TabN K H0 H t D ∧ Wf D ∧ n ∈ nms D ∧ o ∈ (at_ D n).rg ∧ ∀ H', Ext K H0 H' → TabR K H' t (rmReg D n o) → Q .non H'
theorem ok_Table_remove_registration (T : Tx K mg) : FnOk P w K mg base CX0 1 (He.fAd K d_Table_remove_registration.at_) (fdOf K (He.fAd K d_Table_remove_registration.at_)) ["self", "name", "other"] (spTRem K) := by
  refine (F_Table_remove_registration T).ok sc_Table_remove_registration (fun vs H Q E h => ?_) (fun cdv A outer s H vs Q E hr h => ?_)
  · obtain ⟨_, _, _, _, _, rfl, _⟩ := h
    rfl
  · obtain ⟨t, D, n, o, H0, rfl, e0, ⟨dx, dr, dn, dl, m, ls, ent, nk, h1, h2, h3, h4, h5, h6, h7⟩, wf, hn, ho, k⟩ := h
    have hu := hu_of hr
    refine ⟨_, PSs.nox (pss_one (ps_expr (w_remove (K := K) rfl (pe_dget hu (w_fld (K := K) rfl (pv 0)) (pv 1) (fun _ _ => rfl)) (pv 2)))), ?_⟩
    obtain ⟨m1, m2⟩ := at_mem hn
    have hl := h5 _ m1
    rw [m2] at hl
    refine ⟨_, rfl, t, _, dx, _, _, rfl, h1, cl_Table T, na_Table_lists T, rfl, _, rfl, dl, .ref (ls n), rfl, .inl ⟨_, .inr n, .of h4, rfl, by rw [valV_map fun n => V.ref (ls n), if_pos hn]⟩, ?_⟩
    refine ⟨.inl ⟨rfl, _, .of hl.1⟩, _, rfl, ls n, _, o, rfl, rfl, hl.1, ho, ?_⟩
    have nl : ∀ {b : Addr} {u : HO}, H b = some u → (∀ xs, u ≠ .lst xs) → b ≠ ls n := fun hb z => ne_of hb hl.1 (fun e => z _ e)
    have ex := e0.mutNew (o := .lst (strL ((at_ D n).rg.erase o))) hl.2 hl.1 trivial (nt_lst _)
    have up : Frm K (fun b => b = ls n) H (upd H (ls n) (.lst (strL ((at_ D n).rg.erase o)))) := .mut hl.1 trivial rfl (nt_lst _)
    refine k _ ex ⟨dx, dr, dn, dl, m, ls, by rw [upd_ne (nl h1 (fun _ z => by cases z))]; exact h1, ⟨ent, ?_, fun c hc => ?_⟩, ?_, fun c hc => ?_, nk, by rw [upd_ne (nl h7 (fun _ z => by cases z))]; exact h7⟩
    · rw [upd_ne (nl h2 (fun _ z => by cases z)), h2]
      show some (HO.dK (D.map fun c => ((.inr c.nm : Key), V.ref (ent c.nm)))) = some (HO.dK ((rmReg D n o).map fun c => ((.inr c.nm : Key), V.ref (ent c.nm))))
      rw [rmReg_map fun x => V.ref (ent x)]
    · obtain ⟨c0, hc0, rfl⟩ := List.mem_map.mp hc
      have q := (((h3 c0 hc0).frm (S := fun b => b = ls n) up fun b z y => hl.2 (y ▸ z)).mono (W' := fun _ => True) fun _ _ _ => trivial)
      split
      · exact q
      · exact q
    · rw [upd_ne (nl h4 (fun _ z => by cases z)), h4]
      show some (HO.dK (D.map fun c => ((.inr c.nm : Key), V.ref (ls c.nm)))) = some (HO.dK ((rmReg D n o).map fun c => ((.inr c.nm : Key), V.ref (ls c.nm))))
      rw [rmReg_map fun x => V.ref (ls x)]
    · obtain ⟨c0, hc0, rfl⟩ := List.mem_map.mp hc
      by_cases z : c0.nm = n
      · have : c0 = at_ D n := nd_inj wf.nd hc0 m1 (z.trans m2.symm)
        rw [if_pos z]
        show upd H (ls n) _ (ls c0.nm) = some (.lst (strL (c0.rg.erase o)))
        rw [z, upd_same, this]
      · rw [if_neg z]
        rw [upd_ne (fun y => z ?_)]
        · exact (h5 c0 hc0).1
        · rw [← m2] at y ⊢
          exact h6 _ hc0 _ m1 y
def spTRegs (K : PySem.W.Frag) : Sp := fun vs H Q _ => ∃ (t : Addr) (D : List C), vs = [.ref t] ∧ TabR K H t D ∧ Wf D ∧ ∀ p H', Ext K H H' → ¬ Al H p → PairsR H' p (regsOf D) → Q (.ref p) H'
theorem flat_range {α β : Type} (xs : List α) (f : α → List β) : (List.range xs.length).flatMap (fun i => ((xs[i]?).map f).getD []) = xs.flatMap f := by
  have key : ∀ n, n ≤ xs.length → (List.range n).flatMap (fun i => ((xs[i]?).map f).getD []) = (xs.take n).flatMap f := by
    intro n
    induction n with
    | zero => intro _; simp
    | succ n ih =>
      intro hn
      have hlt : n < xs.length := hn
      rw [List.range_succ, List.flatMap_append, ih (Nat.le_of_lt hlt), List.take_succ, List.flatMap_append, List.getElem?_eq_getElem hlt]
      congr 1
      simp [List.getElem?_eq_getElem hlt]
  rw [key xs.length (Nat.le_refl _), List.take_length]
theorem range_map {α β : Type} (xs : List α) (f : α → β) : (List.range xs.length).filterMap (fun i => (xs[i]?).bind fun x => some (f x)) = xs.map f := by
  rw [range_bind, List.filterMap_eq_map']
theorem ok_Table_registrations (T : Tx K mg) : FnOk P w K mg base CX0 1 (He.fAd K d_Table_registrations.at_) (fdOf K (He.fAd K d_Table_registrations.at_)) ["self"] (spTRegs K) := by
  refine (F_Table_registrations T).ok sc_Table_registrations (fun vs H Q E h => ?_) (fun cdv A outer s H vs Q E hr h => ?_)
  · obtain ⟨_, _, rfl, _⟩ := h
    rfl
  · obtain ⟨t, D, rfl, ⟨dx, dr, dn, dl, m, ls, h1, h2, h4, h5, nk, h6⟩, wf, k⟩ := h
    have hu := hu_of hr
    refine ⟨_, PSs.nox (pss_one (ps_ret (pe_lock (pe_lc2 (own := [("name", 1), ("others", 2), ("other", 3)]) (vs1 := [3]) (g := gTup K 2 (gCons (gName 1) (gCons (gName 2) gNil))) (tt := tYes) (g1 := gName 3) (tt1 := tYes) rfl (sc_Table_registrations).nd (pi_items (w_fld (K := K) rfl (pv 0))) (blkOk_by (by kernel_rfl)) (by decide) (fun _ _ _ _ _ => (g_tup (K := K) rfl rfl (pgs_cons (pg_name (i := 1) (sc_Table_registrations).nd rfl (by first | exact Or.inl rfl | exact Or.inr rfl)) (pgs_cons (pg_name (i := 2) (sc_Table_registrations).nd rfl (by first | exact Or.inl rfl | exact Or.inr rfl)) pgs_nil)))) (fun _ _ _ _ _ => pts_nil) (fun _ _ _ _ _ => (i_list (K := K) rfl (pv 2))) (fun _ _ _ _ _ => (pg_name (i := 3) (sc_Table_registrations).nd rfl (by first | exact Or.inl rfl | exact Or.inr rfl))) (fun _ _ _ _ _ => pts_nil) (fun _ _ _ _ _ => (pe_tup (pa_cons (pv 1) (pa_cons (pv 3) pa_nil)))))))), ?_⟩
    refine ⟨dl, _, h4, trivial, fun od => ?_⟩
    have lk : Frm K (fun b => b = dl) H (upd H dl (.frz od (.dK (lsKV ls D)))) := .lock h4 trivial
    have ntl : t ≠ dl := ne_of h1 h4 (fun z => by cases z)
    refine ⟨_, rfl, t, _, dx, _, _, rfl, by rw [upd_ne ntl]; exact h1, cl_Table T, na_Table_lists T, rfl, dl, od, _, rfl, upd_same, ?_⟩
    refine lc2w (K := K) walk_items (fun _ H y (q : Str × Str) => ∃ r : Addr, y = .ref r ∧ H r = some (.tup [.str q.1, .str q.2])) (fun i => ((D[i]?).map fun c => c.rg.map fun o => (c.nm, o)).getD []) (fun H' e => e.at upd_same (nt_frz _ _)) (by rw [List.length_map]; exact Nat.le_trans wf.len (by decide))
      (fun i hi => ?_) (fun i x' H3 H3' DD l acc hi e6 y fD hk r hlen Nx hNx => ?_) (fun DD acc H3 fD e6 hk r => ?_)
    · have hlen : i < D.length := by rw [List.length_map] at hi; exact hi
      rw [List.getElem?_eq_getElem hlen]
      show (D[i].rg.map fun o => (D[i].nm, o)).length ≤ 100
      rw [List.length_map]
      exact Nat.le_trans (wf.rg _ (List.getElem_mem hlen)).2 (by decide)
    · obtain ⟨Tt, n, v, rfl, hT0, rfl, hn, hv⟩ := y
      have hlt : i < D.length := by rw [List.length_map] at hi; exact hi
      have hc : D[i]? = some D[i] := List.getElem?_eq_getElem hlt
      have hn : ((lsKV ls D)[i]?).map (fun kv => kV kv.1) = some n := hn
      have hv : ((lsKV ls D)[i]?).map (fun kv => kv.2) = some v := hv
      rw [List.getElem?_map, hc] at hn hv
      cases hn
      cases hv
      have e7 : Ext K H3 (upd H3 Tt (.tup [.str D[i].nm, .ref (ls D[i].nm)])) := .new hT0 (nt_tup _)
      have hls := lk.lst (h5 _ (List.getElem_mem hlt)) (ne_of (h5 _ (List.getElem_mem hlt)) h4 (fun z => by cases z))
      have neD : ls D[i].nm ≠ DD := ne_fresh (al_of hls (nt_lst _)) fD
      have hls4 := (e6.trans e7).at hls (nt_lst _)
      refine ⟨Tt, _, rfl, .of upd_same, rfl, _, _, rfl, _, _, rfl, rfl, rfl, _, rfl, ls D[i].nm, rfl, ⟨_, .of hls4⟩, ?_⟩
      refine lcw_from (K := K) walk_list (fun _ H y (q : Str × Str) => ∃ r : Addr, y = .ref r ∧ H r = some (.tup [.str q.1, .str q.2])) (fun j => (D[i].rg[j]?).bind fun o => some (D[i].nm, o)) (fun _ _ _ _ _ a ⟨r, h1, h2⟩ => ⟨r, h1, a.tup h2⟩) fD (e6.trans e7) (e7.at hk (nt_lst _))
        (L2.Paired.mapP r fun _ _ ⟨r, h1, h2⟩ => ⟨r, h1, e7.tup h2⟩) (fun H' f => .inl (.of (f.lst hls4 neD))) (by rw [List.length_map]; have := (wf.rg _ (List.getElem_mem hlt)).2; omega) (fun j x H5 H5' hj f y aD N0 N1 g0 g1 => ?_) (fun acc' H5 e8 f8 h8 p8 => hNx acc' H5 e8 h8 ?_)
      · obtain ⟨rfl, hx⟩ := y
        obtain ⟨o, ho, rfl, om⟩ := strL_get hx
        rw [ho] at g1
        exact ⟨rfl, _, rfl, _, rfl, Nat.le_of_ble_eq_true rfl, fun p hp => g1 _ rfl _ _ (.new hp (nt_tup _)) ⟨p, rfl, upd_same⟩⟩
      · rw [hc]
        rw [List.length_map, range_map D[i].rg fun o => (D[i].nm, o)] at p8
        exact p8
    · have hdl3 := e6.at upd_same (nt_frz _ _)
      have e9 : Ext K H (upd H3 dl (.dK (lsKV ls D))) := ext_unlock h4 trivial e6 hdl3
      refine ⟨hdl3, k DD _ e9 (fun z => fD (lk.al _ z)) ?_⟩
      rw [List.length_map, flat_range D fun c => c.rg.map fun o => (c.nm, o)] at r
      obtain ⟨rs, rfl, pr⟩ := paired_refs (ps := regsOf D) r
      have hD : DD ≠ dl := ne_of hk hdl3 (fun z => by cases z)
      refine ⟨rs, by rw [upd_ne hD]; exact hk, L2.Paired.mapP pr fun r q h => ?_⟩
      rw [upd_ne (ne_of h hdl3 (fun z => by cases z))]
      exact h
end
end ST
set_option maxHeartbeats 4000000
namespace ST
open PySem PySem.Spec PyProof.Rows L2
open LamX (CodeO Tabs TabB)
def isWon (D : List C) (ms : List Str) (n : Str) : Bool := sw D n && decide (ans D n ms = some true)
def outS (D : List C) (hs : List Str) (c o : Str) (ms : List Str) : Option Str :=
  if decl D c ms = true then (if (ledTo D hs c ms).any (isWon D ms) = true then some "won" else if reached D (ledTo D hs c ms) o ms = true then some "reached" else some "neither") else none
def oV : Option Str → V
  | none => .non
  | some s => .str s
def oP : Option Str → PyData
  | none => .none
  | some s => .str s
theorem oV_dp (K : PySem.W.Frag) (H : Hp) (o : Option Str) : Dp K H (oV o) (oP o) := by
  cases o with
  | none => exact .non
  | some s => exact .str s
/-- the world at wd -/
def WldF (K : PySem.W.Frag) (H : Hp) (wd : Addr) (tb ch vi th cl : V) : Prop := ∃ dx : Addr, H wd = some (.ins (He.ga K "World") dx [("table", tb), ("cache", ch), ("visits", vi), ("things", th), ("choice_lists", cl)])
theorem WldF.ext {K : PySem.W.Frag} {H H' : Hp} (a : Ext K H H') {wd : Addr} {tb ch vi th cl : V} : WldF K H wd tb ch vi th cl → WldF K H' wd tb ch vi th cl
  | ⟨dx, h⟩ => ⟨dx, a.at h (nt_ins _ _ _)⟩
/-- a world whose table is told -/
def WldR (K : PySem.W.Frag) (H : Hp) (wd : Addr) (D : List C) : Prop := ∃ (t : Addr) (ch vi th cl : V), WldF K H wd (.ref t) ch vi th cl ∧ TabR K H t D
theorem WldR.ext {K : PySem.W.Frag} {H H' : Hp} (a : Ext K H H') {wd : Addr} {D : List C} : WldR K H wd D → WldR K H' wd D
  | ⟨t, ch, vi, th, cl, h1, h2⟩ => ⟨t, ch, vi, th, cl, h1.ext a, h2.ext a⟩
/-- patterns: a list of tuples or lists of texts -/
def PatR (K : PySem.W.Frag) (H : Hp) (p : Addr) (ps : List (List Str)) : Prop := ∃ rs : List Addr, H p = some (.lst (rs.map V.ref)) ∧ Paired (fun (r : Addr) (ms : List Str) => H r = some (.tup (strL ms))) rs ps
theorem PatR.ext {K : PySem.W.Frag} {H H' : Hp} (a : Ext K H H') {p : Addr} {ps : List (List Str)} : PatR K H p ps → PatR K H' p ps
  | ⟨rs, h1, h2⟩ => ⟨rs, a.at h1 (nt_lst _), L2.Paired.mapP h2 fun _ _ h => a.tup h⟩
theorem paired_get {α β : Type} {F : α → β → Prop} : ∀ {xs : List α} {ys : List β}, Paired F xs ys → ∀ {i : Nat} {x : α}, xs[i]? = some x → ∃ y, ys[i]? = some y ∧ F x y
  | _, _, .cons h r, 0, x, e => ⟨_, rfl, by cases e; exact h⟩
  | _, _, .cons h r, i + 1, x, e => paired_get r (i := i) (by simpa using e)
section
variable {P : Program} {w : World} {K : PySem.W.Frag} {mg : Str → Option Value} {base : Heap}
def spHas (K : PySem.W.Frag) : Sp := fun vs H Q _ => ∃ (t : Addr) (D : List C) (n : Str), vs = [.ref t, .str n] ∧ TabR K H t D ∧ RetV K (.bl (decide (n ∈ nms D))) H Q
theorem ok_Table_has (T : Tx K mg) : FnOk P w K mg base CX0 1 (He.fAd K d_Table_has.at_) (fdOf K (He.fAd K d_Table_has.at_)) ["self", "name"] (spHas K) := by
  refine (F_Table_has T).ok sc_Table_has (fun vs H Q E h => ?_) (fun cdv A outer s H vs Q E hr h => ?_)
  · obtain ⟨_, _, _, rfl, _⟩ := h
    rfl
  · obtain ⟨t, D, n, rfl, ⟨dx, dr, dn, dl, m, ls, h1, ⟨ent, h2, h3⟩, h4⟩, k⟩ := h
    have hu := hu_of hr
    refine ⟨_, PSs.nox (pss_one (ps_ret (pe_and (pe_callB (k_isi (K := K) rfl) (by rfl) (z_isinstance T) (by decide +kernel) (pa_cons (pv 1) (pa_cons (pe_bltn (v := .ty "str") rfl (z_str T) (by decide +kernel) rfl) pa_nil))) (pe_one (pe_cmp (pc_din hu (pv 1) (w_fld (K := K) rfl (pv 0)))))))), ?_⟩
    refine ⟨_, rfl, .str n, .ty "str", _, _, true, rfl, .ty "str", .base (.str n), rfl, true, rfl, iteT ?_⟩
    refine ⟨_, rfl, _, rfl, t, _, dx, _, _, rfl, h1, cl_Table T, na_Table_records T, rfl, dr, _, rfl, DGet.k (k := Sum.inr n) h2, ?_⟩
    rw [valV_map fun n => V.ref (ent n)]
    by_cases q : n ∈ nms D
    · rw [if_pos q]
      rw [decide_eq_true q] at k
      exact k _ .refl
    · rw [if_neg q]
      rw [decide_eq_false q] at k
      exact k _ .refl
def spOutIn (K : PySem.W.Frag) : Sp := fun vs H Q _ => ∃ (t h m : Addr) (D : List C) (hs : List Str) (c o : Str) (ms : List Str), vs = [.ref t, .ref h, .str c, .str o, .ref m] ∧ TabR K H t D ∧ Wf D ∧ HeldR H h hs ∧ c ∈ nms D ∧ o ∈ nms D ∧ (SqL K H m (strL ms) ∨ SqT K H m (strL ms)) ∧ Tabs (Tbs K) H ∧ RetV K (oV (outS D hs c o ms)) H Q
theorem ok_outcome_in (T : Tx K mg) (B : Tb base mg K) : FnOk P w K mg base CX0 8 (He.fAd K d_outcome_in.at_) (fdOf K (He.fAd K d_outcome_in.at_)) ["table", "held", "cls", "other", "methods"] (spOutIn K) := by
  refine (F_outcome_in T).ok sc_outcome_in (fun vs H Q E h => ?_) (fun cdv A outer s H vs Q E hr h => ?_)
  · obtain ⟨_, _, _, _, _, _, _, _, rfl, _⟩ := h
    rfl
  · obtain ⟨t, hh, m, D, hs, c, o, ms, rfl, hT, wf, hH, hc, ho, hm, hTb, k⟩ := h
    have hu := hu_of hr
    refine ⟨_, PSs.nox (pss_cons (ps_if (pt_not (pt_val (pe_call (ok_declines T) (hr.mono (by decide)) rfl (g_declines T) (F_declines T).kp (b_declines T) .nil pass0 (pa_cons (pv 0) (pa_cons (pv 2) (pa_cons (pv 4) pa_nil)))))) (pss_one (ps_ret pe_non)) pss_nil)
    (pss_cons (ps_set (i := 5) (sc_outcome_in).nd rfl (Or.inl rfl) (pe_call (ok_led_to T B) (hr.mono (by decide)) rfl (g_led_to T) (F_led_to T).kp (b_led_to T) .nil pass0 (pa_cons (pv 0) (pa_cons (pv 1) (pa_cons (pv 2) (pa_cons (pv 4) pa_nil))))))
    (pss_cons (ps_if (pt_val (pe_callB (k_any (K := K) rfl rfl) (by rfl) (z_any T) (by decide +kernel) (pa_cons (pe_lc (own := [("name", 6)]) (g := gName 6) (tt := tYes) rfl (sc_outcome_in).nd (i_list (K := K) rfl (pv 5)) (blkOk_by (by kernel_rfl)) (fun _ _ _ _ _ => (pg_name (i := 6) (sc_outcome_in).nd rfl (by first | exact Or.inl rfl | exact Or.inr rfl))) (fun _ _ _ _ _ => pts_nil) (fun _ _ _ _ _ => (pe_and (pe_meth (pv 0) (cl_Table T) (m_Table_sworn T) (ok_Table_sworn T) (hr.mono (by decide)) (b_Table_sworn T) .nil pass0 (pa_cons (pv 6) pa_nil)) (pe_one (pe_cmpR op_isTrue (pe_meth (pv 0) (cl_Table T) (m_Table_answer_for T) (ok_Table_answer_for T) (hr.mono (by decide)) (b_Table_answer_for T) .nil pass0 (pa_cons (pv 6) (pa_cons (pv 4) pa_nil))) pe_bl (nomark _)))))) pa_nil))) (pss_one (ps_ret (w_gstr rfl (c_WON T)))) pss_nil)
    (pss_one (ps_ret (pe_ifExp (pt_val (pe_call (ok_is_reached T) (hr.mono (by decide)) rfl (g_is_reached T) (F_is_reached T).kp (b_is_reached T) .nil pass0 (pa_cons (pv 0) (pa_cons (pv 5) (pa_cons (pv 3) (pa_cons (pv 4) pa_nil)))))) (w_gstr rfl (c_REACHED T)) (w_gstr rfl (c_NEITHER T)))))))), ?_⟩
    refine ⟨_, rfl, _, rfl, _, rfl, t, m, D, c, ms, rfl, hT, wf, hc, hm, fun H1 e1 => ⟨_, rfl, ?_⟩⟩
    have hd : outS D hs c o ms = if decl D c ms = true then (if (ledTo D hs c ms).any (isWon D ms) = true then some ("won" : Str) else if reached D (ledTo D hs c ms) o ms = true then some ("reached" : Str) else some ("neither" : Str)) else none := rfl
    cases q : decl D c ms with
    | false =>
      rw [q] at hd
      rw [hd] at k
      exact iteT (k _ e1)
    | true =>
      rw [q] at hd
      refine iteF ⟨_, rfl, _, rfl, _, rfl, _, rfl, t, hh, m, D, hs, c, ms, rfl, hT.ext e1, wf, hH.ext e1, hc, hm.imp (ext_l e1) (ext_t e1), e1.tabs hTb, fun p H2 e2 f2 hp => ?_⟩
      obtain ⟨hnd, hmem⟩ := ledTo_mem wf (hs := hs) (ms := ms) hc
      have hle : (ledTo D hs c ms).length ≤ 50 := Nat.le_trans (nodup_len hnd hmem) (nms_len wf)
      have e12 := e1.trans e2
      refine ⟨_, rfl, p, rfl, ⟨_, .of hp⟩, ?_⟩
      refine lcS_bl (K := K) walk_list (isWon D ms) (fun H e => ext_l e (.of hp)) (Nat.le_trans hle (by decide)) (fun n hn H3 e3 N0 N1 h3 => ?_) (fun L H3 f e3 h => ?_)
      · have e13 := e12.trans e3
        obtain ⟨dx, dr, dn, dl, mm, ls, g1, _⟩ := id (hT.ext e13)
        refine ⟨rfl, _, rfl, t, dx, _, rfl, g1, rfl, _, rfl, t, D, n, rfl, hT.ext e13, wf, hmem n hn, fun H4 e4 => ⟨_, rfl, ?_⟩⟩
        have hw : isWon D ms n = (sw D n && decide (ans D n ms = some true)) := rfl
        cases z : sw D n with
        | false =>
          rw [z] at hw
          rw [hw] at h3
          exact iteF (h3 _ e4)
        | true =>
          rw [z] at hw
          rw [hw] at h3
          refine iteT ⟨_, rfl, t, dx, _, rfl, e4.at g1 (nt_ins _ _ _), rfl, _, rfl, _, rfl, t, m, D, n, ms, rfl, hT.ext (e13.trans e4), wf, hmem n hn, hm.imp (ext_l (e13.trans e4)) (ext_t (e13.trans e4)), fun H5 e5 => ⟨_, rfl, rfl, ?_⟩⟩
          exact h3 _ (e4.trans e5)
      · have e13 := e12.trans e3
        refine ⟨L, _, rfl, .of h, _, rfl, ?_⟩
        rw [List.any_map]
        show if ((ledTo D hs c ms).any (isWon D ms)) = true then _ else _
        refine ite2 (fun z => ?_) (fun z => ?_)
        · rw [z] at hd
          rw [hd] at k
          exact k _ e13
        · rw [if_pos rfl, if_neg z] at hd
          refine ⟨_, rfl, _, rfl, _, rfl, _, rfl, t, p, m, D, _, o, ms, rfl, hT.ext e13, wf, .inl (.of (e3.at hp (nt_lst _))), Nat.le_trans hle (by decide), hmem, ho, hm.imp (ext_l e13) (ext_t e13), fun H4 e4 => ⟨_, rfl, ?_⟩⟩
          refine ite2 (fun y => ?_) (fun y => ?_)
          · rw [if_pos y] at hd
            rw [hd] at k
            exact k _ (e13.trans e4)
          · rw [if_neg y] at hd
            rw [hd] at k
            exact k _ (e13.trans e4)
end
end ST
set_option maxHeartbeats 4000000
namespace ST
open PySem PySem.Spec PyProof.Rows L2
open LamX (CodeO Tabs TabB)
section
variable {P : Program} {w : World} {K : PySem.W.Frag} {mg : Str → Option Value} {base : Heap}
def spLook (K : PySem.W.Frag) : Sp := fun vs H Q _ => ∃ (wd np : Addr) (D : List C) (ns : List Str), vs = [.ref wd, .ref np] ∧ WldR K H wd D ∧ H np = some (.tup (strL ns)) ∧ (∀ n ∈ ns, n ∈ nms D) ∧ RetV K .non H Q
theorem call_World_look (T : Tx K mg) : FnR P w K mg base CX0 3 (He.fAd K d_World_look.at_) (fun vs H Q E => ∃ ws rest, vs = ws ++ rest ∧ ws.length = ["self"].length ∧ rest.length ≤ sizeLine ∧ ∀ p, H p = Option.none → spLook K (ws ++ [V.ref p]) (upd H p (.tup rest)) Q E) := by
  obtain ⟨oc, od, dV, kVv, doc, pm, an, cdv, ct, osl, e, lk, hcd, hD, _⟩ := (F_World_look T).ex
  rw [e] at lk
  have hdv : dV = .none := hD.elim (fun z => z.2) fun z => (z.1 rfl).elim
  subst hdv
  refine StX.fn_star (N := ["self", "names", "name"]) (ps := ["self"]) (pv := "names") lk hcd sc_World_look (fun _ _ _ _ _ _ _ _ _ _ _ z => z) ?_ (fun A outer s H vs Q E hr h => ?_)
  · refine StX.bind_star1 (B := fun us => bindArgs _ ⟨us, []⟩) (p1 := "self") (pv := "names") (fun _ => ?_) (fun _ _ _ => ?_)
    · rfl
    · rfl
  obtain ⟨wd, np, D, ns, rfl, hW, hnp, hns, k⟩ := h
  refine ⟨_, PSs.nox (pss_one (ps_for PassesOwn.never rfl (i_tup (K := K) rfl (pv 1)) (pg_name (i := 2) (sc_World_look).nd rfl (Or.inl rfl)) (pss_one (ps_if (pt_not (pt_val (pe_meth (w_fld (K := K) rfl (pv 0)) (cl_Table T) (m_Table_has T) (ok_Table_has T) (hr.mono (by decide)) (b_Table_has T) .nil pass0 (pa_cons (pv 2) pa_nil)))) (pss_one ps_never) pss_nil)))), ?_⟩
  refine ⟨_, rfl, np, rfl, ⟨_, .of hnp⟩, ?_⟩
  refine for_it walk_tup (fun i σ H' => ∃ x : Option V, σ = [some (.ref wd), some (.ref np), x] ∧ Ext K H H') ⟨_, rfl, .refl⟩ (fun i σ H' _ ⟨_, _, h⟩ => .inl (.of (h.at hnp (nt_tup _)))) ?_ ?_
  · rintro i x σ H1 H1' hi ⟨_, rfl, e1⟩ ⟨rfl, hx⟩
    obtain ⟨n, hn, rfl, nm⟩ := strL_get hx
    obtain ⟨t, ch, vi, th, cl, ⟨dx, g1⟩, hT⟩ := hW.ext e1
    obtain ⟨dx', dr, dn, dl, mm, ls, g2, _⟩ := id hT
    refine ⟨_, rfl, wd, _, dx, _, _, rfl, g1, cl_World T, na_World_table T, rfl, t, dx', _, rfl, g2, rfl, _, rfl, t, D, n, rfl, hT, fun H2 e2 => ⟨_, rfl, ?_⟩⟩
    rw [decide_eq_true (hns n nm)]
    exact iteF ⟨_, rfl, e1.trans e2⟩
  · rintro σ H1 ⟨_, rfl, e1⟩
    exact k _ e1
def stD (D : List C) (c o : Str) (pats : List (List Str)) : PyData := .tuple [.list (pats.map fun ms => oP (outS D ((at_ D c).ln ++ (at_ D o).ln) c o ms)), .bool (hasRoad D ((at_ D c).ln ++ (at_ D o).ln) c o)]
def spState (K : PySem.W.Frag) : Sp := fun vs H Q _ => ∃ (t p : Addr) (D : List C) (c o : Str) (ps : List (List Str)), vs = [.ref t, .str c, .str o, .ref p] ∧ TabR K H t D ∧ Wf D ∧ c ∈ nms D ∧ o ∈ nms D ∧ PatR K H p ps ∧ ps.length ≤ 10000 ∧ Tabs (Tbs K) H ∧ RetD K (stD D c o ps) H Q
theorem dps_out {K : PySem.W.Frag} {H : Hp} {os : List (Option Str)} : ∀ {acc : List V}, Paired (fun (y : V) (o : Option Str) => y = oV o) acc os → DpAll K H acc (os.map oP)
  | _, .nil => .nil
  | _, .cons h r => by
    subst h
    exact .cons (oV_dp _ _ _) (dps_out r)
theorem ok_state_of (T : Tx K mg) (B : Tb base mg K) : FnOk P w K mg base CX0 9 (He.fAd K d_state_of.at_) (fdOf K (He.fAd K d_state_of.at_)) ["table", "cls", "other", "patterns"] (spState K) := by
  refine (F_state_of T).ok sc_state_of (fun vs H Q E h => ?_) (fun cdv A outer s H vs Q E hr h => ?_)
  · obtain ⟨_, _, _, _, _, _, rfl, _⟩ := h
    rfl
  · obtain ⟨t, p, D, c, o, ps, rfl, hT, wf, hc, ho, hP, hpl, hTb, k⟩ := h
    have hu := hu_of hr
    refine ⟨_, PSs.nox (pss_cons (ps_set (i := 4) (sc_state_of).nd rfl (Or.inr rfl) (pe_call (ok_held_by T) (hr.mono (by decide)) rfl (g_held_by T) (F_held_by T).kp (b_held_by T) .nil pass0 (pa_cons (pv 0) (pa_cons (pv 1) (pa_cons (pv 2) pa_nil)))))
    (pss_cons (ps_setLc (i := 5) (own := [("methods", 6)]) (g := gName 6) (tt := tYes) rfl (sc_state_of).nd rfl rfl (sw_true rfl rfl rfl (by decide +kernel)) (i_list (K := K) rfl (pv 3)) (blkOk_by (by kernel_rfl)) (fun _ _ _ _ _ => (pg_name (i := 6) (sc_state_of).nd rfl (by first | exact Or.inl rfl | exact Or.inr rfl))) (fun _ _ _ _ _ => pts_nil) (fun _ _ _ _ _ => (pe_call (ok_outcome_in T B) (hr.mono (by decide)) rfl (g_outcome_in T) (F_outcome_in T).kp (b_outcome_in T) .nil pass0 (pa_cons (pv 0) (pa_cons (pv 4) (pa_cons (pv 1) (pa_cons (pv 2) (pa_cons (pv 6) pa_nil))))))))
    (pss_one (ps_ret (pe_tup (pa_cons (pv 5) (pa_cons (pe_call (ok_has_road T B) (hr.mono (by decide)) rfl (g_has_road T) (F_has_road T).kp (b_has_road T) .nil pass0 (pa_cons (pv 0) (pa_cons (pv 4) (pa_cons (pv 1) (pa_cons (pv 2) pa_nil))))) pa_nil))))))), ?_⟩
    refine ⟨_, rfl, _, rfl, _, rfl, t, D, c, o, rfl, hT, wf, hc, ho, fun hp H1 e1 hH => ?_⟩
    obtain ⟨rs, hp1, hp2⟩ := id (hP.ext e1)
    refine ⟨_, rfl, p, rfl, ⟨_, .of hp1⟩, ?_⟩
    refine lcw (K := K) walk_list (fun _ _ (y : V) (q : Option Str) => y = oV q) (fun i => (ps[i]?).bind fun ms => some (outS D ((at_ D c).ln ++ (at_ D o).ln) c o ms)) (fun _ _ _ _ _ _ h => h) (fun H e => ext_l e (.of hp1)) (by rw [List.length_map, paired_len hp2]; exact hpl) (fun i x H2 H2' DD hi e2 y fD aD N0 N1 h0 h1 => ?_) (fun DD acc H2 fD e2 h pr => ?_)
    · obtain ⟨rfl, hx⟩ := y
      rw [List.getElem?_map] at hx
      cases hr' : rs[i]? with
      | none => rw [hr'] at hx; cases hx
      | some r =>
        rw [hr'] at hx
        cases hx
        obtain ⟨ms, hms, hrr⟩ := paired_get hp2 hr'
        rw [hms] at h1
        have e12 := e1.trans e2
        exact ⟨rfl, _, rfl, _, rfl, _, rfl, _, rfl, _, rfl, t, hp, r, D, _, c, o, ms, rfl, hT.ext e12, wf, hH.ext e2, hc, ho, .inr (.of (e2.tup hrr)), e12.tabs hTb, fun H3 e3 => h1 _ rfl _ _ e3 rfl⟩
    · have e12 := e1.trans e2
      rw [List.length_map, paired_len hp2, range_bind, List.filterMap_eq_map'] at pr
      refine ⟨_, rfl, _, rfl, _, rfl, _, rfl, _, rfl, t, hp, D, _, c, o, rfl, hT.ext e12, wf, hH.ext e2, hc, ho, e12.tabs hTb, fun H3 e3 => ⟨Nat.le_of_ble_eq_true rfl, fun r hr => ?_⟩⟩
      refine k _ _ (e12.trans (e3.trans (.new hr (nt_tup _)))) (.tup (.of upd_same) (.cons (.lst (xs := acc) (.of ?_) ?_) (.cons (.bl _) .nil)))
      · exact Frm.at (Frm.trans e3 (.new hr (nt_tup _))) h (nt_lst _)
      · have := dps_out (K := K) (H := upd H3 r (.tup [.ref DD, .bl (hasRoad D ((at_ D c).ln ++ (at_ D o).ln) c o)])) pr
        rw [List.map_map] at this
        exact this
def spOutcome (K : PySem.W.Frag) : Sp := fun vs H Q _ => ∃ (wd m : Addr) (D : List C) (c o : Str) (ms : List Str), vs = [.ref wd, .str c, .str o, .ref m] ∧ WldR K H wd D ∧ Wf D ∧ c ∈ nms D ∧ o ∈ nms D ∧ (SqL K H m (strL ms) ∨ SqT K H m (strL ms)) ∧ Tabs (Tbs K) H ∧ RetV K (oV (outS D ((at_ D c).ln ++ (at_ D o).ln) c o ms)) H Q
theorem ok_outcome (T : Tx K mg) (B : Tb base mg K) : FnOk P w K mg base CX0 10 (He.fAd K d_outcome.at_) (fdOf K (He.fAd K d_outcome.at_)) ["world", "cls", "other", "methods"] (spOutcome K) := by
  refine (F_outcome T).ok sc_outcome (fun vs H Q E h => ?_) (fun cdv A outer s H vs Q E hr h => ?_)
  · obtain ⟨_, _, _, _, _, _, rfl, _⟩ := h
    rfl
  · obtain ⟨wd, m, D, c, o, ms, rfl, hW, wf, hc, ho, hm, hTb, k⟩ := h
    have hu := hu_of hr
    refine ⟨_, PSs.nox (pss_cons (ps_expr (pe_methR (pl := _) (pv 0) (cl_World T) (m_World_look T) (call_World_look T) (hr.mono (by decide)) pass0 (pa_cons (pv 1) (pa_cons (pv 2) pa_nil))))
    (pss_one (ps_ret (pe_call (ok_outcome_in T B) (hr.mono (by decide)) rfl (g_outcome_in T) (F_outcome_in T).kp (b_outcome_in T) .nil pass0 (pa_cons (w_fld (K := K) rfl (pv 0)) (pa_cons (pe_call (ok_held_by T) (hr.mono (by decide)) rfl (g_held_by T) (F_held_by T).kp (b_held_by T) .nil pass0 (pa_cons (w_fld (K := K) rfl (pv 0)) (pa_cons (pv 1) (pa_cons (pv 2) pa_nil)))) (pa_cons (pv 1) (pa_cons (pv 2) (pa_cons (pv 3) pa_nil))))))))), ?_⟩
    obtain ⟨t, ch, vi, th, cl, ⟨dx, g1⟩, hT⟩ := id hW
    refine ⟨_, rfl, wd, dx, _, rfl, g1, rfl, _, rfl, _, rfl, [.ref wd], [.str c, .str o], rfl, rfl, Nat.le_of_ble_eq_true rfl, fun np hnp => ?_⟩
    have e0 : Ext K H (upd H np (.tup [.str c, .str o])) := .new hnp (nt_tup _)
    refine ⟨wd, np, D, [c, o], rfl, hW.ext e0, upd_same, fun n hn => ?_, fun H1 e1 => ?_⟩
    · rcases List.mem_cons.mp hn with z | z
      · rw [z]; exact hc
      · rw [List.mem_singleton.mp z]; exact ho
    have e01 := e0.trans e1
    refine ⟨_, rfl, wd, _, dx, _, _, rfl, e01.at g1 (nt_ins _ _ _), cl_World T, na_World_table T, rfl, _, rfl, wd, _, dx, _, _, rfl, e01.at g1 (nt_ins _ _ _), cl_World T, na_World_table T, rfl, _, rfl, _, rfl, t, D, c, o, rfl, hT.ext e01, wf, hc, ho, fun hp H2 e2 hH => ?_⟩
    have e02 := e01.trans e2
    exact ⟨_, rfl, _, rfl, _, rfl, t, hp, m, D, _, c, o, ms, rfl, hT.ext e02, wf, hH, hc, ho, hm.imp (ext_l e02) (ext_t e02), e02.tabs hTb, fun H3 e3 => k _ (e02.trans e3)⟩
end
end ST
set_option maxHeartbeats 4000000
namespace ST
open PySem PySem.Spec PyProof.Rows L2
open PySem.W (Datum)
section
variable {X : Cx} {K : PySem.W.Frag}
def rEqT (K : PySem.W.Frag) : R2 := fun x y H Q => ∃ (α : Type) (i1 : DecidableEq α) (i2 : Datum α) (a b : α), Dp K H x (i2.toD a) ∧ Dp K H y (i2.toD b) ∧ i2.depth ≤ 64 ∧ Q (.bl (decide (a = b))) H
def rNeT (K : PySem.W.Frag) : R2 := fun x y H Q => ∃ (α : Type) (i1 : DecidableEq α) (i2 : Datum α) (a b : α), Dp K H x (i2.toD a) ∧ Dp K H y (i2.toD b) ∧ i2.depth ≤ 64 ∧ Q (.bl (decide (a ≠ b))) H
/-- x not in l; x in l -/
def rNiT (K : PySem.W.Frag) : R2 := fun x y H Q => ∃ (α : Type) (i1 : DecidableEq α) (i2 : Datum α) (a : α) (b : List α), Dp K H x (i2.toD a) ∧ Dp K H y (.list (b.map i2.toD)) ∧ i2.depth ≤ 64 ∧ Q (.bl (decide (a ∉ b))) H
theorem o_eqT (h : X.K = K) (hu : X.A.units + 64 < cLine) : OpR X (compareOp .Eq) (rEqT K) := by
  subst h
  intro pins s σ H x y v u Q I rx ry h
  obtain ⟨α, i1, i2, a, b, ha, hb, hd, q⟩ := h
  obtain ⟨as, r1⟩ := Dp.reads I _ x v ha rx
  obtain ⟨bs, r2⟩ := Dp.reads I _ y u hb ry
  exact PySem.W.eq_datum (α := α) ⟨as, r1⟩ ⟨bs, r2⟩ (Nat.lt_of_le_of_lt (Nat.add_le_add_left hd _) hu) ⟨.bl _, H, I, rfl, q⟩
theorem o_neT (h : X.K = K) (hu : X.A.units + 64 < cLine) : OpR X (compareOp .NotEq) (rNeT K) := by
  subst h
  intro pins s σ H x y v u Q I rx ry h
  obtain ⟨α, i1, i2, a, b, ha, hb, hd, q⟩ := h
  obtain ⟨as, r1⟩ := Dp.reads I _ x v ha rx
  obtain ⟨bs, r2⟩ := Dp.reads I _ y u hb ry
  exact PySem.W.ne_datum (α := α) ⟨as, r1⟩ ⟨bs, r2⟩ (Nat.lt_of_le_of_lt (Nat.add_le_add_left hd _) hu) ⟨.bl _, H, I, rfl, q⟩
theorem o_niT (h : X.K = K) (hu : X.A.units + 65 < cLine) : OpR X (compareOp .NotIn) (rNiT K) := by
  subst h
  intro pins s σ H x y v u Q I rx ry h
  obtain ⟨α, i1, i2, a, b, ha, hb, hd, q⟩ := h
  obtain ⟨as, r1⟩ := Dp.reads I _ x v ha rx
  obtain ⟨bs, r2⟩ := Dp.reads I _ y u hb ry
  obtain ⟨l, vs, rfl, hl, hvs⟩ := PySem.W.list_of_holds (α := α) ⟨bs, r2⟩
  exact PySem.W.notIn_list_datum hl hvs ⟨as, r1⟩ (Nat.lt_of_le_of_lt (by omega) hu) ⟨.bl _, H, I, rfl, q⟩
end
/-- None or a text -/
def dOpt : Datum (Option Str) where
  toD := oP
  plain a := by cases a <;> rfl
  eqv a b := by
    cases a with
    | none => cases b <;> simp [oP, PyData.eqv]
    | some a =>
      cases b with
      | none => simp [oP, PyData.eqv]
      | some b =>
        simp only [oP, PyData.eqv]
        rw [PySem.W.beq_decide]
        simp
  depth := 0
  depth_le a := by cases a <;> exact Nat.le_refl _
/-- a state -/
def dSt : Datum (List (Option Str) × Bool) := @PySem.W.instDatumProd _ _ _ (@PySem.W.instDatumList _ _ dOpt) _ inferInstance
abbrev dPair : Datum (Str × Str) := inferInstance
abbrev dPairs : Datum (List (Str × Str)) := inferInstance
def stT (D : List C) (c o : Str) (pats : List (List Str)) : List (Option Str) × Bool := (pats.map fun ms => outS D ((at_ D c).ln ++ (at_ D o).ln) c o ms, hasRoad D ((at_ D c).ln ++ (at_ D o).ln) c o)
theorem stT_toD (D : List C) (c o : Str) (pats : List (List Str)) : dSt.toD (stT D c o pats) = stD D c o pats := by
  show PyData.tuple [.list ((pats.map fun ms => outS D ((at_ D c).ln ++ (at_ D o).ln) c o ms).map oP), .bool _] = _
  rw [List.map_map]
  rfl
end ST
set_option maxHeartbeats 4000000
namespace ST
open PySem PySem.Spec PyProof.Rows L2
open LamX (CodeO Tabs TabB)
theorem at_rm {D : List C} {n o m : Str} (hm : m ∈ nms D) : at_ (rmReg D n o) m = if m = n then { at_ D m with rg := (at_ D m).rg.erase o } else at_ D m := by
  unfold at_ rmReg
  rw [List.find?_map]
  have e : ((fun c : C => decide (c.nm = m)) ∘ fun c : C => if c.nm = n then { c with rg := c.rg.erase o } else c) = fun c : C => decide (c.nm = m) := by
    funext c
    show decide ((if c.nm = n then { c with rg := c.rg.erase o } else c).nm = m) = _
    split <;> rfl
  rw [e]
  cases h : D.find? fun c => decide (c.nm = m) with
  | none =>
    have := at_mem hm
    exact absurd h (by
      obtain ⟨c, hc, z⟩ := List.mem_map.mp hm
      intro q
      have := List.find?_eq_none.mp q c hc
      simp [z] at this)
  | some c =>
    have hc : c.nm = m := by simpa using List.find?_some h
    show (if c.nm = n then { c with rg := c.rg.erase o } else c) = if m = n then { c with rg := c.rg.erase o } else c
    rw [hc]
theorem at_rm_ln {D : List C} {n o m : Str} (hm : m ∈ nms D) : (at_ (rmReg D n o) m).ln = (at_ D m).ln := by
  rw [at_rm hm]
  split <;> rfl
theorem rmReg_mem {D : List C} {n o : Str} {c : C} (h : c ∈ rmReg D n o) : ∃ d ∈ D, c = if d.nm = n then { d with rg := d.rg.erase o } else d := by
  obtain ⟨d, hd, e⟩ := List.mem_map.mp h
  exact ⟨d, hd, e.symm⟩
theorem methodsOf_rm (D : List C) (n o : Str) : methodsOf (rmReg D n o) = methodsOf D := by
  unfold methodsOf rmReg
  rw [List.flatMap_map]
  refine congrArg (fun f => List.flatMap f D) (funext fun c => ?_)
  show ((if c.nm = n then { c with rg := c.rg.erase o } else c).hk.getD []).flatMap _ = _
  split <;> rfl
theorem rmReg_wf {D : List C} (wf : Wf D) (n o : Str) : Wf (rmReg D n o) where
  nd := by rw [rmReg_nms]; exact wf.nd
  len := by
    show (D.map _).length ≤ 50
    rw [List.length_map]
    exact wf.len
  ln c hc := by
    obtain ⟨d, hd, rfl⟩ := rmReg_mem hc
    rw [rmReg_nms]
    have := wf.ln d hd
    split <;> exact this
  rg c hc := by
    obtain ⟨d, hd, rfl⟩ := rmReg_mem hc
    rw [rmReg_nms]
    have := wf.rg d hd
    split
    · exact ⟨fun m hm => this.1 m (List.mem_of_mem_erase hm), Nat.le_trans List.length_erase_le this.2⟩
    · exact this
  hk c hc := by
    obtain ⟨d, hd, rfl⟩ := rmReg_mem hc
    have := wf.hk d hd
    split <;> exact this
  me := by
    rw [methodsOf_rm]
    exact wf.me
def needP (ps : List (List Str)) (D : List C) (c o : Str) : Bool := decide (stT (rmReg D c o) c o ps = stT D c o ps)
/-- enough patterns -/
def PatOk (D : List C) (ps : List (List Str)) : Prop := ps.length ≤ 10000 ∧ ∀ ms : List Str, ∃ p ∈ ps, ∀ x ∈ methodsOf D, (x ∈ p ↔ x ∈ ms)
section
variable {P : Program} {w : World} {K : PySem.W.Frag} {mg : Str → Option Value} {base : Heap}
def spNeedIn (K : PySem.W.Frag) : Sp := fun vs H Q _ => ∃ (t p : Addr) (D : List C) (c o : Str) (ps : List (List Str)), vs = [.ref t, .str c, .str o, .ref p] ∧ TabR K H t D ∧ Wf D ∧ c ∈ nms D ∧ o ∈ (at_ D c).rg ∧ PatR K H p ps ∧ ps.length ≤ 10000 ∧ Tabs (Tbs K) H ∧ RetV K (.bl (needP ps D c o)) H Q
theorem ok_is_needless_in (T : Tx K mg) (B : Tb base mg K) : FnOk P w K mg base CX0 10 (He.fAd K d_is_needless_in.at_) (fdOf K (He.fAd K d_is_needless_in.at_)) ["table", "cls", "other", "patterns"] (spNeedIn K) := by
  refine (F_is_needless_in T).ok sc_is_needless_in (fun vs H Q E h => ?_) (fun cdv A outer s H vs Q E hr h => ?_)
  · obtain ⟨_, _, _, _, _, _, rfl, _⟩ := h
    rfl
  · obtain ⟨t, p, D, c, o, ps, rfl, hT, wf, hc, ho, hP, hpl, hTb, k⟩ := h
    have hu := hu_of hr
    refine ⟨_, PSs.nox (pss_cons (ps_set (i := 4) (sc_is_needless_in).nd rfl (Or.inl rfl) (pe_meth0 (pv 0) (cl_Table T) (m_Table_copied T) (ok_Table_copied T) (hr.mono (by decide)) (b_Table_copied T) .nil pass0))
    (pss_cons (ps_expr (pe_meth (pv 4) (cl_Table T) (m_Table_remove_registration T) (ok_Table_remove_registration T) (hr.mono (by decide)) (b_Table_remove_registration T) .nil pass0 (pa_cons (pv 1) (pa_cons (pv 2) pa_nil))))
    (pss_one (ps_ret (pe_cmpR (o_eqT (K := K) rfl hr.units) (pe_call (ok_state_of T B) (hr.mono (by decide)) rfl (g_state_of T) (F_state_of T).kp (b_state_of T) .nil pass0 (pa_cons (pv 4) (pa_cons (pv 1) (pa_cons (pv 2) (pa_cons (pv 3) pa_nil))))) (pe_call (ok_state_of T B) (hr.mono (by decide)) rfl (g_state_of T) (F_state_of T).kp (b_state_of T) .nil pass0 (pa_cons (pv 0) (pa_cons (pv 1) (pa_cons (pv 2) (pa_cons (pv 3) pa_nil))))) (nomark _)))))), ?_⟩
    obtain ⟨dx, dr, dn, dl, mm, ls, h1, _⟩ := id hT
    have hon := (wf.rg _ (at_mem hc).1).1 o ho
    refine ⟨_, rfl, t, dx, _, rfl, h1, rfl, t, D, rfl, hT, wf, fun t' H1 e1 hN => ?_⟩
    obtain ⟨dx', dr', dn', dl', mm', ls', ent', nk', g1, _⟩ := id hN
    refine ⟨_, rfl, t', dx', _, rfl, g1, rfl, _, rfl, _, rfl, t', D, c, o, H, rfl, e1, hN, wf, hc, ho, fun H2 e2 hT2 => ?_⟩
    refine ⟨_, rfl, _, rfl, _, rfl, _, rfl, t', p, _, c, o, ps, rfl, hT2, rmReg_wf wf c o, by rw [rmReg_nms]; exact hc, by rw [rmReg_nms]; exact hon, hP.ext e2, hpl, e2.tabs hTb, fun v H3 e3 d3 => ?_⟩
    have e23 := e2.trans e3
    refine ⟨_, rfl, _, rfl, _, rfl, _, rfl, t, p, D, c, o, ps, rfl, hT.ext e23, wf, hc, hon, hP.ext e23, hpl, e23.tabs hTb, fun v' H4 e4 d4 => ?_⟩
    rw [← stT_toD] at d3 d4
    refine ⟨_, _, dSt, stT (rmReg D c o) c o ps, stT D c o ps, ext_dp e4 d3, d4, by decide, ?_⟩
    exact k _ (e23.trans e4)
theorem call_is_needless_in (T : Tx K mg) (B : Tb base mg K) : FnR P w K mg base CX0 10 (He.fAd K d_is_needless_in.at_) (fun vs H Q E => spNeedIn K (vs ++ []) H Q E) := (ok_is_needless_in T B).raw (b_is_needless_in T) .nil
end
end ST
set_option maxHeartbeats 4000000
namespace ST
open PySem PySem.Spec PyProof.Rows L2
open PySem.Froz (SD sObj TxOk addTx tailTx add_x add_ok is_str)
/-- the set of texts at a, in some order; it can be walked -/
def SetX (P : Program) (w : World) (h : Heap) (a : Addr) (l : List Str) : Prop :=
  ∃ D : SD, h.get? a = some (sObj "set" D) ∧ TxOk P w D l ∧ l.Nodup ∧ l.length < scanBound ∧ Ris D.2.2.place.toList ∧ (w.params.followText "set-order" = true ∨ D.2.2.led = true)
theorem SetX.keep {P : Program} {w : World} {h h' : Heap} {a : Addr} {l : List Str} (R : SetX P w h a l) (k : ∀ o, h.get? a = some o → h'.get? a = some o) : SetX P w h' a l := by
  obtain ⟨D, h1, r⟩ := R
  exact ⟨D, k _ h1, r⟩
theorem addTx_ris (h : Int) (v : Value) (D : SD) (r : Ris D.2.2.place.toList) : Ris (addTx h v D).2.2.place.toList ∧ (addTx h v D).2.2.led = D.2.2.led := by
  obtain ⟨es, ep, t⟩ := D
  have h1 := layNew_ris t es h v r
  have h2 := layNew_led t es h v
  unfold addTx tailTx
  dsimp only
  have key : ∀ t1 : SetTable, Ris t1.place.toList → t1.led = t.led → ∀ es1 wd, Ris (if (!wd && t1.tooFull) = true then ((relayAll t1 es1 (SetTable.grown es1.size)).1, ep + 2, (relayAll t1 es1 (SetTable.grown es1.size)).2.1) else (es1, ep + 1, t1) : SD).2.2.place.toList ∧
      (if (!wd && t1.tooFull) = true then ((relayAll t1 es1 (SetTable.grown es1.size)).1, ep + 2, (relayAll t1 es1 (SetTable.grown es1.size)).2.1) else (es1, ep + 1, t1) : SD).2.2.led = t.led := fun t1 r1 l1 es1 wd => by
    split
    · exact ⟨relayAll_ris t1 es1 _, (relayAll_led t1 es1 _).trans l1⟩
    · exact ⟨r1, l1⟩
  refine key _ ?_ ?_ _ _
  · split <;> exact h1
  · split <;> exact h2
section
variable {P : Program} {w : World} {A : Around} {E : Value → Shared → Prop} {s : Shared} {a : Addr} {l : List Str}
theorem setX_add {k : Str} {u : Tok} {Q : Bool → Shared → Prop} (R : SetX P w s.heap a l) (room : l.length + 1 < scanBound)
    (hQ : ∀ b h', Heap.SameBut a s.heap h' → SetX P w h' a (if k ∈ l then l else k :: l) → Q b { s with heap := h' }) : wpAny (model P w) A (setAddHashed a (.str k u) (hashStr w k)) Q E s := by
  obtain ⟨D, ho, F, nd, hb, hr, hl⟩ := id R
  by_cases hk : k ∈ l
  · rw [if_pos hk] at hQ
    obtain ⟨es, ep, t⟩ := D
    have hd : (sObj "set" (es, ep, t)).data = .set es ep t := rfl
    have hf : t.fits es.size = true := F.fit
    have hel : ElemsOf (strKind P w) es.toList := F.el
    have hsz : es.size = l.length := F.sz
    have hb0 : es.size < scanBound := by omega
    have hkey : (strKind P w).is k (.str k u) = true := is_str k u
    unfold setAddHashed setAddHashedIn
    refine wpAny_holding (wpAny_bind (wpAny_setState_of ho hd hf ?_))
    dsimp only
    rw [byScan_of rfl hb0 hel]
    simp only [↓reduceIte]
    unfold setAddByScan
    refine wpAny_bind ?_
    refine wpAny_bind (wpAny_rule ?_)
    refine wpAny_bind (wpAny_setScan_of (knd := strKind P w) (k := k) hkey ho hd hf hel ?_)
    cases hfi : List.findIdx? (fun e => (strKind P w).is k e.2) es.toList with
    | some j =>
      dsimp only
      exact wpAny_pure (wpAny_pure (hQ _ s.heap (Heap.SameBut.refl a s.heap) R))
    | none =>
      exfalso
      obtain ⟨e, he, q⟩ := (F.mem k).mp hk
      have c := List.findIdx?_eq_none_iff.mp hfi e he
      rw [q] at c
      cases c
  · rw [if_neg hk] at hQ
    have q := addTx_ris (hashStr w k) (.str k u) D hr
    refine add_x ho F hk room (hQ true _ (Heap.SameBut.update ..) ⟨_, ?_, add_ok u F, List.nodup_cons.mpr ⟨hk, nd⟩, room, q.1, hl.imp id fun z => q.2.trans z⟩)
    exact Heap.get?_update_self _ ho rfl
theorem setX_fresh {h : Heap} : SetX P w (h.push { cls := .type "set", dict := none, data := .set #[] 0 (.fresh 0 0 (!w.params.followText "set-order")) }) h.objs.size [] := by
  refine ⟨(#[], 0, .fresh 0 0 (!w.params.followText "set-order")), Heap.get?_push_size _ rfl, .nil rfl, List.nodup_nil, by decide, List.Pairwise.nil, ?_⟩
  show _ ∨ (!w.params.followText "set-order") = true
  cases w.params.followText "set-order"
  · exact .inr rfl
  · exact .inl rfl
/-- what the first i texts leave -/
def GotX (xs : List Str) (i : Nat) (l : List Str) : Prop := l.length ≤ i ∧ ∀ x, x ∈ l ↔ x ∈ xs.take i
theorem GotX.next {xs : List Str} {i : Nat} {l : List Str} {k : Str} (g : GotX xs i l) (hk : xs[i]? = some k) : GotX xs (i + 1) (if k ∈ l then l else k :: l) := by
  refine ⟨?_, fun x => ?_⟩
  · split
    · exact Nat.le_succ_of_le g.1
    · exact Nat.succ_le_succ g.1
  · rw [List.take_succ, hk]
    show _ ↔ x ∈ xs.take i ++ [k]
    rw [List.mem_append, List.mem_singleton, ← g.2 x]
    split
    · rename_i c
      exact ⟨.inl, fun z => z.elim id fun e => e ▸ c⟩
    · rw [List.mem_cons]
      exact Or.comm
theorem set_update_txt {I : Addr} {fp wr : List Addr} {G : Array GenState → Array GenState → Prop} {n : Nat} {Pv : Nat → Value → Prop} {St : Nat → Shared → Prop} {R : Result → Shared → Prop}
    (W : WalksS P w A.in1 I fp wr G n Pv St) (S : Addr) (hSf : S ∉ fp) (xs : List Str) (hn : n = xs.length) (hfew : xs.length + 1 < scanBound) (hval : ∀ i v, Pv i v → ∃ x u, xs[i]? = some x ∧ v = .str x u) :
    ∀ (k i : Nat) (s : Shared), n - i = k → i ≤ n → St i s → (∃ l, SetX P w s.heap S l ∧ GotX xs i l) →
      (∀ s' l, Moved (S :: wr) G s s' → SetX P w s'.heap S l → GotX xs n l → R (.ok (.ret .none)) s') →
      codeAny (model P w) A (.builtin "set.update.loop" ⟨[.ref S, .ref I], []⟩) R s := by
  have hSw : S ∉ wr := fun h => hSf (W.sub _ h)
  have hsub : ∀ b ∈ wr, b ∈ S :: wr := fun b hb => List.mem_cons_of_mem _ hb
  intro k
  induction k with
  | zero =>
    intro i s hk' hi hst ⟨l, hS, g⟩ hR
    have hin : i = n := by omega
    subst hin
    refine codeAny_builtin F.entry_set_update_loop ?_
    rw [Around.under_plainId F.plain_set_update_loop _]
    show wpAny _ A.in1 (pyNext (.ref I) >>= _) _ _ s
    refine wpAny_bind (W.done s _ _ hst fun s' hm => ?_)
    show wpAny _ A.in1 (ret Value.none) _ _ s'
    exact wpAny_pure (hR s' l (hm.mono hsub) (hS.keep (fun o e => hm.heap S o hSw e)) g)
  | succ k ih =>
    intro i s hk' hi hst ⟨l, hS, g⟩ hR
    have hlt : i < n := by omega
    refine codeAny_builtin F.entry_set_update_loop ?_
    rw [Around.under_plainId F.plain_set_update_loop _]
    show wpAny _ A.in1 (pyNext (.ref I) >>= _) _ _ s
    refine wpAny_bind (W.item i s _ _ hlt hst fun v s' hP hst' hm => ?_)
    obtain ⟨x, u, hx, rfl⟩ := hval i v hP
    have hS' : SetX P w s'.heap S l := hS.keep (fun o e => hm.heap S o hSw e)
    show wpAny _ A.in1 (holding [Value.str x u] (setAdd S (.str x u)) >>= _) _ _ s'
    refine wpAny_bind (wpAny_holding ?_)
    unfold setAdd
    refine wpAny_holding ?_
    refine wpAny_bind ((strKind P w).pyHash (k := x) (is_str x u) ?_)
    refine setX_add (s := { s' with toks := s'.toks + 1 }) hS' (by have := g.1; omega) fun b h' hsb hS2 => ?_
    refine wpAny_pure ⟨plainId_quiet F.plain_set_update_loop _, ih (i + 1) _ (by omega) hlt (W.frame _ s' _ _ hst' (Nat.le_succ _) fun b hb o e => ?_) ⟨_, hS2, g.next hx⟩ fun s'' l2 hm'' hS'' g'' => ?_⟩
    · rw [hsb.2 b (fun h : b = S => hSf (by rw [← h]; exact hb))]; exact e
    · refine hR s'' l2 (Moved.trans W.gtrans ((hm.mono hsub).then_heap (Nat.le_succ _) fun b o hb e => ?_) hm'') hS'' g''
      rw [hsb.2 b (fun h : b = S => hb (by rw [h]; exact List.mem_cons_self))]; exact e
end
end ST
set_option maxHeartbeats 4000000
namespace ST
open PySem PySem.Spec PyProof.Rows L2
open PySem.Froz (SD sObj TxOk addTx tailTx add_x add_ok is_str)
section
variable {P : Program} {w : World} {A : Around} {E : Value → Shared → Prop} {s : Shared}
theorem strs_at : ∀ {us : List Value} {xs : List Str}, StrsAre us xs → ∀ (i : Nat) (v : Value), us[i]? = some v → ∃ t, v = .str (xs.getD i Str.empty) t := SS.strs_at
theorem call_set_txtL {l : Addr} {items : Array Value} (xs : List Str) {Q : Value → Shared → Prop} (hh : A.handled = none) (hl : s.heap.IsList l items) (hi : StrsAre items.toList xs) (hfew : xs.length + 1 < scanBound)
    (h : ∀ (h' : Heap) (tk : Nat) L, SetX P w h' s.heap.objs.size L → GotX xs xs.length L → (∀ b o, s.heap.get? b = some o → h'.get? b = some o) → Q (.ref s.heap.objs.size) { s with heap := h', toks := tk }) :
    wpAny (model P w) A (call (.type "set") [.ref l]) Q E s := by
  have hisz : items.size = xs.length := by rw [← StrsAre.len_eq hi, Array.length_toList]
  obtain ⟨c, tl, hmro⟩ := F.called_set.mro
  have hmade := F.called_set.made
  have hsub := F.called_set.sub
  refine wpAny_call (codeAny_of_tree ?_)
  show wpAny _ _ (callAny (.type "set") _) _ _ _
  refine wpAny_pure ⟨Code.quiet_builtin _ (by decide +kernel), codeAny_builtin F.entry_type_call ?_⟩
  rw [Around.under_plain (weight_type_call_type "set" [.ref l] []) rfl]
  have h1 := F.called_set.notType
  have h2 := F.called_set.canCreate
  have hct := F.typeCall_set_1 (.ref l)
  repeat (any_goals (first | assumption | wp_step))
  refine codeAny_mono (code_set_led1 (.ref l) (E := E) (Q₁ := fun obj s₁ => obj = .ref s.heap.objs.size ∧ s₁ = { s with heap := s.heap.push { cls := .type "set", dict := none, data := .set #[] 0 (.fresh 0 0 (!w.params.followText "set-order")) } }) ⟨rfl, rfl⟩) fun r s₁ hr => ?_
  cases r with
  | error e => exact hr
  | ok fl =>
    cases fl with
    | ret obj =>
      obtain ⟨rfl, rfl⟩ := hr
      have hS : (s.heap.push { cls := .type "set", dict := none, data := .set #[] 0 (.fresh 0 0 (!w.params.followText "set-order")) }).get? s.heap.objs.size = some { cls := .type "set", dict := none, data := .set #[] 0 (.fresh 0 0 (!w.params.followText "set-order")) } := Heap.get?_push_size _ rfl
      have hT : Shared.TypeIs { s with heap := s.heap.push { cls := .type "set", dict := none, data := .set #[] 0 (.fresh 0 0 (!w.params.followText "set-order")) } } (.ref s.heap.objs.size) "set" := ⟨_, hS, rfl⟩
      have hli := F.called_set.init.lookup
      have hbi := F.called_set.init.bind (.ref s.heap.objs.size)
      repeat (any_goals (first | assumption | wp_step))
      refine codeAny_mono (codeAny_call_builtin (R := wants (fun r s₂ => r = .none ∧ ∃ h' tk L, s₂ = { s with heap := h', toks := tk } ∧ SetX P w h' s.heap.objs.size L ∧ GotX xs xs.length L ∧
          (∀ b o, s.heap.get? b = some o → h'.get? b = some o)) E) F.called_set.init.plain F.entry_set_init (check_set_init_1 hT ?_)) fun r₂ s₂ hr₂ => ?_
      · obtain ⟨ol, hol, hcl, nl, hdl⟩ := hl
        obtain ⟨ocls, odict, odata, oslots⟩ := ol
        simp only at hcl hdl
        subst hcl; subst hdl
        have hol' : (s.heap.push { cls := .type "set", dict := none, data := .set #[] 0 (.fresh 0 0 (!w.params.followText "set-order")) }).get? l = some { cls := .type "list", dict := odict, data := .seq items nl, slots := oslots } := Heap.get?_push_of_some _ hol
        have hsls := F.sub_list_set
        have hslf := F.sub_list_frozenset
        have hne : (Value.type "list" == Value.type "dict") = false := by decide
        have hl1 : (s.heap.push { cls := .type "set", dict := none, data := .set #[] 0 (.fresh 0 0 (!w.params.followText "set-order")) }).IsList l items := ⟨_, hol', rfl, nl, rfl⟩
        unfold Builtin.«set.__init__» noKeywords Builtin.Frozenset.updateFrom
        generalize hPI : pyIter = PI
        wp_walk
        subst hPI
        refine wpAny_pyIter_list hl1 ?_
        refine wpAny_bind (wpAny_runValue ?_)
        have hlS : l < s.heap.objs.size := Heap.lt_size hol
        have hh3 : A.in1.in1.in1.handled = none := by simp [hh]
        have hneI : l ≠ (s.heap.push { cls := .type "set", dict := none, data := .set #[] 0 (.fresh 0 0 (!w.params.followText "set-order")) }).objs.size := by
          rw [Heap.size_push]; exact Nat.ne_of_lt (Nat.lt_succ_of_lt hlS)
        have hSf : s.heap.objs.size ∉ [(s.heap.push { cls := .type "set", dict := none, data := .set #[] 0 (.fresh 0 0 (!w.params.followText "set-order")) }).objs.size, l] := by
          rw [Heap.size_push]; simp only [List.mem_cons, List.mem_singleton, List.not_mem_nil, or_false, not_or]
          exact ⟨Nat.ne_of_lt (Nat.lt_succ_self _), Nat.ne_of_gt hlS⟩
        have hval : ∀ (i : Nat) (v : Value), items[i]? = some v → ∃ x u, xs[i]? = some x ∧ v = .str x u := fun i v hv => by
          have hv2 : items.toList[i]? = some v := by rw [Array.getElem?_toList]; exact hv
          obtain ⟨t, e⟩ := strs_at hi i v hv2
          have hlt : i < xs.length := by
            rw [← hisz]
            exact (Array.getElem?_eq_some_iff.mp hv).1
          exact ⟨xs.getD i Str.empty, t, by rw [List.getD_eq_getElem?_getD, List.getElem?_eq_getElem hlt]; rfl, e⟩
        refine set_update_txt ((Walks.list hh3 _ l hneI items).toS) s.heap.objs.size
          hSf xs hisz hfew hval (items.size - 0) 0 _ (by omega) (Nat.zero_le _)
          ⟨⟨_, Heap.get?_push_size _ rfl, rfl, rfl⟩, (hl1.push _)⟩ ?hS0 ?hR
        case hS0 => exact ⟨[], setX_fresh.keep fun o e => Heap.get?_push_of_some _ e, Nat.le_refl _, fun x => by simp⟩
        case hR =>
          intro s' L hm hS' g'
          obtain ⟨h', g2, d', tk', os'⟩ := s'
          have eg : g2 = s.gens := hm.gens
          have ed : d' = s.drawn := hm.drawn
          have eo : os' = s.os := hm.os
          subst eg; subst ed; subst eo
          show wpAny _ _ _ _ _ _
          refine wpAny_pure ?_
          show wpAny _ _ (ret Value.none) _ _ _
          rw [hisz] at g'
          refine wpAny_pure ⟨rfl, h', tk', L, rfl, hS', g', fun b o e => ?_⟩
          have hb := Heap.lt_size e
          have hb1 : b ≠ s.heap.objs.size := Nat.ne_of_lt hb
          have hb2 : b ≠ (s.heap.push { cls := .type "set", dict := none, data := .set #[] 0 (.fresh 0 0 (!w.params.followText "set-order")) }).objs.size := by
            rw [Heap.size_push]; exact Nat.ne_of_lt (Nat.lt_succ_of_lt hb)
          exact hm.heap b o (by simp only [List.mem_cons, List.mem_singleton, List.not_mem_nil, or_false, not_or]; exact ⟨hb1, hb2⟩) (Heap.get?_push_of_some _ (Heap.get?_push_of_some _ e))
      · cases r₂ with
        | error e => exact hr₂
        | ok fl₂ =>
          cases fl₂ with
          | ret r =>
            obtain ⟨rfl, h', tk, L, rfl, hS', g', hk'⟩ := hr₂
            repeat (any_goals (first | assumption | wp_step))
            exact h _ _ _ hS' g' hk'
          | _ => exact hr₂.elim
    | _ => exact hr.elim

theorem call_set_txtT {l : Addr} {items : Array Value} (xs : List Str) {Q : Value → Shared → Prop} (hh : A.handled = none) (hl : s.heap.IsTuple l items) (hi : StrsAre items.toList xs) (hfew : xs.length + 1 < scanBound)
    (h : ∀ (h' : Heap) (tk : Nat) L, SetX P w h' s.heap.objs.size L → GotX xs xs.length L → (∀ b o, s.heap.get? b = some o → h'.get? b = some o) → Q (.ref s.heap.objs.size) { s with heap := h', toks := tk }) :
    wpAny (model P w) A (call (.type "set") [.ref l]) Q E s := by
  have hisz : items.size = xs.length := by rw [← StrsAre.len_eq hi, Array.length_toList]
  obtain ⟨c, tl, hmro⟩ := F.called_set.mro
  have hmade := F.called_set.made
  have hsub := F.called_set.sub
  refine wpAny_call (codeAny_of_tree ?_)
  show wpAny _ _ (callAny (.type "set") _) _ _ _
  refine wpAny_pure ⟨Code.quiet_builtin _ (by decide +kernel), codeAny_builtin F.entry_type_call ?_⟩
  rw [Around.under_plain (weight_type_call_type "set" [.ref l] []) rfl]
  have h1 := F.called_set.notType
  have h2 := F.called_set.canCreate
  have hct := F.typeCall_set_1 (.ref l)
  repeat (any_goals (first | assumption | wp_step))
  refine codeAny_mono (code_set_led1 (.ref l) (E := E) (Q₁ := fun obj s₁ => obj = .ref s.heap.objs.size ∧ s₁ = { s with heap := s.heap.push { cls := .type "set", dict := none, data := .set #[] 0 (.fresh 0 0 (!w.params.followText "set-order")) } }) ⟨rfl, rfl⟩) fun r s₁ hr => ?_
  cases r with
  | error e => exact hr
  | ok fl =>
    cases fl with
    | ret obj =>
      obtain ⟨rfl, rfl⟩ := hr
      have hS : (s.heap.push { cls := .type "set", dict := none, data := .set #[] 0 (.fresh 0 0 (!w.params.followText "set-order")) }).get? s.heap.objs.size = some { cls := .type "set", dict := none, data := .set #[] 0 (.fresh 0 0 (!w.params.followText "set-order")) } := Heap.get?_push_size _ rfl
      have hT : Shared.TypeIs { s with heap := s.heap.push { cls := .type "set", dict := none, data := .set #[] 0 (.fresh 0 0 (!w.params.followText "set-order")) } } (.ref s.heap.objs.size) "set" := ⟨_, hS, rfl⟩
      have hli := F.called_set.init.lookup
      have hbi := F.called_set.init.bind (.ref s.heap.objs.size)
      repeat (any_goals (first | assumption | wp_step))
      refine codeAny_mono (codeAny_call_builtin (R := wants (fun r s₂ => r = .none ∧ ∃ h' tk L, s₂ = { s with heap := h', toks := tk } ∧ SetX P w h' s.heap.objs.size L ∧ GotX xs xs.length L ∧
          (∀ b o, s.heap.get? b = some o → h'.get? b = some o)) E) F.called_set.init.plain F.entry_set_init (check_set_init_1 hT ?_)) fun r₂ s₂ hr₂ => ?_
      · obtain ⟨ol, hol, hcl, nl, hdl⟩ := hl
        obtain ⟨ocls, odict, odata, oslots⟩ := ol
        simp only at hcl hdl
        subst hcl; subst hdl
        have hol' : (s.heap.push { cls := .type "set", dict := none, data := .set #[] 0 (.fresh 0 0 (!w.params.followText "set-order")) }).get? l = some { cls := .type "tuple", dict := odict, data := .seq items nl, slots := oslots } := Heap.get?_push_of_some _ hol
        have hsls := F.sub_tuple_set
        have hslf := F.sub_tuple_frozenset
        have hne : (Value.type "tuple" == Value.type "dict") = false := by decide
        have hl1 : (s.heap.push { cls := .type "set", dict := none, data := .set #[] 0 (.fresh 0 0 (!w.params.followText "set-order")) }).IsTuple l items := ⟨_, hol', rfl, nl, rfl⟩
        unfold Builtin.«set.__init__» noKeywords Builtin.Frozenset.updateFrom
        generalize hPI : pyIter = PI
        wp_walk
        subst hPI
        refine wpAny_pyIter_tuple hl1 ?_
        refine wpAny_bind (wpAny_runValue ?_)
        have hlS : l < s.heap.objs.size := Heap.lt_size hol
        have hh3 : A.in1.in1.in1.handled = none := by simp [hh]
        have hneI : l ≠ (s.heap.push { cls := .type "set", dict := none, data := .set #[] 0 (.fresh 0 0 (!w.params.followText "set-order")) }).objs.size := by
          rw [Heap.size_push]; exact Nat.ne_of_lt (Nat.lt_succ_of_lt hlS)
        have hSf : s.heap.objs.size ∉ [(s.heap.push { cls := .type "set", dict := none, data := .set #[] 0 (.fresh 0 0 (!w.params.followText "set-order")) }).objs.size, l] := by
          rw [Heap.size_push]; simp only [List.mem_cons, List.mem_singleton, List.not_mem_nil, or_false, not_or]
          exact ⟨Nat.ne_of_lt (Nat.lt_succ_self _), Nat.ne_of_gt hlS⟩
        have hval : ∀ (i : Nat) (v : Value), items[i]? = some v → ∃ x u, xs[i]? = some x ∧ v = .str x u := fun i v hv => by
          have hv2 : items.toList[i]? = some v := by rw [Array.getElem?_toList]; exact hv
          obtain ⟨t, e⟩ := strs_at hi i v hv2
          have hlt : i < xs.length := by
            rw [← hisz]
            exact (Array.getElem?_eq_some_iff.mp hv).1
          exact ⟨xs.getD i Str.empty, t, by rw [List.getD_eq_getElem?_getD, List.getElem?_eq_getElem hlt]; rfl, e⟩
        refine set_update_txt ((Walks.tuple hh3 _ l hneI items).toS) s.heap.objs.size
          hSf xs hisz hfew hval (items.size - 0) 0 _ (by omega) (Nat.zero_le _)
          ⟨⟨_, Heap.get?_push_size _ rfl, rfl, rfl⟩, (hl1.push _)⟩ ?hS0 ?hR
        case hS0 => exact ⟨[], setX_fresh.keep fun o e => Heap.get?_push_of_some _ e, Nat.le_refl _, fun x => by simp⟩
        case hR =>
          intro s' L hm hS' g'
          obtain ⟨h', g2, d', tk', os'⟩ := s'
          have eg : g2 = s.gens := hm.gens
          have ed : d' = s.drawn := hm.drawn
          have eo : os' = s.os := hm.os
          subst eg; subst ed; subst eo
          show wpAny _ _ _ _ _ _
          refine wpAny_pure ?_
          show wpAny _ _ (ret Value.none) _ _ _
          rw [hisz] at g'
          refine wpAny_pure ⟨rfl, h', tk', L, rfl, hS', g', fun b o e => ?_⟩
          have hb := Heap.lt_size e
          have hb1 : b ≠ s.heap.objs.size := Nat.ne_of_lt hb
          have hb2 : b ≠ (s.heap.push { cls := .type "set", dict := none, data := .set #[] 0 (.fresh 0 0 (!w.params.followText "set-order")) }).objs.size := by
            rw [Heap.size_push]; exact Nat.ne_of_lt (Nat.lt_succ_of_lt hb)
          exact hm.heap b o (by simp only [List.mem_cons, List.mem_singleton, List.not_mem_nil, or_false, not_or]; exact ⟨hb1, hb2⟩) (Heap.get?_push_of_some _ (Heap.get?_push_of_some _ e))
      · cases r₂ with
        | error e => exact hr₂
        | ok fl₂ =>
          cases fl₂ with
          | ret r =>
            obtain ⟨rfl, h', tk, L, rfl, hS', g', hk'⟩ := hr₂
            repeat (any_goals (first | assumption | wp_step))
            exact h _ _ _ hS' g' hk'
          | _ => exact hr₂.elim
    | _ => exact hr.elim

end
end ST
set_option maxHeartbeats 4000000
namespace ST
open PySem PySem.Spec PyProof.Rows L2
open PySem.Froz (SD sObj TxOk addTx tailTx add_x add_ok is_str)
section
variable {P : Program} {w : World} {A : Around} {E : Value → Shared → Prop} {s : Shared}
theorem strs_of_el : ∀ {es : List (Int × Value)}, ElemsOf (strKind P w) es → ∃ l : List Str, StrsAre (es.map (·.2)) l ∧ l.length = es.length ∧ ∀ k, k ∈ l ↔ ∃ e ∈ es, (strKind P w).is k e.2 = true
  | [], _ => ⟨[], .nil, rfl, fun k => by simp⟩
  | e :: es, h => by
    obtain ⟨l, h1, h2, h3⟩ := strs_of_el (es := es) fun x hx => h x (List.mem_cons_of_mem _ hx)
    obtain ⟨⟨k, hk, _⟩, _⟩ := h e (List.mem_cons_self ..)
    obtain ⟨t, ht⟩ := Value.isStrOf_shape (x := k) (v := e.2) hk
    refine ⟨k :: l, by rw [List.map_cons, ht]; exact .cons k t h1, by rw [List.length_cons, List.length_cons, h2], fun k' => ?_⟩
    rw [List.mem_cons, h3 k']
    constructor
    · rintro (z | ⟨x, hx, q⟩)
      · exact ⟨e, List.mem_cons_self .., by rw [z]; exact hk⟩
      · exact ⟨x, List.mem_cons_of_mem _ hx, q⟩
    · rintro ⟨x, hx, q⟩
      rcases List.mem_cons.mp hx with z | z
      · subst z
        obtain ⟨t', ht'⟩ := Value.isStrOf_shape (x := k') (v := x.2) q
        rw [ht] at ht'
        exact .inl (by cases ht'; rfl)
      · exact .inr ⟨x, z, q⟩
theorem strsAre_perm {us vs : List Value} {l : List Str} (h : StrsAre us l) (p : vs.Perm us) : ∃ l', StrsAre vs l' ∧ l'.Perm l := by
  induction p generalizing l with
  | nil => exact ⟨l, h, .refl _⟩
  | cons x _ ih =>
    cases h with
    | cons y t h =>
      obtain ⟨l', h1, h2⟩ := ih h
      exact ⟨y :: l', .cons y t h1, h2.cons y⟩
  | swap x y r =>
    cases h with
    | cons a t h =>
      cases h with
      | cons b u h => exact ⟨_, .cons b u (.cons a t h), List.Perm.swap ..⟩
  | trans _ _ ih1 ih2 =>
    obtain ⟨l1, h1, p1⟩ := ih2 h
    obtain ⟨l2, h2, p2⟩ := ih1 h1
    exact ⟨l2, h2, p2.trans p1⟩
theorem sorted_setX {a : Addr} {l : List Str} {Q : Value → Shared → Prop} (R : SetX P w s.heap a l) (hh : A.handled = none) (h64 : l.length < 64)
    (hQ : ∀ s' p (out : Array Value) (c : Nat) (ns : List Str), (∀ b o, s.heap.get? b = some o → s'.heap.get? b = some o) → s'.gens = s.gens → s'.os = s.os → s.heap.objs.size ≤ p →
      s'.heap.get? p = some (seqObj "list" out c) → StrsAre out.toList ns → (∀ k, k ∈ ns ↔ k ∈ l) → ns.length = l.length → Q (.ref p) s') :
    wpAny (model P w) A (call (.builtin "sorted") [.ref a]) Q E s := by
  obtain ⟨⟨es, ep, t⟩, ho, F, nd, hb, hr, hl⟩ := id R
  have hsz : es.size = l.length := F.sz
  refine Calls.call_function_entry kind_sorted plain_sorted entry_sorted (args_sorted1 _) ?_
  unfold Builtin.«sorted»
  refine wpAny_bind (m := checkCount "sorted" 1 1 _) (wpAny_pure ?_)
  refine wpAny_bind (collect_set (A := A.in1) hh ⟨_, ho, rfl, rfl⟩ F.fit (by rw [hsz]; exact hb) hr hl fun s1 vs k1 hz g1 o1 pm => ?_)
  have hvl : vs.length = l.length := by rw [pm.length_eq, List.length_map, Array.length_toList]; exact hsz
  obtain ⟨l0, hl0, hlen0, hm0⟩ := strs_of_el F.el
  obtain ⟨l1, hS, p1⟩ := strsAre_perm hl0 pm
  refine wpAny_bind (wpAny_newList ?_ (by rw [hvl, sizeLine_eq]; omega))
  have hoL : (s1.heap.push (seqObj "list" vs.toArray 0)).get? s1.heap.objs.size = some (seqObj "list" vs.toArray 0) := Heap.get?_push_size _ rfl
  refine wpAny_bind (wpAny_holding (wpAny_call_entry slot_list_sort ⟨_, hoL, rfl⟩ entry_list_sort
    (list_sort_treeK strKind_oneLt hoL hS.keysOf (fun v₁ v₂ rest e => keyKind_strs (by rw [← e]; exact hS)) (by rw [hvl]; exact h64) fun st' hp hs => ⟨_, rfl, ?_⟩) (args_list_sort _)))
  obtain ⟨ys, g1', g2, g3⟩ := sorted_out_str hS hp hs
  obtain ⟨c, hc⟩ := sortedHeap_at (vs := vs) (out := (arrOf st').map (·.2)) hoL
  refine wpAny_pure ⟨_, rfl, hQ _ s1.heap.objs.size ((arrOf st').map (·.2)) c ys (fun b u e => ?_) g1 o1 hz hc g1' (fun k => ?_) ?_⟩
  · have q := k1 b u e
    have hlt := Heap.lt_size q
    rw [sortedHeap_old (Nat.ne_of_lt hlt) (by rw [size_push']; exact Nat.lt_succ_of_lt hlt)]
    exact Heap.get?_push_of_some _ q
  · rw [g2.mem_iff, p1.mem_iff, hm0 k]
    exact (F.mem k).symm
  · rw [g2.length_eq, p1.length_eq, hlen0, Array.length_toList]
    exact hsz
end
/-- the set of texts at a -/
def SetXO (P : Program) (w : World) (a : Addr) (l : List Str) : HO := .ext fun h => SetX P w h a l
theorem nt_setX (P : Program) (w : World) (a : Addr) (l : List Str) : NT (SetXO P w a l) := fun _ e => by cases e
section
variable {X : Cx} {K : PySem.W.Frag}
theorem setXO_new {w : World} {P : Program} {H : Hp} {h : Heap} {a : Addr} {l : List Str} (R : SetX P w h a l) : ObjOk P w H h a (SetXO P w a l) := by
  obtain ⟨D, ho, _⟩ := id R
  exact ⟨R, ⟨_, ho⟩, fun h1 h2 p k => SetX.keep p k⟩
theorem setXO_get {pins : List (Addr × Obj)} {σ : L2.St} {H : Hp} {s : Shared} {a : Addr} {l : List Str} (I : Inv X pins σ H s) (ha : H a = some (SetXO X.prog X.w a l)) : SetX X.prog X.w s.heap a l := (I.hok a _ ha).1
/-- set(xs) -/
def rSetX (K : PySem.W.Frag) (P : Program) (w : World) : List V → Hp → VK → Prop := fun vs H Q => ∃ (p : Addr) (xs : List Str), vs = [.ref p] ∧ (SqL K H p (strL xs) ∨ SqT K H p (strL xs)) ∧ xs.length ≤ 1000 ∧ ∀ a l, H a = none → l.Nodup → (∀ x, x ∈ l ↔ x ∈ xs) → (xs.Nodup → l.length = xs.length) → Q (.ref a) (upd H a (SetXO P w a l))
theorem same_len {l xs : List Str} (h1 : l.Nodup) (h2 : xs.Nodup) (h : ∀ x, x ∈ l ↔ x ∈ xs) : l.length = xs.length :=
  Nat.le_antisymm (nodup_len h1 fun x hx => (h x).mp hx) (nodup_len h2 fun x hx => (h x).mpr hx)
theorem k_setX (h : X.K = K) (hc : X.calm = true) : CallR X (.type "set") (rSetX K X.prog X.w) := by
  subst h
  intro pins s σ H vs us Q I r h
  obtain ⟨p, xs, rfl, hs, hlen, q⟩ := h
  rw [Vals.ref1 r]
  have fin : ∀ (h' : Heap) (tk : Nat) L, SetX X.prog X.w h' s.heap.objs.size L → GotX xs xs.length L → (∀ b o, s.heap.get? b = some o → h'.get? b = some o) → EP X pins σ Q (.ref s.heap.objs.size) { s with heap := h', toks := tk } := fun h' tk L R g k => by
    have hn := I.hok.fresh (Nat.le_refl _)
    obtain ⟨_, _, _, nd, _⟩ := id R
    have hm : ∀ x, x ∈ L ↔ x ∈ xs := fun x => by
      rw [g.2 x, List.take_length]
    exact ⟨.ref _, upd H s.heap.objs.size (SetXO X.prog X.w s.heap.objs.size L), I.laid (t' := tk) k (Nat.le_refl _) (setXO_new R), rfl, q _ L hn nd hm fun n2 => same_len nd n2 hm⟩
  have hb : xs.length + 1 < scanBound := Nat.lt_of_le_of_lt (Nat.succ_le_succ hlen) (by decide)
  rcases hs with hs | hs
  · obtain ⟨its, rv, hl, _⟩ := I.list hs
    exact call_set_txtL xs (I.ok.hd hc) hl.isList (by simpa using Vals.strs rv) hb fin
  · obtain ⟨its, rv, hl, _⟩ := I.tuple hs
    exact call_set_txtT xs (I.ok.hd hc) hl (by simpa using Vals.strs rv) hb fin
/-- len(set) -/
def rLenX (P : Program) (w : World) : List V → Hp → VK → Prop := fun vs H Q => ∃ (a : Addr) (l : List Str), vs = [.ref a] ∧ H a = some (SetXO P w a l) ∧ l.length ≤ 10000 ∧ Q (.int l.length) H
theorem k_lenX : CallR X (.builtin "len") (rLenX X.prog X.w) := by
  intro pins s σ H vs us Q I r h
  obtain ⟨a, l, rfl, ha, hlen, q⟩ := h
  rw [Vals.ref1 r]
  obtain ⟨⟨es, ep, t⟩, ho, F, nd, hb, hr, hl⟩ := setXO_get I ha
  have hsz : es.size = l.length := F.sz
  exact call_len_set ho ⟨rfl, rfl, rfl⟩ rfl F.fit (by rw [hsz] <;> omega) ⟨.int l.length, H, I.tok _, ⟨_, by rw [hsz]⟩, q⟩
/-- sorted(set) -/
def rSortX (P : Program) (w : World) : List V → Hp → VK → Prop := fun vs H Q => ∃ (a : Addr) (l : List Str), vs = [.ref a] ∧ H a = some (SetXO P w a l) ∧ l.length < 64 ∧ ∀ p ns, H p = none → ns.length = l.length → (∀ k, k ∈ ns ↔ k ∈ l) → Q (.ref p) (upd H p (.lst (strL ns)))
theorem k_sortX (hc : X.calm = true) : CallR X (.builtin "sorted") (rSortX X.prog X.w) := by
  intro pins s σ H vs us Q I r h
  obtain ⟨a, l, rfl, ha, h64, q⟩ := h
  rw [Vals.ref1 r]
  refine sorted_setX (setXO_get I ha) (I.ok.hd hc) h64 fun s' p out c ns k g o hp hg hi hm hl => ?_
  have hlen : (strL ns).length ≤ sizeLine := by rw [strL_length, hl, sizeLine_eq]; omega
  have hn : H p = none := I.hok.fresh hp
  have J : Inv X pins σ (upd H p (.lst (strL ns))) { s with heap := s'.heap, gens := s'.gens, drawn := s'.drawn, toks := s'.toks } :=
    I.call (ch := []) (Un.laid k hp hn) (I.hok.laid k hp ⟨hlen, out.toList, c, vals_of_strs hi, hg⟩) (by rw [g]; exact I.bare) (fun _ z => nomatch z)
  have e : s' = { s with heap := s'.heap, gens := s'.gens, drawn := s'.drawn, toks := s'.toks } := by
    cases s'
    cases s
    cases o
    rfl
  rw [e]
  exact ⟨.ref p, _, J, rfl, q p ns hn hl hm⟩
end
end ST
set_option maxHeartbeats 4000000
namespace ST
open PySem PySem.Spec PyProof.Rows L2
open PySem.Froz (SD sObj TxOk addTx tailTx add_x add_ok is_str)
section
variable {prog : Program} {w : World} {A : Around} {R : Result → Shared → Prop} {s : Shared} {elt t0 i0 t1 i1 t2 i2 : Expr} {f0 f1 f2 : List Expr} {scope : Scope} {pos : Pos} {it acc : Value} {env : Env}
abbrev SC (elt t0 i0 t1 i1 t2 i2 : Expr) (f0 f1 f2 : List Expr) (scope : Scope) (pos : Pos) : Expr := .SetComp elt [⟨t0, i0, f0, 0⟩, ⟨t1, i1, f1, 0⟩, ⟨t2, i2, f2, 0⟩] scope pos
theorem turn3_0 (elt t0 i0 t1 i1 t2 i2 : Expr) (f0 f1 f2 : List Expr) (scope : Scope) (pos : Pos) (it acc : Value) (env : Env) :
    compTurn (SC elt t0 i0 t1 i1 t2 i2 f0 f1 f2 scope pos) 0 it acc env = (do
      standAt i0.pos
      match ← pyNext it with
      | none => pure (.done .next)
      | some v =>
        letOwnedTupleGo t0 it v
        assign t0 env v
        let mut ok := true
        for c in f0 do
          if ok then ok ← isTrue c env (eval c env)
        if ok then
          let x ← eval i1 env
          standAt i1.pos
          let x ← foldedSetIterable i1 env x
          let _ ← runOwn (.compStart (SC elt t0 i0 t1 i1 t2 i2 f0 f1 f2 scope pos) 1 (← holding [x] (pyIter x)) acc env) env
        again (.compLoop (SC elt t0 i0 t1 i1 t2 i2 f0 f1 f2 scope pos) 0 it acc env)) := by rfl
theorem turn3_1 (elt t0 i0 t1 i1 t2 i2 : Expr) (f0 f1 f2 : List Expr) (scope : Scope) (pos : Pos) (it acc : Value) (env : Env) :
    compTurn (SC elt t0 i0 t1 i1 t2 i2 f0 f1 f2 scope pos) 1 it acc env = (do
      standAt i1.pos
      match ← pyNext it with
      | none => pure (.done .next)
      | some v =>
        letOwnedTupleGo t1 it v
        assign t1 env v
        let mut ok := true
        for c in f1 do
          if ok then ok ← isTrue c env (eval c env)
        if ok then
          let x ← eval i2 env
          standAt i2.pos
          let x ← foldedSetIterable i2 env x
          let _ ← runOwn (.compStart (SC elt t0 i0 t1 i1 t2 i2 f0 f1 f2 scope pos) 2 (← holding [x] (pyIter x)) acc env) env
        again (.compLoop (SC elt t0 i0 t1 i1 t2 i2 f0 f1 f2 scope pos) 1 it acc env)) := by rfl
theorem turn3_2 (elt t0 i0 t1 i1 t2 i2 : Expr) (f0 f1 f2 : List Expr) (scope : Scope) (pos : Pos) (it acc : Value) (env : Env) :
    compTurn (SC elt t0 i0 t1 i1 t2 i2 f0 f1 f2 scope pos) 2 it acc env = (do
      standAt i2.pos
      match ← pyNext it with
      | none => pure (.done .next)
      | some v =>
        letOwnedTupleGo t2 it v
        assign t2 env v
        let mut ok := true
        for c in f2 do
          if ok then ok ← isTrue c env (eval c env)
        if ok then
          (do let v ← eval elt env; standAt elt.pos; let _ ← call (.builtin "set.add") [acc, v])
        again (.compLoop (SC elt t0 i0 t1 i1 t2 i2 f0 f1 f2 scope pos) 2 it acc env)) := by rfl
theorem loop3_0 (hs : ∀ x, foldedSetIterable i1 env x = pure x) (I : Nat → Shared → Prop)
    (turn : ∀ n s, I n s → wpAny (model prog w) A (pyNext it) (fun r s₁ => match r with
      | none => R (.ok .next) s₁
      | some v => wpAny (model prog w) A (letOwnedTupleGo t0 it v) (fun _ s₁' => wpAny (model prog w) A (assign t0 env v) (fun _ s₂ =>
          wpAny (model prog w) A (forIn f0 true fun c r => if r = true then do let ok ← isTrue c env (eval c env); pure (ForInStep.yield ok) else pure (ForInStep.yield r)) (fun ok s₃ =>
            if ok = true then wpAny (model prog w) A (eval i1 env) (fun x s₄ => wpAny (model prog w) A (pyIter x) (fun it1 s₅ =>
              codeAny (model prog w) A (.compStart (SC elt t0 i0 t1 i1 t2 i2 f0 f1 f2 scope pos) 1 it1 acc env) (fun r s' => match r with
                | .ok _ => ∃ m, m < n ∧ I m s'
                | .error _ => False) s₅) (notedBy (model prog w) A env fun e s' => R (.error e) s') s₄) (notedBy (model prog w) A env fun e s' => R (.error e) s') s₃
            else ∃ m, m < n ∧ I m s₃) (notedBy (model prog w) A env fun e s' => R (.error e) s') s₂) (notedBy (model prog w) A env fun e s' => R (.error e) s') s₁') (notedBy (model prog w) A env fun e s' => R (.error e) s') s₁) (notedBy (model prog w) A env fun e s' => R (.error e) s') s)
    (n : Nat) (h : I n s) :
    codeAny (model prog w) A (.compLoop (SC elt t0 i0 t1 i1 t2 i2 f0 f1 f2 scope pos) 0 it acc env) R s := by
  refine codeAny_loop rfl I (fun n s hI => ?_) n h
  show wpAny _ A ((compTurn (SC elt t0 i0 t1 i1 t2 i2 f0 f1 f2 scope pos) 0 it acc env).onRaise (fun x => do noteFrame x env; theTreesLotGoes x)) _ _ s
  refine wpAny_noted ?_
  rw [turn3_0]
  refine wpAny_bind (wpAny_standAt (wpAny_bind (wpAny_mono (turn n s hI) (fun r s₁ h₁ => ?_) fun _ _ h' => h')))
  cases r with
  | none => exact wpAny_pure h₁
  | some v =>
    refine wpAny_bind (wpAny_mono h₁ (fun _ s₁' h₁' => ?_) fun _ _ h' => h')
    refine wpAny_bind (wpAny_mono h₁' (fun _ s₂ h₂ => wpAny_bind (wpAny_mono h₂ (fun ok s₃ h₃ => ?_) fun _ _ h' => h')) fun _ _ h' => h')
    cases ok with
    | false => exact wpAny_pure ⟨rfl, h₃⟩
    | true =>
      refine wpAny_bind (wpAny_mono h₃ (fun x s₄ h₄ => ?_) fun _ _ h' => h')
      refine wpAny_bind (wpAny_standAt (wpAny_bind (wpAny_of_eq (hs x) (wpAny_bind (wpAny_holding (wpAny_mono h₄ (fun it1 s₅ h₅ => ?_) fun _ _ h' => h'))))))
      refine wpAny_bind (wpAny_runOwn ?_)
      rw [Around.mark_none]
      refine codeAny_mono h₅ fun r s' hr => ?_
      cases r with
      | ok f =>
        first
          | exact wpAny_pure ⟨rfl, hr⟩
          | exact wpAny_bind (wpAny_pure (wpAny_pure ⟨rfl, hr⟩))
      | error e => exact hr.elim
theorem loop3_1 (hs : ∀ x, foldedSetIterable i2 env x = pure x) (I : Nat → Shared → Prop)
    (turn : ∀ n s, I n s → wpAny (model prog w) A (pyNext it) (fun r s₁ => match r with
      | none => R (.ok .next) s₁
      | some v => wpAny (model prog w) A (letOwnedTupleGo t1 it v) (fun _ s₁' => wpAny (model prog w) A (assign t1 env v) (fun _ s₂ =>
          wpAny (model prog w) A (forIn f1 true fun c r => if r = true then do let ok ← isTrue c env (eval c env); pure (ForInStep.yield ok) else pure (ForInStep.yield r)) (fun ok s₃ =>
            if ok = true then wpAny (model prog w) A (eval i2 env) (fun x s₄ => wpAny (model prog w) A (pyIter x) (fun it1 s₅ =>
              codeAny (model prog w) A (.compStart (SC elt t0 i0 t1 i1 t2 i2 f0 f1 f2 scope pos) 2 it1 acc env) (fun r s' => match r with
                | .ok _ => ∃ m, m < n ∧ I m s'
                | .error _ => False) s₅) (notedBy (model prog w) A env fun e s' => R (.error e) s') s₄) (notedBy (model prog w) A env fun e s' => R (.error e) s') s₃
            else ∃ m, m < n ∧ I m s₃) (notedBy (model prog w) A env fun e s' => R (.error e) s') s₂) (notedBy (model prog w) A env fun e s' => R (.error e) s') s₁') (notedBy (model prog w) A env fun e s' => R (.error e) s') s₁) (notedBy (model prog w) A env fun e s' => R (.error e) s') s)
    (n : Nat) (h : I n s) :
    codeAny (model prog w) A (.compLoop (SC elt t0 i0 t1 i1 t2 i2 f0 f1 f2 scope pos) 1 it acc env) R s := by
  refine codeAny_loop rfl I (fun n s hI => ?_) n h
  show wpAny _ A ((compTurn (SC elt t0 i0 t1 i1 t2 i2 f0 f1 f2 scope pos) 1 it acc env).onRaise (fun x => do noteFrame x env; theTreesLotGoes x)) _ _ s
  refine wpAny_noted ?_
  rw [turn3_1]
  refine wpAny_bind (wpAny_standAt (wpAny_bind (wpAny_mono (turn n s hI) (fun r s₁ h₁ => ?_) fun _ _ h' => h')))
  cases r with
  | none => exact wpAny_pure h₁
  | some v =>
    refine wpAny_bind (wpAny_mono h₁ (fun _ s₁' h₁' => ?_) fun _ _ h' => h')
    refine wpAny_bind (wpAny_mono h₁' (fun _ s₂ h₂ => wpAny_bind (wpAny_mono h₂ (fun ok s₃ h₃ => ?_) fun _ _ h' => h')) fun _ _ h' => h')
    cases ok with
    | false => exact wpAny_pure ⟨rfl, h₃⟩
    | true =>
      refine wpAny_bind (wpAny_mono h₃ (fun x s₄ h₄ => ?_) fun _ _ h' => h')
      refine wpAny_bind (wpAny_standAt (wpAny_bind (wpAny_of_eq (hs x) (wpAny_bind (wpAny_holding (wpAny_mono h₄ (fun it1 s₅ h₅ => ?_) fun _ _ h' => h'))))))
      refine wpAny_bind (wpAny_runOwn ?_)
      rw [Around.mark_none]
      refine codeAny_mono h₅ fun r s' hr => ?_
      cases r with
      | ok f =>
        first
          | exact wpAny_pure ⟨rfl, hr⟩
          | exact wpAny_bind (wpAny_pure (wpAny_pure ⟨rfl, hr⟩))
      | error e => exact hr.elim
theorem loop3_2 (I : Nat → Shared → Prop)
    (turn : ∀ n s, I n s → wpAny (model prog w) A (pyNext it) (fun r s₁ => match r with
      | none => R (.ok .next) s₁
      | some v => wpAny (model prog w) A (letOwnedTupleGo t2 it v) (fun _ s₁' => wpAny (model prog w) A (assign t2 env v) (fun _ s₂ =>
          wpAny (model prog w) A (forIn f2 true fun c r => if r = true then do let ok ← isTrue c env (eval c env); pure (ForInStep.yield ok) else pure (ForInStep.yield r)) (fun ok s₃ =>
            if ok = true then wpAny (model prog w) A (eval elt env) (fun x s₄ =>
              wpAny (model prog w) A (call (.builtin "set.add") [acc, x]) (fun _ s₅ => ∃ m, m < n ∧ I m s₅) (notedBy (model prog w) A env fun e s' => R (.error e) s') s₄) (notedBy (model prog w) A env fun e s' => R (.error e) s') s₃
            else ∃ m, m < n ∧ I m s₃) (notedBy (model prog w) A env fun e s' => R (.error e) s') s₂) (notedBy (model prog w) A env fun e s' => R (.error e) s') s₁') (notedBy (model prog w) A env fun e s' => R (.error e) s') s₁) (notedBy (model prog w) A env fun e s' => R (.error e) s') s)
    (n : Nat) (h : I n s) :
    codeAny (model prog w) A (.compLoop (SC elt t0 i0 t1 i1 t2 i2 f0 f1 f2 scope pos) 2 it acc env) R s := by
  refine codeAny_loop rfl I (fun n s hI => ?_) n h
  show wpAny _ A ((compTurn (SC elt t0 i0 t1 i1 t2 i2 f0 f1 f2 scope pos) 2 it acc env).onRaise (fun x => do noteFrame x env; theTreesLotGoes x)) _ _ s
  refine wpAny_noted ?_
  rw [turn3_2]
  refine wpAny_bind (wpAny_standAt (wpAny_bind (wpAny_mono (turn n s hI) (fun r s₁ h₁ => ?_) fun _ _ h' => h')))
  cases r with
  | none => exact wpAny_pure h₁
  | some v =>
    refine wpAny_bind (wpAny_mono h₁ (fun _ s₁' h₁' => ?_) fun _ _ h' => h')
    refine wpAny_bind (wpAny_mono h₁' (fun _ s₂ h₂ => wpAny_bind (wpAny_mono h₂ (fun ok s₃ h₃ => ?_) fun _ _ h' => h')) fun _ _ h' => h')
    cases ok with
    | false => exact wpAny_pure ⟨rfl, h₃⟩
    | true =>
      exact wpAny_bind (wpAny_bind (wpAny_mono h₃ (fun x s₄ h₄ => wpAny_bind (wpAny_standAt (wpAny_bind (wpAny_mono h₄ (fun _ s₅ h₅ => wpAny_pure (wpAny_pure ⟨rfl, h₅⟩)) fun _ _ h' => h')))) fun _ _ h' => h'))
theorem start3_1 (h0 : codeAny (model prog w) A (.compLoop (SC elt t0 i0 t1 i1 t2 i2 f0 f1 f2 scope pos) 1 it acc env) R s)
    (h : wpAny (model prog w) A (pyIter it) (fun it' s' => codeAny (model prog w) A (.compLoop (SC elt t0 i0 t1 i1 t2 i2 f0 f1 f2 scope pos) 1 it' acc env) R s')
      (notedBy (model prog w) A env fun x s' => R (.error x) s') s) :
    codeAny (model prog w) A (.compStart (SC elt t0 i0 t1 i1 t2 i2 f0 f1 f2 scope pos) 1 it acc env) R s := by
  refine codeAny_of_tree ?_
  show wpAny _ _ ((compStart (SC elt t0 i0 t1 i1 t2 i2 f0 f1 f2 scope pos) 1 it acc env).onRaise (fun x => do noteFrame x env; standAt theWindowsPlace)) _ _ s
  refine wpAny_notedAt ?_
  unfold compStart
  show wpAny _ _ (ask >>= _) _ _ s
  refine wpAny_bind (wpAny_askSetting (wpAny_ite ?_))
  split
  · first
      | exact wpAny_bind (wpAny_pure (wpAny_pure (And.intro rfl h0)))
      | exact wpAny_pure (And.intro rfl h0)
  · first
      | exact wpAny_bind (wpAny_rule (wpAny_bind (wpAny_standAt (wpAny_bind (wpAny_mono h (fun it' s' h' => wpAny_pure (And.intro rfl h')) fun _ _ x => x)))))
      | (refine wpAny_bind (wpAny_rule ?_); show wpAny _ _ (standAt i1.pos >>= _) _ _ s; exact wpAny_bind (wpAny_standAt (wpAny_bind (wpAny_mono h (fun it' s' h' => wpAny_pure (And.intro rfl h')) fun _ _ x => x))))
theorem start3_2 (h0 : codeAny (model prog w) A (.compLoop (SC elt t0 i0 t1 i1 t2 i2 f0 f1 f2 scope pos) 2 it acc env) R s)
    (h : wpAny (model prog w) A (pyIter it) (fun it' s' => codeAny (model prog w) A (.compLoop (SC elt t0 i0 t1 i1 t2 i2 f0 f1 f2 scope pos) 2 it' acc env) R s')
      (notedBy (model prog w) A env fun x s' => R (.error x) s') s) :
    codeAny (model prog w) A (.compStart (SC elt t0 i0 t1 i1 t2 i2 f0 f1 f2 scope pos) 2 it acc env) R s := by
  refine codeAny_of_tree ?_
  show wpAny _ _ ((compStart (SC elt t0 i0 t1 i1 t2 i2 f0 f1 f2 scope pos) 2 it acc env).onRaise (fun x => do noteFrame x env; standAt theWindowsPlace)) _ _ s
  refine wpAny_notedAt ?_
  unfold compStart
  show wpAny _ _ (ask >>= _) _ _ s
  refine wpAny_bind (wpAny_askSetting (wpAny_ite ?_))
  split
  · first
      | exact wpAny_bind (wpAny_pure (wpAny_pure (And.intro rfl h0)))
      | exact wpAny_pure (And.intro rfl h0)
  · first
      | exact wpAny_bind (wpAny_rule (wpAny_bind (wpAny_standAt (wpAny_bind (wpAny_mono h (fun it' s' h' => wpAny_pure (And.intro rfl h')) fun _ _ x => x)))))
      | (refine wpAny_bind (wpAny_rule ?_); show wpAny _ _ (standAt i2.pos >>= _) _ _ s; exact wpAny_bind (wpAny_standAt (wpAny_bind (wpAny_mono h (fun it' s' h' => wpAny_pure (And.intro rfl h')) fun _ _ x => x))))
end
section
variable {X : Cx}
/-- set.add of a text -/
theorem addX_ok {pins : List (Addr × Obj)} {σ : L2.St} {H : Hp} {s : Shared} {E : Value → Shared → Prop} {D : Addr} {l : List Str} {k : Str} {v : Value} {Q : Value → Shared → Prop} (I : Inv X pins σ H s) (hD : H D = some (SetXO X.prog X.w D l)) (room : l.length + 1 < scanBound) (r : RelV (.str k) v)
    (h : ∀ s', Inv X pins σ (upd H D (SetXO X.prog X.w D (if k ∈ l then l else k :: l))) s' → Q .none s') : wpAny (model X.prog X.w) X.A (call (.builtin "set.add") [.ref D, v]) Q E s := by
  obtain ⟨u, rfl⟩ := r
  have R := setXO_get I hD
  obtain ⟨DD, ho, _⟩ := id R
  have hT : s.TypeIs (.ref D) "set" := ⟨_, ho, rfl⟩
  refine wpAny_call_entry F.slot_set_add hT F.entry_set_add ?_ (F.args_set_add_2 _ _)
  unfold Builtin.«set.add» Builtin.Frozenset.oneOther
  simp only [List.isEmpty_nil, bind_assoc]
  unfold Builtin.Frozenset.addrOf setAdd
  refine wpAny_bind (wpAny_pure ?_)
  try dsimp only
  refine wpAny_bind (wpAny_pure ?_)
  try dsimp only
  refine wpAny_bind ?_
  refine wpAny_holding ?_
  refine wpAny_bind ((strKind X.prog X.w).pyHash (k := k) (is_str k u) ?_)
  refine setX_add (s := { s with toks := s.toks + 1 }) R room fun b h' sb new => ?_
  have he : ∃ u, h'.get? D = some u := by
    obtain ⟨o, ho, _⟩ := id new
    exact ⟨_, ho⟩
  show wpAny _ _ (ret Value.none) _ _ _
  exact wpAny_pure ⟨_, rfl, h _ (I.write (e := D) (t' := s.toks + 1) (by rw [hD]; trivial) (.inl rfl) (fun b u hb hu => (sb.2 b hb).trans hu) he (setXO_new new))⟩
end
end ST
set_option maxHeartbeats 8000000
namespace ST
open PySem PySem.Spec PyProof.Rows L2
def tL2 (P : Program) (w : World) (D : Addr) (J : It) (g : TG) (tt : TT) (te : TE) (vs : List Nat) (σ : L2.St) (H0 : Hp) (Nx : Hp → Prop) : Prop := ∃ W : Nat → Nat → Hp → Prop, (∃ m, W 0 m H0) ∧ ∀ j k H, W j k H →
  (J.stop j H ∧ Nx H) ∨ (J.go j H ∧ ∃ Nx1 : Hp → Prop, (∀ H', Nx1 H' → ∃ k', k' < k ∧ W (j + 1) k' H') ∧ ∀ x H', J.yld j H x H' → g x (wipe σ vs) H' fun σ3 H5 => wipe σ3 vs = wipe σ vs ∧ tt σ3 H5 fun b H6 =>
    if b = true then te σ3 H6 fun y H7 => ∃ (l : List Str) (k : Str), y = .str k ∧ H7 D = some (SetXO P w D l) ∧ l.length + 1 < scanBound ∧ Nx1 (upd H7 D (SetXO P w D (if k ∈ l then l else k :: l))) else Nx1 H6)
def tL1 (P : Program) (w : World) (D : Addr) (J : It) (g : TG) (tt : TT) (wi2 : TI) (g2 : TG) (tt2 : TT) (te : TE) (vs vs2 : List Nat) (σ : L2.St) (H0 : Hp) (Nx : Hp → Prop) : Prop := ∃ W : Nat → Nat → Hp → Prop, (∃ m, W 0 m H0) ∧ ∀ j k H, W j k H →
  (J.stop j H ∧ Nx H) ∨ (J.go j H ∧ ∃ Nx1 : Hp → Prop, (∀ H', Nx1 H' → ∃ k', k' < k ∧ W (j + 1) k' H') ∧ ∀ x H', J.yld j H x H' → g x (wipe σ vs) H' fun σ3 H5 => wipe σ3 vs = wipe σ vs ∧ tt σ3 H5 fun b H6 =>
    if b = true then wi2 σ3 H6 fun J2 H7 => tL2 P w D J2 g2 tt2 te vs2 σ3 H7 Nx1 else Nx1 H6)
def tSc3 (P : Program) (w : World) (wi : TI) (g : TG) (tt : TT) (wi1 : TI) (g1 : TG) (tt1 : TT) (wi2 : TI) (g2 : TG) (tt2 : TT) (te : TE) (vs vs1 vs2 : List Nat) : TE := fun σ H Q => wi σ H fun J H1 => ∀ D, H1 D = none → ∃ W : Nat → Nat → Hp → Prop, (∃ m, W 0 m (upd H1 D (SetXO P w D []))) ∧ ∀ i m H, W i m H →
  (J.stop i H ∧ Q (.ref D) H) ∨ (J.go i H ∧ ∃ Nx : Hp → Prop, (∀ H', Nx H' → ∃ m', m' < m ∧ W (i + 1) m' H') ∧ ∀ x H', J.yld i H x H' → g x (wipe σ vs) H' fun σ2 H2 => wipe σ2 vs = wipe σ vs ∧ tt σ2 H2 fun b H3 =>
    if b = true then wi1 σ2 H3 fun J1 H4 => tL1 P w D J1 g1 tt1 wi2 g2 tt2 te vs1 vs2 σ2 H4 Nx else Nx H3)
section
variable {X : Cx}
theorem sc3_core {pins : List (Addr × Obj)} {s : Shared} {σ : L2.St} {H : Hp} {Q : VK} {elt tg iter tg1 iter1 tg2 iter2 : Expr} {ifs ifs1 ifs2 : List Expr} {scope : Scope} {own : List (Str × Nat)} {vs1 vs2 : List Nat} {pos pos' : Pos} {wi wi1 wi2 : TI} {g g1 g2 : TG} {tt tt1 tt2 : TT} {te : TE} {use : Option (Value → Sem Unit)} {Qf : Value → Shared → Prop}
    (hc : X.calm = true) (hN : X.N.Nodup) (I : Inv X pins σ H s) (hi : PI X tg iter wi) (ok : BlkOk X.N X.env.scope scope own) (hv : ∀ i ∈ vs1, i ∈ own.map (·.2)) (hv2 : ∀ i ∈ vs2, i ∈ vs1)
    (hg : ∀ (s : Shared) (H : Hp) (C : Addr) (cl : List (Str × Addr)) (fp : List Addr), PG (X.blk s H scope (compEnvC scope cl C X.env) fp) tg g) (ht : ∀ (s : Shared) (H : Hp) (C : Addr) (cl : List (Str × Addr)) (fp : List Addr), PTs (X.blk s H scope (compEnvC scope cl C X.env) fp) ifs tt)
    (he : ∀ (s : Shared) (H : Hp) (C : Addr) (cl : List (Str × Addr)) (fp : List Addr), PE (X.blk s H scope (compEnvC scope cl C X.env) fp) elt te) (hs : ∀ x, foldedSetIterable iter X.env x = pure x)
    (hi1 : ∀ (s : Shared) (H : Hp) (C : Addr) (cl : List (Str × Addr)) (fp : List Addr), PI (X.blk s H scope (compEnvC scope cl C X.env) fp) tg1 iter1 wi1)
    (hg1 : ∀ (s : Shared) (H : Hp) (C : Addr) (cl : List (Str × Addr)) (fp : List Addr), PG (X.blk s H scope (compEnvC scope cl C X.env) fp) tg1 g1)
    (ht1 : ∀ (s : Shared) (H : Hp) (C : Addr) (cl : List (Str × Addr)) (fp : List Addr), PTs (X.blk s H scope (compEnvC scope cl C X.env) fp) ifs1 tt1)
    (hi2 : ∀ (s : Shared) (H : Hp) (C : Addr) (cl : List (Str × Addr)) (fp : List Addr), PI (X.blk s H scope (compEnvC scope cl C X.env) fp) tg2 iter2 wi2)
    (hg2 : ∀ (s : Shared) (H : Hp) (C : Addr) (cl : List (Str × Addr)) (fp : List Addr), PG (X.blk s H scope (compEnvC scope cl C X.env) fp) tg2 g2)
    (ht2 : ∀ (s : Shared) (H : Hp) (C : Addr) (cl : List (Str × Addr)) (fp : List Addr), PTs (X.blk s H scope (compEnvC scope cl C X.env) fp) ifs2 tt2)
    (hs1 : ∀ env x, foldedSetIterable iter1 env x = pure x) (hs2 : ∀ env x, foldedSetIterable iter2 env x = pure x)
    (h : tSc3 X.prog X.w wi g tt wi1 g1 tt1 wi2 g2 tt2 te (own.map (·.2)) vs1 vs2 σ H Q)
    (hRR : ∀ D C s' m H', Inv X pins σ H' s' → Q (.ref D) H' → s'.heap.Ns C m → FpOk X pins H' C → compPost (model X.prog X.w) X.A X.xe use Qf (.ref D) C (.ok .next) s') :
    wpAny (model X.prog X.w) X.A (comprehension (SC elt tg iter tg1 iter1 tg2 iter2 ifs ifs1 ifs2 scope pos) scope X.env pos' (newSet (.type "set")) false (eval iter X.env) use) Qf X.xe s := by
  have hfree : ∀ y ∈ scope.names, y.2 = .free → ∃ c, X.env.cells.lookup y.1 = some c := fun y hy e => by
    rcases ok.free y hy e with k | k
    · exact I.ok.has _ (.inl k)
    · exact I.ok.has _ (.inr k)
  refine wpAny_comprehension_free (use := use) rfl hs (closure_ok hfree) ok.kind (fun y hy e => by rw [ok.uniq y hy, e])
    (thn (hi.run pins s σ H _ I h) fun xv s1 hx => thn hx fun itv s2 h2 => ?_)
  obtain ⟨it, fp, tn, J, H2, e, I2, T, st2, f2, q⟩ := h2
  subst e
  refine PpSet.newSet_ok (newEnv_comp ?_)
  generalize hD : s2.heap.objs.size = D
  have hDn : H2 D = none := I2.hok.fresh (Nat.le_of_eq hD)
  obtain ⟨W, ⟨m0, w0⟩, turn⟩ := q D hDn
  -- the new set
  generalize hs3 : ({ s2 with heap := s2.heap.push { cls := .type "set", dict := none, data := .set #[] 0 (.fresh 0 0 (!X.w.params.followText "set-order")) } } : Shared) = s3
  have I3 : Inv X pins σ (upd H2 D (SetXO X.prog X.w D [])) s3 := by
    rw [← hs3]
    refine I2.laid (t' := s2.toks) (fun b o e => Heap.get?_push_of_some _ e) (Nat.le_of_eq hD) ?_
    rw [← hD]
    exact setXO_new setX_fresh
  have h3 : s3.heap = s2.heap.push { cls := .type "set", dict := none, data := .set #[] 0 (.fresh 0 0 (!X.w.params.followText "set-order")) } := by rw [← hs3]
  have sz : ∀ b ∈ fp, b < s2.heap.objs.size := fun b hb => by
    obtain ⟨o, e, _⟩ := T.obj _ _ st2 b hb
    exact Heap.lt_size e
  have f3 : ∀ b ∈ fp, FpOk X pins (upd H2 D (SetXO X.prog X.w D [])) b ∧ b < s3.heap.objs.size := fun b hb => by
    have hlt := sz b hb
    refine ⟨⟨?_, (f2 b hb).2⟩, by rw [h3, Heap.size_push]; exact Nat.lt_succ_of_lt hlt⟩
    rw [upd_ne (by rw [← hD]; exact Nat.ne_of_lt hlt)]
    exact (f2 b hb).1
  have st3 : tn 0 s3.heap := T.keep _ _ _ st2 fun b _ o e => by rw [h3]; exact Heap.get?_push_of_some _ e
  have I4 := block_start I3 ok hN f3
  have pg := hg s3 (upd H2 D (SetXO X.prog X.w D [])) s3.heap.objs.size (cellsFrom (s3.heap.objs.size + 1) scope.names (cloFrom X.env.cells scope.names [])) fp
  have pt := ht s3 (upd H2 D (SetXO X.prog X.w D [])) s3.heap.objs.size (cellsFrom (s3.heap.objs.size + 1) scope.names (cloFrom X.env.cells scope.names [])) fp
  have pe := he s3 (upd H2 D (SetXO X.prog X.w D [])) s3.heap.objs.size (cellsFrom (s3.heap.objs.size + 1) scope.names (cloFrom X.env.cells scope.names [])) fp
  have pi1 := hi1 s3 (upd H2 D (SetXO X.prog X.w D [])) s3.heap.objs.size (cellsFrom (s3.heap.objs.size + 1) scope.names (cloFrom X.env.cells scope.names [])) fp
  have pg1 := hg1 s3 (upd H2 D (SetXO X.prog X.w D [])) s3.heap.objs.size (cellsFrom (s3.heap.objs.size + 1) scope.names (cloFrom X.env.cells scope.names [])) fp
  have pt1 := ht1 s3 (upd H2 D (SetXO X.prog X.w D [])) s3.heap.objs.size (cellsFrom (s3.heap.objs.size + 1) scope.names (cloFrom X.env.cells scope.names [])) fp
  have pi2 := hi2 s3 (upd H2 D (SetXO X.prog X.w D [])) s3.heap.objs.size (cellsFrom (s3.heap.objs.size + 1) scope.names (cloFrom X.env.cells scope.names [])) fp
  have pg2 := hg2 s3 (upd H2 D (SetXO X.prog X.w D [])) s3.heap.objs.size (cellsFrom (s3.heap.objs.size + 1) scope.names (cloFrom X.env.cells scope.names [])) fp
  have pt2 := ht2 s3 (upd H2 D (SetXO X.prog X.w D [])) s3.heap.objs.size (cellsFrom (s3.heap.objs.size + 1) scope.names (cloFrom X.env.cells scope.names [])) fp
  show codeAny _ _ (.compStart (SC elt tg iter tg1 iter1 tg2 iter2 ifs ifs1 ifs2 scope pos) 0 (.ref it) (.ref D) (compEnvC scope (cellsFrom (s3.heap.objs.size + 1) scope.names (cloFrom X.env.cells scope.names [])) s3.heap.objs.size X.env)) (compPost (model X.prog X.w) X.A X.xe use Qf (.ref D) s3.heap.objs.size) { s3 with heap := pushCells (s3.heap.push { cls := .type "dict", data := .dict #[] }) scope.names }
  have nfp : ∀ b ∈ fp, (upd H2 D (SetXO X.prog X.w D [])) b = none := fun b hb => (f3 b hb).1.1
  generalize hce : compEnvC scope (cellsFrom (s3.heap.objs.size + 1) scope.names (cloFrom X.env.cells scope.names [])) s3.heap.objs.size X.env = ce at I4 pg pt pe pi1 pg1 pt1 pi2 pg2 pt2 ⊢
  have cL : ce.locals = s3.heap.objs.size := by subst hce; rfl
  generalize hH3 : upd H2 D (SetXO X.prog X.w D []) = H3 at I3 I4 pg pt pe pi1 pg1 pt1 pi2 pg2 pt2 w0 nfp f3
  generalize hs4 : ({ s3 with heap := pushCells (s3.heap.push { cls := .type "dict", data := .dict #[] }) scope.names } : Shared) = s4 at I4 ⊢
  have st4 : tn 0 s4.heap := T.keep _ _ _ st3 fun b _ o e => by rw [← hs4]; exact pushCells_keeps _ _ _ _ (Heap.get?_push_of_some _ e)
  have stat : ∀ {σ' : L2.St} {H' : Hp} {s' : Shared}, Inv (X.blk s3 H3 scope ce fp) [] σ' H' s' → (∀ b ∈ fp, H' b = none) → ∀ b ∈ fp, FpOk (X.blk s3 H3 scope ce fp) [] H' b := fun {σ' H' s'} I' hn b hb =>
    ⟨hn b hb, (I'.ok.exf b hb).1, I'.ok.exfs b hb, .inl hb, fun x c e => (I'.ok.exf b hb).2 x c e, fun p hp => absurd (show p ∈ ([] : List (Addr × Obj)) ++ [] from hp) (by simp)⟩
  have loop : codeAny (model X.prog X.w) X.A (.compLoop (SC elt tg iter tg1 iter1 tg2 iter2 ifs ifs1 ifs2 scope pos) 0 (.ref it) (.ref D) ce) (compPost (model X.prog X.w) X.A X.xe use Qf (.ref D) s3.heap.objs.size) s4 := by
    refine loop3_0 (hs1 ce) (fun n s' => ∃ i H', Inv (X.blk s3 H3 scope ce fp) [] (wipe σ (own.map (·.2))) H' s' ∧ tn i s'.heap ∧ (∀ b ∈ fp, H' b = none) ∧ W i n H') ?_ m0 ⟨0, H3, I4, st4, nfp, w0⟩
    rintro n s5 ⟨i, H5, I5, st5, n5, w5⟩
    rcases turn i n H5 w5 with ⟨stop, qq⟩ | ⟨go, Nx, hNx, step⟩
    · have td := T.done (X.blk s3 H3 scope ce fp) rfl rfl rfl hc i [] s5 _ H5 (fun _ _ => False) I5 (stat I5 n5) st5 stop
      refine thnF td fun r s6 ⟨hr, I6⟩ => ?_
      subst hr
      -- back in the def's context
      have I7 : Inv X pins σ H5 s6 := I3.call' (ch := fp) I6.os I6.base I6.hok I6.bare fun b hb => ⟨(f3 b hb).1.2.2.2.1, (f3 b hb).1.2.1, (f3 b hb).1.2.2.2.2.1, (f3 b hb).1.2.2.2.2.2⟩
      have nC : H5 s3.heap.objs.size = none := by
        have z : H5 ce.locals = none := I6.free
        rw [cL] at z
        exact z
      obtain ⟨m, hn, _⟩ := I6.loc
      have hn : s6.heap.Ns ce.locals m := hn
      rw [cL] at hn
      exact hRR D s3.heap.objs.size s6 m H5 I7 qq hn (I3.fpOk (Nat.le_refl _) nC)
    · have ti := T.item (X.blk s3 H3 scope ce fp) rfl rfl rfl hc i [] s5 _ H5 (fun _ _ => False) I5 (stat I5 n5) st5 go
      refine thnF ti fun r s6 ⟨u, hr, h6⟩ => ?_
      subst hr
      refine thnF h6 fun _ s7 ⟨x, H7, I7, r7, y7, st7, n7⟩ => ?_
      have I7' := I7.pinned (stat I7 n7) (T.obj _ _ st7)
      refine thnF (pg.run _ s7 _ H7 x u _ I7' r7 (step x H7 y7)) fun _ s8 ⟨σ8, H8, I8, hw8, q8⟩ => ?_
      refine thnF (pt.run _ s8 σ8 H8 _ I8 q8) fun b s9 ⟨H9, I9, q9⟩ => ?_
      -- the turn's end, from any slots that know what the block knew at its start
      have fin : ∀ {σ9 : L2.St} {s' : Shared} {H' : Hp}, Inv (X.blk s3 H3 scope ce fp) ([] ++ pinsAt fp s7.heap) σ9 H' s' → (wipe σ (own.map (·.2))).length = σ9.length → (∀ (j : Nat) v, (wipe σ (own.map (·.2)))[j]? = some (some v) → σ9[j]? = some (some v)) → Nx H' →
          ∃ m, m < n ∧ ∃ i H', Inv (X.blk s3 H3 scope ce fp) [] (wipe σ (own.map (·.2))) H' s' ∧ tn i s'.heap ∧ (∀ b ∈ fp, H' b = none) ∧ W i m H' := fun {σ9 s' H'} I' hl hk nx => by
        obtain ⟨m', hm, w'⟩ := hNx H' nx
        have pin' : ∀ b ∈ fp, ∀ o, s7.heap.get? b = some o → s'.heap.get? b = some o ∧ H' b = none := fun b hb o e =>
          let z := I'.pin (b, o) (List.mem_append_right _ (List.mem_append_right _ (mem_pinsAt hb e)))
          ⟨z.1, z.2.1⟩
        refine ⟨m', hm, i + 1, H', (I'.unpinned (pins := [])).weak hl hk, T.keep _ _ _ st7 fun b hb o e => (pin' b hb o e).1, fun b hb => ?_, w'⟩
        obtain ⟨o, e, _⟩ := T.obj _ _ st7 b hb
        exact (pin' b hb o e).2
      have hl8 : (wipe σ (own.map (·.2))).length = σ8.length := by rw [← hw8, wipe_length]
      have hk8 : ∀ (j : Nat) v, (wipe σ (own.map (·.2)))[j]? = some (some v) → σ8[j]? = some (some v) := fun j v e => by
        rw [← hw8] at e
        exact (wipe_some e).1
      have hk9 : ∀ (j : Nat) v, (wipe σ (own.map (·.2)))[j]? = some (some v) → (wipe σ8 vs1)[j]? = some (some v) := fun j v e => by
        rw [← hw8] at e
        obtain ⟨e1, e2⟩ := wipe_some e
        rw [wipe_out fun z => e2 (hv j z)]
        exact e1
      cases b with
      | false =>
        simp only [Bool.false_eq_true, if_false] at q9 ⊢
        exact fin I9 hl8 hk8 q9
      | true =>
        simp only [if_true] at q9 ⊢
        refine thnF (pi1.run _ s9 σ8 H9 _ I9 q9) fun xv s10 hx => thnF hx fun itv s11 h11 => ?_
        obtain ⟨it1, fp1, tn1, J1, H11, e1, I11, T1, st11, f11, W1, ⟨m1, w1⟩, turn1⟩ := h11
        subst e1
        -- the second loop
        have stat1 : ∀ {H' : Hp}, (∀ b ∈ fp1, H' b = none) → ∀ b ∈ fp1, FpOk (X.blk s3 H3 scope ce fp) ([] ++ pinsAt fp s7.heap) H' b := fun hn b hb => ⟨hn b hb, (f11 b hb).2⟩
        have loop1 : codeAny (model X.prog X.w) X.A (.compLoop (SC elt tg iter tg1 iter1 tg2 iter2 ifs ifs1 ifs2 scope pos) 1 (.ref it1) (.ref D) ce)
            (fun r s' => match r with
              | .ok _ => ∃ m, m < n ∧ ∃ i H', Inv (X.blk s3 H3 scope ce fp) [] (wipe σ (own.map (·.2))) H' s' ∧ tn i s'.heap ∧ (∀ b ∈ fp, H' b = none) ∧ W i m H'
              | .error _ => False) s11 := by
          refine loop3_1 (hs2 ce) (fun k s' => ∃ j H', Inv (X.blk s3 H3 scope ce fp) ([] ++ pinsAt fp s7.heap) (wipe σ8 vs1) H' s' ∧ tn1 j s'.heap ∧ (∀ b ∈ fp1, H' b = none) ∧ W1 j k H') ?_ m1 ⟨0, H11, I11.weak (wipe_length _ _) (fun j v e => (wipe_some e).1), st11, fun b hb => (f11 b hb).1, w1⟩
          rintro k s12 ⟨j, H12, I12, st12, n12, w12⟩
          rcases turn1 j k H12 w12 with ⟨stop1, nx1⟩ | ⟨go1, Nx1, hNx1, step1⟩
          · refine thnF (T1.done (X.blk s3 H3 scope ce fp) rfl rfl rfl hc j _ s12 (wipe σ8 vs1) H12 (fun _ _ => False) I12 (stat1 n12) st12 stop1) fun r s13 ⟨hr, I13⟩ => ?_
            subst hr
            exact fin I13 (hl8.trans (wipe_length σ8 vs1).symm) hk9 nx1
          · refine thnF (T1.item (X.blk s3 H3 scope ce fp) rfl rfl rfl hc j _ s12 (wipe σ8 vs1) H12 (fun _ _ => False) I12 (stat1 n12) st12 go1) fun r s13 ⟨u1, hr, h13⟩ => ?_
            subst hr
            refine thnF h13 fun _ s14 ⟨x1, H14, I14, r14, y14, st14, n14⟩ => ?_
            have I14' := I14.pinned (stat1 n14) (T1.obj _ _ st14)
            refine thnF (pg1.run _ s14 (wipe σ8 vs1) H14 x1 u1 _ I14' r14 (step1 x1 H14 y14)) fun _ s15 ⟨σ15, H15, I15, hw15, q15⟩ => ?_
            refine thnF (pt1.run _ s15 σ15 H15 _ I15 q15) fun b1 s16 ⟨H16, I16, q16⟩ => ?_
            have fin1 : ∀ {σ' : L2.St} {s' : Shared} {H' : Hp}, Inv (X.blk s3 H3 scope ce fp) (([] ++ pinsAt fp s7.heap) ++ pinsAt fp1 s14.heap) σ' H' s' → (wipe σ8 vs1).length = σ'.length → (∀ (j : Nat) v, (wipe σ8 vs1)[j]? = some (some v) → σ'[j]? = some (some v)) → Nx1 H' →
                ∃ m, m < k ∧ ∃ j H', Inv (X.blk s3 H3 scope ce fp) ([] ++ pinsAt fp s7.heap) (wipe σ8 vs1) H' s' ∧ tn1 j s'.heap ∧ (∀ b ∈ fp1, H' b = none) ∧ W1 j m H' := fun {σ' s' H'} I' hl hk nx => by
              obtain ⟨m', hm, w'⟩ := hNx1 H' nx
              have pin' : ∀ b ∈ fp1, ∀ o, s14.heap.get? b = some o → s'.heap.get? b = some o ∧ H' b = none := fun b hb o e =>
                let z := I'.pin (b, o) (List.mem_append_right _ (List.mem_append_right _ (mem_pinsAt hb e)))
                ⟨z.1, z.2.1⟩
              refine ⟨m', hm, j + 1, H', I'.unpinned.weak hl hk, T1.keep _ _ _ st14 fun b hb o e => (pin' b hb o e).1, fun b hb => ?_, w'⟩
              obtain ⟨o, e, _⟩ := T1.obj _ _ st14 b hb
              exact (pin' b hb o e).2
            have hl15 : (wipe σ8 vs1).length = σ15.length := by rw [← hw15, wipe_length]
            have hk15 : ∀ (j : Nat) v, (wipe σ8 vs1)[j]? = some (some v) → σ15[j]? = some (some v) := fun j v e => by
              rw [← hw15] at e
              exact (wipe_some e).1
            have hk16 : ∀ (j : Nat) v, (wipe σ8 vs1)[j]? = some (some v) → (wipe σ15 vs2)[j]? = some (some v) := fun j v e => by
              rw [← hw15] at e
              obtain ⟨e1, e2⟩ := wipe_some e
              rw [wipe_out fun z => e2 (hv2 j z)]
              exact e1
            cases b1 with
            | false =>
              simp only [Bool.false_eq_true, if_false] at q16 ⊢
              exact fin1 I16 hl15 hk15 q16
            | true =>
              simp only [if_true] at q16 ⊢
              refine thnF (pi2.run _ s16 σ15 H16 _ I16 q16) fun xv s17 hx => thnF hx fun itv s18 h18 => ?_
              obtain ⟨it2, fp2, tn2, J2, H18, e2, I18, T2, st18, f18, W2, ⟨m2, w2⟩, turn2⟩ := h18
              subst e2
              -- the third loop
              have stat2 : ∀ {H' : Hp}, (∀ b ∈ fp2, H' b = none) → ∀ b ∈ fp2, FpOk (X.blk s3 H3 scope ce fp) (([] ++ pinsAt fp s7.heap) ++ pinsAt fp1 s14.heap) H' b := fun hn b hb => ⟨hn b hb, (f18 b hb).2⟩
              have loop2 : codeAny (model X.prog X.w) X.A (.compLoop (SC elt tg iter tg1 iter1 tg2 iter2 ifs ifs1 ifs2 scope pos) 2 (.ref it2) (.ref D) ce)
                  (fun r s' => match r with
                    | .ok _ => ∃ m, m < k ∧ ∃ j H', Inv (X.blk s3 H3 scope ce fp) ([] ++ pinsAt fp s7.heap) (wipe σ8 vs1) H' s' ∧ tn1 j s'.heap ∧ (∀ b ∈ fp1, H' b = none) ∧ W1 j m H'
                    | .error _ => False) s18 := by
                refine loop3_2 (fun q s' => ∃ j H', Inv (X.blk s3 H3 scope ce fp) (([] ++ pinsAt fp s7.heap) ++ pinsAt fp1 s14.heap) (wipe σ15 vs2) H' s' ∧ tn2 j s'.heap ∧ (∀ b ∈ fp2, H' b = none) ∧ W2 j q H') ?_ m2 ⟨0, H18, I18.weak (wipe_length _ _) (fun j v e => (wipe_some e).1), st18, fun b hb => (f18 b hb).1, w2⟩
                rintro q s19 ⟨j2, H19, I19, st19, n19, w19⟩
                rcases turn2 j2 q H19 w19 with ⟨stop2, nx2⟩ | ⟨go2, Nx2, hNx2, step2⟩
                · refine thnF (T2.done (X.blk s3 H3 scope ce fp) rfl rfl rfl hc j2 _ s19 (wipe σ15 vs2) H19 (fun _ _ => False) I19 (stat2 n19) st19 stop2) fun r s20 ⟨hr, I20⟩ => ?_
                  subst hr
                  exact fin1 I20 (hl15.trans (wipe_length σ15 vs2).symm) hk16 nx2
                · refine thnF (T2.item (X.blk s3 H3 scope ce fp) rfl rfl rfl hc j2 _ s19 (wipe σ15 vs2) H19 (fun _ _ => False) I19 (stat2 n19) st19 go2) fun r s20 ⟨u2, hr, h20⟩ => ?_
                  subst hr
                  refine thnF h20 fun _ s21 ⟨x2, H21, I21, r21, y21, st21, n21⟩ => ?_
                  have I21' := I21.pinned (stat2 n21) (T2.obj _ _ st21)
                  refine thnF (pg2.run _ s21 (wipe σ15 vs2) H21 x2 u2 _ I21' r21 (step2 x2 H21 y21)) fun _ s22 ⟨σ22, H22, I22, hw22, q22⟩ => ?_
                  refine thnF (pt2.run _ s22 σ22 H22 _ I22 q22) fun b2 s23 ⟨H23, I23, q23⟩ => ?_
                  have fin2 : ∀ {s' : Shared} {H' : Hp}, Inv (X.blk s3 H3 scope ce fp) ((([] ++ pinsAt fp s7.heap) ++ pinsAt fp1 s14.heap) ++ pinsAt fp2 s21.heap) σ22 H' s' → Nx2 H' →
                      ∃ m, m < q ∧ ∃ j H', Inv (X.blk s3 H3 scope ce fp) (([] ++ pinsAt fp s7.heap) ++ pinsAt fp1 s14.heap) (wipe σ15 vs2) H' s' ∧ tn2 j s'.heap ∧ (∀ b ∈ fp2, H' b = none) ∧ W2 j m H' := fun {s' H'} I' nx => by
                    obtain ⟨m', hm, w'⟩ := hNx2 H' nx
                    have pin' : ∀ b ∈ fp2, ∀ o, s21.heap.get? b = some o → s'.heap.get? b = some o ∧ H' b = none := fun b hb o e =>
                      let z := I'.pin (b, o) (List.mem_append_right _ (List.mem_append_right _ (mem_pinsAt hb e)))
                      ⟨z.1, z.2.1⟩
                    refine ⟨m', hm, j2 + 1, H', I'.unpinned.weak (by rw [← hw22, wipe_length]) (fun j v e => by rw [← hw22] at e; exact (wipe_some e).1), T2.keep _ _ _ st21 fun b hb o e => (pin' b hb o e).1, fun b hb => ?_, w'⟩
                    obtain ⟨o, e, _⟩ := T2.obj _ _ st21 b hb
                    exact (pin' b hb o e).2
                  cases b2 with
                  | false =>
                    simp only [Bool.false_eq_true, if_false] at q23 ⊢
                    exact fin2 I23 q23
                  | true =>
                    simp only [if_true] at q23 ⊢
                    refine thnF (pe.run _ s23 σ22 H23 _ I23 q23) fun z s24 ⟨yv, H24, I24, r24, l, kk, ey, hD24, hz24, nx⟩ => ?_
                    subst ey
                    exact addX_ok (X := X.blk s3 H3 scope ce fp) I24 hD24 hz24 r24 fun s25 I25 => fin2 I25 nx
              exact start3_2 loop2 (T2.self X.A 0 _ _ _ st18 loop2)
        exact start3_1 loop1 (T1.self X.A 0 _ _ _ st11 loop1)
  exact PpSet.codeAny_compStart_set loop (T.self X.A 0 _ _ _ st4 loop)
/-- as a value -/
theorem pe_sc3 {elt tg iter tg1 iter1 tg2 iter2 : Expr} {ifs ifs1 ifs2 : List Expr} {scope : Scope} {own : List (Str × Nat)} {vs1 vs2 : List Nat} {pos : Pos} {wi wi1 wi2 : TI} {g g1 g2 : TG} {tt tt1 tt2 : TT} {te : TE}
    (hc : X.calm = true) (hN : X.N.Nodup) (hi : PI X tg iter wi) (ok : BlkOk X.N X.env.scope scope own) (hv : ∀ i ∈ vs1, i ∈ own.map (·.2)) (hv2 : ∀ i ∈ vs2, i ∈ vs1)
    (hg : ∀ (s : Shared) (H : Hp) (C : Addr) (cl : List (Str × Addr)) (fp : List Addr), PG (X.blk s H scope (compEnvC scope cl C X.env) fp) tg g) (ht : ∀ (s : Shared) (H : Hp) (C : Addr) (cl : List (Str × Addr)) (fp : List Addr), PTs (X.blk s H scope (compEnvC scope cl C X.env) fp) ifs tt)
    (hi1 : ∀ (s : Shared) (H : Hp) (C : Addr) (cl : List (Str × Addr)) (fp : List Addr), PI (X.blk s H scope (compEnvC scope cl C X.env) fp) tg1 iter1 wi1)
    (hg1 : ∀ (s : Shared) (H : Hp) (C : Addr) (cl : List (Str × Addr)) (fp : List Addr), PG (X.blk s H scope (compEnvC scope cl C X.env) fp) tg1 g1)
    (ht1 : ∀ (s : Shared) (H : Hp) (C : Addr) (cl : List (Str × Addr)) (fp : List Addr), PTs (X.blk s H scope (compEnvC scope cl C X.env) fp) ifs1 tt1)
    (hi2 : ∀ (s : Shared) (H : Hp) (C : Addr) (cl : List (Str × Addr)) (fp : List Addr), PI (X.blk s H scope (compEnvC scope cl C X.env) fp) tg2 iter2 wi2)
    (hg2 : ∀ (s : Shared) (H : Hp) (C : Addr) (cl : List (Str × Addr)) (fp : List Addr), PG (X.blk s H scope (compEnvC scope cl C X.env) fp) tg2 g2)
    (ht2 : ∀ (s : Shared) (H : Hp) (C : Addr) (cl : List (Str × Addr)) (fp : List Addr), PTs (X.blk s H scope (compEnvC scope cl C X.env) fp) ifs2 tt2)
    (he : ∀ (s : Shared) (H : Hp) (C : Addr) (cl : List (Str × Addr)) (fp : List Addr), PE (X.blk s H scope (compEnvC scope cl C X.env) fp) elt te)
    (hs : ∀ x, foldedSetIterable iter X.env x = pure x := by intro _; rfl) (hs1 : ∀ env x, foldedSetIterable iter1 env x = pure x := by intro _ _; rfl) (hs2 : ∀ env x, foldedSetIterable iter2 env x = pure x := by intro _ _; rfl) :
    PE X (SC elt tg iter tg1 iter1 tg2 iter2 ifs ifs1 ifs2 scope pos) (tSc3 X.prog X.w wi g tt wi1 g1 tt1 wi2 g2 tt2 te (own.map (·.2)) vs1 vs2) := by
  refine ⟨fun pins s σ H Q I h => ?_⟩
  rw [PpSet.eval_SetComp]
  refine sc3_core hc hN I hi ok hv hv2 hg ht he hs hi1 hg1 ht1 hi2 hg2 ht2 hs1 hs2 h fun D C s' m H' I' q hn f => ⟨m, hn, fun h'' sb => ?_⟩
  obtain ⟨f0, f1, f2, f3, f4, f5⟩ := f
  exact ⟨.ref D, H', I'.turned (t' := s'.toks) (fun b o hb e => (sb.2 b hb).trans e) f0 f1 f3 f4 f5, rfl, q⟩
end
end ST
set_option maxHeartbeats 4000000
namespace ST
open PySem PySem.Spec PyProof.Rows L2
open LamX (CodeO Tabs TabB)
def spMeth (K : PySem.W.Frag) : Sp := fun vs H Q _ => ∃ (t : Addr) (D : List C), vs = [.ref t] ∧ TabR K H t D ∧ Wf D ∧ ∀ p H' l, Ext K H H' → H' p = some (.lst (strL l)) → l.length ≤ 6 → (∀ m, m ∈ l ↔ m ∈ methodsOf D) → Q (.ref p) H'
theorem ins_nd {l : List Str} {k : Str} (h : l.Nodup) : (if k ∈ l then l else k :: l).Nodup := by
  split
  · exact h
  · rename_i q
    exact List.nodup_cons.mpr ⟨q, h⟩
theorem ins_mem {l : List Str} {k x : Str} : x ∈ (if k ∈ l then l else k :: l) ↔ x ∈ l ∨ x = k := by
  split
  · rename_i q
    exact ⟨.inl, fun z => z.elim id fun e => e ▸ q⟩
  · rw [List.mem_cons]
    exact Or.comm
/-- a walk over texts that all go into the set at D -/
theorem tL2_txt {P : Program} {w : World} {D : Addr} {J : It} {G : Hp → Prop} {g : TG} {tt : TT} {te : TE} {vs : List Nat} {σ : L2.St} {H1 : Hp} {Nx : Hp → Prop} {ms U l0 : List Str} (wk : Walk J (strL ms).length G (YAt (strL ms))) (hG : ∀ l, G (upd H1 D (SetXO P w D l)))
    (nd : l0.Nodup) (h0 : ∀ x ∈ l0, x ∈ U) (hm : ∀ x ∈ ms, x ∈ U) (hU : U.length ≤ 6)
    (hs : ∀ x H (N0 : Hp → Prop) (N1 : V → Hp → Prop), N1 (.str x) H → g (.str x) (wipe σ vs) H fun σ3 H5 => wipe σ3 vs = wipe σ vs ∧ tt σ3 H5 fun b H6 => if b = true then te σ3 H6 N1 else N0 H6)
    (hd : ∀ l, l.Nodup → (∀ x, x ∈ l ↔ x ∈ l0 ∨ x ∈ ms) → Nx (upd H1 D (SetXO P w D l))) : tL2 P w D J g tt te vs σ (upd H1 D (SetXO P w D l0)) Nx := by
  refine ⟨fun i m H => m = ms.length - i ∧ i ≤ ms.length ∧ ∃ l, H = upd H1 D (SetXO P w D l) ∧ l.Nodup ∧ ∀ x, x ∈ l ↔ x ∈ l0 ∨ x ∈ ms.take i, ⟨_, rfl, Nat.zero_le _, l0, rfl, nd, fun x => by simp⟩, ?_⟩
  rintro i m H ⟨rfl, hi, l, rfl, nl, hl⟩
  have en : (strL ms).length = ms.length := strL_length ms
  by_cases hlt : i < ms.length
  · refine .inr ⟨wk.goes i _ (by rw [en]; exact hlt) (hG l), fun H' => ∃ l, H' = upd H1 D (SetXO P w D l) ∧ l.Nodup ∧ ∀ x, x ∈ l ↔ x ∈ l0 ∨ x ∈ ms.take (i + 1), fun H' h => ⟨ms.length - (i + 1), by omega, rfl, hlt, h⟩, fun x H' y => ?_⟩
    obtain ⟨rfl, hx⟩ := wk.yields i _ x H' (by rw [en]; exact hlt) (hG l) y
    obtain ⟨k, hk, rfl, km⟩ := strL_get hx
    have ll : l.length ≤ 6 := Nat.le_trans (nodup_len nl fun x hx => ((hl x).mp hx).elim (h0 x) fun z => hm x (List.mem_of_mem_take z)) hU
    refine hs k _ _ _ ⟨l, k, rfl, upd_same, Nat.lt_of_le_of_lt (Nat.succ_le_succ ll) (by decide), if k ∈ l then l else k :: l, ?_, ins_nd nl, fun x => ?_⟩
    · funext b
      by_cases z : b = D
      · rw [z, upd_same, upd_same]
      · rw [upd_ne z, upd_ne z, upd_ne z]
    · rw [ins_mem, hl x, List.take_succ, hk]
      show _ ↔ x ∈ l0 ∨ x ∈ ms.take i ++ [k]
      rw [List.mem_append, List.mem_singleton]
      exact or_assoc
  · have e : i = ms.length := by omega
    subst e
    refine .inl ⟨?_, hd l nl fun x => by rw [hl x, List.take_length]⟩
    have := wk.stops _ (hG l)
    rw [en] at this
    exact this
section
variable {P : Program} {w : World} {K : PySem.W.Frag} {mg : Str → Option Value} {base : Heap}
theorem ok_methods_in (T : Tx K mg) : FnOk P w K mg base CX0 1 (He.fAd K d_methods_in.at_) (fdOf K (He.fAd K d_methods_in.at_)) ["table"] (spMeth K) := by
  refine (F_methods_in T).ok sc_methods_in (fun vs H Q E h => ?_) (fun cdv A outer s H vs Q E hr h => ?_)
  · obtain ⟨_, _, rfl, _⟩ := h
    rfl
  · obtain ⟨t, D, rfl, ⟨dx, dr, dn, dl, mm, ls, h1, ⟨ent, h2, h3⟩, h4⟩, wf, k⟩ := h
    have hu := hu_of hr
    refine ⟨_, PSs.nox (pss_cons (ps_lock (ps_setLc (i := 1) (own := [("entry", 2)]) (g := gName 2) (tt := _) rfl (sc_methods_in).nd rfl rfl (sw_true rfl rfl rfl (by decide +kernel)) (pi_values (w_fld (K := K) rfl (pv 0))) (blkOk_by (by kernel_rfl)) (fun _ _ _ _ _ => (pg_name (i := 2) (sc_methods_in).nd rfl (by first | exact Or.inl rfl | exact Or.inr rfl))) (fun _ _ _ _ _ => pts_one (pt_cmpR op_notN (w_fld (K := K) rfl (pv 2)) pe_non (nomark _))) (fun _ _ _ _ _ => (w_fld (K := K) rfl (pv 2)))))
    (pss_one (ps_ret (pe_callB (k_sortX rfl) (by rfl) (z_sorted T) (by decide +kernel) (pa_cons (pe_sc3 (own := [("hook", 3), ("methods", 4), ("answer", 5), ("method", 6)]) (vs1 := [4, 5, 6]) (vs2 := [6]) (g := gName 3) (tt := tYes) (g1 := gTup K 2 (gCons (gName 4) (gCons (gName 5) gNil))) (tt1 := tYes) (g2 := gName 6) (tt2 := tYes) rfl (sc_methods_in).nd (i_list (K := K) rfl (pv 1)) (blkOk_by (by kernel_rfl)) (by decide) (by decide) (fun _ _ _ _ _ => (pg_name (i := 3) (sc_methods_in).nd rfl (by first | exact Or.inl rfl | exact Or.inr rfl))) (fun _ _ _ _ _ => pts_nil) (fun _ _ _ _ _ => (i_tup (K := K) rfl (pv 3))) (fun _ _ _ _ _ => (g_tup (K := K) rfl rfl (pgs_cons (pg_name (i := 4) (sc_methods_in).nd rfl (by first | exact Or.inl rfl | exact Or.inr rfl)) (pgs_cons (pg_name (i := 5) (sc_methods_in).nd rfl (by first | exact Or.inl rfl | exact Or.inr rfl)) pgs_nil)))) (fun _ _ _ _ _ => pts_nil) (fun _ _ _ _ _ => (i_tup (K := K) rfl (pv 4))) (fun _ _ _ _ _ => (pg_name (i := 6) (sc_methods_in).nd rfl (by first | exact Or.inl rfl | exact Or.inr rfl))) (fun _ _ _ _ _ => pts_nil) (fun _ _ _ _ _ => (pv 6))) pa_nil))))), ?_⟩
    refine ⟨dr, _, h2, trivial, fun od => ?_⟩
    have lk : Frm K (fun b => b = dr) H (upd H dr (.frz od (.dK (recKV ent D)))) := .lock h2 trivial
    have ntl : t ≠ dr := ne_of h1 h2 (fun z => by cases z)
    refine ⟨_, rfl, t, _, dx, _, _, rfl, by rw [upd_ne ntl]; exact h1, cl_Table T, na_Table_records T, rfl, dr, od, _, rfl, upd_same, ?_⟩
    refine lcw (K := K) walk_values (fun _ H (y : V) (h : Hk) => HkR H y (some h)) (fun i => (D[i]?).bind (·.hk)) (fun _ _ _ _ _ a h => HkR.frm (o := some _) a h) (fun H e => e.at upd_same (nt_frz _ _)) (by rw [List.length_map]; exact Nat.le_trans wf.len (by decide)) (fun i x H2 H2' DD hi e2 y fD aD N0 N1 g0 g1 => ?_) (fun DD acc H2 fD e2 hDD pr => ?_)
    · obtain ⟨rfl, kk, hx⟩ := y
      have hx : (D.map fun c => ((.inr c.nm : Key), V.ref (ent c.nm)))[i]? = some (kk, x) := hx
      rw [List.getElem?_map] at hx
      cases hc : D[i]? with
      | none => rw [hc] at hx; cases hx
      | some c =>
        rw [hc] at hx
        cases hx
        rw [hc] at g0 g1
        obtain ⟨dx', ap, am, al, hv, q1, q2, q3, q4, _⟩ := (((h3 c (List.mem_of_getElem? hc)).ne h2).frm lk fun b z y => z y).frm e2 fun _ _ z => z
        refine ⟨rfl, _, rfl, _, _, dx', _, _, rfl, q1, cl_Entry T, na_Entry_own_hook T, rfl, rfl, _, rfl, ?_⟩
        cases hh : c.hk with
        | none =>
          rw [hh] at q4
          have q4 : hv = .non := q4
          subst q4
          exact iteF (g0 (by show c.hk = none; exact hh) _ .refl)
        | some h =>
          rw [hh] at q4
          obtain ⟨a, rs, rfl, z2⟩ := id q4
          refine iteT ?_
          exact ⟨_, rfl, _, _, dx', _, _, rfl, q1, cl_Entry T, na_Entry_own_hook T, rfl, g1 h (by show c.hk = some h; exact hh) _ _ .refl q4⟩
    · have hdr2 := e2.at upd_same (nt_frz _ _)
      refine ⟨hdr2, ?_⟩
      have e3 : Ext K H (upd H2 dr (.dK (recKV ent D))) := ext_unlock h2 trivial e2 hdr2
      have hDr : DD ≠ dr := ne_of hDD hdr2 (fun z => by cases z)
      have pr3 : Paired (fun (y : V) (h : Hk) => HkR (upd H2 dr (.dK (recKV ent D))) y (some h)) acc (D.filterMap (·.hk)) := by
        rw [List.length_map, range_bind] at pr
        refine L2.Paired.mapP pr fun y h z => ?_
        obtain ⟨a, rs, z1, z2, z3⟩ := z
        have tk : ∀ {b : Addr} {xs : List V}, H2 b = some (.tup xs) → (upd H2 dr (.dK (recKV ent D))) b = some (.tup xs) := fun hb => by
          rw [upd_ne (ne_of hb hdr2 (fun z => by cases z))]
          exact hb
        exact ⟨a, rs, z1, tk z2, L2.Paired.mapP z3 fun _ _ ⟨m, y1, y2⟩ => ⟨m, tk y1, tk y2⟩⟩
      have hDD3 : (upd H2 dr (.dK (recKV ent D))) DD = some (.lst acc) := by
        rw [upd_ne hDr]
        exact hDD
      generalize upd H2 dr (.dK (recKV ent D)) = H3 at e3 pr3 hDD3
      generalize hhs : D.filterMap (·.hk) = hs at pr3
      have hmeth : ∀ x, x ∈ methodsOf D ↔ ∃ h ∈ hs, x ∈ h.flatMap (·.1) := fun x => by
        rw [← hhs]
        unfold methodsOf
        rw [List.mem_flatMap]
        constructor
        · rintro ⟨c, hc, hx⟩
          cases z : c.hk with
          | none => rw [z] at hx; cases hx
          | some h => exact ⟨h, List.mem_filterMap.mpr ⟨c, hc, z⟩, by rw [z] at hx; exact hx⟩
        · rintro ⟨h, hh, hx⟩
          obtain ⟨c, hc, z⟩ := List.mem_filterMap.mp hh
          exact ⟨c, hc, by rw [z]; exact hx⟩
      obtain ⟨U, u1, u2⟩ := wf.me
      have hsU : ∀ h ∈ hs, ∀ x ∈ h.flatMap (·.1), x ∈ U := fun h hh x hx => u2 x ((hmeth x).mpr ⟨h, hh, hx⟩)
      -- the set
      refine ⟨_, rfl, DD, rfl, ⟨_, .of hDD3⟩, fun S hS => ?_⟩
      have nS : ∀ {b : Addr} {o : HO}, H3 b = some o → b ≠ S := fun hb => ne_of_none hb hS
      have sq : ∀ {b : Addr} {xs : List V} {l : List Str}, H3 b = some (.tup xs) → SqT K (upd H3 S (SetXO P w S l)) b xs := fun hb => .inl (.of (by rw [upd_ne (nS hb)]; exact hb))
      refine ⟨fun i m H' => m = hs.length - i ∧ i ≤ hs.length ∧ ∃ l, H' = upd H3 S (SetXO P w S l) ∧ l.Nodup ∧ (∀ x ∈ l, x ∈ U) ∧ ∀ x, x ∈ l ↔ ∃ h ∈ hs.take i, x ∈ h.flatMap (·.1), ⟨_, rfl, Nat.zero_le _, [], rfl, List.nodup_nil, (fun x hx => by cases hx), fun x => by simp⟩, ?_⟩
      rintro i m H4 ⟨rfl, hi, l, rfl, nl, lU, hl⟩
      have wk : Walk (Itl K DD) acc.length (fun H' => SqL K H' DD acc) (YAt acc) := walk_list
      have en : acc.length = hs.length := paired_len pr3
      have gD : SqL K (upd H3 S (SetXO P w S l)) DD acc := .inl (.of (by rw [upd_ne (nS hDD3)]; exact hDD3))
      by_cases hlt : i < hs.length
      · refine .inr ⟨wk.goes i _ (by rw [en]; exact hlt) gD, fun H' => ∃ l, H' = upd H3 S (SetXO P w S l) ∧ l.Nodup ∧ (∀ x ∈ l, x ∈ U) ∧ ∀ x, x ∈ l ↔ ∃ h ∈ hs.take (i + 1), x ∈ h.flatMap (·.1), fun H' h => ⟨hs.length - (i + 1), by omega, rfl, hlt, h⟩, fun x H' y => ?_⟩
        obtain ⟨rfl, hx⟩ := wk.yields i _ x H' (by rw [en]; exact hlt) gD y
        obtain ⟨h, hh, hR⟩ := paired_get pr3 hx
        have hhm := List.mem_of_getElem? hh
        obtain ⟨a, rs, rfl, ha, hrs⟩ := hR
        refine ⟨rfl, _, rfl, a, rfl, ⟨_, sq ha⟩, ?_⟩
        -- the clauses
        refine ⟨fun j m H' => m = h.length - j ∧ j ≤ h.length ∧ ∃ l', H' = upd H3 S (SetXO P w S l') ∧ l'.Nodup ∧ (∀ x ∈ l', x ∈ U) ∧ ∀ x, x ∈ l' ↔ x ∈ l ∨ x ∈ (h.take j).flatMap (·.1), ⟨_, rfl, Nat.zero_le _, l, rfl, nl, lU, fun x => by simp⟩, ?_⟩
        rintro j m H5 ⟨rfl, hj, l', rfl, nl', lU', hl'⟩
        have wk1 : Walk (Itt K a) (rs.map V.ref).length (fun H' => SqT K H' a (rs.map V.ref)) (YAt (rs.map V.ref)) := walk_tup
        have en1 : (rs.map V.ref).length = h.length := by rw [List.length_map, paired_len hrs]
        by_cases hlt1 : j < h.length
        · refine .inr ⟨wk1.goes j _ (by rw [en1]; exact hlt1) (sq ha), fun H' => ∃ l', H' = upd H3 S (SetXO P w S l') ∧ l'.Nodup ∧ (∀ x ∈ l', x ∈ U) ∧ ∀ x, x ∈ l' ↔ x ∈ l ∨ x ∈ (h.take (j + 1)).flatMap (·.1), fun H' hh => ⟨h.length - (j + 1), by omega, rfl, hlt1, hh⟩, fun x H' y => ?_⟩
          obtain ⟨rfl, hx⟩ := wk1.yields j _ x H' (by rw [en1]; exact hlt1) (sq ha) y
          rw [List.getElem?_map] at hx
          cases hr9 : rs[j]? with
          | none => rw [hr9] at hx; cases hx
          | some r =>
            rw [hr9] at hx
            cases hx
            obtain ⟨q, hq, m, hrr, hmm⟩ := paired_get hrs hr9
            have qU : ∀ x ∈ q.1, x ∈ U := fun x hx => hsU h hhm x (List.mem_flatMap.mpr ⟨q, List.mem_of_getElem? hq, hx⟩)
            refine ⟨r, _, rfl, sq hrr, rfl, _, _, rfl, _, _, rfl, rfl, rfl, _, rfl, m, rfl, ⟨_, sq hmm⟩, ?_⟩
            refine tL2_txt walk_tup (fun l => sq hmm) nl' lU' qU u1 (fun x H N0 N1 hx => ⟨rfl, _, rfl, hx⟩) fun l2 n2 m2 => ⟨l2, rfl, n2, fun x hx => ((m2 x).mp hx).elim (lU' x) (qU x), fun x => ?_⟩
            rw [m2 x, hl' x, List.take_succ, hq]
            show _ ↔ x ∈ l ∨ x ∈ (h.take j ++ [q]).flatMap (·.1)
            rw [List.flatMap_append, List.mem_append]
            simp only [List.flatMap_cons, List.flatMap_nil, List.append_nil]
            exact or_assoc
        · have e : j = h.length := by omega
          subst e
          refine .inl ⟨?_, l', rfl, nl', lU', fun x => ?_⟩
          · have := wk1.stops _ (sq (l := l') ha)
            rw [en1] at this
            exact this
          · rw [hl' x, hl x, List.take_length, List.take_succ, hh]
            constructor
            · rintro (⟨h', z1, z2⟩ | z)
              · exact ⟨h', List.mem_append_left _ z1, z2⟩
              · exact ⟨h, List.mem_append_right _ (List.mem_singleton.mpr rfl), z⟩
            · rintro ⟨h', z1, z2⟩
              rcases List.mem_append.mp z1 with z | z
              · exact .inl ⟨h', z, z2⟩
              · have z : h' = h := by simpa using z
                exact .inr (z ▸ z2)
      · have e : i = hs.length := by omega
        subst e
        refine .inl ⟨?_, ?_⟩
        · have := wk.stops _ gD
          rw [en] at this
          exact this
        have ll : l.length ≤ 6 := Nat.le_trans (nodup_len nl lU) u1
        refine ⟨S, l, rfl, upd_same, Nat.lt_of_le_of_lt ll (by decide), fun p ns hp hlen hmem => ?_⟩
        refine k p _ ns (e3.trans (.trans (.new hS (nt_setX _ _ _ _)) (.new hp (nt_lst _)))) upd_same (by rw [hlen]; exact ll) fun x => ?_
        rw [hmem x, hl x, List.take_length, hmeth x]
end
end ST
set_option maxHeartbeats 4000000
namespace ST
open PySem PySem.Spec PyProof.Rows L2
open LamX (CodeO Tabs TabB)
theorem hu65_of {k : Nat} {A : Around} (r : Room k A) : A.units + 65 < cLine := by
  have := r.un
  omega
def patsGo : List (List Str) → List Str → List (List Str)
  | acc, [] => acc
  | acc, m :: r => patsGo (acc ++ acc.map fun p => p ++ [m]) r
theorem patsGo_len : ∀ (l : List Str) (acc : List (List Str)), (patsGo acc l).length = acc.length * 2 ^ l.length
  | [], acc => by simp [patsGo]
  | m :: r, acc => by
    show (patsGo (acc ++ acc.map fun p => p ++ [m]) r).length = _
    rw [patsGo_len r, List.length_append, List.length_map, List.length_cons, Nat.pow_succ]
    have : acc.length + acc.length = acc.length * 2 := by omega
    rw [this, Nat.mul_assoc, Nat.mul_comm 2]
theorem patsGo_snoc : ∀ (l : List Str) (acc : List (List Str)) (m : Str), patsGo acc (l ++ [m]) = patsGo acc l ++ (patsGo acc l).map fun p => p ++ [m]
  | [], _, _ => rfl
  | x :: r, acc, m => patsGo_snoc r (acc ++ acc.map fun p => p ++ [x]) m
theorem patsGo_mem : ∀ (l : List Str) (acc : List (List Str)) (ms p0 : List Str), p0 ∈ acc → ∃ p ∈ patsGo acc l, ∀ x, x ∈ p ↔ x ∈ p0 ∨ (x ∈ l ∧ x ∈ ms)
  | [], acc, ms, p0, h => ⟨p0, h, fun x => by simp⟩
  | m :: r, acc, ms, p0, h => by
    by_cases q : m ∈ ms
    · obtain ⟨p, hp, e⟩ := patsGo_mem r (acc ++ acc.map fun p => p ++ [m]) ms (p0 ++ [m]) (List.mem_append_right _ (List.mem_map.mpr ⟨p0, h, rfl⟩))
      refine ⟨p, hp, fun x => ?_⟩
      rw [e x, List.mem_append, List.mem_singleton, List.mem_cons]
      constructor
      · rintro ((z | z) | ⟨z1, z2⟩)
        · exact .inl z
        · exact .inr ⟨.inl z, z ▸ q⟩
        · exact .inr ⟨.inr z1, z2⟩
      · rintro (z | ⟨z | z, y⟩)
        · exact .inl (.inl z)
        · exact .inl (.inr z)
        · exact .inr ⟨z, y⟩
    · obtain ⟨p, hp, e⟩ := patsGo_mem r (acc ++ acc.map fun p => p ++ [m]) ms p0 (List.mem_append_left _ h)
      refine ⟨p, hp, fun x => ?_⟩
      rw [e x, List.mem_cons]
      constructor
      · rintro (z | ⟨z1, z2⟩)
        · exact .inl z
        · exact .inr ⟨.inr z1, z2⟩
      · rintro (z | ⟨z | z, y⟩)
        · exact .inl z
        · exact (q (z ▸ y)).elim
        · exact .inr ⟨z, y⟩
theorem patsGo_each : ∀ (l : List Str) (acc : List (List Str)) (k : Nat), (∀ p ∈ acc, p.length ≤ k) → ∀ p ∈ patsGo acc l, p.length ≤ k + l.length
  | [], acc, k, h => h
  | m :: r, acc, k, h => fun p hp => by
    have := patsGo_each r (acc ++ acc.map fun p => p ++ [m]) (k + 1) (fun q hq => by
      rcases List.mem_append.mp hq with z | z
      · exact Nat.le_succ_of_le (h q z)
      · obtain ⟨q0, h0, rfl⟩ := List.mem_map.mp z
        rw [List.length_append]
        exact Nat.succ_le_succ (h q0 h0)) p hp
    rw [List.length_cons]
    omega
theorem paired_append {α β : Type} {F : α → β → Prop} : ∀ {xs : List α} {ys : List β} {xs' : List α} {ys' : List β}, Paired F xs ys → Paired F xs' ys' → Paired F (xs ++ xs') (ys ++ ys')
  | _, _, _, _, .nil, h => h
  | _, _, _, _, .cons h r, q => .cons h (paired_append r q)
theorem regs_mem {D : List C} (wf : Wf D) {q : Str × Str} (h : q ∈ regsOf D) : q.1 ∈ nms D ∧ q.2 ∈ (at_ D q.1).rg := by
  obtain ⟨c, hc, hq⟩ := List.mem_flatMap.mp h
  obtain ⟨o, ho, rfl⟩ := List.mem_map.mp hq
  have hn : c.nm ∈ nms D := List.mem_map.mpr ⟨c, hc, rfl⟩
  refine ⟨hn, ?_⟩
  have := at_mem hn
  rw [nd_inj wf.nd this.1 hc this.2]
  exact ho
theorem regs_len {D : List C} (wf : Wf D) : (regsOf D).length ≤ 2500 := by
  unfold regsOf
  have key : ∀ E : List C, (∀ c ∈ E, c.rg.length ≤ 50) → (E.flatMap fun c => c.rg.map fun o => (c.nm, o)).length ≤ E.length * 50 := fun E => by
    induction E with
    | nil => intro _; simp
    | cons c r ih =>
      intro h
      rw [List.flatMap_cons, List.length_append, List.length_map, List.length_cons]
      have h1 := h c (List.mem_cons_self ..)
      have h2 := ih fun d hd => h d (List.mem_cons_of_mem _ hd)
      omega
  have := key D fun c hc => (wf.rg c hc).2
  have := wf.len
  omega
section
variable {P : Program} {w : World} {K : PySem.W.Frag} {mg : Str → Option Value} {base : Heap}
def spPats (K : PySem.W.Frag) : Sp := fun vs H Q _ => ∃ (t : Addr) (D : List C), vs = [.ref t] ∧ TabR K H t D ∧ Wf D ∧ ∀ p H' ps, Ext K H H' → PatR K H' p ps → PatOk D ps → Q (.ref p) H'
theorem ok_patterns_in (T : Tx K mg) : FnOk P w K mg base CX0 2 (He.fAd K d_patterns_in.at_) (fdOf K (He.fAd K d_patterns_in.at_)) ["table"] (spPats K) := by
  refine (F_patterns_in T).ok sc_patterns_in (fun vs H Q E h => ?_) (fun cdv A outer s H vs Q E hr h => ?_)
  · obtain ⟨_, _, rfl, _⟩ := h
    rfl
  · obtain ⟨t, D, rfl, hT, wf, k⟩ := h
    have hu := hu_of hr
    refine ⟨_, PSs.nox (pss_cons (ps_set (i := 1) (sc_patterns_in).nd rfl (Or.inl rfl) (pe_lst (pa_cons (pe_tup pa_nil) pa_nil)))
    (pss_cons (ps_for PassesOwn.never rfl (i_list (K := K) rfl (pe_call (ok_methods_in T) (hr.mono (by decide)) rfl (g_methods_in T) (F_methods_in T).kp (b_methods_in T) .nil pass0 (pa_cons (pv 0) pa_nil))) (pg_name (i := 2) (sc_patterns_in).nd rfl (Or.inr rfl)) (pss_one (ps_set (i := 1) (sc_patterns_in).nd rfl (Or.inl rfl) (pe_op op_cat (pv 1) (pe_lc (own := [("pattern", 3)]) (g := gName 3) (tt := tYes) rfl (sc_patterns_in).nd (i_list (K := K) rfl (pv 1)) (blkOk_by (by kernel_rfl)) (fun _ _ _ _ _ => (pg_name (i := 3) (sc_patterns_in).nd rfl (by first | exact Or.inl rfl | exact Or.inr rfl))) (fun _ _ _ _ _ => pts_nil) (fun _ _ _ _ _ => (pe_op (o_catT (K := K) rfl) (pv 3) (pe_tup (pa_cons (pv 2) pa_nil)))))))))
    (pss_one (ps_ret (pv 1))))), ?_⟩
    refine ⟨Nat.zero_le _, fun e he => ⟨Nat.le_of_ble_eq_true rfl, fun f0 hf0 => ?_⟩⟩
    have e0 : Ext K H (upd (upd H e (.tup [])) f0 (.lst [.ref e])) := Frm.trans (.new he (nt_tup _)) (.new hf0 (nt_lst _))
    refine ⟨_, rfl, t, D, rfl, hT.ext e0, wf, fun p H1 l e1 hp ll hl => ?_⟩
    have e01 := e0.trans e1
    refine ⟨p, rfl, ⟨_, .of hp⟩, ?_⟩
    refine for_it walk_list (fun i σ H' => ∃ (x2 x3 : Option V) (f : Addr), σ = [some (.ref t), some (.ref f), x2, x3] ∧ Ext K H1 H' ∧ PatR K H' f (patsGo [[]] (l.take i))) ⟨_, _, f0, rfl, .refl, [e], ?_, ?_⟩ (fun i σ H' _ ⟨_, _, _, _, h, _⟩ => .inl (.of (h.at hp (nt_lst _)))) ?_ ?_
    · exact e1.at upd_same (nt_lst _)
    · refine .cons (e1.tup ?_) .nil
      rw [upd_ne (ne_of_none (by rw [upd_same]) hf0)]
      exact upd_same
    · rintro i x σ H2 H2' hi ⟨x2, x3, f, rfl, e2, hP⟩ ⟨rfl, hx⟩
      obtain ⟨m, hm, rfl, mm⟩ := strL_get hx
      obtain ⟨rs, hf1, hf2⟩ := id hP
      have hlt : i < l.length := (List.getElem?_eq_some_iff.mp hm).1
      have plen : (patsGo [[]] (l.take i)).length ≤ 64 := by
        rw [patsGo_len, List.length_take]
        have : 2 ^ min i l.length ≤ 2 ^ 6 := Nat.pow_le_pow_right (by omega) (by omega)
        simpa using this
      have rlen : rs.length ≤ 64 := by rw [paired_len hf2]; exact plen
      refine ⟨_, rfl, _, rfl, f, rfl, ⟨_, .of hf1⟩, ?_⟩
      refine lcw (K := K) walk_list (fun _ H (y : V) (q : List Str) => ∃ r : Addr, y = .ref r ∧ H r = some (.tup (strL q))) (fun j => ((patsGo [[]] (l.take i))[j]?).bind fun q => some (q ++ [m])) (fun _ _ _ _ _ a ⟨r, h1, h2⟩ => ⟨r, h1, a.tup h2⟩) (fun H e => ext_l e (.of hf1)) (by rw [List.length_map]; exact Nat.le_trans rlen (by decide)) (fun j x H3 H3' DD hj e3 y fD aD N0 N1 h0 h1 => ?_) (fun DD acc H3 fD e3 h pr => ?_)
      · obtain ⟨rfl, hx⟩ := y
        rw [List.getElem?_map] at hx
        cases hr' : rs[j]? with
        | none => rw [hr'] at hx; cases hx
        | some r =>
          rw [hr'] at hx
          cases hx
          obtain ⟨q, hq, hrr⟩ := paired_get hf2 hr'
          rw [hq] at h1
          have qlen : q.length ≤ 100 := by
            have := patsGo_each (l.take i) [[]] 0 (fun p hp => by rw [List.mem_singleton.mp hp]; exact Nat.le_refl _) q (List.mem_of_getElem? hq)
            rw [List.length_take] at this
            omega
          refine ⟨rfl, _, rfl, _, rfl, Nat.le_of_ble_eq_true rfl, fun tp htp => ?_⟩
          have e4 : Ext K H3' (upd H3' tp (.tup [.str m])) := .new htp (nt_tup _)
          refine ⟨r, tp, strL q, [.str m], rfl, rfl, .inl (.of ((e3.trans e4).tup hrr)), .inl (.of upd_same), ?_, fun hq0 => ?_, (fun _ z => by cases z), fun _ _ p' hp' => ?_⟩
          · rw [strL_length]
            exact Nat.le_trans (Nat.succ_le_succ qlen) (by decide)
          · have : q = [] := by
              cases q with
              | nil => rfl
              | cons _ _ => cases hq0
            subst this
            exact h1 _ rfl _ _ e4 ⟨tp, rfl, upd_same⟩
          · refine h1 _ rfl _ _ (e4.trans (.new hp' (nt_tup _))) ⟨p', rfl, ?_⟩
            rw [upd_same, strL_append]
            rfl
      · rw [List.length_map, paired_len hf2, range_bind, List.filterMap_eq_map'] at pr
        refine ⟨f, DD, _, _, rfl, rfl, e3.at hf1 (nt_lst _), h, ?_, fun f' hf' => ?_⟩
        · rw [List.length_map, paired_len pr, List.length_map]
          exact Nat.le_trans (Nat.add_le_add rlen plen) (by decide)
        · have e5 := e3.trans (Frm.new hf' (nt_lst (rs.map V.ref ++ acc)))
          refine ⟨_, _, f', rfl, e2.trans e5, ?_⟩
          have key : ∀ {acc : List V} {qs : List (List Str)}, Paired (fun (y : V) (q : List Str) => ∃ r : Addr, y = .ref r ∧ H3 r = some (.tup (strL q))) acc qs → ∃ rs : List Addr, acc = rs.map V.ref ∧ Paired (fun (r : Addr) (q : List Str) => H3 r = some (.tup (strL q))) rs qs := by
            intro acc qs z
            induction z with
            | nil => exact ⟨[], rfl, .nil⟩
            | cons h _ ih =>
              obtain ⟨r, rfl, h2⟩ := h
              obtain ⟨rs, rfl, h4⟩ := ih
              exact ⟨r :: rs, rfl, .cons h2 h4⟩
          obtain ⟨rs2, rfl, pr2⟩ := key pr
          rw [List.take_succ, hm]
          show PatR K _ f' (patsGo [[]] (l.take i ++ [m]))
          rw [patsGo_snoc]
          refine ⟨rs ++ rs2, by rw [upd_same, List.map_append], ?_⟩
          exact paired_append (L2.Paired.mapP hf2 fun _ _ h => e5.tup h) (L2.Paired.mapP pr2 fun _ _ h => Frm.tup (K := K) (S := fun _ => False) (.new hf' (nt_lst _)) h)
    · rintro σ H2 ⟨x2, x3, f, rfl, e2, hP⟩
      rw [List.length_map, List.take_length] at hP
      refine ⟨_, rfl, k f _ _ (e01.trans e2) hP ⟨?_, fun ms => ?_⟩⟩
      · rw [patsGo_len]
        have : 2 ^ l.length ≤ 2 ^ 6 := Nat.pow_le_pow_right (by omega) ll
        show 1 * 2 ^ l.length ≤ 10000
        omega
      · obtain ⟨p', hp', e'⟩ := patsGo_mem l [[]] ms [] (List.mem_cons_self ..)
        refine ⟨p', hp', fun x hx => ?_⟩
        rw [e' x]
        constructor
        · rintro (z | ⟨_, z⟩)
          · cases z
          · exact z
        · intro z
          exact .inr ⟨(hl x).mpr hx, z⟩
def spNeed (K : PySem.W.Frag) : Sp := fun vs H Q _ => ∃ (wd : Addr) (D : List C), vs = [.ref wd] ∧ WldR K H wd D ∧ Wf D ∧ Tabs (Tbs K) H ∧ ∀ p H' ps, Ext K H H' → ¬ Al H p → PatOk D ps → PairsR H' p ((regsOf D).filter fun q => needP ps D q.1 q.2) → Q (.ref p) H'
/-- of a comprehension over pairs that keeps some -/
theorem pairs_out {H : Hp} {f : Str × Str → Bool} {rs : List Addr} {qs : List (Str × Str)} (h : Paired (fun (r : Addr) (q : Str × Str) => H r = some (.tup [.str q.1, .str q.2])) rs qs) {acc : List V} {D : Addr} (hD : H D = some (.lst acc))
    (p : Paired (fun (y : V) (q : Str × Str) => ∃ r : Addr, y = .ref r ∧ H r = some (.tup [.str q.1, .str q.2])) acc ((List.range rs.length).filterMap fun i => (qs[i]?).bind fun q => if f q = true then some q else none)) : PairsR H D (qs.filter f) := by
  rw [paired_len h, range_bind, filterMap_filter] at p
  obtain ⟨rs', e, h'⟩ := paired_refs (ps := qs) p
  refine ⟨rs', by rw [hD, e], ?_⟩
  have : (qs.filter fun x => decide (f x = true)) = qs.filter f := by
    congr 1
    funext x
    simp
  rw [this] at h'
  exact h'
theorem ok_needless (T : Tx K mg) (B : Tb base mg K) : FnOk P w K mg base CX0 11 (He.fAd K d_needless.at_) (fdOf K (He.fAd K d_needless.at_)) ["world"] (spNeed K) := by
  refine (F_needless T).ok sc_needless (fun vs H Q E h => ?_) (fun cdv A outer s H vs Q E hr h => ?_)
  · obtain ⟨_, _, rfl, _⟩ := h
    rfl
  · obtain ⟨wd, D, rfl, hW, wf, hTb, k⟩ := h
    have hu := hu_of hr
    refine ⟨_, PSs.nox (pss_cons (ps_set (i := 1) (sc_needless).nd rfl (Or.inr rfl) (w_fld (K := K) rfl (pv 0)))
    (pss_cons (ps_set (i := 2) (sc_needless).nd rfl (Or.inr rfl) (pe_call (ok_patterns_in T) (hr.mono (by decide)) rfl (g_patterns_in T) (F_patterns_in T).kp (b_patterns_in T) .nil pass0 (pa_cons (pv 1) pa_nil)))
    (pss_one (ps_ret (pe_lc (own := [("pair", 3)]) (g := gName 3) (tt := _) rfl (sc_needless).nd (i_list (K := K) rfl (pe_meth0 (pv 1) (cl_Table T) (m_Table_registrations T) (ok_Table_registrations T) (hr.mono (by decide)) (b_Table_registrations T) .nil pass0)) (blkOk_by (by kernel_rfl)) (fun _ _ _ _ _ => (pg_name (i := 3) (sc_needless).nd rfl (by first | exact Or.inl rfl | exact Or.inr rfl))) (fun _ _ _ _ _ => pts_one (pt_val (StX.pe_callS2 (call_is_needless_in T B) (hr.mono (by decide)) (F_is_needless_in T).kp rfl (g_is_needless_in T) pass0 (pa_cons (pv 1) (a_star (K := K) rfl (pv 3) (pa_cons (pv 2) pa_nil)))))) (fun _ _ _ _ _ => (pv 3))))))), ?_⟩
    obtain ⟨t, ch, vi, th, cl, ⟨dx, g1⟩, hT⟩ := id hW
    refine ⟨_, rfl, wd, _, dx, _, _, rfl, g1, cl_World T, na_World_table T, rfl, _, rfl, t, D, rfl, hT, wf, fun p H1 ps e1 hP hOk => ?_⟩
    obtain ⟨dx', dr, dn, dl, mm, ls, g2, _⟩ := id (hT.ext e1)
    refine ⟨_, rfl, t, dx', _, rfl, g2, rfl, t, D, rfl, hT.ext e1, wf, fun rp H2 e2 f2 hR => ?_⟩
    have e12 := e1.trans e2
    obtain ⟨rs, hr1, hr2⟩ := id hR
    have rl : rs.length ≤ 2500 := by rw [paired_len hr2]; exact regs_len wf
    refine ⟨rp, rfl, ⟨_, .of hr1⟩, ?_⟩
    refine lcw (K := K) walk_list (fun _ H (y : V) (q : Str × Str) => ∃ r : Addr, y = .ref r ∧ H r = some (.tup [.str q.1, .str q.2])) (fun i => ((regsOf D)[i]?).bind fun q => if needP ps D q.1 q.2 = true then some q else none) (fun _ _ _ _ _ a ⟨r, h1, h2⟩ => ⟨r, h1, a.tup h2⟩) (fun H e => ext_l e (.of hr1)) (by rw [List.length_map]; exact Nat.le_trans rl (by decide)) (fun i x H3 H3' DD hi e3 y fD aD N0 N1 h0 h1 => ?_) (fun DD acc H3 fD e3 h pr => ?_)
    · obtain ⟨rfl, hx⟩ := y
      rw [List.getElem?_map] at hx
      cases hr' : rs[i]? with
      | none => rw [hr'] at hx; cases hx
      | some r =>
        rw [hr'] at hx
        cases hx
        obtain ⟨q, hq, hrr⟩ := paired_get hr2 hr'
        rw [hq] at h0 h1
        obtain ⟨q1, q2⟩ := regs_mem wf (List.mem_of_getElem? hq)
        have e13 := e12.trans e3
        refine ⟨rfl, _, rfl, _, rfl, r, [.str q.1, .str q.2], rfl, .inl (.of (e3.tup hrr)), _, rfl, t, p, D, q.1, q.2, ps, rfl, hT.ext e13, wf, q1, q2, hP.ext (e2.trans e3), hOk.1, e13.tabs hTb, fun H4 e4 => ⟨_, rfl, ?_⟩⟩
        refine ite2 (fun z => ?_) (fun z => ?_)
        · exact ⟨_, rfl, h1 q (if_pos z) _ _ e4 ⟨r, rfl, (e3.trans e4).tup hrr⟩⟩
        · exact h0 (if_neg z) _ e4
    · rw [List.length_map] at pr
      exact k DD _ ps (e12.trans e3) (fresh_back e12 fD) hOk (pairs_out (L2.Paired.mapP hr2 fun _ _ h => e3.tup h) h pr)
def spKern (K : PySem.W.Frag) : Sp := fun vs H Q _ => ∃ (wd : Addr) (D : List C), vs = [.ref wd] ∧ WldR K H wd D ∧ Wf D ∧ Tabs (Tbs K) H ∧ ∀ p H' ps, Ext K H H' → ¬ Al H p → PatOk D ps → PairsR H' p ((regsOf D).filter fun q => !needP ps D q.1 q.2) → Q (.ref p) H'
theorem ok_kernel (T : Tx K mg) (B : Tb base mg K) : FnOk P w K mg base CX0 12 (He.fAd K d_kernel.at_) (fdOf K (He.fAd K d_kernel.at_)) ["world"] (spKern K) := by
  refine (F_kernel T).ok sc_kernel (fun vs H Q E h => ?_) (fun cdv A outer s H vs Q E hr h => ?_)
  · obtain ⟨_, _, rfl, _⟩ := h
    rfl
  · obtain ⟨wd, D, rfl, hW, wf, hTb, k⟩ := h
    have hu := hu_of hr
    have hu65 := hu65_of hr
    refine ⟨_, PSs.nox (pss_cons (ps_set (i := 1) (sc_kernel).nd rfl (Or.inr rfl) (pe_call (ok_needless T B) (hr.mono (by decide)) rfl (g_needless T) (F_needless T).kp (b_needless T) .nil pass0 (pa_cons (pv 0) pa_nil)))
    (pss_one (ps_ret (pe_lc (own := [("pair", 2)]) (g := gName 2) (tt := _) rfl (sc_kernel).nd (i_list (K := K) rfl (pe_meth0 (w_fld (K := K) rfl (pv 0)) (cl_Table T) (m_Table_registrations T) (ok_Table_registrations T) (hr.mono (by decide)) (b_Table_registrations T) .nil pass0)) (blkOk_by (by kernel_rfl)) (fun _ _ _ _ _ => (pg_name (i := 2) (sc_kernel).nd rfl (by first | exact Or.inl rfl | exact Or.inr rfl))) (fun _ _ _ _ _ => pts_one (pt_cmpR (o_niT (K := K) rfl hu65) (pv 2) (pv 1) (by rfl))) (fun _ _ _ _ _ => (pv 2)))))), ?_⟩
    refine ⟨_, rfl, wd, D, rfl, hW, wf, hTb, fun p H1 ps e1 f1 hOk hR => ?_⟩
    obtain ⟨t, ch, vi, th, cl, ⟨dx, g1⟩, hT⟩ := id (hW.ext e1)
    obtain ⟨dx', dr, dn, dl, mm, ls, g2, _⟩ := id hT
    refine ⟨_, rfl, wd, _, dx, _, _, rfl, g1, cl_World T, na_World_table T, rfl, t, dx', _, rfl, g2, rfl, t, D, rfl, hT, wf, fun rp H2 e2 f2 hR2 => ?_⟩
    have e12 := e1.trans e2
    obtain ⟨rs, hr1, hr2⟩ := id hR2
    have rl : rs.length ≤ 2500 := by rw [paired_len hr2]; exact regs_len wf
    refine ⟨rp, rfl, ⟨_, .of hr1⟩, ?_⟩
    refine lcw (K := K) walk_list (fun _ H (y : V) (q : Str × Str) => ∃ r : Addr, y = .ref r ∧ H r = some (.tup [.str q.1, .str q.2])) (fun i => ((regsOf D)[i]?).bind fun q => if (!needP ps D q.1 q.2) = true then some q else none) (fun _ _ _ _ _ a ⟨r, h1, h2⟩ => ⟨r, h1, a.tup h2⟩) (fun H e => ext_l e (.of hr1)) (by rw [List.length_map]; exact Nat.le_trans rl (by decide)) (fun i x H3 H3' DD hi e3 y fD aD N0 N1 h0 h1 => ?_) (fun DD acc H3 fD e3 h pr => ?_)
    · obtain ⟨rfl, hx⟩ := y
      rw [List.getElem?_map] at hx
      cases hr' : rs[i]? with
      | none => rw [hr'] at hx; cases hx
      | some r =>
        rw [hr'] at hx
        cases hx
        obtain ⟨q, hq, hrr⟩ := paired_get hr2 hr'
        rw [hq] at h0 h1
        have hRp := (hR.frm (e2.trans e3) (fun z => z)).dp (K := K)
        refine ⟨rfl, _, rfl, _, rfl, _, _, dPair, q, (regsOf D).filter fun q => needP ps D q.1 q.2, dp_pair (e3.tup hrr), hRp, by decide, _, rfl, ?_⟩
        have hm : (q ∉ (regsOf D).filter fun q => needP ps D q.1 q.2) ↔ (!needP ps D q.1 q.2) = true := by
          have : q ∈ regsOf D := List.mem_of_getElem? hq
          cases z : needP ps D q.1 q.2 <;> simp [List.mem_filter, this, z]
        refine ite2 (fun z => ?_) (fun z => ?_)
        · exact ⟨_, rfl, h1 q (if_pos (hm.mp (@of_decide_eq_true _ (_) z))) _ _ .refl ⟨r, rfl, e3.tup hrr⟩⟩
        · exact h0 (if_neg fun y => z (@decide_eq_true _ (_) (hm.mpr y))) _ .refl
    · rw [List.length_map] at pr
      exact k DD _ ps (e12.trans e3) (fresh_back e12 fD) hOk (pairs_out (L2.Paired.mapP hr2 fun _ _ h => e3.tup h) h pr)
end
end ST
set_option maxHeartbeats 4000000
namespace ST
open PySem PySem.Spec PyProof.Rows L2
open LamX (CodeO Tabs TabB)
structure WPar where
  τ : Addr → Nat
  dx : Addr
  t : Addr
  dxt : Addr
  dr : Addr
  dn : Addr
  dl : Addr
  ch : Addr
  dxc : Addr
  kp : Addr
  cl : Addr
  vi : V
  th : V
  m : Int
  ls : Str → Addr
  ent : Str → Addr
  num : Str → Int
abbrev wldF (p : WPar) : List (Str × V) := [("table", .ref p.t), ("cache", .ref p.ch), ("visits", p.vi), ("things", p.th), ("choice_lists", .ref p.cl)]
structure WOk (K : PySem.W.Frag) (S : Addr → Prop) (H : Hp) (wd : Addr) (D : List C) (p : WPar) : Prop where
  wd_ : H wd = some (.ins (He.ga K "World") p.dx (wldF p))
  t_ : H p.t = some (.ins (He.ga K "Table") p.dxt (tabF p.dr p.dn p.dl p.m))
  r_ : H p.dr = some (.dK (recKV p.ent D))
  n_ : H p.dn = some (.dK (D.map fun c => (.inr c.nm, .int (p.num c.nm))))
  l_ : H p.dl = some (.dK (lsKV p.ls D))
  ch_ : H p.ch = some (.ins (He.ga K "Cache") p.dxc [("kept", .ref p.kp)])
  kp_ : H p.kp = some (.dK [])
  cl_ : H p.cl = some (.lst [])
  e_ : ∀ c ∈ D, EntR K (fun b => p.τ b = 7 ∧ S b) H (p.ent c.nm) c
  ll_ : ∀ c ∈ D, H (p.ls c.nm) = some (.lst (strL c.rg))
  li_ : ∀ c ∈ D, ∀ c' ∈ D, p.ls c.nm = p.ls c'.nm → c.nm = c'.nm
  tw : p.τ wd = 10
  tt : p.τ p.t = 8
  tr : p.τ p.dr = 1
  tn : p.τ p.dn = 2
  tl : p.τ p.dl = 3
  tk : p.τ p.kp = 4
  tc : p.τ p.cl = 5
  th_ : p.τ p.ch = 9
  tls : ∀ c ∈ D, p.τ (p.ls c.nm) = 6
  fr : ∀ b, ¬ Al H b → S b
  sw_ : S wd
  sk : S p.kp
  scl : S p.cl
  st : S p.t
  sr : S p.dr
  sn : S p.dn
  sl : S p.dl
  sc : S p.ch
  sls : ∀ c ∈ D, S (p.ls c.nm)
def WldM (K : PySem.W.Frag) (S : Addr → Prop) (H : Hp) (wd : Addr) (D : List C) : Prop := ∃ p, WOk K S H wd D p
section
variable {K : PySem.W.Frag} {S : Addr → Prop} {H H' : Hp} {wd : Addr} {D : List C} {p : WPar}
theorem ne_tag {τ : Addr → Nat} {a b : Addr} {i j : Nat} (h : τ a = i) (h' : τ b = j) (n : i ≠ j) : a ≠ b := fun e => n (by rw [← h, ← h', e])
theorem WOk.tab (w : WOk K S H wd D p) : TabR K H p.t D := ⟨p.dxt, p.dr, p.dn, p.dl, p.m, p.ls, w.t_, ⟨p.ent, w.r_, fun c hc => (w.e_ c hc).mono fun _ _ _ => trivial⟩, w.l_, w.ll_, _, w.n_⟩
theorem WldM.r (h : WldM K S H wd D) : WldR K H wd D := by
  obtain ⟨p, w⟩ := h
  exact ⟨p.t, _, _, _, _, ⟨p.dx, w.wd_⟩, w.tab⟩
theorem WOk.ext (w : WOk K S H wd D p) (a : Ext K H H') : WOk K S H' wd D p where
  wd_ := a.at w.wd_ (nt_ins _ _ _)
  t_ := a.at w.t_ (nt_ins _ _ _)
  r_ := a.at w.r_ (nt_dK _)
  n_ := a.at w.n_ (nt_dK _)
  l_ := a.at w.l_ (nt_dK _)
  ch_ := a.at w.ch_ (nt_ins _ _ _)
  kp_ := a.at w.kp_ (nt_dK _)
  cl_ := a.at w.cl_ (nt_lst _)
  e_ c hc := (w.e_ c hc).frm a fun _ _ z => z
  ll_ c hc := a.at (w.ll_ c hc) (nt_lst _)
  li_ := w.li_
  tw := w.tw
  tt := w.tt
  tr := w.tr
  tn := w.tn
  tl := w.tl
  tk := w.tk
  tc := w.tc
  th_ := w.th_
  tls := w.tls
  fr := fun b hb => w.fr b fun z => hb (a.al b z)
  sw_ := w.sw_
  sk := w.sk
  scl := w.scl
  st := w.st
  sr := w.sr
  sn := w.sn
  sl := w.sl
  sc := w.sc
  sls := w.sls
abbrev WPar.tag (p : WPar) (f : Addr) (i : Nat) : WPar := { p with τ := fun b => if b = f then i else p.τ b }
/-- another object is told its kind -/
theorem WOk.retag (w : WOk K S H wd D p) {f : Addr} (hf : ¬ Al H f) (i : Nat) : WOk K S H wd D (p.tag f i) := by
  have nf : ∀ {b : Addr} {o : HO}, H b = some o → NT o → b ≠ f := fun hb n => ne_fresh (al_of hb n) hf
  exact { w with
    e_ := fun c hc => (w.e_ c hc).mono fun b hb z => ⟨(if_neg (ne_fresh hb hf)).trans z.1, z.2⟩
    tw := (if_neg (nf w.wd_ (nt_ins _ _ _))).trans w.tw
    tt := (if_neg (nf w.t_ (nt_ins _ _ _))).trans w.tt
    tr := (if_neg (nf w.r_ (nt_dK _))).trans w.tr
    tn := (if_neg (nf w.n_ (nt_dK _))).trans w.tn
    tl := (if_neg (nf w.l_ (nt_dK _))).trans w.tl
    tk := (if_neg (nf w.kp_ (nt_dK _))).trans w.tk
    tc := (if_neg (nf w.cl_ (nt_lst _))).trans w.tc
    th_ := (if_neg (nf w.ch_ (nt_ins _ _ _))).trans w.th_
    tls := fun c hc => (if_neg (nf (w.ll_ c hc) (nt_lst _))).trans (w.tls c hc) }
theorem WOk.away {S' : Addr → Prop} (w : WOk K S H wd D p) (a : Frm K S' H H') (n : ∀ b, S b → ¬ S' b) : WOk K S H' wd D p := { w with
  wd_ := a.ins w.wd_ (n _ w.sw_)
  t_ := a.ins w.t_ (n _ w.st)
  r_ := a.dK w.r_ (n _ w.sr)
  n_ := a.dK w.n_ (n _ w.sn)
  l_ := a.dK w.l_ (n _ w.sl)
  ch_ := a.ins w.ch_ (n _ w.sc)
  kp_ := a.dK w.kp_ (n _ w.sk)
  cl_ := a.lst w.cl_ (n _ w.scl)
  e_ := fun c hc => (w.e_ c hc).frm a fun b z => n b z.2
  ll_ := fun c hc => a.lst (w.ll_ c hc) (n _ (w.sls c hc))
  fr := fun b hb => w.fr b fun z => hb (a.al b z) }
theorem WldM.away {S' : Addr → Prop} (h : WldM K S H wd D) (a : Frm K S' H H') (n : ∀ b, S b → ¬ S' b) : WldM K S H' wd D := by
  obtain ⟨p, w⟩ := h
  exact ⟨p, w.away a n⟩
theorem WldM.ext (h : WldM K S H wd D) (a : Ext K H H') : WldM K S H' wd D := by
  obtain ⟨p, w⟩ := h
  exact ⟨p, w.ext a⟩
end
section
variable {P : Program} {w : World} {K : PySem.W.Frag} {mg : Str → Option Value} {base : Heap}
def spEInit (K : PySem.W.Frag) : Sp := fun vs H Q _ => ∃ (p dx ab am al : Addr) (n : Str) (bs ln : List Str) (ow pa : Bool) (hv : V) (sg : List (Str × Str)), vs = [.ref p, .str n, .ref ab, .bl ow, .ref am, hv, .bl pa, .ref al] ∧ H p = some (.ins (He.ga K "Entry") dx []) ∧
  H ab = some (.tup (strL bs)) ∧ PairsR H am sg ∧ H al = some (.lst (strL ln)) ∧
  ∀ (H' : Hp) (m l : Addr), Frm K (fun b => b = p) H H' → H' p = some (.ins (He.ga K "Entry") dx [("label", .str n), ("parents", .ref ab), ("own_sworn", .bl ow), ("given_marks", .ref m), ("own_hook", hv), ("passed_on", .bl pa), ("line", .ref l)]) → H' l = some (.lst (strL ln)) → ¬ Al H l → Q .non H'
theorem ok_Entry_init (T : Tx K mg) : FnOk P w K mg base CX0 1 (He.fAd K d_Entry_init.at_) (fdOf K (He.fAd K d_Entry_init.at_)) ["self", "name", "bases", "own_sworn", "marks", "hook", "passed", "order"] (spEInit K) := by
  refine (F_Entry_init T).ok sc_Entry_init (fun vs H Q E h => ?_) (fun cdv A outer s H vs Q E hr h => ?_)
  · obtain ⟨_, _, _, _, _, _, _, _, _, _, _, _, rfl, _⟩ := h
    rfl
  · obtain ⟨p, dx, ab, am, al, n, bs, ln, ow, pa, hv, sg, rfl, h1, hb, ⟨rs, hm1, hm2⟩, hl, k⟩ := h
    refine ⟨_, PSs.nox (pss_cons (ps_fld (pv 0) (pv 1) rfl)
    (pss_cons (ps_fld (pv 0) (pe_callTy (k_tuple (K := K) rfl) (by rfl) (z_tuple T) (by decide +kernel) (pa_cons (pv 2) pa_nil)) rfl)
    (pss_cons (ps_fld (pv 0) (pv 3) rfl)
    (pss_cons (ps_fld (pv 0) (pe_callTy (k_dictP (K := K) rfl rfl) (by rfl) (z_dict T) (by decide +kernel) (pa_cons (pv 4) pa_nil)) rfl)
    (pss_cons (ps_fld (pv 0) (pv 5) rfl)
    (pss_cons (ps_fld (pv 0) (pv 6) rfl)
    (pss_one (ps_fld (pv 0) (pe_callTy (k_list (K := K) rfl) (by rfl) (z_list T) (by decide +kernel) (pa_cons (pv 7) pa_nil)) rfl)))))))), ?_⟩
    have nt : ∀ {b : Addr} {xs : List V}, H b = some (.tup xs) → b ≠ p := fun hb' => ne_of hb' h1 (fun z => by cases z)
    have nl : ∀ {b : Addr} {xs : List V}, H b = some (.lst xs) → b ≠ p := fun hb' => ne_of hb' h1 (fun z => by cases z)
    refine ⟨_, rfl, _, rfl, p, _, dx, _, rfl, h1, cl_Entry T, na_Entry_label T, Nat.lt_of_sub_eq_succ rfl, ?_⟩
    have f1 : Frm K (fun b => b = p) H (upd H p (.ins (He.ga K "Entry") dx (putF "label" (.str n) []))) := .mut h1 trivial rfl (nt_ins _ _ _)
    refine ⟨_, rfl, ab, strL bs, rfl, .inr ⟨.inl (.of (f1.tup hb)), _, rfl, p, _, dx, _, rfl, upd_same, cl_Entry T, na_Entry_parents T, Nat.lt_of_sub_eq_succ rfl, ?_⟩⟩
    have f2 := f1.trans (.mut (o := .ins (He.ga K "Entry") dx (putF "parents" (.ref ab) (putF "label" (.str n) []))) upd_same trivial rfl (nt_ins _ _ _))
    refine ⟨_, rfl, _, rfl, p, _, dx, _, rfl, upd_same, cl_Entry T, na_Entry_own_sworn T, Nat.lt_of_sub_eq_succ rfl, ?_⟩
    have f3 := f2.trans (.mut (o := .ins (He.ga K "Entry") dx (putF "own_sworn" (.bl ow) (putF "parents" (.ref ab) (putF "label" (.str n) [])))) upd_same trivial rfl (nt_ins _ _ _))
    refine ⟨_, rfl, am, rs, sg.map fun q => ((.inr q.1 : Key), V.str q.2), rfl, .inl (.of (f3.lst hm1 (nl hm1))), ?_, fun d hd => ?_⟩
    · have key : ∀ {rs : List Addr} {sg : List (Str × Str)}, Paired (fun (r : Addr) (q : Str × Str) => H r = some (.tup [.str q.1, .str q.2])) rs sg → Paired (fun (p' : Addr) (kv : Key × V) => SqT K _ p' [kV kv.1, kv.2]) rs (sg.map fun q => ((.inr q.1 : Key), V.str q.2)) := fun z => by
        induction z with
        | nil => exact .nil
        | cons h _ ih => exact .cons (.inl (.of (f3.tup h))) ih
      exact key hm2
    have f4 := f3.trans (.new (o := .dK (mergeK [] (sg.map fun q => ((.inr q.1 : Key), V.str q.2)))) hd (nt_dK _))
    have npd : p ≠ d := ne_of_none upd_same hd
    refine ⟨_, rfl, p, _, dx, _, rfl, by rw [upd_ne npd]; exact upd_same, cl_Entry T, na_Entry_given_marks T, Nat.lt_of_sub_eq_succ rfl, ?_⟩
    have f5 := f4.trans (.mut (o0 := .ins (He.ga K "Entry") dx (putF "own_sworn" (.bl ow) (putF "parents" (.ref ab) (putF "label" (.str n) [])))) (o := .ins (He.ga K "Entry") dx (putF "given_marks" (.ref d) (putF "own_sworn" (.bl ow) (putF "parents" (.ref ab) (putF "label" (.str n) []))))) (by rw [upd_ne npd]; exact upd_same) trivial rfl (nt_ins _ _ _))
    refine ⟨_, rfl, _, rfl, p, _, dx, _, rfl, upd_same, cl_Entry T, na_Entry_own_hook T, Nat.lt_of_sub_eq_succ rfl, ?_⟩
    have f6 := f5.trans (.mut (o := .ins (He.ga K "Entry") dx (putF "own_hook" hv (putF "given_marks" (.ref d) (putF "own_sworn" (.bl ow) (putF "parents" (.ref ab) (putF "label" (.str n) [])))))) upd_same trivial rfl (nt_ins _ _ _))
    refine ⟨_, rfl, _, rfl, p, _, dx, _, rfl, upd_same, cl_Entry T, na_Entry_passed_on T, Nat.lt_of_sub_eq_succ rfl, ?_⟩
    have f7 := f6.trans (.mut (o := .ins (He.ga K "Entry") dx (putF "passed_on" (.bl pa) (putF "own_hook" hv (putF "given_marks" (.ref d) (putF "own_sworn" (.bl ow) (putF "parents" (.ref ab) (putF "label" (.str n) []))))))) upd_same trivial rfl (nt_ins _ _ _))
    refine ⟨_, rfl, al, strL ln, rfl, .inl (.inl (.of (f7.lst hl (nl hl)))), fun l hln => ?_⟩
    have npl : p ≠ l := ne_of_none upd_same hln
    refine ⟨_, rfl, p, _, dx, _, rfl, by rw [upd_ne npl]; exact upd_same, cl_Entry T, na_Entry_line T, Nat.lt_of_sub_eq_succ rfl, ?_⟩
    refine k _ d l ?_ upd_same ?_ (fresh_of f7 hln)
    · refine (f7.trans (.new (o := .lst (strL ln)) hln (nt_lst _))).trans (.mut (o0 := .ins (He.ga K "Entry") dx (putF "passed_on" (.bl pa) (putF "own_hook" hv (putF "given_marks" (.ref d) (putF "own_sworn" (.bl ow) (putF "parents" (.ref ab) (putF "label" (.str n) []))))))) ?_ trivial rfl (nt_ins _ _ _))
      rw [upd_ne npl]
      exact upd_same
    · rw [upd_ne npl.symm]
      exact upd_same
def spCInit (K : PySem.W.Frag) : Sp := fun vs H Q _ => ∃ (p dx : Addr), vs = [.ref p] ∧ H p = some (.ins (He.ga K "Cache") dx []) ∧ ∀ (H' : Hp) (d : Addr), Frm K (fun b => b = p) H H' → H' p = some (.ins (He.ga K "Cache") dx [("kept", .ref d)]) → H' d = some (.dK []) → ¬ Al H d → Q .non H'
theorem ok_Cache_init (T : Tx K mg) : FnOk P w K mg base CX0 1 (He.fAd K d_Cache_init.at_) (fdOf K (He.fAd K d_Cache_init.at_)) ["self"] (spCInit K) := by
  refine (F_Cache_init T).ok sc_Cache_init (fun vs H Q E h => ?_) (fun cdv A outer s H vs Q E hr h => ?_)
  · obtain ⟨_, _, rfl, _⟩ := h
    rfl
  · obtain ⟨p, dx, rfl, h1, k⟩ := h
    refine ⟨_, PSs.nox (pss_one (ps_fld (pv 0) pe_dnewK rfl)), ?_⟩
    intro d hd
    have npd : p ≠ d := ne_of_none h1 hd
    refine ⟨_, rfl, p, _, dx, _, rfl, by rw [upd_ne npd]; exact h1, cl_Cache T, na_Cache_kept T, Nat.lt_of_sub_eq_succ rfl, ?_⟩
    refine k _ d (Frm.trans (.new hd (nt_dK [])) (.mut (o0 := .ins (He.ga K "Cache") dx []) (by rw [upd_ne npd]; exact h1) trivial rfl (nt_ins _ _ _))) upd_same ?_ (fresh_none hd)
    rw [upd_ne npd.symm]
    exact upd_same
/-- the cache is emptied -/
def spCRef (K : PySem.W.Frag) : Sp := fun vs H Q _ => ∃ (wd : Addr) (S : Addr → Prop) (D : List C) (p : WPar) (t : V), vs = [.ref p.ch, t] ∧ WOk K S H wd D p ∧ ∀ H', Frm K S H H' → WldM K S H' wd D → Q .non H'
theorem ok_Cache_refresh (T : Tx K mg) : FnOk P w K mg base CX0 1 (He.fAd K d_Cache_refresh.at_) (fdOf K (He.fAd K d_Cache_refresh.at_)) ["self", "table"] (spCRef K) := by
  refine (F_Cache_refresh T).ok sc_Cache_refresh (fun vs H Q E h => ?_) (fun cdv A outer s H vs Q E hr h => ?_)
  · obtain ⟨_, _, _, _, _, rfl, _⟩ := h
    rfl
  · obtain ⟨wd, S, D, p, t, rfl, W, k⟩ := h
    have hu := hu_of hr
    refine ⟨_, PSs.nox (pss_cons (ps_set (i := 2) (sc_Cache_refresh).nd rfl (Or.inl rfl) pe_dnewK)
    (pss_cons (ps_lock (ps_for PassesOwn.never rfl (pi_items (w_fld (K := K) rfl (pv 0))) (g_tup (K := K) rfl rfl (pgs_cons (pg_name (i := 3) (sc_Cache_refresh).nd rfl (Or.inr rfl)) (pgs_cons (pg_name (i := 4) (sc_Cache_refresh).nd rfl (Or.inr rfl)) pgs_nil))) (pss_one ps_never)))
    (pss_one (ps_fld (pv 0) (pv 2) rfl)))), ?_⟩
    intro f hf
    have W1 := (W.retag (fresh_none hf) 4).ext (.new hf (nt_dK []))
    have tf : (p.tag f 4).τ f = 4 := if_pos rfl
    refine ⟨p.kp, _, W1.kp_, trivial, fun od => ?_⟩
    have nck : p.ch ≠ p.kp := ne_tag W.th_ W.tk (by decide)
    refine ⟨_, rfl, p.ch, _, p.dxc, _, _, rfl, by rw [upd_ne nck]; exact W1.ch_, cl_Cache T, na_Cache_kept T, rfl, p.kp, od, _, rfl, upd_same, ?_⟩
    refine for_it walk_items (fun i σ H' => σ = [some (.ref p.ch), some t, some (.ref f), none, none, none, none] ∧ H' = upd (upd H f (.dK [])) p.kp (.frz od (.dK []))) ⟨rfl, rfl⟩ (fun i σ H' _ ⟨_, h⟩ => by rw [h]; exact upd_same) (fun i x σ H1 H1' hi _ _ => absurd hi (Nat.not_lt_zero _)) ?_
    rintro σ H1 ⟨rfl, rfl⟩
    refine ⟨upd_same, ?_⟩
    have e : upd (upd (upd H f (.dK [])) p.kp (.frz od (.dK []))) p.kp (.dK []) = upd H f (.dK []) := by
      funext b
      by_cases z : b = p.kp
      · rw [z, upd_same]
        exact W1.kp_.symm
      · rw [upd_ne z, upd_ne z]
    rw [e]
    refine ⟨_, rfl, _, rfl, p.ch, _, p.dxc, _, rfl, W1.ch_, cl_Cache T, na_Cache_kept T, Nat.lt_of_sub_eq_succ rfl, ?_⟩
    have fr : Frm K (fun b => b = p.ch) (upd H f (.dK [])) (upd (upd H f (.dK [])) p.ch (.ins (He.ga K "Cache") p.dxc (putF "kept" (.ref f) [("kept", .ref p.kp)]))) := .mut W1.ch_ trivial rfl (nt_ins _ _ _)
    have nm : ∀ {b : Addr} {i : Nat}, (p.tag f 4).τ b = i → i ≠ 9 → ¬ b = p.ch := fun h n z => n (by rw [← h, z]; exact W1.th_)
    refine k _ (Frm.trans (.new hf (nt_dK [])) (fr.mono fun b z => by rw [z]; exact W.sc)) ⟨{ p.tag f 4 with kp := f }, ?_⟩
    exact { W1 with
      wd_ := fr.ins W1.wd_ (nm W1.tw (by decide))
      t_ := fr.ins W1.t_ (nm W1.tt (by decide))
      r_ := fr.dK W1.r_ (nm W1.tr (by decide))
      n_ := fr.dK W1.n_ (nm W1.tn (by decide))
      l_ := fr.dK W1.l_ (nm W1.tl (by decide))
      ch_ := upd_same
      kp_ := fr.dK upd_same (nm tf (by decide))
      cl_ := fr.lst W1.cl_ (nm W1.tc (by decide))
      e_ := fun c hc => (W1.e_ c hc).frm fr fun b z => nm z.1 (by decide)
      ll_ := fun c hc => fr.lst (W1.ll_ c hc) (nm (W1.tls c hc) (by decide))
      sk := W.fr _ (fresh_none hf)
      fr := fun b hb => W1.fr b fun z => hb (fr.al b z)
      tk := tf }
end
end ST
set_option maxHeartbeats 4000000
namespace ST
open PySem PySem.Spec PyProof.Rows L2
open LamX (CodeO Tabs TabB)
section
variable {P : Program} {w : World} {K : PySem.W.Frag} {mg : Str → Option Value} {base : Heap}
def spWRef (K : PySem.W.Frag) : Sp := fun vs H Q _ => ∃ (wd : Addr) (S : Addr → Prop) (D : List C), vs = [.ref wd] ∧ WldM K S H wd D ∧ ∀ H', Frm K S H H' → WldM K S H' wd D → Q .non H'
theorem ok_World_refresh (T : Tx K mg) : FnOk P w K mg base CX0 2 (He.fAd K d_World_refresh.at_) (fdOf K (He.fAd K d_World_refresh.at_)) ["self"] (spWRef K) := by
  refine (F_World_refresh T).ok sc_World_refresh (fun vs H Q E h => ?_) (fun cdv A outer s H vs Q E hr h => ?_)
  · obtain ⟨_, _, _, rfl, _⟩ := h
    rfl
  · obtain ⟨wd, S, D, rfl, ⟨p, W⟩, k⟩ := h
    have hu := hu_of hr
    refine ⟨_, PSs.nox (pss_cons (ps_expr (pe_meth (w_fld (K := K) rfl (pv 0)) (cl_Cache T) (m_Cache_refresh T) (ok_Cache_refresh T) (hr.mono (by decide)) (b_Cache_refresh T) .nil pass0 (pa_cons (w_fld (K := K) rfl (pv 0)) pa_nil)))
    (pss_one (ps_for PassesOwn.never rfl (i_list (K := K) rfl (w_fld (K := K) rfl (pv 0))) (pg_name (i := 1) (sc_World_refresh).nd rfl (Or.inl rfl)) (pss_one ps_never)))), ?_⟩
    refine ⟨_, rfl, wd, _, p.dx, _, _, rfl, W.wd_, cl_World T, na_World_cache T, rfl, p.ch, p.dxc, _, rfl, W.ch_, rfl, _, rfl, wd, _, p.dx, _, _, rfl, W.wd_, cl_World T, na_World_table T, rfl, wd, S, D, p, _, rfl, W, fun H1 f1 ⟨p1, W1⟩ => ?_⟩
    refine ⟨_, rfl, wd, _, p1.dx, _, _, rfl, W1.wd_, cl_World T, na_World_choice_lists T, rfl, p1.cl, rfl, ⟨_, .of W1.cl_⟩, ?_⟩
    refine for_it walk_list (fun i σ H' => σ = [some (.ref wd), none] ∧ H' = H1) ⟨rfl, rfl⟩ (fun i σ H' _ ⟨_, h⟩ => by rw [h]; exact .inl (.of W1.cl_)) (fun i x σ H1 H1' hi _ _ => absurd hi (Nat.not_lt_zero _)) ?_
    rintro σ H2 ⟨rfl, rfl⟩
    exact k _ f1 ⟨p1, W1⟩
def spWInit (K : PySem.W.Frag) : Sp := fun vs H Q _ => ∃ (p dx : Addr) (S : Addr → Prop), vs = [.ref p] ∧ H p = some (.ins (He.ga K "World") dx []) ∧ S p ∧ (∀ b, ¬ Al H b → S b) ∧ ∀ (H' : Hp), Frm K (fun b => b = p) H H' → WldM K S H' p [] → Q .non H'
theorem ok_World_init (T : Tx K mg) : FnOk P w K mg base CX0 3 (He.fAd K d_World_init.at_) (fdOf K (He.fAd K d_World_init.at_)) ["self"] (spWInit K) := by
  refine (F_World_init T).ok sc_World_init (fun vs H Q E h => ?_) (fun cdv A outer s H vs Q E hr h => ?_)
  · obtain ⟨_, _, _, rfl, _⟩ := h
    rfl
  · obtain ⟨p, dx, S, rfl, h1, hSp, hS, k⟩ := h
    refine ⟨_, PSs.nox (pss_cons (ps_fld (pv 0) (pe_make0 (mk_Table T) (ok_Table_init T) (hr.mono (by decide)) rfl (g_Table T) (b_Table_init T) .nil pass0) rfl)
    (pss_cons (ps_fld (pv 0) (pe_make0 (mk_Cache T) (ok_Cache_init T) (hr.mono (by decide)) rfl (g_Cache T) (b_Cache_init T) .nil pass0) rfl)
    (pss_cons (ps_fld (pv 0) (pe_lst pa_nil) rfl)
    (pss_cons (ps_fld (pv 0) (pe_lst pa_nil) rfl)
    (pss_one (ps_fld (pv 0) (pe_lst pa_nil) rfl)))))), ?_⟩
    intro t dxt nt ndt net
    have fa : Frm K (fun b => b = p) H (upd (upd H dxt (.own t)) t (.ins (He.ga K "Table") dxt [])) := Frm.trans (.new ndt (nt_own _)) (.new (by rw [upd_ne net.symm]; exact nt) (nt_ins _ _ _))
    have npt : p ≠ t := ne_of_none h1 nt
    refine ⟨t, dxt, rfl, upd_same, fun H1 dr dn dl f1 g1 g2 g3 g4 q2 q3 q4 q5 q6 q7 => ⟨rfl, ?_⟩⟩
    have aP : (upd (upd H dxt (.own t)) t (.ins (He.ga K "Table") dxt [])) p = some (.ins (He.ga K "World") dx []) := by
      rw [upd_ne npt, upd_ne (ne_of_none h1 ndt)]
      exact h1
    have h1p : H1 p = some (.ins (He.ga K "World") dx []) := f1.ins aP npt
    have fb : Frm K (fun b => b = p) H H1 := ⟨fun b o hb n z => f1.keep b o (fa.keep b o hb n z) n (fun y => (fresh_none nt (y ▸ al_of hb n)).elim), fun b hb => f1.al b (fa.al b hb), fun tt => f1.tabs (fa.tabs tt)⟩
    refine ⟨_, rfl, p, _, dx, _, rfl, h1p, cl_World T, na_World_table T, Nat.lt_of_sub_eq_succ rfl, ?_⟩
    have fc : Frm K (fun b => b = p) H1 (upd H1 p (.ins (He.ga K "World") dx (putF "table" (.ref t) []))) := .mut h1p trivial rfl (nt_ins _ _ _)
    have fH := fb.trans fc
    have c1 := fc.ins g1 npt.symm
    have kd : ∀ {b : Addr} {xs : List (Key × V)}, H1 b = some (.dK xs) → ¬ b = p := fun hb => ne_of hb h1p (fun z => by cases z)
    have c2 := fc.dK g2 (kd g2)
    have c3 := fc.dK g3 (kd g3)
    have c4 := fc.dK g4 (kd g4)
    have aldr : ¬ Al H dr := fun z => fresh_none q2 (by
      obtain ⟨o, ho, n⟩ := z
      have := fa.keep dr o ho n (fun y => (kd g2 y).elim)
      exact al_of this n)
    have aldn : ¬ Al H dn := fun z => fresh_none q3 (by
      obtain ⟨o, ho, n⟩ := z
      have := fa.keep dn o ho n (fun y => (kd g3 y).elim)
      exact al_of this n)
    have aldl : ¬ Al H dl := fun z => fresh_none q4 (by
      obtain ⟨o, ho, n⟩ := z
      have := fa.keep dl o ho n (fun y => (kd g4 y).elim)
      exact al_of this n)
    have c0 : (upd H1 p (.ins (He.ga K "World") dx (putF "table" (.ref t) []))) p = some (.ins (He.ga K "World") dx (putF "table" (.ref t) [])) := upd_same
    generalize upd H1 p (.ins (He.ga K "World") dx (putF "table" (.ref t) [])) = H2 at fH c0 c1 c2 c3 c4
    clear fc fb h1p g1 g2 g3 g4 f1 aP kd q2 q3 q4
    -- the cache
    intro ch dxc nc ndc nec
    have fa2 : Frm K (fun b => b = p) H2 (upd (upd H2 dxc (.own ch)) ch (.ins (He.ga K "Cache") dxc [])) := Frm.trans (.new ndc (nt_own _)) (.new (by rw [upd_ne nec.symm]; exact nc) (nt_ins _ _ _))
    have fa3 : Ext K H2 (upd (upd H2 dxc (.own ch)) ch (.ins (He.ga K "Cache") dxc [])) := Frm.trans (.new ndc (nt_own _)) (.new (by rw [upd_ne nec.symm]; exact nc) (nt_ins _ _ _))
    have npc : p ≠ ch := ne_of_none c0 nc
    refine ⟨ch, dxc, rfl, upd_same, fun H3 kp f3 g1 g2 g3 => ⟨rfl, ?_⟩⟩
    have nch : ∀ {b : Addr} {o : HO}, H2 b = some o → ¬ b = ch := fun hb => ne_of_none hb nc
    have d0 := f3.ins (fa3.at c0 (nt_ins _ _ _)) npc
    have d1 := f3.ins (fa3.at c1 (nt_ins _ _ _)) (nch c1)
    have d2 := f3.dK (fa3.at c2 (nt_dK _)) (nch c2)
    have d3 := f3.dK (fa3.at c3 (nt_dK _)) (nch c3)
    have d4 := f3.dK (fa3.at c4 (nt_dK _)) (nch c4)
    have kn : ∀ {b : Addr} {o : HO}, H2 b = some o → NT o → ¬ b = kp := fun hb n => ne_fresh (fa3.al _ (al_of hb n)) g3
    have k2 := kn c2 (nt_dK _)
    have k3 := kn c3 (nt_dK _)
    have k4 := kn c4 (nt_dK _)
    have fb2 : Frm K (fun b => b = p) H H3 := fH.trans ⟨fun b o hb n z => f3.keep b o (fa2.keep b o hb n z) n (fun y => (fresh_none nc (y ▸ al_of hb n)).elim), fun b hb => f3.al b (fa2.al b hb), fun tt => f3.tabs (fa2.tabs tt)⟩
    have alch : ¬ Al H ch := fresh_of fH nc
    have aldk : ¬ Al H kp := fun z => g3 (fa3.al _ (fH.al _ z))
    clear fa2 fa3 f3 kn nch g3
    refine ⟨_, rfl, p, _, dx, _, rfl, d0, cl_World T, na_World_cache T, Nat.lt_of_sub_eq_succ rfl, ?_⟩
    have fc : Frm K (fun b => b = p) H3 (upd H3 p (.ins (He.ga K "World") dx (putF "cache" (.ref ch) (putF "table" (.ref t) [])))) := .mut d0 trivial rfl (nt_ins _ _ _)
    have kd : ∀ {b : Addr} {xs : List (Key × V)}, H3 b = some (.dK xs) → ¬ b = p := fun hb => ne_of hb d0 (fun z => by cases z)
    have e0 : (upd H3 p (.ins (He.ga K "World") dx (putF "cache" (.ref ch) (putF "table" (.ref t) [])))) p = some _ := upd_same
    have e1 := fc.ins d1 npt.symm
    have e2 := fc.dK d2 (kd d2)
    have e3 := fc.dK d3 (kd d3)
    have e4 := fc.dK d4 (kd d4)
    have e5 := fc.ins g1 npc.symm
    have e6 := fc.dK g2 (kd g2)
    have fH3 := fb2.trans fc
    generalize upd H3 p (.ins (He.ga K "World") dx (putF "cache" (.ref ch) (putF "table" (.ref t) []))) = H4 at fH3 e0 e1 e2 e3 e4 e5 e6
    clear fc fb2 d0 d1 d2 d3 d4 g1 g2 kd
    -- three lists
    refine ⟨Nat.zero_le _, fun vi hvi => ?_⟩
    have npv := ne_of_none e0 hvi
    have E1 : Frm K (fun b => b = p) H4 (upd H4 vi (.lst [])) := .new hvi (nt_lst _)
    refine ⟨_, rfl, p, _, dx, _, rfl, (by rw [upd_ne npv]; exact e0), cl_World T, na_World_visits T, Nat.lt_of_sub_eq_succ rfl, ?_⟩
    have E2 := E1.trans (.mut (o0 := .ins (He.ga K "World") dx (putF "cache" (.ref ch) (putF "table" (.ref t) []))) (o := .ins (He.ga K "World") dx (putF "visits" (.ref vi) (putF "cache" (.ref ch) (putF "table" (.ref t) [])))) (by rw [upd_ne npv]; exact e0) trivial rfl (nt_ins _ _ _))
    refine ⟨Nat.zero_le _, fun th hth => ?_⟩
    have npth : p ≠ th := ne_of_none upd_same hth
    have E3 := E2.trans (.new (o := .lst []) hth (nt_lst _))
    refine ⟨_, rfl, p, _, dx, _, rfl, (by rw [upd_ne npth]; exact upd_same), cl_World T, na_World_things T, Nat.lt_of_sub_eq_succ rfl, ?_⟩
    have E4 := E3.trans (.mut (o0 := .ins (He.ga K "World") dx (putF "visits" (.ref vi) (putF "cache" (.ref ch) (putF "table" (.ref t) [])))) (o := .ins (He.ga K "World") dx (putF "things" (.ref th) (putF "visits" (.ref vi) (putF "cache" (.ref ch) (putF "table" (.ref t) []))))) (by rw [upd_ne npth]; exact upd_same) trivial rfl (nt_ins _ _ _))
    refine ⟨Nat.zero_le _, fun cl hcl => ?_⟩
    have npcl : p ≠ cl := ne_of_none upd_same hcl
    have E5 := E4.trans (.new (o := .lst []) hcl (nt_lst _))
    refine ⟨_, rfl, p, _, dx, _, rfl, (by rw [upd_ne npcl]; exact upd_same), cl_World T, na_World_choice_lists T, Nat.lt_of_sub_eq_succ rfl, ?_⟩
    have E6 := E5.trans (.mut (o0 := .ins (He.ga K "World") dx (putF "things" (.ref th) (putF "visits" (.ref vi) (putF "cache" (.ref ch) (putF "table" (.ref t) []))))) (o := .ins (He.ga K "World") dx (putF "choice_lists" (.ref cl) (putF "things" (.ref th) (putF "visits" (.ref vi) (putF "cache" (.ref ch) (putF "table" (.ref t) [])))))) (by rw [upd_ne npcl]; exact upd_same) trivial rfl (nt_ins _ _ _))
    have kd : ∀ {b : Addr} {xs : List (Key × V)}, H4 b = some (.dK xs) → ¬ b = p := fun hb => ne_of hb e0 (fun z => by cases z)
    have r1 := E6.ins e1 npt.symm
    have r2 := E6.dK e2 (kd e2)
    have r3 := E6.dK e3 (kd e3)
    have r4 := E6.dK e4 (kd e4)
    have r5 := E6.ins e5 npc.symm
    have r6 := E6.dK e6 (kd e6)
    refine k _ (fH3.trans E6) ⟨⟨fun b => if b = p then 10 else if b = t then 8 else if b = ch then 9 else if b = cl then 5 else if b = dr then 1 else if b = dn then 2 else if b = dl then 3 else 4, dx, t, dxt, dr, dn, dl, ch, dxc, kp, cl, .ref vi, .ref th, 0, fun _ => 0, fun _ => 0, fun _ => 0⟩, ?_⟩
    have r7 : (upd (upd (upd (upd (upd (upd H4 vi (.lst [])) p (.ins (He.ga K "World") dx (putF "visits" (.ref vi) (putF "cache" (.ref ch) (putF "table" (.ref t) []))))) th (.lst [])) p (.ins (He.ga K "World") dx (putF "things" (.ref th) (putF "visits" (.ref vi) (putF "cache" (.ref ch) (putF "table" (.ref t) [])))))) cl (.lst [])) p (.ins (He.ga K "World") dx (putF "choice_lists" (.ref cl) (putF "things" (.ref th) (putF "visits" (.ref vi) (putF "cache" (.ref ch) (putF "table" (.ref t) []))))))) cl = some (.lst []) := by
      rw [upd_ne npcl.symm]
      exact upd_same
    have ntc : ch ≠ t := ne_of r5 r1 (fun z => by
      injection z with _ _ z3
      cases z3)
    have m1 : cl ≠ t := ne_of r7 r1 (fun z => by cases z)
    have m2 : cl ≠ ch := ne_of r7 r5 (fun z => by cases z)
    have dd : ∀ {b : Addr} {xs : List (Key × V)}, (upd (upd (upd (upd (upd (upd H4 vi (.lst [])) p (.ins (He.ga K "World") dx (putF "visits" (.ref vi) (putF "cache" (.ref ch) (putF "table" (.ref t) []))))) th (.lst [])) p (.ins (He.ga K "World") dx (putF "things" (.ref th) (putF "visits" (.ref vi) (putF "cache" (.ref ch) (putF "table" (.ref t) [])))))) cl (.lst [])) p (.ins (He.ga K "World") dx (putF "choice_lists" (.ref cl) (putF "things" (.ref th) (putF "visits" (.ref vi) (putF "cache" (.ref ch) (putF "table" (.ref t) []))))))) b = some (.dK xs) → ∀ x, (if b = p then 10 else if b = t then 8 else if b = ch then 9 else if b = cl then 5 else x) = x := fun {b xs} hb x => by
      rw [if_neg (ne_of hb upd_same (fun z => by cases z)), if_neg (ne_of hb r1 (fun z => by cases z)), if_neg (ne_of hb r5 (fun z => by cases z)), if_neg (ne_of hb r7 (fun z => by cases z))]
    exact {
      wd_ := upd_same
      t_ := r1
      r_ := r2
      n_ := r3
      l_ := r4
      ch_ := r5
      kp_ := r6
      cl_ := r7
      e_ := fun c hc => by cases hc
      ll_ := fun c hc => by cases hc
      li_ := fun c hc => by cases hc
      tw := if_pos rfl
      tt := (if_neg npt.symm).trans (if_pos rfl)
      tr := (dd r2 _).trans (if_pos rfl)
      tn := ((dd r3 _).trans (if_neg q5.symm)).trans (if_pos rfl)
      tl := (((dd r4 _).trans (if_neg q6.symm)).trans (if_neg q7.symm)).trans (if_pos rfl)
      tk := (((dd r6 _).trans (if_neg (Ne.symm k2))).trans (if_neg (Ne.symm k3))).trans (if_neg (Ne.symm k4))
      tc := (((if_neg npcl.symm).trans (if_neg m1)).trans (if_neg m2)).trans (if_pos rfl)
      th_ := ((if_neg npc.symm).trans (if_neg ntc)).trans (if_pos rfl)
      tls := fun c hc => by cases hc
      fr := fun b hb => hS b fun z => hb ((fH3.trans E6).al b z)
      sw_ := hSp
      sk := hS _ aldk
      scl := hS _ (fresh_of (fH3.trans E4) hcl)
      st := hS _ (fresh_none nt)
      sr := hS _ aldr
      sn := hS _ aldn
      sl := hS _ aldl
      sc := hS _ alch
      sls := fun c hc => by cases hc }
end
end ST
set_option maxHeartbeats 4000000
namespace ST
open PySem PySem.Spec PyProof.Rows L2
open LamX (CodeO Tabs TabB)
theorem lsKV_new {ls : Str → Addr} {D : List C} {c : C} {l : Addr} (h : c.nm ∉ nms D) : putK (lsKV ls D) (.inr c.nm) (.ref l) = lsKV (fun n => if n = c.nm then l else ls n) (D ++ [c]) := by
  rw [putK_new]
  · show List.map _ _ ++ _ = List.map _ _
    rw [List.map_append]
    congr 1
    · refine List.map_congr_left fun d hd => ?_
      dsimp only
      rw [if_neg]
      intro z
      exact h (List.mem_map.mpr ⟨d, hd, z⟩)
    · simp
  · rw [valV_map fun n => V.ref (ls n)]
    exact if_neg h
theorem numKV_new {num : Str → Int} {D : List C} {c : C} {l : Int} (h : c.nm ∉ nms D) : putK (D.map fun c => ((.inr c.nm : Key), V.int (num c.nm))) (.inr c.nm) (.int l) = (D ++ [c]).map fun d => ((.inr d.nm : Key), V.int (if d.nm = c.nm then l else num d.nm)) := by
  rw [putK_new]
  · rw [List.map_append]
    congr 1
    · refine List.map_congr_left fun d hd => ?_
      rw [if_neg]
      intro z
      exact h (List.mem_map.mpr ⟨d, hd, z⟩)
    · simp
  · rw [valV_map fun n => V.int (num n)]
    exact if_neg h
/-- with a registration -/
def addReg (D : List C) (n o : Str) : List C := D.map fun c => if c.nm = n ∧ o ∉ c.rg then { c with rg := c.rg ++ [o] } else c
theorem addReg_nm (c : C) (n o : Str) : (if c.nm = n ∧ o ∉ c.rg then { c with rg := c.rg ++ [o] } else c).nm = c.nm := by split <;> rfl
theorem addReg_nms (D : List C) (n o : Str) : nms (addReg D n o) = nms D := by
  unfold addReg nms
  rw [List.map_map]
  exact List.map_congr_left fun c _ => addReg_nm c n o
theorem addReg_map {β : Type} (f : Str → β) (D : List C) (n o : Str) : (addReg D n o).map (fun c => ((.inr c.nm : Key), f c.nm)) = D.map fun c => ((.inr c.nm : Key), f c.nm) := by
  unfold addReg
  rw [List.map_map]
  refine List.map_congr_left fun c _ => ?_
  show ((.inr (if c.nm = n ∧ o ∉ c.rg then { c with rg := c.rg ++ [o] } else c).nm : Key), f _) = _
  rw [addReg_nm]
section
variable {P : Program} {w : World} {K : PySem.W.Frag} {mg : Str → Option Value} {base : Heap}
def spTAdd (K : PySem.W.Frag) : Sp := fun vs H Q _ => ∃ (wd e : Addr) (S : Addr → Prop) (D : List C) (p : WPar) (c : C) (H0 : Hp), vs = [.ref p.t, .ref e] ∧ WOk K S H0 wd D p ∧ Ext K H0 H ∧ EntR K (fun b => ¬ Al H0 b) H e c ∧ c.nm ∉ nms D ∧ D.length ≤ 50 ∧ c.rg = [] ∧ (∀ b, ¬ Al H0 b → S b) ∧ ∀ H', Frm K S H H' → WldM K S H' wd (D ++ [c]) → Q .non H'
theorem ok_Table_add_class (T : Tx K mg) : FnOk P w K mg base CX0 1 (He.fAd K d_Table_add_class.at_) (fdOf K (He.fAd K d_Table_add_class.at_)) ["self", "entry"] (spTAdd K) := by
  refine (F_Table_add_class T).ok sc_Table_add_class (fun vs H Q E h => ?_) (fun cdv A outer s H vs Q E hr h => ?_)
  · obtain ⟨_, _, _, _, _, _, _, rfl, _⟩ := h
    rfl
  · obtain ⟨wd, e, S, D, p0, c, H0, rfl, W0, e0, ⟨dxe, ap, am, al, hv, h1, h2, h3, h4, w1, w2⟩, hn, hlen, hrg, hS, k⟩ := h
    have hu := hu_of hr
    refine ⟨_, PSs.nox (pss_cons (ps_fldaug (pv 0) pe_int in_add)
    (pss_cons (ps_dput hu (w_fld (K := K) rfl (pv 0)) (w_fld (K := K) rfl (pv 1)) (pv 1) rfl)
    (pss_cons (ps_dput hu (w_fld (K := K) rfl (pv 0)) (w_fld (K := K) rfl (pv 1)) (w_fld (K := K) rfl (pv 0)) rfl)
    (pss_one (ps_dput hu (w_fld (K := K) rfl (pv 0)) (w_fld (K := K) rfl (pv 1)) (pe_lst pa_nil) rfl))))), ?_⟩
    have W := ((W0.retag w1 7).retag w2 7).ext e0
    have tgE : ((p0.tag e 7).tag al 7).τ e = 7 := by
      show (if e = al then 7 else if e = e then 7 else p0.τ e) = 7
      rw [if_pos (rfl : e = e)]
      split <;> rfl
    have tgA : ((p0.tag e 7).tag al 7).τ al = 7 := if_pos rfl
    generalize hp : (p0.tag e 7).tag al 7 = p at W tgE tgA
    have ept : p0.t = p.t := by rw [← hp]
    rw [ept]
    have sE := hS _ w1
    have sA := hS _ w2
    clear hp W0 e0 w1 w2
    -- made
    refine ⟨_, rfl, p.t, _, p.dxt, _, _, rfl, W.t_, cl_Table T, na_Table_made T, rfl, p.m, 1, rfl, rfl, p.dxt, _, W.t_, Nat.lt_of_sub_eq_succ rfl, ?_⟩
    have ne : ∀ {a b : Addr} {i j : Nat}, p.τ a = i → p.τ b = j → i ≠ j → a ≠ b := fun h h' n => ne_tag h h' n
    generalize hH1 : upd H p.t (.ins (He.ga K "Table") p.dxt (putF "made" (.int (p.m + 1)) (tabF p.dr p.dn p.dl p.m))) = H1
    have f1 : Frm K (fun b => b = p.t) H H1 := by
      rw [← hH1]
      exact .mut W.t_ trivial rfl (nt_ins _ _ _)
    have t1 : H1 p.t = some (.ins (He.ga K "Table") p.dxt (tabF p.dr p.dn p.dl (p.m + 1))) := by
      rw [← hH1]
      exact upd_same
    have E1 := f1.ins h1 (ne tgE W.tt (by decide))
    have R1 := f1.dK W.r_ (ne W.tr W.tt (by decide))
    -- records
    refine ⟨_, rfl, _, rfl, p.t, _, p.dxt, _, _, rfl, t1, cl_Table T, na_Table_records T, rfl, ?_⟩
    have lt1 : D.length < sizeLine := Nat.lt_of_le_of_lt hlen (by decide)
    refine ⟨_, rfl, e, _, dxe, _, _, rfl, E1, cl_Entry T, na_Entry_label T, rfl, p.dr, _, rfl, DPut.k (k := Sum.inr c.nm) R1 (by rw [List.length_map]; exact lt1), ?_⟩
    generalize hH2 : upd H1 p.dr (.dK (putK (recKV p.ent D) (.inr c.nm) (.ref e))) = H2
    have f2 : Frm K (fun b => b = p.dr) H1 H2 := by
      rw [← hH2]
      exact .mut R1 trivial rfl (nt_dK _)
    have r2 : H2 p.dr = some (.dK (putK (recKV p.ent D) (.inr c.nm) (.ref e))) := by
      rw [← hH2]
      exact upd_same
    have t2 := f2.ins t1 (ne W.tt W.tr (by decide))
    have E2 := f2.ins E1 (ne tgE W.tr (by decide))
    have N2 := f2.dK (f1.dK W.n_ (ne W.tn W.tt (by decide))) (ne W.tn W.tr (by decide))
    -- numbers
    refine ⟨_, rfl, p.t, _, p.dxt, _, _, rfl, t2, cl_Table T, na_Table_made T, rfl, _, rfl, p.t, _, p.dxt, _, _, rfl, t2, cl_Table T, na_Table_numbers T, rfl, ?_⟩
    refine ⟨_, rfl, e, _, dxe, _, _, rfl, E2, cl_Entry T, na_Entry_label T, rfl, p.dn, _, rfl, DPut.k (k := Sum.inr c.nm) N2 (by rw [List.length_map]; exact lt1), ?_⟩
    generalize hH3 : upd H2 p.dn (.dK (putK (D.map fun c => ((.inr c.nm : Key), V.int (p.num c.nm))) (.inr c.nm) (.int (p.m + 1)))) = H3
    have f3 : Frm K (fun b => b = p.dn) H2 H3 := by
      rw [← hH3]
      exact .mut N2 trivial rfl (nt_dK _)
    have n3 : H3 p.dn = some (.dK (putK (D.map fun c => ((.inr c.nm : Key), V.int (p.num c.nm))) (.inr c.nm) (.int (p.m + 1)))) := by
      rw [← hH3]
      exact upd_same
    have t3 := f3.ins t2 (ne W.tt W.tn (by decide))
    have E3 := f3.ins E2 (ne tgE W.tn (by decide))
    have r3 := f3.dK r2 (ne W.tr W.tn (by decide))
    have L3 := f3.dK (f2.dK (f1.dK W.l_ (ne W.tl W.tt (by decide))) (ne W.tl W.tr (by decide))) (ne W.tl W.tn (by decide))
    -- lists
    refine ⟨Nat.zero_le _, fun l hl => ?_⟩
    have f4 : Ext K H3 (upd H3 l (.lst [])) := .new hl (nt_lst _)
    have t4 := f4.at t3 (nt_ins _ _ _)
    have E4 := f4.at E3 (nt_ins _ _ _)
    have L4 := f4.at L3 (nt_dK _)
    have l4 : (upd H3 l (.lst [])) l = some (.lst []) := upd_same
    have fall : Frm K (fun b => b = p.t ∨ b = p.dr ∨ b = p.dn) H H3 := (((f1.mono fun b z => .inl z).trans (f2.mono fun b z => .inr (.inl z))).trans (f3.mono fun b z => .inr (.inr z)))
    have fl : ¬ Al H l := fresh_of fall hl
    generalize upd H3 l (.lst []) = H4 at f4 t4 E4 L4 l4
    refine ⟨_, rfl, p.t, _, p.dxt, _, _, rfl, t4, cl_Table T, na_Table_lists T, rfl, ?_⟩
    refine ⟨_, rfl, e, _, dxe, _, _, rfl, E4, cl_Entry T, na_Entry_label T, rfl, p.dl, _, rfl, DPut.k (k := Sum.inr c.nm) L4 (by rw [List.length_map]; exact lt1), ?_⟩
    have f5 : Frm K (fun b => b = p.dl) H4 (upd H4 p.dl (.dK (putK (lsKV p.ls D) (.inr c.nm) (.ref l)))) := .mut L4 trivial rfl (nt_dK _)
    have l5 : (upd H4 p.dl (.dK (putK (lsKV p.ls D) (.inr c.nm) (.ref l)))) p.dl = some (.dK (putK (lsKV p.ls D) (.inr c.nm) (.ref l))) := upd_same
    generalize upd H4 p.dl (.dK (putK (lsKV p.ls D) (.inr c.nm) (.ref l))) = H5 at f5 l5
    have F : Frm K (fun b => b = p.t ∨ b = p.dr ∨ b = p.dn ∨ b = p.dl) H H5 := ((fall.mono fun b z => z.elim .inl fun z => z.elim (fun z => .inr (.inl z)) fun z => .inr (.inr (.inl z))).trans f4.of).trans (f5.mono fun b z => .inr (.inr (.inr z)))
    have nm : ∀ {b : Addr} {i : Nat}, p.τ b = i → i ∉ [8, 1, 2, 3] → ¬ (b = p.t ∨ b = p.dr ∨ b = p.dn ∨ b = p.dl) := fun {b i} h n z => by
      have h1 := W.tt
      have h2 := W.tr
      have h3 := W.tn
      have h4 := W.tl
      rcases z with z | z | z | z <;> rw [z] at h <;> refine n ?_ <;> rw [← h]
      · rw [h1]; decide
      · rw [h2]; decide
      · rw [h3]; decide
      · rw [h4]; decide
    have W' := W.retag fl 6
    have nl : ∀ {b : Addr}, Al H b → b ≠ l := fun hb => ne_fresh hb fl
    have hnl : c.nm ∉ nms D := hn
    refine k H5 (F.mono fun b z => ?_) ⟨{ p.tag l 6 with m := p.m + 1, ls := fun n => if n = c.nm then l else p.ls n, ent := fun n => if n = c.nm then e else p.ent n, num := fun n => if n = c.nm then p.m + 1 else p.num n }, ?_⟩
    · rcases z with z | z | z | z <;> rw [z]
      · exact W.st
      · exact W.sr
      · exact W.sn
      · exact W.sl
    have old : ∀ {d : C}, d ∈ D → d.nm ≠ c.nm := fun hd z => hn (List.mem_map.mpr ⟨_, hd, z⟩)
    have lsold : ∀ {d : C}, d ∈ D → (if d.nm = c.nm then l else p.ls d.nm) = p.ls d.nm := fun hd => if_neg (old hd)
    have mem : ∀ {d : C}, d ∈ D ++ [c] → d ∈ D ∨ d = c := fun hd => (List.mem_append.mp hd).imp id (fun z => by simpa using z)
    exact { W' with
      wd_ := F.ins W.wd_ (nm W.tw (by decide))
      t_ := f5.ins t4 (ne W.tt W.tl (by decide))
      r_ := by
        have := f5.dK (f4.at r3 (nt_dK _)) (ne W.tr W.tl (by decide))
        rw [lsKV_new (ls := p.ent) hnl] at this
        exact this
      n_ := by
        have := f5.dK (f4.at n3 (nt_dK _)) (ne W.tn W.tl (by decide))
        rw [numKV_new hnl] at this
        exact this
      l_ := by
        rw [lsKV_new hnl] at l5
        exact l5
      ch_ := F.ins W.ch_ (nm W.th_ (by decide))
      kp_ := F.dK W.kp_ (nm W.tk (by decide))
      cl_ := F.lst W.cl_ (nm W.tc (by decide))
      e_ := fun d hd => by
        rcases mem hd with z | z
        · show EntR K _ H5 (if d.nm = c.nm then e else p.ent d.nm) d
          rw [if_neg (old z)]
          refine (W'.e_ d z).frm F fun b y => ?_
          have y : (if b = l then 6 else p.τ b) = 7 := y.1
          by_cases q : b = l
          · rw [if_pos q] at y
            cases y
          · rw [if_neg q] at y
            exact nm y (by decide)
        · subst z
          show EntR K _ H5 (if d.nm = d.nm then e else p.ent d.nm) d
          rw [if_pos rfl]
          have A1 : Al H e := al_of h1 (nt_ins _ _ _)
          have A2 : Al H al := al_of h3 (nt_lst _)
          exact ⟨dxe, ap, am, al, hv, F.ins h1 (nm tgE (by decide)), F.tup h2, F.lst h3 (nm tgA (by decide)), h4.frm F, ⟨(if_neg (nl A1)).trans tgE, sE⟩, ⟨(if_neg (nl A2)).trans tgA, sA⟩⟩
      ll_ := fun d hd => by
        rcases mem hd with z | z
        · show H5 (if d.nm = c.nm then l else p.ls d.nm) = _
          rw [lsold z]
          exact F.lst (W.ll_ d z) (nm (W.tls d z) (by decide))
        · subst z
          show H5 (if d.nm = d.nm then l else p.ls d.nm) = _
          rw [if_pos rfl, hrg]
          exact f5.lst l4 (ne_of l4 L4 (fun z => by cases z))
      li_ := fun d hd d' hd' => by
        show (if d.nm = c.nm then l else p.ls d.nm) = (if d'.nm = c.nm then l else p.ls d'.nm) → _
        rcases mem hd with z | z <;> rcases mem hd' with y | y
        · rw [lsold z, lsold y]
          exact W.li_ d z d' y
        · subst y
          rw [lsold z, if_pos rfl]
          exact fun q => (nl (al_of (W.ll_ d z) (nt_lst _)) q).elim
        · subst z
          rw [lsold y, if_pos rfl]
          exact fun q => (nl (al_of (W.ll_ d' y) (nt_lst _)) q.symm).elim
        · rw [z, y]
          exact fun _ => rfl
      tls := fun d hd => by
        rcases mem hd with z | z
        · show (if (if d.nm = c.nm then l else p.ls d.nm) = l then 6 else p.τ (if d.nm = c.nm then l else p.ls d.nm)) = 6
          rw [lsold z]
          split
          · rfl
          · exact W.tls d z
        · subst z
          show (if (if d.nm = d.nm then l else p.ls d.nm) = l then 6 else p.τ (if d.nm = d.nm then l else p.ls d.nm)) = 6
          rw [if_pos rfl, if_pos rfl]
      sls := fun d hd => by
        rcases mem hd with z | z
        · show S (if d.nm = c.nm then l else p.ls d.nm)
          rw [lsold z]
          exact W.sls d z
        · subst z
          show S (if d.nm = d.nm then l else p.ls d.nm)
          rw [if_pos rfl]
          exact W.fr l fl
      fr := fun b hb => W.fr b fun z => hb (F.al b z) }
def spTAddR (K : PySem.W.Frag) : Sp := fun vs H Q _ => ∃ (wd : Addr) (S : Addr → Prop) (D : List C) (p : WPar) (n o : Str), vs = [.ref p.t, .str n, .str o] ∧ WOk K S H wd D p ∧ Wf D ∧ n ∈ nms D ∧ ∀ H', Frm K S H H' → WldM K S H' wd (addReg D n o) → Q .non H'
theorem addReg_mem {D : List C} {n o : Str} {c : C} (h : c ∈ addReg D n o) : ∃ d ∈ D, c = if d.nm = n ∧ o ∉ d.rg then { d with rg := d.rg ++ [o] } else d := by
  obtain ⟨d, hd, e⟩ := List.mem_map.mp h
  exact ⟨d, hd, e.symm⟩
theorem ok_Table_add_registration (T : Tx K mg) : FnOk P w K mg base CX0 1 (He.fAd K d_Table_add_registration.at_) (fdOf K (He.fAd K d_Table_add_registration.at_)) ["self", "name", "other"] (spTAddR K) := by
  refine (F_Table_add_registration T).ok sc_Table_add_registration (fun vs H Q E h => ?_) (fun cdv A outer s H vs Q E hr h => ?_)
  · obtain ⟨_, _, _, _, _, _, rfl, _⟩ := h
    rfl
  · obtain ⟨wd, S, D, p, n, o, rfl, W, wf, hn, k⟩ := h
    have hu := hu_of hr
    refine ⟨_, PSs.nox (pss_one (ps_if (pt_cmpR (o_ni (K := K) rfl) (pv 2) (pe_dget hu (w_fld (K := K) rfl (pv 0)) (pv 1) (fun _ _ => rfl)) (by rfl)) (pss_one (ps_expr (w_append (K := K) rfl (pe_dget hu (w_fld (K := K) rfl (pv 0)) (pv 1) (fun _ _ => rfl)) (pv 2)))) pss_nil)), ?_⟩
    obtain ⟨m1, m2⟩ := at_mem hn
    have hl := W.ll_ _ m1
    rw [m2] at hl
    have hg : DGet H p.dl (.str n) (some (.ref (p.ls n))) := .inl ⟨_, .inr n, .of W.l_, rfl, by rw [valV_map fun n => V.ref (p.ls n), if_pos hn]⟩
    have ueq : ∀ {c : C}, c ∈ D → c.nm = n → c = at_ D n := fun hc e => nd_inj wf.nd hc m1 (e.trans m2.symm)
    refine ⟨_, rfl, _, rfl, p.t, _, p.dxt, _, _, rfl, W.t_, cl_Table T, na_Table_lists T, rfl, _, rfl, p.dl, .ref (p.ls n), rfl, hg, p.ls n, strL (at_ D n).rg, rfl, .inl (.of hl), rfl, flat_strL _, _, rfl, ?_⟩
    show if (!inV (.str o) (strL (at_ D n).rg)) = true then _ else _
    rw [inV_str]
    by_cases q : o ∈ (at_ D n).rg
    · rw [decide_eq_true q]
      refine iteF (k H .refl ⟨p, ?_⟩)
      have e : addReg D n o = D := by
        have : D = D.map id := by simp
        conv => rhs; rw [this]
        refine List.map_congr_left fun c hc => if_neg fun z => z.2 ?_
        rw [ueq hc z.1]
        exact q
      rw [e]
      exact W
    · rw [decide_eq_false q]
      refine iteT ⟨_, rfl, p.t, _, p.dxt, _, _, rfl, W.t_, cl_Table T, na_Table_lists T, rfl, _, rfl, p.dl, .ref (p.ls n), rfl, hg, .inl ⟨rfl, _, .of hl⟩, _, rfl, p.ls n, _, _, rfl, rfl, hl, ?_, ?_⟩
      · rw [List.length_map]
        exact Nat.lt_of_le_of_lt (wf.rg _ m1).2 (by decide)
      have F : Frm K (fun b => b = p.ls n) H (upd H (p.ls n) (.lst (strL (at_ D n).rg ++ [.str o]))) := .mut hl trivial rfl (nt_lst _)
      have t6 : p.τ (p.ls n) = 6 := by
        rw [← m2]
        exact W.tls _ m1
      have nm : ∀ {b : Addr} {i : Nat}, p.τ b = i → i ≠ 6 → ¬ b = p.ls n := fun h n' z => n' (by rw [← h, z, t6])
      refine k _ (F.mono fun b z => by rw [z, ← m2]; exact W.sls _ m1) ⟨p, ?_⟩
      have hrec : ∀ c ∈ addReg D n o, ∃ d ∈ D, c.nm = d.nm ∧ (c = d ∨ c = { d with rg := d.rg ++ [o] }) := fun c hc => by
        obtain ⟨d, hd, rfl⟩ := addReg_mem hc
        refine ⟨d, hd, addReg_nm d n o, ?_⟩
        split
        · exact .inr rfl
        · exact .inl rfl
      exact { W with
        wd_ := F.ins W.wd_ (nm W.tw (by decide))
        t_ := F.ins W.t_ (nm W.tt (by decide))
        r_ := by
          show _ = some (HO.dK ((addReg D n o).map fun c => ((.inr c.nm : Key), V.ref (p.ent c.nm))))
          rw [addReg_map fun x => V.ref (p.ent x)]
          exact F.dK W.r_ (nm W.tr (by decide))
        n_ := by
          have := F.dK W.n_ (nm W.tn (by decide))
          rw [← addReg_map (fun x => V.int (p.num x)) D n o] at this
          exact this
        l_ := by
          show _ = some (HO.dK ((addReg D n o).map fun c => ((.inr c.nm : Key), V.ref (p.ls c.nm))))
          rw [addReg_map fun x => V.ref (p.ls x)]
          exact F.dK W.l_ (nm W.tl (by decide))
        ch_ := F.ins W.ch_ (nm W.th_ (by decide))
        kp_ := F.dK W.kp_ (nm W.tk (by decide))
        cl_ := F.lst W.cl_ (nm W.tc (by decide))
        e_ := fun c hc => by
          obtain ⟨d, hd, e, z⟩ := hrec c hc
          rw [e]
          have := (W.e_ d hd).frm F fun b z => nm z.1 (by decide)
          rcases z with z | z <;> rw [z] <;> exact this
        ll_ := fun c hc => by
          obtain ⟨d, hd, rfl⟩ := addReg_mem hc
          rw [addReg_nm]
          by_cases z : d.nm = n
          · have e := ueq hd z
            rw [if_pos ⟨z, by rw [e]; exact q⟩, z, upd_same]
            show some (HO.lst (strL (at_ D n).rg ++ [.str o])) = some (HO.lst (strL (d.rg ++ [o])))
            rw [strL_append, e]
            rfl
          · rw [if_neg fun y => z y.1, upd_ne]
            · exact W.ll_ d hd
            · intro y
              refine z ?_
              rw [← m2]
              exact W.li_ d hd _ m1 (by rw [m2]; exact y)
        li_ := fun c hc c' hc' => by
          obtain ⟨d, hd, e, _⟩ := hrec c hc
          obtain ⟨d', hd', e', _⟩ := hrec c' hc'
          rw [e, e']
          exact W.li_ d hd d' hd'
        tls := fun c hc => by
          obtain ⟨d, hd, e, _⟩ := hrec c hc
          rw [e]
          exact W.tls d hd
        sls := fun c hc => by
          obtain ⟨d, hd, e, _⟩ := hrec c hc
          rw [e]
          exact W.sls d hd
        fr := fun b hb => W.fr b fun z => hb (F.al b z) }
end
end ST
set_option maxHeartbeats 4000000
namespace ST
open PySem PySem.Spec PyProof.Rows L2
open LamX (CodeO Tabs TabB)
theorem Frm.unlock {K : PySem.W.Frag} {S : Addr → Prop} {H H1 : Hp} {p : Addr} {o0 : HO} (h : H p = some o0) (m : MK o0) {od : Obj} (e : Frm K S (upd H p (.frz od o0)) H1) (h1 : H1 p = some (.frz od o0)) : Frm K S H (upd H1 p o0) := by
  refine ⟨fun b u eb nu t => ?_, fun b hb => al_upd m.nt (e.al b (al_upd (nt_frz _ _) hb)), fun t => tabs_mut2 h1 (nt_frz _ _) (fun f z => by cases z) (e.tabs (tabs_mut h m t))⟩
  by_cases z : b = p
  · rw [z, upd_same, ← h, ← eb, z]
  · rw [upd_ne z]
    exact e.keep b u (by rw [upd_ne z]; exact eb) nu t
def dropF (D : List C) (n : Str) : List C := D.filter fun c => decide (c.nm ≠ n)
theorem dropF_nd {D : List C} {n : Str} (nd : (nms D).Nodup) : (nms (dropF D n)).Nodup := by
  unfold dropF
  exact List.Sublist.nodup (List.Sublist.map _ List.filter_sublist) nd
/-- without a class -/
def dropD (D : List C) (n : Str) : List C := (dropF D n).map fun c => { c with rg := c.rg.erase n }
theorem dropF_mem {D : List C} {n : Str} {c : C} : c ∈ dropF D n ↔ c ∈ D ∧ c.nm ≠ n := by
  unfold dropF
  rw [List.mem_filter, decide_eq_true_eq]
theorem dropD_mem {D : List C} {n : Str} {c : C} (h : c ∈ dropD D n) : ∃ d ∈ D, d.nm ≠ n ∧ c = { d with rg := d.rg.erase n } := by
  obtain ⟨d, hd, e⟩ := List.mem_map.mp h
  exact ⟨d, (dropF_mem.mp hd).1, (dropF_mem.mp hd).2, e.symm⟩
theorem dropK_map (f : Str → V) (D : List C) (n : Str) : dropK (D.map fun c => ((.inr c.nm : Key), f c.nm)) (.inr n) = (dropF D n).map fun c => ((.inr c.nm : Key), f c.nm) := by
  unfold dropK dropF
  rw [List.filter_map]
  refine congrArg (List.map _) (List.filter_congr fun c _ => ?_)
  show decide ((.inr c.nm : Key) ≠ .inr n) = decide (c.nm ≠ n)
  by_cases z : c.nm = n <;> simp [z]
theorem dropD_map (f : Str → V) (D : List C) (n : Str) : (dropD D n).map (fun c => ((.inr c.nm : Key), f c.nm)) = (dropF D n).map fun c => ((.inr c.nm : Key), f c.nm) := by
  unfold dropD
  rw [List.map_map]
  rfl
section
variable {P : Program} {w : World} {K : PySem.W.Frag} {mg : Str → Option Value} {base : Heap}
def spTRemC (K : PySem.W.Frag) : Sp := fun vs H Q _ => ∃ (wd : Addr) (S : Addr → Prop) (D : List C) (p : WPar) (n : Str), vs = [.ref p.t, .str n] ∧ WOk K S H wd D p ∧ Wf D ∧ n ∈ nms D ∧ ∀ H', Frm K S H H' → WldM K S H' wd (dropD D n) → Q .non H'
theorem ok_Table_remove_class (T : Tx K mg) : FnOk P w K mg base CX0 1 (He.fAd K d_Table_remove_class.at_) (fdOf K (He.fAd K d_Table_remove_class.at_)) ["self", "name"] (spTRemC K) := by
  refine (F_Table_remove_class T).ok sc_Table_remove_class (fun vs H Q E h => ?_) (fun cdv A outer s H vs Q E hr h => ?_)
  · obtain ⟨_, _, _, _, _, rfl, _⟩ := h
    rfl
  · obtain ⟨wd, S, D, p, n, rfl, W, wf, hn, k⟩ := h
    have hu := hu_of hr
    refine ⟨_, PSs.nox (pss_cons (ps_expr (pe_dpop1 (w_fld (K := K) rfl (pv 0)) (pv 1) ⟨rfl, rfl, rfl, rfl⟩))
    (pss_cons (ps_expr (pe_dpop1 (w_fld (K := K) rfl (pv 0)) (pv 1) ⟨rfl, rfl, rfl, rfl⟩))
    (pss_cons (ps_expr (pe_dpop1 (w_fld (K := K) rfl (pv 0)) (pv 1) ⟨rfl, rfl, rfl, rfl⟩))
    (pss_one (ps_lock (ps_for PassesOwn.never rfl (pi_values (w_fld (K := K) rfl (pv 0))) (pg_name (i := 2) (sc_Table_remove_class).nd rfl (Or.inl rfl)) (pss_one (ps_if (pt_cmpR (o_in (K := K) rfl) (pv 1) (pv 2) (by rfl)) (pss_one (ps_expr (w_remove (K := K) rfl (pv 2) (pv 1)))) pss_nil)))))))), ?_⟩
    have ne : ∀ {a b : Addr} {i j : Nat}, p.τ a = i → p.τ b = j → i ≠ j → a ≠ b := fun h h' n => ne_tag h h' n
    -- three pops
    refine ⟨_, rfl, p.t, _, p.dxt, _, _, rfl, W.t_, cl_Table T, na_Table_records T, rfl, p.dr, rfl, .inl ⟨_, .of W.r_⟩, _, rfl, _, .inr n, .ref (p.ent n), W.r_, rfl, by rw [valV_map fun n => V.ref (p.ent n), if_pos hn], ?_⟩
    have f1 : Frm K (fun b => b = p.dr) H (upd H p.dr (.dK (dropK (recKV p.ent D) (.inr n)))) := .mut W.r_ trivial rfl (nt_dK _)
    have r1 : (upd H p.dr (.dK (dropK (recKV p.ent D) (.inr n)))) p.dr = some (.dK (dropK (recKV p.ent D) (.inr n))) := upd_same
    generalize upd H p.dr (.dK (dropK (recKV p.ent D) (.inr n))) = H1 at f1 r1
    have t1 := f1.ins W.t_ (ne W.tt W.tr (by decide))
    have n1 := f1.dK W.n_ (ne W.tn W.tr (by decide))
    refine ⟨_, rfl, p.t, _, p.dxt, _, _, rfl, t1, cl_Table T, na_Table_numbers T, rfl, p.dn, rfl, .inl ⟨_, .of n1⟩, _, rfl, _, .inr n, .int (p.num n), n1, rfl, by rw [valV_map fun n => V.int (p.num n), if_pos hn], ?_⟩
    have f2 : Frm K (fun b => b = p.dn) H1 (upd H1 p.dn (.dK (dropK (D.map fun c => ((.inr c.nm : Key), V.int (p.num c.nm))) (.inr n)))) := .mut n1 trivial rfl (nt_dK _)
    have n2 : (upd H1 p.dn (.dK (dropK (D.map fun c => ((.inr c.nm : Key), V.int (p.num c.nm))) (.inr n)))) p.dn = some (.dK (dropK (D.map fun c => ((.inr c.nm : Key), V.int (p.num c.nm))) (.inr n))) := upd_same
    generalize upd H1 p.dn (.dK (dropK (D.map fun c => ((.inr c.nm : Key), V.int (p.num c.nm))) (.inr n))) = H2 at f2 n2
    have t2 := f2.ins t1 (ne W.tt W.tn (by decide))
    have l2 := f2.dK (f1.dK W.l_ (ne W.tl W.tr (by decide))) (ne W.tl W.tn (by decide))
    refine ⟨_, rfl, p.t, _, p.dxt, _, _, rfl, t2, cl_Table T, na_Table_lists T, rfl, p.dl, rfl, .inl ⟨_, .of l2⟩, _, rfl, _, .inr n, .ref (p.ls n), l2, rfl, by rw [valV_map fun n => V.ref (p.ls n), if_pos hn], ?_⟩
    rw [dropK_map fun n => V.ref (p.ls n)]
    have f3 : Frm K (fun b => b = p.dl) H2 (upd H2 p.dl (.dK (lsKV p.ls (dropF D n)))) := .mut l2 trivial rfl (nt_dK _)
    have l3 : (upd H2 p.dl (.dK (lsKV p.ls (dropF D n)))) p.dl = some (.dK (lsKV p.ls (dropF D n))) := upd_same
    generalize upd H2 p.dl (.dK (lsKV p.ls (dropF D n))) = H3 at f3 l3
    have f13 : Frm K (fun b => b = p.dr ∨ b = p.dn ∨ b = p.dl) H H3 := (((f1.mono fun b z => .inl z).trans (f2.mono fun b z => .inr (.inl z))).trans (f3.mono fun b z => .inr (.inr z)))
    have t3 := f3.ins t2 (ne W.tt W.tl (by decide))
    refine ⟨p.dl, _, l3, trivial, fun od => ?_⟩
    have lk : Frm K (fun b => b = p.dl) H3 (upd H3 p.dl (.frz od (.dK (lsKV p.ls (dropF D n))))) := .lock l3 trivial
    have hL : (upd H3 p.dl (.frz od (.dK (lsKV p.ls (dropF D n))))) p.dl = some (.frz od (.dK (lsKV p.ls (dropF D n)))) := upd_same
    have t4 := lk.ins t3 (ne W.tt W.tl (by decide))
    have ll4 : ∀ c ∈ dropF D n, (upd H3 p.dl (.frz od (.dK (lsKV p.ls (dropF D n))))) (p.ls c.nm) = some (.lst (strL c.rg)) := fun c hc => by
      have hc := (dropF_mem.mp hc).1
      exact lk.lst (f13.lst (W.ll_ c hc) (fun z => z.elim (ne (W.tls c hc) W.tr (by decide)) fun z => z.elim (ne (W.tls c hc) W.tn (by decide)) (ne (W.tls c hc) W.tl (by decide)))) (ne (W.tls c hc) W.tl (by decide))
    refine ⟨_, rfl, p.t, _, p.dxt, _, _, rfl, t4, cl_Table T, na_Table_lists T, rfl, p.dl, od, _, rfl, hL, ?_⟩
    refine for_it walk_values (fun i σ H' => ∃ x : Option V, σ = [some (.ref p.t), some (.str n), x] ∧ Frm K (fun b => ∃ c ∈ dropF D n, b = p.ls c.nm) (upd H3 p.dl (.frz od (.dK (lsKV p.ls (dropF D n))))) H' ∧ ∀ j c, (dropF D n)[j]? = some c → H' (p.ls c.nm) = some (.lst (strL (if j < i then c.rg.erase n else c.rg))))
      ⟨_, rfl, .refl, fun j c hc => by rw [if_neg (Nat.not_lt_zero _)]; exact ll4 c (List.mem_of_getElem? hc)⟩ (fun i σ H' _ ⟨_, _, f, _⟩ => f.keep _ _ hL (nt_frz _ _) fun ⟨c, hc, z⟩ => ((ne W.tl (W.tls c (dropF_mem.mp hc).1) (by decide)) z).elim) ?_ ?_
    · rintro i x σ H4 H4' hi ⟨x0, rfl, f4, hj⟩ ⟨rfl, kk, hx⟩
      have hx : ((dropF D n).map fun c => ((.inr c.nm : Key), V.ref (p.ls c.nm)))[i]? = some (kk, x) := hx
      rw [List.getElem?_map] at hx
      cases hc : (dropF D n)[i]? with
      | none => rw [hc] at hx; cases hx
      | some c =>
        rw [hc] at hx
        cases hx
        have hcm := List.mem_of_getElem? hc
        have hl := hj i c hc
        rw [if_neg (Nat.lt_irrefl _)] at hl
        refine ⟨_, rfl, _, rfl, p.ls c.nm, strL c.rg, rfl, .inl (.of hl), rfl, flat_strL _, _, rfl, ?_⟩
        show if (inV (.str n) (strL c.rg)) = true then _ else _
        rw [inV_str]
        have same : ∀ {j : Nat} {d : C}, (dropF D n)[j]? = some d → p.ls d.nm = p.ls c.nm → j = i := fun {j d} hd e => by
          have e1 := W.li_ d (dropF_mem.mp (List.mem_of_getElem? hd)).1 c (dropF_mem.mp hcm).1 e
          have nd : (nms (dropF D n)).Nodup := dropF_nd wf.nd
          refine nodup_ix nd (x := c.nm) ?_ ?_
          · rw [List.getElem?_map, hd, ← e1]; rfl
          · rw [List.getElem?_map, hc]; rfl
        by_cases q : n ∈ c.rg
        · rw [decide_eq_true q]
          refine iteT ⟨_, rfl, .inl ⟨rfl, _, .of hl⟩, _, rfl, p.ls c.nm, _, n, rfl, rfl, hl, q, ?_⟩
          refine ⟨_, rfl, f4.trans (.mut hl trivial ⟨c, hcm, rfl⟩ (nt_lst _)), fun j d hd => ?_⟩
          by_cases z : p.ls d.nm = p.ls c.nm
          · have ji := same hd z
            subst ji
            rw [hc] at hd
            cases hd
            rw [if_pos (Nat.lt_succ_self _), upd_same]
          · have nji : j ≠ i := fun e => by
              subst e
              rw [hc] at hd
              cases hd
              exact z rfl
            rw [upd_ne z, hj j d hd]
            have : (j < i + 1) ↔ (j < i) := by omega
            simp only [this]
        · rw [decide_eq_false q]
          refine iteF ⟨_, rfl, f4, fun j d hd => ?_⟩
          rw [hj j d hd]
          by_cases ji : j = i
          · subst ji
            rw [hc] at hd
            cases hd
            rw [if_neg (Nat.lt_irrefl _), if_pos (Nat.lt_succ_self _), List.erase_of_not_mem q]
          · have : (j < i + 1) ↔ (j < i) := by omega
            simp only [this]
    · rintro σ H4 ⟨x0, rfl, f4, hj⟩
      have hL4 : H4 p.dl = some (.frz od (.dK (lsKV p.ls (dropF D n)))) := f4.keep _ _ hL (nt_frz _ _) fun ⟨c, hc, z⟩ => ((ne W.tl (W.tls c (dropF_mem.mp hc).1) (by decide)) z).elim
      refine ⟨hL4, ?_⟩
      have F2 := f4.unlock l3 trivial hL4
      have F : Frm K (fun b => b = p.dr ∨ b = p.dn ∨ b = p.dl ∨ ∃ c ∈ dropF D n, b = p.ls c.nm) H (upd H4 p.dl (.dK (lsKV p.ls (dropF D n)))) := (f13.mono fun b z => z.elim .inl fun z => z.elim (fun z => .inr (.inl z)) fun z => .inr (.inr (.inl z))).trans (F2.mono fun b z => .inr (.inr (.inr z)))
      have nls : ∀ {b : Addr} {i : Nat}, p.τ b = i → i ≠ 6 → ¬ ∃ c ∈ dropF D n, b = p.ls c.nm := fun h n' ⟨c, hc, z⟩ => n' (by rw [← h, z]; exact W.tls c (dropF_mem.mp hc).1)
      have nm : ∀ {b : Addr} {i : Nat}, p.τ b = i → i ∉ [1, 2, 3, 6] → ¬ (b = p.dr ∨ b = p.dn ∨ b = p.dl ∨ ∃ c ∈ dropF D n, b = p.ls c.nm) := fun {b i} h n' z => by
        have h2 := W.tr
        have h3 := W.tn
        have h4 := W.tl
        rcases z with z | z | z | ⟨c, hc, z⟩ <;> rw [z] at h <;> refine n' ?_ <;> rw [← h]
        · rw [h2]; decide
        · rw [h3]; decide
        · rw [h4]; decide
        · rw [W.tls c (dropF_mem.mp hc).1]; decide
      refine k _ (F.mono fun b z => ?_) ⟨p, ?_⟩
      · rcases z with z | z | z | ⟨c, hc, z⟩ <;> rw [z]
        · exact W.sr
        · exact W.sn
        · exact W.sl
        · exact W.sls c (dropF_mem.mp hc).1
      have l5 : (upd H4 p.dl (.dK (lsKV p.ls (dropF D n)))) p.dl = some (.dK (lsKV p.ls (dropF D n))) := upd_same
      exact { W with
        wd_ := F.ins W.wd_ (nm W.tw (by decide))
        t_ := F.ins W.t_ (nm W.tt (by decide))
        r_ := by
          show _ = some (HO.dK ((dropD D n).map fun c => ((.inr c.nm : Key), V.ref (p.ent c.nm))))
          rw [dropD_map fun x => V.ref (p.ent x), ← dropK_map fun x => V.ref (p.ent x)]
          exact F2.dK (f3.dK (f2.dK r1 (ne W.tr W.tn (by decide))) (ne W.tr W.tl (by decide))) (nls W.tr (by decide))
        n_ := by
          rw [dropD_map fun x => V.int (p.num x), ← dropK_map fun x => V.int (p.num x)]
          exact F2.dK (f3.dK n2 (ne W.tn W.tl (by decide))) (nls W.tn (by decide))
        l_ := by
          show _ = some (HO.dK ((dropD D n).map fun c => ((.inr c.nm : Key), V.ref (p.ls c.nm))))
          rw [dropD_map fun x => V.ref (p.ls x)]
          exact l5
        ch_ := F.ins W.ch_ (nm W.th_ (by decide))
        kp_ := F.dK W.kp_ (nm W.tk (by decide))
        cl_ := F.lst W.cl_ (nm W.tc (by decide))
        e_ := fun c hc => by
          obtain ⟨d, hd, hne, rfl⟩ := dropD_mem hc
          exact (W.e_ d hd).frm F fun b z => nm z.1 (by decide)
        ll_ := fun c hc => by
          obtain ⟨d, hd, rfl⟩ := List.mem_map.mp hc
          obtain ⟨j, hjl, rfl⟩ := List.getElem_of_mem hd
          have := hj j _ (List.getElem?_eq_getElem hjl)
          rw [if_pos (by rw [List.length_map]; exact hjl)] at this
          rw [upd_ne (ne (W.tls _ (dropF_mem.mp hd).1) W.tl (by decide))]
          exact this
        li_ := fun c hc c' hc' => by
          obtain ⟨d, hd, _, rfl⟩ := dropD_mem hc
          obtain ⟨d', hd', _, rfl⟩ := dropD_mem hc'
          exact W.li_ d hd d' hd'
        tls := fun c hc => by
          obtain ⟨d, hd, _, rfl⟩ := dropD_mem hc
          exact W.tls d hd
        sls := fun c hc => by
          obtain ⟨d, hd, _, rfl⟩ := dropD_mem hc
          exact W.sls d hd
        fr := fun b hb => W.fr b fun z => hb (F.al b z) }
end
end ST
set_option maxHeartbeats 4000000
namespace ST
open PySem PySem.Spec PyProof.Rows L2
open LamX (CodeO Tabs TabB)
section
variable {P : Program} {w : World} {K : PySem.W.Frag} {mg : Str → Option Value} {base : Heap}
theorem dps_strs {K : PySem.W.Frag} {H : Hp} : ∀ (xs : List Str), DpAll K H (strL xs) (xs.map PyData.str)
  | [] => .nil
  | x :: r => .cons (.str x) (dps_strs r)
theorem dp_strs {K : PySem.W.Frag} {H : Hp} {p : Addr} {xs : List Str} (h : H p = some (.lst (strL xs))) : Dp K H (.ref p) (.list (xs.map PyData.str)) := .lst (.of h) (dps_strs xs)
abbrev dStrs : PySem.W.Datum (List Str) := inferInstance
def spWDrop (K : PySem.W.Frag) : Sp := fun vs H Q _ => ∃ (wd : Addr) (S : Addr → Prop) (D : List C) (n : Str), vs = [.ref wd, .str n] ∧ WldM K S H wd D ∧ Wf D ∧ n ∈ nms D ∧ subs D n = [] ∧ ∀ H', Frm K S H H' → WldM K S H' wd (dropD D n) → Q .non H'
theorem ok_World_drop (T : Tx K mg) : FnOk P w K mg base CX0 4 (He.fAd K d_World_drop.at_) (fdOf K (He.fAd K d_World_drop.at_)) ["self", "cls"] (spWDrop K) := by
  refine (F_World_drop T).ok sc_World_drop (fun vs H Q E h => ?_) (fun cdv A outer s H vs Q E hr h => ?_)
  · obtain ⟨_, _, _, _, rfl, _⟩ := h
    rfl
  · obtain ⟨wd, S, D, n, rfl, ⟨p, W⟩, wf, hn, hsub, k⟩ := h
    have hu := hu_of hr
    refine ⟨_, PSs.nox (pss_cons (ps_expr (pe_methR (pl := _) (pv 0) (cl_World T) (m_World_look T) (call_World_look T) (hr.mono (by decide)) pass0 (pa_cons (pv 1) pa_nil)))
    (pss_cons (ps_if (pt_cmpR (o_neT (K := K) rfl hr.units) (pe_meth (w_fld (K := K) rfl (pv 0)) (cl_Table T) (m_Table_below T) (ok_Table_below T) (hr.mono (by decide)) (b_Table_below T) .nil pass0 (pa_cons (pv 1) pa_nil)) (pe_lst pa_nil) (nomark _)) (pss_one ps_never) pss_nil)
    (pss_cons (ps_expr (pe_meth (w_fld (K := K) rfl (pv 0)) (cl_Table T) (m_Table_remove_class T) (ok_Table_remove_class T) (hr.mono (by decide)) (b_Table_remove_class T) .nil pass0 (pa_cons (pv 1) pa_nil)))
    (pss_cons (ps_for PassesOwn.never rfl (i_list (K := K) rfl (w_fld (K := K) rfl (pv 0))) (pg_name (i := 2) (sc_World_drop).nd rfl (Or.inl rfl)) (pss_one ps_never))
    (pss_one (ps_expr (pe_meth0 (pv 0) (cl_World T) (m_World_refresh T) (ok_World_refresh T) (hr.mono (by decide)) (b_World_refresh T) .nil pass0))))))), ?_⟩
    refine ⟨_, rfl, wd, p.dx, _, rfl, W.wd_, rfl, _, rfl, [.ref wd], [.str n], rfl, rfl, Nat.le_of_ble_eq_true rfl, fun np hnp => ?_⟩
    have e0 : Ext K H (upd H np (.tup [.str n])) := .new hnp (nt_tup _)
    refine ⟨wd, np, D, [n], rfl, (WldM.r ⟨p, W.ext e0⟩), upd_same, fun m hm => by rw [List.mem_singleton.mp hm]; exact hn, fun H1 e1 => ?_⟩
    have e01 := e0.trans e1
    have W1 := W.ext e01
    refine ⟨_, rfl, wd, _, p.dx, _, _, rfl, W1.wd_, cl_World T, na_World_table T, rfl, p.t, p.dxt, _, rfl, W1.t_, rfl, _, rfl, p.t, D, n, rfl, W1.tab, wf, fun q H2 e2 f2 hq => ?_⟩
    rw [hsub] at hq
    have e02 := e01.trans e2
    refine ⟨Nat.zero_le _, fun r hr' => ?_⟩
    have e3 : Ext K H2 (upd H2 r (.lst [])) := .new hr' (nt_lst _)
    refine ⟨List Str, inferInstance, inferInstance, [], [], dp_strs (e3.at hq (nt_lst _)), dp_strs upd_same, by decide, _, rfl, ?_⟩
    refine iteF ?_
    have e03 := e02.trans e3
    have W3 := W.ext e03
    refine ⟨_, rfl, wd, _, p.dx, _, _, rfl, W3.wd_, cl_World T, na_World_table T, rfl, p.t, p.dxt, _, rfl, W3.t_, rfl, _, rfl, wd, S, D, p, n, rfl, W3, wf, hn, fun H4 f4 ⟨p4, W4⟩ => ?_⟩
    refine ⟨_, rfl, wd, _, p4.dx, _, _, rfl, W4.wd_, cl_World T, na_World_choice_lists T, rfl, p4.cl, rfl, ⟨_, .of W4.cl_⟩, ?_⟩
    refine for_it walk_list (fun i σ H' => σ = [some (.ref wd), some (.str n), none] ∧ H' = H4) ⟨rfl, rfl⟩ (fun i σ H' _ ⟨_, h⟩ => by rw [h]; exact .inl (.of W4.cl_)) (fun i x σ H1 H1' hi _ _ => absurd hi (Nat.not_lt_zero _)) ?_
    rintro σ H5 ⟨rfl, rfl⟩
    refine ⟨_, rfl, wd, p4.dx, _, rfl, W4.wd_, rfl, wd, S, _, rfl, ⟨p4, W4⟩, fun H6 f6 W6 => ?_⟩
    exact k H6 ((e03.of.trans f4).trans f6) W6
end
end ST
set_option maxHeartbeats 4000000
namespace ST
open PySem PySem.Spec PyProof.Rows L2
open LamX (CodeO Tabs TabB)
inductive Rch (D : List C) (a : Str) : Str → Prop where
  | refl : Rch D a a
  | step {b c : Str} : Rch D a b → c ∈ nxt D b → Rch D a c
/-- roads: lists of texts, each told by all but its last place, and its last place -/
def RdR (H : Hp) (rs : List Addr) (ps : List (List Str × Str)) : Prop := Paired (fun (r : Addr) (q : List Str × Str) => H r = some (.lst (strL (q.1 ++ [q.2])))) rs ps
theorem RdR.dp {K : PySem.W.Frag} {H : Hp} {rs : List Addr} {ps : List (List Str × Str)} (h : RdR H rs ps) : DpAll K H (rs.map V.ref) (ps.map fun q => .list ((q.1 ++ [q.2]).map PyData.str)) := by
  induction h with
  | nil => exact .nil
  | cons h _ ih => exact .cons (dp_strs h) ih
theorem RdR.frm {K : PySem.W.Frag} {S : Addr → Prop} {H H' : Hp} (f : Frm K S H H') {rs : List Addr} {ps : List (List Str × Str)} (h : RdR H rs ps) (n : ∀ r ∈ rs, ¬ S r) : RdR H' rs ps := by
  induction h with
  | nil => exact .nil
  | cons h _ ih => exact .cons (f.lst h (n _ (List.mem_cons_self ..))) (ih fun r hr => n r (List.mem_cons_of_mem _ hr))
section
variable {P : Program} {w : World} {K : PySem.W.Frag} {mg : Str → Option Value} {base : Heap}
def spShort (K : PySem.W.Frag) : Sp := fun vs H Q _ => ∃ (t : Addr) (D : List C) (n o : Str), vs = [.ref t, .str n, .str o] ∧ TabR K H t D ∧ Wf D ∧ n ∈ nms D ∧ n ≠ o ∧ ¬ Rch D n o ∧ RetV K .non H Q
theorem ok_Table_shortest_road (T : Tx K mg) : FnOk P w K mg base CX0 4 (He.fAd K d_Table_shortest_road.at_) (fdOf K (He.fAd K d_Table_shortest_road.at_)) ["self", "name", "other"] (spShort K) := by
  refine (F_Table_shortest_road T).ok sc_Table_shortest_road (fun vs H Q E h => ?_) (fun cdv A outer s H vs Q E hr h => ?_)
  · obtain ⟨_, _, _, _, rfl, _⟩ := h
    rfl
  · obtain ⟨t, D, n, o, rfl, hT, wf, hn, hno, hrch, k⟩ := h
    have hu := hu_of hr
    refine ⟨_, PSs.nox (pss_cons (ps_if (pt_cmpR op_eq (pv 1) (pv 2) (nomark _)) (pss_one (ps_ret (pe_lst (pa_cons (pv 1) pa_nil)))) pss_nil)
    (pss_cons (ps_par (i := 3) (j := 4) rfl (sc_Table_shortest_road).nd rfl rfl (by decide) rfl rfl (pa_cons (pe_lst (pa_cons (pe_lst (pa_cons (pv 1) pa_nil)) pa_nil)) (pa_cons (pe_disp (pps_cons (pv 1) pe_bl pps_nil) (by rfl) (by rfl) (fun z => by cases z) (by decide)) pa_nil)) rfl)
    (pss_cons (ps_while PassesOwn.never (pt_cmpR (o_neT (K := K) rfl hr.units) (pv 3) (pe_lst pa_nil) (nomark _)) (pss_cons (ps_setLc2 (i := 5) (own := [("road", 6), ("further", 7)]) (vs1 := [7]) (g := gName 6) (tt := tYes) (g1 := gName 7) (tt1 := tYes) rfl (sc_Table_shortest_road).nd rfl rfl (sw_true rfl rfl rfl (by decide +kernel)) (i_list (K := K) rfl (pv 3)) (blkOk_by (by kernel_rfl)) (by decide) (fun _ _ _ _ _ => (pg_name (i := 6) (sc_Table_shortest_road).nd rfl (by first | exact Or.inl rfl | exact Or.inr rfl))) (fun _ _ _ _ _ => pts_nil) (fun _ _ _ _ _ => (i_list (K := K) rfl (pe_meth (pv 0) (cl_Table T) (m_Table_next_of T) (ok_Table_next_of T) (hr.mono (by decide)) (b_Table_next_of T) .nil pass0 (pa_cons (pe_ix (x_l (K := K) rfl) (pv 6) (pe_un un_neg pe_int) (fun _ _ => rfl)) pa_nil)))) (fun _ _ _ _ _ => (pg_name (i := 7) (sc_Table_shortest_road).nd rfl (by first | exact Or.inl rfl | exact Or.inr rfl))) (fun _ _ _ _ _ => pts_nil) (fun _ _ _ _ _ => (pe_lst (a_star (K := K) rfl (pv 6) (pa_cons (pv 7) pa_nil)))))
    (pss_cons (ps_set (i := 3) (sc_Table_shortest_road).nd rfl (Or.inl rfl) (pe_lst pa_nil))
    (pss_one (ps_for PassesOwn.never rfl (i_list (K := K) rfl (pv 5)) (pg_name (i := 6) (sc_Table_shortest_road).nd rfl (Or.inl rfl)) (pss_cons (ps_if (pt_cmpR op_eq (pe_ix (x_l (K := K) rfl) (pv 6) (pe_un un_neg pe_int) (fun _ _ => rfl)) (pv 2) (nomark _)) (pss_one (ps_ret (pv 6))) pss_nil)
    (pss_one (ps_if (pt_cmp (pc_dnotin hu (pe_ix (x_l (K := K) rfl) (pv 6) (pe_un un_neg pe_int) (fun _ _ => rfl)) (pv 4))) (pss_cons (ps_dput hu (pv 4) (pe_ix (x_l (K := K) rfl) (pv 6) (pe_un un_neg pe_int) (fun _ _ => rfl)) pe_bl rfl)
    (pss_one (ps_expr (w_append (K := K) rfl (pv 3) (pv 6))))) pss_nil))))))))
    (pss_one (ps_ret pe_non))))), ?_⟩
    refine ⟨_, rfl, _, rfl, rfl, _, rfl, ?_⟩
    refine ite2 (fun z => (hno (by simpa using z)).elim) (fun _ => ?_)
    refine ⟨_, rfl, Nat.le_of_ble_eq_true rfl, fun r0 hr0 => ⟨Nat.le_of_ble_eq_true rfl, fun rd0 hrd0 => ?_⟩⟩
    intro sd hsd
    refine ⟨_, rfl, upd_same, [(.inr n, .bl true)], rfl, Nat.le_of_ble_eq_true rfl, ?_⟩
    refine ⟨_, _, rfl, ?_⟩
    have nr : r0 ≠ rd0 := ne_of_none upd_same hrd0
    have nds : rd0 ≠ sd := ne_of_none upd_same hsd
    have nrs : r0 ≠ sd := ne_of_none (by rw [upd_ne nr]; exact upd_same) hsd
    have e00 : Ext K H (upd (upd H r0 (.lst [.str n])) rd0 (.lst [.ref r0])) := Frm.trans (.new hr0 (nt_lst _)) (.new hrd0 (nt_lst _))
    have fsd : ¬ Al H sd := fresh_of e00 hsd
    have e0 : Ext K H (upd (upd (upd (upd H r0 (.lst [.str n])) rd0 (.lst [.ref r0])) sd (.dK [])) sd (.dK (mergeK [] [(.inr n, .bl true)]))) :=
      Frm.mutNew (o0 := .dK []) (e00.trans (.new hsd (nt_dK _))) fsd upd_same trivial (nt_dK _)
    refine ⟨fun m σ H' => ∃ (rs : List Addr) (rd : Addr) (ps : List (List Str × Str)) (kvs : List (Key × V)) (fs : List Str) (x5 x6 : Option V), σ = [some (.ref t), some (.str n), some (.str o), some (.ref rd), some (.ref sd), x5, x6, none] ∧ Ext K H H' ∧ H' rd = some (.lst (rs.map V.ref)) ∧ RdR H' rs ps ∧
      (∀ q ∈ ps, q.2 ∈ nms D ∧ Rch D n q.2 ∧ q.1.length ≤ 50) ∧ ps.length ≤ fs.length ∧ H' sd = some (.dK kvs) ∧ kvs.map (·.1) = fs.map (fun n => (.inr n : Key)) ∧ fs.Nodup ∧ (∀ x ∈ fs, x ∈ nms D) ∧ (∀ q ∈ ps, q.1.length + 1 ≤ fs.length) ∧ m = (if ps = [] then 0 else 51 - fs.length),
      ⟨_, [r0], rd0, [([], n)], _, [n], none, none, rfl, e0, ?_, .cons ?_ .nil, ?_, Nat.le_refl _, upd_same, rfl, by simp, ?_, ?_, rfl⟩, ?_⟩
    · rw [upd_ne nds, upd_ne nds]
      exact upd_same
    · rw [upd_ne nrs, upd_ne nrs, upd_ne nr]
      exact upd_same
    · intro q hq
      rw [List.mem_singleton.mp hq]
      exact ⟨hn, .refl, Nat.zero_le _⟩
    · intro x hx
      rw [List.mem_singleton.mp hx]
      exact hn
    · intro q hq
      rw [List.mem_singleton.mp hq]
      exact Nat.le_refl _
    rintro m σ H1 ⟨rs, rd, ps, kvs, fs, x5, x6, rfl, e1, hrd, hR, hps, hpl, hsd1, hk, nd, hsub, hql, rfl⟩
    have lfs : fs.length ≤ 50 := Nat.le_trans (nodup_len nd hsub) (nms_len wf)
    refine ⟨_, rfl, Nat.zero_le _, fun em hem => ?_⟩
    have ee : Ext K H1 (upd H1 em (.lst [])) := .new hem (nt_lst _)
    refine ⟨List (List Str), inferInstance, inferInstance, ps.map (fun q => q.1 ++ [q.2]), [], ?_, dp_strs (xs := []) upd_same, by decide, _, rfl, ?_⟩
    · have := ext_dps ee (hR.dp (K := K))
      refine .lst (.of (ee.at hrd (nt_lst _))) ?_
      rw [List.map_map]
      exact this
    have e2 := e1.trans ee
    have hrd2 := ee.at hrd (nt_lst _)
    have hR2 : RdR (upd H1 em (.lst [])) rs ps := L2.Paired.mapP hR fun _ _ h => ee.at h (nt_lst _)
    have hsd2 := ee.at hsd1 (nt_dK _)
    generalize upd H1 em (.lst []) = H2 at ee e2 hrd2 hR2 hsd2
    clear ee hrd hR hsd1 e1 hem
    refine ite2 (fun hne => ?_) (fun hne => ?_)
    · have hps0 : ps ≠ [] := fun z => by
        rw [z] at hne
        cases hne
      refine ⟨_, fun σ' H' z => z, ?_⟩
      refine ⟨_, rfl, rd, rfl, ⟨_, .of hrd2⟩, ?_⟩
      refine lc2w (K := K) walk_list (fun D' H' y (q : List Str × Str) => ∃ r : Addr, y = .ref r ∧ H' r = some (.lst (strL (q.1 ++ [q.2]))) ∧ r ≠ D') (fun i => ((ps[i]?).map fun q => (nxt D q.2).map fun f => (q.1 ++ [q.2], f)).getD []) (fun H' e => ext_l e (.of hrd2)) (by rw [List.length_map, paired_len hR2]; omega)
        (fun i hi => ?_) (fun i x' H3 H3' DD l acc hi e6 y fD hk' r hlen Nx hNx => ?_) (fun DD acc H3 fD e6 hk' r => ?_)
      · cases hq : ps[i]? with
        | none => exact Nat.zero_le _
        | some q =>
          show ((nxt D q.2).map _).length ≤ 100
          rw [List.length_map]
          exact nxt_len wf (hps q (List.mem_of_getElem? hq)).1
      · obtain ⟨rfl, hx⟩ := y
        rw [List.getElem?_map] at hx
        cases hr' : rs[i]? with
        | none => rw [hr'] at hx; cases hx
        | some a =>
          rw [hr'] at hx
          cases hx
          obtain ⟨q, hq, haa⟩ := paired_get hR2 hr'
          obtain ⟨q1, q2, q3⟩ := hps q (List.mem_of_getElem? hq)
          have e7 := e2.trans e6
          have ha3 := e6.at haa (nt_lst _)
          have naD : a ≠ DD := ne_fresh (al_of haa (nt_lst _)) fD
          obtain ⟨dx, dr, dn, dl, mm, ls, h1, _⟩ := id (hT.ext e7)
          refine ⟨rfl, _, rfl, t, dx, _, rfl, h1, rfl, _, rfl, 1, rfl, a, strL (q.1 ++ [q.2]), -1, .str q.2, rfl, rfl, .inl (.of ha3), ?_, t, D, q.2, rfl, hT.ext e7, wf, q1, fun p H4 e8 f8 hp => ?_⟩
          · rw [strL_append]
            exact atI_last _ _
          refine ⟨p, rfl, ⟨_, .of hp⟩, ?_⟩
          have npD : p ≠ DD := (ne_fresh (al_of hk' (nt_lst _)) f8).symm
          refine lcw_from (K := K) walk_list (fun D' H' y (q : List Str × Str) => ∃ r : Addr, y = .ref r ∧ H' r = some (.lst (strL (q.1 ++ [q.2]))) ∧ r ≠ D') (fun j => ((nxt D q.2)[j]?).bind fun f => some (q.1 ++ [q.2], f)) (fun _ _ _ _ _ a ⟨r, h1, h2, h3⟩ => ⟨r, h1, a.lst h2 h3, h3⟩) fD (e6.trans e8) (e8.at hk' (nt_lst _))
            (L2.Paired.mapP r fun _ _ ⟨r, h1, h2, h3⟩ => ⟨r, h1, e8.at h2 (nt_lst _), h3⟩) (fun H' f => .inl (.of (f.lst hp npD))) (by rw [List.length_map]; have := nxt_len wf q1; omega) (fun j x H5 H5' hj f y aD N0 N1 g0 g1 => ?_) (fun acc' H5 e9 f9 h9 p9 => hNx acc' H5 e9 h9 ?_)
          · obtain ⟨rfl, hx⟩ := y
            obtain ⟨fo, ho, rfl, om⟩ := strL_get hx
            rw [ho] at g1
            have ha5 := f.lst (e8.at ha3 (nt_lst _)) naD
            refine ⟨rfl, _, rfl, a, _, rfl, .inr (.inl (.of ha5)), _, rfl, ?_, fun nw hnw => g1 _ rfl _ _ (.new hnw (nt_lst _)) ⟨nw, rfl, ?_, (ne_fresh aD (fresh_none hnw)).symm⟩⟩
            · show (strL (q.1 ++ [q.2]) ++ [V.str fo]).length ≤ sizeLine
              rw [List.length_append, strL_length, List.length_append]
              exact Nat.le_trans (show q.1.length + 1 + 1 ≤ 100 by omega) (by decide)
            · rw [upd_same, strL_append (q.1 ++ [q.2])]
              rfl
          · rw [hq]
            rw [List.length_map, range_bind, List.filterMap_eq_map'] at p9
            exact p9
      · -- the longer ones stand at DD
        rw [List.length_map, paired_len hR2, flat_range ps fun q => (nxt D q.2).map fun f => (q.1 ++ [q.2], f)] at r
        have key : ∀ {acc : List V} {qs : List (List Str × Str)}, Paired (fun (y : V) (q : List Str × Str) => ∃ r : Addr, y = .ref r ∧ H3 r = some (.lst (strL (q.1 ++ [q.2]))) ∧ r ≠ DD) acc qs → ∃ rs : List Addr, acc = rs.map V.ref ∧ RdR H3 rs qs := by
          intro acc qs z
          induction z with
          | nil => exact ⟨[], rfl, .nil⟩
          | cons h _ ih =>
            obtain ⟨r, rfl, h2, _⟩ := h
            obtain ⟨rs, rfl, h4⟩ := ih
            exact ⟨r :: rs, rfl, .cons h2 h4⟩
        obtain ⟨rs2, rfl, hR3⟩ := key r
        clear r key
        have hq3 : ∀ q ∈ (ps.flatMap fun q => (nxt D q.2).map fun f => (q.1 ++ [q.2], f)), q.2 ∈ nms D ∧ Rch D n q.2 ∧ q.1.length ≤ fs.length := fun q hq => by
          obtain ⟨q0, h0, hq⟩ := List.mem_flatMap.mp hq
          obtain ⟨f, hf, rfl⟩ := List.mem_map.mp hq
          obtain ⟨a1, a2, a3⟩ := hps q0 h0
          refine ⟨nxt_mem wf a1 hf, .step a2 hf, ?_⟩
          rw [List.length_append]
          exact hql q0 h0
        generalize (ps.flatMap fun q => (nxt D q.2).map fun f => (q.1 ++ [q.2], f)) = lg at hR3 hq3
        refine ⟨Nat.zero_le _, fun rd2 hrd2' => ?_⟩
        have hsd3 := e6.at hsd2 (nt_dK _)
        have nsd : sd ≠ rd2 := ne_of_none hsd3 hrd2'
        have nDD : DD ≠ rd2 := ne_of_none hk' hrd2'
        have e9 := (e2.trans e6)
        have frd2 : ¬ Al H rd2 := fresh_of e9 hrd2'
        have e10 : Ext K H (upd H3 rd2 (.lst [])) := e9.trans (.new hrd2' (nt_lst _))
        have n3 : Ext K H3 (upd H3 rd2 (.lst [])) := .new hrd2' (nt_lst _)
        refine ⟨_, rfl, DD, rfl, ⟨_, .of (n3.at hk' (nt_lst _))⟩, ?_⟩
        refine for_it walk_list (fun i σ H' => ∃ (x6 : Option V) (rs' : List Addr) (ps' : List (List Str × Str)) (kvs' : List (Key × V)) (fs' : List Str), σ = [some (.ref t), some (.str n), some (.str o), some (.ref rd2), some (.ref sd), some (.ref DD), x6, none] ∧ Ext K H H' ∧ Frm K (fun b => b = rd2 ∨ b = sd) H3 H' ∧ H' rd2 = some (.lst (rs'.map V.ref)) ∧ (∀ r ∈ rs', r ∈ rs2) ∧ RdR H' rs' ps' ∧
          (∀ q ∈ ps', q ∈ lg) ∧ fs'.length = fs.length + ps'.length ∧ H' sd = some (.dK kvs') ∧ kvs'.map (·.1) = fs'.map (fun n => (.inr n : Key)) ∧ fs'.Nodup ∧ (∀ x ∈ fs', x ∈ nms D))
          ⟨_, [], [], kvs, fs, rfl, e10, n3.of, upd_same, (fun r hr => by cases hr), .nil, (fun q hq => by cases hq), rfl, n3.at hsd3 (nt_dK _), hk, nd, hsub⟩ (fun i σ H' _ ⟨_, _, _, _, _, _, _, f, _⟩ => .inl (.of (f.lst hk' (fun z => z.elim nDD (ne_of hk' hsd3 (fun z => by cases z)))))) ?_ ?_
        · rintro i x σ H4 H4' hi ⟨x6, rs', ps', kvs', fs', rfl, e4, f4, h4rd, hrs', hR4, hps', hfl, h4sd, hk4, nd4, hsub4⟩ ⟨rfl, hx⟩
          rw [List.getElem?_map] at hx
          cases hr' : rs2[i]? with
          | none => rw [hr'] at hx; cases hx
          | some a =>
            rw [hr'] at hx
            cases hx
            obtain ⟨q, hq, haa⟩ := paired_get hR3 hr'
            have qm := List.mem_of_getElem? hq
            obtain ⟨q1, q2, q3⟩ := hq3 q qm
            have nrd : ∀ r ∈ rs2, H3 r ≠ none := fun r hr z => by
              obtain ⟨j, hj, rfl⟩ := List.getElem_of_mem hr
              obtain ⟨q, _, h⟩ := paired_get hR3 (List.getElem?_eq_getElem hj)
              rw [h] at z
              cases z
            have na : ∀ r ∈ rs2, ¬ (r = rd2 ∨ r = sd) := fun r hr z => by
              rcases z with z | z
              · exact nrd r hr (z ▸ hrd2')
              · obtain ⟨j, hj, rfl⟩ := List.getElem_of_mem hr
                obtain ⟨q, _, h⟩ := paired_get hR3 (List.getElem?_eq_getElem hj)
                exact ne_of h hsd3 (fun z => by cases z) z
            have am := List.mem_of_getElem? hr'
            have ha4 := f4.lst haa (na a am)
            have hat : atI (strL (q.1 ++ [q.2])) (-1) = some (.str q.2) := by
              rw [strL_append]
              exact atI_last _ _
            refine ⟨_, rfl, 1, rfl, a, strL (q.1 ++ [q.2]), -1, .str q.2, rfl, rfl, .inl (.of ha4), hat, _, rfl, rfl, _, rfl, ?_⟩
            have neo : q.2 ≠ o := fun z => hrch (z ▸ q2)
            refine ite2 (fun z => (neo (by simpa using z)).elim) (fun _ => ?_)
            refine ⟨_, rfl, 1, rfl, a, strL (q.1 ++ [q.2]), -1, .str q.2, rfl, rfl, .inl (.of ha4), hat, _, rfl, sd, _, rfl, DGet.k (k := Sum.inr q.2) h4sd, _, rfl, ?_⟩
            have lfs' : fs'.length ≤ 50 := Nat.le_trans (nodup_len nd4 hsub4) (nms_len wf)
            have lkv : kvs'.length = fs'.length := by
              have := congrArg List.length hk4
              simpa using this
            cases hv : valV kvs' (.inr q.2) with
            | some v => exact iteF ⟨_, rs', ps', kvs', fs', rfl, e4, f4, h4rd, hrs', hR4, hps', hfl, h4sd, hk4, nd4, hsub4⟩
            | none =>
              have hin := (valV_none hk4 q.2).mp hv
              refine iteT ?_
              refine ⟨_, rfl, _, rfl, 1, rfl, a, strL (q.1 ++ [q.2]), -1, .str q.2, rfl, rfl, .inl (.of ha4), hat, sd, _, rfl, DPut.k (k := Sum.inr q.2) h4sd (Nat.lt_of_le_of_lt (by rw [lkv]; exact lfs') (by decide)), ?_⟩
              have u1 : Frm K (fun b => b = sd) H4' (upd H4' sd (.dK (putK kvs' (.inr q.2) (.bl true)))) := .mut h4sd trivial rfl (nt_dK _)
              have h5rd := u1.lst h4rd (ne_of h4rd h4sd (fun z => by cases z))
              have h5sd : (upd H4' sd (.dK (putK kvs' (.inr q.2) (.bl true)))) sd = some _ := upd_same
              have g5 : Ext K H (upd H4' sd (.dK (putK kvs' (.inr q.2) (.bl true)))) := e4.mutNew fsd h4sd trivial (nt_dK _)
              generalize upd H4' sd (.dK (putK kvs' (.inr q.2) (.bl true))) = H5 at u1 h5rd h5sd g5
              refine ⟨_, rfl, .inl ⟨rfl, _, .of h5rd⟩, _, rfl, rd2, _, _, rfl, rfl, h5rd, ?_, ?_⟩
              · rw [List.length_map, paired_len hR4]
                exact Nat.lt_of_le_of_lt (show ps'.length ≤ 50 by omega) (by decide)
              have u2 : Frm K (fun b => b = rd2) H5 (upd H5 rd2 (.lst (rs'.map V.ref ++ [.ref a]))) := .mut h5rd trivial rfl (nt_lst _)
              refine ⟨_, rs' ++ [a], ps' ++ [q], putK kvs' (.inr q.2) (.bl true), fs' ++ [q.2], rfl, g5.mutNew frd2 h5rd trivial (nt_lst _), (f4.trans (u1.mono fun b z => .inr z)).trans (u2.mono fun b z => .inl z), by rw [upd_same, List.map_append]; rfl, fun r hr => ?_, ?_, fun q' hq' => ?_, ?_, u2.dK h5sd (fun z => nsd z), ?_, nd_snoc nd4 hin, fun x hx => ?_⟩
              · rcases List.mem_append.mp hr with z | z
                · exact hrs' r z
                · rw [List.mem_singleton.mp z]; exact am
              · refine paired_snoc ?_ (u2.lst (u1.lst ha4 fun z => na a am (.inr z)) fun z => na a am (.inl z))
                exact (hR4.frm (f := u1) fun r hr z => na r (hrs' r hr) (.inr z)).frm (f := u2) fun r hr z => na r (hrs' r hr) (.inl z)
              · rcases List.mem_append.mp hq' with z | z
                · exact hps' q' z
                · rw [List.mem_singleton.mp z]; exact qm
              · rw [List.length_append, List.length_append, hfl]
                rfl
              · rw [putK_new _ hv, List.map_append, List.map_append, hk4]
                rfl
              · rcases List.mem_append.mp hx with z | z
                · exact hsub4 x z
                · rw [List.mem_singleton.mp z]; exact q1
        · rintro σ H4 ⟨x6, rs', ps', kvs', fs', rfl, e4, f4, h4rd, hrs', hR4, hps', hfl, h4sd, hk4, nd4, hsub4⟩
          have lfs' : fs'.length ≤ 50 := Nat.le_trans (nodup_len nd4 hsub4) (nms_len wf)
          refine ⟨if ps' = [] then 0 else 51 - fs'.length, ?_, rs', rd2, ps', kvs', fs', _, _, rfl, e4, h4rd, hR4, fun q hq => ?_, by omega, h4sd, hk4, nd4, hsub4, fun q hq => ?_, rfl⟩
          · rw [if_neg hps0]
            by_cases z : ps' = []
            · rw [if_pos z]
              omega
            · rw [if_neg z]
              have : 0 < ps'.length := List.length_pos_iff.mpr z
              omega
          · obtain ⟨a1, a2, a3⟩ := hq3 q (hps' q hq)
            exact ⟨a1, a2, by omega⟩
          · obtain ⟨a1, a2, a3⟩ := hq3 q (hps' q hq)
            have : 0 < ps'.length := List.length_pos_of_mem hq
            omega
    · exact k _ e2
end
end ST
set_option maxHeartbeats 4000000
namespace ST
open PySem PySem.Spec PyProof.Rows L2
open LamX (CodeO Tabs TabB)
section
variable {P : Program} {w : World} {K : PySem.W.Frag} {mg : Str → Option Value} {base : Heap}
def spRing (K : PySem.W.Frag) : Sp := fun vs H Q _ => ∃ (t : Addr) (D : List C) (n o : Str), vs = [.ref t, .str n, .str o] ∧ TabR K H t D ∧ Wf D ∧ o ∈ nms D ∧ n ≠ o ∧ ¬ Rch D o n ∧ RetV K .non H Q
theorem ok_Table_ring_by (T : Tx K mg) : FnOk P w K mg base CX0 5 (He.fAd K d_Table_ring_by.at_) (fdOf K (He.fAd K d_Table_ring_by.at_)) ["self", "name", "other"] (spRing K) := by
  refine (F_Table_ring_by T).ok sc_Table_ring_by (fun vs H Q E h => ?_) (fun cdv A outer s H vs Q E hr h => ?_)
  · obtain ⟨_, _, _, _, rfl, _⟩ := h
    rfl
  · obtain ⟨t, D, n, o, rfl, hT, wf, ho, hno, hrch, k⟩ := h
    have hu := hu_of hr
    refine ⟨_, PSs.nox (pss_cons (ps_if (pt_cmpR op_eq (pv 1) (pv 2) (nomark _)) (pss_one (ps_ret (pe_lst (pa_cons (pv 1) (pa_cons (pv 1) pa_nil))))) pss_nil)
    (pss_cons (ps_set (i := 3) (sc_Table_ring_by).nd rfl (Or.inl rfl) (pe_meth (pv 0) (cl_Table T) (m_Table_shortest_road T) (ok_Table_shortest_road T) (hr.mono (by decide)) (b_Table_shortest_road T) .nil pass0 (pa_cons (pv 2) (pa_cons (pv 1) pa_nil))))
    (pss_one (ps_ret (pe_ifExp (pt_cmpR op_isN (pv 3) pe_non (nomark _)) pe_non (pe_lst (pa_cons (pv 1) (a_star (K := K) rfl (pv 3) pa_nil)))))))), ?_⟩
    refine ⟨_, rfl, _, rfl, rfl, _, rfl, ?_⟩
    refine ite2 (fun z => (hno (by simpa using z)).elim) (fun _ => ?_)
    obtain ⟨dx, dr, dn, dl, mm, ls, h1, _⟩ := id hT
    refine ⟨_, rfl, t, dx, _, rfl, h1, rfl, _, rfl, _, rfl, t, D, o, n, rfl, hT, wf, ho, Ne.symm hno, hrch, fun H1 e1 => ?_⟩
    refine ⟨_, rfl, rfl, _, rfl, ?_⟩
    exact iteT (k _ e1)
def spLookReg (K : PySem.W.Frag) : Sp := fun vs H Q _ => ∃ (wd : Addr) (D : List C) (n o : Str), vs = [.ref wd, .str n, .str o] ∧ WldR K H wd D ∧ Wf D ∧ n ∈ nms D ∧ o ∈ nms D ∧ sw D n = true ∧ n ≠ o ∧ ¬ Rch D o n ∧ RetV K .non H Q
theorem ok_World_look_registration (T : Tx K mg) : FnOk P w K mg base CX0 6 (He.fAd K d_World_look_registration.at_) (fdOf K (He.fAd K d_World_look_registration.at_)) ["self", "cls", "other"] (spLookReg K) := by
  refine (F_World_look_registration T).ok sc_World_look_registration (fun vs H Q E h => ?_) (fun cdv A outer s H vs Q E hr h => ?_)
  · obtain ⟨_, _, _, _, rfl, _⟩ := h
    rfl
  · obtain ⟨wd, D, n, o, rfl, hW, wf, hn, ho, hs, hno, hrch, k⟩ := h
    have hu := hu_of hr
    refine ⟨_, PSs.nox (pss_cons (ps_expr (pe_methR (pl := _) (pv 0) (cl_World T) (m_World_look T) (call_World_look T) (hr.mono (by decide)) pass0 (pa_cons (pv 1) (pa_cons (pv 2) pa_nil))))
    (pss_cons (ps_if (pt_not (pt_val (pe_meth (w_fld (K := K) rfl (pv 0)) (cl_Table T) (m_Table_sworn T) (ok_Table_sworn T) (hr.mono (by decide)) (b_Table_sworn T) .nil pass0 (pa_cons (pv 1) pa_nil)))) (pss_one ps_never) pss_nil)
    (pss_cons (ps_set (i := 3) (sc_World_look_registration).nd rfl (Or.inl rfl) (pe_meth (w_fld (K := K) rfl (pv 0)) (cl_Table T) (m_Table_ring_by T) (ok_Table_ring_by T) (hr.mono (by decide)) (b_Table_ring_by T) .nil pass0 (pa_cons (pv 1) (pa_cons (pv 2) pa_nil))))
    (pss_one (ps_if (pt_cmpR op_notN (pv 3) pe_non (nomark _)) (pss_one ps_never) pss_nil))))), ?_⟩
    obtain ⟨t, ch, vi, th, cl, ⟨dx, g1⟩, hT⟩ := id hW
    refine ⟨_, rfl, wd, dx, _, rfl, g1, rfl, _, rfl, _, rfl, [.ref wd], [.str n, .str o], rfl, rfl, Nat.le_of_ble_eq_true rfl, fun np hnp => ?_⟩
    have e0 : Ext K H (upd H np (.tup [.str n, .str o])) := .new hnp (nt_tup _)
    refine ⟨wd, np, D, [n, o], rfl, hW.ext e0, upd_same, fun m hm => ?_, fun H1 e1 => ?_⟩
    · rcases List.mem_cons.mp hm with z | z
      · rw [z]; exact hn
      · rw [List.mem_singleton.mp z]; exact ho
    have e01 := e0.trans e1
    obtain ⟨dxt, dr, dn, dl, mm, ls, h1, _⟩ := id (hT.ext e01)
    refine ⟨_, rfl, wd, _, dx, _, _, rfl, e01.at g1 (nt_ins _ _ _), cl_World T, na_World_table T, rfl, t, dxt, _, rfl, h1, rfl, _, rfl, t, D, n, rfl, hT.ext e01, wf, hn, fun H2 e2 => ⟨_, rfl, ?_⟩⟩
    rw [hs]
    refine iteF ?_
    have e02 := e01.trans e2
    refine ⟨_, rfl, wd, _, dx, _, _, rfl, e02.at g1 (nt_ins _ _ _), cl_World T, na_World_table T, rfl, t, dxt, _, rfl, e2.at h1 (nt_ins _ _ _), rfl, _, rfl, _, rfl, t, D, n, o, rfl, hT.ext e02, wf, ho, hno, hrch, fun H3 e3 => ?_⟩
    refine ⟨_, rfl, rfl, _, rfl, ?_⟩
    exact iteF (k _ (e02.trans e3))
def spAdmit (K : PySem.W.Frag) : Sp := fun vs H Q _ => ∃ (wd : Addr) (S : Addr → Prop) (D : List C) (n o : Str), vs = [.ref wd, .str n, .str o] ∧ WldM K S H wd D ∧ Wf D ∧ n ∈ nms D ∧ o ∈ nms D ∧ sw D n = true ∧ n ≠ o ∧ ¬ Rch D o n ∧ ∀ H', Frm K S H H' → WldM K S H' wd (addReg D n o) → Q (.str o) H'
theorem ok_World_admit (T : Tx K mg) : FnOk P w K mg base CX0 7 (He.fAd K d_World_admit.at_) (fdOf K (He.fAd K d_World_admit.at_)) ["self", "cls", "other"] (spAdmit K) := by
  refine (F_World_admit T).ok sc_World_admit (fun vs H Q E h => ?_) (fun cdv A outer s H vs Q E hr h => ?_)
  · obtain ⟨_, _, _, _, _, rfl, _⟩ := h
    rfl
  · obtain ⟨wd, S, D, n, o, rfl, ⟨p, W⟩, wf, hn, ho, hs, hno, hrch, k⟩ := h
    have hu := hu_of hr
    refine ⟨_, PSs.nox (pss_cons (ps_expr (pe_meth (pv 0) (cl_World T) (m_World_look_registration T) (ok_World_look_registration T) (hr.mono (by decide)) (b_World_look_registration T) .nil pass0 (pa_cons (pv 1) (pa_cons (pv 2) pa_nil))))
    (pss_cons (ps_expr (pe_meth (w_fld (K := K) rfl (pv 0)) (cl_Table T) (m_Table_add_registration T) (ok_Table_add_registration T) (hr.mono (by decide)) (b_Table_add_registration T) .nil pass0 (pa_cons (pv 1) (pa_cons (pv 2) pa_nil))))
    (pss_cons (ps_expr (pe_meth0 (pv 0) (cl_World T) (m_World_refresh T) (ok_World_refresh T) (hr.mono (by decide)) (b_World_refresh T) .nil pass0))
    (pss_one (ps_ret (pv 2)))))), ?_⟩
    refine ⟨_, rfl, wd, p.dx, _, rfl, W.wd_, rfl, _, rfl, _, rfl, wd, D, n, o, rfl, WldM.r ⟨p, W⟩, wf, hn, ho, hs, hno, hrch, fun H1 e1 => ?_⟩
    have W1 := W.ext e1
    refine ⟨_, rfl, wd, _, p.dx, _, _, rfl, W1.wd_, cl_World T, na_World_table T, rfl, p.t, p.dxt, _, rfl, W1.t_, rfl, _, rfl, _, rfl, wd, S, D, p, n, o, rfl, W1, wf, hn, fun H2 f2 ⟨p2, W2⟩ => ?_⟩
    refine ⟨_, rfl, wd, p2.dx, _, rfl, W2.wd_, rfl, wd, S, _, rfl, ⟨p2, W2⟩, fun H3 f3 W3 => ?_⟩
    exact ⟨_, rfl, k H3 ((e1.of.trans f2).trans f3) W3⟩
end
end ST
set_option maxHeartbeats 4000000
namespace ST
open PySem PySem.Spec PyProof.Rows L2
open Sem (wp)
open AutoSeq1 (wpAny_loadPart')
theorem meets_enumT (l : Addr) (items : Array Value) (n : Nat) (dct : Option Addr) (sl : Array (Option Value)) :
    Meets (Builtin.«enumerate.__new__» ⟨[.type "enumerate", .ref l], []⟩) (fun _ R s => s.heap.get? l = some { cls := .type "tuple", dict := dct, data := .seq items n, slots := sl } ∧
      R (.ok (.ret (.ref (s.heap.push { cls := .type "tuple_iterator", data := .fields #[.ref l, .int 0 0] }).objs.size)))
        { s with heap := (s.heap.push { cls := .type "tuple_iterator", data := .fields #[.ref l, .int 0 0] }).push { cls := .type "enumerate", data := .fields #[.none, .bool false, .ref s.heap.objs.size, rawInt 0, .none, .none] } }) :=
  .of_wp fun prog w A R s h => by
    obtain ⟨hp, g, d, tk, os⟩ := s; obtain ⟨hl, h⟩ := h
    have hsub := sub_enumerate
    have hL : IsTup (Shared.heap ⟨hp, g, d, tk, os⟩) l items := ⟨_, hl, rfl, n, rfl⟩
    wp_walk using wpAny_loadPart' hl
    refine wpAny_stack_any fun st => wpAny_pure ?_
    split
    · rename_i c _ _ _ _ _
      cases (c == Value.type "enumerate")
      · wp_walk using wpAny_loadPart' hl, iter_tuple hL
        exact ⟨_, rfl, h⟩
      · wp_walk using wpAny_loadPart' hl, iter_tuple hL
        exact ⟨_, rfl, h⟩
    · wp_walk using wpAny_loadPart' hl, iter_tuple hL
      exact ⟨_, rfl, h⟩
section
variable {prog : Program} {w : World} {A : Around} {E : Value → Shared → Prop} {s : Shared}
theorem call_enumT {l : Addr} {items : Array Value} {Q : Value → Shared → Prop} (hL : IsTup s.heap l items)
    (h : ∀ h', IsEnum h' (s.heap.objs.size + 1) s.heap.objs.size 0 .none → h'.IsTupleIter s.heap.objs.size l 0 → h'.objs.size = s.heap.objs.size + 2 →
      (∀ b o, s.heap.get? b = some o → h'.get? b = some o) → Q (.ref (s.heap.objs.size + 1)) { s with heap := h' }) :
    wpAny (model prog w) A (call (.type "enumerate") [.ref l]) Q E s := by
  obtain ⟨⟨c, dct, dt, sl⟩, hl, hc, n, hd⟩ := hL
  replace hc : c = .type "tuple" := hc
  replace hd : dt = .seq items n := hd
  subst hc hd
  refine callType_new F.called_enumerate (by decide) (F.typeCall_enumerate_1 _) (F.newCall_enumerate_1 _) (fun obj => F.args_object_init_2 obj _) F.entry_enumerate_new
    (meets_enumT l items n dct sl) ⟨hl, ?_⟩
  have hz : (s.heap.push { cls := .type "tuple_iterator", data := .fields #[.ref l, .int 0 0] }).objs.size = s.heap.objs.size + 1 := Heap.size_push ..
  show _ ∧ _
  rw [hz]
  have he : IsEnum ((s.heap.push { cls := .type "tuple_iterator", data := .fields #[.ref l, .int 0 0] }).push
      { cls := .type "enumerate", data := .fields #[.none, .bool false, .ref s.heap.objs.size, rawInt 0, .none, .none] }) (s.heap.objs.size + 1) s.heap.objs.size 0 .none := by
    have := Heap.get?_push_size (s.heap.push { cls := .type "tuple_iterator", data := .fields #[.ref l, .int 0 0] })
      (o := { cls := .type "enumerate", data := .fields #[.none, .bool false, .ref s.heap.objs.size, rawInt 0, .none, .none] }) rfl
    rw [hz] at this; exact this
  refine ⟨⟨_, he, rfl⟩, h _ he ⟨_, Heap.get?_push_of_some _ (Heap.get?_push_size _ rfl), rfl, rfl⟩ (by rw [Heap.size_push, hz]) fun b o x => Heap.get?_push_of_some _ (Heap.get?_push_of_some _ x)⟩
end
/-- the tuple at a as it stands at each turn, each item in a new pair -/
def IteT (K : PySem.W.Frag) (a : Addr) : It :=
  ⟨fun i H => ∃ (xs : List V) (x : V), SqT K H a xs ∧ xs[i]? = some x, fun i H v H' => ∃ T x, v = .ref T ∧ H T = none ∧ H' = upd H T (.tup [.int (i : Nat), x]) ∧ ∀ xs, SqT K H a xs → xs[i]? = some x, fun i H => ∃ xs : List V, SqT K H a xs ∧ xs.length ≤ i⟩
theorem turn_enumT {P : Program} {w : World} {K : PySem.W.Frag} {elts : List Expr} {kk : Nat} {tpos : Pos} (a e it : Addr) :
    Turn P w K (.Tuple elts kk tpos) (IteT K a) [e, it] e (fun i h => (∃ old, IsEnum h e it ((i : Nat) : Int) old) ∧ h.IsTupleIter it a i ∧ e ≠ it ∧ a ≠ it ∧ a ≠ e) where
  mem := by simp
  obj := fun i h st b hb => by
    obtain ⟨⟨old, he⟩, ⟨o, ho, hc, hd⟩, _⟩ := st
    have e' : b = e ∨ b = it := by simpa using hb
    rcases e' with z | z
    · rw [z]; exact ⟨_, he, fun v q => nomatch q⟩
    · rw [z]; exact ⟨o, ho, fun v q => by rw [hd] at q; cases q⟩
  keep := fun i h h' st k => let ⟨⟨old, he⟩, ⟨o, ho, r⟩, hne⟩ := st; ⟨⟨old, k e (by simp) _ he⟩, ⟨o, k it (by simp) o ho, r⟩, hne⟩
  item := by
    intro X hP hw hK hc i pins s σ H E I hf st hg
    subst hP hw hK
    obtain ⟨⟨old, he⟩, hit, hne, hai, hae⟩ := st
    obtain ⟨xs, x, hq, hx⟩ := hg
    obtain ⟨its, rv, p, hz⟩ := I.tuple hq
    obtain ⟨u, hu, ru⟩ := rv.get hx
    have hel : e < s.heap.objs.size := Heap.lt_size he
    have hil : it < s.heap.objs.size := by obtain ⟨_, q, _⟩ := hit; exact Heap.lt_size q
    have hil2 : i < its.toArray.size := by
      have := (List.getElem?_eq_some_iff.mp hu).1
      simpa using this
    refine wpAny_pyNext_enum_itemD (Draws.tuple (A := X.A.in1) (I.ok.hd hc) it a hai its.toArray) he ⟨hit, p⟩ hil2 hne (fun z => by
      have z' : e = it ∨ e = a := by simpa using z
      exact z'.elim hne (fun z => hae z.symm)) fun u' h' tk hP' ho st' hT hsz hk => ?_
    have eu : u' = u := by
      have : its.toArray[i]? = some u' := hP'
      have h2 : its[i]? = some u' := by simpa using this
      rw [hu] at h2
      exact (Option.some.inj h2).symm
    subst eu
    obtain ⟨hit', p'⟩ := st'
    refine ⟨_, rfl, wpAny_letOwnedTupleGo_enum (s := { s with heap := h', toks := tk + 1 }) ho fun h'' he' sb => ?_⟩
    have hT2 : h''.get? s.heap.objs.size = some { cls := .type "tuple", data := .seq #[.int i tk, u'] } := (sb.2 _ (Nat.ne_of_gt hel)).trans hT
    have new : ObjOk X.prog X.w (upd H s.heap.objs.size (.tup [.int (i : Nat), x])) h'' s.heap.objs.size (.tup [.int (i : Nat), x]) :=
      ⟨by show 2 ≤ sizeLine; decide, [.int i tk, u'], .cons ⟨_, rfl⟩ (.cons ru .nil), ⟨_, hT2, rfl, _, rfl⟩⟩
    have I1 : Inv X pins σ (upd H s.heap.objs.size (.tup [.int (i : Nat), x])) { s with heap := h'', toks := tk + 1 } :=
      I.turnedNew (ch := [e, it]) (fun b ob hb q => (sb.2 b (fun z => hb (by simp [z]))).trans (hk b ob (fun z => hb (by simp [z])) (fun z => hb (by simp [z])) q)) hf (Nat.le_refl _) new
    obtain ⟨oi, hoi, ri⟩ := hit'
    refine ⟨.ref s.heap.objs.size, _, I1, rfl, ⟨_, x, rfl, I.hok.fresh (Nat.le_refl _), rfl, fun ys hy => by rw [I.tuple_inj hy hq]; exact hx⟩, ⟨⟨u', ?_⟩, ⟨oi, (sb.2 it (Ne.symm hne)).trans hoi, ri⟩, hne, hai, hae⟩, fun b hb => ?_⟩
    · have e1 : ((i + 1 : Nat) : Int) = (i : Int) + 1 := by omega
      rw [e1]; exact he'
    · have hb' : b < s.heap.objs.size := by
        have e' : b = e ∨ b = it := by simpa using hb
        rcases e' with z | z
        · rw [z]; exact hel
        · rw [z]; exact hil
      rw [upd_ne (Nat.ne_of_lt hb')]
      exact (hf b hb).1
  done := by
    intro X hP hw hK hc i pins s σ H E I hf st hg
    subst hP hw hK
    obtain ⟨⟨old, he⟩, hit, hne, hai, hae⟩ := st
    obtain ⟨xs, hq, hx⟩ := hg
    obtain ⟨its, rv, p, hz⟩ := I.tuple hq
    obtain ⟨f0, f1, f2, f3, f4, f5⟩ := hf it (by simp)
    have hl := rv.length
    have hxn : its.toArray[i]? = none := by
      rw [List.getElem?_toArray, List.getElem?_eq_none_iff]
      omega
    have Dr : Draws X.prog X.w X.A.in1 it [it, a] i (fun _ _ => True) (fun j h => j = i ∧ h.IsTupleIter it a i ∧ h.IsTuple a its.toArray) := {
      live := fun _ _ st => let ⟨_, ⟨o, ho, _⟩, _⟩ := st; ⟨o, ho⟩
      frame := fun _ _ _ st hk => ⟨st.1, st.2.1.at fun o e => hk it (by simp) o e, st.2.2.at fun o e => hk a (by simp) o e⟩
      item := fun j s Q E hj st _ => by
        have := st.1
        omega
      done := fun s Q E st hE => wpAny_nextOf_tuple_end (I.ok.hd hc) st.2.1 st.2.2 hxn hE }
    exact wpAny_pyNext_enum_endD Dr he ⟨rfl, hit, p⟩ fun h' eb => ⟨rfl, I.turned (t' := s.toks) (fun b o hb q => eb b o hb q) f0 f1 f3 f4 f5⟩
  self := fun A i s Q E st h => let ⟨⟨_, he⟩, _⟩ := st; wpAny_pyIter_enum he h
def iEnumT (K : PySem.W.Frag) (ta : TA) : TI := fun σ H R => ta σ H fun vs H1 => ∃ a xs, vs = [.ref a] ∧ SqT K H1 a xs ∧ R (IteT K a) H1
theorem i_enumT {X : Cx} {K : PySem.W.Frag} {e : Expr} {ta : TA} {p pos tpos : Pos} {elts : List Expr} {kk : Nat} (hK : X.K = K) (hg : Gl X "enumerate") (hm : X.mg "enumerate" = none) (ha : PA X [e] ta) (hs : starEach [e] X.env = [(false, eval e X.env)] := by rfl) :
    PI X (.Tuple elts kk tpos) (.Call (.Name "enumerate" p) [e] [] pos) (iEnumT K ta) := by
  subst hK
  refine ⟨fun pins s σ H R I h => ?_⟩
  refine Call_ (ld_blt I hg hm boot_enumerate (PyProof.Rows.callWith_type1 (thn (ha.run pos pins s σ H _ I h) fun us s1 ⟨vs, H1, I1, r1, q1⟩ => ?_) hs rfl))
  obtain ⟨a, xs, ex, hq, q⟩ := q1
  subst ex
  cases r1 with
  | cons r rr =>
    cases rr
    cases r
    obtain ⟨its, rv, p', hz⟩ := I1.tuple hq
    have hal : a < s1.heap.objs.size := by obtain ⟨_, ho, _⟩ := p'; exact Heap.lt_size ho
    refine call_enumT p' fun h' he hit hsz hk => wpAny_pyIter_enum he ?_
    have I2 : Inv X pins σ H1 { s1 with heap := h' } := I1.kept (t' := s1.toks) hk
    refine ⟨s1.heap.objs.size + 1, [s1.heap.objs.size + 1, s1.heap.objs.size], _, _, H1, rfl, I2, turn_enumT a (s1.heap.objs.size + 1) s1.heap.objs.size, ⟨⟨.none, he⟩, hit, Nat.succ_ne_self _, Nat.ne_of_lt hal, Nat.ne_of_lt (Nat.lt_succ_of_lt hal)⟩, fun b hb => ?_, q⟩
    have e' : b = s1.heap.objs.size + 1 ∨ b = s1.heap.objs.size := by simpa using hb
    have hle : s1.heap.objs.size ≤ b := by
      rcases e' with z | z
      · rw [z]; exact Nat.le_add_right _ _
      · rw [z]; exact Nat.le_refl _
    exact I1.fpOk hle (I1.hok.fresh hle)
theorem walk_enumT {K : PySem.W.Frag} {a : Addr} {xs : List V} : Walk (IteT K a) xs.length (fun H => SqT K H a xs) (YPair (fun i => some (.int (i : Nat))) (fun i => xs[i]?)) := by
  refine ⟨fun i _ hi q => ⟨xs, xs[i], q, by simp [hi]⟩, fun _ q => ⟨xs, q, Nat.le_refl _⟩, fun i H v H' _ q y => ?_⟩
  obtain ⟨T, x, h1, h2, h3, h4⟩ := y
  exact ⟨T, .int (i : Nat), x, h1, h2, h3, rfl, h4 xs q⟩
/-- a, *b = a list with something in it -/
def gStar (K : PySem.W.Frag) (t : TGs) : TG := fun v σ H Q => ∃ a x xs, v = .ref a ∧ SqL K H a (x :: xs) ∧ xs.length ≤ 10000 ∧ ∀ d, H d = none → t [x, .ref d] σ (upd H d (.lst xs)) Q
theorem pg_star {X : Cx} {K : PySem.W.Frag} {pos : Pos} {es : List Expr} {k : Nat} {t : TGs} (hK : X.K = K) (hc : X.calm = true) (h : PGs X es t)
    (hn : (assignEach es X.env).length = 2 := by rfl) (hst : (assignEach es X.env).findIdx? (·.1) = some 1 := by rfl) : PG X (.Tuple es k pos) (gStar K t) := by
  subst hK
  refine ⟨fun pins s σ H v u Q I r hw => ?_⟩
  obtain ⟨a, x, xs, e1, hq, hlen, hw⟩ := hw
  subst e1
  cases r
  obtain ⟨its, rv, hl0, hz⟩ := I.list hq
  have hl := hl0.isList
  cases rv with
  | cons r0 rr =>
    rename_i u0 us
    have hlt : a ≠ s.heap.objs.size := by obtain ⟨o, ho, _⟩ := hl; exact Nat.ne_of_lt (Heap.lt_size ho)
    have hul : us.length = xs.length := rr.length.symm
    rw [assign_Tuple]
    refine wpAny_bind (wpAny_standAt ?_)
    unfold unpack
    rw [hn, hst]
    refine wpAny_bind (wpAny_holding ?_)
    unfold unpackItems
    refine wpAny_bind ?_
    unfold notIterableAtAll
    refine wpAny_bind (wpAny_specialOf hl.typeIs F.slot_list_iter.lookup ?_)
    refine wpAny_pure ?_
    simp only [Bool.false_eq_true, if_false]
    refine wpAny_bind (wpAny_holding (wpAny_pyIter_list hl ?_))
    refine wpAny_bind (wpAny_holding (PySem.W.kun_draw hlt 1 0 _ _ ⟨_, Heap.get?_push_size _ rfl, rfl, rfl⟩ (hl.push _) (by simp) fun h₁ hit₁ hs₁ => ?_))
    have hl₁ : h₁.IsList a (u0 :: us).toArray := (hl.push _).extBut hs₁.extBut hlt
    rw [Nat.zero_add] at hit₁
    obtain ⟨oi, hoi, _⟩ := id hit₁
    obtain ⟨ol, hol, _⟩ := id hl₁
    have e1 : (((u0 :: us).toArray.toList.drop 0).take 1) = [u0] := by simp
    rw [e1]
    show wpAny _ _ (if ([u0] : List Value).length < 1 then _ else _) _ _ _
    rw [if_neg (show ¬ (([u0] : List Value).length < 1) by simp)]
    refine wpAny_bind (wpAny_holding (PySem.W.kun_collect (s := { s with heap := h₁ }) (T := "list_iterator") (.inr (.inr (.inl rfl))) (Walks.list (A := X.A.in1) (I.ok.hd hc) s.heap.objs.size a hlt (u0 :: us).toArray) (fun j u st => st.1.typeIs) (k := 1) (by simp) ⟨hit₁, hl₁⟩ (Heap.lt_size hoi) (Heap.lt_size hol) (fun h₂ tk hk => ?_) (by
      have := sizeLine_eq
      simp
      omega)))
    have e2 : (u0 :: us).toArray.toList.drop 1 = us := by simp
    rw [e2]
    show wpAny _ _ (if us.length < 2 - 1 - 1 then _ else _) _ _ _
    rw [if_neg (show ¬ (us.length < 2 - 1 - 1) by omega)]
    show wpAny _ _ (newList (us.take (us.length - (2 - 1 - 1))) >>= fun d => pure ([u0] ++ [d] ++ us.drop (us.length - (2 - 1 - 1)))) _ _ _
    rw [show us.length - (2 - 1 - 1) = us.length by omega, List.take_length, List.drop_length]
    have he : Heap.ExtBut s.heap.objs.size s.heap h₂ := fun b o hb e => hk b o hb (hs₁.extBut b o hb (Heap.get?_push_of_some _ e))
    have I2 : Inv X pins σ H { s with heap := h₂, toks := tk } := I.kept fun b o e => he b o (Nat.ne_of_lt (Heap.lt_size e)) e
    refine wpAny_bind (wpAny_newList (wpAny_pure ?_) (by
      have := sizeLine_eq
      omega))
    have hf := I2.hok.fresh (Nat.le_refl _)
    have new : ObjOk X.prog X.w (upd H h₂.objs.size (.lst xs)) (h₂.push { cls := .type "list", data := .seq us.toArray }) h₂.objs.size (.lst xs) :=
      ⟨by have := sizeLine_eq; omega, us, 0, rr, Heap.get?_push_size _ rfl⟩
    have I3 : Inv X pins σ (upd H h₂.objs.size (.lst xs)) { s with heap := h₂.push { cls := .type "list", data := .seq us.toArray }, toks := tk } := I2.laid (t' := tk) (fun b u e => Heap.get?_push_of_some _ e) (Nat.le_refl _) new
    exact h.run pins _ σ _ [x, .ref h₂.objs.size] [u0, .ref h₂.objs.size] Q I3 (.cons r0 (.cons rfl .nil)) (hw _ hf)
end ST
set_option maxHeartbeats 4000000
namespace ST
open PySem PySem.Spec PyProof.Rows L2
open LamX (CodeO Tabs TabB)
theorem pgs_star {X : Cx} {e : Expr} {p : Pos} {es : List Expr} {t : TG} {u : TGs} (h1 : PG X e t) (h2 : PGs X es u)
    (hs : (assignEach (.Starred e p :: es) X.env).map (·.2) = assign e X.env :: (assignEach es X.env).map (·.2) := by rfl) : PGs X (.Starred e p :: es) (gCons t u) := by
  refine ⟨fun pins s σ H vs us Q I r h => ?_⟩
  obtain ⟨v, vr, e1, h⟩ := h
  subst e1
  cases r with
  | cons r rr =>
    rw [hs]
    refine assignInOrder_cons (thn (h1.run pins s σ H _ _ _ I r h) fun _ s1 ⟨σ1, H1, I1, q1⟩ => ?_)
    exact h2.run pins s1 σ1 H1 _ _ Q I1 rr q1
def heads (ls : List (List Str)) : List Str := ls.filterMap List.head?
def canBe (ls : List (List Str)) (h : Str) : Bool := ls.all fun l => decide (h ∉ l.tail)
def mgHead (ls : List (List Str)) : Option Str := (heads ls).find? (canBe ls)
def rmH (h : Str) (ls : List (List Str)) : List (List Str) := ls.map fun l => l.filter fun n => decide (n ≠ h)
def ne_ (ls : List (List Str)) : List (List Str) := ls.filter fun l => decide (l ≠ [])
def mrg : Nat → List (List Str) → Option (List Str)
  | 0, _ => none
  | k + 1, ls => if ne_ ls = [] then some [] else match mgHead ls with
    | none => none
    | some h => (mrg k (rmH h ls)).map (h :: ·)
theorem heads_ne (ls : List (List Str)) : heads (ne_ ls) = heads ls := by
  induction ls with
  | nil => rfl
  | cons l r ih =>
    cases l with
    | nil => exact ih
    | cons x xs =>
      show x :: heads (ne_ r) = x :: heads r
      rw [ih]
theorem canBe_ne (ls : List (List Str)) (h : Str) : canBe (ne_ ls) h = canBe ls h := by
  induction ls with
  | nil => rfl
  | cons l r ih =>
    cases l with
    | nil =>
      show canBe (ne_ r) h = (decide (h ∉ ([] : List Str)) && canBe r h)
      rw [ih, decide_eq_true (by simp), Bool.true_and]
    | cons x xs =>
      show (decide (h ∉ xs) && canBe (ne_ r) h) = (decide (h ∉ xs) && canBe r h)
      rw [ih]
theorem mgHead_ne (ls : List (List Str)) : mgHead (ne_ ls) = mgHead ls := by
  unfold mgHead
  rw [heads_ne]
  congr 1
  funext h
  exact canBe_ne ls h
theorem ne_cons (l : List Str) (ls : List (List Str)) : ne_ (l :: ls) = if l = [] then ne_ ls else l :: ne_ ls := by
  by_cases z : l = []
  · rw [if_pos z, z]
    rfl
  · rw [if_neg z]
    unfold ne_
    rw [List.filter_cons, if_pos (by simpa using z)]
theorem ne_rmH (h : Str) (ls : List (List Str)) : ne_ (rmH h (ne_ ls)) = ne_ (rmH h ls) := by
  induction ls with
  | nil => rfl
  | cons l r ih =>
    cases l with
    | nil =>
      show ne_ (rmH h (ne_ r)) = ne_ ([] :: rmH h r)
      rw [ne_cons, if_pos rfl]
      exact ih
    | cons x xs =>
      show ne_ ((x :: xs).filter _ :: rmH h (ne_ r)) = ne_ ((x :: xs).filter _ :: rmH h r)
      rw [ne_cons, ne_cons, ih]
def LsR (H : Hp) (rs : List Addr) (ls : List (List Str)) : Prop := Paired (fun (r : Addr) (l : List Str) => H r = some (.lst (strL l))) rs ls
theorem LsR.ext {K : PySem.W.Frag} {H H' : Hp} (a : Ext K H H') {rs : List Addr} {ls : List (List Str)} (h : LsR H rs ls) : LsR H' rs ls := L2.Paired.mapP h fun _ _ h => a.at h (nt_lst _)
theorem lists_out {H : Hp} {D : Addr} {acc : List V} {ls : List (List Str)} (h : Paired (fun (y : V) (l : List Str) => ∃ r : Addr, y = .ref r ∧ H r = some (.lst (strL l)) ∧ r ≠ D) acc ls) : ∃ rs : List Addr, acc = rs.map V.ref ∧ LsR H rs ls := by
  induction h with
  | nil => exact ⟨[], rfl, .nil⟩
  | cons h _ ih =>
    obtain ⟨r, rfl, h2, _⟩ := h
    obtain ⟨rs, rfl, h4⟩ := ih
    exact ⟨r :: rs, rfl, .cons h2 h4⟩
theorem lists_out2 {H : Hp} {D : Addr} {P : Addr → Prop} {acc : List V} {ls : List (List Str)} (h : Paired (fun (y : V) (l : List Str) => ∃ r : Addr, y = .ref r ∧ H r = some (.lst (strL l)) ∧ r ≠ D ∧ P r) acc ls) : ∃ rs : List Addr, acc = rs.map V.ref ∧ LsR H rs ls ∧ ∀ r ∈ rs, P r := by
  induction h with
  | nil => exact ⟨[], rfl, .nil, fun r hr => by cases hr⟩
  | cons h _ ih =>
    obtain ⟨r, rfl, h2, _, h5⟩ := h
    obtain ⟨rs, rfl, h4, h6⟩ := ih
    exact ⟨r :: rs, rfl, .cons h2 h4, fun r' hr' => (List.mem_cons.mp hr').elim (fun z => z ▸ h5) (h6 r')⟩
theorem LsR.dp {K : PySem.W.Frag} {H : Hp} {rs : List Addr} {ls : List (List Str)} (h : LsR H rs ls) : DpAll K H (rs.map V.ref) (ls.map fun l => .list (l.map PyData.str)) := by
  induction h with
  | nil => exact .nil
  | cons h _ ih => exact .cons (dp_strs h) ih
theorem cut1 (l : List Str) : cutV (strL l) (some 1) none = strL l.tail := by
  unfold cutV
  cases l with
  | nil => rfl
  | cons x r =>
    have e : HT.sIx (strL (x :: r)).length 0 (some 1) = 1 := by
      rw [show (1 : Int) = ((1 : Nat) : Int) from rfl, HT.sIx_nat, strL_length, List.length_cons]
      omega
    rw [e]
    show ((strL r)).take ((strL (x :: r)).length - 1) = strL r
    rw [strL_length, List.length_cons, Nat.add_sub_cancel, List.take_of_length_le (by rw [strL_length]; exact Nat.le_refl _)]
def spCan (K : PySem.W.Frag) : Sp := fun vs H Q _ => ∃ (p : Addr) (rs : List Addr) (ls : List (List Str)) (n : Str), vs = [.str n, .ref p] ∧ H p = some (.lst (rs.map V.ref)) ∧ LsR H rs ls ∧ ls.length ≤ 1000 ∧ RetV K (.bl (canBe ls n)) H Q
section
variable {P : Program} {w : World} {K : PySem.W.Frag} {mg : Str → Option Value} {base : Heap}
theorem ok_can_be_first (T : Tx K mg) : FnOk P w K mg base CX0 1 (He.fAd K d_can_be_first.at_) (fdOf K (He.fAd K d_can_be_first.at_)) ["name", "lists"] (spCan K) := by
  refine (F_can_be_first T).ok sc_can_be_first (fun vs H Q E h => ?_) (fun cdv A outer s H vs Q E hr h => ?_)
  · obtain ⟨_, _, _, _, rfl, _⟩ := h
    rfl
  · obtain ⟨p, rs, ls, n, rfl, hp, hL, hlen, k⟩ := h
    have hu := hu_of hr
    refine ⟨_, PSs.nox (pss_one (ps_ret (pe_callB (k_all (K := K) rfl rfl) (by rfl) (z_all T) (by decide +kernel) (pa_cons (pe_lc (own := [("one", 2)]) (g := gName 2) (tt := tYes) rfl (sc_can_be_first).nd (i_list (K := K) rfl (pv 1)) (blkOk_by (by kernel_rfl)) (fun _ _ _ _ _ => (pg_name (i := 2) (sc_can_be_first).nd rfl (by first | exact Or.inl rfl | exact Or.inr rfl))) (fun _ _ _ _ _ => pts_nil) (fun _ _ _ _ _ => (pe_cmpR (o_ni (K := K) rfl) (pv 0) (pe_slice (l_l (K := K) rfl) (pv 2) (po_some pe_int) po_none) (by rfl)))) pa_nil)))), ?_⟩
    refine ⟨_, rfl, p, rfl, ⟨_, .of hp⟩, ?_⟩
    refine lcw_bl (K := K) walk_list (fun i => match ls[i]? with | some l => decide (n ∉ l.tail) | none => true) (fun H e => ext_l e (.of hp)) (by rw [List.length_map, paired_len hL]; exact Nat.le_trans hlen (by decide)) (fun i x H2 H2' hi e2 y N0 N1 h1 => ?_) (fun DD H2 fD e2 h => ?_)
    · obtain ⟨rfl, hx⟩ := y
      rw [List.getElem?_map] at hx
      cases hr' : rs[i]? with
      | none => rw [hr'] at hx; cases hx
      | some r =>
        rw [hr'] at hx
        cases hx
        obtain ⟨l, hl, hrr⟩ := paired_get hL hr'
        rw [hl] at h1
        refine ⟨rfl, _, rfl, _, rfl, 1, rfl, r, strL l, rfl, .inl (.of (e2.at hrr (nt_lst _))), fun q hq => ?_⟩
        rw [cut1]
        refine ⟨q, _, rfl, .inl (.inl (.of upd_same)), rfl, flat_strL _, ?_⟩
        show N1 (.bl (!inV (.str n) (strL l.tail))) _
        rw [inV_str]
        have e : (!decide (n ∈ l.tail)) = decide (n ∉ l.tail) := by
          by_cases z : n ∈ l.tail <;> simp [z]
        rw [e]
        exact h1 _ (.new hq (nt_lst _))
    · refine ⟨DD, _, rfl, .of h, ?_⟩
      have e : ((List.range (rs.map V.ref).length).map fun i => match ls[i]? with | some l => decide (n ∉ l.tail) | none => true).all id = canBe ls n := by
        rw [List.length_map, paired_len hL]
        unfold canBe
        rw [List.all_map, Bool.eq_iff_iff, List.all_eq_true, List.all_eq_true]
        constructor
        · intro h l hl
          obtain ⟨i, hi, rfl⟩ := List.getElem_of_mem hl
          have := h i (List.mem_range.mpr hi)
          simp only [Function.comp, id, List.getElem?_eq_getElem hi] at this
          exact this
        · intro h i hi
          have hi := List.mem_range.mp hi
          simp only [Function.comp, id, List.getElem?_eq_getElem hi]
          exact h _ (List.getElem_mem hi)
      rw [← e] at k
      exact k _ e2
def spMerged (K : PySem.W.Frag) : Sp := fun vs H Q _ => ∃ (p : Addr) (rs : List Addr) (ls : List (List Str)) (n : Nat) (r : List Str), vs = [.ref p] ∧ H p = some (.lst (rs.map V.ref)) ∧ LsR H rs ls ∧ ls.length ≤ 100 ∧ (∀ l ∈ ls, l.length ≤ 100) ∧ mrg n ls = some r ∧ n ≤ 1000 ∧ RetL K (strL r) H Q
theorem find_first {α : Type} {p : α → Bool} {xs : List α} {i : Nat} {x : α} (hx : xs[i]? = some x) (hp : p x = true) (hb : ∀ j y, j < i → xs[j]? = some y → p y = false) : xs.find? p = some x := by
  induction xs generalizing i with
  | nil => cases hx
  | cons a r ih =>
    cases i with
    | zero =>
      cases hx
      rw [List.find?_cons, hp]
    | succ i =>
      rw [List.find?_cons, hb 0 a (Nat.succ_pos _) rfl]
      exact ih (i := i) hx fun j y hj hy => hb (j + 1) y (Nat.succ_lt_succ hj) hy
theorem find_none {α : Type} {p : α → Bool} {xs : List α} (hb : ∀ (j : Nat) (y : α), xs[j]? = some y → p y = false) : xs.find? p = none := by
  rw [List.find?_eq_none]
  intro x hx
  obtain ⟨j, hj, rfl⟩ := List.getElem_of_mem hx
  rw [hb j _ (List.getElem?_eq_getElem hj)]
  decide
theorem heads_get {ls : List (List Str)} {i : Nat} : (∀ l ∈ ls, l ≠ []) → (heads ls)[i]? = (ls[i]?).bind List.head? := by
  induction ls generalizing i with
  | nil => intro _; rfl
  | cons l r ih =>
    intro h
    cases l with
    | nil => exact (h [] (List.mem_cons_self ..) rfl).elim
    | cons x xs =>
      cases i with
      | zero => rfl
      | succ i => exact ih fun l hl => h l (List.mem_cons_of_mem _ hl)
theorem ne_mem {ls : List (List Str)} {l : List Str} (h : l ∈ ne_ ls) : l ≠ [] := by
  have := (List.mem_filter.mp h).2
  simpa using this
theorem ok_merged (T : Tx K mg) : FnOk P w K mg base CX0 2 (He.fAd K d_merged.at_) (fdOf K (He.fAd K d_merged.at_)) ["lists"] (spMerged K) := by
  refine (F_merged T).ok sc_merged (fun vs H Q E h => ?_) (fun cdv A outer s H vs Q E hr h => ?_)
  · obtain ⟨_, _, _, _, _, rfl, _⟩ := h
    rfl
  · obtain ⟨p, rs, ls, n, fin, rfl, hp, hL, hlen, hll, hm, hn, k⟩ := h
    have hu := hu_of hr
    refine ⟨_, PSs.nox (pss_cons (ps_setLc (i := 1) (own := [("one", 5)]) (g := gName 5) (tt := _) rfl (sc_merged).nd rfl rfl (sw_true rfl rfl rfl (by decide +kernel)) (i_list (K := K) rfl (pv 0)) (blkOk_by (by kernel_rfl)) (fun _ _ _ _ _ => (pg_name (i := 5) (sc_merged).nd rfl (by first | exact Or.inl rfl | exact Or.inr rfl))) (fun _ _ _ _ _ => pts_one (pt_cmpR (o_neT (K := K) rfl hr.units) (pv 5) (pe_lst pa_nil) (nomark _))) (fun _ _ _ _ _ => (pe_callTy (k_list (K := K) rfl) (by rfl) (z_list T) (by decide +kernel) (pa_cons (pv 5) pa_nil))))
    (pss_cons (ps_set (i := 2) (sc_merged).nd rfl (Or.inl rfl) (pe_lst pa_nil))
    (pss_cons (ps_while PassesOwn.never (pt_cmpR (o_neT (K := K) rfl hr.units) (pv 1) (pe_lst pa_nil) (nomark _)) (pss_cons (ps_forE PassesOwn.never rfl (i_list (K := K) rfl (pv 1)) (pg_star (K := K) rfl rfl (pgs_cons (pg_name (i := 3) (sc_merged).nd rfl (Or.inr rfl)) (pgs_star (pg_name (i := 4) (sc_merged).nd rfl (Or.inl rfl)) pgs_nil))) (pss_one (ps_if (pt_val (pe_call (ok_can_be_first T) (hr.mono (by decide)) rfl (g_can_be_first T) (F_can_be_first T).kp (b_can_be_first T) .nil pass0 (pa_cons (pv 3) (pa_cons (pv 1) pa_nil)))) (pss_one ps_break) pss_nil)) (pss_one (ps_ret pe_non)))
    (pss_cons (ps_expr (w_append (K := K) rfl (pv 2) (pv 3)))
    (pss_cons (ps_setLc (i := 1) (own := [("one", 5)]) (g := gName 5) (tt := tYes) rfl (sc_merged).nd rfl rfl (sw_true rfl rfl rfl (by decide +kernel)) (i_list (K := K) rfl (pv 1)) (blkOk_by (by kernel_rfl)) (fun _ _ _ _ _ => (pg_name (i := 5) (sc_merged).nd rfl (by first | exact Or.inl rfl | exact Or.inr rfl))) (fun _ _ _ _ _ => pts_nil) (fun _ _ _ _ _ => (pe_lc (own := [("name", 6)]) (g := gName 6) (tt := _) rfl (sc_merged).nd (i_list (K := K) rfl (pv 5)) (blkOk_by (by kernel_rfl)) (fun _ _ _ _ _ => (pg_name (i := 6) (sc_merged).nd rfl (by first | exact Or.inl rfl | exact Or.inr rfl))) (fun _ _ _ _ _ => pts_one (pt_cmpR op_ne (pv 6) (pv 3) (nomark _))) (fun _ _ _ _ _ => (pv 6)))))
    (pss_one (ps_setLc (i := 1) (own := [("one", 5)]) (g := gName 5) (tt := _) rfl (sc_merged).nd rfl rfl (sw_true rfl rfl rfl (by decide +kernel)) (i_list (K := K) rfl (pv 1)) (blkOk_by (by kernel_rfl)) (fun _ _ _ _ _ => (pg_name (i := 5) (sc_merged).nd rfl (by first | exact Or.inl rfl | exact Or.inr rfl))) (fun _ _ _ _ _ => pts_one (pt_cmpR (o_neT (K := K) rfl hr.units) (pv 5) (pe_lst pa_nil) (nomark _))) (fun _ _ _ _ _ => (pv 5))))))))
    (pss_one (ps_ret (pv 2)))))), ?_⟩
    refine ⟨_, rfl, p, rfl, ⟨_, .of hp⟩, ?_⟩
    refine lcw (K := K) walk_list (fun D' H' (y : V) (l : List Str) => ∃ r : Addr, y = .ref r ∧ H' r = some (.lst (strL l)) ∧ r ≠ D') (fun i => (ls[i]?).bind fun l => if l ≠ [] then some l else none) (fun _ _ _ _ _ a ⟨r, h1, h2, h3⟩ => ⟨r, h1, a.lst h2 h3, h3⟩) (fun H e => ext_l e (.of hp)) (by rw [List.length_map, paired_len hL]; exact Nat.le_trans hlen (by decide)) (fun i x H2 H2' DD hi e2 y fD aD N0 N1 h0 h1 => ?_) (fun wa acc H2 fwa e2 hwa pr => ?_)
    · obtain ⟨rfl, hx⟩ := y
      rw [List.getElem?_map] at hx
      cases hr' : rs[i]? with
      | none => rw [hr'] at hx; cases hx
      | some r =>
        rw [hr'] at hx
        cases hx
        obtain ⟨l, hl, hrr⟩ := paired_get hL hr'
        rw [hl] at h0 h1
        refine ⟨rfl, _, rfl, Nat.zero_le _, fun em hem => ?_⟩
        have ee : Ext K H2' (upd H2' em (.lst [])) := .new hem (nt_lst _)
        have hr2 := (e2.trans ee).at hrr (nt_lst _)
        refine ⟨List Str, inferInstance, inferInstance, l, [], dp_strs hr2, dp_strs (xs := []) upd_same, by decide, _, rfl, ?_⟩
        refine ite2 (fun z => ?_) (fun z => ?_)
        · have z : l ≠ [] := @of_decide_eq_true _ (_) z
          refine ⟨_, rfl, r, strL l, rfl, .inl (.inl (.of hr2)), fun q hq => h1 l (if_pos z) _ _ (ee.trans (.new hq (nt_lst _))) ⟨q, rfl, upd_same, ?_⟩⟩
          exact (ne_fresh (ee.al _ aD) (fresh_none hq)).symm
        · exact h0 (if_neg fun y => z (@decide_eq_true _ (_) y)) _ ee
    rw [List.length_map, paired_len hL, range_bind, filterMap_filter] at pr
    obtain ⟨ws, rfl, hW⟩ := lists_out pr
    clear pr
    refine ⟨Nat.zero_le _, fun fa hfa => ?_⟩
    have e3 := e2.trans (Frm.new hfa (nt_lst []))
    have ffa : ¬ Al H fa := fresh_of e2 hfa
    have nwf : wa ≠ fa := ne_of_none hwa hfa
    refine ⟨fun m σ H' => ∃ (ls' : List (List Str)) (fs : List Str) (ws : List Addr) (wa : Addr) (rest : List Str) (x3 x4 x5 x6 : Option V), σ = [some (.ref p), some (.ref wa), some (.ref fa), x3, x4, x5, x6] ∧ Ext K H H' ∧ H' fa = some (.lst (strL fs)) ∧ H' wa = some (.lst (ws.map V.ref)) ∧ LsR H' ws (ne_ ls') ∧ wa ≠ fa ∧ (∀ r ∈ ws, r ≠ fa) ∧ ls'.length ≤ 100 ∧ (∀ l ∈ ls', l.length ≤ 100) ∧
      mrg m ls' = some rest ∧ fs ++ rest = fin ∧ m + fs.length ≤ 1000, ⟨n, ls, [], ws, wa, fin, _, _, _, _, rfl, e3, upd_same, Frm.at (K := K) (.new hfa (nt_lst [])) hwa (nt_lst _), hW.ext (K := K) (.new hfa (nt_lst [])), nwf, fun r hr z => ?_, hlen, hll, hm, rfl, by simpa using hn⟩, ?_⟩
    · obtain ⟨j, hj, rfl⟩ := List.getElem_of_mem hr
      obtain ⟨l, _, h⟩ := paired_get hW (List.getElem?_eq_getElem hj)
      rw [z, hfa] at h
      cases h
    clear hW hwa fwa e2 nwf hfa e3
    rintro m σ H1 ⟨ls1, fs, ws, wa, rest, x3, x4, x5, x6, rfl, e1, h1f, h1w, hW, nwf, nrf, hl1, hl2, hm1, hfin, hmf⟩
    have wlen : (ne_ ls1).length ≤ 100 := Nat.le_trans (List.length_filter_le _ _) hl1
    refine ⟨_, rfl, Nat.zero_le _, fun em hem => ?_⟩
    have ee : Ext K H1 (upd H1 em (.lst [])) := .new hem (nt_lst _)
    refine ⟨List (List Str), inferInstance, inferInstance, ne_ ls1, [], ?_, dp_strs (xs := []) upd_same, by decide, _, rfl, ?_⟩
    · exact .lst (.of (ee.at h1w (nt_lst _))) (ext_dps ee (hW.dp (K := K)))
    have e2 := e1.trans ee
    have h2f := ee.at h1f (nt_lst _)
    have h2w := ee.at h1w (nt_lst _)
    have hW2 := hW.ext ee
    generalize upd H1 em (.lst []) = H2 at ee e2 h2f h2w hW2
    clear hem h1f h1w hW e1 ee
    cases m with
    | zero => cases hm1
    | succ m =>
    have hm2 : (if ne_ ls1 = [] then some [] else match mgHead ls1 with
      | none => none
      | some h => (mrg m (rmH h ls1)).map (h :: ·)) = some rest := hm1
    refine ite2 (fun hne => ?_) (fun hne => ?_)
    · have hne : ne_ ls1 ≠ [] := @of_decide_eq_true _ (_) hne
      rw [if_neg hne] at hm2
      obtain ⟨hd, hhd⟩ : ∃ hd, mgHead ls1 = some hd := by
        cases z : mgHead ls1 with
        | none => rw [z] at hm2; cases hm2
        | some hd => exact ⟨hd, rfl⟩
      rw [hhd] at hm2
      obtain ⟨rest', hr', rfl⟩ := Option.map_eq_some_iff.mp hm2
      refine ⟨_, fun σ' H' z => z, ?_⟩
      have hne2 : ∀ l ∈ ne_ ls1, l ≠ [] := fun l hl => ne_mem hl
      have hh2 : mgHead (ne_ ls1) = some hd := by rw [mgHead_ne]; exact hhd
      refine ⟨_, rfl, wa, rfl, ⟨_, .of h2w⟩, ?_⟩
      have wk : Walk (Itl K wa) (ws.map V.ref).length (fun H' => SqL K H' wa (ws.map V.ref)) (YAt (ws.map V.ref)) := walk_list
      refine forE_by (ws.map V.ref).length (fun i σ H' => ∃ (x3 x4 : Option V), σ = [some (.ref p), some (.ref wa), some (.ref fa), x3, x4, x5, x6] ∧ Ext K H2 H' ∧ ∀ j l x, j < i → (ne_ ls1)[j]? = some l → l.head? = some x → canBe (ne_ ls1) x = false) ⟨_, _, rfl, .refl, fun j _ _ hj => absurd hj (Nat.not_lt_zero _)⟩
        (fun i σ H' hi ⟨_, _, _, e, _⟩ => wk.goes i H' hi (.inl (.of (e.at h2w (nt_lst _))))) (fun σ H' ⟨_, _, _, e, _⟩ => wk.stops H' (.inl (.of (e.at h2w (nt_lst _))))) ?_ ?_
      · rintro i x σ H3 H3' hi ⟨x3, x4, rfl, e3, hj⟩ yy
        obtain ⟨rfl, hx⟩ := wk.yields i H3 x H3' hi (.inl (.of (e3.at h2w (nt_lst _)))) yy
        rw [List.getElem?_map] at hx
        cases hr0 : ws[i]? with
        | none => rw [hr0] at hx; cases hx
        | some r =>
          rw [hr0] at hx
          cases hx
          obtain ⟨l, hl, hrr⟩ := paired_get hW2 hr0
          have lne := hne2 l (List.mem_of_getElem? hl)
          cases l with
          | nil => exact (lne rfl).elim
          | cons c l =>
            have hr3 := e3.at hrr (nt_lst _)
            refine ⟨r, .str c, strL l, rfl, .inl (.of hr3), ?_, fun d hd' => ?_⟩
            · have := hl2 _ (List.mem_filter.mp (List.mem_of_getElem? hl)).1
              rw [strL_length]
              rw [List.length_cons] at this
              omega
            have e4 : Ext K H3' (upd H3' d (.lst (strL l))) := .new hd' (nt_lst _)
            refine ⟨_, _, rfl, _, _, rfl, rfl, _, rfl, _, rfl, wa, ws, ne_ ls1, c, rfl, (e3.trans e4).at h2w (nt_lst _), hW2.ext (e3.trans e4), Nat.le_trans wlen (by decide), fun H5 e5 => ⟨_, rfl, ?_⟩⟩
            refine ite2 (fun z => ?_) (fun z => ?_)
            · have ec : c = hd := by
                have : mgHead (ne_ ls1) = some c := find_first (i := i) (by rw [heads_get hne2, hl]; rfl) z fun j y hj' hy => by
                  rw [heads_get hne2] at hy
                  cases q : (ne_ ls1)[j]? with
                  | none => rw [q] at hy; cases hy
                  | some l' =>
                    rw [q] at hy
                    exact hj j l' y hj' q hy
                rw [hh2] at this
                exact (Option.some.inj this).symm
              subst ec
              -- found.append(first)
              have e35 := (e3.trans e4).trans e5
              have h5f := e35.at h2f (nt_lst _)
              have u6 : Frm K (fun b => b = fa) H5 (upd H5 fa (.lst (strL fs ++ [.str c]))) := .mut h5f trivial rfl (nt_lst _)
              have E6 : Ext K H (upd H5 fa (.lst (strL fs ++ [.str c]))) := (e2.trans e35).mutNew ffa h5f trivial (nt_lst _)
              refine ⟨_, rfl, .inl ⟨rfl, _, .of h5f⟩, _, rfl, fa, _, _, rfl, rfl, h5f, ?_, ?_⟩
              · rw [strL_length]
                exact Nat.lt_of_le_of_lt (show fs.length ≤ 1000 by omega) (by decide)
              have h6f : (upd H5 fa (.lst (strL fs ++ [.str c]))) fa = some (.lst (strL (fs ++ [c]))) := by
                rw [upd_same, strL_append]
                rfl
              have h6w := u6.lst (e35.at h2w (nt_lst _)) nwf
              have hW6 : LsR (upd H5 fa (.lst (strL fs ++ [.str c]))) ws (ne_ ls1) := by
                have key : ∀ {rs : List Addr} {ls : List (List Str)}, LsR H2 rs ls → (∀ r ∈ rs, r ≠ fa) → LsR (upd H5 fa (.lst (strL fs ++ [.str c]))) rs ls := fun z => by
                  induction z with
                  | nil => exact fun _ => .nil
                  | cons h _ ih => exact fun g => .cons (u6.lst (e35.at h (nt_lst _)) (g _ (List.mem_cons_self ..))) (ih fun r hr => g r (List.mem_cons_of_mem _ hr))
                exact key hW2 nrf
              generalize upd H5 fa (.lst (strL fs ++ [.str c])) = H6 at u6 E6 h6f h6w hW6
              have A6 : Al H6 fa := al_of h6f (nt_lst _)
              refine ⟨_, rfl, wa, rfl, ⟨_, .of h6w⟩, ?_⟩
              refine lcw (K := K) walk_list (fun D' H' (y : V) (l : List Str) => ∃ r : Addr, y = .ref r ∧ H' r = some (.lst (strL l)) ∧ r ≠ D' ∧ ¬ Al H6 r) (fun i => ((ne_ ls1)[i]?).bind fun l => some (l.filter fun n => decide (n ≠ c))) (fun _ _ _ _ _ a ⟨r, h1, h2, h3⟩ => ⟨r, h1, a.lst h2 h3.1, h3⟩) (fun H e => ext_l e (.of h6w)) (by rw [List.length_map, paired_len hW6]; exact Nat.le_trans wlen (by decide)) (fun i x H7 H7' DD hi e7 y fD aD N0 N1 h0 h1 => ?_) (fun wb acc H7 fwb e7 hwb pr => ?_)
              · obtain ⟨rfl, hx⟩ := y
                rw [List.getElem?_map] at hx
                cases hr9 : ws[i]? with
                | none => rw [hr9] at hx; cases hx
                | some r =>
                  rw [hr9] at hx
                  cases hx
                  obtain ⟨l, hl, hrr⟩ := paired_get hW6 hr9
                  rw [hl] at h0 h1
                  have hr7 := e7.at hrr (nt_lst _)
                  have llen := hl2 l (List.mem_filter.mp (List.mem_of_getElem? hl)).1
                  refine ⟨rfl, _, rfl, r, rfl, ⟨_, .of hr7⟩, ?_⟩
                  refine lcS_str (K := K) walk_list (fun n => if n ≠ c then some n else none) (fun H e => ext_l e (.of hr7)) (Nat.le_trans llen (by decide)) (fun n hn H8 e8 N0' N1' g0 g1 => ?_) (fun D2 H8 f8 e8 h8 => ?_)
                  · refine ⟨rfl, _, rfl, _, rfl, rfl, _, rfl, ?_⟩
                    refine ite2 (fun z => ?_) (fun z => ?_)
                    · exact ⟨_, rfl, g1 n (if_pos (by simpa using z)) _ .refl⟩
                    · exact g0 (if_neg (by simpa using z)) _ .refl
                  · rw [filterMap_filter] at h8
                    exact h1 _ rfl _ _ e8 ⟨D2, rfl, h8, (ne_fresh aD f8).symm, fresh_back e7 f8⟩
              rw [List.length_map, paired_len hW6, range_bind, List.filterMap_eq_map'] at pr
              obtain ⟨wsb, rfl, hWb, hfb⟩ := lists_out2 pr
              clear pr
              have hlen7 : (ne_ ls1).map (fun l => l.filter fun n => decide (n ≠ c)) = rmH c (ne_ ls1) := rfl
              rw [hlen7] at hWb
              refine ⟨_, rfl, wb, rfl, ⟨_, .of hwb⟩, ?_⟩
              refine lcw (K := K) walk_list (fun D' H' (y : V) (l : List Str) => ∃ r : Addr, y = .ref r ∧ H' r = some (.lst (strL l)) ∧ r ≠ D' ∧ ¬ Al H6 r) (fun i => ((rmH c (ne_ ls1))[i]?).bind fun l => if l ≠ [] then some l else none) (fun _ _ _ _ _ a ⟨r, h1, h2, h3⟩ => ⟨r, h1, a.lst h2 h3.1, h3⟩) (fun H e => ext_l e (.of hwb)) (by rw [List.length_map, paired_len hWb]; show ((ne_ ls1).map _).length ≤ 10000; rw [List.length_map]; exact Nat.le_trans wlen (by decide)) (fun i x H8 H8' DD hi e8 y fD aD N0 N1 h0 h1 => ?_) (fun wc acc H8 fwc e8 hwc pr => ?_)
              · obtain ⟨rfl, hx⟩ := y
                rw [List.getElem?_map] at hx
                cases hr9 : wsb[i]? with
                | none => rw [hr9] at hx; cases hx
                | some r =>
                  rw [hr9] at hx
                  cases hx
                  obtain ⟨l, hl, hrr⟩ := paired_get hWb hr9
                  rw [hl] at h0 h1
                  refine ⟨rfl, _, rfl, Nat.zero_le _, fun em hem => ?_⟩
                  have ee : Ext K H8' (upd H8' em (.lst [])) := .new hem (nt_lst _)
                  have hr2 := (e8.trans ee).at hrr (nt_lst _)
                  refine ⟨List Str, inferInstance, inferInstance, l, [], dp_strs hr2, dp_strs (xs := []) upd_same, by decide, _, rfl, ?_⟩
                  refine ite2 (fun z => ?_) (fun z => ?_)
                  · have z : l ≠ [] := @of_decide_eq_true _ (_) z
                    refine ⟨_, rfl, h1 l (if_pos z) _ _ ee ⟨r, rfl, hr2, ?_, hfb r (List.mem_of_getElem? hr9)⟩⟩
                    exact ne_fresh (al_of hrr (nt_lst _)) fD
                  · exact h0 (if_neg fun y => z (@decide_eq_true _ (_) y)) _ ee
              rw [List.length_map, paired_len hWb, range_bind, filterMap_filter] at pr
              obtain ⟨wsc, rfl, hWc, hfc⟩ := lists_out2 pr
              clear pr
              have hWc : LsR H8 wsc (ne_ (rmH c (ne_ ls1))) := hWc
              rw [ne_rmH] at hWc
              have e68 := e7.trans e8
              refine ⟨m, Nat.lt_succ_self _, rmH c ls1, fs ++ [c], wsc, wc, rest', _, _, _, _, rfl, E6.trans e68, e68.at h6f (nt_lst _), hwc, hWc, ?_, fun r hr => ?_, ?_, fun l hl => ?_, hr', ?_, ?_⟩
              · exact (ne_fresh (e7.al _ A6) fwc).symm
              · exact (ne_fresh A6 (hfc r hr)).symm
              · show (ls1.map _).length ≤ 100
                rw [List.length_map]
                exact hl1
              · obtain ⟨l0, h0, rfl⟩ := List.mem_map.mp hl
                exact Nat.le_trans (List.length_filter_le _ _) (hl2 l0 h0)
              · rw [← hfin, List.append_assoc]
                rfl
              · rw [List.length_append]
                show m + (fs.length + 1) ≤ 1000
                omega
            · refine ⟨_, _, rfl, (e3.trans e4).trans e5, fun j l' y hj' hl' hy => ?_⟩
              by_cases ji : j = i
              · subst ji
                rw [hl] at hl'
                cases hl'
                cases hy
                simpa using z
              · exact hj j l' y (by omega) hl' hy
      · rintro σ H3 ⟨x3, x4, rfl, e3, hj⟩
        have : mgHead (ne_ ls1) = none := find_none fun j y hy => by
          rw [heads_get hne2] at hy
          cases q : (ne_ ls1)[j]? with
          | none => rw [q] at hy; cases hy
          | some l' =>
            rw [q] at hy
            exact hj j l' y (by rw [List.length_map, paired_len hW2]; exact (List.getElem?_eq_some_iff.mp q).1) q hy
        rw [hh2] at this
        cases this
    · have hne : ne_ ls1 = [] := Decidable.byContradiction fun z => hne (@decide_eq_true _ (_) z)
      rw [if_pos hne] at hm2
      cases hm2
      rw [List.append_nil] at hfin
      subst hfin
      exact ⟨_, rfl, k.go e2 ffa h2f⟩
end
end ST
set_option maxHeartbeats 4000000
namespace ST
open PySem PySem.Spec PyProof.Rows L2
open LamX (CodeO Tabs TabB)
abbrev letters : Str := "abcdefghijklmnopqrstuvwxyz"
def nameOk (n : Str) : Prop := 1 ≤ n.length ∧ n.length ≤ 8 ∧ ∀ c ∈ n.cps.toList, c ∈ letters.cps.toList
abbrev markOk (m : Str) : Prop := m ∈ (["plain", "abstract", "blocked"] : List Str)
section
variable {P : Program} {w : World} {K : PySem.W.Frag} {mg : Str → Option Value} {base : Heap}
def spName (K : PySem.W.Frag) : Sp := fun vs H Q _ => ∃ (n : Str), vs = [.str n] ∧ nameOk n ∧ RetV K (.bl true) H Q
theorem ok_is_name (T : Tx K mg) : FnOk P w K mg base CX0 1 (He.fAd K d_is_name.at_) (fdOf K (He.fAd K d_is_name.at_)) ["value"] (spName K) := by
  refine (F_is_name T).ok sc_is_name (fun vs H Q E h => ?_) (fun cdv A outer s H vs Q E hr h => ?_)
  · obtain ⟨_, rfl, _⟩ := h
    rfl
  · obtain ⟨n, rfl, ⟨h1, h2, h3⟩, k⟩ := h
    have hu := hu_of hr
    refine ⟨_, PSs.nox (pss_cons (ps_if (PW.pt (pw_or (pt_not (pt_val (pe_callB (k_isi (K := K) rfl) (by rfl) (z_isinstance T) (by decide +kernel) (pa_cons (pv 0) (pa_cons (pe_bltn (v := .ty "str") rfl (z_str T) (by decide +kernel) rfl) pa_nil))))) (pw_or1 (pt_not (pt_chain op_le op_le pe_int (pe_callB k_lenS (by rfl) (z_len T) (by decide +kernel) (pa_cons (pv 0) pa_nil)) (w_gint rfl (c_MOST_LETTERS T))))))) (pss_one (ps_ret pe_bl)) pss_nil)
    (pss_one (ps_ret (pe_callB (k_all (K := K) rfl rfl) (by rfl) (z_all T) (by decide +kernel) (pa_cons (pe_lc (own := [("letter", 1)]) (g := gName 1) (tt := tYes) rfl (sc_is_name).nd (pi_str (pv 0)) (blkOk_by (by kernel_rfl)) (fun _ _ _ _ _ => (pg_name (i := 1) (sc_is_name).nd rfl (by first | exact Or.inl rfl | exact Or.inr rfl))) (fun _ _ _ _ _ => pts_nil) (fun _ _ _ _ _ => (pe_cmpR op_in_sign (pv 1) (w_gstr rfl (c_LETTERS T)) (by rfl)))) pa_nil))))), ?_⟩
    refine ⟨_, rfl, .str n, .ty "str", _, _, true, rfl, .ty "str", .base (.str n), rfl, true, rfl, ?_⟩
    refine iteF ?_
    refine ⟨_, rfl, n, rfl, Nat.le_trans h2 (by decide), ?_⟩
    refine ⟨1, n.length, rfl, rfl, _, rfl, ?_⟩
    refine ite2 (fun _ => ?_) (fun z => (z (decide_eq_true (by omega))).elim)
    refine ⟨n.length, 8, rfl, rfl, _, rfl, ?_⟩
    refine ite2 (fun z => ?_) (fun _ => ?_)
    · have : ((n.length : Int) ≤ 8) := by omega
      rw [decide_eq_true this] at z
      cases z
    refine ⟨_, rfl, n, rfl, ?_⟩
    refine lcw_bl (K := K) walk_str (fun i => match n.cps[i]? with | some c => decide (c ∈ letters.cps.toList) | none => true) (fun H e => trivial) (Nat.le_trans h2 (by decide)) (fun i x H2 H2' hi e2 y N0 N1 g1 => ?_) (fun DD H2 fD e2 h => ?_)
    · obtain ⟨rfl, c, hc, rfl⟩ := y
      rw [hc] at g1
      exact ⟨rfl, _, rfl, c, _, rfl, rfl, g1 _ .refl⟩
    · refine ⟨DD, _, rfl, .of h, ?_⟩
      have e : ((List.range n.cps.size).map fun i => match n.cps[i]? with | some c => decide (c ∈ letters.cps.toList) | none => true).all id = true := by
        rw [List.all_map, List.all_eq_true]
        intro i hi
        have hi := List.mem_range.mp hi
        simp only [Function.comp, id, Array.getElem?_eq_getElem hi]
        exact decide_eq_true (h3 _ (by simp))
      rw [← e] at k
      exact k _ e2
def spMark (K : PySem.W.Frag) : Sp := fun vs H Q _ => ∃ (n : Str), vs = [.str n] ∧ markOk n ∧ RetV K (.bl true) H Q
theorem ok_is_mark (T : Tx K mg) : FnOk P w K mg base CX0 1 (He.fAd K d_is_mark.at_) (fdOf K (He.fAd K d_is_mark.at_)) ["value"] (spMark K) := by
  refine (F_is_mark T).ok sc_is_mark (fun vs H Q E h => ?_) (fun cdv A outer s H vs Q E hr h => ?_)
  · obtain ⟨_, rfl, _⟩ := h
    rfl
  · obtain ⟨n, rfl, h1, k⟩ := h
    have hu := hu_of hr
    refine ⟨_, PSs.nox (pss_one (ps_ret (pe_and (pe_callB (k_isi (K := K) rfl) (by rfl) (z_isinstance T) (by decide +kernel) (pa_cons (pv 0) (pa_cons (pe_bltn (v := .ty "str") rfl (z_str T) (by decide +kernel) rfl) pa_nil))) (pe_one (pe_cmpR (o_in (K := K) rfl) (pv 0) (pe_glob (v := .ref (He.ga K "MARKS")) rfl (g_MARKS T) rfl) (by rfl)))))), ?_⟩
    refine ⟨_, rfl, .str n, .ty "str", _, _, true, rfl, .ty "str", .base (.str n), rfl, true, rfl, iteT ?_⟩
    refine ⟨_, rfl, _, _, rfl, .inr (x_marks T H), rfl, rfl, ?_⟩
    have e : inV (.str n) [.str "plain", .str "abstract", .str "blocked"] = decide (n ∈ (["plain", "abstract", "blocked"] : List Str)) := inV_str n ["plain", "abstract", "blocked"]
    show Q (.bl (inV (.str n) [.str "plain", .str "abstract", .str "blocked"])) H
    rw [e, decide_eq_true h1]
    exact k _ .refl
def spLookMarks (K : PySem.W.Frag) : Sp := fun vs H Q _ => ∃ (am : Addr) (sg : List (Str × Str)), vs = [.ref am] ∧ PairsR H am sg ∧ sg.length ≤ 100 ∧ (∀ q ∈ sg, nameOk q.1 ∧ markOk q.2) ∧ (sg.map (·.1)).Nodup ∧ RetV K .non H Q
theorem ok_look_marks (T : Tx K mg) : FnOk P w K mg base CX0 2 (He.fAd K d_look_marks.at_) (fdOf K (He.fAd K d_look_marks.at_)) ["marks"] (spLookMarks K) := by
  refine (F_look_marks T).ok sc_look_marks (fun vs H Q E h => ?_) (fun cdv A outer s H vs Q E hr h => ?_)
  · obtain ⟨_, _, rfl, _⟩ := h
    rfl
  · obtain ⟨am, sg, rfl, ⟨rs, h1, h2⟩, hlen, hok, hnd, k⟩ := h
    have hu := hu_of hr
    refine ⟨_, PSs.nox (pss_cons (ps_set (i := 1) (sc_look_marks).nd rfl (Or.inl rfl) (pe_lst pa_nil))
    (pss_one (ps_for PassesOwn.never rfl (i_list (K := K) rfl (pv 0)) (pg_name (i := 2) (sc_look_marks).nd rfl (Or.inl rfl)) (pss_cons (ps_if (PW.pt (pw_or (pt_not (pt_val (pe_callB (k_isi (K := K) rfl) (by rfl) (z_isinstance T) (by decide +kernel) (pa_cons (pv 2) (pa_cons (pe_bltn (v := .ty "tuple") rfl (z_tuple T) (by decide +kernel) rfl) pa_nil))))) (pw_or (pt_cmpR op_ne (pe_callB (k_len (K := K) rfl) (by rfl) (z_len T) (by decide +kernel) (pa_cons (pv 2) pa_nil)) pe_int (nomark _)) (pw_or (pt_not (pt_val (pe_call (ok_is_name T) (hr.mono (by decide)) rfl (g_is_name T) (F_is_name T).kp (b_is_name T) .nil pass0 (pa_cons (pe_ix (x_t (K := K) rfl) (pv 2) pe_int (fun _ _ => rfl)) pa_nil)))) (pw_or1 (pt_not (pt_val (pe_call (ok_is_mark T) (hr.mono (by decide)) rfl (g_is_mark T) (F_is_mark T).kp (b_is_mark T) .nil pass0 (pa_cons (pe_ix (x_t (K := K) rfl) (pv 2) pe_int (fun _ _ => rfl)) pa_nil))))))))) (pss_one ps_never) pss_nil)
    (pss_cons (ps_if (pt_cmpR (o_in (K := K) rfl) (pe_ix (x_t (K := K) rfl) (pv 2) pe_int (fun _ _ => rfl)) (pv 1) (by rfl)) (pss_one ps_never) pss_nil)
    (pss_one (ps_expr (w_append (K := K) rfl (pv 1) (pe_ix (x_t (K := K) rfl) (pv 2) pe_int (fun _ _ => rfl)))))))))), ?_⟩
    refine ⟨Nat.zero_le _, fun kn hkn => ?_⟩
    have e0 : Ext K H (upd H kn (.lst [])) := .new hkn (nt_lst _)
    have fkn : ¬ Al H kn := fresh_none hkn
    refine ⟨_, rfl, am, rfl, ⟨_, .of (e0.at h1 (nt_lst _))⟩, ?_⟩
    refine for_it walk_list (fun i σ H' => ∃ x : Option V, σ = [some (.ref am), some (.ref kn), x] ∧ Ext K H H' ∧ H' kn = some (.lst (strL ((sg.take i).map (·.1))))) ⟨_, rfl, e0, upd_same⟩ (fun i σ H' _ ⟨_, _, h, _⟩ => .inl (.of (h.at h1 (nt_lst _)))) ?_ ?_
    · rintro i x σ H1 H1' hi ⟨_, rfl, e1, hk1⟩ ⟨rfl, hx⟩
      rw [List.getElem?_map] at hx
      cases hr9 : rs[i]? with
      | none => rw [hr9] at hx; cases hx
      | some r =>
        rw [hr9] at hx
        cases hx
        obtain ⟨q, hq, hrr⟩ := paired_get h2 hr9
        obtain ⟨o1, o2⟩ := hok q (List.mem_of_getElem? hq)
        have hr1 := e1.tup hrr
        have sq : ∀ {H' : Hp}, Ext K H1' H' → SqT K H' r [.str q.1, .str q.2] := fun e => .inl (.of (e.tup hr1))
        refine ⟨_, rfl, .ref r, .ty "tuple", _, _, true, rfl, .ty "tuple", .base (.tup hr1), rfl, true, rfl, ?_⟩
        refine iteF ?_
        refine ⟨_, rfl, r, _, rfl, .inr (sq .refl), rfl, _, rfl, ?_⟩
        refine iteF ?_
        refine ⟨_, rfl, r, _, 0, .str q.1, rfl, rfl, sq .refl, rfl, q.1, rfl, o1, fun H2 e2 => ⟨_, rfl, ?_⟩⟩
        refine iteF ?_
        refine ⟨_, rfl, r, _, 1, .str q.2, rfl, rfl, sq e2, rfl, q.2, rfl, o2, fun H3 e3 => ⟨_, rfl, ?_⟩⟩
        refine iteF ?_
        have e23 := e2.trans e3
        have hk3 := e23.at hk1 (nt_lst _)
        refine ⟨_, rfl, r, _, 0, .str q.1, rfl, rfl, sq e23, rfl, _, rfl, kn, _, rfl, .inl (.of hk3), rfl, flat_strL _, _, rfl, ?_⟩
        show if inV (.str q.1) (strL ((sg.take i).map (·.1))) = true then _ else _
        rw [inV_str]
        refine ite2 (fun z => ?_) (fun _ => ?_)
        · have z := of_decide_eq_true z
          obtain ⟨q', hq', e'⟩ := List.mem_map.mp z
          obtain ⟨j, hj, ej⟩ := List.getElem_of_mem hq'
          have hj2 : j < i := by rw [List.length_take] at hj; omega
          have e1 : (sg.map (·.1))[i]? = some q.1 := by rw [List.getElem?_map, hq]; rfl
          have e2 : (sg.map (·.1))[j]? = some q.1 := by
            rw [List.getElem_take] at ej
            have hl : j < sg.length := by
              have := (List.getElem?_eq_some_iff.mp hq).1
              omega
            rw [List.getElem?_map, List.getElem?_eq_getElem hl, ej, ← e']
            rfl
          have := nodup_ix hnd e1 e2
          omega
        · refine ⟨_, rfl, .inl ⟨rfl, _, .of hk3⟩, _, rfl, r, _, 0, .str q.1, rfl, rfl, sq e23, rfl, kn, _, _, rfl, rfl, hk3, ?_, ?_⟩
          · rw [strL_length, List.length_map, List.length_take]
            exact Nat.lt_of_le_of_lt (show min i sg.length ≤ 100 by omega) (by decide)
          · refine ⟨_, rfl, (e1.trans e23).mutNew fkn hk3 trivial (nt_lst _), ?_⟩
            rw [upd_same, List.take_succ, hq, List.map_append, strL_append]
            rfl
    · rintro σ H1 ⟨_, rfl, e1, _⟩
      exact k _ e1
def spLookBases (K : PySem.W.Frag) : Sp := fun vs H Q _ => ∃ (t ab : Addr) (D : List C) (bs : List Str), vs = [.ref t, .ref ab] ∧ TabR K H t D ∧ H ab = some (.tup (strL bs)) ∧ (∀ b ∈ bs, b ∈ nms D) ∧ bs.Nodup ∧ bs.length ≤ 100 ∧ RetV K .non H Q
theorem ok_look_bases (T : Tx K mg) : FnOk P w K mg base CX0 2 (He.fAd K d_look_bases.at_) (fdOf K (He.fAd K d_look_bases.at_)) ["table", "bases"] (spLookBases K) := by
  refine (F_look_bases T).ok sc_look_bases (fun vs H Q E h => ?_) (fun cdv A outer s H vs Q E hr h => ?_)
  · obtain ⟨_, _, _, _, rfl, _⟩ := h
    rfl
  · obtain ⟨t, ab, D, bs, rfl, hT, hb, hbs, hnd, hlen, k⟩ := h
    have hu := hu_of hr
    refine ⟨_, PSs.nox (pss_one (ps_for PassesOwn.never rfl (i_enumT (K := K) rfl rfl (z_enumerate T) (pa_cons (pv 1) pa_nil)) (g_tup (K := K) rfl rfl (pgs_cons (pg_name (i := 2) (sc_look_bases).nd rfl (Or.inl rfl)) (pgs_cons (pg_name (i := 3) (sc_look_bases).nd rfl (Or.inl rfl)) pgs_nil))) (pss_cons (ps_if (pt_not (pt_val (pe_meth (pv 0) (cl_Table T) (m_Table_has T) (ok_Table_has T) (hr.mono (by decide)) (b_Table_has T) .nil pass0 (pa_cons (pv 3) pa_nil)))) (pss_one ps_never) pss_nil)
    (pss_one (ps_if (pt_cmpR (o_in (K := K) rfl) (pv 3) (pe_slice (l_t (K := K) rfl) (pv 1) po_none (po_some (pv 2))) (by rfl)) (pss_one ps_never) pss_nil))))), ?_⟩
    refine ⟨_, rfl, ab, _, rfl, .inl (.of hb), ?_⟩
    refine for_it walk_enumT (fun i σ H' => ∃ x y : Option V, σ = [some (.ref t), some (.ref ab), x, y] ∧ Ext K H H') ⟨_, _, rfl, .refl⟩ (fun i σ H' _ ⟨_, _, _, h⟩ => .inl (.of (h.tup hb))) ?_ ?_
    · rintro i x σ H1 H1' hi ⟨_, _, rfl, e1⟩ ⟨Tt, a, b, rfl, hT0, rfl, ha, hbx⟩
      cases ha
      obtain ⟨n, hn, rfl, nm⟩ := strL_get hbx
      have e2 : Ext K H1 (upd H1 Tt (.tup [.int (i : Nat), .str n])) := .new hT0 (nt_tup _)
      have e12 := e1.trans e2
      obtain ⟨dx, dr, dn, dl, mm, ls, g1, _⟩ := id (hT.ext e12)
      refine ⟨Tt, _, rfl, .inl (.of upd_same), rfl, _, _, rfl, _, _, rfl, rfl, ?_⟩
      refine ⟨_, rfl, t, dx, _, rfl, g1, rfl, _, rfl, t, D, n, rfl, hT.ext e12, fun H2 e3 => ⟨_, rfl, ?_⟩⟩
      rw [decide_eq_true (hbs n nm)]
      refine iteF ?_
      have hb2 := (e12.trans e3).tup hb
      have key : decide (n ∈ bs.take i) = false := by
        refine decide_eq_false fun z => ?_
        obtain ⟨j, hj, ej⟩ := List.getElem_of_mem z
        have hj2 : j < i := by rw [List.length_take] at hj; omega
        rw [List.getElem_take] at ej
        have hl : j < bs.length := by
          have := (List.getElem?_eq_some_iff.mp hn).1
          omega
        have := nodup_ix hnd hn (by rw [List.getElem?_eq_getElem hl, ej])
        omega
      have cut : cutV (strL bs) none (some (i : Int)) = strL (bs.take i) := by
        unfold cutV
        rw [HT.sIx_none, HT.sIx_nat, strL_length, List.drop_zero, Nat.sub_zero, Nat.min_eq_left (by
          have := (List.getElem?_eq_some_iff.mp hn).1
          omega)]
        exact List.map_take.symm
      refine ⟨_, rfl, _, rfl, _, rfl, _, rfl, ab, strL bs, rfl, .inl (.of hb2), fun z => ?_, fun z q hq => ?_⟩
      · exfalso
        have z := z.2
        rw [HT.sIx_nat, strL_length] at z
        have := (List.getElem?_eq_some_iff.mp hn).1
        omega
      · rw [cut]
        refine ⟨q, _, rfl, .inr (.inl (.of upd_same)), rfl, flat_strL _, _, rfl, ?_⟩
        show if inV (.str n) (strL (bs.take i)) = true then _ else _
        rw [inV_str, key]
        exact iteF ⟨_, _, rfl, (e12.trans e3).trans (.new hq (nt_tup _))⟩
    · rintro σ H1 ⟨_, _, rfl, e1⟩
      exact k _ e1
end
end ST
set_option maxHeartbeats 4000000
namespace ST
open PySem PySem.Spec PyProof.Rows L2
open LamX (CodeO Tabs TabB)
theorem dget_ext {K : PySem.W.Frag} {H H' : Hp} (a : Ext K H H') {d : Addr} {y : V} {ov : Option V} (h : DGet H d y ov) : DGet H' d y ov := by
  rcases h with ⟨kvs, k, h1, h2, h3⟩ | ⟨kvs, k, b, h1, h2, h3, h4⟩
  · exact .inl ⟨kvs, k, ext_rd a (nt_dK _) h1, h2, h3⟩
  · exact .inr ⟨kvs, k, b, ext_rd a (fun ps e => by cases e) h1, h2, a.tup h3, h4⟩
def clOk (q : List Str × Bool) : Prop := (∀ m ∈ q.1, nameOk m) ∧ q.1.Nodup ∧ q.1.length ≤ 50
def hkOk (h : Hk) : Prop := h ≠ [] ∧ h.length ≤ 50 ∧ ∀ q ∈ h, clOk q
section
variable {P : Program} {w : World} {K : PySem.W.Frag} {mg : Str → Option Value} {base : Heap}
def spClause (K : PySem.W.Frag) : Sp := fun vs H Q _ => ∃ (r m : Addr) (q : List Str × Bool), vs = [.ref r] ∧ H r = some (.tup [.ref m, .bl q.2]) ∧ H m = some (.tup (strL q.1)) ∧ clOk q ∧ RetV K (.bl true) H Q
theorem ok_is_clause (T : Tx K mg) : FnOk P w K mg base CX0 2 (He.fAd K d_is_clause.at_) (fdOf K (He.fAd K d_is_clause.at_)) ["value"] (spClause K) := by
  refine (F_is_clause T).ok sc_is_clause (fun vs H Q E h => ?_) (fun cdv A outer s H vs Q E hr h => ?_)
  · obtain ⟨_, _, _, rfl, _⟩ := h
    rfl
  · obtain ⟨r, m, q, rfl, h1, h2, ⟨o1, o2, o3⟩, k⟩ := h
    have hu := hu_of hr
    refine ⟨_, PSs.nox (pss_cons (ps_if (PW.pt (pw_or (pt_not (pt_val (pe_callB (k_isi (K := K) rfl) (by rfl) (z_isinstance T) (by decide +kernel) (pa_cons (pv 0) (pa_cons (pe_bltn (v := .ty "tuple") rfl (z_tuple T) (by decide +kernel) rfl) pa_nil))))) (pw_or1 (pt_cmpR op_ne (pe_callB (k_len (K := K) rfl) (by rfl) (z_len T) (by decide +kernel) (pa_cons (pv 0) pa_nil)) pe_int (nomark _))))) (pss_one (ps_ret pe_bl)) pss_nil)
    (pss_cons (ps_asg (pv 0) (g_tup (K := K) rfl rfl (pgs_cons (pg_name (i := 1) (sc_is_clause).nd rfl (Or.inl rfl)) (pgs_cons (pg_name (i := 2) (sc_is_clause).nd rfl (Or.inl rfl)) pgs_nil))))
    (pss_cons (ps_if (PW.pt (pw_or (pt_not (pt_val (pe_callB (k_isi (K := K) rfl) (by rfl) (z_isinstance T) (by decide +kernel) (pa_cons (pv 1) (pa_cons (pe_bltn (v := .ty "tuple") rfl (z_tuple T) (by decide +kernel) rfl) pa_nil))))) (pw_or1 (pt_not (pt_val (pe_callB (k_isi (K := K) rfl) (by rfl) (z_isinstance T) (by decide +kernel) (pa_cons (pv 2) (pa_cons (pe_bltn (v := .ty "bool") rfl (z_bool T) (by decide +kernel) rfl) pa_nil)))))))) (pss_one (ps_ret pe_bl)) pss_nil)
    (pss_one (ps_ret (pe_and (pe_callB (k_all (K := K) rfl rfl) (by rfl) (z_all T) (by decide +kernel) (pa_cons (pe_lc (own := [("method", 3)]) (g := gName 3) (tt := tYes) rfl (sc_is_clause).nd (i_tup (K := K) rfl (pv 1)) (blkOk_by (by kernel_rfl)) (fun _ _ _ _ _ => (pg_name (i := 3) (sc_is_clause).nd rfl (by first | exact Or.inl rfl | exact Or.inr rfl))) (fun _ _ _ _ _ => pts_nil) (fun _ _ _ _ _ => (pe_call (ok_is_name T) (hr.mono (by decide)) rfl (g_is_name T) (F_is_name T).kp (b_is_name T) .nil pass0 (pa_cons (pv 3) pa_nil)))) pa_nil)) (pe_one (pe_cmpR op_eq (pe_callB k_lenX (by rfl) (z_len T) (by decide +kernel) (pa_cons (pe_callTy (k_setX (K := K) rfl rfl) (by rfl) (z_set T) (by decide +kernel) (pa_cons (pv 1) pa_nil)) pa_nil)) (pe_callB (k_len (K := K) rfl) (by rfl) (z_len T) (by decide +kernel) (pa_cons (pv 1) pa_nil)) (nomark _))))))))), ?_⟩
    refine ⟨_, rfl, .ref r, .ty "tuple", _, _, true, rfl, .ty "tuple", .base (.tup h1), rfl, true, rfl, ?_⟩
    refine iteF ?_
    refine ⟨_, rfl, r, _, rfl, .inr (.inl (.of h1)), rfl, _, rfl, ?_⟩
    refine iteF ?_
    refine ⟨_, rfl, r, _, rfl, .inl (.of h1), rfl, _, _, rfl, _, _, rfl, rfl, ?_⟩
    refine ⟨_, rfl, .ref m, .ty "tuple", _, _, true, rfl, .ty "tuple", .base (.tup h2), rfl, true, rfl, ?_⟩
    refine iteF ?_
    refine ⟨_, rfl, .bl q.2, .ty "bool", _, _, true, rfl, .ty "bool", .base (.bl q.2), rfl, true, rfl, ?_⟩
    refine iteF ?_
    refine ⟨_, rfl, m, rfl, ⟨_, .inl (.of h2)⟩, ?_⟩
    refine lcS_bl (K := K) walk_tup (fun _ => true) (fun H e => ext_t e (.inl (.of h2))) (Nat.le_trans o3 (by decide)) (fun n hn H3 e3 N0 N1 h3 => ?_) (fun L H3 f e3 h => ?_)
    · exact ⟨rfl, _, rfl, n, rfl, o1 n hn, fun H4 e4 => h3 _ e4⟩
    · refine ⟨L, _, rfl, .of h, true, ?_, iteT ?_⟩
      · rw [List.all_map]
        have : q.1.all (id ∘ fun _ => true) = true := List.all_eq_true.mpr fun _ _ => rfl
        rw [this]
      have h2' := e3.tup h2
      refine ⟨_, rfl, m, q.1, rfl, .inr (.inl (.of h2')), Nat.le_trans o3 (by decide), fun a l ha _ _ hl => ?_⟩
      have e4 : Ext K H3 (upd H3 a (SetXO P w a l)) := .new ha (nt_setX _ _ _ _)
      have ll := hl o2
      refine ⟨a, l, rfl, upd_same, by rw [ll]; exact Nat.le_trans o3 (by decide), ?_⟩
      refine ⟨_, rfl, m, _, rfl, .inr (.inl (.of (e4.tup h2'))), rfl, ?_⟩
      rw [ll, strL_length]
      rw [decide_eq_true rfl]
      exact k _ (e3.trans e4)
theorem dp_hook {K : PySem.W.Frag} {H : Hp} : ∀ {rs : List Addr} {h : Hk}, Paired (fun (r : Addr) (c : List Str × Bool) => ∃ m : Addr, H r = some (.tup [.ref m, .bl c.2]) ∧ H m = some (.tup (strL c.1))) rs h → DpAll K H (rs.map V.ref) (h.map fun q => .tuple [.tuple (q.1.map PyData.str), .bool q.2])
  | _, _, .nil => .nil
  | _, _, .cons ⟨m, h1, h2⟩ r => .cons (.tup (.of h1) (.cons (.tup (.of h2) (dps_strs _)) (.cons (.bl _) .nil))) (dp_hook r)
def spHookF (K : PySem.W.Frag) : Sp := fun vs H Q _ => ∃ (hv : V) (h : Hk), vs = [hv] ∧ HkR H hv (some h) ∧ hkOk h ∧ RetV K .non H Q
abbrev dHk : PySem.W.Datum (PySem.W.Tup (PySem.W.Tup Str × Bool)) := inferInstance
theorem ok_hook_fault (T : Tx K mg) : FnOk P w K mg base CX0 3 (He.fAd K d_hook_fault.at_) (fdOf K (He.fAd K d_hook_fault.at_)) ["value"] (spHookF K) := by
  refine (F_hook_fault T).ok sc_hook_fault (fun vs H Q E h => ?_) (fun cdv A outer s H vs Q E hr h => ?_)
  · obtain ⟨_, _, rfl, _⟩ := h
    rfl
  · obtain ⟨hv, h, rfl, ⟨a, rs, rfl, h1, h2⟩, ⟨o1, o2, o3⟩, k⟩ := h
    have hu := hu_of hr
    refine ⟨_, PSs.nox (pss_cons (ps_if (PW.pt (pw_or (pt_not (pt_val (pe_callB (k_isi (K := K) rfl) (by rfl) (z_isinstance T) (by decide +kernel) (pa_cons (pv 0) (pa_cons (pe_bltn (v := .ty "tuple") rfl (z_tuple T) (by decide +kernel) rfl) pa_nil))))) (pw_or1 (pt_cmpR (o_eqT (K := K) rfl hr.units) (pv 0) (pe_tup pa_nil) (nomark _))))) (pss_one (ps_ret (pe_un un_neg pe_int))) pss_nil)
    (pss_cons (ps_for PassesOwn.never rfl (i_enumT (K := K) rfl rfl (z_enumerate T) (pa_cons (pv 0) pa_nil)) (g_tup (K := K) rfl rfl (pgs_cons (pg_name (i := 1) (sc_hook_fault).nd rfl (Or.inl rfl)) (pgs_cons (pg_name (i := 2) (sc_hook_fault).nd rfl (Or.inl rfl)) pgs_nil))) (pss_one (ps_if (pt_not (pt_val (pe_call (ok_is_clause T) (hr.mono (by decide)) rfl (g_is_clause T) (F_is_clause T).kp (b_is_clause T) .nil pass0 (pa_cons (pv 2) pa_nil)))) (pss_one (ps_ret (pv 1))) pss_nil)))
    (pss_one (ps_ret pe_non)))), ?_⟩
    refine ⟨_, rfl, .ref a, .ty "tuple", _, _, true, rfl, .ty "tuple", .base (.tup h1), rfl, true, rfl, ?_⟩
    refine iteF ?_
    refine ⟨_, rfl, Nat.zero_le _, fun em hem => ?_⟩
    have ee : Ext K H (upd H em (.tup [])) := .new hem (nt_tup _)
    refine ⟨PySem.W.Tup (PySem.W.Tup Str × Bool), inferInstance, dHk, ⟨h.map fun q => (⟨q.1⟩, q.2)⟩, ⟨[]⟩, ?_, .tup (.of upd_same) .nil, by decide, _, rfl, ?_⟩
    · have := dp_hook (K := K) h2
      refine ext_dp ee ?_
      show Dp K H (.ref a) (.tuple ((h.map fun q => ((⟨q.1⟩, q.2) : PySem.W.Tup Str × Bool)).map fun p => .tuple [.tuple (p.1.items.map PyData.str), .bool p.2]))
      refine .tup (.of h1) ?_
      rw [List.map_map]
      exact this
    refine ite2 (fun z => ?_) (fun _ => ?_)
    · have z := @of_decide_eq_true _ (_) z
      have := congrArg PySem.W.Tup.items z
      exact (o1 (List.map_eq_nil_iff.mp this)).elim
    refine ⟨_, rfl, a, _, rfl, .inl (.of (ee.tup h1)), ?_⟩
    refine for_it walk_enumT (fun i σ H' => ∃ x y : Option V, σ = [some (.ref a), x, y] ∧ Ext K H H') ⟨_, _, rfl, ee⟩ (fun i σ H' _ ⟨_, _, _, h⟩ => .inl (.of (h.tup h1))) ?_ ?_
    · rintro i x σ H1 H1' hi ⟨_, _, rfl, e1⟩ ⟨Tt, ai, b, rfl, hT0, rfl, ha, hbx⟩
      cases ha
      have hbx : (rs.map V.ref)[i]? = some b := hbx
      rw [List.getElem?_map] at hbx
      cases hr9 : rs[i]? with
      | none => rw [hr9] at hbx; cases hbx
      | some r =>
        rw [hr9] at hbx
        cases hbx
        obtain ⟨q, hq, m, z1, z2⟩ := paired_get h2 hr9
        have e2 : Ext K H1 (upd H1 Tt (.tup [.int (i : Nat), .ref r])) := .new hT0 (nt_tup _)
        have e12 := e1.trans e2
        refine ⟨Tt, _, rfl, .inl (.of upd_same), rfl, _, _, rfl, _, _, rfl, rfl, ?_⟩
        refine ⟨_, rfl, r, m, q, rfl, e12.tup z1, e12.tup z2, o3 q (List.mem_of_getElem? hq), fun H2 e3 => ⟨_, rfl, ?_⟩⟩
        exact iteF ⟨_, _, rfl, e12.trans e3⟩
    · rintro σ H1 ⟨_, _, rfl, e1⟩
      exact k _ e1
def spLookHook (K : PySem.W.Frag) : Sp := fun vs H Q _ => ∃ (hv : V) (o : Option Hk) (b : Bool), vs = [hv, .bl b] ∧ HkR H hv o ∧ (∀ h, o = some h → hkOk h ∧ b = true) ∧ RetV K .non H Q
theorem ok_look_hook (T : Tx K mg) : FnOk P w K mg base CX0 4 (He.fAd K d_look_hook.at_) (fdOf K (He.fAd K d_look_hook.at_)) ["hook", "is_allowed"] (spLookHook K) := by
  refine (F_look_hook T).ok sc_look_hook (fun vs H Q E h => ?_) (fun cdv A outer s H vs Q E hr h => ?_)
  · obtain ⟨_, _, _, rfl, _⟩ := h
    rfl
  · obtain ⟨hv, o, b, rfl, hR, ho, k⟩ := h
    have hu := hu_of hr
    refine ⟨_, PSs.nox (pss_cons (ps_if (pt_cmpR op_isN (pv 0) pe_non (nomark _)) (pss_one ps_retN) pss_nil)
    (pss_cons (ps_set (i := 2) (sc_look_hook).nd rfl (Or.inl rfl) (pe_call (ok_hook_fault T) (hr.mono (by decide)) rfl (g_hook_fault T) (F_hook_fault T).kp (b_hook_fault T) .nil pass0 (pa_cons (pv 0) pa_nil)))
    (pss_cons (ps_if (pt_cmpR op_notN (pv 2) pe_non (nomark _)) (pss_one ps_never) pss_nil)
    (pss_one (ps_if (pt_not (pt_val (pv 1))) (pss_one ps_never) pss_nil))))), ?_⟩
    cases o with
    | none =>
      have hR : hv = .non := hR
      subst hR
      exact ⟨_, rfl, rfl, _, rfl, iteT (k _ .refl)⟩
    | some h =>
      obtain ⟨h1, rfl⟩ := ho h rfl
      obtain ⟨a, rs, rfl, h2, h3⟩ := id hR
      refine ⟨_, rfl, rfl, _, rfl, iteF ?_⟩
      refine ⟨_, rfl, .ref a, h, rfl, hR, h1, fun H1 e1 => ?_⟩
      refine ⟨_, rfl, rfl, _, rfl, iteF ?_⟩
      refine ⟨_, rfl, true, rfl, ?_⟩
      exact iteF (k _ e1)
def spNewE (K : PySem.W.Frag) : Sp := fun vs H Q _ => ∃ (t ab am : Addr) (D : List C) (n : Str) (bs rest : List Str) (ow pa : Bool) (hv : V) (hk : Option Hk) (sg : List (Str × Str)) (j : Nat), vs = [.ref t, .str n, .ref ab, .bl ow, .ref am, hv, .bl pa] ∧ TabR K H t D ∧ Wf D ∧ nameOk n ∧ n ∉ nms D ∧
  H ab = some (.tup (strL bs)) ∧ (∀ b ∈ bs, b ∈ nms D) ∧ bs.Nodup ∧ bs.length ≤ 10 ∧ PairsR H am sg ∧ sg.length ≤ 100 ∧ (∀ q ∈ sg, nameOk q.1 ∧ markOk q.2) ∧ (sg.map (·.1)).Nodup ∧ HkR H hv hk ∧ (∀ h, hk = some h → hkOk h ∧ (ow = true ∨ ∃ b ∈ bs, sw D b = true)) ∧
  mrg j ((bs.map fun b => (at_ D b).ln) ++ [bs]) = some rest ∧ j ≤ 1000 ∧ rest.length ≤ 1000 ∧ ∀ e H', Ext K H H' → EntR K (fun b => ¬ Al H b) H' e ⟨n, bs, ow, hk, pa, n :: rest, []⟩ → Q (.ref e) H'
theorem ok_new_entry (T : Tx K mg) : FnOk P w K mg base CX0 5 (He.fAd K d_new_entry.at_) (fdOf K (He.fAd K d_new_entry.at_)) ["table", "name", "bases", "sworn", "marks", "hook", "passed"] (spNewE K) := by
  refine (F_new_entry T).ok sc_new_entry (fun vs H Q E h => ?_) (fun cdv A outer s H vs Q E hr h => ?_)
  · obtain ⟨_, _, _, _, _, _, _, _, _, _, _, _, _, rfl, _⟩ := h
    rfl
  · obtain ⟨t, ab, am, D, n, bs, rest, ow, pa, hv, hk, sg, j, rfl, hT, wf, hn, hnD, hb, hbs, hbnd, hbl, hM, hsl, hsg, hsnd, hH, hho, hmrg, hj, hrl, k⟩ := h
    have hu := hu_of hr
    refine ⟨_, PSs.nox (pss_cons (ps_if (pt_not (pt_val (pe_call (ok_is_name T) (hr.mono (by decide)) rfl (g_is_name T) (F_is_name T).kp (b_is_name T) .nil pass0 (pa_cons (pv 1) pa_nil)))) (pss_one ps_never) pss_nil)
    (pss_cons (ps_if (pt_val (pe_meth (pv 0) (cl_Table T) (m_Table_has T) (ok_Table_has T) (hr.mono (by decide)) (b_Table_has T) .nil pass0 (pa_cons (pv 1) pa_nil))) (pss_one ps_never) pss_nil)
    (pss_cons (ps_expr (pe_call (ok_look_bases T) (hr.mono (by decide)) rfl (g_look_bases T) (F_look_bases T).kp (b_look_bases T) .nil pass0 (pa_cons (pv 0) (pa_cons (pv 2) pa_nil))))
    (pss_cons (ps_if (pt_not (pt_val (pe_callB (k_isiT (K := K) rfl) (by rfl) (z_isinstance T) (by decide +kernel) (pa_cons (pv 4) (pa_cons (pe_tup (pa_cons (pe_bltn (v := .ty "list") rfl (z_list T) (by decide +kernel) rfl) (pa_cons (pe_bltn (v := .ty "tuple") rfl (z_tuple T) (by decide +kernel) rfl) pa_nil))) pa_nil))))) (pss_one ps_never) pss_nil)
    (pss_cons (ps_expr (pe_call (ok_look_marks T) (hr.mono (by decide)) rfl (g_look_marks T) (F_look_marks T).kp (b_look_marks T) .nil pass0 (pa_cons (pv 4) pa_nil)))
    (pss_cons (ps_expr (pe_call (ok_look_hook T) (hr.mono (by decide)) rfl (g_look_hook T) (F_look_hook T).kp (b_look_hook T) .nil pass0 (pa_cons (pv 5) (pa_cons (pe_or (pv 3) (pe_one (pe_callB (k_any (K := K) rfl rfl) (by rfl) (z_any T) (by decide +kernel) (pa_cons (pe_lc (own := [("base", 8)]) (g := gName 8) (tt := tYes) rfl (sc_new_entry).nd (i_tup (K := K) rfl (pv 2)) (blkOk_by (by kernel_rfl)) (fun _ _ _ _ _ => (pg_name (i := 8) (sc_new_entry).nd rfl (by first | exact Or.inl rfl | exact Or.inr rfl))) (fun _ _ _ _ _ => pts_nil) (fun _ _ _ _ _ => (pe_call (ok_is_sworn T) (hr.mono (by decide)) rfl (g_is_sworn T) (F_is_sworn T).kp (b_is_sworn T) .nil pass0 (pa_cons (w_fld (K := K) rfl (pv 0)) (pa_cons (pv 8) pa_nil))))) pa_nil)))) pa_nil))))
    (pss_cons (ps_set (i := 7) (sc_new_entry).nd rfl (Or.inl rfl) (pe_call (ok_merged T) (hr.mono (by decide)) rfl (g_merged T) (F_merged T).kp (b_merged T) .nil pass0 (pa_cons (pe_op op_cat (pe_lc (own := [("base", 8)]) (g := gName 8) (tt := tYes) rfl (sc_new_entry).nd (i_tup (K := K) rfl (pv 2)) (blkOk_by (by kernel_rfl)) (fun _ _ _ _ _ => (pg_name (i := 8) (sc_new_entry).nd rfl (by first | exact Or.inl rfl | exact Or.inr rfl))) (fun _ _ _ _ _ => pts_nil) (fun _ _ _ _ _ => (w_fld (K := K) rfl (pe_dget hu (w_fld (K := K) rfl (pv 0)) (pv 8) (fun _ _ => rfl))))) (pe_lst (pa_cons (pe_callTy (k_list (K := K) rfl) (by rfl) (z_list T) (by decide +kernel) (pa_cons (pv 2) pa_nil)) pa_nil))) pa_nil)))
    (pss_cons (ps_if (pt_cmpR op_isN (pv 7) pe_non (nomark _)) (pss_one ps_never) pss_nil)
    (pss_one (ps_ret (pe_make (mk_Entry T) (ok_Entry_init T) (hr.mono (by decide)) rfl (g_Entry T) (b_Entry_init T) .nil pass0 (pa_cons (pv 1) (pa_cons (pv 2) (pa_cons (pv 3) (pa_cons (pv 4) (pa_cons (pv 5) (pa_cons (pv 6) (pa_cons (pe_op op_cat (pe_lst (pa_cons (pv 1) pa_nil)) (pv 7)) pa_nil)))))))))))))))))), ?_⟩
    refine ⟨_, rfl, n, rfl, hn, fun H1 e1 => ⟨_, rfl, ?_⟩⟩
    refine iteF ?_
    obtain ⟨dx, dr, dn, dl, mm, ls, g1, _⟩ := id (hT.ext e1)
    refine ⟨_, rfl, t, dx, _, rfl, g1, rfl, _, rfl, t, D, n, rfl, hT.ext e1, fun H2 e2 => ⟨_, rfl, ?_⟩⟩
    rw [decide_eq_false hnD]
    refine iteF ?_
    have e02 := e1.trans e2
    refine ⟨_, rfl, _, rfl, t, ab, D, bs, rfl, hT.ext e02, e02.tup hb, hbs, hbnd, Nat.le_trans hbl (by decide), fun H3 e3 => ?_⟩
    have e03 := e02.trans e3
    have hM3 := hM.frm e03 (fun z => z)
    obtain ⟨mrs, hm1, hm2⟩ := id hM3
    refine ⟨_, rfl, Nat.le_of_ble_eq_true rfl, fun tp htp => ?_⟩
    have e4 : Ext K H3 (upd H3 tp (.tup [.ty "list", .ty "tuple"])) := .new htp (nt_tup _)
    refine ⟨.ref am, tp, [.ty "list", .ty "tuple"], .type "list", [.type "list", .type "tuple"], true, rfl, upd_same, .cons (.ty "list") (.cons (.ty "tuple") .nil), .base (.lst (e4.at hm1 (nt_lst _))), rfl, true, rfl, ?_⟩
    refine iteF ?_
    have e04 := e03.trans e4
    refine ⟨_, rfl, am, sg, rfl, hM.frm e04 (fun z => z), hsl, hsg, hsnd, fun H5 e5 => ?_⟩
    have e05 := e04.trans e5
    refine ⟨_, rfl, _, rfl, ow, rfl, ?_⟩
    have hb5 := e05.tup hb
    cases ow
    case' false =>
      refine iteF ⟨_, rfl, ab, rfl, ⟨_, .inl (.of hb5)⟩, ?_⟩
      refine lcS_bl (K := K) walk_tup (sw D) (fun H e => ext_t e (.inl (.of hb5))) (Nat.le_trans hbl (by decide)) (fun b hbm H6 e6 N0 N1 h6 => ?_) (fun L H6 f e6 h => ?_)
      · obtain ⟨dx6, dr6, dn6, dl6, mm6, ls6, g6, g7, _⟩ := id (hT.ext (e05.trans e6))
        exact ⟨rfl, _, rfl, t, _, dx6, _, _, rfl, g6, cl_Table T, na_Table_records T, rfl, _, rfl, dr6, D, b, rfl, g7.r, wf, hbs b hbm, fun H7 e7 => h6 _ e7⟩
      refine ⟨L, _, rfl, .of h, ?_⟩
      rw [List.any_map]
    case' true =>
      have e6 : Ext K H5 H5 := .refl
      refine iteT ?_
    all_goals
      refine ⟨hv, hk, _, rfl, hH.frm (e05.trans e6), fun h hh => ⟨(hho h hh).1, ?_⟩, fun H7 e7 => ?_⟩
      · first
        | rfl
        | exact List.any_eq_true.mpr (((hho h hh).2).resolve_left (by decide))
      have e07 := (e05.trans e6).trans e7
      have hb7 := e07.tup hb
      clear e05 e6 e7 hb5
      refine ⟨_, rfl, ab, rfl, ⟨_, .inl (.of hb7)⟩, ?_⟩
      refine lcS (K := K) walk_tup (fun D' H' (y : V) (l : List Str) => ∃ r : Addr, y = .ref r ∧ H' r = some (.lst (strL l)) ∧ r ≠ D') (fun b => some (at_ D b).ln) (fun _ _ _ _ _ a ⟨r, h1, h2, h3⟩ => ⟨r, h1, a.lst h2 h3, h3⟩) (fun H e => ext_t e (.inl (.of hb7))) (Nat.le_trans hbl (by decide)) (fun b hbm H8 DD e8 fD aD N0 N1 g0 g1 => ?_) (fun DD acc H8 fD e8 hDD pr => ?_)
      · obtain ⟨dx7, dr7, dn7, dl7, mm7, ls7, y1, y2, _⟩ := id (hT.ext e07)
        obtain ⟨e', dx', ap', am', al', hv', q1, q2, q3, q4, q5⟩ := y2.r.get (hbs b hbm)
        have q4' := e8.at q4 (nt_lst _)
        have ndd : al' ≠ DD := ne_fresh (al_of q4 (nt_lst _)) fD
        exact ⟨rfl, _, rfl, t, _, _, _, _, rfl, e8.at y1 (nt_ins _ _ _), cl_Table T, na_Table_records T, rfl, _, rfl, _, _, rfl, dget_ext e8 q1, _, _, dx', _, _, rfl, e8.at q2 (nt_ins _ _ _), cl_Entry T, na_Entry_line T, rfl, g1 _ rfl _ _ .refl ⟨al', rfl, q4', ndd⟩⟩
      rw [List.filterMap_eq_map'] at pr
      obtain ⟨rs0, rfl, hL0⟩ := lists_out pr
      clear pr
      have rl : rs0.length = bs.length := by rw [paired_len hL0, List.length_map]
      refine ⟨_, rfl, ab, _, rfl, .inr (.inl (.of (e8.tup hb7))), fun l hl => ⟨Nat.le_of_ble_eq_true rfl, fun l2 hl2 => ?_⟩⟩
      have e9 : Ext K H8 (upd (upd H8 l (.lst (strL bs))) l2 (.lst [.ref l])) := Frm.trans (.new hl (nt_lst _)) (.new hl2 (nt_lst _))
      have hl9 : (upd (upd H8 l (.lst (strL bs))) l2 (.lst [.ref l])) l = some (.lst (strL bs)) := by
        rw [upd_ne (ne_of_none upd_same hl2)]
        exact upd_same
      refine ⟨DD, l2, _, _, rfl, rfl, e9.at hDD (nt_lst _), upd_same, ?_, fun p hp => ?_⟩
      · rw [List.length_map, rl]
        exact Nat.le_trans (show bs.length + 1 ≤ 100 by omega) (by decide)
      generalize upd (upd H8 l (.lst (strL bs))) l2 (.lst [.ref l]) = H9 at e9 hl9 hp
      have e10 := e9.trans (Frm.new hp (nt_lst (rs0.map V.ref ++ [.ref l])))
      refine ⟨p, rs0 ++ [l], (bs.map fun b => (at_ D b).ln) ++ [bs], j, rest, rfl, by rw [upd_same, List.map_append]; rfl, paired_append (hL0.ext e10) (.cons (Frm.at (K := K) (.new hp (nt_lst _)) hl9 (nt_lst _)) .nil), ?_, ?_, hmrg, hj, fun q H11 e11 f11 hq => ?_⟩
      · rw [List.length_append, List.length_map]
        show bs.length + 1 ≤ 100
        omega
      · intro l' hl'
        rcases List.mem_append.mp hl' with z | z
        · obtain ⟨b, hbm, rfl⟩ := List.mem_map.mp z
          exact Nat.le_trans (wf.ln _ (at_mem (hbs b hbm)).1).2 (by decide)
        · rw [List.mem_singleton.mp z]
          omega
      have e12 := ((e07.trans e8).trans e10).trans e11
      refine ⟨_, rfl, rfl, _, rfl, iteF ?_⟩
      refine ⟨_, rfl, _, rfl, _, rfl, _, rfl, _, rfl, _, rfl, _, rfl, Nat.le_of_ble_eq_true rfl, fun l3 hl3 => ⟨_, rfl, l3, q, _, _, rfl, rfl, upd_same, Frm.at (K := K) (.new hl3 (nt_lst _)) hq (nt_lst _), ?_, fun o ho => ?_⟩⟩
      · rw [strL_length]
        exact Nat.le_trans (show 1 + rest.length ≤ 2000 by omega) (by decide)
      intro x dxn hx hdx hne
      have e13 : Ext K H11 (upd (upd H11 l3 (.lst [.str n])) o (.lst ([.str n] ++ strL rest))) := Frm.trans (.new hl3 (nt_lst _)) (.new ho (nt_lst _))
      have ho13 : (upd (upd H11 l3 (.lst [.str n])) o (.lst ([.str n] ++ strL rest))) o = some (.lst (strL (n :: rest))) := upd_same
      generalize upd (upd H11 l3 (.lst [.str n])) o (.lst ([.str n] ++ strL rest)) = H13 at e13 ho13 hx hdx
      have e14 : Ext K H13 (upd (upd H13 dxn (.own x)) x (.ins (He.ga K "Entry") dxn [])) := Frm.trans (.new hdx (nt_own _)) (.new (by rw [upd_ne hne.symm]; exact hx) (nt_ins _ _ _))
      have e013 := e12.trans e13
      have e014 := e013.trans e14
      refine ⟨x, dxn, ab, am, o, n, bs, n :: rest, _, pa, hv, sg, rfl, upd_same, e014.tup hb, hM.frm e014 (fun z => z), e14.at ho13 (nt_lst _), fun H' m l f hx' hl' fl => ⟨rfl, ?_⟩⟩
      have fx : ¬ Al H x := fresh_of e013 hx
      have E : Ext K H H' := ⟨fun b o hb n z => f.keep b o (e014.keep b o hb n z) n (fun y => (fx (y ▸ al_of hb n)).elim), fun b hb => f.al b (e014.al b hb), fun tt => f.tabs (e014.tabs tt)⟩
      refine k x H' E ⟨dxn, ab, m, l, hv, hx', E.tup hb, hl', hH.frm E, fx, fun z => fl (e014.al l z)⟩
end
end ST
set_option maxHeartbeats 4000000
namespace ST
open PySem PySem.Spec PyProof.Rows L2
open LamX (CodeO Tabs TabB)
abbrev mkK : List Str := ["sworn", "marks", "hook", "passed"]
abbrev mkP : List Str := ["self", "name", "sworn", "marks", "hook", "passed", "bases"]
theorem sc_make : FnScope mkP mkP (defScope s_World_make) := ⟨rfl, rfl, rfl, by decide +kernel, rfl, by decide +kernel, by decide +kernel⟩
section
variable {P : Program} {w : World} {K : PySem.W.Frag} {mg : Str → Option Value} {base : Heap}
theorem bind_make {kV doc pm cdv ct : Value} {an : Option Addr} : ∀ (a b : Value) (r : List Value) (z1 z2 z3 z4 : Value), r.length ≤ 3 →
    bindArgs (PySem.W.fnOf d_World_make.name d_World_make.qual (defArgs s_World_make) (defBody s_World_make) (defScope s_World_make) .none kV doc pm an cdv ct) ⟨a :: b :: r, mkK.zip [z1, z2, z3, z4]⟩ = (newTuple r >>= fun t => pure (mkP.zip [a, b, z1, z2, z3, z4, t]))
  | a, b, [], z1, z2, z3, z4, _ => by rfl
  | a, b, [c], z1, z2, z3, z4, _ => by rfl
  | a, b, [c, d], z1, z2, z3, z4, _ => by rfl
  | a, b, [c, d, e], z1, z2, z3, z4, _ => by rfl
  | a, b, _ :: _ :: _ :: _ :: _, z1, z2, z3, z4, h => by simp at h
theorem vals_cons : ∀ {x : V} {xs : List V} {us : List Value}, Vals (x :: xs) us → ∃ u ur, us = u :: ur ∧ RelV x u ∧ Vals xs ur
  | _, _, _, .cons r rr => ⟨_, _, rfl, r, rr⟩
/-- a promise by positional and keywords' values -/
def FnRK (P : Program) (w : World) (K : PySem.W.Frag) (mg : Str → Option Value) (base : Heap) (k : Nat) (f : Addr) (ks : List Str) (sp : List V → List V → Hp → VK → Prop) : Prop :=
  ∀ (A : Around) (outer : List Env) (s : Shared) (H : Hp) (us ws : List Value) (vs zs : List V) (Q : VK) (E : XK), Room k A → Env0 P w K mg base A outer s H → Vals vs us → Vals zs ws → sp vs zs H Q →
    codeAny (model P w) A (.call (.ref f) ⟨us, ks.zip ws⟩) (CR CX0 outer P w H s Q E) s
def spMakeB (K : PySem.W.Frag) (wd ab am : Addr) (D : List C) (S : Addr → Prop) (n : Str) (bs rest : List Str) (ow pa : Bool) (hv : V) (hk : Option Hk) (sg : List (Str × Str)) (j : Nat) (H : Hp) (Q : VK) : Prop := WldM K S H wd D ∧ Wf D ∧ nameOk n ∧ n ∉ nms D ∧
  H ab = some (.tup (strL bs)) ∧ (∀ b ∈ bs, b ∈ nms D) ∧ bs.Nodup ∧ bs.length ≤ 3 ∧ PairsR H am sg ∧ sg.length ≤ 100 ∧ (∀ q ∈ sg, nameOk q.1 ∧ markOk q.2) ∧ (sg.map (·.1)).Nodup ∧ HkR H hv hk ∧ (∀ h, hk = some h → hkOk h ∧ (ow = true ∨ ∃ b ∈ bs, sw D b = true)) ∧
  mrg j ((bs.map fun b => (at_ D b).ln) ++ [bs]) = some rest ∧ j ≤ 1000 ∧ rest.length ≤ 1000 ∧ (∀ b, ¬ Al H b → S b) ∧ ∀ H', Frm K S H H' → WldM K S H' wd (D ++ [⟨n, bs, ow, hk, pa, n :: rest, []⟩]) → Q .non H'
def spMake (K : PySem.W.Frag) (vs zs : List V) (H : Hp) (Q : VK) : Prop := ∃ (wd am : Addr) (D : List C) (S : Addr → Prop) (n : Str) (bs rest : List Str) (ow pa : Bool) (hv : V) (hk : Option Hk) (sg : List (Str × Str)) (j : Nat), vs = .ref wd :: .str n :: strL bs ∧ zs = [.bl ow, .ref am, hv, .bl pa] ∧ bs.length ≤ 3 ∧
  ∀ ab, H ab = none → spMakeB K wd ab am D S n bs rest ow pa hv hk sg j (upd H ab (.tup (strL bs))) Q
theorem call_World_make (T : Tx K mg) : FnRK P w K mg base 8 (He.fAd K d_World_make.at_) mkK (spMake K) := by
  obtain ⟨oc, od, dV, kVv, doc, pm, an, cdv, ct, osl, e, lk, hcd, hD, _⟩ := (F_World_make T).ex
  rw [e] at lk
  have hdv : dV = .none := hD.elim (fun z => z.2) fun z => (z.1 rfl).elim
  subst hdv
  intro A outer s H us ws vs zs Q E hr e0 r rz hsp
  obtain ⟨wd, am, D, S, n, bs, rest, ow, pa, hv, hk, sg, j, rfl, rfl, hb3, hq⟩ := hsp
  obtain ⟨u1, us, rfl, r1, r⟩ := vals_cons r
  obtain ⟨u2, ur, rfl, r2, r⟩ := vals_cons r
  obtain ⟨w1, ws, rfl, z1, rz⟩ := vals_cons rz
  obtain ⟨w2, ws, rfl, z2, rz⟩ := vals_cons rz
  obtain ⟨w3, ws, rfl, z3, rz⟩ := vals_cons rz
  obtain ⟨w4, ws, rfl, z4, rz⟩ := vals_cons rz
  cases rz
  have hl : ur.length ≤ 3 := by
    rw [← r.length, strL_length]
    exact hb3
  have hn : H s.heap.objs.size = Option.none := e0.hok.fresh (Nat.le_refl _)
  refine StX.run_bnd (CX := CX0) (ps := mkP) lk hcd sc_make hr e0 (G := fun xs H2 => ∃ p, H p = Option.none ∧ xs = [.ref wd, .str n, .bl ow, .ref am, hv, .bl pa, .ref p] ∧ H2 = upd H p (.tup (strL bs))) (fun A' Ex Q' h => ?_) fun s2 H2 xs ⟨p, hp, ex, eH⟩ hr' => ?_
  · rw [bind_make u1 u2 ur w1 w2 w3 w4 hl]
    have hz : ur.length ≤ sizeLine := Nat.le_trans hl (by decide)
    refine wpAny_bind (wpAny_newTuple (wpAny_pure ?_) hz)
    have new : ObjOk P w (upd H s.heap.objs.size (.tup (strL bs))) (s.heap.push ({ cls := .type "tuple", data := .seq ur.toArray } : Obj)) s.heap.objs.size (.tup (strL bs)) := ⟨by rw [r.length]; exact hz, ur, r, ⟨_, Heap.get?_push_size _ rfl, rfl, _, rfl⟩⟩
    exact h _ _ [.ref wd, .str n, .bl ow, .ref am, hv, .bl pa, .ref s.heap.objs.size] [u1, u2, w1, w2, w3, w4, .ref s.heap.objs.size] (StX.env0_laid e0 new) (StX.un_laid (fs := frs outer) hn) rfl (fun e s' z => z) (.cons r1 (.cons r2 (.cons z1 (.cons z2 (.cons z3 (.cons z4 (.cons rfl .nil))))))) rfl ⟨_, hn, rfl, rfl⟩
  · subst ex eH
    obtain ⟨⟨p0, W⟩, wf, hno, hnD, hb, hbs, hbnd, hbl, hM, hsl, hsg, hsnd, hH, hho, hmrg, hj, hrl, hS, k⟩ := hq p hp
    have hu := hu_of hr'
    have hr := hr'
    refine ⟨_, (pss_cons (ps_expr (pe_meth (w_fld (K := K) rfl (pv 0)) (cl_Table T) (m_Table_add_class T) (ok_Table_add_class T) (hr.mono (by decide)) (b_Table_add_class T) .nil pass0 (pa_cons (pe_call (ok_new_entry T) (hr.mono (by decide)) rfl (g_new_entry T) (F_new_entry T).kp (b_new_entry T) .nil pass0 (pa_cons (w_fld (K := K) rfl (pv 0)) (pa_cons (pv 1) (pa_cons (pv 6) (pa_cons (pv 2) (pa_cons (pv 3) (pa_cons (pv 4) (pa_cons (pv 5) pa_nil)))))))) pa_nil)))
    (pss_one (ps_expr (pe_meth0 (pv 0) (cl_World T) (m_World_refresh T) (ok_World_refresh T) (hr.mono (by decide)) (b_World_refresh T) .nil pass0)))), ?_⟩
    refine ⟨_, rfl, wd, _, p0.dx, _, _, rfl, W.wd_, cl_World T, na_World_table T, rfl, p0.t, p0.dxt, _, rfl, W.t_, rfl, ?_⟩
    refine ⟨_, rfl, wd, _, p0.dx, _, _, rfl, W.wd_, cl_World T, na_World_table T, rfl, _, rfl, _, rfl, _, rfl, _, rfl, _, rfl, _, rfl, ?_⟩
    refine ⟨p0.t, p, am, D, n, bs, rest, ow, pa, hv, hk, sg, j, rfl, W.tab, wf, hno, hnD, hb, hbs, hbnd, Nat.le_trans hbl (by decide), hM, hsl, hsg, hsnd, hH, hho, hmrg, hj, hrl, fun e' H1 e1 hE => ?_⟩
    refine ⟨wd, e', S, D, p0, _, _, rfl, W, e1, hE, hnD, wf.len, rfl, hS, fun H3 f3 W3 => ?_⟩
    obtain ⟨p3, W3⟩ := W3
    refine ⟨_, rfl, wd, p3.dx, _, rfl, W3.wd_, rfl, wd, S, _, rfl, ⟨p3, W3⟩, fun H4 f4 W4 => ?_⟩
    exact k H4 ((e1.of.trans f3).trans f4) W4
end
/-- o.m(e, .., k = v, ..) by such a promise -/
def tMethM (C : Addr) (m : Str) (sp : List V → List V → Hp → VK → Prop) (ta : TE) (t tk : TA) : TE := fun σ H Q => ta σ H fun x H1 => ∃ a dx fs, x = .ref a ∧ H1 a = some (.ins C dx fs) ∧ fs.lookup m = none ∧ t σ H1 fun vs H2 => tk σ H2 fun zs H3 => sp (x :: vs) zs H3 Q
theorem pe_methM {X : Cx} {k : Nat} {C f : Addr} {m : Str} {ks : List Str} {sp : List V → List V → Hp → VK → Prop} {o e : Expr} {es : List Expr} {kws : List Keyword} {ta : TE} {t tk : TA} {apos pos : Pos} {pl : Sem Bool} (he : PE X o ta) (c : Cls X.K C) (hm : Meth X.K C m f)
    (F : FnRK X.prog X.w X.K X.mg X.base k f ks sp) (hr : Room k X.A) (ha : PA X (e :: es) t) (hkw : PK X kws tk) (hall : (backToKw pos (keywordEach kws X.env)).all (·.1.isSome) = true := by rfl) (hks : (backToKw pos (keywordEach kws X.env)).filterMap (·.1) = ks := by rfl)
    (hst : starEach (e :: es) X.env = (false, eval e X.env) :: starEach es X.env := by rfl) (hpl : ((backTo pos (starEach (e :: es) X.env)).any (·.1) || (backToKw pos (keywordEach kws X.env)).any (·.1.isNone)) = false := by rfl)
    (ht : eval (.Call (.Attribute o m apos) (e :: es) kws pos) X.env = (do
      let ov ← eval o X.env
      standAt apos.atName
      let (f, first) ← holding [ov] (getMethod ov m pl)
      callWith pos f first (backTo pos (starEach (e :: es) X.env)) (backToKw pos (keywordEach kws X.env))) := by rfl) :
    PE X (.Call (.Attribute o m apos) (e :: es) kws pos) (tMethM C m sp ta t tk) := by
  refine ⟨fun pins s σ H Q I h => ?_⟩
  refine PySem.W.methodCall_KW (pl := pl) (thn (he.run pins s σ H _ I h) fun u s1 ⟨x, H1, I1, rx, a, dx, fs, ex, ea, l, q⟩ => ?_) ht
  subst ex
  obtain rfl : u = Value.ref a := rx
  refine getmeth_ok I1 ea c hm l ?_
  refine PySem.W.callWith_KW (first := [.ref a]) (h₀ := X.base) I.ok.mod.kin hm.kp hall (thn (ha.run pos pins s1 σ H1 _ I1 q) fun us s2 ⟨vs, H2, I2, r, q2⟩ => ?_) hpl hst
  refine thn (hkw.run pos pins s2 σ H2 _ I2 q2) fun ws s3 ⟨zs, H3, I3, rz, q3⟩ => ⟨I3.kIn, ?_⟩
  rw [hks]
  refine wpAny_call (codeAny_mono (F X.A X.stack s3 H3 (.ref a :: us) ws (.ref a :: vs) zs Q E0 hr I3.env0 (.cons rfl r) rz q3) fun r s' hq => ?_)
  cases r with
  | error e => exact (show False from hq).elim
  | ok fl =>
    cases fl with
    | ret u => exact I3.after hq
    | next => exact False.elim hq
    | brk => exact False.elim hq
    | cont => exact False.elim hq
end ST
set_option maxHeartbeats 4000000
namespace ST
open PySem PySem.Spec PyProof.Rows L2
open LamX (CodeO Tabs TabB)
/-- the bag at b, n numbers taken at most -/
def BagR (H : Hp) (b : Addr) (n : Nat) : Prop := ∃ d s c : Int, H b = some (.lst [.int d, .int s, .int c]) ∧ 0 ≤ d ∧ 0 ≤ s ∧ s ≤ 2147483587 ∧ 0 ≤ c ∧ c ≤ n
theorem BagR.ext {K : PySem.W.Frag} {H H' : Hp} (a : Ext K H H') {b : Addr} {n : Nat} : BagR H b n → BagR H' b n
  | ⟨d, s, c, h, r⟩ => ⟨d, s, c, a.at h (nt_lst _), r⟩
theorem BagR.frm {K : PySem.W.Frag} {S : Addr → Prop} {H H' : Hp} (a : Frm K S H H') {b : Addr} (hb : ¬ S b) {n : Nat} : BagR H b n → BagR H' b n
  | ⟨d, s, c, h, r⟩ => ⟨d, s, c, a.lst h hb, r⟩
theorem BagR.mono {H : Hp} {b : Addr} {n m : Nat} (h : n ≤ m) : BagR H b n → BagR H b m
  | ⟨d, s, c, h1, h2, h3, h4, h5, h6⟩ => ⟨d, s, c, h1, h2, h3, h4, h5, by omega⟩
theorem BagR.al {H : Hp} {b : Addr} {n : Nat} : BagR H b n → Al H b
  | ⟨_, _, _, h, _⟩ => al_of h (nt_lst _)
section
variable {P : Program} {w : World} {K : PySem.W.Frag} {mg : Str → Option Value} {base : Heap}
def spBag (K : PySem.W.Frag) : Sp := fun vs H Q _ => ∃ (a : Addr) (ns : List Int) (i : Nat), vs = [.ref a, .int (i : Nat)] ∧ SqL K H a (ns.map V.int) ∧ ns.length ≤ 1000 ∧ i ≤ 1000 ∧ ∀ p H', Ext K H H' → ¬ Al H p → BagR H' p 0 → Q (.ref p) H'
theorem ok_law_bag (T : Tx K mg) : FnOk P w K mg base CX0 1 (He.fAd K d_law_bag.at_) (fdOf K (He.fAd K d_law_bag.at_)) ["_law_script", "_law_at"] (spBag K) := by
  refine (F_law_bag T).ok sc_law_bag (fun vs H Q E h => ?_) (fun cdv A outer s H vs Q E hr h => ?_)
  · obtain ⟨_, _, _, rfl, _⟩ := h
    rfl
  · obtain ⟨a, ns, i, rfl, ha, hl, hi, k⟩ := h
    have hu := hu_of hr
    refine ⟨_, PSs.nox (pss_cons (ps_set (i := 2) (sc_law_bag).nd rfl (Or.inl rfl) (pe_ifExp (pt_cmpR op_lt (pv 1) (pe_callB (k_len (K := K) rfl) (by rfl) (z_len T) (by decide +kernel) (pa_cons (pv 0) pa_nil)) (nomark _)) (pe_ix (x_l (K := K) rfl) (pv 0) (pv 1) (fun _ _ => rfl)) pe_int))
    (pss_cons (ps_set (i := 3) (sc_law_bag).nd rfl (Or.inl rfl) (pe_ifExp (pt_cmpR op_ge (pe_callB k_abs (by rfl) (z_abs T) (by decide +kernel) (pa_cons (pv 2) pa_nil)) (pe_op op_pow pe_int pe_int) (nomark _)) (pe_callB k_abs (by rfl) (z_abs T) (by decide +kernel) (pa_cons (pv 2) pa_nil)) pe_int))
    (pss_one (ps_ret (pe_lst (pa_cons (pv 3) (pa_cons (pe_op op_mod (pe_op op_add (pe_op op_add (pe_op op_mul (pe_op op_mod (pv 2) pe_int) pe_int) (pe_op op_mul pe_int (pv 1))) pe_int) pe_int) (pa_cons pe_int pa_nil)))))))), ?_⟩
    refine ⟨_, rfl, _, rfl, a, _, rfl, .inl ha, _, _, rfl, rfl, _, rfl, ?_⟩
    by_cases hlt : i < ns.length
    case' pos =>
      refine ite2 (fun _ => ?_) (fun z => (z (decide_eq_true (by rw [List.length_map]; omega))).elim)
      refine ⟨_, rfl, _, rfl, a, _, i, .int ns[i], rfl, rfl, ha, atI_nat (by rw [List.getElem?_map, List.getElem?_eq_getElem hlt]; rfl), ?_⟩
    case' neg =>
      refine ite2 (fun z => absurd z (by
        have : ¬ ((i : Int) < ((ns.map V.int).length : Int)) := by rw [List.length_map]; omega
        simp only [decide_eq_true_eq]
        exact this)) (fun _ => ?_)
    all_goals
      refine ⟨_, rfl, _, rfl, 10, 18, rfl, rfl, ⟨by omega, by omega, by decide⟩, _, _, rfl, rfl, _, rfl, ?_⟩
      refine ite2 (fun _ => ?_) (fun _ => ?_)
    case' pos.refine_1 => refine ⟨_, rfl, _, rfl, ?_⟩
    case' neg.refine_1 => refine ⟨_, rfl, _, rfl, ?_⟩
    all_goals
      refine ⟨_, rfl, _, rfl, _, 2147483629, rfl, rfl, by omega, _, 39373, rfl, rfl, .inr ⟨by omega, by omega⟩, _, rfl, 6007, i, rfl, rfl, .inl ⟨by omega, by omega⟩, _, _, rfl, rfl, _, 211, rfl, rfl, _, 2147483587, rfl, rfl, by omega, Nat.le_of_ble_eq_true rfl, fun p hp => ?_⟩
      refine k p _ (.new hp (nt_lst _)) (fresh_none hp) ⟨_, _, _, upd_same, ?_, Int.emod_nonneg _ (by omega), ?_, by omega, by omega⟩
      · omega
      · exact Int.le_of_lt (Int.emod_lt_of_pos _ (by omega))
def spTake (K : PySem.W.Frag) : Sp := fun vs H Q _ => ∃ (b : Addr) (n m : Nat), vs = [.ref b, .int (m : Nat)] ∧ BagR H b n ∧ n ≤ 100000 ∧ 0 < m ∧ m ≤ 1000 ∧ ∀ (j : Nat) H', j < m → Frm K (fun x => x = b) H H' → BagR H' b (n + 1) → Q (.int (j : Nat)) H'
theorem ok_law_take (T : Tx K mg) : FnOk P w K mg base CX0 1 (He.fAd K d_law_take.at_) (fdOf K (He.fAd K d_law_take.at_)) ["_law_bag_here", "_law_many"] (spTake K) := by
  refine (F_law_take T).ok sc_law_take (fun vs H Q E h => ?_) (fun cdv A outer s H vs Q E hr h => ?_)
  · obtain ⟨_, _, _, rfl, _⟩ := h
    rfl
  · obtain ⟨b, n, m, rfl, ⟨d, sd, c, hb, hd, hs0, hs1, hc0, hc1⟩, hn, hm0, hm1, k⟩ := h
    have hu := hu_of hr
    refine ⟨_, PSs.nox (pss_cons (ps_if (pt_cmpR op_gt (pe_ix (x_l (K := K) rfl) (pv 0) pe_int (fun _ _ => rfl)) pe_int (nomark _)) (pss_cons (ps_set (i := 2) (sc_law_take).nd rfl (Or.inl rfl) (pe_op op_mod (pe_ix (x_l (K := K) rfl) (pv 0) pe_int (fun _ _ => rfl)) (pv 1)))
    (pss_cons (ps_asg (pe_op op_fdiv (pe_ix (x_l (K := K) rfl) (pv 0) pe_int (fun _ _ => rfl)) (pv 1)) (pg_sub (pv 0) pe_int set_list))
    (pss_one (ps_ret (pv 2))))) pss_nil)
    (pss_cons (ps_asg (pe_op op_add (pe_ix (x_l (K := K) rfl) (pv 0) pe_int (fun _ _ => rfl)) pe_int) (pg_sub (pv 0) pe_int set_list))
    (pss_cons (ps_set (i := 3) (sc_law_take).nd rfl (Or.inl rfl) (pe_op op_mod (pe_op op_pow (pe_op op_add (pe_ix (x_l (K := K) rfl) (pv 0) pe_int (fun _ _ => rfl)) (pe_op op_mul pe_int (pe_ix (x_l (K := K) rfl) (pv 0) pe_int (fun _ _ => rfl)))) pe_int) pe_int))
    (pss_one (ps_ret (pe_op op_mod (pe_op op_fdiv (pe_op op_mod (pe_op op_pow (pe_op op_add (pv 3) (pe_op op_mul pe_int (pe_ix (x_l (K := K) rfl) (pv 0) pe_int (fun _ _ => rfl)))) pe_int) pe_int) pe_int) (pv 1))))))), ?_⟩
    have i0 : ∀ {x y z : V}, atI [x, y, z] 0 = some x := fun {x y z} => rfl
    have i1 : ∀ {x y z : V}, atI [x, y, z] 1 = some y := fun {x y z} => rfl
    have i2 : ∀ {x y z : V}, atI [x, y, z] 2 = some z := fun {x y z} => rfl
    have fin : ∀ (x : Int) H', Frm K (fun x => x = b) H H' → BagR H' b (n + 1) → Q (.int (x % (m : Int))) H' := fun x H' f hB => by
      have h1 : 0 ≤ x % (m : Int) := Int.emod_nonneg x (by omega)
      have h2 : x % (m : Int) < m := Int.emod_lt_of_pos x (by omega)
      have := k (x % (m : Int)).toNat H' (by omega) f hB
      rw [Int.toNat_of_nonneg h1] at this
      exact this
    refine ⟨_, rfl, b, _, 0, .int d, rfl, rfl, .inl (.of hb), i0, d, 0, rfl, rfl, _, rfl, ?_⟩
    refine ite2 (fun z => ?_) (fun z => ?_)
    · refine ⟨_, rfl, b, _, 0, .int d, rfl, rfl, .inl (.of hb), i0, _, rfl, d, m, rfl, rfl, by omega, ?_⟩
      refine ⟨_, rfl, b, _, 0, .int d, rfl, rfl, .inl (.of hb), i0, _, rfl, d, m, rfl, rfl, ⟨by omega, by omega⟩, ?_⟩
      refine ⟨_, rfl, b, _, 0, 0, rfl, rfl, hb, rfl, ?_⟩
      refine ⟨_, rfl, fin d _ (.mut hb trivial rfl (nt_lst _)) ⟨d / m, sd, c, upd_same, Int.ediv_nonneg hd (by omega), hs0, hs1, hc0, by omega⟩⟩
    · refine ⟨_, rfl, b, _, 2, .int c, rfl, rfl, .inl (.of hb), i2, c, 1, rfl, rfl, ?_⟩
      refine ⟨_, rfl, b, _, 2, 2, rfl, rfl, hb, rfl, ?_⟩
      have hb' : (upd H b (.lst ([.int d, .int sd, .int c].set 2 (.int (c + 1))))) b = some (.lst [.int d, .int sd, .int (c + 1)]) := upd_same
      have f : Frm K (fun x => x = b) H (upd H b (.lst ([.int d, .int sd, .int c].set 2 (.int (c + 1))))) := .mut hb trivial rfl (nt_lst _)
      generalize upd H b (.lst ([.int d, .int sd, .int c].set 2 (.int (c + 1)))) = H1 at hb' f
      have hB : BagR H1 b (n + 1) := ⟨d, sd, c + 1, hb', hd, hs0, hs1, by omega, by omega⟩
      refine ⟨_, rfl, b, _, 1, .int sd, rfl, rfl, .inl (.of hb'), i1, _, rfl, b, _, 2, .int (c + 1), rfl, rfl, .inl (.of hb'), i2, 61403, c + 1, rfl, rfl, .inl ⟨by omega, by omega⟩, ?_⟩
      refine ⟨sd, 61403 * (c + 1), rfl, rfl, _, 3, rfl, rfl, ⟨by omega, by omega, by omega⟩, _, 2147483579, rfl, rfl, by omega, ?_⟩
      have hx0 : 0 ≤ (sd + 61403 * (c + 1)) ^ (3 : Int).toNat % 2147483579 := Int.emod_nonneg _ (by omega)
      have hx1 : (sd + 61403 * (c + 1)) ^ (3 : Int).toNat % 2147483579 < 2147483579 := Int.emod_lt_of_pos _ (by omega)
      refine ⟨_, rfl, _, rfl, b, _, 2, .int (c + 1), rfl, rfl, .inl (.of hb'), i2, 7919, c + 1, rfl, rfl, .inl ⟨by omega, by omega⟩, _, 7919 * (c + 1), rfl, rfl, _, 2, rfl, rfl, ⟨by omega, by omega, ?_⟩, _, 2147483563, rfl, rfl, by omega, _, 32, rfl, rfl, ⟨by omega, by omega⟩, _, rfl, _, m, rfl, rfl, by omega, ?_⟩
      · generalize (sd + 61403 * (c + 1)) ^ (3 : Int).toNat % 2147483579 = x at hx0 hx1 ⊢
        omega
      exact fin _ _ f hB
end
end ST
set_option maxHeartbeats 4000000
namespace ST
open PySem PySem.Spec PyProof.Rows L2
open LamX (CodeO Tabs TabB)
structure PPar where
  τ : Addr → Nat
  p : Addr
  nl : Addr
  db : Addr
  dw : Addr
  ds : Addr
  du : Addr
  dor : Addr
  dl : Addr
  bl : Str → Addr
  sl : Str → Addr
  ol : Str → Addr
  ll : Str → Addr
  ru : Str → V
abbrev plF (q : PPar) : List (Key × V) := [(.inr "names", .ref q.nl), (.inr "bases", .ref q.db), (.inr "own", .ref q.dw), (.inr "signs", .ref q.ds), (.inr "rules", .ref q.du), (.inr "order", .ref q.dor), (.inr "lists", .ref q.dl)]
def RuR (H : Hp) (v : V) (hk : Option Hk) (pa : Bool) : Prop := match hk with
  | none => v = .non ∧ pa = false
  | some h => ∃ r a : Addr, v = .ref r ∧ H r = some (.tup [.ref a, .bl pa]) ∧ HkR H (.ref a) (some h)
theorem RuR.frm {K : PySem.W.Frag} {S : Addr → Prop} {H H' : Hp} (a : Frm K S H H') {v : V} {pa : Bool} : ∀ {o : Option Hk}, RuR H v o pa → RuR H' v o pa
  | none, h => h
  | some _, ⟨r, x, h1, h2, h3⟩ => ⟨r, x, h1, a.tup h2, h3.frm a⟩
abbrev Sg : Type := Str → List (Str × Str)
structure POk (K : PySem.W.Frag) (S : Addr → Prop) (H : Hp) (D : List C) (sg : Sg) (q : PPar) : Prop where
  p_ : H q.p = some (.dK (plF q))
  nl_ : H q.nl = some (.lst (strL (nms D)))
  db_ : H q.db = some (.dK (D.map fun c => (.inr c.nm, .ref (q.bl c.nm))))
  dw_ : H q.dw = some (.dK (D.map fun c => (.inr c.nm, .bl c.ow)))
  ds_ : H q.ds = some (.dK (D.map fun c => (.inr c.nm, .ref (q.sl c.nm))))
  du_ : H q.du = some (.dK (D.map fun c => (.inr c.nm, q.ru c.nm)))
  do_ : H q.dor = some (.dK (D.map fun c => (.inr c.nm, .ref (q.ol c.nm))))
  dl_ : H q.dl = some (.dK (D.map fun c => (.inr c.nm, .ref (q.ll c.nm))))
  b_ : ∀ c ∈ D, H (q.bl c.nm) = some (.lst (strL c.bs))
  s_ : ∀ c ∈ D, H (q.sl c.nm) = some (.dK ((sg c.nm).map fun z => (.inr z.1, .str z.2)))
  r_ : ∀ c ∈ D, RuR H (q.ru c.nm) c.hk c.pa
  o_ : ∀ c ∈ D, H (q.ol c.nm) = some (.lst (strL c.ln))
  l_ : ∀ c ∈ D, H (q.ll c.nm) = some (.lst (strL c.rg))
  li : ∀ c ∈ D, ∀ c' ∈ D, q.ll c.nm = q.ll c'.nm → c.nm = c'.nm
  tp : q.τ q.p = 10
  tn : q.τ q.nl = 1
  tb : q.τ q.db = 2
  tw : q.τ q.dw = 3
  ts : q.τ q.ds = 4
  tu : q.τ q.du = 5
  to : q.τ q.dor = 6
  tl : q.τ q.dl = 7
  tll : ∀ c ∈ D, q.τ (q.ll c.nm) = 8
  tbl : ∀ c ∈ D, q.τ (q.bl c.nm) = 9
  tol : ∀ c ∈ D, q.τ (q.ol c.nm) = 9
  tsl : ∀ c ∈ D, q.τ (q.sl c.nm) = 11
  sn : S q.nl
  sb : S q.db
  sw_ : S q.dw
  ss : S q.ds
  su : S q.du
  so : S q.dor
  sl_ : S q.dl
  sll : ∀ c ∈ D, S (q.ll c.nm)
def PlnM (K : PySem.W.Frag) (S : Addr → Prop) (H : Hp) (p : Addr) (D : List C) (sg : Sg) : Prop := ∃ q, POk K S H D sg q ∧ q.p = p
theorem valV_at {D : List C} (g : C → V) {n : Str} (hn : n ∈ nms D) : valV (D.map fun c => ((.inr c.nm : Key), g c)) (.inr n) = some (g (at_ D n)) := by
  induction D with
  | nil => cases hn
  | cons c r ih =>
    by_cases h : c.nm = n
    · show valV (((.inr c.nm : Key), g c) :: _) (.inr n) = _
      rw [valV_pos (by rw [h])]
      have : at_ (c :: r) n = c := by
        unfold at_
        rw [List.find?_cons, decide_eq_true h]
        rfl
      rw [this]
    · show valV (((.inr c.nm : Key), g c) :: _) (.inr n) = _
      rw [valV_neg (fun z => h (Sum.inr.inj z)), ih ((List.mem_cons.mp hn).resolve_left fun z => h z.symm)]
      have : at_ (c :: r) n = at_ r n := by
        unfold at_
        rw [List.find?_cons, decide_eq_false h]
      rw [this]
section
variable {K : PySem.W.Frag} {S : Addr → Prop} {H H' : Hp} {D : List C} {sg : Sg} {q : PPar}
theorem POk.ext (w : POk K S H D sg q) (a : Ext K H H') : POk K S H' D sg q := { w with
  p_ := a.at w.p_ (nt_dK _)
  nl_ := a.at w.nl_ (nt_lst _)
  db_ := a.at w.db_ (nt_dK _)
  dw_ := a.at w.dw_ (nt_dK _)
  ds_ := a.at w.ds_ (nt_dK _)
  du_ := a.at w.du_ (nt_dK _)
  do_ := a.at w.do_ (nt_dK _)
  dl_ := a.at w.dl_ (nt_dK _)
  b_ := fun c hc => a.at (w.b_ c hc) (nt_lst _)
  s_ := fun c hc => a.at (w.s_ c hc) (nt_dK _)
  r_ := fun c hc => (w.r_ c hc).frm a
  o_ := fun c hc => a.at (w.o_ c hc) (nt_lst _)
  l_ := fun c hc => a.at (w.l_ c hc) (nt_lst _) }
/-- another world's change leaves it -/
theorem POk.frm {S' : Addr → Prop} (w : POk K S H D sg q) (a : Frm K S' H H') (n : ∀ b, Al H b → ¬ S' b) : POk K S H' D sg q := { w with
  p_ := a.dK w.p_ (n _ (al_of w.p_ (nt_dK _)))
  nl_ := a.lst w.nl_ (n _ (al_of w.nl_ (nt_lst _)))
  db_ := a.dK w.db_ (n _ (al_of w.db_ (nt_dK _)))
  dw_ := a.dK w.dw_ (n _ (al_of w.dw_ (nt_dK _)))
  ds_ := a.dK w.ds_ (n _ (al_of w.ds_ (nt_dK _)))
  du_ := a.dK w.du_ (n _ (al_of w.du_ (nt_dK _)))
  do_ := a.dK w.do_ (n _ (al_of w.do_ (nt_dK _)))
  dl_ := a.dK w.dl_ (n _ (al_of w.dl_ (nt_dK _)))
  b_ := fun c hc => a.lst (w.b_ c hc) (n _ (al_of (w.b_ c hc) (nt_lst _)))
  s_ := fun c hc => a.dK (w.s_ c hc) (n _ (al_of (w.s_ c hc) (nt_dK _)))
  r_ := fun c hc => (w.r_ c hc).frm a
  o_ := fun c hc => a.lst (w.o_ c hc) (n _ (al_of (w.o_ c hc) (nt_lst _)))
  l_ := fun c hc => a.lst (w.l_ c hc) (n _ (al_of (w.l_ c hc) (nt_lst _))) }
theorem PlnM.ext {p : Addr} (h : PlnM K S H p D sg) (a : Ext K H H') : PlnM K S H' p D sg := by
  obtain ⟨q, w, e⟩ := h
  exact ⟨q, w.ext a, e⟩
theorem POk.kN (w : POk K S H D sg q) : DGet H q.p (.str "names") (some (.ref q.nl)) := .inl ⟨_, .inr "names", .of w.p_, rfl, by rfl⟩
theorem POk.kB (w : POk K S H D sg q) : DGet H q.p (.str "bases") (some (.ref q.db)) := .inl ⟨_, .inr "bases", .of w.p_, rfl, by rfl⟩
theorem POk.kW (w : POk K S H D sg q) : DGet H q.p (.str "own") (some (.ref q.dw)) := .inl ⟨_, .inr "own", .of w.p_, rfl, by rfl⟩
theorem POk.kS (w : POk K S H D sg q) : DGet H q.p (.str "signs") (some (.ref q.ds)) := .inl ⟨_, .inr "signs", .of w.p_, rfl, by rfl⟩
theorem POk.kU (w : POk K S H D sg q) : DGet H q.p (.str "rules") (some (.ref q.du)) := .inl ⟨_, .inr "rules", .of w.p_, rfl, by rfl⟩
theorem POk.kO (w : POk K S H D sg q) : DGet H q.p (.str "order") (some (.ref q.dor)) := .inl ⟨_, .inr "order", .of w.p_, rfl, by rfl⟩
theorem POk.kL (w : POk K S H D sg q) : DGet H q.p (.str "lists") (some (.ref q.dl)) := .inl ⟨_, .inr "lists", .of w.p_, rfl, by rfl⟩
variable {n : Str}
theorem POk.gB (w : POk K S H D sg q) (hn : n ∈ nms D) : DGet H q.db (.str n) (some (.ref (q.bl n))) := .inl ⟨_, .inr n, .of w.db_, rfl, by rw [valV_map fun n => V.ref (q.bl n), if_pos hn]⟩
theorem POk.gW (w : POk K S H D sg q) (hn : n ∈ nms D) : DGet H q.dw (.str n) (some (.bl (at_ D n).ow)) := .inl ⟨_, .inr n, .of w.dw_, rfl, by rw [valV_at (fun c => V.bl c.ow) hn]⟩
theorem POk.gS (w : POk K S H D sg q) (hn : n ∈ nms D) : DGet H q.ds (.str n) (some (.ref (q.sl n))) := .inl ⟨_, .inr n, .of w.ds_, rfl, by rw [valV_map fun n => V.ref (q.sl n), if_pos hn]⟩
theorem POk.gU (w : POk K S H D sg q) (hn : n ∈ nms D) : DGet H q.du (.str n) (some (q.ru n)) := .inl ⟨_, .inr n, .of w.du_, rfl, by rw [valV_map fun n => q.ru n, if_pos hn]⟩
theorem POk.gO (w : POk K S H D sg q) (hn : n ∈ nms D) : DGet H q.dor (.str n) (some (.ref (q.ol n))) := .inl ⟨_, .inr n, .of w.do_, rfl, by rw [valV_map fun n => V.ref (q.ol n), if_pos hn]⟩
theorem POk.gL (w : POk K S H D sg q) (hn : n ∈ nms D) : DGet H q.dl (.str n) (some (.ref (q.ll n))) := .inl ⟨_, .inr n, .of w.dl_, rfl, by rw [valV_map fun n => V.ref (q.ll n), if_pos hn]⟩
theorem POk.b (w : POk K S H D sg q) (hn : n ∈ nms D) : H (q.bl n) = some (.lst (strL (at_ D n).bs)) := by
  have := w.b_ _ (at_mem hn).1
  rw [(at_mem hn).2] at this
  exact this
theorem POk.o (w : POk K S H D sg q) (hn : n ∈ nms D) : H (q.ol n) = some (.lst (strL (at_ D n).ln)) := by
  have := w.o_ _ (at_mem hn).1
  rw [(at_mem hn).2] at this
  exact this
theorem POk.l (w : POk K S H D sg q) (hn : n ∈ nms D) : H (q.ll n) = some (.lst (strL (at_ D n).rg)) := by
  have := w.l_ _ (at_mem hn).1
  rw [(at_mem hn).2] at this
  exact this
theorem POk.r (w : POk K S H D sg q) (hn : n ∈ nms D) : RuR H (q.ru n) (at_ D n).hk (at_ D n).pa := by
  have := w.r_ _ (at_mem hn).1
  rw [(at_mem hn).2] at this
  exact this
theorem POk.s (w : POk K S H D sg q) (hn : n ∈ nms D) : H (q.sl n) = some (.dK ((sg n).map fun z => (.inr z.1, .str z.2))) := by
  have := w.s_ _ (at_mem hn).1
  rw [(at_mem hn).2] at this
  exact this
end
section
variable {P : Program} {w : World} {K : PySem.W.Frag} {mg : Str → Option Value} {base : Heap}
def spLSw (K : PySem.W.Frag) : Sp := fun vs H Q _ => ∃ (S : Addr → Prop) (D : List C) (sg : Sg) (q : PPar) (n : Str), vs = [.ref q.p, .str n] ∧ POk K S H D sg q ∧ Wf D ∧ n ∈ nms D ∧ RetV K (.bl (sw D n)) H Q
theorem ok_law_sworn (T : Tx K mg) : FnOk P w K mg base CX0 1 (He.fAd K d_law_sworn.at_) (fdOf K (He.fAd K d_law_sworn.at_)) ["_law_plain", "_law_name"] (spLSw K) := by
  refine (F_law_sworn T).ok sc_law_sworn (fun vs H Q E h => ?_) (fun cdv A outer s H vs Q E hr h => ?_)
  · obtain ⟨_, _, _, _, _, rfl, _⟩ := h
    rfl
  · obtain ⟨S, D, sg, q, n, rfl, W, wf, hn, k⟩ := h
    have hu := hu_of hr
    refine ⟨_, PSs.nox (pss_one (ps_ret (pe_callB (k_any (K := K) rfl rfl) (by rfl) (z_any T) (by decide +kernel) (pa_cons (pe_lc (own := [("_law_one", 2)]) (g := gName 2) (tt := tYes) rfl (sc_law_sworn).nd (i_list (K := K) rfl (pe_dget hu (pe_dget hu (pv 0) pe_str (fun _ _ => rfl)) (pv 1) (fun _ _ => rfl))) (blkOk_by (by kernel_rfl)) (fun _ _ _ _ _ => (pg_name (i := 2) (sc_law_sworn).nd rfl (by first | exact Or.inl rfl | exact Or.inr rfl))) (fun _ _ _ _ _ => pts_nil) (fun _ _ _ _ _ => (pe_dget hu (pe_dget hu (pv 0) pe_str (fun _ _ => rfl)) (pv 2) (fun _ _ => rfl)))) pa_nil)))), ?_⟩
    refine ⟨_, rfl, q.p, _, rfl, W.kO, _, rfl, q.dor, _, rfl, W.gO hn, q.ol n, rfl, ⟨_, .of (W.o hn)⟩, ?_⟩
    refine lcS_bl (K := K) walk_list (fun m => (at_ D m).ow) (fun H e => ext_l e (.of (W.o hn))) (Nat.le_trans (wf.ln _ (at_mem hn).1).2 (by decide)) (fun m hm H1 e1 N0 N1 h1 => ?_) (fun L H1 f e1 h => ?_)
    · have W1 := W.ext e1
      have hmn := (wf.ln _ (at_mem hn).1).1 m hm
      exact ⟨rfl, _, rfl, q.p, _, rfl, W1.kW, _, rfl, q.dw, _, rfl, W1.gW hmn, h1 _ .refl⟩
    · refine ⟨L, _, rfl, .of h, ?_⟩
      rw [List.any_map]
      exact k _ e1
end
end ST
set_option maxHeartbeats 4000000
namespace ST
open PySem PySem.Spec PyProof.Rows L2
open LamX (CodeO Tabs TabB)
theorem at_of {D : List C} (nd : (nms D).Nodup) {c : C} (h : c ∈ D) : at_ D c.nm = c := by
  have := at_mem (List.mem_map.mpr ⟨c, h, rfl⟩ : c.nm ∈ nms D)
  exact nd_inj nd this.1 h this.2
theorem subs_alt {D : List C} (nd : (nms D).Nodup) (n : Str) : subs D n = (nms D).filter fun x => decide (n ∈ (at_ D x).bs) := by
  unfold subs
  rw [List.filter_map]
  refine congrArg (List.map _) (List.filter_congr fun c hc => ?_)
  show decide (n ∈ c.bs) = decide (n ∈ (at_ D c.nm).bs)
  rw [at_of nd hc]
theorem nd_filter {α : Type} (p : α → Bool) {l : List α} (h : l.Nodup) : (l.filter p).Nodup := List.Sublist.nodup List.filter_sublist h
theorem nxt_nd {D : List C} (wf : Wf D) (hrg : ∀ c ∈ D, c.rg.Nodup) {n : Str} (hn : n ∈ nms D) : (nxt D n).Nodup := by
  unfold nxt
  split
  · refine List.nodup_append.mpr ⟨hrg _ (at_mem hn).1, ?_, ?_⟩
    · refine nd_filter _ ?_
      rw [subs_alt wf.nd]
      exact nd_filter _ wf.nd
    · intro x hx y hy e
      subst e
      have := (List.mem_filter.mp hy).2
      simp at this
      exact this hx
  · exact List.nodup_nil
section
variable {P : Program} {w : World} {K : PySem.W.Frag} {mg : Str → Option Value} {base : Heap}
def spLNx (K : PySem.W.Frag) : Sp := fun vs H Q _ => ∃ (S : Addr → Prop) (D : List C) (sg : Sg) (q : PPar) (n : Str), vs = [.ref q.p, .str n] ∧ POk K S H D sg q ∧ Wf D ∧ n ∈ nms D ∧ RetL K (strL (nxt D n)) H Q
theorem ok_law_next (T : Tx K mg) : FnOk P w K mg base CX0 2 (He.fAd K d_law_next.at_) (fdOf K (He.fAd K d_law_next.at_)) ["_law_plain", "_law_name"] (spLNx K) := by
  refine (F_law_next T).ok sc_law_next (fun vs H Q E h => ?_) (fun cdv A outer s H vs Q E hr h => ?_)
  · obtain ⟨_, _, _, _, _, rfl, _⟩ := h
    rfl
  · obtain ⟨S, D, sg, q, n, rfl, W, wf, hn, k⟩ := h
    have hu := hu_of hr
    refine ⟨_, PSs.nox (pss_cons (ps_if (pt_not (pt_val (pe_call (ok_law_sworn T) (hr.mono (by decide)) rfl (g_law_sworn T) (F_law_sworn T).kp (b_law_sworn T) .nil pass0 (pa_cons (pv 0) (pa_cons (pv 1) pa_nil))))) (pss_one (ps_ret (pe_lst pa_nil))) pss_nil)
    (pss_cons (ps_set (i := 2) (sc_law_next).nd rfl (Or.inr rfl) (pe_callTy (k_list (K := K) rfl) (by rfl) (z_list T) (by decide +kernel) (pa_cons (pe_dget hu (pe_dget hu (pv 0) pe_str (fun _ _ => rfl)) (pv 1) (fun _ _ => rfl)) pa_nil)))
    (pss_one (ps_ret (pe_op op_cat (pv 2) (pe_lc (own := [("_law_one", 3)]) (g := gName 3) (tt := _) rfl (sc_law_next).nd (i_list (K := K) rfl (pe_dget hu (pv 0) pe_str (fun _ _ => rfl))) (blkOk_by (by kernel_rfl)) (fun _ _ _ _ _ => (pg_name (i := 3) (sc_law_next).nd rfl (by first | exact Or.inl rfl | exact Or.inr rfl))) (fun _ _ _ _ _ => pts_one (PW.pt (pw_and (pt_cmpR (o_in (K := K) rfl) (pv 1) (pe_dget hu (pe_dget hu (pv 0) pe_str (fun _ _ => rfl)) (pv 3) (fun _ _ => rfl)) (by rfl)) (pw_and1 (pt_cmpR (o_ni (K := K) rfl) (pv 3) (pv 2) (by rfl)))))) (fun _ _ _ _ _ => (pv 3)))))))), ?_⟩
    refine ⟨_, rfl, _, rfl, S, D, sg, q, n, rfl, W, wf, hn, fun H1 e1 => ⟨_, rfl, ?_⟩⟩
    have hnx : nxt D n = if sw D n = true then (at_ D n).rg ++ (subs D n).filter (fun o => decide (o ∉ (at_ D n).rg)) else [] := rfl
    cases hs : sw D n with
    | false =>
      rw [hs] at hnx
      rw [hnx] at k
      refine iteT ⟨Nat.zero_le _, fun p hp => ?_⟩
      exact k.new e1 hp
    | true =>
      rw [hs] at hnx
      have hnx : nxt D n = (at_ D n).rg ++ (subs D n).filter (fun o => decide (o ∉ (at_ D n).rg)) := hnx
      have W1 := W.ext e1
      refine iteF ⟨_, rfl, q.p, _, rfl, W1.kL, _, rfl, q.dl, _, rfl, W1.gL hn, q.ll n, _, rfl, .inl (.of (W1.l hn)), fun l hl => ?_⟩
      have e2 : Ext K H1 (upd H1 l (.lst (strL (at_ D n).rg))) := .new hl (nt_lst _)
      have hl2 : (upd H1 l (.lst (strL (at_ D n).rg))) l = some (.lst (strL (at_ D n).rg)) := upd_same
      generalize upd H1 l (.lst (strL (at_ D n).rg)) = H2 at e2 hl2
      have W2 := W1.ext e2
      refine ⟨_, rfl, _, rfl, q.p, _, rfl, W2.kN, q.nl, rfl, ⟨_, .of W2.nl_⟩, ?_⟩
      refine lcS_str (K := K) walk_list (fun x => if n ∈ (at_ D x).bs ∧ x ∉ (at_ D n).rg then some x else none) (fun H e => ext_l e (.of W2.nl_)) (Nat.le_trans (nms_len wf) (by decide)) (fun x hx H3 e3 N0 N1 h0 h1 => ?_) (fun L H3 f3 e3 h => ?_)
      · have W3 := W2.ext e3
        refine ⟨rfl, _, rfl, _, rfl, q.p, _, rfl, W3.kB, _, rfl, q.db, _, rfl, W3.gB hx, q.bl x, _, rfl, .inl (.of (W3.b hx)), rfl, flat_strL _, _, rfl, ?_⟩
        show if inV (.str n) (strL (at_ D x).bs) = true then _ else _
        rw [inV_str]
        refine ite2 (fun z => ?_) (fun z => ?_)
        · refine ⟨_, rfl, _, rfl, l, _, rfl, .inl (.of (e3.at hl2 (nt_lst _))), rfl, flat_strL _, _, rfl, ?_⟩
          show if (!inV (.str x) (strL (at_ D n).rg)) = true then _ else _
          rw [inV_str]
          by_cases y : x ∈ (at_ D n).rg
          · rw [if_neg (by simp [y])]
            exact h0 (if_neg fun z => z.2 y) _ .refl
          · rw [if_pos (by simp [y])]
            exact ⟨_, rfl, h1 x (if_pos ⟨of_decide_eq_true z, y⟩) _ .refl⟩
        · exact h0 (if_neg fun y => z (decide_eq_true y.1)) _ .refl
      · have e : (nms D).filterMap (fun x => if n ∈ (at_ D x).bs ∧ x ∉ (at_ D n).rg then some x else none) = (subs D n).filter (fun o => decide (o ∉ (at_ D n).rg)) := by
          rw [filterMap_filter, subs_alt wf.nd, List.filter_filter]
          refine List.filter_congr fun x _ => ?_
          rw [Bool.eq_iff_iff]
          simp only [decide_eq_true_eq, Bool.and_eq_true]
          exact And.comm
        rw [e] at h
        refine ⟨l, L, _, _, rfl, rfl, e3.at hl2 (nt_lst _), h, ?_, fun p' hp' => ?_⟩
        · have := nxt_len wf hn
          rw [hnx, List.length_append] at this
          rw [List.length_map, List.length_map]
          exact Nat.le_trans this (by decide)
        · rw [hnx] at k
          have z := k.new ((e1.trans e2).trans e3) hp'
          rw [strL_append] at z
          exact z
def spLLed (K : PySem.W.Frag) : Sp := fun vs H Q _ => ∃ (S : Addr → Prop) (D : List C) (sg : Sg) (q : PPar) (n : Str), vs = [.ref q.p, .str n] ∧ POk K S H D sg q ∧ Wf D ∧ (∀ c ∈ D, c.rg.Nodup) ∧ n ∈ nms D ∧ ∀ p H' L, Ext K H H' → H' p = some (.lst (strL L)) → (∀ x, Rch D n x → x ∈ L) → Q (.ref p) H'
theorem ok_law_led (T : Tx K mg) : FnOk P w K mg base CX0 3 (He.fAd K d_law_led.at_) (fdOf K (He.fAd K d_law_led.at_)) ["_law_plain", "_law_name"] (spLLed K) := by
  refine (F_law_led T).ok sc_law_led (fun vs H Q E h => ?_) (fun cdv A outer s H vs Q E hr h => ?_)
  · obtain ⟨_, _, _, _, _, rfl, _⟩ := h
    rfl
  · obtain ⟨S, D, sg, q, n, rfl, W, wf, hrg, hn, k⟩ := h
    have hu := hu_of hr
    refine ⟨_, PSs.nox (pss_cons (ps_asg (pe_tup (pa_cons (pe_lst (pa_cons (pv 1) pa_nil)) (pa_cons pe_int pa_nil))) (g_tup (K := K) rfl rfl (pgs_cons (pg_name (i := 2) (sc_law_led).nd rfl (Or.inr rfl)) (pgs_cons (pg_name (i := 3) (sc_law_led).nd rfl (Or.inl rfl)) pgs_nil))))
    (pss_cons (ps_while PassesOwn.never (pt_cmpR op_lt (pv 3) (pe_callB (k_len (K := K) rfl) (by rfl) (z_len T) (by decide +kernel) (pa_cons (pv 2) pa_nil)) (nomark _)) (pss_cons (ps_set (i := 2) (sc_law_led).nd rfl (Or.inr rfl) (pe_op op_cat (pv 2) (pe_lc (own := [("_law_one", 4)]) (g := gName 4) (tt := _) rfl (sc_law_led).nd (i_list (K := K) rfl (pe_call (ok_law_next T) (hr.mono (by decide)) rfl (g_law_next T) (F_law_next T).kp (b_law_next T) .nil pass0 (pa_cons (pv 0) (pa_cons (pe_ix (x_l (K := K) rfl) (pv 2) (pv 3) (fun _ _ => rfl)) pa_nil)))) (blkOk_by (by kernel_rfl)) (fun _ _ _ _ _ => (pg_name (i := 4) (sc_law_led).nd rfl (by first | exact Or.inl rfl | exact Or.inr rfl))) (fun _ _ _ _ _ => pts_one (pt_cmpR (o_ni (K := K) rfl) (pv 4) (pv 2) (by rfl))) (fun _ _ _ _ _ => (pv 4)))))
    (pss_one (ps_set (i := 3) (sc_law_led).nd rfl (Or.inl rfl) (pe_op op_add (pv 3) pe_int)))))
    (pss_one (ps_ret (pv 2))))), ?_⟩
    refine ⟨_, rfl, Nat.le_of_ble_eq_true rfl, fun l0 hl0 => ⟨Nat.le_of_ble_eq_true rfl, fun t0 ht0 => ?_⟩⟩
    have e0 : Ext K H (upd (upd H l0 (.lst [.str n])) t0 (.tup [.ref l0, .int 0])) := Frm.trans (.new hl0 (nt_lst _)) (.new ht0 (nt_tup _))
    refine ⟨t0, _, rfl, .of upd_same, rfl, _, _, rfl, _, _, rfl, rfl, ?_⟩
    refine ⟨fun m σ H' => ∃ (fs : List Str) (f : Addr) (a : Nat) (x4 : Option V), m = 51 - a ∧ σ = [some (.ref q.p), some (.str n), some (.ref f), some (.int (a : Nat)), x4] ∧ Ext K H H' ∧ H' f = some (.lst (strL fs)) ∧ fs.Nodup ∧ (∀ x ∈ fs, x ∈ nms D) ∧ n ∈ fs ∧ a ≤ fs.length ∧ ∀ j x, j < a → fs[j]? = some x → ∀ y ∈ nxt D x, y ∈ fs, ⟨51, [n], l0, 0, _, rfl, rfl, e0, ?_, by simp, ?_, by simp, Nat.zero_le _, fun j _ hj => absurd hj (Nat.not_lt_zero _)⟩, ?_⟩
    · rw [upd_ne (ne_of_none upd_same ht0)]
      exact upd_same
    · intro x hx
      rw [List.mem_singleton.mp hx]
      exact hn
    rintro m σ H1 ⟨fs, f, a, x4, rfl, rfl, e1, hf, nd, hsub, hin, ha, hcl⟩
    have lfs : fs.length ≤ 50 := Nat.le_trans (nodup_len nd hsub) (nms_len wf)
    refine ⟨_, rfl, _, rfl, f, _, rfl, .inl (.of hf), _, _, rfl, rfl, _, rfl, ?_⟩
    rw [strL_length]
    refine ite2 (fun z => ?_) (fun z => ?_)
    · have hlt : a < fs.length := by
        have : (a : Int) < (fs.length : Int) := by simpa using z
        omega
      have hx := List.getElem?_eq_getElem hlt
      have hxm := hsub _ (List.getElem_mem hlt)
      refine ⟨_, fun σ' H' z => z, ?_⟩
      refine ⟨_, rfl, _, rfl, _, rfl, _, rfl, f, _, a, .str fs[a], rfl, rfl, .inl (.of hf), atI_nat (by rw [List.getElem?_map, hx]; rfl), S, D, sg, q, fs[a], rfl, W.ext e1, wf, hxm, fun p H2 e2 f2 hp => ?_⟩
      have hf2 := e2.at hf (nt_lst _)
      refine ⟨p, rfl, ⟨_, .of hp⟩, ?_⟩
      refine lcS_str (K := K) walk_list (fun y => if y ∉ fs then some y else none) (fun H e => ext_l e (.of hp)) (Nat.le_trans (nxt_len wf hxm) (by decide)) (fun y hy H3 e3 N0 N1 h0 h1 => ?_) (fun L H3 f3 e3 h => ?_)
      · refine ⟨rfl, _, rfl, _, rfl, f, _, rfl, .inl (.of (e3.at hf2 (nt_lst _))), rfl, flat_strL _, _, rfl, ?_⟩
        show if (!inV (.str y) (strL fs)) = true then _ else _
        rw [inV_str]
        by_cases q : y ∈ fs
        · rw [if_neg (by simp [q])]
          exact h0 (if_neg fun z => z q) _ .refl
        · rw [if_pos (by simp [q])]
          exact ⟨_, rfl, h1 y (if_pos q) _ .refl⟩
      · rw [filterMap_filter] at h
        have nd2 : (fs ++ (nxt D fs[a]).filter fun y => decide (y ∉ fs)).Nodup := by
          refine List.nodup_append.mpr ⟨nd, nd_filter _ (nxt_nd wf hrg hxm), ?_⟩
          intro x hx y hy e
          subst e
          have := (List.mem_filter.mp hy).2
          simp at this
          exact this hx
        have sub2 : ∀ x ∈ fs ++ (nxt D fs[a]).filter (fun y => decide (y ∉ fs)), x ∈ nms D := fun x hx => by
          rcases List.mem_append.mp hx with z | z
          · exact hsub x z
          · exact nxt_mem wf hxm (List.mem_filter.mp z).1
        have len2 := Nat.le_trans (nodup_len nd2 sub2) (nms_len wf)
        rw [List.length_append] at len2
        refine ⟨f, L, _, _, rfl, rfl, e3.at hf2 (nt_lst _), h, ?_, fun p' hp' => ?_⟩
        · rw [strL_length, strL_length]
          exact Nat.le_trans len2 (by decide)
        · refine ⟨_, rfl, _, 1, rfl, rfl, 51 - (a + 1), by omega, fs ++ (nxt D fs[a]).filter (fun y => decide (y ∉ fs)), p', a + 1, _, rfl, rfl, ((e1.trans e2).trans e3).trans (.new hp' (nt_lst _)), by rw [upd_same, strL_append], nd2, sub2, List.mem_append_left _ hin, by rw [List.length_append]; omega, fun j x hj hjx y hy => ?_⟩
          rw [List.getElem?_append_left (by omega)] at hjx
          by_cases ja : j = a
          · subst ja
            rw [hx] at hjx
            cases hjx
            by_cases q : y ∈ fs
            · exact List.mem_append_left _ q
            · exact List.mem_append_right _ (List.mem_filter.mpr ⟨hy, by simpa using q⟩)
          · exact List.mem_append_left _ (hcl j x (by omega) hjx y hy)
    · refine ⟨_, rfl, k f _ fs e1 hf fun x hx => ?_⟩
      have hal : fs.length ≤ a := by
        have : ¬ (a : Int) < (fs.length : Int) := by simpa using z
        omega
      induction hx with
      | refl => exact hin
      | step _ hc ih =>
        obtain ⟨j, hj, ej⟩ := List.getElem_of_mem ih
        exact hcl j _ (by omega) (by rw [List.getElem?_eq_getElem hj, ej]) _ hc
end
end ST
set_option maxHeartbeats 4000000
namespace ST
open PySem PySem.Spec PyProof.Rows L2
open LamX (CodeO Tabs TabB)
section
variable {P : Program} {w : World} {K : PySem.W.Frag} {mg : Str → Option Value} {base : Heap}
def spLAdm (K : PySem.W.Frag) : Sp := fun vs H Q _ => ∃ (S : Addr → Prop) (D : List C) (sg : Sg) (q : PPar) (n o : Str), vs = [.ref q.p, .str n, .str o] ∧ POk K S H D sg q ∧ Wf D ∧ (∀ c ∈ D, c.rg.Nodup) ∧ n ∈ nms D ∧ o ∈ nms D ∧ ∀ b H', Ext K H H' → (b = true → sw D n = true ∧ ¬ Rch D o n) → Q (.bl b) H'
theorem ok_law_admits (T : Tx K mg) : FnOk P w K mg base CX0 4 (He.fAd K d_law_admits.at_) (fdOf K (He.fAd K d_law_admits.at_)) ["_law_plain", "_law_name", "_law_other"] (spLAdm K) := by
  refine (F_law_admits T).ok sc_law_admits (fun vs H Q E h => ?_) (fun cdv A outer s H vs Q E hr h => ?_)
  · obtain ⟨_, _, _, _, _, _, rfl, _⟩ := h
    rfl
  · obtain ⟨S, D, sg, q, n, o, rfl, W, wf, hrg, hn, ho, k⟩ := h
    have hu := hu_of hr
    refine ⟨_, PSs.nox (pss_one (ps_ret (pe_and (pe_cmpR op_ne (pv 1) (pv 2) (nomark _)) (pe_and (pe_call (ok_law_sworn T) (hr.mono (by decide)) rfl (g_law_sworn T) (F_law_sworn T).kp (b_law_sworn T) .nil pass0 (pa_cons (pv 0) (pa_cons (pv 1) pa_nil))) (pe_one (pe_cmpR (o_ni (K := K) rfl) (pv 1) (pe_call (ok_law_led T) (hr.mono (by decide)) rfl (g_law_led T) (F_law_led T).kp (b_law_led T) .nil pass0 (pa_cons (pv 0) (pa_cons (pv 2) pa_nil))) (by rfl))))))), ?_⟩
    refine ⟨_, rfl, _, rfl, rfl, _, rfl, ?_⟩
    refine ite2 (fun z => ?_) (fun z => ?_)
    · refine ⟨_, rfl, _, rfl, S, D, sg, q, n, rfl, W, wf, hn, fun H1 e1 => ⟨_, rfl, ?_⟩⟩
      cases hs : sw D n with
      | false => exact iteF (k false _ e1 fun z => by cases z)
      | true =>
        refine iteT ⟨_, rfl, _, rfl, _, rfl, S, D, sg, q, o, rfl, W.ext e1, wf, hrg, ho, fun p H2 L e2 hp hL => ⟨p, _, rfl, .inl (.of hp), rfl, flat_strL _, ?_⟩⟩
        show Q (.bl (!inV (.str n) (strL L))) H2
        rw [inV_str]
        exact k _ _ (e1.trans e2) fun z => ⟨hs, fun y => by simp [hL n y] at z⟩
    · exact k _ _ .refl fun y => by
        exfalso
        first
        | exact z y
        | cases y
def lowest (D : List C) : List Str := (nms D).filter fun n => decide (∀ c ∈ D, n ∉ c.bs)
def spLow (K : PySem.W.Frag) : Sp := fun vs H Q _ => ∃ (S : Addr → Prop) (D : List C) (sg : Sg) (q : PPar), vs = [.ref q.p] ∧ POk K S H D sg q ∧ Wf D ∧ (∀ c ∈ D, c.bs.length ≤ 3) ∧ RetL K (strL (lowest D)) H Q
theorem ok_law_lowest (T : Tx K mg) : FnOk P w K mg base CX0 1 (He.fAd K d_law_lowest.at_) (fdOf K (He.fAd K d_law_lowest.at_)) ["_law_plain"] (spLow K) := by
  refine (F_law_lowest T).ok sc_law_lowest (fun vs H Q E h => ?_) (fun cdv A outer s H vs Q E hr h => ?_)
  · obtain ⟨_, _, _, _, rfl, _⟩ := h
    rfl
  · obtain ⟨S, D, sg, q, rfl, W, wf, hbs, k⟩ := h
    have hu := hu_of hr
    refine ⟨_, PSs.nox (pss_cons (ps_set (i := 1) (sc_law_lowest).nd rfl (Or.inr rfl) (pe_lst pa_nil))
    (pss_cons (ps_for PassesOwn.never rfl (i_list (K := K) rfl (pe_dget hu (pv 0) pe_str (fun _ _ => rfl))) (pg_name (i := 2) (sc_law_lowest).nd rfl (Or.inl rfl)) (pss_one (ps_set (i := 1) (sc_law_lowest).nd rfl (Or.inr rfl) (pe_op op_cat (pv 1) (pe_dget hu (pe_dget hu (pv 0) pe_str (fun _ _ => rfl)) (pv 2) (fun _ _ => rfl))))))
    (pss_one (ps_ret (pe_lc (own := [("_law_name", 2)]) (g := gName 2) (tt := _) rfl (sc_law_lowest).nd (i_list (K := K) rfl (pe_dget hu (pv 0) pe_str (fun _ _ => rfl))) (blkOk_by (by kernel_rfl)) (fun _ _ _ _ _ => (pg_name (i := 2) (sc_law_lowest).nd rfl (by first | exact Or.inl rfl | exact Or.inr rfl))) (fun _ _ _ _ _ => pts_one (pt_cmpR (o_ni (K := K) rfl) (pv 2) (pv 1) (by rfl))) (fun _ _ _ _ _ => (pv 2))))))), ?_⟩
    refine ⟨Nat.zero_le _, fun u0 hu0 => ?_⟩
    have e0 : Ext K H (upd H u0 (.lst [])) := .new hu0 (nt_lst _)
    have W0 := W.ext e0
    refine ⟨_, rfl, q.p, _, rfl, W0.kN, q.nl, rfl, ⟨_, .of W0.nl_⟩, ?_⟩
    refine for_it walk_list (fun i σ H' => ∃ (us : List Str) (u : Addr) (x : Option V), σ = [some (.ref q.p), some (.ref u), x] ∧ Ext K H H' ∧ H' u = some (.lst (strL us)) ∧ us.length ≤ 3 * i ∧ ∀ x, x ∈ us ↔ ∃ m ∈ (nms D).take i, x ∈ (at_ D m).bs) ⟨[], u0, _, rfl, e0, upd_same, Nat.le_refl _, fun x => by simp⟩ (fun i σ H' _ ⟨_, _, _, _, h, _⟩ => .inl (.of (h.at W.nl_ (nt_lst _)))) ?_ ?_
    · rintro i x σ H1 H1' hi ⟨us, u, _, rfl, e1, hus, hlen, hm⟩ ⟨rfl, hx⟩
      obtain ⟨n, hn, rfl, nm⟩ := strL_get hx
      have W1 := W.ext e1
      have il : i < 50 := by
        have := nms_len wf
        have := (List.getElem?_eq_some_iff.mp hn).1
        omega
      have b3 := hbs _ (at_mem nm).1
      refine ⟨_, rfl, _, rfl, q.p, _, rfl, W1.kB, _, rfl, q.db, _, rfl, W1.gB nm, u, q.bl n, _, _, rfl, rfl, hus, W1.b nm, ?_, fun p hp => ?_⟩
      · rw [strL_length, strL_length]
        exact Nat.le_trans (show us.length + (at_ D n).bs.length ≤ 1000 by omega) (by decide)
      refine ⟨us ++ (at_ D n).bs, p, _, rfl, e1.trans (.new hp (nt_lst _)), by rw [upd_same, strL_append], by rw [List.length_append]; omega, fun x => ?_⟩
      rw [List.mem_append, hm x, List.take_succ, hn]
      constructor
      · rintro (⟨m, h1, h2⟩ | z)
        · exact ⟨m, List.mem_append_left _ h1, h2⟩
        · exact ⟨n, List.mem_append_right _ (List.mem_singleton.mpr rfl), z⟩
      · rintro ⟨m, h1, h2⟩
        rcases List.mem_append.mp h1 with z | z
        · exact .inl ⟨m, z, h2⟩
        · have z : m = n := by simpa using z
          exact .inr (z ▸ h2)
    · rintro σ H1 ⟨us, u, _, rfl, e1, hus, hlen, hm⟩
      have W1 := W.ext e1
      rw [strL_length, List.take_length] at hm
      refine ⟨_, rfl, q.p, _, rfl, W1.kN, q.nl, rfl, ⟨_, .of W1.nl_⟩, ?_⟩
      refine lcS_str (K := K) walk_list (fun x => if x ∉ us then some x else none) (fun H e => ext_l e (.of W1.nl_)) (Nat.le_trans (nms_len wf) (by decide)) (fun x hx H3 e3 N0 N1 h0 h1 => ?_) (fun L H3 f3 e3 h => ?_)
      · refine ⟨rfl, _, rfl, _, rfl, u, _, rfl, .inl (.of (e3.at hus (nt_lst _))), rfl, flat_strL _, _, rfl, ?_⟩
        show if (!inV (.str x) (strL us)) = true then _ else _
        rw [inV_str]
        by_cases q : x ∈ us
        · rw [if_neg (by simp [q])]
          exact h0 (if_neg fun z => z q) _ .refl
        · rw [if_pos (by simp [q])]
          exact ⟨_, rfl, h1 x (if_pos q) _ .refl⟩
      · rw [filterMap_filter] at h
        have e : (nms D).filter (fun x => decide (x ∉ us)) = lowest D := by
          unfold lowest
          refine List.filter_congr fun x _ => ?_
          rw [Bool.eq_iff_iff, decide_eq_true_eq, decide_eq_true_eq, hm x]
          constructor
          · intro z c hc hb
            exact z ⟨c.nm, List.mem_map.mpr ⟨c, hc, rfl⟩, by rw [at_of wf.nd hc]; exact hb⟩
          · rintro z ⟨m, h1, h2⟩
            exact z _ (at_mem h1).1 h2
        rw [e] at h
        exact k.go (e1.trans e3) (fresh_back e1 f3) h
def twoP (D : List C) : List (Str × Str) := ((nms D).filter fun n => sw D n).flatMap fun n => ((nms D).filter fun o => decide (o ≠ n)).map fun o => (n, o)
theorem filter_map_if {α β : Type} (f : α → β) (p : α → Prop) [DecidablePred p] : ∀ xs : List α, xs.filterMap (fun x => if p x then some (f x) else none) = (xs.filter fun x => decide (p x)).map f
  | [] => rfl
  | x :: r => by
    have ih := filter_map_if f p r
    by_cases h : p x
    · rw [List.filterMap_cons, List.filter_cons, if_pos h, if_pos (decide_eq_true h), List.map_cons, ← ih]
    · rw [List.filterMap_cons, List.filter_cons, if_neg h, if_neg (by simpa using h)]
      exact ih
theorem flat_len {α β : Type} (f : α → List β) (k : Nat) : ∀ (l : List α), (∀ x ∈ l, (f x).length ≤ k) → (l.flatMap f).length ≤ l.length * k
  | [], _ => by simp
  | x :: r, h => by
    rw [List.flatMap_cons, List.length_append, List.length_cons]
    have h1 := h x (List.mem_cons_self ..)
    have h2 := flat_len f k r fun y hy => h y (List.mem_cons_of_mem _ hy)
    have : (r.length + 1) * k = r.length * k + k := by rw [Nat.add_mul, Nat.one_mul]
    omega
def spTwo (K : PySem.W.Frag) : Sp := fun vs H Q _ => ∃ (S : Addr → Prop) (D : List C) (sg : Sg) (q : PPar), vs = [.ref q.p] ∧ POk K S H D sg q ∧ Wf D ∧ ∀ p H', Ext K H H' → PairsR H' p (twoP D) → Q (.ref p) H'
theorem ok_law_two_classes (T : Tx K mg) : FnOk P w K mg base CX0 2 (He.fAd K d_law_two_classes.at_) (fdOf K (He.fAd K d_law_two_classes.at_)) ["_law_plain"] (spTwo K) := by
  refine (F_law_two_classes T).ok sc_law_two_classes (fun vs H Q E h => ?_) (fun cdv A outer s H vs Q E hr h => ?_)
  · obtain ⟨_, _, _, _, rfl, _⟩ := h
    rfl
  · obtain ⟨S, D, sg, q, rfl, W, wf, k⟩ := h
    have hu := hu_of hr
    refine ⟨_, PSs.nox (pss_cons (ps_setLc (i := 1) (own := [("_law_name", 3)]) (g := gName 3) (tt := _) rfl (sc_law_two_classes).nd rfl rfl (sw_true rfl rfl rfl (by decide +kernel)) (i_list (K := K) rfl (pe_dget hu (pv 0) pe_str (fun _ _ => rfl))) (blkOk_by (by kernel_rfl)) (fun _ _ _ _ _ => (pg_name (i := 3) (sc_law_two_classes).nd rfl (by first | exact Or.inl rfl | exact Or.inr rfl))) (fun _ _ _ _ _ => pts_one (pt_val (pe_call (ok_law_sworn T) (hr.mono (by decide)) rfl (g_law_sworn T) (F_law_sworn T).kp (b_law_sworn T) .nil pass0 (pa_cons (pv 0) (pa_cons (pv 3) pa_nil))))) (fun _ _ _ _ _ => (pv 3)))
    (pss_cons (ps_set (i := 2) (sc_law_two_classes).nd rfl (Or.inl rfl) (pe_lst pa_nil))
    (pss_cons (ps_for PassesOwn.never rfl (i_list (K := K) rfl (pv 1)) (pg_name (i := 3) (sc_law_two_classes).nd rfl (Or.inr rfl)) (pss_one (ps_set (i := 2) (sc_law_two_classes).nd rfl (Or.inl rfl) (pe_op op_cat (pv 2) (pe_lc (own := [("_law_other", 4)]) (g := gName 4) (tt := _) rfl (sc_law_two_classes).nd (i_list (K := K) rfl (pe_dget hu (pv 0) pe_str (fun _ _ => rfl))) (blkOk_by (by kernel_rfl)) (fun _ _ _ _ _ => (pg_name (i := 4) (sc_law_two_classes).nd rfl (by first | exact Or.inl rfl | exact Or.inr rfl))) (fun _ _ _ _ _ => pts_one (pt_cmpR op_ne (pv 4) (pv 3) (nomark _))) (fun _ _ _ _ _ => (pe_tup (pa_cons (pv 3) (pa_cons (pv 4) pa_nil)))))))))
    (pss_one (ps_ret (pv 2)))))), ?_⟩
    refine ⟨_, rfl, q.p, _, rfl, W.kN, q.nl, rfl, ⟨_, .of W.nl_⟩, ?_⟩
    refine lcS_str (K := K) walk_list (fun n => if sw D n = true then some n else none) (fun H e => ext_l e (.of W.nl_)) (Nat.le_trans (nms_len wf) (by decide)) (fun n hn H3 e3 N0 N1 h0 h1 => ?_) (fun SL H3 f3 e3 hSL => ?_)
    · refine ⟨rfl, _, rfl, _, rfl, S, D, sg, q, n, rfl, W.ext e3, wf, hn, fun H4 e4 => ⟨_, rfl, ?_⟩⟩
      refine ite2 (fun z => ?_) (fun z => ?_)
      · exact ⟨_, rfl, h1 n (if_pos z) _ e4⟩
      · exact h0 (if_neg z) _ e4
    rw [filterMap_filter] at hSL
    have e : (nms D).filter (fun x => decide (sw D x = true)) = (nms D).filter fun n => sw D n := List.filter_congr fun x _ => by cases sw D x <;> rfl
    rw [e] at hSL
    clear e
    generalize hss : (nms D).filter (fun n => sw D n) = ss at hSL
    have ssm : ∀ x ∈ ss, x ∈ nms D := fun x hx => by
      rw [← hss] at hx
      exact (List.mem_filter.mp hx).1
    have ssl : ss.length ≤ 50 := by
      rw [← hss]
      exact Nat.le_trans (List.length_filter_le _ _) (nms_len wf)
    refine ⟨Nat.zero_le _, fun f0 hf0 => ?_⟩
    have e4 : Ext K H3 (upd H3 f0 (.lst [])) := .new hf0 (nt_lst _)
    refine ⟨_, rfl, SL, rfl, ⟨_, .of (e4.at hSL (nt_lst _))⟩, ?_⟩
    refine for_it walk_list (fun i σ H' => ∃ (f : Addr) (x y : Option V), σ = [some (.ref q.p), some (.ref SL), some (.ref f), x, y] ∧ Ext K H3 H' ∧ PairsR H' f ((ss.take i).flatMap fun n => ((nms D).filter fun o => decide (o ≠ n)).map fun o => (n, o))) ⟨f0, _, _, rfl, e4, [], upd_same, .nil⟩ (fun i σ H' _ ⟨_, _, _, _, h, _⟩ => .inl (.of (h.at hSL (nt_lst _)))) ?_ ?_
    · rintro i x σ H5 H5' hi ⟨f, _, _, rfl, e5, rs, hf, hpr⟩ ⟨rfl, hx⟩
      obtain ⟨n, hn, rfl, nm⟩ := strL_get hx
      have W5 := W.ext (e3.trans e5)
      have il : i < ss.length := (List.getElem?_eq_some_iff.mp hn).1
      have rl : rs.length ≤ 2500 := by
        rw [paired_len hpr]
        refine Nat.le_trans (flat_len _ 50 _ fun x _ => ?_) (show (ss.take i).length * 50 ≤ 2500 by rw [List.length_take]; omega)
        rw [List.length_map]
        exact Nat.le_trans (List.length_filter_le _ _) (nms_len wf)
      refine ⟨_, rfl, _, rfl, q.p, _, rfl, W5.kN, q.nl, rfl, ⟨_, .of W5.nl_⟩, ?_⟩
      refine lcS (K := K) walk_list (fun _ H' (y : V) (z : Str × Str) => ∃ r : Addr, y = .ref r ∧ H' r = some (.tup [.str z.1, .str z.2])) (fun o => if o ≠ n then some (n, o) else none) (fun _ _ _ _ _ a ⟨r, h1, h2⟩ => ⟨r, h1, a.tup h2⟩) (fun H e => ext_l e (.of W5.nl_)) (Nat.le_trans (nms_len wf) (by decide)) (fun o ho H6 DD e6 fD aD N0 N1 h0 h1 => ?_) (fun DD acc H6 fD e6 hD pr => ?_)
      · refine ⟨rfl, _, rfl, _, rfl, rfl, _, rfl, ?_⟩
        refine ite2 (fun z => ?_) (fun z => ?_)
        · exact ⟨_, rfl, _, rfl, Nat.le_of_ble_eq_true rfl, fun p hp => h1 (n, o) (if_pos (by simpa using z)) _ _ (.new hp (nt_tup _)) ⟨p, rfl, upd_same⟩⟩
        · exact h0 (if_neg (by simpa using z)) _ .refl
      · obtain ⟨rs2, rfl, pr2⟩ := paired_refs (ps := twoP D) pr
        have el : (nms D).filterMap (fun o => if o ≠ n then some (n, o) else none) = ((nms D).filter fun o => decide (o ≠ n)).map fun o => (n, o) := by
          exact filter_map_if (fun o => (n, o)) (fun o => o ≠ n) _
        rw [el] at pr2
        refine ⟨f, DD, _, _, rfl, rfl, e6.at hf (nt_lst _), hD, ?_, fun p hp => ?_⟩
        · rw [List.length_map, List.length_map, paired_len pr2, List.length_map]
          refine Nat.le_trans (Nat.add_le_add rl (Nat.le_trans (List.length_filter_le _ _) (nms_len wf))) (by decide)
        · have e7 := e6.trans (Frm.new hp (nt_lst (rs.map V.ref ++ rs2.map V.ref)))
          refine ⟨p, _, _, rfl, e5.trans e7, rs ++ rs2, by rw [upd_same, List.map_append], ?_⟩
          rw [List.take_succ, hn, List.flatMap_append]
          refine paired_append (L2.Paired.mapP hpr fun _ _ h => e7.tup h) ?_
          simp only [Option.toList, List.flatMap_cons, List.flatMap_nil, List.append_nil]
          exact L2.Paired.mapP pr2 fun _ _ h => Frm.tup (K := K) (S := fun _ => False) (.new hp (nt_lst _)) h
    · rintro σ H5 ⟨f, _, _, rfl, e5, hP⟩
      rw [strL_length, List.take_length, ← hss] at hP
      exact ⟨_, rfl, k f _ (e3.trans e5) hP⟩
end
end ST
set_option maxHeartbeats 4000000
namespace ST
open PySem PySem.Spec PyProof.Rows L2
open LamX (CodeO Tabs TabB)
/-- rules are small -/
structure Sm (D : List C) : Prop where
  len : D.length ≤ 8
  hk : ∀ c ∈ D, ∀ h, c.hk = some h → h.length ≤ 3 ∧ ∀ q ∈ h, q.1.length ≤ 3
section
variable {P : Program} {w : World} {K : PySem.W.Frag} {mg : Str → Option Value} {base : Heap}
def spLMe (K : PySem.W.Frag) : Sp := fun vs H Q _ => ∃ (S : Addr → Prop) (D : List C) (sg : Sg) (q : PPar), vs = [.ref q.p] ∧ POk K S H D sg q ∧ Wf D ∧ Sm D ∧ ∀ p H' l, Ext K H H' → H' p = some (.lst (strL l)) → l.length ≤ 6 → Q (.ref p) H'
theorem ok_law_methods (T : Tx K mg) : FnOk P w K mg base CX0 1 (He.fAd K d_law_methods.at_) (fdOf K (He.fAd K d_law_methods.at_)) ["_law_plain"] (spLMe K) := by
  refine (F_law_methods T).ok sc_law_methods (fun vs H Q E h => ?_) (fun cdv A outer s H vs Q E hr h => ?_)
  · obtain ⟨_, _, _, _, rfl, _⟩ := h
    rfl
  · obtain ⟨S, D, sg, q, rfl, W, wf, sm, k⟩ := h
    have hu := hu_of hr
    refine ⟨_, PSs.nox (pss_cons (ps_set (i := 1) (sc_law_methods).nd rfl (Or.inl rfl) (pe_lst pa_nil))
    (pss_cons (ps_for PassesOwn.never rfl (i_list (K := K) rfl (pe_dget hu (pv 0) pe_str (fun _ _ => rfl))) (pg_name (i := 2) (sc_law_methods).nd rfl (Or.inl rfl)) (pss_one (ps_if (pt_cmpR op_notN (pe_dget hu (pe_dget hu (pv 0) pe_str (fun _ _ => rfl)) (pv 2) (fun _ _ => rfl)) pe_non (nomark _)) (pss_one (ps_for PassesOwn.never rfl (i_tup (K := K) rfl (pe_ix (x_t (K := K) rfl) (pe_dget hu (pe_dget hu (pv 0) pe_str (fun _ _ => rfl)) (pv 2) (fun _ _ => rfl)) pe_int (fun _ _ => rfl))) (g_tup (K := K) rfl rfl (pgs_cons (pg_name (i := 3) (sc_law_methods).nd rfl (Or.inl rfl)) (pgs_cons (pg_name (i := 4) (sc_law_methods).nd rfl (Or.inl rfl)) pgs_nil))) (pss_one (ps_set (i := 1) (sc_law_methods).nd rfl (Or.inl rfl) (pe_op op_cat (pv 1) (pe_callTy (k_list (K := K) rfl) (by rfl) (z_list T) (by decide +kernel) (pa_cons (pv 3) pa_nil))))))) pss_nil)))
    (pss_one (ps_ret (pe_callB (k_sortX rfl) (by rfl) (z_sorted T) (by decide +kernel) (pa_cons (pe_callTy (k_setX (K := K) rfl rfl) (by rfl) (z_set T) (by decide +kernel) (pa_cons (pv 1) pa_nil)) pa_nil)))))), ?_⟩
    refine ⟨Nat.zero_le _, fun f0 hf0 => ?_⟩
    have e0 : Ext K H (upd H f0 (.lst [])) := .new hf0 (nt_lst _)
    have W0 := W.ext e0
    refine ⟨_, rfl, q.p, _, rfl, W0.kN, q.nl, rfl, ⟨_, .of W0.nl_⟩, ?_⟩
    refine for_it walk_list (fun i σ H' => ∃ (fs : List Str) (f : Addr) (x y z : Option V), σ = [some (.ref q.p), some (.ref f), x, y, z] ∧ Ext K H H' ∧ H' f = some (.lst (strL fs)) ∧ fs.length ≤ 9 * i ∧ ∀ x ∈ fs, x ∈ methodsOf D) ⟨[], f0, _, _, _, rfl, e0, upd_same, Nat.le_refl _, fun x hx => by cases hx⟩ (fun i σ H' _ ⟨_, _, _, _, _, _, h, _⟩ => .inl (.of (h.at W.nl_ (nt_lst _)))) ?_ ?_
    · rintro i x σ H1 H1' hi ⟨fs, f, _, _, _, rfl, e1, hfs, hlen, hm⟩ ⟨rfl, hx⟩
      obtain ⟨n, hn, rfl, nm⟩ := strL_get hx
      have W1 := W.ext e1
      have il : i < 8 := by
        have := (List.getElem?_eq_some_iff.mp hn).1
        rw [List.length_map] at this
        have := sm.len
        omega
      obtain ⟨am1, am2⟩ := at_mem nm
      have hR := W1.r nm
      refine ⟨_, rfl, q.p, _, rfl, W1.kU, _, rfl, q.du, _, rfl, W1.gU nm, rfl, _, rfl, ?_⟩
      cases hh : (at_ D n).hk with
      | none =>
        rw [hh] at hR
        obtain ⟨hv, _⟩ := hR
        rw [hv]
        exact iteF ⟨fs, f, _, _, _, rfl, e1, hfs, by omega, hm⟩
      | some h =>
        rw [hh] at hR
        obtain ⟨r, a, hv, hr1, _, rs, ea, ha, hrs⟩ := hR
        cases ea
        have gU := W1.gU nm
        rw [hv] at gU ⊢
        refine iteT ?_
        obtain ⟨h3, hq3⟩ := sm.hk _ am1 h hh
        refine ⟨_, rfl, q.p, _, rfl, W1.kU, _, rfl, q.du, _, rfl, gU, r, _, 0, .ref a, rfl, rfl, .inl (.of hr1), rfl, a, rfl, ⟨_, .inl (.of ha)⟩, ?_⟩
        refine for_it walk_tup (fun j σ H' => ∃ (fs' : List Str) (f : Addr) (y z : Option V), σ = [some (.ref q.p), some (.ref f), some (.str n), y, z] ∧ Ext K H1' H' ∧ H' f = some (.lst (strL fs')) ∧ fs'.length ≤ 9 * i + 3 * j ∧ ∀ x ∈ fs', x ∈ methodsOf D) ⟨fs, f, _, _, rfl, .refl, hfs, by omega, hm⟩ (fun j σ H' _ ⟨_, _, _, _, _, h, _⟩ => .inl (.of (h.tup ha))) ?_ ?_
        · rintro j x σ H2 H2' hj ⟨fs', f, _, _, rfl, e2, hfs', hlen', hm'⟩ ⟨rfl, hx⟩
          rw [List.getElem?_map] at hx
          cases hr9 : rs[j]? with
          | none => rw [hr9] at hx; cases hx
          | some rr =>
            rw [hr9] at hx
            cases hx
            obtain ⟨c, hc, m, z1, z2⟩ := paired_get hrs hr9
            have hcm := List.mem_of_getElem? hc
            have hj3 : j < 3 := by
              have := (List.getElem?_eq_some_iff.mp hc).1
              omega
            have cl := hq3 c hcm
            have z2' := e2.tup z2
            refine ⟨rr, _, rfl, .of (e2.tup z1), rfl, _, _, rfl, _, _, rfl, rfl, ?_⟩
            refine ⟨_, rfl, _, rfl, m, _, rfl, .inr (.inl (.of z2')), fun l hl => ?_⟩
            have e3 : Ext K H2' (upd H2' l (.lst (strL c.1))) := .new hl (nt_lst _)
            refine ⟨f, l, _, _, rfl, rfl, e3.at hfs' (nt_lst _), upd_same, ?_, fun p hp => ?_⟩
            · rw [strL_length, strL_length]
              exact Nat.le_trans (show fs'.length + c.1.length ≤ 1000 by omega) (by decide)
            refine ⟨fs' ++ c.1, p, _, _, rfl, (e2.trans e3).trans (.new hp (nt_lst _)), by rw [upd_same, strL_append], by rw [List.length_append]; omega, fun x hx => ?_⟩
            rcases List.mem_append.mp hx with z | z
            · exact hm' x z
            · refine List.mem_flatMap.mpr ⟨_, am1, ?_⟩
              rw [hh]
              exact List.mem_flatMap.mpr ⟨c, hcm, z⟩
        · rintro σ H2 ⟨fs', f, _, _, rfl, e2, hfs', hlen', hm'⟩
          rw [List.length_map, paired_len hrs] at hlen'
          exact ⟨fs', f, _, _, _, rfl, e1.trans e2, hfs', by omega, hm'⟩
    · rintro σ H1 ⟨fs, f, _, _, _, rfl, e1, hfs, hlen, hm⟩
      rw [strL_length, List.length_map] at hlen
      have := sm.len
      refine ⟨_, rfl, f, fs, rfl, .inl (.inl (.of hfs)), by omega, fun a l ha hnd hmem _ => ?_⟩
      obtain ⟨U, u1, u2⟩ := wf.me
      have ll : l.length ≤ 6 := Nat.le_trans (nodup_len hnd fun x hx => u2 x (hm x ((hmem x).mp hx))) u1
      refine ⟨a, l, rfl, upd_same, by omega, fun p ns hp hns hnm => ?_⟩
      · refine k p _ ns (e1.trans (.trans (.new ha (nt_setX _ _ _ _)) (.new hp (nt_lst _)))) upd_same (by rw [hns]; exact ll)
def LPatR (H : Hp) (p : Addr) (ps : List (List Str)) : Prop := ∃ rs : List Addr, H p = some (.lst (rs.map V.ref)) ∧ LsR H rs ps
def spLPa (K : PySem.W.Frag) : Sp := fun vs H Q _ => ∃ (S : Addr → Prop) (D : List C) (sg : Sg) (q : PPar), vs = [.ref q.p] ∧ POk K S H D sg q ∧ Wf D ∧ Sm D ∧ ∀ p H' rs ps, Ext K H H' → H' p = some (.lst (rs.map V.ref)) → LsR H' rs ps → ¬ Al H p → (∀ r ∈ rs, ¬ Al H r) → ps.length ≤ 64 → Q (.ref p) H'
theorem ok_law_patterns (T : Tx K mg) : FnOk P w K mg base CX0 2 (He.fAd K d_law_patterns.at_) (fdOf K (He.fAd K d_law_patterns.at_)) ["_law_plain"] (spLPa K) := by
  refine (F_law_patterns T).ok sc_law_patterns (fun vs H Q E h => ?_) (fun cdv A outer s H vs Q E hr h => ?_)
  · obtain ⟨_, _, _, _, rfl, _⟩ := h
    rfl
  · obtain ⟨S, D, sg, q, rfl, W, wf, sm, k⟩ := h
    have hu := hu_of hr
    refine ⟨_, PSs.nox (pss_cons (ps_set (i := 1) (sc_law_patterns).nd rfl (Or.inl rfl) (pe_lst (pa_cons (pe_lst pa_nil) pa_nil)))
    (pss_cons (ps_for PassesOwn.never rfl (i_list (K := K) rfl (pe_call (ok_law_methods T) (hr.mono (by decide)) rfl (g_law_methods T) (F_law_methods T).kp (b_law_methods T) .nil pass0 (pa_cons (pv 0) pa_nil))) (pg_name (i := 2) (sc_law_patterns).nd rfl (Or.inr rfl)) (pss_one (ps_set (i := 1) (sc_law_patterns).nd rfl (Or.inl rfl) (pe_op op_cat (pv 1) (pe_lc (own := [("_law_one", 3)]) (g := gName 3) (tt := tYes) rfl (sc_law_patterns).nd (i_list (K := K) rfl (pv 1)) (blkOk_by (by kernel_rfl)) (fun _ _ _ _ _ => (pg_name (i := 3) (sc_law_patterns).nd rfl (by first | exact Or.inl rfl | exact Or.inr rfl))) (fun _ _ _ _ _ => pts_nil) (fun _ _ _ _ _ => (pe_op op_cat (pv 3) (pe_lst (pa_cons (pv 2) pa_nil)))))))))
    (pss_one (ps_ret (pv 1))))), ?_⟩
    refine ⟨Nat.zero_le _, fun e he => ⟨Nat.le_of_ble_eq_true rfl, fun f0 hf0 => ?_⟩⟩
    have e0 : Ext K H (upd (upd H e (.lst [])) f0 (.lst [.ref e])) := Frm.trans (.new he (nt_lst _)) (.new hf0 (nt_lst _))
    refine ⟨_, rfl, S, D, sg, q, rfl, W.ext e0, wf, sm, fun p H1 l e1 hp ll => ?_⟩
    have e01 := e0.trans e1
    have fe : ¬ Al H e := fresh_none he
    have ff0 : ¬ Al H f0 := fun z => (fresh_none hf0) (al_upd (nt_lst _) z)
    refine ⟨p, rfl, ⟨_, .of hp⟩, ?_⟩
    refine for_it walk_list (fun i σ H' => ∃ (x2 x3 : Option V) (f : Addr) (rs : List Addr) (ps : List (List Str)), σ = [some (.ref q.p), some (.ref f), x2, x3] ∧ Ext K H1 H' ∧ H' f = some (.lst (rs.map V.ref)) ∧ LsR H' rs ps ∧ ¬ Al H f ∧ (∀ r ∈ rs, ¬ Al H r) ∧ ps.length ≤ 2 ^ i ∧ ∀ z ∈ ps, z.length ≤ i) ⟨_, _, f0, [e], [[]], rfl, .refl, ?_, ?_, ff0, fun r hr9 => List.mem_singleton.mp hr9 ▸ fe, Nat.le_refl _, fun z hz => by rw [List.mem_singleton.mp hz]; exact Nat.le_refl _⟩ (fun i σ H' _ ⟨_, _, _, _, _, _, h, _⟩ => .inl (.of (h.at hp (nt_lst _)))) ?_ ?_
    · exact e1.at upd_same (nt_lst _)
    · refine .cons (e1.at ?_ (nt_lst _)) .nil
      rw [upd_ne (ne_of_none (by rw [upd_same]) hf0)]
      exact upd_same
    · rintro i x σ H2 H2' hi ⟨x2, x3, f, rs, ps, rfl, e2, hf1, hf2, nf, nrs, plen, pz⟩ ⟨rfl, hx⟩
      obtain ⟨m, hm, rfl, mm⟩ := strL_get hx
      have hlt : i < l.length := (List.getElem?_eq_some_iff.mp hm).1
      have pow : 2 ^ i ≤ 2 ^ 6 := Nat.pow_le_pow_right (by omega) (by omega)
      have rlen : rs.length ≤ 64 := by rw [paired_len hf2]; omega
      refine ⟨_, rfl, _, rfl, f, rfl, ⟨_, .of hf1⟩, ?_⟩
      refine lcw (K := K) walk_list (fun D' H9 (y : V) (z : List Str) => ∃ r : Addr, y = .ref r ∧ H9 r = some (.lst (strL z)) ∧ r ≠ D' ∧ ¬ Al H r) (fun j => (ps[j]?).bind fun z => some (z ++ [m])) (fun _ _ _ _ _ a ⟨r, h1, h2, h3, h4⟩ => ⟨r, h1, a.lst h2 h3, h3, h4⟩) (fun H e => ext_l e (.of hf1)) (by rw [List.length_map]; exact Nat.le_trans rlen (by decide)) (fun j x H3 H3' DD hj e3 y fD aD N0 N1 h0 h1 => ?_) (fun DD acc H3 fD e3 h pr => ?_)
      · obtain ⟨rfl, hx⟩ := y
        rw [List.getElem?_map] at hx
        cases hr' : rs[j]? with
        | none => rw [hr'] at hx; cases hx
        | some r =>
          rw [hr'] at hx
          cases hx
          obtain ⟨z, hz, hrr⟩ := paired_get hf2 hr'
          rw [hz] at h1
          have zl := pz z (List.mem_of_getElem? hz)
          refine ⟨rfl, _, rfl, _, rfl, Nat.le_of_ble_eq_true rfl, fun tp htp => ?_⟩
          have e4 : Ext K H3' (upd H3' tp (.lst [.str m])) := .new htp (nt_lst _)
          refine ⟨r, tp, strL z, [.str m], rfl, rfl, (e3.trans e4).at hrr (nt_lst _), upd_same, ?_, fun p' hp' => ?_⟩
          · rw [strL_length]
            exact Nat.le_trans (show z.length + 1 ≤ 100 by omega) (by decide)
          · refine h1 _ rfl _ _ (e4.trans (.new hp' (nt_lst _))) ⟨p', rfl, ?_, (ne_fresh (e4.al _ aD) (fresh_none hp')).symm, fresh_of (((e01.trans e2).trans e3).trans e4) hp'⟩
            rw [upd_same, strL_append]
            rfl
      · rw [List.length_map, paired_len hf2, range_bind, List.filterMap_eq_map'] at pr
        refine ⟨f, DD, _, _, rfl, rfl, e3.at hf1 (nt_lst _), h, ?_, fun f' hf' => ?_⟩
        · rw [List.length_map, paired_len pr, List.length_map]
          exact Nat.le_trans (show rs.length + ps.length ≤ 1000 by omega) (by decide)
        · have e5 := e3.trans (Frm.new hf' (nt_lst (rs.map V.ref ++ acc)))
          obtain ⟨rs2, rfl, pr2, fr2⟩ := lists_out2 pr
          refine ⟨_, _, f', rs ++ rs2, ps ++ ps.map fun z => z ++ [m], rfl, e2.trans e5, by rw [upd_same, List.map_append], paired_append (hf2.ext e5) (pr2.ext (K := K) (.new hf' (nt_lst _))), fresh_of ((e01.trans e2).trans e3) hf', fun r hr9 => (List.mem_append.mp hr9).elim (nrs r) (fr2 r), ?_, fun z hz => ?_⟩
          · rw [List.length_append, List.length_map, Nat.pow_succ]
            omega
          · rcases List.mem_append.mp hz with y | y
            · exact Nat.le_succ_of_le (pz z y)
            · obtain ⟨z0, h0, rfl⟩ := List.mem_map.mp y
              rw [List.length_append]
              exact Nat.succ_le_succ (pz z0 h0)
    · rintro σ H2 ⟨x2, x3, f, rs, ps, rfl, e2, hf1, hf2, nf, nrs, plen, _⟩
      have pow : 2 ^ (strL l).length ≤ 2 ^ 6 := Nat.pow_le_pow_right (by omega) (by rw [strL_length]; exact ll)
      exact ⟨_, rfl, k f _ rs ps (e01.trans e2) hf1 hf2 nf nrs (by omega)⟩
end
end ST
set_option maxHeartbeats 4000000
namespace ST
open PySem PySem.Spec PyProof.Rows L2
open LamX (CodeO Tabs TabB)
theorem at0 (c : Str) (l : List Str) : atI (strL (c :: l)) 0 = some (.str c) := atI_nat (j := 0) rfl
theorem find_head {α : Type} (p : α → Bool) : ∀ xs : List α, xs.find? p = (xs.filter p).head?
  | [] => rfl
  | x :: r => by
    rw [List.find?_cons, List.filter_cons]
    cases h : p x
    · exact find_head p r
    · rfl
theorem canBe_not (ls : List (List Str)) (h : Str) : canBe ls h = !(ls.any fun l => decide (h ∈ l.tail)) := by
  unfold canBe
  induction ls with
  | nil => rfl
  | cons l r ih =>
    rw [List.all_cons, List.any_cons, ih, Bool.not_or]
    by_cases z : h ∈ l.tail <;> simp [z]
theorem rm_len (h : Str) : ∀ ls : List (List Str), (rmH h ls).flatten.length ≤ ls.flatten.length
  | [] => Nat.le_refl _
  | l :: r => by
    show ((l.filter _) ++ (rmH h r).flatten).length ≤ (l ++ r.flatten).length
    rw [List.length_append, List.length_append]
    exact Nat.add_le_add (List.length_filter_le _ _) (rm_len h r)
theorem filter_lt {h : Str} : ∀ {l : List Str}, h ∈ l → (l.filter fun n => decide (n ≠ h)).length < l.length
  | x :: r, hm => by
    rw [List.filter_cons]
    by_cases z : x = h
    · rw [if_neg (by simp [z]), List.length_cons]
      exact Nat.lt_succ_of_le (List.length_filter_le _ _)
    · rw [if_pos (by simp [z]), List.length_cons, List.length_cons]
      exact Nat.succ_lt_succ (filter_lt ((List.mem_cons.mp hm).resolve_left fun e => z e.symm))
theorem rm_lt {h : Str} : ∀ {ls : List (List Str)}, h ∈ heads ls → (rmH h ls).flatten.length < ls.flatten.length
  | l :: r, hm => by
    show ((l.filter _) ++ (rmH h r).flatten).length < (l ++ r.flatten).length
    rw [List.length_append, List.length_append]
    cases l with
    | nil => exact Nat.add_lt_add_of_le_of_lt (Nat.zero_le _) (rm_lt hm)
    | cons x xs =>
      rcases List.mem_cons.mp (show h ∈ x :: heads r from hm) with z | z
      · exact Nat.add_lt_add_of_lt_of_le (filter_lt (z ▸ List.mem_cons_self ..)) (rm_len h r)
      · exact Nat.add_lt_add_of_le_of_lt (List.length_filter_le _ _) (rm_lt z)
section
variable {P : Program} {w : World} {K : PySem.W.Frag} {mg : Str → Option Value} {base : Heap}
def spLMg (K : PySem.W.Frag) : Sp := fun vs H Q _ => ∃ (p : Addr) (rs : List Addr) (ls : List (List Str)) (n : Nat), vs = [.ref p] ∧ H p = some (.lst (rs.map V.ref)) ∧ LsR H rs ls ∧ ls.length ≤ 100 ∧ (∀ l ∈ ls, l.length ≤ 100) ∧ ls.flatten.length < n ∧ n ≤ 1000 ∧ (mrg n ls = none → ∀ H', Ext K H H' → Q .non H') ∧ (∀ r, mrg n ls = some r → RetL K (strL r) H Q)
theorem ok_law_merge (T : Tx K mg) : FnOk P w K mg base CX0 1 (He.fAd K d_law_merge.at_) (fdOf K (He.fAd K d_law_merge.at_)) ["_law_lists"] (spLMg K) := by
  refine (F_law_merge T).ok sc_law_merge (fun vs H Q E h => ?_) (fun cdv A outer s H vs Q E hr h => ?_)
  · obtain ⟨_, _, _, _, rfl, _⟩ := h
    rfl
  · obtain ⟨p, rs, ls, n, rfl, hp, hL, hlen, hll, hfl, hn, k0, k1⟩ := h
    have hu := hu_of hr
    refine ⟨_, PSs.nox (pss_cons (ps_asg (pe_tup (pa_cons (pe_lc (own := [("_law_one", 5)]) (g := gName 5) (tt := tYes) rfl (sc_law_merge).nd (i_list (K := K) rfl (pv 0)) (blkOk_by (by kernel_rfl)) (fun _ _ _ _ _ => (pg_name (i := 5) (sc_law_merge).nd rfl (by first | exact Or.inl rfl | exact Or.inr rfl))) (fun _ _ _ _ _ => pts_nil) (fun _ _ _ _ _ => (pe_callTy (k_list (K := K) rfl) (by rfl) (z_list T) (by decide +kernel) (pa_cons (pv 5) pa_nil)))) (pa_cons (pe_lst pa_nil) pa_nil))) (g_tup (K := K) rfl rfl (pgs_cons (pg_name (i := 1) (sc_law_merge).nd rfl (Or.inr rfl)) (pgs_cons (pg_name (i := 2) (sc_law_merge).nd rfl (Or.inl rfl)) pgs_nil))))
    (pss_cons (ps_while PassesOwn.never (pt_cmpR (o_neT (K := K) rfl hr.units) (pe_lc (own := [("_law_one", 5)]) (g := gName 5) (tt := _) rfl (sc_law_merge).nd (i_list (K := K) rfl (pv 1)) (blkOk_by (by kernel_rfl)) (fun _ _ _ _ _ => (pg_name (i := 5) (sc_law_merge).nd rfl (by first | exact Or.inl rfl | exact Or.inr rfl))) (fun _ _ _ _ _ => pts_one (pt_cmpR (o_neT (K := K) rfl hr.units) (pv 5) (pe_lst pa_nil) (nomark _))) (fun _ _ _ _ _ => (pv 5))) (pe_lst pa_nil) (nomark _)) (pss_cons (ps_setLc (i := 3) (own := [("_law_one", 5)]) (g := gName 5) (tt := _) rfl (sc_law_merge).nd rfl rfl (sw_true rfl rfl rfl (by decide +kernel)) (i_list (K := K) rfl (pv 1)) (blkOk_by (by kernel_rfl)) (fun _ _ _ _ _ => (pg_name (i := 5) (sc_law_merge).nd rfl (by first | exact Or.inl rfl | exact Or.inr rfl))) (fun _ _ _ _ _ => pts_one (pt_cmpR (o_neT (K := K) rfl hr.units) (pv 5) (pe_lst pa_nil) (nomark _))) (fun _ _ _ _ _ => (pe_ix (x_l (K := K) rfl) (pv 5) pe_int (fun _ _ => rfl))))
    (pss_cons (ps_set (i := 4) (sc_law_merge).nd rfl (Or.inr rfl) (pe_lc (own := [("_law_head", 6)]) (g := gName 6) (tt := _) rfl (sc_law_merge).nd (i_list (K := K) rfl (pv 3)) (blkOk_by (by kernel_rfl)) (fun _ _ _ _ _ => (pg_name (i := 6) (sc_law_merge).nd rfl (by first | exact Or.inl rfl | exact Or.inr rfl))) (fun _ _ _ _ _ => pts_one (pt_not (pt_val (pe_callB (k_any (K := K) rfl rfl) (by rfl) (z_any T) (by decide +kernel) (pa_cons (pe_lc (own := [("_law_one", 5)]) (g := gName 5) (tt := tYes) rfl (sc_law_merge).nd (i_list (K := K) rfl (pv 1)) (blkOk_by (by kernel_rfl)) (fun _ _ _ _ _ => (pg_name (i := 5) (sc_law_merge).nd rfl (by first | exact Or.inl rfl | exact Or.inr rfl))) (fun _ _ _ _ _ => pts_nil) (fun _ _ _ _ _ => (pe_cmpR (o_in (K := K) rfl) (pv 6) (pe_slice (l_l (K := K) rfl) (pv 5) (po_some pe_int) po_none) (by rfl)))) pa_nil))))) (fun _ _ _ _ _ => (pv 6))))
    (pss_cons (ps_if (pt_cmpR (o_eqT (K := K) rfl hr.units) (pv 4) (pe_lst pa_nil) (nomark _)) (pss_one (ps_ret pe_non)) pss_nil)
    (pss_cons (ps_expr (w_append (K := K) rfl (pv 2) (pe_ix (x_l (K := K) rfl) (pv 4) pe_int (fun _ _ => rfl))))
    (pss_one (ps_set (i := 1) (sc_law_merge).nd rfl (Or.inr rfl) (pe_lc (own := [("_law_one", 5)]) (g := gName 5) (tt := tYes) rfl (sc_law_merge).nd (i_list (K := K) rfl (pv 1)) (blkOk_by (by kernel_rfl)) (fun _ _ _ _ _ => (pg_name (i := 5) (sc_law_merge).nd rfl (by first | exact Or.inl rfl | exact Or.inr rfl))) (fun _ _ _ _ _ => pts_nil) (fun _ _ _ _ _ => (pe_lc (own := [("_law_other", 7)]) (g := gName 7) (tt := _) rfl (sc_law_merge).nd (i_list (K := K) rfl (pv 5)) (blkOk_by (by kernel_rfl)) (fun _ _ _ _ _ => (pg_name (i := 7) (sc_law_merge).nd rfl (by first | exact Or.inl rfl | exact Or.inr rfl))) (fun _ _ _ _ _ => pts_one (pt_cmpR op_ne (pv 7) (pe_ix (x_l (K := K) rfl) (pv 4) pe_int (fun _ _ => rfl)) (nomark _))) (fun _ _ _ _ _ => (pv 7))))))))))))
    (pss_one (ps_ret (pv 2))))), ?_⟩
    refine ⟨_, rfl, p, rfl, ⟨_, .of hp⟩, ?_⟩
    refine lcw (K := K) walk_list (fun D' H' (y : V) (l : List Str) => ∃ r : Addr, y = .ref r ∧ H' r = some (.lst (strL l)) ∧ r ≠ D') (fun i => (ls[i]?).bind fun l => some l) (fun _ _ _ _ _ a ⟨r, h1, h2, h3⟩ => ⟨r, h1, a.lst h2 h3, h3⟩) (fun H e => ext_l e (.of hp)) (by rw [List.length_map, paired_len hL]; exact Nat.le_trans hlen (by decide)) (fun i x H2 H2' DD hi e2 y fD aD N0 N1 h0 h1 => ?_) (fun wa acc H2 fwa e2 hwa pr => ?_)
    · obtain ⟨rfl, hx⟩ := y
      rw [List.getElem?_map] at hx
      cases hr' : rs[i]? with
      | none => rw [hr'] at hx; cases hx
      | some r =>
        rw [hr'] at hx
        cases hx
        obtain ⟨l, hl, hrr⟩ := paired_get hL hr'
        rw [hl] at h1
        exact ⟨rfl, _, rfl, r, strL l, rfl, .inl (.inl (.of (e2.at hrr (nt_lst _)))), fun q hq => h1 l rfl _ _ (.new hq (nt_lst _)) ⟨q, rfl, upd_same, (ne_fresh aD (fresh_none hq)).symm⟩⟩
    rw [List.length_map, paired_len hL, range_bind, List.filterMap_eq_map', List.map_id'] at pr
    obtain ⟨ws, rfl, hW⟩ := lists_out pr
    clear pr
    refine ⟨Nat.zero_le _, fun fa hfa => ⟨Nat.le_of_ble_eq_true rfl, fun tp htp => ?_⟩⟩
    have ffa : ¬ Al H fa := fresh_of e2 hfa
    have nwf : wa ≠ fa := ne_of_none hwa hfa
    have e23 : Ext K H2 (upd (upd H2 fa (.lst [])) tp (.tup [.ref wa, .ref fa])) := Frm.trans (.new hfa (nt_lst [])) (.new htp (nt_tup _))
    have hfa3 : (upd (upd H2 fa (.lst [])) tp (.tup [.ref wa, .ref fa])) fa = some (.lst (strL [])) := by
      rw [upd_ne (ne_of_none upd_same htp)]
      exact upd_same
    refine ⟨tp, _, rfl, .of upd_same, rfl, _, _, rfl, _, _, rfl, rfl, ?_⟩
    refine ⟨fun m σ H' => ∃ (ls' : List (List Str)) (fs : List Str) (ws : List Addr) (wa : Addr) (x3 x4 x5 x6 x7 : Option V), σ = [some (.ref p), some (.ref wa), some (.ref fa), x3, x4, x5, x6, x7] ∧ Ext K H H' ∧ H' fa = some (.lst (strL fs)) ∧ H' wa = some (.lst (ws.map V.ref)) ∧ LsR H' ws ls' ∧ wa ≠ fa ∧ (∀ r ∈ ws, r ≠ fa) ∧ ls'.length ≤ 100 ∧ (∀ l ∈ ls', l.length ≤ 100) ∧
      ls'.flatten.length < m ∧ mrg n ls = (mrg m ls').map (fs ++ ·) ∧ m + fs.length ≤ 1000, ⟨n, ls, [], ws, wa, _, _, _, _, _, rfl, e2.trans e23, hfa3, e23.at hwa (nt_lst _), hW.ext e23, nwf, fun r hr z => ?_, hlen, hll, hfl, ?_, by simpa using hn⟩, ?_⟩
    · obtain ⟨j, hj, rfl⟩ := List.getElem_of_mem hr
      obtain ⟨l, _, h⟩ := paired_get hW (List.getElem?_eq_getElem hj)
      rw [z, hfa] at h
      cases h
    · cases mrg n ls <;> rfl
    clear hW hwa fwa e2 nwf hfa e23 htp hfa3
    rintro m σ H1 ⟨ls1, fs, ws, wa, x3, x4, x5, x6, x7, rfl, e1, h1f, h1w, hW, nwf, nrf, hl1, hl2, hm1, hmr, hmf⟩
    have wl : ws.length ≤ 100 := by rw [paired_len hW]; exact hl1
    -- the lists that are left
    refine ⟨_, rfl, wa, rfl, ⟨_, .of h1w⟩, ?_⟩
    refine lcw (K := K) walk_list (fun D' H' (y : V) (l : List Str) => ∃ r : Addr, y = .ref r ∧ H' r = some (.lst (strL l)) ∧ r ≠ D') (fun i => (ls1[i]?).bind fun l => if l ≠ [] then some l else none) (fun _ _ _ _ _ a ⟨r, h1, h2, h3⟩ => ⟨r, h1, a.lst h2 h3, h3⟩) (fun H e => ext_l e (.of h1w)) (by rw [List.length_map]; exact Nat.le_trans wl (by decide)) (fun i x H2 H2' DD hi e2 y fD aD N0 N1 h0 h1 => ?_) (fun wb acc H2 fwb e2 hwb pr => ?_)
    · obtain ⟨rfl, hx⟩ := y
      rw [List.getElem?_map] at hx
      cases hr' : ws[i]? with
      | none => rw [hr'] at hx; cases hx
      | some r =>
        rw [hr'] at hx
        cases hx
        obtain ⟨l, hl, hrr⟩ := paired_get hW hr'
        rw [hl] at h0 h1
        refine ⟨rfl, _, rfl, Nat.zero_le _, fun em hem => ?_⟩
        have ee : Ext K H2' (upd H2' em (.lst [])) := .new hem (nt_lst _)
        have hr2 := (e2.trans ee).at hrr (nt_lst _)
        refine ⟨List Str, inferInstance, inferInstance, l, [], dp_strs hr2, dp_strs (xs := []) upd_same, by decide, _, rfl, ?_⟩
        refine ite2 (fun z => ?_) (fun z => ?_)
        · have z : l ≠ [] := @of_decide_eq_true _ (_) z
          exact ⟨_, rfl, h1 l (if_pos z) _ _ ee ⟨r, rfl, hr2, ne_fresh (al_of hrr (nt_lst _)) fD⟩⟩
        · exact h0 (if_neg fun y => z (@decide_eq_true _ (_) y)) _ ee
    rw [List.length_map, paired_len hW, range_bind, filterMap_filter] at pr
    obtain ⟨wsb, rfl, hWb⟩ := lists_out pr
    clear pr
    have hWb : LsR H2 wsb (ne_ ls1) := hWb
    refine ⟨Nat.zero_le _, fun em hem => ?_⟩
    have ee : Ext K H2 (upd H2 em (.lst [])) := .new hem (nt_lst _)
    refine ⟨List (List Str), inferInstance, inferInstance, ne_ ls1, [], ?_, dp_strs (xs := []) upd_same, by decide, _, rfl, ?_⟩
    · exact .lst (.of (ee.at hwb (nt_lst _))) (ext_dps ee (hWb.dp (K := K)))
    have e12 := e2.trans ee
    have h3f := e12.at h1f (nt_lst _)
    have h3w := e12.at h1w (nt_lst _)
    have hW3 := hW.ext e12
    have E3 := e1.trans e12
    generalize upd H2 em (.lst []) = H3 at ee e12 h3f h3w hW3 E3
    clear hem ee hwb fwb hWb e2 h1f h1w hW e1 e12
    cases m with
    | zero => omega
    | succ m =>
    have hstep : mrg (m + 1) ls1 = (if ne_ ls1 = [] then some [] else match mgHead ls1 with
      | none => none
      | some h => (mrg m (rmH h ls1)).map (h :: ·)) := rfl
    refine ite2 (fun hne => ?_) (fun hne => ?_)
    · have hne : ne_ ls1 ≠ [] := @of_decide_eq_true _ (_) hne
      rw [if_neg hne] at hstep
      refine ⟨_, fun σ' H' z => z, ?_⟩
      -- heads
      refine ⟨_, rfl, wa, rfl, ⟨_, .of h3w⟩, ?_⟩
      refine lcw_str (K := K) walk_list (fun i => (ls1[i]?).bind List.head?) (fun H e => ext_l e (.of h3w)) (by rw [List.length_map]; exact Nat.le_trans wl (by decide)) (fun i x H4 H4' hi e4 y N0 N1 h0 h1 => ?_) (fun ha H4 fha e4 hha => ?_)
      · obtain ⟨rfl, hx⟩ := y
        rw [List.getElem?_map] at hx
        cases hr' : ws[i]? with
        | none => rw [hr'] at hx; cases hx
        | some r =>
          rw [hr'] at hx
          cases hx
          obtain ⟨l, hl, hrr⟩ := paired_get hW3 hr'
          rw [hl] at h0 h1
          refine ⟨rfl, _, rfl, Nat.zero_le _, fun em hem => ?_⟩
          have ee : Ext K H4' (upd H4' em (.lst [])) := .new hem (nt_lst _)
          have hr2 := (e4.trans ee).at hrr (nt_lst _)
          refine ⟨List Str, inferInstance, inferInstance, l, [], dp_strs hr2, dp_strs (xs := []) upd_same, by decide, _, rfl, ?_⟩
          cases l with
          | nil => exact iteF (h0 rfl _ ee)
          | cons c l => exact iteT ⟨_, rfl, r, strL (c :: l), 0, .str c, rfl, rfl, .inl (.of hr2), at0 c l, h1 c rfl _ ee⟩
      rw [List.length_map, paired_len hW3, range_bind] at hha
      have hha : H4 ha = some (.lst (strL (heads ls1))) := hha
      have hlh : (heads ls1).length ≤ 100 := Nat.le_trans (List.length_filterMap_le _ _) hl1
      have h4w := e4.at h3w (nt_lst _)
      have hW4 := hW3.ext e4
      -- good
      refine ⟨_, rfl, ha, rfl, ⟨_, .of hha⟩, ?_⟩
      refine lcS_str (K := K) walk_list (fun h => if canBe ls1 h = true then some h else none) (fun H e => ext_l e (.of hha)) (Nat.le_trans hlh (by decide)) (fun h hh H5 e5 N0 N1 g0 g1 => ?_) (fun ga H5 fga e5 hga => ?_)
      · have h5w := e5.at h4w (nt_lst _)
        have hW5 := hW4.ext e5
        refine ⟨rfl, _, rfl, wa, rfl, ⟨_, .of h5w⟩, ?_⟩
        refine lcw_bl (K := K) walk_list (fun i => match ls1[i]? with | some l => decide (h ∈ l.tail) | none => false) (fun H e => ext_l e (.of h5w)) (by rw [List.length_map]; exact Nat.le_trans wl (by decide)) (fun i x H6 H6' hi e6 y N0' N1' z1 => ?_) (fun DD H6 fD e6 hD => ?_)
        · obtain ⟨rfl, hx⟩ := y
          rw [List.getElem?_map] at hx
          cases hr' : ws[i]? with
          | none => rw [hr'] at hx; cases hx
          | some r =>
            rw [hr'] at hx
            cases hx
            obtain ⟨l, hl, hrr⟩ := paired_get hW5 hr'
            rw [hl] at z1
            refine ⟨rfl, _, rfl, _, rfl, 1, rfl, r, strL l, rfl, .inl (.of (e6.at hrr (nt_lst _))), fun q hq => ?_⟩
            rw [cut1]
            refine ⟨q, _, rfl, .inl (.inl (.of upd_same)), rfl, flat_strL _, ?_⟩
            show N1' (.bl (inV (.str h) (strL l.tail))) _
            rw [inV_str]
            exact z1 _ (.new hq (nt_lst _))
        · refine ⟨DD, _, rfl, .of hD, _, rfl, ?_⟩
          have e : ((List.range (ws.map V.ref).length).map fun i => match ls1[i]? with | some l => decide (h ∈ l.tail) | none => false).any id = ls1.any fun l => decide (h ∈ l.tail) := by
            rw [List.length_map, paired_len hW5, List.any_map, Bool.eq_iff_iff, List.any_eq_true, List.any_eq_true]
            constructor
            · rintro ⟨i, hi, z⟩
              have hi := List.mem_range.mp hi
              simp only [Function.comp, id, List.getElem?_eq_getElem hi] at z
              exact ⟨_, List.getElem_mem hi, z⟩
            · rintro ⟨l, hl, z⟩
              obtain ⟨i, hi, rfl⟩ := List.getElem_of_mem hl
              refine ⟨i, List.mem_range.mpr hi, ?_⟩
              simp only [Function.comp, id, List.getElem?_eq_getElem hi]
              exact z
          rw [e]
          have ec := canBe_not ls1 h
          refine ite2 (fun z => ?_) (fun z => ?_)
          · exact ⟨_, rfl, g1 h (if_pos (by rw [ec]; exact z)) _ e6⟩
          · exact g0 (if_neg (by rw [ec]; exact z)) _ e6
      rw [filterMap_filter] at hga
      have egl : (heads ls1).filter (fun x => decide (canBe ls1 x = true)) = (heads ls1).filter (canBe ls1) := List.filter_congr fun x _ => by cases canBe ls1 x <;> rfl
      rw [egl] at hga
      have hfind : mgHead ls1 = ((heads ls1).filter (canBe ls1)).head? := find_head _ _
      have E5 := (E3.trans e4).trans e5
      have h5f := (e4.trans e5).at h3f (nt_lst _)
      have h5w := (e4.trans e5).at h3w (nt_lst _)
      have hW5 := hW3.ext (e4.trans e5)
      have fgf : fa ≠ ga := ne_fresh (e4.al _ (al_of h3f (nt_lst _))) fga
      have hgm : ∀ x ∈ (heads ls1).filter (canBe ls1), x ∈ heads ls1 := fun x hx => (List.mem_filter.mp hx).1
      generalize (heads ls1).filter (canBe ls1) = gd at hga hfind hgm
      clear hha hW4 h4w egl
      refine ⟨_, rfl, Nat.zero_le _, fun em hem => ?_⟩
      have ee : Ext K H5 (upd H5 em (.lst [])) := .new hem (nt_lst _)
      refine ⟨List Str, inferInstance, inferInstance, gd, [], dp_strs (ee.at hga (nt_lst _)), dp_strs (xs := []) upd_same, by decide, _, rfl, ?_⟩
      have hga6 := ee.at hga (nt_lst _)
      have E6 := E5.trans ee
      have h6f := ee.at h5f (nt_lst _)
      have h6w := ee.at h5w (nt_lst _)
      have hW6 := hW5.ext ee
      generalize upd H5 em (.lst []) = H6 at ee hga6 E6 h6f h6w hW6
      clear hem ee hga E5 h5f h5w hW5
      cases gd with
      | nil =>
        refine iteT ?_
        have : mrg n ls = none := by
          rw [hmr, hstep, hfind]
          rfl
        exact k0 this _ E6
      | cons c gr =>
        refine iteF ?_
        have hfind : mgHead ls1 = some c := hfind
        rw [hfind] at hstep
        have hstep : mrg (m + 1) ls1 = (mrg m (rmH c ls1)).map (c :: ·) := hstep
        have hch := hgm c (List.mem_cons_self ..)
        refine ⟨_, rfl, .inl ⟨rfl, _, .of h6f⟩, _, rfl, ga, strL (c :: gr), 0, .str c, rfl, rfl, .inl (.of hga6), at0 c gr, fa, _, _, rfl, rfl, h6f, ?_, ?_⟩
        · rw [strL_length]
          exact Nat.lt_of_le_of_lt (show fs.length ≤ 1000 by omega) (by decide)
        have u7 : Frm K (fun b => b = fa) H6 (upd H6 fa (.lst (strL fs ++ [.str c]))) := .mut h6f trivial rfl (nt_lst _)
        have E7 : Ext K H (upd H6 fa (.lst (strL fs ++ [.str c]))) := E6.mutNew ffa h6f trivial (nt_lst _)
        have h7f : (upd H6 fa (.lst (strL fs ++ [.str c]))) fa = some (.lst (strL (fs ++ [c]))) := by
          rw [upd_same, strL_append]
          rfl
        have h7w := u7.lst h6w nwf
        have h7g := u7.lst hga6 fgf.symm
        have hW7 : LsR (upd H6 fa (.lst (strL fs ++ [.str c]))) ws ls1 := by
          have key : ∀ {rs : List Addr} {ls : List (List Str)}, LsR H6 rs ls → (∀ r ∈ rs, r ≠ fa) → LsR (upd H6 fa (.lst (strL fs ++ [.str c]))) rs ls := fun z => by
            induction z with
            | nil => exact fun _ => .nil
            | cons h _ ih => exact fun g => .cons (u7.lst h (g _ (List.mem_cons_self ..))) (ih fun r hr => g r (List.mem_cons_of_mem _ hr))
          exact key hW6 nrf
        generalize upd H6 fa (.lst (strL fs ++ [.str c])) = H7 at u7 E7 h7f h7w h7g hW7
        have A7 : Al H7 fa := al_of h7f (nt_lst _)
        refine ⟨_, rfl, wa, rfl, ⟨_, .of h7w⟩, ?_⟩
        refine lcw (K := K) walk_list (fun D' H' (y : V) (l : List Str) => ∃ r : Addr, y = .ref r ∧ H' r = some (.lst (strL l)) ∧ r ≠ D' ∧ ¬ Al H7 r) (fun i => (ls1[i]?).bind fun l => some (l.filter fun n => decide (n ≠ c))) (fun _ _ _ _ _ a ⟨r, h1, h2, h3⟩ => ⟨r, h1, a.lst h2 h3.1, h3⟩) (fun H e => ext_l e (.of h7w)) (by rw [List.length_map]; exact Nat.le_trans wl (by decide)) (fun i x H8 H8' DD hi e8 y fD aD N0 N1 h0 h1 => ?_) (fun wc acc H8 fwc e8 hwc pr => ?_)
        · obtain ⟨rfl, hx⟩ := y
          rw [List.getElem?_map] at hx
          cases hr9 : ws[i]? with
          | none => rw [hr9] at hx; cases hx
          | some r =>
            rw [hr9] at hx
            cases hx
            obtain ⟨l, hl, hrr⟩ := paired_get hW7 hr9
            rw [hl] at h0 h1
            have hr8 := e8.at hrr (nt_lst _)
            have llen := hl2 l (List.mem_of_getElem? hl)
            refine ⟨rfl, _, rfl, r, rfl, ⟨_, .of hr8⟩, ?_⟩
            refine lcS_str (K := K) walk_list (fun n => if n ≠ c then some n else none) (fun H e => ext_l e (.of hr8)) (Nat.le_trans llen (by decide)) (fun n hn H9 e9 N0' N1' g0 g1 => ?_) (fun D2 H9 f9 e9 h9 => ?_)
            · refine ⟨rfl, _, rfl, _, rfl, ga, strL (c :: gr), 0, .str c, rfl, rfl, .inl (.of ((e8.trans e9).at h7g (nt_lst _))), at0 c gr, rfl, _, rfl, ?_⟩
              refine ite2 (fun z => ?_) (fun z => ?_)
              · exact ⟨_, rfl, g1 n (if_pos (by simpa using z)) _ .refl⟩
              · exact g0 (if_neg (by simpa using z)) _ .refl
            · rw [filterMap_filter] at h9
              exact h1 _ rfl _ _ e9 ⟨D2, rfl, h9, (ne_fresh aD f9).symm, fresh_back e8 f9⟩
        rw [List.length_map, paired_len hW7, range_bind, List.filterMap_eq_map'] at pr
        obtain ⟨wsc, rfl, hWc, hfc⟩ := lists_out2 pr
        clear pr
        have hWc : LsR H8 wsc (rmH c ls1) := hWc
        have hlt := rm_lt hch
        refine ⟨m, Nat.lt_succ_self _, rmH c ls1, fs ++ [c], wsc, wc, _, _, _, _, _, rfl, E7.trans e8, e8.at h7f (nt_lst _), hwc, hWc, (ne_fresh A7 fwc).symm, fun r hr => (ne_fresh A7 (hfc r hr)).symm, ?_, fun l hl => ?_, by omega, ?_, ?_⟩
        · show (ls1.map _).length ≤ 100
          rw [List.length_map]
          exact hl1
        · obtain ⟨l0, h0, rfl⟩ := List.mem_map.mp hl
          exact Nat.le_trans (List.length_filter_le _ _) (hl2 l0 h0)
        · rw [hmr, hstep]
          cases mrg m (rmH c ls1) with
          | none => rfl
          | some r =>
            show some (fs ++ (c :: r)) = some ((fs ++ [c]) ++ r)
            rw [List.append_assoc]
            rfl
        · rw [List.length_append]
          show m + (fs.length + 1) ≤ 1000
          omega
    · have hne : ne_ ls1 = [] := Decidable.byContradiction fun z => hne (@decide_eq_true _ (_) z)
      rw [if_pos hne] at hstep
      have : mrg n ls = some fs := by
        rw [hmr, hstep]
        show some (fs ++ []) = some fs
        rw [List.append_nil]
      exact ⟨_, rfl, (k1 fs this).go E3 ffa h3f⟩
end
end ST
set_option maxHeartbeats 4000000
namespace ST
open PySem PySem.Spec PyProof.Rows L2
open LamX (CodeO Tabs TabB)
section
variable {P : Program} {w : World} {K : PySem.W.Frag} {mg : Str → Option Value} {base : Heap}
abbrev newP (p nl db dw ds du dor dl : Addr) : PPar := ⟨fun b => if b = p then 10 else if b = nl then 1 else if b = db then 2 else if b = dw then 3 else if b = ds then 4 else if b = du then 5 else if b = dor then 6 else 7, p, nl, db, dw, ds, du, dor, dl, fun _ => 0, fun _ => 0, fun _ => 0, fun _ => 0, fun _ => .non⟩
def spLNew (K : PySem.W.Frag) : Sp := fun vs H Q _ => ∃ S : Addr → Prop, vs = [] ∧ (∀ b, ¬ Al H b → S b) ∧ ∀ H' q, Ext K H H' → POk K S H' [] (fun _ => []) q → ¬ Al H q.p → Q (.ref q.p) H'
theorem ok_law_new (T : Tx K mg) : FnOk P w K mg base CX0 1 (He.fAd K d_law_new.at_) (fdOf K (He.fAd K d_law_new.at_)) [] (spLNew K) := by
  refine (F_law_new T).ok sc_law_new (fun vs H Q E h => ?_) (fun cdv A outer s H vs Q E hr h => ?_)
  · obtain ⟨_, rfl, _⟩ := h
    rfl
  · obtain ⟨S, rfl, hS, k⟩ := h
    have hu := hu_of hr
    refine ⟨_, PSs.nox (pss_one (ps_ret (pe_disp (pps_cons pe_str (pe_lst pa_nil) (pps_cons pe_str pe_dnewK (pps_cons pe_str pe_dnewK (pps_cons pe_str pe_dnewK (pps_cons pe_str pe_dnewK (pps_cons pe_str pe_dnewK (pps_cons pe_str pe_dnewK pps_nil))))))) (by rfl) (by rfl) (fun z => by cases z) (by decide)))), ?_⟩
    intro p hp
    refine ⟨Nat.zero_le _, fun nl hnl db hdb dw hdw ds hds du hdu dor hdo dl hdl => ?_⟩
    have n1 : p ≠ nl := ne_of_none upd_same hnl
    have h2p : (upd (upd H p (.dK [])) nl (.lst [])) p = some (.dK []) := by rw [upd_ne n1]; exact upd_same
    have h2n : (upd (upd H p (.dK [])) nl (.lst [])) nl = some (.lst []) := upd_same
    have e2 : Ext K H (upd (upd H p (.dK [])) nl (.lst [])) := Frm.trans (.new hp (nt_dK _)) (.new hnl (nt_lst _))
    have fp : ¬ Al H p := fresh_none hp
    have fnl : ¬ Al H nl := fresh_of (K := K) (S := fun _ => False) (.new hp (nt_dK [])) hnl
    generalize upd (upd H p (.dK [])) nl (.lst []) = H2 at hdb hdw hds hdu hdo hdl h2p h2n e2
    have e3 := e2.trans (Frm.new hdb (nt_dK []))
    have f3 : ¬ Al H db := fresh_of e2 hdb
    have e4 := e3.trans (Frm.new hdw (nt_dK []))
    have f4 : ¬ Al H dw := fresh_of e3 hdw
    have e5 := e4.trans (Frm.new hds (nt_dK []))
    have f5 : ¬ Al H ds := fresh_of e4 hds
    have e6 := e5.trans (Frm.new hdu (nt_dK []))
    have f6 : ¬ Al H du := fresh_of e5 hdu
    have e7 := e6.trans (Frm.new hdo (nt_dK []))
    have f7 : ¬ Al H dor := fresh_of e6 hdo
    have e8 := e7.trans (Frm.new hdl (nt_dK []))
    have f8 : ¬ Al H dl := fresh_of e7 hdl
    have a3 : Ext K (upd H2 db (.dK [])) (upd (upd (upd (upd (upd (upd H2 db (.dK [])) dw (.dK [])) ds (.dK [])) du (.dK [])) dor (.dK [])) dl (.dK [])) := ((((Frm.new hdw (nt_dK [])).trans (.new hds (nt_dK []))).trans (.new hdu (nt_dK []))).trans (.new hdo (nt_dK []))).trans (.new hdl (nt_dK []))
    have a4 : Ext K (upd (upd H2 db (.dK [])) dw (.dK [])) (upd (upd (upd (upd (upd (upd H2 db (.dK [])) dw (.dK [])) ds (.dK [])) du (.dK [])) dor (.dK [])) dl (.dK [])) := (((Frm.new hds (nt_dK [])).trans (.new hdu (nt_dK []))).trans (.new hdo (nt_dK []))).trans (.new hdl (nt_dK []))
    have a5 : Ext K (upd (upd (upd H2 db (.dK [])) dw (.dK [])) ds (.dK [])) (upd (upd (upd (upd (upd (upd H2 db (.dK [])) dw (.dK [])) ds (.dK [])) du (.dK [])) dor (.dK [])) dl (.dK [])) := ((Frm.new hdu (nt_dK [])).trans (.new hdo (nt_dK []))).trans (.new hdl (nt_dK []))
    have a6 : Ext K (upd (upd (upd (upd H2 db (.dK [])) dw (.dK [])) ds (.dK [])) du (.dK [])) (upd (upd (upd (upd (upd (upd H2 db (.dK [])) dw (.dK [])) ds (.dK [])) du (.dK [])) dor (.dK [])) dl (.dK [])) := (Frm.new hdo (nt_dK [])).trans (.new hdl (nt_dK []))
    have a7 : Ext K (upd (upd (upd (upd (upd H2 db (.dK [])) dw (.dK [])) ds (.dK [])) du (.dK [])) dor (.dK [])) (upd (upd (upd (upd (upd (upd H2 db (.dK [])) dw (.dK [])) ds (.dK [])) du (.dK [])) dor (.dK [])) dl (.dK [])) := .new hdl (nt_dK [])
    have a2 := (Frm.new (K := K) (S := fun _ => False) hdb (nt_dK [])).trans a3
    -- apart
    have x3 : ∀ {b : Addr}, Al H2 b → b ≠ db := fun h => ne_fresh h (fresh_none hdb)
    have b3 : Al (upd H2 db (.dK [])) db := al_of upd_same (nt_dK _)
    have b4 : Al (upd (upd H2 db (.dK [])) dw (.dK [])) dw := al_of upd_same (nt_dK _)
    have b5 : Al (upd (upd (upd H2 db (.dK [])) dw (.dK [])) ds (.dK [])) ds := al_of upd_same (nt_dK _)
    have b6 : Al (upd (upd (upd (upd H2 db (.dK [])) dw (.dK [])) ds (.dK [])) du (.dK [])) du := al_of upd_same (nt_dK _)
    have b7 : Al (upd (upd (upd (upd (upd H2 db (.dK [])) dw (.dK [])) ds (.dK [])) du (.dK [])) dor (.dK [])) dor := al_of upd_same (nt_dK _)
    have g4 := fresh_none hdw
    have g5 := fresh_none hds
    have g6 := fresh_none hdu
    have g7 := fresh_none hdo
    have g8 := fresh_none hdl
    have c1 : p ≠ db := x3 (al_of h2p (nt_dK _))
    have t4 : Ext K (upd H2 db (.dK [])) (upd (upd H2 db (.dK [])) dw (.dK [])) := .new hdw (nt_dK _)
    have t5 : Ext K (upd (upd H2 db (.dK [])) dw (.dK [])) (upd (upd (upd H2 db (.dK [])) dw (.dK [])) ds (.dK [])) := .new hds (nt_dK _)
    have t6 : Ext K (upd (upd (upd H2 db (.dK [])) dw (.dK [])) ds (.dK [])) (upd (upd (upd (upd H2 db (.dK [])) dw (.dK [])) ds (.dK [])) du (.dK [])) := .new hdu (nt_dK _)
    have t7 : Ext K (upd (upd (upd (upd H2 db (.dK [])) dw (.dK [])) ds (.dK [])) du (.dK [])) (upd (upd (upd (upd (upd H2 db (.dK [])) dw (.dK [])) ds (.dK [])) du (.dK [])) dor (.dK [])) := .new hdo (nt_dK _)
    have t3 : Ext K H2 (upd H2 db (.dK [])) := .new hdb (nt_dK _)
    have pA := al_of h2p (nt_dK _)
    have c2 : p ≠ dw := ne_fresh (t3.al _ pA) g4
    have c3 : p ≠ ds := ne_fresh (t4.al _ (t3.al _ pA)) g5
    have c4 : p ≠ du := ne_fresh (t5.al _ (t4.al _ (t3.al _ pA))) g6
    have c5 : p ≠ dor := ne_fresh (t6.al _ (t5.al _ (t4.al _ (t3.al _ pA)))) g7
    have c6 : p ≠ dl := ne_fresh (t7.al _ (t6.al _ (t5.al _ (t4.al _ (t3.al _ pA))))) g8
    have d1 : db ≠ dw := ne_fresh b3 g4
    have d2 : db ≠ ds := ne_fresh (t4.al _ b3) g5
    have d3 : db ≠ du := ne_fresh (t5.al _ (t4.al _ b3)) g6
    have d4 : db ≠ dor := ne_fresh (t6.al _ (t5.al _ (t4.al _ b3))) g7
    have d5 : db ≠ dl := ne_fresh (t7.al _ (t6.al _ (t5.al _ (t4.al _ b3)))) g8
    have w1 : dw ≠ ds := ne_fresh b4 g5
    have w2 : dw ≠ du := ne_fresh (t5.al _ b4) g6
    have w3 : dw ≠ dor := ne_fresh (t6.al _ (t5.al _ b4)) g7
    have w4 : dw ≠ dl := ne_fresh (t7.al _ (t6.al _ (t5.al _ b4))) g8
    have s1 : ds ≠ du := ne_fresh b5 g6
    have s2 : ds ≠ dor := ne_fresh (t6.al _ b5) g7
    have s3 : ds ≠ dl := ne_fresh (t7.al _ (t6.al _ b5)) g8
    have u1 : du ≠ dor := ne_fresh b6 g7
    have u2 : du ≠ dl := ne_fresh (t7.al _ b6) g8
    have o1 : dor ≠ dl := ne_fresh b7 g8
    have hp8 := a2.at h2p (nt_dK _)
    have hn8 := a2.at h2n (nt_lst _)
    have h3 := a3.at (p := db) upd_same (nt_dK _)
    have h4 := a4.at (p := dw) upd_same (nt_dK _)
    have h5 := a5.at (p := ds) upd_same (nt_dK _)
    have h6 := a6.at (p := du) upd_same (nt_dK _)
    have h7 := a7.at (p := dor) upd_same (nt_dK _)
    have h8 : (upd (upd (upd (upd (upd (upd H2 db (.dK [])) dw (.dK [])) ds (.dK [])) du (.dK [])) dor (.dK [])) dl (.dK [])) dl = some (.dK []) := upd_same
    generalize upd (upd (upd (upd (upd (upd H2 db (.dK [])) dw (.dK [])) ds (.dK [])) du (.dK [])) dor (.dK [])) dl (.dK []) = H8 at e8 hp8 hn8 h3 h4 h5 h6 h7 h8
    refine ⟨hp8, plF (newP p nl db dw ds du dor dl), rfl, Nat.le_of_ble_eq_true rfl, ?_⟩
    have y : ∀ {b : Addr} {o : HO}, H8 b = some o → b ≠ p → ∀ x, (upd H8 p x) b = some o := fun hb hn x => by rw [upd_ne hn]; exact hb
    have nn : ∀ {b : Addr} {xs : List (Key × V)}, H8 b = some (.dK xs) → b ≠ nl := fun hb => ne_of hb hn8 (fun z => by cases z)
    refine k _ (newP p nl db dw ds du dor dl) (e8.mutNew fp hp8 trivial (nt_dK _)) ?_ fp
    exact {
      p_ := upd_same
      nl_ := y hn8 n1.symm _
      db_ := y h3 c1.symm _
      dw_ := y h4 c2.symm _
      ds_ := y h5 c3.symm _
      du_ := y h6 c4.symm _
      do_ := y h7 c5.symm _
      dl_ := y h8 c6.symm _
      b_ := fun c hc => by cases hc
      s_ := fun c hc => by cases hc
      r_ := fun c hc => by cases hc
      o_ := fun c hc => by cases hc
      l_ := fun c hc => by cases hc
      li := fun c hc => by cases hc
      tp := if_pos rfl
      tn := (if_neg n1.symm).trans (if_pos rfl)
      tb := ((if_neg c1.symm).trans (if_neg (nn h3))).trans (if_pos rfl)
      tw := (((if_neg c2.symm).trans (if_neg (nn h4))).trans (if_neg d1.symm)).trans (if_pos rfl)
      ts := ((((if_neg c3.symm).trans (if_neg (nn h5))).trans (if_neg d2.symm)).trans (if_neg w1.symm)).trans (if_pos rfl)
      tu := (((((if_neg c4.symm).trans (if_neg (nn h6))).trans (if_neg d3.symm)).trans (if_neg w2.symm)).trans (if_neg s1.symm)).trans (if_pos rfl)
      to := ((((((if_neg c5.symm).trans (if_neg (nn h7))).trans (if_neg d4.symm)).trans (if_neg w3.symm)).trans (if_neg s2.symm)).trans (if_neg u1.symm)).trans (if_pos rfl)
      tl := ((((((if_neg c6.symm).trans (if_neg (nn h8))).trans (if_neg d5.symm)).trans (if_neg w4.symm)).trans (if_neg s3.symm)).trans (if_neg u2.symm)).trans (if_neg o1.symm)
      tll := fun c hc => by cases hc
      tbl := fun c hc => by cases hc
      tol := fun c hc => by cases hc
      tsl := fun c hc => by cases hc
      sn := hS _ fnl
      sb := hS _ f3
      sw_ := hS _ f4
      ss := hS _ f5
      su := hS _ f6
      so := hS _ f7
      sl_ := hS _ f8
      sll := fun c hc => by cases hc }
def spLAd (K : PySem.W.Frag) : Sp := fun vs H Q _ => ∃ (S : Addr → Prop) (D : List C) (sg : Sg) (q : PPar) (n o : Str), vs = [.ref q.p, .str n, .str o] ∧ POk K S H D sg q ∧ Wf D ∧ n ∈ nms D ∧ ∀ H', Frm K S H H' → POk K S H' (addReg D n o) sg q → Q .non H'
theorem ok_law_admit (T : Tx K mg) : FnOk P w K mg base CX0 1 (He.fAd K d_law_admit.at_) (fdOf K (He.fAd K d_law_admit.at_)) ["_law_plain", "_law_name", "_law_other"] (spLAd K) := by
  refine (F_law_admit T).ok sc_law_admit (fun vs H Q E h => ?_) (fun cdv A outer s H vs Q E hr h => ?_)
  · obtain ⟨_, _, _, _, _, _, rfl, _⟩ := h
    rfl
  · obtain ⟨S, D, sg, q, n, o, rfl, W, wf, hn, k⟩ := h
    have hu := hu_of hr
    refine ⟨_, PSs.nox (pss_one (ps_if (pt_cmpR (o_ni (K := K) rfl) (pv 2) (pe_dget hu (pe_dget hu (pv 0) pe_str (fun _ _ => rfl)) (pv 1) (fun _ _ => rfl)) (by rfl)) (pss_one (ps_expr (w_append (K := K) rfl (pe_dget hu (pe_dget hu (pv 0) pe_str (fun _ _ => rfl)) (pv 1) (fun _ _ => rfl)) (pv 2)))) pss_nil)), ?_⟩
    obtain ⟨m1, m2⟩ := at_mem hn
    have hl := W.l hn
    have ueq : ∀ {c : C}, c ∈ D → c.nm = n → c = at_ D n := fun hc e => nd_inj wf.nd hc m1 (e.trans m2.symm)
    refine ⟨_, rfl, _, rfl, q.p, _, rfl, W.kL, _, rfl, q.dl, _, rfl, W.gL hn, q.ll n, _, rfl, .inl (.of hl), rfl, flat_strL _, _, rfl, ?_⟩
    show if (!inV (.str o) (strL (at_ D n).rg)) = true then _ else _
    rw [inV_str]
    by_cases z : o ∈ (at_ D n).rg
    · rw [decide_eq_true z]
      refine iteF (k H .refl ?_)
      have e : addReg D n o = D := by
        have : D = D.map id := by simp
        conv => rhs; rw [this]
        refine List.map_congr_left fun c hc => if_neg fun y => y.2 ?_
        rw [ueq hc y.1]
        exact z
      rw [e]
      exact W
    · rw [decide_eq_false z]
      refine iteT ⟨_, rfl, q.p, _, rfl, W.kL, _, rfl, q.dl, _, rfl, W.gL hn, .inl ⟨rfl, _, .of hl⟩, _, rfl, q.ll n, _, _, rfl, rfl, hl, ?_, ?_⟩
      · rw [List.length_map]
        exact Nat.lt_of_le_of_lt (wf.rg _ m1).2 (by decide)
      have F : Frm K (fun b => b = q.ll n) H (upd H (q.ll n) (.lst (strL (at_ D n).rg ++ [.str o]))) := .mut hl trivial rfl (nt_lst _)
      have t8 : q.τ (q.ll n) = 8 := by
        rw [← m2]
        exact W.tll _ m1
      have nm : ∀ {b : Addr} {i : Nat}, q.τ b = i → i ≠ 8 → ¬ b = q.ll n := fun h n' z => n' (by rw [← h, z, t8])
      refine k _ (F.mono fun b z => by rw [z, ← m2]; exact W.sll _ m1) ?_
      have hrec : ∀ c ∈ addReg D n o, ∃ d ∈ D, c.nm = d.nm ∧ c.bs = d.bs ∧ c.ow = d.ow ∧ c.hk = d.hk ∧ c.pa = d.pa ∧ c.ln = d.ln := fun c hc => by
        obtain ⟨d, hd, rfl⟩ := addReg_mem hc
        refine ⟨d, hd, addReg_nm d n o, ?_⟩
        split <;> exact ⟨rfl, rfl, rfl, rfl, rfl⟩
      exact { W with
        p_ := F.dK W.p_ (nm W.tp (by decide))
        nl_ := by
          rw [addReg_nms]
          exact F.lst W.nl_ (nm W.tn (by decide))
        db_ := by
          rw [addReg_map fun x => V.ref (q.bl x)]
          exact F.dK W.db_ (nm W.tb (by decide))
        dw_ := by
          have e : (addReg D n o).map (fun c => ((.inr c.nm : Key), V.bl c.ow)) = D.map fun c => (.inr c.nm, V.bl c.ow) := by
            unfold addReg
            rw [List.map_map]
            refine List.map_congr_left fun c _ => ?_
            show ((.inr (if c.nm = n ∧ o ∉ c.rg then { c with rg := c.rg ++ [o] } else c).nm : Key), V.bl (if c.nm = n ∧ o ∉ c.rg then { c with rg := c.rg ++ [o] } else c).ow) = _
            split <;> rfl
          rw [e]
          exact F.dK W.dw_ (nm W.tw (by decide))
        ds_ := by
          rw [addReg_map fun x => V.ref (q.sl x)]
          exact F.dK W.ds_ (nm W.ts (by decide))
        du_ := by
          rw [addReg_map fun x => q.ru x]
          exact F.dK W.du_ (nm W.tu (by decide))
        do_ := by
          rw [addReg_map fun x => V.ref (q.ol x)]
          exact F.dK W.do_ (nm W.to (by decide))
        dl_ := by
          rw [addReg_map fun x => V.ref (q.ll x)]
          exact F.dK W.dl_ (nm W.tl (by decide))
        b_ := fun c hc => by
          obtain ⟨d, hd, e, e1, e2, e3, e4, e5⟩ := hrec c hc
          rw [e, e1]
          exact F.lst (W.b_ d hd) (nm (W.tbl d hd) (by decide))
        s_ := fun c hc => by
          obtain ⟨d, hd, e, e1, e2, e3, e4, e5⟩ := hrec c hc
          rw [e]
          exact F.dK (W.s_ d hd) (nm (W.tsl d hd) (by decide))
        r_ := fun c hc => by
          obtain ⟨d, hd, e, e1, e2, e3, e4, e5⟩ := hrec c hc
          rw [e, e3, e4]
          exact (W.r_ d hd).frm F
        o_ := fun c hc => by
          obtain ⟨d, hd, e, e1, e2, e3, e4, e5⟩ := hrec c hc
          rw [e, e5]
          exact F.lst (W.o_ d hd) (nm (W.tol d hd) (by decide))
        l_ := fun c hc => by
          obtain ⟨d, hd, rfl⟩ := addReg_mem hc
          rw [addReg_nm]
          by_cases y : d.nm = n
          · have e := ueq hd y
            rw [if_pos ⟨y, by rw [e]; exact z⟩, y, upd_same]
            show some (HO.lst (strL (at_ D n).rg ++ [.str o])) = some (HO.lst (strL (d.rg ++ [o])))
            rw [strL_append, e]
            rfl
          · rw [if_neg fun x => y x.1, upd_ne]
            · exact W.l_ d hd
            · intro x
              refine y ?_
              rw [← m2]
              exact W.li d hd _ m1 (by rw [m2]; exact x)
        li := fun c hc c' hc' => by
          obtain ⟨d, hd, e, _⟩ := hrec c hc
          obtain ⟨d', hd', e', _⟩ := hrec c' hc'
          rw [e, e']
          exact W.li d hd d' hd'
        tll := fun c hc => by
          obtain ⟨d, hd, e, _⟩ := hrec c hc
          rw [e]
          exact W.tll d hd
        tbl := fun c hc => by
          obtain ⟨d, hd, e, _⟩ := hrec c hc
          rw [e]
          exact W.tbl d hd
        tol := fun c hc => by
          obtain ⟨d, hd, e, _⟩ := hrec c hc
          rw [e]
          exact W.tol d hd
        tsl := fun c hc => by
          obtain ⟨d, hd, e, _⟩ := hrec c hc
          rw [e]
          exact W.tsl d hd
        sll := fun c hc => by
          obtain ⟨d, hd, e, _⟩ := hrec c hc
          rw [e]
          exact W.sll d hd }
end
end ST
set_option maxHeartbeats 4000000
namespace ST
open PySem PySem.Spec PyProof.Rows L2
open LamX (CodeO Tabs TabB)
/-- the six dicts of the plain classes: name, tag, place, content -/
def six (q : PPar) (D : List C) : List (Str × Nat × Addr × List (Key × V)) := [
  ("bases", 2, q.db, D.map fun c => (.inr c.nm, .ref (q.bl c.nm))),
  ("own", 3, q.dw, D.map fun c => (.inr c.nm, .bl c.ow)),
  ("signs", 4, q.ds, D.map fun c => (.inr c.nm, .ref (q.sl c.nm))),
  ("rules", 5, q.du, D.map fun c => (.inr c.nm, q.ru c.nm)),
  ("order", 6, q.dor, D.map fun c => (.inr c.nm, .ref (q.ol c.nm))),
  ("lists", 7, q.dl, D.map fun c => (.inr c.nm, .ref (q.ll c.nm)))]
theorem dropK_mapC (f : C → V) (D : List C) (n : Str) : dropK (D.map fun c => ((.inr c.nm : Key), f c)) (.inr n) = (dropF D n).map fun c => ((.inr c.nm : Key), f c) := by
  unfold dropK dropF
  rw [List.filter_map]
  refine congrArg (List.map _) (List.filter_congr fun c _ => ?_)
  show decide ((.inr c.nm : Key) ≠ .inr n) = decide (c.nm ≠ n)
  by_cases z : c.nm = n <;> simp [z]
theorem drop_nms {D : List C} (nd : (nms D).Nodup) (n : Str) : (nms D).erase n = nms (dropD D n) := by
  have e : nms (dropD D n) = (nms D).filter fun x => decide (x ≠ n) := by
    unfold dropD dropF nms
    rw [List.map_map, List.filter_map]
    rfl
  rw [e, nd.erase_eq_filter]
  refine List.filter_congr fun x _ => ?_
  by_cases z : x = n <;> simp [z]
section
variable {P : Program} {w : World} {K : PySem.W.Frag} {mg : Str → Option Value} {base : Heap}
theorem POk.six {S : Addr → Prop} {H : Hp} {D : List C} {sg : Sg} {q : PPar} (W : POk K S H D sg q) {j : Nat} {t : Str × Nat × Addr × List (Key × V)} (h : (six q D)[j]? = some t) :
    q.τ t.2.2.1 = j + 2 ∧ H t.2.2.1 = some (.dK t.2.2.2) ∧ valV (plF q) (.inr t.1) = some (.ref t.2.2.1) ∧ (∀ n ∈ nms D, ∃ v, valV t.2.2.2 (.inr n) = some v) ∧ S t.2.2.1 := by
  match j, h with
  | 0, h => cases h; exact ⟨W.tb, W.db_, rfl, fun n hn => ⟨_, valV_at (fun c => V.ref (q.bl c.nm)) hn⟩, W.sb⟩
  | 1, h => cases h; exact ⟨W.tw, W.dw_, rfl, fun n hn => ⟨_, valV_at (fun c => V.bl c.ow) hn⟩, W.sw_⟩
  | 2, h => cases h; exact ⟨W.ts, W.ds_, rfl, fun n hn => ⟨_, valV_at (fun c => V.ref (q.sl c.nm)) hn⟩, W.ss⟩
  | 3, h => cases h; exact ⟨W.tu, W.du_, rfl, fun n hn => ⟨_, valV_at (fun c => q.ru c.nm) hn⟩, W.su⟩
  | 4, h => cases h; exact ⟨W.to, W.do_, rfl, fun n hn => ⟨_, valV_at (fun c => V.ref (q.ol c.nm)) hn⟩, W.so⟩
  | 5, h => cases h; exact ⟨W.tl, W.dl_, rfl, fun n hn => ⟨_, valV_at (fun c => V.ref (q.ll c.nm)) hn⟩, W.sl_⟩
  | (j + 6), h => cases h
def spLDr (K : PySem.W.Frag) : Sp := fun vs H Q _ => ∃ (S : Addr → Prop) (D : List C) (sg : Sg) (q : PPar) (n : Str), vs = [.ref q.p, .str n] ∧ POk K S H D sg q ∧ Wf D ∧ n ∈ nms D ∧ ∀ H', Frm K S H H' → POk K S H' (dropD D n) sg q → Q .non H'
theorem ok_law_drop (T : Tx K mg) : FnOk P w K mg base CX0 1 (He.fAd K d_law_drop.at_) (fdOf K (He.fAd K d_law_drop.at_)) ["_law_plain", "_law_name"] (spLDr K) := by
  refine (F_law_drop T).ok sc_law_drop (fun vs H Q E h => ?_) (fun cdv A outer s H vs Q E hr h => ?_)
  · obtain ⟨_, _, _, _, _, rfl, _⟩ := h
    rfl
  · obtain ⟨S, D, sg, q, n, rfl, W, wf, hn, k⟩ := h
    have hu := hu_of hr
    refine ⟨_, PSs.nox (pss_cons (ps_expr (w_remove (K := K) rfl (pe_dget hu (pv 0) pe_str (fun _ _ => rfl)) (pv 1)))
    (pss_cons (ps_for PassesOwn.never rfl (i_list (K := K) rfl (pe_lst (pa_cons pe_str (pa_cons pe_str (pa_cons pe_str (pa_cons pe_str (pa_cons pe_str (pa_cons pe_str pa_nil)))))))) (pg_name (i := 2) (sc_law_drop).nd rfl (Or.inl rfl)) (pss_one (ps_expr (pe_dpop1 (pe_dget hu (pv 0) (pv 2) (fun _ _ => rfl)) (pv 1) ⟨rfl, rfl, rfl, rfl⟩))))
    (pss_one (ps_for PassesOwn.never rfl (i_list (K := K) rfl (pe_dget hu (pv 0) pe_str (fun _ _ => rfl))) (pg_name (i := 3) (sc_law_drop).nd rfl (Or.inl rfl)) (pss_one (ps_if (pt_cmpR (o_in (K := K) rfl) (pv 1) (pe_dget hu (pe_dget hu (pv 0) pe_str (fun _ _ => rfl)) (pv 3) (fun _ _ => rfl)) (by rfl)) (pss_one (ps_expr (w_remove (K := K) rfl (pe_dget hu (pe_dget hu (pv 0) pe_str (fun _ _ => rfl)) (pv 3) (fun _ _ => rfl)) (pv 1)))) pss_nil)))))), ?_⟩
    refine ⟨_, rfl, q.p, _, rfl, W.kN, .inl ⟨rfl, _, .of W.nl_⟩, _, rfl, q.nl, _, n, rfl, rfl, W.nl_, hn, ?_⟩
    rw [drop_nms wf.nd n]
    have f1 : Frm K (fun b => b = q.nl) H (upd H q.nl (.lst (strL (nms (dropD D n))))) := .mut W.nl_ trivial rfl (nt_lst _)
    have n1 : (upd H q.nl (.lst (strL (nms (dropD D n))))) q.nl = some (.lst (strL (nms (dropD D n)))) := upd_same
    generalize upd H q.nl (.lst (strL (nms (dropD D n)))) = H1 at f1 n1
    refine ⟨Nat.le_of_ble_eq_true rfl, fun u hu' => ⟨u, rfl, ⟨_, .of upd_same⟩, ?_⟩⟩
    have e2 : Ext K H1 (upd H1 u (.lst [.str "bases", .str "own", .str "signs", .str "rules", .str "order", .str "lists"])) := .new hu' (nt_lst _)
    have hul : (upd H1 u (.lst [.str "bases", .str "own", .str "signs", .str "rules", .str "order", .str "lists"])) u = some (.lst [.str "bases", .str "own", .str "signs", .str "rules", .str "order", .str "lists"]) := upd_same
    have fu : ¬ Al H1 u := fresh_none hu'
    generalize upd H1 u (.lst [.str "bases", .str "own", .str "signs", .str "rules", .str "order", .str "lists"]) = H2 at e2 hul
    have nx : ∀ {a b : Addr} {i j : Nat}, q.τ a = i → q.τ b = j → i ≠ j → a ≠ b := fun h h' n => ne_tag h h' n
    have s1 : ∀ {j : Nat} {t : Str × Nat × Addr × List (Key × V)}, (six q D)[j]? = some t → t.2.2.1 ≠ q.nl := fun h => nx (W.six h).1 W.tn (by omega)
    have u1 : ∀ {j : Nat} {t : Str × Nat × Addr × List (Key × V)}, (six q D)[j]? = some t → u ≠ t.2.2.1 := fun h z => fu (z ▸ (f1.al _ (al_of (W.six h).2.1 (nt_dK _))))
    refine for_it walk_list (fun i σ H' => ∃ x y : Option V, σ = [some (.ref q.p), some (.str n), x, y] ∧ Frm K (fun b => ∃ j t, (six q D)[j]? = some t ∧ b = t.2.2.1) H2 H' ∧ ∀ j t, (six q D)[j]? = some t → H' t.2.2.1 = some (.dK (if j < i then dropK t.2.2.2 (.inr n) else t.2.2.2)))
      ⟨_, _, rfl, .refl, fun j t h => by rw [if_neg (Nat.not_lt_zero _)]; exact e2.at (f1.dK (W.six h).2.1 (s1 h)) (nt_dK _)⟩ (fun i σ H' _ ⟨_, _, _, f, _⟩ => .inl (.of (f.lst hul fun ⟨j, t, h, z⟩ => u1 h z))) ?_ ?_
    · rintro i x σ H3 H3' hi ⟨x0, y0, rfl, f3, hj⟩ ⟨rfl, hx⟩
      have hlt : i < 6 := hi
      obtain ⟨t, ht⟩ : ∃ t, (six q D)[i]? = some t := ⟨_, List.getElem?_eq_getElem (show i < (six q D).length from hlt)⟩
      have ex : x = .str t.1 := by
        match i, hx, ht with
        | 0, hx, ht => cases ht; cases hx; rfl
        | 1, hx, ht => cases ht; cases hx; rfl
        | 2, hx, ht => cases ht; cases hx; rfl
        | 3, hx, ht => cases ht; cases hx; rfl
        | 4, hx, ht => cases ht; cases hx; rfl
        | 5, hx, ht => cases ht; cases hx; rfl
      subst ex
      obtain ⟨t1, t2, t3, t4, t5⟩ := W.six ht
      obtain ⟨v, hv⟩ := t4 n hn
      have hp : H3' q.p = some (.dK (plF q)) := f3.dK (e2.at (f1.dK W.p_ (nx W.tp W.tn (by decide))) (nt_dK _)) fun ⟨j, t', h, z⟩ => by
        have : j < 6 := (List.getElem?_eq_some_iff.mp h).1
        exact (nx W.tp (W.six h).1 (by omega)) z
      have hd := hj i t ht
      rw [if_neg (Nat.lt_irrefl _)] at hd
      refine ⟨_, rfl, _, rfl, q.p, .ref t.2.2.1, rfl, .inl ⟨_, .inr t.1, .of hp, rfl, by rw [t3]⟩, t.2.2.1, rfl, .inl ⟨_, .of hd⟩, _, rfl, _, .inr n, v, hd, rfl, hv, ?_⟩
      refine ⟨_, _, rfl, f3.trans (.mut hd trivial ⟨i, t, ht, rfl⟩ (nt_dK _)), fun j t' h => ?_⟩
      by_cases z : j = i
      · subst z
        rw [ht] at h
        cases h
        rw [if_pos (Nat.lt_succ_self _), upd_same]
      · rw [upd_ne (nx (W.six h).1 t1 (by omega)), hj j t' h]
        have : (j < i + 1) ↔ (j < i) := by omega
        simp only [this]
    · rintro σ H3 ⟨x0, y0, rfl, f3, hj⟩
      have hd : ∀ j (t : Str × Nat × Addr × List (Key × V)), (six q D)[j]? = some t → H3 t.2.2.1 = some (.dK (dropK t.2.2.2 (.inr n))) := fun j t h => by
        have hlt : j < 6 := (List.getElem?_eq_some_iff.mp h).1
        have y : H3 t.2.2.1 = some (.dK (if j < 6 then dropK t.2.2.2 (.inr n) else t.2.2.2)) := hj j t h
        rw [if_pos hlt] at y
        exact y
      have h0 := hd 0 _ rfl
      have h1 := hd 1 _ rfl
      have h2 := hd 2 _ rfl
      have h3 := hd 3 _ rfl
      have h4 := hd 4 _ rfl
      have h5 := hd 5 _ rfl
      have F : Frm K (fun b => b = q.nl ∨ ∃ (j : Nat) (t : Str × Nat × Addr × List (Key × V)), (six q D)[j]? = some t ∧ b = t.2.2.1) H H3 := ((f1.mono fun b z => .inl z).trans e2.of).trans (f3.mono fun b z => .inr z)
      have nm : ∀ {b : Addr} {i : Nat}, q.τ b = i → (i = 8 ∨ i = 9 ∨ i = 10 ∨ i = 11) → ¬ (b = q.nl ∨ ∃ (j : Nat) (t : Str × Nat × Addr × List (Key × V)), (six q D)[j]? = some t ∧ b = t.2.2.1) := fun {b i} h n' z => by
        rcases z with z | ⟨j, t, h', z⟩
        · rw [z, W.tn] at h; omega
        · have : j < 6 := (List.getElem?_eq_some_iff.mp h').1
          rw [z, (W.six h').1] at h
          omega
      have hp := F.dK W.p_ (nm W.tp (by omega))
      have hnl : H3 q.nl = some (.lst (strL (nms (dropD D n)))) := f3.lst (e2.at n1 (nt_lst _)) fun ⟨j, t, h, z⟩ => s1 h z.symm
      have ll3 : ∀ c ∈ dropF D n, H3 (q.ll c.nm) = some (.lst (strL c.rg)) := fun c hc => F.lst (W.l_ c (dropF_mem.mp hc).1) (nm (W.tll c (dropF_mem.mp hc).1) (by omega))
      have dl3 : H3 q.dl = some (.dK ((dropF D n).map fun c => ((.inr c.nm : Key), V.ref (q.ll c.nm)))) := by
        rw [← dropK_mapC fun c => V.ref (q.ll c.nm)]
        exact h5
      have nls : ∀ {b : Addr} {i : Nat}, q.τ b = i → i ≠ 8 → ¬ ∃ c ∈ dropF D n, b = q.ll c.nm := fun h n' ⟨c, hc, z⟩ => n' (by rw [← h, z]; exact W.tll c (dropF_mem.mp hc).1)
      have dn : nms (dropD D n) = nms (dropF D n) := by
        unfold dropD nms
        rw [List.map_map]
        rfl
      refine ⟨_, rfl, q.p, _, rfl, .inl ⟨_, .inr "names", .of hp, rfl, by rfl⟩, q.nl, rfl, ⟨_, .of hnl⟩, ?_⟩
      refine for_it walk_list (fun i σ H' => ∃ x y : Option V, σ = [some (.ref q.p), some (.str n), x, y] ∧ Frm K (fun b => ∃ c ∈ dropF D n, b = q.ll c.nm) H3 H' ∧ ∀ j c, (dropF D n)[j]? = some c → H' (q.ll c.nm) = some (.lst (strL (if j < i then c.rg.erase n else c.rg))))
        ⟨_, _, rfl, .refl, fun j c hc => by rw [if_neg (Nat.not_lt_zero _)]; exact ll3 c (List.mem_of_getElem? hc)⟩ (fun i σ H' _ ⟨_, _, _, f, _⟩ => .inl (.of (f.lst hnl (nls W.tn (by decide))))) ?_ ?_
      · rintro i x σ H4 H4' hi ⟨x0, y0, rfl, f4, hj⟩ ⟨rfl, hx⟩
        obtain ⟨o, ho, rfl, om⟩ := strL_get hx
        rw [dn] at ho om
        unfold nms at ho
        rw [List.getElem?_map] at ho
        cases hc : (dropF D n)[i]? with
        | none => rw [hc] at ho; cases ho
        | some c =>
          rw [hc] at ho
          cases ho
          have hcm := List.mem_of_getElem? hc
          have hl := hj i c hc
          rw [if_neg (Nat.lt_irrefl _)] at hl
          have hp4 := f4.dK hp (nls W.tp (by decide))
          have hd4 := f4.dK dl3 (nls W.tl (by decide))
          have g1 : DGet H4' q.p (.str "lists") (some (.ref q.dl)) := .inl ⟨_, .inr "lists", .of hp4, rfl, by rfl⟩
          have g2 : DGet H4' q.dl (.str c.nm) (some (.ref (q.ll c.nm))) := .inl ⟨_, .inr c.nm, .of hd4, rfl, by rw [valV_map fun n => V.ref (q.ll n), if_pos om]⟩
          refine ⟨_, rfl, _, rfl, q.p, _, rfl, g1, _, rfl, q.dl, _, rfl, g2, q.ll c.nm, strL c.rg, rfl, .inl (.of hl), rfl, flat_strL _, _, rfl, ?_⟩
          show if (inV (.str n) (strL c.rg)) = true then _ else _
          rw [inV_str]
          have same : ∀ {j : Nat} {d : C}, (dropF D n)[j]? = some d → q.ll d.nm = q.ll c.nm → j = i := fun {j d} hd e => by
            have e1 := W.li d (dropF_mem.mp (List.mem_of_getElem? hd)).1 c (dropF_mem.mp hcm).1 e
            have nd : (nms (dropF D n)).Nodup := dropF_nd wf.nd
            refine nodup_ix nd (x := c.nm) ?_ ?_
            · rw [List.getElem?_map, hd, ← e1]; rfl
            · rw [List.getElem?_map, hc]; rfl
          by_cases z0 : n ∈ c.rg
          · rw [decide_eq_true z0]
            refine iteT ⟨_, rfl, q.p, _, rfl, g1, _, rfl, q.dl, _, rfl, g2, .inl ⟨rfl, _, .of hl⟩, _, rfl, q.ll c.nm, _, n, rfl, rfl, hl, z0, ?_⟩
            refine ⟨_, _, rfl, f4.trans (.mut hl trivial ⟨c, hcm, rfl⟩ (nt_lst _)), fun j d hd => ?_⟩
            by_cases z : q.ll d.nm = q.ll c.nm
            · have ji := same hd z
              subst ji
              rw [hc] at hd
              cases hd
              rw [if_pos (Nat.lt_succ_self _), upd_same]
            · have nji : j ≠ i := fun e => by
                subst e
                rw [hc] at hd
                cases hd
                exact z rfl
              rw [upd_ne z, hj j d hd]
              have : (j < i + 1) ↔ (j < i) := by omega
              simp only [this]
          · rw [decide_eq_false z0]
            refine iteF ⟨_, _, rfl, f4, fun j d hd => ?_⟩
            rw [hj j d hd]
            by_cases ji : j = i
            · subst ji
              rw [hc] at hd
              cases hd
              rw [if_neg (Nat.lt_irrefl _), if_pos (Nat.lt_succ_self _), List.erase_of_not_mem z0]
            · have : (j < i + 1) ↔ (j < i) := by omega
              simp only [this]
      · rintro σ H4 ⟨x0, y0, rfl, f4, hj⟩
        have G : Frm K (fun b => (b = q.nl ∨ ∃ (j : Nat) (t : Str × Nat × Addr × List (Key × V)), (six q D)[j]? = some t ∧ b = t.2.2.1) ∨ ∃ c ∈ dropF D n, b = q.ll c.nm) H H4 := (F.mono fun b z => .inl z).trans (f4.mono fun b z => .inr z)
        have ng : ∀ {b : Addr} {i : Nat}, q.τ b = i → (i = 9 ∨ i = 10 ∨ i = 11) → ¬ ((b = q.nl ∨ ∃ (j : Nat) (t : Str × Nat × Addr × List (Key × V)), (six q D)[j]? = some t ∧ b = t.2.2.1) ∨ ∃ c ∈ dropF D n, b = q.ll c.nm) := fun h n' z => z.elim (nm h (by omega)) (nls h (by omega))
        refine k _ (G.mono fun b z => ?_) ?_
        · rcases z with (z | ⟨j, t, h, z⟩) | ⟨c, hc, z⟩ <;> rw [z]
          · exact W.sn
          · exact (W.six h).2.2.2.2
          · exact W.sll c (dropF_mem.mp hc).1
        exact { W with
          p_ := G.dK W.p_ (ng W.tp (by omega))
          nl_ := f4.lst hnl (nls W.tn (by decide))
          db_ := by
            rw [dropD_map fun x => V.ref (q.bl x), ← dropK_map fun x => V.ref (q.bl x)]
            exact f4.dK h0 (nls W.tb (by decide))
          dw_ := by
            have e : (dropD D n).map (fun c => ((.inr c.nm : Key), V.bl c.ow)) = dropK (D.map fun c => ((.inr c.nm : Key), V.bl c.ow)) (.inr n) := by
              rw [dropK_mapC fun c => V.bl c.ow]
              unfold dropD
              rw [List.map_map]
              rfl
            rw [e]
            exact f4.dK h1 (nls W.tw (by decide))
          ds_ := by
            rw [dropD_map fun x => V.ref (q.sl x), ← dropK_map fun x => V.ref (q.sl x)]
            exact f4.dK h2 (nls W.ts (by decide))
          du_ := by
            rw [dropD_map fun x => q.ru x, ← dropK_map fun x => q.ru x]
            exact f4.dK h3 (nls W.tu (by decide))
          do_ := by
            rw [dropD_map fun x => V.ref (q.ol x), ← dropK_map fun x => V.ref (q.ol x)]
            exact f4.dK h4 (nls W.to (by decide))
          dl_ := by
            rw [dropD_map fun x => V.ref (q.ll x)]
            exact f4.dK dl3 (nls W.tl (by decide))
          b_ := fun c hc => by
            obtain ⟨d, hd, _, rfl⟩ := dropD_mem hc
            exact G.lst (W.b_ d hd) (ng (W.tbl d hd) (by omega))
          s_ := fun c hc => by
            obtain ⟨d, hd, _, rfl⟩ := dropD_mem hc
            exact G.dK (W.s_ d hd) (ng (W.tsl d hd) (by omega))
          r_ := fun c hc => by
            obtain ⟨d, hd, _, rfl⟩ := dropD_mem hc
            exact (W.r_ d hd).frm G
          o_ := fun c hc => by
            obtain ⟨d, hd, _, rfl⟩ := dropD_mem hc
            exact G.lst (W.o_ d hd) (ng (W.tol d hd) (by omega))
          l_ := fun c hc => by
            obtain ⟨d, hd, rfl⟩ := List.mem_map.mp hc
            obtain ⟨j, hjl, rfl⟩ := List.getElem_of_mem hd
            have := hj j _ (List.getElem?_eq_getElem hjl)
            rw [if_pos (by rw [strL_length, dn]; unfold nms; rw [List.length_map]; exact hjl)] at this
            exact this
          li := fun c hc c' hc' => by
            obtain ⟨d, hd, _, rfl⟩ := dropD_mem hc
            obtain ⟨d', hd', _, rfl⟩ := dropD_mem hc'
            exact W.li d hd d' hd'
          tll := fun c hc => by
            obtain ⟨d, hd, _, rfl⟩ := dropD_mem hc
            exact W.tll d hd
          tbl := fun c hc => by
            obtain ⟨d, hd, _, rfl⟩ := dropD_mem hc
            exact W.tbl d hd
          tol := fun c hc => by
            obtain ⟨d, hd, _, rfl⟩ := dropD_mem hc
            exact W.tol d hd
          tsl := fun c hc => by
            obtain ⟨d, hd, _, rfl⟩ := dropD_mem hc
            exact W.tsl d hd
          sll := fun c hc => by
            obtain ⟨d, hd, _, rfl⟩ := dropD_mem hc
            exact W.sll d hd }
end
end ST
set_option maxHeartbeats 4000000
namespace ST
open PySem PySem.Spec PyProof.Rows L2
open LamX (CodeO Tabs TabB)
theorem cutTo (xs : List V) (k : Nat) : cutV xs none (some (k : Int)) = xs.take k := by
  unfold cutV
  rw [HT.sIx_nat]
  show (xs.drop 0).take (min k xs.length - 0) = xs.take k
  rw [List.drop_zero, Nat.sub_zero]
  rcases Nat.le_total k xs.length with h | h
  · rw [Nat.min_eq_left h]
  · rw [Nat.min_eq_right h, List.take_length, List.take_of_length_le h]
section
variable {P : Program} {w : World} {K : PySem.W.Frag} {mg : Str → Option Value} {base : Heap}
def spPick (K : PySem.W.Frag) : Sp := fun vs H Q _ => ∃ (b a : Addr) (n : Nat) (xs : List V), vs = [.ref b, .ref a] ∧ BagR H b n ∧ H a = some (.lst xs) ∧ a ≠ b ∧ n ≤ 100000 ∧ 0 < xs.length ∧ xs.length ≤ 1000 ∧ ∀ (v : V) H', v ∈ xs → Frm K (fun x => x = b) H H' → BagR H' b (n + 1) → Q v H'
theorem ok_law_pick (T : Tx K mg) : FnOk P w K mg base CX0 2 (He.fAd K d_law_pick.at_) (fdOf K (He.fAd K d_law_pick.at_)) ["_law_bag_here", "_law_some"] (spPick K) := by
  refine (F_law_pick T).ok sc_law_pick (fun vs H Q E h => ?_) (fun cdv A outer s H vs Q E hr h => ?_)
  · obtain ⟨_, _, _, _, rfl, _⟩ := h
    rfl
  · obtain ⟨b, a, n, xs, rfl, hB, ha, nab, hn, hpos, hlen, k⟩ := h
    have hu := hu_of hr
    refine ⟨_, PSs.nox (pss_one (ps_ret (pe_ix (x_l (K := K) rfl) (pv 1) (pe_call (ok_law_take T) (hr.mono (by decide)) rfl (g_law_take T) (F_law_take T).kp (b_law_take T) .nil pass0 (pa_cons (pv 0) (pa_cons (pe_callB (k_len (K := K) rfl) (by rfl) (z_len T) (by decide +kernel) (pa_cons (pv 1) pa_nil)) pa_nil))) (fun _ _ => rfl)))), ?_⟩
    refine ⟨_, rfl, _, rfl, _, rfl, a, xs, rfl, .inl (.inl (.of ha)), b, n, xs.length, rfl, hB, hn, hpos, hlen, fun j H1 hj f1 hB1 => ?_⟩
    exact ⟨a, xs, j, xs[j], rfl, rfl, .inl (.of (f1.lst ha nab)), atI_nat (List.getElem?_eq_getElem hj), k _ _ (List.getElem_mem hj) f1 hB1⟩
abbrev ClR (H : Hp) (r : Addr) (c : List Str × Bool) : Prop := ∃ m : Addr, H r = some (.tup [.ref m, .bl c.2]) ∧ H m = some (.tup (strL c.1))
/-- a rule as the law draws it -/
structure RlOk (ms : List Str) (h : Hk) : Prop where
  ne : h ≠ []
  len : h.length ≤ 3
  q : ∀ q ∈ h, q.1.length ≤ 3 ∧ q.1.Nodup ∧ ∀ m ∈ q.1, m ∈ ms
def spNR (K : PySem.W.Frag) : Sp := fun vs H Q _ => ∃ (b a : Addr) (n : Nat) (ms : List Str), vs = [.ref b, .ref a] ∧ BagR H b n ∧ H a = some (.lst (strL ms)) ∧ a ≠ b ∧ n ≤ 50000 ∧ ms.length ≤ 5 ∧ ms.Nodup ∧ ∀ (v : V) H' hk pa, Frm K (fun x => x = b) H H' → BagR H' b (n + 30) → RuR H' v hk pa → (∀ h, hk = some h → RlOk ms h) → Q v H'
theorem ok_law_new_rule (T : Tx K mg) : FnOk P w K mg base CX0 2 (He.fAd K d_law_new_rule.at_) (fdOf K (He.fAd K d_law_new_rule.at_)) ["_law_bag_here", "_law_methods_here"] (spNR K) := by
  refine (F_law_new_rule T).ok sc_law_new_rule (fun vs H Q E h => ?_) (fun cdv A outer s H vs Q E hr h => ?_)
  · obtain ⟨_, _, _, _, rfl, _⟩ := h
    rfl
  · obtain ⟨b, a, n, ms, rfl, hB, ha, nab, hn, hml, hnd, k⟩ := h
    have hu := hu_of hr
    refine ⟨_, PSs.nox (pss_cons (ps_if (pt_cmpR op_lt (pe_call (ok_law_take T) (hr.mono (by decide)) rfl (g_law_take T) (F_law_take T).kp (b_law_take T) .nil pass0 (pa_cons (pv 0) (pa_cons pe_int pa_nil))) pe_int (nomark _)) (pss_one (ps_ret pe_non)) pss_nil)
    (pss_cons (ps_set (i := 2) (sc_law_new_rule).nd rfl (Or.inl rfl) (pe_lst pa_nil))
    (pss_cons (ps_for PassesOwn.never rfl (pi_range1 rfl (z_range T) (pa_cons (pe_op op_add pe_int (pe_call (ok_law_take T) (hr.mono (by decide)) rfl (g_law_take T) (F_law_take T).kp (b_law_take T) .nil pass0 (pa_cons (pv 0) (pa_cons pe_int pa_nil)))) pa_nil)) (pg_name (i := 3) (sc_law_new_rule).nd rfl (Or.inl rfl)) (pss_cons (ps_set (i := 4) (sc_law_new_rule).nd rfl (Or.inl rfl) (pe_callTy (k_tuple (K := K) rfl) (by rfl) (z_tuple T) (by decide +kernel) (pa_cons (pe_slice (l_l (K := K) rfl) (pe_lc (own := [("_law_method", 5)]) (g := gName 5) (tt := _) rfl (sc_law_new_rule).nd (i_list (K := K) rfl (pv 1)) (blkOk_by (by kernel_rfl)) (fun _ _ _ _ _ => (pg_name (i := 5) (sc_law_new_rule).nd rfl (by first | exact Or.inl rfl | exact Or.inr rfl))) (fun _ _ _ _ _ => pts_one (pt_cmpR op_eq (pe_call (ok_law_take T) (hr.mono (by decide)) rfl (g_law_take T) (F_law_take T).kp (b_law_take T) .nil pass0 (pa_cons (pv 0) (pa_cons pe_int pa_nil))) pe_int (nomark _))) (fun _ _ _ _ _ => (pv 5))) po_none (po_some pe_int)) pa_nil)))
    (pss_one (ps_expr (w_append (K := K) rfl (pv 2) (pe_tup (pa_cons (pv 4) (pa_cons (pe_cmpR op_eq (pe_call (ok_law_take T) (hr.mono (by decide)) rfl (g_law_take T) (F_law_take T).kp (b_law_take T) .nil pass0 (pa_cons (pv 0) (pa_cons pe_int pa_nil))) pe_int (nomark _)) pa_nil))))))))
    (pss_one (ps_ret (pe_tup (pa_cons (pe_callTy (k_tuple (K := K) rfl) (by rfl) (z_tuple T) (by decide +kernel) (pa_cons (pv 2) pa_nil)) (pa_cons (pe_cmpR op_eq (pe_call (ok_law_take T) (hr.mono (by decide)) rfl (g_law_take T) (F_law_take T).kp (b_law_take T) .nil pass0 (pa_cons (pv 0) (pa_cons pe_int pa_nil))) pe_int (nomark _)) pa_nil)))))))), ?_⟩
    refine ⟨_, rfl, b, n, 5, rfl, hB, by omega, by omega, by omega, fun j H1 hj f1 hB1 => ⟨_, 2, rfl, rfl, _, rfl, ?_⟩⟩
    refine ite2 (fun _ => ?_) (fun _ => ?_)
    · exact k .non H1 none false f1 (hB1.mono (by omega)) ⟨rfl, rfl⟩ fun h z => by cases z
    refine ⟨Nat.zero_le _, fun f hf => ?_⟩
    have ha1 := f1.lst ha nab
    have nbf : b ≠ f := ne_fresh hB1.al (fresh_none hf)
    have naf : a ≠ f := ne_of_none ha1 hf
    have ff : ¬ Al H f := fresh_of f1 hf
    have f2 : Frm K (fun x => x = b) H (upd H1 f (.lst [])) := f1.trans (.new hf (nt_lst _))
    have hB2 := BagR.ext (K := K) (.new hf (nt_lst [])) hB1
    have hf2 : (upd H1 f (.lst [])) f = some (.lst []) := upd_same
    generalize upd H1 f (.lst []) = H2 at f2 hB2 hf2
    refine ⟨_, rfl, b, n + 1, 3, rfl, hB2, by omega, by omega, by omega, fun j2 H3 hj2 f3 hB3 => ?_⟩
    have f03 := f2.trans f3
    have hf3 := f3.lst hf2 (fun z => nbf z.symm)
    refine ⟨1, j2, rfl, rfl, _, rfl, by omega, by omega, ?_⟩
    have nj : ((1 : Int) + (j2 : Int)).toNat = 1 + j2 := by omega
    rw [nj]
    refine for_it walk_range (fun i σ H' => ∃ (x y z : Option V) (rs : List Addr) (cs : Hk), σ = [some (.ref b), some (.ref a), some (.ref f), x, y, z] ∧ Frm K (fun x => x = b) H H' ∧ BagR H' b (n + 2 + 6 * i) ∧ H' f = some (.lst (rs.map V.ref)) ∧ Paired (fun (r : Addr) (c : List Str × Bool) => ∃ m : Addr, H' r = some (.tup [.ref m, .bl c.2]) ∧ H' m = some (.tup (strL c.1))) rs cs ∧ cs.length = i ∧ ∀ q ∈ cs, q.1.length ≤ 3 ∧ q.1.Nodup ∧ ∀ m ∈ q.1, m ∈ ms)
      ⟨_, _, _, [], [], rfl, f03, hB3, hf3, .nil, rfl, fun q hq => by cases hq⟩ (fun _ _ _ _ _ => trivial) ?_ ?_
    · rintro i x σ H4 H4' hi ⟨_, _, _, rs, cs, rfl, f4, hB4, hf4, pr, hcl, hq⟩ ⟨rfl, rfl⟩
      have ha4 := f4.lst ha nab
      refine ⟨_, rfl, a, rfl, ⟨_, .of ha4⟩, fun D hD => ?_⟩
      have fD : ¬ Al H4' D := fresh_none hD
      have nDb : D ≠ b := (ne_fresh hB4.al fD).symm
      have naD : a ≠ D := ne_of_none ha4 hD
      have nfD : f ≠ D := ne_of_none hf4 hD
      refine lc_it walk_list (fun j H' => ∃ l : List Str, Frm K (fun x => x = b) H4' H' ∧ BagR H' b (n + 2 + 6 * i + j) ∧ H' D = some (.lst (strL l)) ∧ l.Sublist (ms.take j)) ⟨[], .new hD (nt_lst _), BagR.ext (K := K) (.new hD (nt_lst [])) hB4, upd_same, List.nil_sublist _⟩ (fun j H' _ ⟨_, g, _⟩ => .inl (.of (g.lst ha4 nab))) ?_ ?_
      · rintro j x H5 H5' hj' ⟨l, f5, hB5, hD5, hsub⟩ ⟨rfl, hx⟩
        obtain ⟨m, hm, rfl, mm⟩ := strL_get hx
        have jl : j < 5 := Nat.lt_of_lt_of_le (List.getElem?_eq_some_iff.mp hm).1 hml
        have il : i < 3 := by omega
        refine ⟨rfl, _, rfl, b, _, 3, rfl, hB5, by omega, by omega, by omega, fun j3 H6 hj3 f6 hB6 => ⟨rfl, _, rfl, ?_⟩⟩
        have hD6 := f6.lst hD5 nDb
        have t1 : ms.take (j + 1) = ms.take j ++ [m] := by rw [List.take_succ, hm]; rfl
        refine ite2 (fun _ => ?_) (fun _ => ?_)
        · have ll := hsub.length_le
          rw [List.length_take] at ll
          refine ⟨_, rfl, _, hD6, ?_, l ++ [m], (f5.trans f6).mutNew fD hD6 trivial (nt_lst _), ?_, ?_, ?_⟩
          · rw [strL_length]
            exact Nat.lt_of_le_of_lt (show l.length ≤ 5 by omega) (by decide)
          · exact BagR.frm (K := K) (S := fun x => x = D) (.mut hD6 trivial rfl (nt_lst _)) nDb.symm hB6
          · rw [upd_same, strL_append]
            rfl
          · rw [t1]
            exact hsub.append (List.Sublist.refl _)
        · exact ⟨l, f5.trans f6, hB6, hD6, hsub.trans (by rw [t1]; exact List.sublist_append_left _ _)⟩
      · rintro H5 ⟨l, f5, hB5, hD5, hsub⟩
        rw [strL_length] at hB5 hsub
        rw [List.take_length] at hsub
        refine ⟨3, rfl, D, strL l, rfl, .inl (.of hD5), fun D2 hD2 => ?_⟩
        rw [show (3 : Int) = ((3 : Nat) : Int) from rfl, cutTo]
        have e1 : Ext K H5 (upd H5 D2 (.lst ((strL l).take 3))) := .new hD2 (nt_lst _)
        refine ⟨D2, (strL l).take 3, rfl, .inl ⟨.inl (.of upd_same), fun tp htp => ?_⟩⟩
        have e2 := e1.trans (Frm.new htp (nt_tup ((strL l).take 3)))
        have htp2 : (upd (upd H5 D2 (.lst ((strL l).take 3))) tp (.tup ((strL l).take 3))) tp = some (.tup ((strL l).take 3)) := upd_same
        generalize upd (upd H5 D2 (.lst ((strL l).take 3))) tp (.tup ((strL l).take 3)) = H6 at e2 htp2
        have f6 := f5.trans e2.of
        have hf6 := f6.lst hf4 (fun z => nbf z.symm)
        have il : i < 3 := by omega
        have ml5 : ms.length ≤ 5 := hml
        refine ⟨_, rfl, .inl ⟨rfl, _, .of hf6⟩, _, rfl, _, rfl, b, _, 2, rfl, hB5.ext e2, by omega, by omega, by omega, fun j3 H7 hj3 f7 hB7 => ⟨rfl, Nat.le_of_ble_eq_true rfl, fun r hr' => ?_⟩⟩
        have f8 := (f6.trans f7).trans (Frm.new hr' (nt_tup [.ref tp, .bl (decide (V.int (j3 : Int) = V.int 0))]))
        have h8t := (Frm.new (K := K) (S := fun _ => False) hr' (nt_tup [.ref tp, .bl (decide (V.int (j3 : Int) = V.int 0))])).at (f7.tup htp2) (nt_tup _)
        have h8r : (upd H7 r (.tup [.ref tp, .bl (decide (V.int (j3 : Int) = V.int 0))])) r = some (.tup [.ref tp, .bl (decide (V.int (j3 : Int) = V.int 0))]) := upd_same
        have hB8 := BagR.ext (K := K) (.new hr' (nt_tup [.ref tp, .bl (decide (V.int (j3 : Int) = V.int 0))])) hB7
        generalize upd H7 r (.tup [.ref tp, .bl (decide (V.int (j3 : Int) = V.int 0))]) = H8 at f8 h8t h8r hB8
        have hf8 := f8.lst hf4 (fun z => nbf z.symm)
        have rl : rs.length ≤ 3 := by rw [paired_len pr]; omega
        have pr8 : Paired (ClR H8) rs cs := L2.Paired.mapP pr fun _ _ ⟨m, q1, q2⟩ => ⟨m, f8.tup q1, f8.tup q2⟩
        refine ⟨f, _, _, rfl, rfl, hf8, ?_, ?_⟩
        · rw [List.length_map]
          exact Nat.lt_of_le_of_lt rl (by decide)
        have g9 : Frm K (fun x => x = f) H8 (upd H8 f (.lst (rs.map V.ref ++ [.ref r]))) := .mut hf8 trivial rfl (nt_lst _)
        have st : (strL l).take 3 = strL (l.take 3) := by
          unfold strL
          rw [List.map_take]
        refine ⟨_, _, _, rs ++ [r], cs ++ [(l.take 3, decide (V.int (j3 : Int) = V.int 0))], rfl, (f4.trans f8).mutNew ff hf8 trivial (nt_lst _), BagR.mono (by omega) (hB8.frm g9 nbf), by rw [upd_same, List.map_append]; rfl, paired_append (L2.Paired.mapP pr8 fun _ _ ⟨m, q1, q2⟩ => ⟨m, g9.tup q1, g9.tup q2⟩) (.cons ⟨tp, g9.tup h8r, g9.tup (by rw [← st]; exact h8t)⟩ .nil), by rw [List.length_append, hcl]; rfl, fun q hq' => ?_⟩
        rcases List.mem_append.mp hq' with z | z
        · exact hq q z
        · rw [List.mem_singleton.mp z]
          refine ⟨by rw [List.length_take]; omega, ?_, fun m hm => hsub.subset (List.mem_of_mem_take hm)⟩
          exact ((List.take_sublist 3 l).trans hsub).nodup hnd
    · rintro σ H4 ⟨_, _, _, rs, cs, rfl, f4, hB4, hf4, pr, hcl, hq⟩
      refine ⟨_, rfl, f, _, rfl, .inl ⟨.inl (.of hf4), fun tp htp => ?_⟩⟩
      have e1 : Ext K H4 (upd H4 tp (.tup (rs.map V.ref))) := .new htp (nt_tup _)
      have h1 : (upd H4 tp (.tup (rs.map V.ref))) tp = some (.tup (rs.map V.ref)) := upd_same
      generalize upd H4 tp (.tup (rs.map V.ref)) = H5 at e1 h1
      refine ⟨_, rfl, b, _, 2, rfl, hB4.ext e1, by omega, by omega, by omega, fun j3 H6 hj3 f6 hB6 => ⟨rfl, Nat.le_of_ble_eq_true rfl, fun r hr' => ?_⟩⟩
      have e7 : Ext K H6 (upd H6 r (.tup [.ref tp, .bl (decide (V.int (j3 : Int) = V.int 0))])) := .new hr' (nt_tup _)
      have f7 := (e1.of.trans f6).trans e7.of
      refine k (.ref r) _ (some cs) _ (f4.trans f7) ((hB6.ext e7).mono (by omega)) ⟨r, tp, rfl, upd_same, tp, rs, rfl, e7.tup (f6.tup h1), ?_⟩ ?_
      · exact L2.Paired.mapP pr fun _ _ ⟨m, q1, q2⟩ => ⟨m, f7.tup q1, f7.tup q2⟩
      · intro h eh
        cases eh
        exact ⟨fun z => by rw [z] at hcl; simp at hcl; omega, by omega, hq⟩
end
end ST
set_option maxHeartbeats 4000000
namespace ST
open PySem PySem.Spec PyProof.Rows L2
open LamX (CodeO Tabs TabB)
structure PTag (q : PPar) : Prop where
  tp : q.τ q.p = 10
  tn : q.τ q.nl = 1
  tb : q.τ q.db = 2
  tw : q.τ q.dw = 3
  ts : q.τ q.ds = 4
  tu : q.τ q.du = 5
  to : q.τ q.dor = 6
  tl : q.τ q.dl = 7
structure PRaw (H : Hp) (q : PPar) (ns : List V) (cb cw cs cu co cl : List (Key × V)) : Prop where
  p : H q.p = some (.dK (plF q))
  nl : H q.nl = some (.lst ns)
  db : H q.db = some (.dK cb)
  dw : H q.dw = some (.dK cw)
  ds : H q.ds = some (.dK cs)
  du : H q.du = some (.dK cu)
  dor : H q.dor = some (.dK co)
  dl : H q.dl = some (.dK cl)
section
variable {K : PySem.W.Frag} {H H' : Hp} {q : PPar} {ns : List V} {cb cw cs cu co cl : List (Key × V)}
theorem PRaw.ext (h : PRaw H q ns cb cw cs cu co cl) (a : Ext K H H') : PRaw H' q ns cb cw cs cu co cl := ⟨a.at h.p (nt_dK _), a.at h.nl (nt_lst _), a.at h.db (nt_dK _), a.at h.dw (nt_dK _), a.at h.ds (nt_dK _), a.at h.du (nt_dK _), a.at h.dor (nt_dK _), a.at h.dl (nt_dK _)⟩
theorem PRaw.setN (h : PRaw H q ns cb cw cs cu co cl) (t : PTag q) (x : List V) : PRaw (upd H q.nl (.lst x)) q x cb cw cs cu co cl := ⟨by rw [upd_ne (ne_tag t.tp t.tn (by decide))]; exact h.p, upd_same, by rw [upd_ne (ne_tag t.tb t.tn (by decide))]; exact h.db, by rw [upd_ne (ne_tag t.tw t.tn (by decide))]; exact h.dw, by rw [upd_ne (ne_tag t.ts t.tn (by decide))]; exact h.ds, by rw [upd_ne (ne_tag t.tu t.tn (by decide))]; exact h.du, by rw [upd_ne (ne_tag t.to t.tn (by decide))]; exact h.dor, by rw [upd_ne (ne_tag t.tl t.tn (by decide))]; exact h.dl⟩
theorem PRaw.setB (h : PRaw H q ns cb cw cs cu co cl) (t : PTag q) (x : List (Key × V)) : PRaw (upd H q.db (.dK x)) q ns x cw cs cu co cl := ⟨by rw [upd_ne (ne_tag t.tp t.tb (by decide))]; exact h.p, by rw [upd_ne (ne_tag t.tn t.tb (by decide))]; exact h.nl, upd_same, by rw [upd_ne (ne_tag t.tw t.tb (by decide))]; exact h.dw, by rw [upd_ne (ne_tag t.ts t.tb (by decide))]; exact h.ds, by rw [upd_ne (ne_tag t.tu t.tb (by decide))]; exact h.du, by rw [upd_ne (ne_tag t.to t.tb (by decide))]; exact h.dor, by rw [upd_ne (ne_tag t.tl t.tb (by decide))]; exact h.dl⟩
theorem PRaw.setW (h : PRaw H q ns cb cw cs cu co cl) (t : PTag q) (x : List (Key × V)) : PRaw (upd H q.dw (.dK x)) q ns cb x cs cu co cl := ⟨by rw [upd_ne (ne_tag t.tp t.tw (by decide))]; exact h.p, by rw [upd_ne (ne_tag t.tn t.tw (by decide))]; exact h.nl, by rw [upd_ne (ne_tag t.tb t.tw (by decide))]; exact h.db, upd_same, by rw [upd_ne (ne_tag t.ts t.tw (by decide))]; exact h.ds, by rw [upd_ne (ne_tag t.tu t.tw (by decide))]; exact h.du, by rw [upd_ne (ne_tag t.to t.tw (by decide))]; exact h.dor, by rw [upd_ne (ne_tag t.tl t.tw (by decide))]; exact h.dl⟩
theorem PRaw.setS (h : PRaw H q ns cb cw cs cu co cl) (t : PTag q) (x : List (Key × V)) : PRaw (upd H q.ds (.dK x)) q ns cb cw x cu co cl := ⟨by rw [upd_ne (ne_tag t.tp t.ts (by decide))]; exact h.p, by rw [upd_ne (ne_tag t.tn t.ts (by decide))]; exact h.nl, by rw [upd_ne (ne_tag t.tb t.ts (by decide))]; exact h.db, by rw [upd_ne (ne_tag t.tw t.ts (by decide))]; exact h.dw, upd_same, by rw [upd_ne (ne_tag t.tu t.ts (by decide))]; exact h.du, by rw [upd_ne (ne_tag t.to t.ts (by decide))]; exact h.dor, by rw [upd_ne (ne_tag t.tl t.ts (by decide))]; exact h.dl⟩
theorem PRaw.setU (h : PRaw H q ns cb cw cs cu co cl) (t : PTag q) (x : List (Key × V)) : PRaw (upd H q.du (.dK x)) q ns cb cw cs x co cl := ⟨by rw [upd_ne (ne_tag t.tp t.tu (by decide))]; exact h.p, by rw [upd_ne (ne_tag t.tn t.tu (by decide))]; exact h.nl, by rw [upd_ne (ne_tag t.tb t.tu (by decide))]; exact h.db, by rw [upd_ne (ne_tag t.tw t.tu (by decide))]; exact h.dw, by rw [upd_ne (ne_tag t.ts t.tu (by decide))]; exact h.ds, upd_same, by rw [upd_ne (ne_tag t.to t.tu (by decide))]; exact h.dor, by rw [upd_ne (ne_tag t.tl t.tu (by decide))]; exact h.dl⟩
theorem PRaw.setO (h : PRaw H q ns cb cw cs cu co cl) (t : PTag q) (x : List (Key × V)) : PRaw (upd H q.dor (.dK x)) q ns cb cw cs cu x cl := ⟨by rw [upd_ne (ne_tag t.tp t.to (by decide))]; exact h.p, by rw [upd_ne (ne_tag t.tn t.to (by decide))]; exact h.nl, by rw [upd_ne (ne_tag t.tb t.to (by decide))]; exact h.db, by rw [upd_ne (ne_tag t.tw t.to (by decide))]; exact h.dw, by rw [upd_ne (ne_tag t.ts t.to (by decide))]; exact h.ds, by rw [upd_ne (ne_tag t.tu t.to (by decide))]; exact h.du, upd_same, by rw [upd_ne (ne_tag t.tl t.to (by decide))]; exact h.dl⟩
theorem PRaw.setL (h : PRaw H q ns cb cw cs cu co cl) (t : PTag q) (x : List (Key × V)) : PRaw (upd H q.dl (.dK x)) q ns cb cw cs cu co x := ⟨by rw [upd_ne (ne_tag t.tp t.tl (by decide))]; exact h.p, by rw [upd_ne (ne_tag t.tn t.tl (by decide))]; exact h.nl, by rw [upd_ne (ne_tag t.tb t.tl (by decide))]; exact h.db, by rw [upd_ne (ne_tag t.tw t.tl (by decide))]; exact h.dw, by rw [upd_ne (ne_tag t.ts t.tl (by decide))]; exact h.ds, by rw [upd_ne (ne_tag t.tu t.tl (by decide))]; exact h.du, by rw [upd_ne (ne_tag t.to t.tl (by decide))]; exact h.dor, upd_same⟩
theorem PRaw.kN (h : PRaw H q ns cb cw cs cu co cl) : DGet H q.p (.str "names") (some (.ref q.nl)) := .inl ⟨_, .inr "names", .of h.p, rfl, by rfl⟩
theorem PRaw.kB (h : PRaw H q ns cb cw cs cu co cl) : DGet H q.p (.str "bases") (some (.ref q.db)) := .inl ⟨_, .inr "bases", .of h.p, rfl, by rfl⟩
theorem PRaw.kW (h : PRaw H q ns cb cw cs cu co cl) : DGet H q.p (.str "own") (some (.ref q.dw)) := .inl ⟨_, .inr "own", .of h.p, rfl, by rfl⟩
theorem PRaw.kS (h : PRaw H q ns cb cw cs cu co cl) : DGet H q.p (.str "signs") (some (.ref q.ds)) := .inl ⟨_, .inr "signs", .of h.p, rfl, by rfl⟩
theorem PRaw.kU (h : PRaw H q ns cb cw cs cu co cl) : DGet H q.p (.str "rules") (some (.ref q.du)) := .inl ⟨_, .inr "rules", .of h.p, rfl, by rfl⟩
theorem PRaw.kO (h : PRaw H q ns cb cw cs cu co cl) : DGet H q.p (.str "order") (some (.ref q.dor)) := .inl ⟨_, .inr "order", .of h.p, rfl, by rfl⟩
theorem PRaw.kL (h : PRaw H q ns cb cw cs cu co cl) : DGet H q.p (.str "lists") (some (.ref q.dl)) := .inl ⟨_, .inr "lists", .of h.p, rfl, by rfl⟩
end
theorem put_new {D : List C} {n : Str} (f g : C → V) (hn : n ∉ nms D) (v : V) (c : C) (hc : c.nm = n) (hg : ∀ d ∈ D, g d = f d) (hv : g c = v) :
    putK (D.map fun c => ((.inr c.nm : Key), f c)) (.inr n) v = (D ++ [c]).map fun c => ((.inr c.nm : Key), g c) := by
  rw [putK_new]
  · rw [List.map_append]
    congr 1
    · exact List.map_congr_left fun d hd => by rw [hg d hd]
    · simp only [List.map_cons, List.map_nil, hc, hv]
  · induction D with
    | nil => rfl
    | cons d r ih =>
      show valV (((.inr d.nm : Key), f d) :: r.map fun c => ((.inr c.nm : Key), f c)) (.inr n) = none
      rw [valV_neg (fun z => hn (by rw [← Sum.inr.inj z]; exact List.mem_cons_self ..))]
      exact ih (fun z => hn (List.mem_cons_of_mem _ z)) fun d' hd' => hg d' (List.mem_cons_of_mem _ hd')
def mrgD (D : List C) (bs : List Str) : Option (List Str) := mrg 1000 ((bs.map fun b => (at_ D b).ln) ++ [bs])
def bsD (D : List C) (bs : List Str) : List Str := if (mrgD D bs).isSome = true then bs else bs.take 1
def restD (D : List C) (bs : List Str) : List Str := (mrgD D bs).getD (at_ D (bs.headD "")).ln
def baseC (D : List C) (n : Str) (bs : List Str) (ow : Bool) : C := ⟨n, bsD D bs, ow, none, false, n :: restD D bs, []⟩
def swC (D : List C) (n : Str) (bs : List Str) (ow : Bool) : Bool := sw (D ++ [baseC D n bs ow]) n
def newC (D : List C) (n : Str) (bs : List Str) (ow : Bool) (hk : Option Hk) (pa : Bool) : C := if swC D n bs ow = true then { baseC D n bs ow with hk := hk, pa := pa } else baseC D n bs ow
end ST
set_option maxHeartbeats 4000000
namespace ST
open PySem PySem.Spec PyProof.Rows L2
open LamX (CodeO Tabs TabB)
theorem POk.raw {K : PySem.W.Frag} {S : Addr → Prop} {H : Hp} {D : List C} {sg : Sg} {q : PPar} (W : POk K S H D sg q) : PRaw H q (strL (nms D)) (D.map fun c => (.inr c.nm, .ref (q.bl c.nm))) (D.map fun c => (.inr c.nm, .bl c.ow)) (D.map fun c => (.inr c.nm, .ref (q.sl c.nm))) (D.map fun c => (.inr c.nm, q.ru c.nm)) (D.map fun c => (.inr c.nm, .ref (q.ol c.nm))) (D.map fun c => (.inr c.nm, .ref (q.ll c.nm))) :=
  ⟨W.p_, W.nl_, W.db_, W.dw_, W.ds_, W.du_, W.do_, W.dl_⟩
theorem POk.tag {K : PySem.W.Frag} {S : Addr → Prop} {H : Hp} {D : List C} {sg : Sg} {q : PPar} (W : POk K S H D sg q) : PTag q := ⟨W.tp, W.tn, W.tb, W.tw, W.ts, W.tu, W.to, W.tl⟩
abbrev mk7 (q : PPar) (b : Addr) : Prop := b = q.nl ∨ b = q.db ∨ b = q.dw ∨ b = q.ds ∨ b = q.du ∨ b = q.dor ∨ b = q.dl
abbrev mkPP (q : PPar) (n : Str) (lb sd lo ll : Addr) (rv : V) : PPar := { q with
  τ := fun b => if b = ll then 8 else if b = lb then 9 else if b = lo then 9 else if b = sd then 11 else q.τ b
  bl := fun x => if x = n then lb else q.bl x
  sl := fun x => if x = n then sd else q.sl x
  ol := fun x => if x = n then lo else q.ol x
  ll := fun x => if x = n then ll else q.ll x
  ru := fun x => if x = n then rv else q.ru x }
theorem POk.make {K : PySem.W.Frag} {S : Addr → Prop} {H H' : Hp} {D : List C} {sg : Sg} {q : PPar} (W : POk K S H D sg q) (F : Frm K (mk7 q) H H') {c : C} (hn : c.nm ∉ nms D) (hrg : c.rg = []) {lb sd lo ll : Addr} {rv : V} {sgs : List (Str × Str)} {cu : List (Key × V)}
    (R : PRaw H' q (strL (nms D) ++ [.str c.nm]) (putK (D.map fun c => (.inr c.nm, .ref (q.bl c.nm))) (.inr c.nm) (.ref lb)) (putK (D.map fun c => (.inr c.nm, .bl c.ow)) (.inr c.nm) (.bl c.ow)) (putK (D.map fun c => (.inr c.nm, .ref (q.sl c.nm))) (.inr c.nm) (.ref sd)) cu (putK (D.map fun c => (.inr c.nm, .ref (q.ol c.nm))) (.inr c.nm) (.ref lo)) (putK (D.map fun c => (.inr c.nm, .ref (q.ll c.nm))) (.inr c.nm) (.ref ll)))
    (hcu : cu = (D ++ [c]).map fun d => (.inr d.nm, if d.nm = c.nm then rv else q.ru d.nm))
    (flb : ¬ Al H lb) (fsd : ¬ Al H sd) (flo : ¬ Al H lo) (fll : ¬ Al H ll) (hlb : H' lb = some (.lst (strL c.bs))) (hsd : H' sd = some (.dK (sgs.map fun z => (.inr z.1, .str z.2)))) (hrv : RuR H' rv c.hk c.pa) (hlo : H' lo = some (.lst (strL c.ln))) (hll : H' ll = some (.lst []))
    (n1 : ll ≠ lb) (n2 : ll ≠ lo) (sl : S ll) : POk K S H' (D ++ [c]) (fun x => if x = c.nm then sgs else sg x) (mkPP q c.nm lb sd lo ll rv) := by
  have old : ∀ {d : C}, d ∈ D → d.nm ≠ c.nm := fun hd z => hn (List.mem_map.mpr ⟨_, hd, z⟩)
  have mem : ∀ {d : C}, d ∈ D ++ [c] → d ∈ D ∨ d = c := fun hd => (List.mem_append.mp hd).imp id (fun z => by simpa using z)
  have ta : ∀ {b : Addr}, Al H b → (mkPP q c.nm lb sd lo ll rv).τ b = q.τ b := fun {b} hb => by
    show (if b = ll then 8 else if b = lb then 9 else if b = lo then 9 else if b = sd then 11 else q.τ b) = q.τ b
    rw [if_neg (ne_fresh hb fll), if_neg (ne_fresh hb flb), if_neg (ne_fresh hb flo), if_neg (ne_fresh hb fsd)]
  have nsd : ∀ {xs : List V} {b : Addr}, H' b = some (.lst xs) → sd ≠ b := fun h z => by
    rw [z, h] at hsd
    cases hsd
  have nm : ∀ {b : Addr} {i : Nat}, q.τ b = i → 8 ≤ i → ¬ mk7 q b := fun {b i} h n' z => by
    rcases z with z | z | z | z | z | z | z <;> rw [z] at h
    · rw [W.tn] at h; omega
    · rw [W.tb] at h; omega
    · rw [W.tw] at h; omega
    · rw [W.ts] at h; omega
    · rw [W.tu] at h; omega
    · rw [W.to] at h; omega
    · rw [W.tl] at h; omega
  have ite_o : ∀ {α : Type} {d : C} {x y : α}, d ∈ D → (if d.nm = c.nm then x else y) = y := fun hd => if_neg (old hd)
  have ite_n : ∀ {α : Type} {x y : α}, (if c.nm = c.nm then x else y) = x := if_pos rfl
  refine { p_ := R.p, nl_ := ?_, db_ := ?_, dw_ := ?_, ds_ := ?_, du_ := ?_, do_ := ?_, dl_ := ?_, b_ := ?_, s_ := ?_, r_ := ?_, o_ := ?_, l_ := ?_, li := ?_, tp := (ta (al_of W.p_ (nt_dK _))).trans W.tp, tn := (ta (al_of W.nl_ (nt_lst _))).trans W.tn, tb := (ta (al_of W.db_ (nt_dK _))).trans W.tb, tw := (ta (al_of W.dw_ (nt_dK _))).trans W.tw, ts := (ta (al_of W.ds_ (nt_dK _))).trans W.ts, tu := (ta (al_of W.du_ (nt_dK _))).trans W.tu, to := (ta (al_of W.do_ (nt_dK _))).trans W.to, tl := (ta (al_of W.dl_ (nt_dK _))).trans W.tl, tll := ?_, tbl := ?_, tol := ?_, tsl := ?_, sn := W.sn, sb := W.sb, sw_ := W.sw_, ss := W.ss, su := W.su, so := W.so, sl_ := W.sl_, sll := ?_ }
  · have := R.nl
    unfold nms
    rw [List.map_append, strL_append]
    exact this
  · rw [← put_new (fun c => V.ref (q.bl c.nm)) (fun d => V.ref (if d.nm = c.nm then lb else q.bl d.nm)) hn (.ref lb) c rfl (fun d hd => by rw [ite_o hd]) (by rw [ite_n])]
    exact R.db
  · rw [← put_new (fun c => V.bl c.ow) (fun d => V.bl d.ow) hn (.bl c.ow) c rfl (fun d hd => rfl) rfl]
    exact R.dw
  · rw [← put_new (fun c => V.ref (q.sl c.nm)) (fun d => V.ref (if d.nm = c.nm then sd else q.sl d.nm)) hn (.ref sd) c rfl (fun d hd => by rw [ite_o hd]) (by rw [ite_n])]
    exact R.ds
  · have := R.du
    rw [hcu] at this
    exact this
  · rw [← put_new (fun c => V.ref (q.ol c.nm)) (fun d => V.ref (if d.nm = c.nm then lo else q.ol d.nm)) hn (.ref lo) c rfl (fun d hd => by rw [ite_o hd]) (by rw [ite_n])]
    exact R.dor
  · rw [← put_new (fun c => V.ref (q.ll c.nm)) (fun d => V.ref (if d.nm = c.nm then ll else q.ll d.nm)) hn (.ref ll) c rfl (fun d hd => by rw [ite_o hd]) (by rw [ite_n])]
    exact R.dl
  · intro d hd
    rcases mem hd with z | z
    · show H' (if d.nm = c.nm then lb else q.bl d.nm) = _
      rw [ite_o z]
      exact F.lst (W.b_ d z) (nm (W.tbl d z) (by decide))
    · subst z
      show H' (if d.nm = d.nm then lb else q.bl d.nm) = _
      rw [ite_n]
      exact hlb
  · intro d hd
    rcases mem hd with z | z
    · show H' (if d.nm = c.nm then sd else q.sl d.nm) = some (.dK ((if d.nm = c.nm then sgs else sg d.nm).map _))
      rw [ite_o z, ite_o z]
      exact F.dK (W.s_ d z) (nm (W.tsl d z) (by decide))
    · subst z
      show H' (if d.nm = d.nm then sd else q.sl d.nm) = some (.dK ((if d.nm = d.nm then sgs else sg d.nm).map _))
      rw [ite_n, ite_n]
      exact hsd
  · intro d hd
    rcases mem hd with z | z
    · show RuR H' (if d.nm = c.nm then rv else q.ru d.nm) _ _
      rw [ite_o z]
      exact (W.r_ d z).frm F
    · subst z
      show RuR H' (if d.nm = d.nm then rv else q.ru d.nm) _ _
      rw [ite_n]
      exact hrv
  · intro d hd
    rcases mem hd with z | z
    · show H' (if d.nm = c.nm then lo else q.ol d.nm) = _
      rw [ite_o z]
      exact F.lst (W.o_ d z) (nm (W.tol d z) (by decide))
    · subst z
      show H' (if d.nm = d.nm then lo else q.ol d.nm) = _
      rw [ite_n]
      exact hlo
  · intro d hd
    rcases mem hd with z | z
    · show H' (if d.nm = c.nm then ll else q.ll d.nm) = _
      rw [ite_o z]
      exact F.lst (W.l_ d z) (nm (W.tll d z) (by decide))
    · subst z
      show H' (if d.nm = d.nm then ll else q.ll d.nm) = _
      rw [ite_n, hrg]
      exact hll
  · intro d hd d' hd'
    have al : ∀ {d : C}, d ∈ D → q.ll d.nm ≠ ll := fun hd => ne_fresh (al_of (W.l_ _ hd) (nt_lst _)) fll
    show (if d.nm = c.nm then ll else q.ll d.nm) = (if d'.nm = c.nm then ll else q.ll d'.nm) → _
    rcases mem hd with z | z <;> rcases mem hd' with z' | z'
    · rw [ite_o z, ite_o z']
      exact W.li d z d' z'
    · rw [ite_o z, z', ite_n]
      exact fun y => (al z y).elim
    · rw [ite_o z', z, ite_n]
      exact fun y => (al z' y.symm).elim
    · rw [z, z']
      exact fun _ => rfl
  · intro d hd
    rcases mem hd with z | z
    · show (mkPP q c.nm lb sd lo ll rv).τ (if d.nm = c.nm then ll else q.ll d.nm) = 8
      rw [ite_o z, ta (al_of (W.l_ d z) (nt_lst _))]
      exact W.tll d z
    · subst z
      show (mkPP q d.nm lb sd lo ll rv).τ (if d.nm = d.nm then ll else q.ll d.nm) = 8
      rw [ite_n]
      exact if_pos rfl
  · intro d hd
    rcases mem hd with z | z
    · show (mkPP q c.nm lb sd lo ll rv).τ (if d.nm = c.nm then lb else q.bl d.nm) = 9
      rw [ite_o z, ta (al_of (W.b_ d z) (nt_lst _))]
      exact W.tbl d z
    · subst z
      show (mkPP q d.nm lb sd lo ll rv).τ (if d.nm = d.nm then lb else q.bl d.nm) = 9
      rw [ite_n]
      exact (if_neg n1.symm).trans (if_pos rfl)
  · intro d hd
    rcases mem hd with z | z
    · show (mkPP q c.nm lb sd lo ll rv).τ (if d.nm = c.nm then lo else q.ol d.nm) = 9
      rw [ite_o z, ta (al_of (W.o_ d z) (nt_lst _))]
      exact W.tol d z
    · subst z
      show (mkPP q d.nm lb sd lo ll rv).τ (if d.nm = d.nm then lo else q.ol d.nm) = 9
      rw [ite_n]
      refine (if_neg n2.symm).trans ?_
      split
      · rfl
      · exact if_pos rfl
  · intro d hd
    rcases mem hd with z | z
    · show (mkPP q c.nm lb sd lo ll rv).τ (if d.nm = c.nm then sd else q.sl d.nm) = 11
      rw [ite_o z, ta (al_of (W.s_ d z) (nt_dK _))]
      exact W.tsl d z
    · subst z
      show (mkPP q d.nm lb sd lo ll rv).τ (if d.nm = d.nm then sd else q.sl d.nm) = 11
      rw [ite_n]
      exact (((if_neg (nsd hll)).trans (if_neg (nsd hlb))).trans (if_neg (nsd hlo))).trans (if_pos rfl)
  · intro d hd
    rcases mem hd with z | z
    · show S (if d.nm = c.nm then ll else q.ll d.nm)
      rw [ite_o z]
      exact W.sll d z
    · subst z
      show S (if d.nm = d.nm then ll else q.ll d.nm)
      rw [ite_n]
      exact sl
end ST
set_option maxHeartbeats 4000000
namespace ST
open PySem PySem.Spec PyProof.Rows L2
open LamX (CodeO Tabs TabB)
theorem paired_eqm {α : Type} {f : α → V} {acc : List V} {bs : List α} (pr : Paired (fun (y : V) (z : α) => y = f z) acc bs) : acc = bs.map f := by
  induction pr with
  | nil => rfl
  | cons h _ ih => rw [h, ih]; rfl
theorem PRaw.nmk {H : Hp} {q : PPar} {ns : List V} {cb cw cs cu co cl : List (Key × V)} (R : PRaw H q ns cb cw cs cu co cl) {b : Addr} (h : ¬ Al H b) : ¬ mk7 q b := fun z => by
  rcases z with z | z | z | z | z | z | z <;> rw [z] at h
  · exact h (al_of R.nl (nt_lst _))
  · exact h (al_of R.db (nt_dK _))
  · exact h (al_of R.dw (nt_dK _))
  · exact h (al_of R.ds (nt_dK _))
  · exact h (al_of R.du (nt_dK _))
  · exact h (al_of R.dor (nt_dK _))
  · exact h (al_of R.dl (nt_dK _))
theorem putK_last {D : List C} {n : Str} (f : C → V) (hn : n ∉ nms D) (c : C) (hc : c.nm = n) (v : V) : putK ((D ++ [c]).map fun d => ((.inr d.nm : Key), f d)) (.inr n) v = D.map (fun d => ((.inr d.nm : Key), f d)) ++ [(.inr n, v)] := by
  have e : ((D ++ [c]).map fun d => ((.inr d.nm : Key), f d)).any (fun kv => decide (kv.1 = (.inr n : Key))) = true := by
    rw [List.any_eq_true]
    refine ⟨(.inr n, f c), ?_, decide_eq_true rfl⟩
    rw [List.map_append]
    refine List.mem_append_right _ ?_
    rw [← hc]
    exact List.mem_singleton.mpr rfl
  unfold putK
  rw [e, if_pos rfl, List.map_map, List.map_append]
  congr 1
  · refine List.map_congr_left fun d hd => ?_
    show (if (Sum.inr d.nm : Key) = .inr n then _ else _) = _
    exact if_neg fun z => hn (List.mem_map.mpr ⟨d, hd, Sum.inr.inj z⟩)
  · show [if (Sum.inr c.nm : Key) = .inr n then _ else _] = _
    rw [if_pos (by rw [hc])]
    show [((Sum.inr c.nm : Key), v)] = _
    rw [hc]
section
variable {P : Program} {w : World} {K : PySem.W.Frag} {mg : Str → Option Value} {base : Heap}
def spLMk (K : PySem.W.Frag) : Sp := fun vs H Q _ => ∃ (S : Addr → Prop) (D : List C) (sg : Sg) (q : PPar) (n : Str) (bs : List Str) (ow : Bool) (ba sa : Addr) (sgs : List (Str × Str)) (rv : V) (hk : Option Hk) (pa : Bool), vs = [.ref q.p, .str n, .ref ba, .bl ow, .ref sa, rv] ∧
  POk K S H D sg q ∧ Wf D ∧ D.length ≤ 10 ∧ n ∉ nms D ∧ H ba = some (.lst (strL bs)) ∧ (∀ b ∈ bs, b ∈ nms D) ∧ bs.length ≤ 3 ∧ H sa = some (.dK (sgs.map fun z => (.inr z.1, .str z.2))) ∧ ¬ mk7 q ba ∧ ¬ mk7 q sa ∧ RuR H rv hk pa ∧ (∀ b, ¬ Al H b → S b) ∧ Wf (D ++ [baseC D n bs ow]) ∧ (∀ c ∈ D, c.ln.length ≤ 50) ∧
  ∀ H' q', Frm K S H H' → q'.p = q.p → POk K S H' (D ++ [newC D n bs ow hk pa]) (fun x => if x = n then sgs else sg x) q' → Q .non H'
theorem ok_law_make (T : Tx K mg) : FnOk P w K mg base CX0 2 (He.fAd K d_law_make.at_) (fdOf K (He.fAd K d_law_make.at_)) ["_law_plain", "_law_name", "_law_bases", "_law_oath", "_law_signs", "_law_rule"] (spLMk K) := by
  refine (F_law_make T).ok sc_law_make (fun vs H Q E h => ?_) (fun cdv A outer s H vs Q E hr h => ?_)
  · obtain ⟨_, _, _, _, _, _, _, _, _, _, _, _, _, rfl, _⟩ := h
    rfl
  · obtain ⟨S, D, sg, q, n, bs, ow, ba, sa, sgs, rv, hk, pa, rfl, W, wf, hD, hn, hba, hbs, hbl, hsa, nba, nsa, hrv, hS, wfb, hln, k⟩ := h
    have hu := hu_of hr
    refine ⟨_, PSs.nox (pss_cons (ps_set (i := 6) (sc_law_make).nd rfl (Or.inl rfl) (pe_op op_cat (pe_lc (own := [("_law_base", 8)]) (g := gName 8) (tt := tYes) rfl (sc_law_make).nd (i_list (K := K) rfl (pv 2)) (blkOk_by (by kernel_rfl)) (fun _ _ _ _ _ => (pg_name (i := 8) (sc_law_make).nd rfl (by first | exact Or.inl rfl | exact Or.inr rfl))) (fun _ _ _ _ _ => pts_nil) (fun _ _ _ _ _ => (pe_dget hu (pe_dget hu (pv 0) pe_str (fun _ _ => rfl)) (pv 8) (fun _ _ => rfl)))) (pe_lst (pa_cons (pv 2) pa_nil))))
    (pss_cons (ps_set (i := 7) (sc_law_make).nd rfl (Or.inl rfl) (pe_call (ok_law_merge T) (hr.mono (by decide)) rfl (g_law_merge T) (F_law_merge T).kp (b_law_merge T) .nil pass0 (pa_cons (pv 6) pa_nil)))
    (pss_cons (ps_if (pt_cmpR op_isN (pv 7) pe_non (nomark _)) (pss_one (ps_par (i := 2) (j := 7) rfl (sc_law_make).nd rfl rfl (by decide) rfl rfl (pa_cons (pe_slice (l_l (K := K) rfl) (pv 2) po_none (po_some pe_int)) (pa_cons (pe_dget hu (pe_dget hu (pv 0) pe_str (fun _ _ => rfl)) (pe_ix (x_l (K := K) rfl) (pv 2) pe_int (fun _ _ => rfl)) (fun _ _ => rfl)) pa_nil)) rfl)) pss_nil)
    (pss_cons (ps_expr (w_append (K := K) rfl (pe_dget hu (pv 0) pe_str (fun _ _ => rfl)) (pv 1)))
    (pss_cons (ps_dput hu (pe_dget hu (pv 0) pe_str (fun _ _ => rfl)) (pv 1) (pe_callTy (k_list (K := K) rfl) (by rfl) (z_list T) (by decide +kernel) (pa_cons (pv 2) pa_nil)) rfl)
    (pss_cons (ps_dput hu (pe_dget hu (pv 0) pe_str (fun _ _ => rfl)) (pv 1) (pv 3) rfl)
    (pss_cons (ps_dput hu (pe_dget hu (pv 0) pe_str (fun _ _ => rfl)) (pv 1) (pe_callTy k_dictD (by rfl) (z_dict T) (by decide +kernel) (pa_cons (pv 4) pa_nil)) rfl)
    (pss_cons (ps_dput hu (pe_dget hu (pv 0) pe_str (fun _ _ => rfl)) (pv 1) (pe_op op_cat (pe_lst (pa_cons (pv 1) pa_nil)) (pv 7)) rfl)
    (pss_cons (ps_dput hu (pe_dget hu (pv 0) pe_str (fun _ _ => rfl)) (pv 1) (pe_lst pa_nil) rfl)
    (pss_cons (ps_dput hu (pe_dget hu (pv 0) pe_str (fun _ _ => rfl)) (pv 1) pe_non rfl)
    (pss_one (ps_if (pt_val (pe_call (ok_law_sworn T) (hr.mono (by decide)) rfl (g_law_sworn T) (F_law_sworn T).kp (b_law_sworn T) .nil pass0 (pa_cons (pv 0) (pa_cons (pv 1) pa_nil)))) (pss_one (ps_dput hu (pe_dget hu (pv 0) pe_str (fun _ _ => rfl)) (pv 1) (pv 5) rfl)) pss_nil)))))))))))), ?_⟩
    refine ⟨_, rfl, ba, rfl, ⟨_, .of hba⟩, ?_⟩
    refine lcS (K := K) walk_list (fun _ _ (y : V) (z : Str) => y = .ref (q.ol z)) (fun x => some x) (fun _ _ _ _ _ _ h => h) (fun H e => ext_l e (.of hba)) (Nat.le_trans hbl (by decide)) (fun x hx H3 DD e3 fD aD N0 N1 h0 h1 => ?_) (fun DD acc H3 fD e3 hDD pr => ?_)
    · have W3 := W.ext e3
      exact ⟨rfl, _, rfl, q.p, _, rfl, W3.kO, _, rfl, q.dor, _, rfl, W3.gO (hbs x hx), h1 x rfl _ _ .refl rfl⟩
    rw [List.filterMap_eq_map', List.map_id'] at pr
    have eacc := paired_eqm pr
    subst eacc
    clear pr
    refine ⟨_, rfl, Nat.le_of_ble_eq_true rfl, fun t ht => ?_⟩
    have e4 : Ext K H3 (upd H3 t (.lst [.ref ba])) := .new ht (nt_lst _)
    refine ⟨DD, t, _, _, rfl, rfl, e4.at hDD (nt_lst _), upd_same, ?_, fun p hp => ?_⟩
    · rw [List.length_map]
      exact Nat.le_trans (show bs.length + 1 ≤ 10 by omega) (by decide)
    have e5 := (e3.trans e4).trans (Frm.new hp (nt_lst (bs.map (fun b => V.ref (q.ol b)) ++ [.ref ba])))
    have hp5 : (upd (upd H3 t (.lst [.ref ba])) p (.lst (bs.map (fun b => V.ref (q.ol b)) ++ [.ref ba]))) p = some (.lst (bs.map (fun b => V.ref (q.ol b)) ++ [.ref ba])) := upd_same
    generalize upd (upd H3 t (.lst [.ref ba])) p (.lst (bs.map (fun b => V.ref (q.ol b)) ++ [.ref ba])) = H5 at e5 hp5
    clear e3 fD hDD ht e4 hp
    have W5 := W.ext e5
    have hba5 := e5.at hba (nt_lst _)
    have hLs : LsR H5 (bs.map q.ol ++ [ba]) ((bs.map fun b => (at_ D b).ln) ++ [bs]) := by
      refine paired_append ?_ (.cons hba5 .nil)
      have : ∀ xs : List Str, (∀ b ∈ xs, b ∈ nms D) → Paired (fun (r : Addr) (l : List Str) => H5 r = some (.lst (strL l))) (xs.map q.ol) (xs.map fun b => (at_ D b).ln) := fun xs => by
        induction xs with
        | nil => exact fun _ => .nil
        | cons x r ih => exact fun hx => .cons (W5.o (hx x (List.mem_cons_self ..))) (ih fun b hb => hx b (List.mem_cons_of_mem _ hb))
      exact this bs hbs
    have hl50 : ∀ l ∈ (bs.map fun b => (at_ D b).ln) ++ [bs], l.length ≤ 50 := fun l hl => by
      rcases List.mem_append.mp hl with z | z
      · obtain ⟨b, hb, rfl⟩ := List.mem_map.mp z
        exact hln _ (at_mem (hbs b hb)).1
      · rw [List.mem_singleton.mp z]
        omega
    have hfl : ((bs.map fun b => (at_ D b).ln) ++ [bs]).flatten.length ≤ 4 * 50 := by
      rw [← List.flatMap_id]
      refine Nat.le_trans (flat_len _ 50 _ hl50) ?_
      rw [List.length_append, List.length_map]
      exact Nat.mul_le_mul_right _ (by show bs.length + 1 ≤ 4; omega)
    refine ⟨_, rfl, p, bs.map q.ol ++ [ba], _, 1000, rfl, by rw [hp5, List.map_append, List.map_map]; rfl, hLs, ?_, fun l hl => Nat.le_trans (hl50 l hl) (by decide), by omega, by omega, fun hm H6 e6 => ?_, fun r hm ra H6 e6 fra hra => ?_⟩
    · rw [List.length_append, List.length_map]
      show bs.length + 1 ≤ 100
      omega
    case' refine_2 =>
      -- no order: the first base alone
      have hm' : mrgD D bs = none := hm
      have ebs : bsD D bs = bs.take 1 := by unfold bsD; rw [hm']; rfl
      have ers : restD D bs = (at_ D (bs.headD "")).ln := by unfold restD; rw [hm']; rfl
      obtain ⟨b0, br, hb0⟩ : ∃ b0 br, bs = b0 :: br := by
        cases bs with
        | nil => cases hm
        | cons x r => exact ⟨x, r, rfl⟩
      have hb0m : b0 ∈ nms D := hbs b0 (by rw [hb0]; exact List.mem_cons_self ..)
      have hba6 := e6.at hba5 (nt_lst _)
      have W6 := W5.ext e6
      refine ⟨_, rfl, rfl, _, rfl, ?_⟩
      refine iteT ⟨_, rfl, 1, rfl, ba, _, rfl, .inl (.of hba6), fun s1 hs1 => ?_⟩
      have e7 : Ext K H6 (upd H6 s1 (.lst (cutV (strL bs) none (some 1)))) := .new hs1 (nt_lst _)
      have W7 := W6.ext e7
      have hba7 := e7.at hba6 (nt_lst _)
      refine ⟨_, rfl, q.p, _, rfl, W7.kO, _, rfl, ba, _, 0, .str b0, rfl, rfl, .inl (.of hba7), (by rw [hb0]; exact at0 _ _), q.dor, _, rfl, W7.gO hb0m, _, _, rfl, ?_⟩
      have hs7 : (upd H6 s1 (.lst (cutV (strL bs) none (some 1)))) s1 = some (.lst (strL (bsD D bs))) := by
        rw [upd_same, show (1 : Int) = ((1 : Nat) : Int) from rfl, cutTo, ebs]
        unfold strL
        rw [List.map_take]
      have hr7 : (upd H6 s1 (.lst (cutV (strL bs) none (some 1)))) (q.ol b0) = some (.lst (strL (restD D bs))) := by
        rw [W7.o hb0m, ers, hb0]
        rfl
      have ns1 : ¬ mk7 q s1 := fun z => by
        have f := fresh_of (e5.trans e6) hs1
        rcases z with z | z | z | z | z | z | z <;> rw [z] at f
        · exact f (al_of W.nl_ (nt_lst _))
        · exact f (al_of W.db_ (nt_dK _))
        · exact f (al_of W.dw_ (nt_dK _))
        · exact f (al_of W.ds_ (nt_dK _))
        · exact f (al_of W.du_ (nt_dK _))
        · exact f (al_of W.do_ (nt_dK _))
        · exact f (al_of W.dl_ (nt_dK _))
      have nr7 : ¬ mk7 q (q.ol b0) := fun z => by
        have t9 := W.tol _ (at_mem hb0m).1
        rw [(at_mem hb0m).2] at t9
        rcases z with z | z | z | z | z | z | z <;> rw [z] at t9
        · rw [W.tn] at t9; cases t9
        · rw [W.tb] at t9; cases t9
        · rw [W.tw] at t9; cases t9
        · rw [W.ts] at t9; cases t9
        · rw [W.tu] at t9; cases t9
        · rw [W.to] at t9; cases t9
        · rw [W.tl] at t9; cases t9
      have e57 := (e5.trans e6).trans e7
      generalize hH7 : upd H6 s1 (.lst (cutV (strL bs) none (some 1))) = H7 at e57 hs7 hr7 ⊢
    case' refine_3 =>
      have hm' : mrgD D bs = some r := hm
      have ebs : bsD D bs = bs := by unfold bsD; rw [hm']; rfl
      have ers : restD D bs = r := by unfold restD; rw [hm']; rfl
      refine ⟨_, rfl, rfl, _, rfl, ?_⟩
      refine iteF ?_
      have hs7 : H6 ba = some (.lst (strL (bsD D bs))) := by rw [ebs]; exact e6.at hba5 (nt_lst _)
      have hr7 : H6 ra = some (.lst (strL (restD D bs))) := by rw [ers]; exact hra
      have ns1 := nba
      have nr7 : ¬ mk7 q ra := fun z => by
        have f := fresh_back e5 fra
        rcases z with z | z | z | z | z | z | z <;> rw [z] at f
        · exact f (al_of W.nl_ (nt_lst _))
        · exact f (al_of W.db_ (nt_dK _))
        · exact f (al_of W.dw_ (nt_dK _))
        · exact f (al_of W.ds_ (nt_dK _))
        · exact f (al_of W.du_ (nt_dK _))
        · exact f (al_of W.do_ (nt_dK _))
        · exact f (al_of W.dl_ (nt_dK _))
      have e57 := e5.trans e6
      generalize hH7 : H6 = H7 at e57 hs7 hr7 ⊢
    all_goals
      have R7 := (W.ext e57).raw
      have tg := W.tag
      have sa7 := e57.at hsa (nt_dK _)
      have F7 : Frm K (mk7 q) H H7 := e57.of
      -- the names
      refine ⟨_, rfl, q.p, _, rfl, R7.kN, .inl ⟨rfl, _, .of R7.nl⟩, _, rfl, q.nl, _, _, rfl, rfl, R7.nl, ?_, ?_⟩
      · rw [strL_length, List.length_map]
        exact Nat.lt_of_le_of_lt hD (by decide)
      have R8 := R7.setN tg (strL (nms D) ++ [.str n])
      have g8 : Frm K (mk7 q) H7 (upd H7 q.nl (.lst (strL (nms D) ++ [.str n]))) := .mut R7.nl trivial (.inl rfl) (nt_lst _)
      generalize upd H7 q.nl (.lst (strL (nms D) ++ [.str n])) = H8 at R8 g8
      have F8 := F7.trans g8
      -- the bases
      refine ⟨_, rfl, _, _, rfl, .inl (.inl (.of (g8.lst hs7 ns1))), fun lb hlb => ?_⟩
      have lD : ∀ (f : C → V), (D.map fun c => ((.inr c.nm : Key), f c)).length < sizeLine := fun f => by
        rw [List.length_map]
        exact Nat.lt_of_le_of_lt hD (by decide)
      have flb : ¬ Al H lb := fresh_of F8 hlb
      have mlb := R8.nmk (fresh_none hlb)
      have e9 : Ext K H8 (upd H8 lb (.lst (strL (bsD D bs)))) := .new hlb (nt_lst _)
      have R9 := R8.ext e9
      have b9 : (upd H8 lb (.lst (strL (bsD D bs)))) lb = some (.lst (strL (bsD D bs))) := upd_same
      refine ⟨_, rfl, q.p, _, rfl, R9.kB, _, rfl, q.db, _, rfl, DPut.k (k := .inr n) R9.db (lD _), ?_⟩
      have R10 := R9.setB tg (putK (D.map fun c => ((.inr c.nm : Key), V.ref (q.bl c.nm))) (.inr n) (.ref lb))
      have g10 : Frm K (mk7 q) (upd H8 lb (.lst (strL (bsD D bs)))) (upd (upd H8 lb (.lst (strL (bsD D bs)))) q.db (.dK (putK (D.map fun c => ((.inr c.nm : Key), V.ref (q.bl c.nm))) (.inr n) (.ref lb)))) := .mut R9.db trivial (.inr (.inl rfl)) (nt_dK _)
      have b10 := g10.lst b9 mlb
      have F10 := (F8.trans e9.of).trans g10
      have g10' := g8.trans (e9.of.trans g10)
      generalize upd (upd H8 lb (.lst (strL (bsD D bs)))) q.db (.dK (putK (D.map fun c => ((.inr c.nm : Key), V.ref (q.bl c.nm))) (.inr n) (.ref lb))) = H10 at R10 b10 F10 g10' ⊢
      clear g10 b9 R9 e9
      -- own
      refine ⟨_, rfl, _, rfl, q.p, _, rfl, R10.kW, _, rfl, q.dw, _, rfl, DPut.k (k := .inr n) R10.dw (lD _), ?_⟩
      have R11 := R10.setW tg (putK (D.map fun c => ((.inr c.nm : Key), V.bl c.ow)) (.inr n) (.bl ow))
      have g11 : Frm K (mk7 q) H10 (upd H10 q.dw (.dK (putK (D.map fun c => ((.inr c.nm : Key), V.bl c.ow)) (.inr n) (.bl ow)))) := .mut R10.dw trivial (.inr (.inr (.inl rfl))) (nt_dK _)
      generalize upd H10 q.dw (.dK (putK (D.map fun c => ((.inr c.nm : Key), V.bl c.ow)) (.inr n) (.bl ow))) = H11 at R11 g11 ⊢
      have b11 := g11.lst b10 mlb
      have F11 := F10.trans g11
      have g11' := g10'.trans g11
      -- signs
      refine ⟨_, rfl, sa, _, rfl, .of (g11'.dK sa7 nsa), fun sd hsd => ?_⟩
      have fsd : ¬ Al H sd := fresh_of F11 hsd
      have msd := R11.nmk (fresh_none hsd)
      have e12 : Ext K H11 (upd H11 sd (.dK (sgs.map fun z => ((.inr z.1 : Key), V.str z.2)))) := .new hsd (nt_dK _)
      have d12 : (upd H11 sd (.dK (sgs.map fun z => ((.inr z.1 : Key), V.str z.2)))) sd = some (.dK (sgs.map fun z => ((.inr z.1 : Key), V.str z.2))) := upd_same
      have R12 := R11.ext e12
      have b12 := e12.at b11 (nt_lst _)
      refine ⟨_, rfl, q.p, _, rfl, R12.kS, _, rfl, q.ds, _, rfl, DPut.k (k := .inr n) R12.ds (lD _), ?_⟩
      have R13 := R12.setS tg (putK (D.map fun c => ((.inr c.nm : Key), V.ref (q.sl c.nm))) (.inr n) (.ref sd))
      have g13 : Frm K (mk7 q) (upd H11 sd (.dK (sgs.map fun z => ((.inr z.1 : Key), V.str z.2)))) (upd (upd H11 sd (.dK (sgs.map fun z => ((.inr z.1 : Key), V.str z.2)))) q.ds (.dK (putK (D.map fun c => ((.inr c.nm : Key), V.ref (q.sl c.nm))) (.inr n) (.ref sd)))) := .mut R12.ds trivial (.inr (.inr (.inr (.inl rfl)))) (nt_dK _)
      have b13 := g13.lst b12 mlb
      have d13 := g13.dK d12 msd
      have F13 := (F11.trans e12.of).trans g13
      have g13' := g11'.trans (e12.of.trans g13)
      generalize upd (upd H11 sd (.dK (sgs.map fun z => ((.inr z.1 : Key), V.str z.2)))) q.ds (.dK (putK (D.map fun c => ((.inr c.nm : Key), V.ref (q.sl c.nm))) (.inr n) (.ref sd))) = H13 at R13 b13 d13 F13 g13' ⊢
      clear g13 R12 e12 d12 b12
      -- order
      refine ⟨_, rfl, Nat.le_of_ble_eq_true rfl, fun t ht => ?_⟩
      have e14 : Ext K H13 (upd H13 t (.lst [.str n])) := .new ht (nt_lst _)
      have r14 := e14.at (g13'.lst hr7 nr7) (nt_lst _)
      refine ⟨_, rfl, t, _, _, _, rfl, rfl, upd_same, r14, ?_, fun lo hlo => ?_⟩
      · rw [strL_length]
        have := (wfb.ln _ (List.mem_append_right _ (List.mem_singleton.mpr rfl))).2
        have this : (restD D bs).length + 1 ≤ 50 := this
        exact Nat.le_trans (show 1 + (restD D bs).length ≤ 50 by omega) (by decide)
      have e15 := e14.trans (Frm.new hlo (nt_lst ([.str n] ++ strL (restD D bs))))
      have o15 : (upd (upd H13 t (.lst [.str n])) lo (.lst ([.str n] ++ strL (restD D bs)))) lo = some (.lst (strL (n :: restD D bs))) := upd_same
      have flo : ¬ Al H lo := fresh_of (F13.trans e14.of) hlo
      have mlo := R13.nmk (fresh_of e14 hlo)
      generalize upd (upd H13 t (.lst [.str n])) lo (.lst ([.str n] ++ strL (restD D bs))) = H15 at e15 o15 ⊢
      have R15 := R13.ext e15
      have b15 := e15.at b13 (nt_lst _)
      have d15 := e15.at d13 (nt_dK _)
      refine ⟨_, rfl, q.p, _, rfl, R15.kO, _, rfl, q.dor, _, rfl, DPut.k (k := .inr n) R15.dor (lD _), ?_⟩
      have R16 := R15.setO tg (putK (D.map fun c => ((.inr c.nm : Key), V.ref (q.ol c.nm))) (.inr n) (.ref lo))
      have g16 : Frm K (mk7 q) H15 (upd H15 q.dor (.dK (putK (D.map fun c => ((.inr c.nm : Key), V.ref (q.ol c.nm))) (.inr n) (.ref lo)))) := .mut R15.dor trivial (.inr (.inr (.inr (.inr (.inr (.inl rfl)))))) (nt_dK _)
      generalize upd H15 q.dor (.dK (putK (D.map fun c => ((.inr c.nm : Key), V.ref (q.ol c.nm))) (.inr n) (.ref lo))) = H16 at R16 g16 ⊢
      have b16 := g16.lst b15 mlb
      have d16 := g16.dK d15 msd
      have o16 := g16.lst o15 mlo
      have F16 := (F13.trans e15.of).trans g16
      clear g16 o15 d15 b15 e15 r14 e14
      -- lists
      refine ⟨Nat.zero_le _, fun ll hll => ?_⟩
      have fll : ¬ Al H ll := fresh_of F16 hll
      have mll := R16.nmk (fresh_none hll)
      have nl1 : ll ≠ lb := (ne_of_none b16 hll).symm
      have nl2 : ll ≠ lo := (ne_of_none o16 hll).symm
      have e17 : Ext K H16 (upd H16 ll (.lst [])) := .new hll (nt_lst _)
      have l17 : (upd H16 ll (.lst [])) ll = some (.lst []) := upd_same
      generalize upd H16 ll (.lst []) = H17 at e17 l17 ⊢
      have R17 := R16.ext e17
      refine ⟨_, rfl, q.p, _, rfl, R17.kL, _, rfl, q.dl, _, rfl, DPut.k (k := .inr n) R17.dl (lD _), ?_⟩
      have R18 := R17.setL tg (putK (D.map fun c => ((.inr c.nm : Key), V.ref (q.ll c.nm))) (.inr n) (.ref ll))
      have g18 : Frm K (mk7 q) H17 (upd H17 q.dl (.dK (putK (D.map fun c => ((.inr c.nm : Key), V.ref (q.ll c.nm))) (.inr n) (.ref ll)))) := .mut R17.dl trivial (.inr (.inr (.inr (.inr (.inr (.inr rfl)))))) (nt_dK _)
      generalize upd H17 q.dl (.dK (putK (D.map fun c => ((.inr c.nm : Key), V.ref (q.ll c.nm))) (.inr n) (.ref ll))) = H18 at R18 g18 ⊢
      have b18 := g18.lst (e17.at b16 (nt_lst _)) mlb
      have d18 := g18.dK (e17.at d16 (nt_dK _)) msd
      have o18 := g18.lst (e17.at o16 (nt_lst _)) mlo
      have l18 := g18.lst l17 mll
      have F18 := (F16.trans e17.of).trans g18
      -- rules
      refine ⟨_, rfl, q.p, _, rfl, R18.kU, _, rfl, q.du, _, rfl, DPut.k (k := .inr n) R18.du (lD _), ?_⟩
      have R19 := R18.setU tg (putK (D.map fun c => ((.inr c.nm : Key), q.ru c.nm)) (.inr n) .non)
      have g19 : Frm K (mk7 q) H18 (upd H18 q.du (.dK (putK (D.map fun c => ((.inr c.nm : Key), q.ru c.nm)) (.inr n) .non))) := .mut R18.du trivial (.inr (.inr (.inr (.inr (.inl rfl))))) (nt_dK _)
      generalize upd H18 q.du (.dK (putK (D.map fun c => ((.inr c.nm : Key), q.ru c.nm)) (.inr n) .non)) = H19 at R19 g19 ⊢
      have b19 := g19.lst b18 mlb
      have d19 := g19.dK d18 msd
      have o19 := g19.lst o18 mlo
      have l19 := g19.lst l18 mll
      have F19 := F18.trans g19
      have sll : S ll := hS _ fll
      have hcu : putK (D.map fun c => ((.inr c.nm : Key), q.ru c.nm)) (.inr n) .non = (D ++ [baseC D n bs ow]).map fun d : C => ((.inr d.nm : Key), if d.nm = n then V.non else q.ru d.nm) :=
        put_new (fun c => q.ru c.nm) (fun d => if d.nm = n then V.non else q.ru d.nm) hn .non (baseC D n bs ow) rfl (fun d hd => if_neg fun z => hn (List.mem_map.mpr ⟨d, hd, z⟩)) (if_pos rfl)
      have W19 : POk K S H19 (D ++ [baseC D n bs ow]) (fun x => if x = n then sgs else sg x) (mkPP q n lb sd lo ll .non) := W.make (c := baseC D n bs ow) F19 hn rfl R19 hcu flb fsd flo fll b19 d19 ⟨rfl, rfl⟩ o19 l19 nl1 nl2 sll
      refine ⟨_, rfl, _, rfl, S, D ++ [baseC D n bs ow], _, mkPP q n lb sd lo ll .non, n, rfl, W19, wfb, ?_, fun H20 e20 => ⟨_, rfl, ?_⟩⟩
      · show n ∈ (D ++ [baseC D n bs ow]).map (·.nm)
        rw [List.map_append]
        exact List.mem_append_right _ (List.mem_singleton.mpr rfl)
      have F20 := F19.trans e20.of
      have sub : ∀ b, mk7 q b → S b := fun b z => by
        rcases z with z | z | z | z | z | z | z <;> rw [z]
        · exact W.sn
        · exact W.sb
        · exact W.sw_
        · exact W.ss
        · exact W.su
        · exact W.so
        · exact W.sl_
      cases hsw : sw (D ++ [baseC D n bs ow]) n with
      | false =>
        refine iteF (k _ (mkPP q n lb sd lo ll .non) (F20.mono sub) rfl ?_)
        have : newC D n bs ow hk pa = baseC D n bs ow := by
          unfold newC swC
          rw [hsw]
          rfl
        rw [this]
        exact W19.ext e20
      | true =>
        have R20 := R19.ext e20
        refine iteT ⟨_, rfl, _, rfl, q.p, _, rfl, R20.kU, _, rfl, q.du, _, rfl, DPut.k (k := .inr n) R20.du ?_, ?_⟩
        · rw [hcu, List.length_map, List.length_append]
          exact Nat.lt_of_le_of_lt (show D.length + 1 ≤ 11 by omega) (by decide)
        have R21 := R20.setU tg (putK (putK (D.map fun c => ((.inr c.nm : Key), q.ru c.nm)) (.inr n) .non) (.inr n) rv)
        have g21 : Frm K (mk7 q) H20 (upd H20 q.du (.dK (putK (putK (D.map fun c => ((.inr c.nm : Key), q.ru c.nm)) (.inr n) .non) (.inr n) rv))) := .mut R20.du trivial (.inr (.inr (.inr (.inr (.inl rfl))))) (nt_dK _)
        generalize upd H20 q.du (.dK (putK (putK (D.map fun c => ((.inr c.nm : Key), q.ru c.nm)) (.inr n) .non) (.inr n) rv)) = H21 at R21 g21 ⊢
        have F21 := F20.trans g21
        have en : newC D n bs ow hk pa = { baseC D n bs ow with hk := hk, pa := pa } := by
          unfold newC swC
          rw [hsw]
          rfl
        have hcu2 : putK (putK (D.map fun c => ((.inr c.nm : Key), q.ru c.nm)) (.inr n) .non) (.inr n) rv = (D ++ [{ baseC D n bs ow with hk := hk, pa := pa }]).map fun d : C => ((.inr d.nm : Key), if d.nm = n then rv else q.ru d.nm) := by
          rw [hcu, putK_last (fun d : C => if d.nm = n then V.non else q.ru d.nm) hn _ rfl, List.map_append]
          congr 1
          · refine List.map_congr_left fun d hd => ?_
            have : ¬ d.nm = n := fun z => hn (List.mem_map.mpr ⟨d, hd, z⟩)
            rw [if_neg this, if_neg this]
          · show _ = [((.inr n : Key), if n = n then rv else q.ru n)]
            rw [if_pos rfl]
        refine k _ (mkPP q n lb sd lo ll rv) (F21.mono sub) rfl ?_
        rw [en]
        exact W.make (c := { baseC D n bs ow with hk := hk, pa := pa }) F21 hn rfl R21 hcu2 flb fsd flo fll (g21.lst (e20.at b19 (nt_lst _)) mlb) (g21.dK (e20.at d19 (nt_dK _)) msd) (hrv.frm F21) (g21.lst (e20.at o19 (nt_lst _)) mlo) (g21.lst (e20.at l19 (nt_lst _)) mll) nl1 nl2 sll
end
end ST
set_option maxHeartbeats 4000000
namespace ST
open PySem PySem.Spec PyProof.Rows L2
theorem at_app_old {D E : List C} {m : Str} (h : m ∈ nms D) : at_ (D ++ E) m = at_ D m := by
  have hs : (D.find? fun c => decide (c.nm = m)).isSome = true := by
    obtain ⟨c, hc, e⟩ := List.mem_map.mp h
    exact List.find?_isSome.mpr ⟨c, hc, by simpa using e⟩
  obtain ⟨d, hd⟩ := Option.isSome_iff_exists.mp hs
  unfold at_
  rw [List.find?_append, hd]
  rfl
theorem at_app_new {D : List C} {c : C} (h : c.nm ∉ nms D) : at_ (D ++ [c]) c.nm = c := by
  have hs : (D.find? fun d => decide (d.nm = c.nm)) = none := by
    rw [List.find?_eq_none]
    intro x hx z
    exact h (List.mem_map.mpr ⟨x, hx, by simpa using z⟩)
  unfold at_
  rw [List.find?_append, hs, Option.none_or, List.find?_cons, decide_eq_true rfl]
  rfl
def un (D : List C) : List C := D.map fun c => { c with rg := [] }
theorem nms_un (D : List C) : nms (un D) = nms D := by
  unfold un nms
  rw [List.map_map]
  rfl
theorem at_un {D : List C} {m : Str} (h : m ∈ nms D) : at_ (un D) m = { at_ D m with rg := [] } := by
  induction D with
  | nil => cases h
  | cons c r ih =>
    by_cases z : c.nm = m
    · have e1 : at_ (c :: r) m = c := by
        unfold at_
        rw [List.find?_cons, decide_eq_true z]
        rfl
      have e2 : at_ (un (c :: r)) m = { c with rg := [] } := by
        unfold at_ un
        rw [List.map_cons, List.find?_cons, decide_eq_true z]
        rfl
      rw [e1, e2]
    · have e1 : at_ (c :: r) m = at_ r m := by
        unfold at_
        rw [List.find?_cons, decide_eq_false z]
      have e2 : at_ (un (c :: r)) m = at_ (un r) m := by
        unfold at_ un
        rw [List.map_cons, List.find?_cons, decide_eq_false z]
      rw [e1, e2]
      exact ih ((List.mem_cons.mp h).resolve_left fun y => z y.symm)
theorem heads_mem {ls : List (List Str)} {h : Str} (hh : h ∈ heads ls) : ∃ l ∈ ls, h ∈ l := by
  obtain ⟨l, hl, e⟩ := List.mem_filterMap.mp hh
  exact ⟨l, hl, List.mem_of_head? e⟩
theorem mrg_mem : ∀ {k : Nat} {ls : List (List Str)} {r : List Str}, mrg k ls = some r → ∀ x ∈ r, ∃ l ∈ ls, x ∈ l
  | 0, _, _, h => by cases h
  | k + 1, ls, r, h => by
    unfold mrg at h
    split at h
    · cases h
      exact fun x hx => by cases hx
    · split at h
      · cases h
      · rename_i hd hh
        cases hm : mrg k (rmH hd ls) with
        | none => rw [hm] at h; cases h
        | some r' =>
          rw [hm] at h
          cases h
          intro x hx
          rcases List.mem_cons.mp hx with z | z
          · exact heads_mem (z ▸ List.mem_of_find?_eq_some hh)
          · obtain ⟨l, hl, hxl⟩ := mrg_mem hm x z
            obtain ⟨l', hl', e⟩ := List.mem_map.mp hl
            rw [← e] at hxl
            exact ⟨l', hl', (List.mem_filter.mp hxl).1⟩
theorem mrg_nodup : ∀ {k : Nat} {ls : List (List Str)} {r : List Str}, mrg k ls = some r → r.Nodup
  | 0, _, _, h => by cases h
  | k + 1, ls, r, h => by
    unfold mrg at h
    split at h
    · cases h
      exact List.nodup_nil
    · split at h
      · cases h
      · rename_i hd hh
        cases hm : mrg k (rmH hd ls) with
        | none => rw [hm] at h; cases h
        | some r' =>
          rw [hm] at h
          cases h
          refine List.nodup_cons.mpr ⟨fun hx => ?_, mrg_nodup hm⟩
          obtain ⟨l, hl, hxl⟩ := mrg_mem hm _ hx
          obtain ⟨l', hl', e⟩ := List.mem_map.mp hl
          rw [← e] at hxl
          have := (List.mem_filter.mp hxl).2
          simp at this
theorem mrg_one : ∀ {k : Nat} {r : List Str}, r.Nodup → r.length < k → mrg k [r, []] = some r
  | 0, _, _, h => absurd h (Nat.not_lt_zero _)
  | k + 1, [], _, _ => by
    unfold mrg
    exact if_pos rfl
  | k + 1, x :: r, nd, h => by
    have hx := (List.nodup_cons.mp nd).1
    have hd : mgHead [x :: r, []] = some x := by
      have e : heads [x :: r, []] = [x] := rfl
      unfold mgHead
      rw [e, List.find?_cons]
      have : canBe [x :: r, []] x = true := by
        show (decide (x ∉ r) && (decide (x ∉ ([] : List Str)) && true)) = true
        rw [decide_eq_true hx]
        rfl
      rw [this]
    have er : rmH x [x :: r, []] = [r, []] := by
      show [(x :: r).filter (fun n => decide (n ≠ x)), []] = [r, []]
      rw [List.filter_cons, if_neg (by simp)]
      congr 1
      exact List.filter_eq_self.mpr fun y hy => by
        have : y ≠ x := fun z => hx (by rw [← z]; exact hy)
        simpa using this
    unfold mrg
    rw [if_neg (by show ¬ ((x :: r) :: [] : List (List Str)) = []; simp), hd]
    show (mrg k (rmH x [x :: r, []])).map _ = _
    rw [er, mrg_one (List.nodup_cons.mp nd).2 (Nat.lt_of_succ_lt_succ h)]
    rfl
theorem mrg_two {k : Nat} {x : Str} {r : List Str} (nd : (x :: r).Nodup) (h : r.length < k) : mrg (k + 1) [x :: r, [x]] = some (x :: r) := by
  have hx := (List.nodup_cons.mp nd).1
  have hd : mgHead [x :: r, [x]] = some x := by
    have e : heads [x :: r, [x]] = [x, x] := rfl
    unfold mgHead
    rw [e, List.find?_cons]
    have : canBe [x :: r, [x]] x = true := by
      show (decide (x ∉ r) && (decide (x ∉ ([] : List Str)) && true)) = true
      rw [decide_eq_true hx]
      rfl
    rw [this]
  have er : rmH x [x :: r, [x]] = [r, []] := by
    show [(x :: r).filter (fun n => decide (n ≠ x)), [x].filter (fun n => decide (n ≠ x))] = [r, []]
    rw [List.filter_cons, if_neg (by simp), List.filter_cons, if_neg (by simp)]
    congr 1
    exact List.filter_eq_self.mpr fun y hy => by
        have : y ≠ x := fun z => hx (by rw [← z]; exact hy)
        simpa using this
  unfold mrg
  rw [if_neg (by show ¬ ((x :: r) :: [x] :: [] : List (List Str)) = []; simp), hd]
  show (mrg k (rmH x [x :: r, [x]])).map _ = _
  rw [er, mrg_one (List.nodup_cons.mp nd).2 h]
  rfl
inductive Mk (U : List Str) : List C → Prop where
  | nil : Mk U []
  | snoc {D : List C} {c : C} {rest : List Str} (m : Mk U D) (hn : c.nm ∉ nms D) (ok : nameOk c.nm) (hb : ∀ b ∈ c.bs, b ∈ nms D) (hnd : c.bs.Nodup) (h3 : c.bs.length ≤ 3)
      (hm : mrg 1000 ((c.bs.map fun b => (at_ D b).ln) ++ [c.bs]) = some rest) (hl : c.ln = c.nm :: rest) (hrg : c.rg = []) (hk : ∀ h, c.hk = some h → RlOk U h ∧ (c.ow = true ∨ ∃ b ∈ c.bs, sw D b = true)) (hp : c.hk = none → c.pa = false) : Mk U (D ++ [c])
section
variable {U : List Str} {D : List C}
theorem Mk.nd (m : Mk U D) : (nms D).Nodup := by
  induction m with
  | nil => exact List.nodup_nil
  | snoc m hn _ _ _ _ _ _ _ _ _ ih =>
    unfold nms at ih hn ⊢
    rw [List.map_append, List.nodup_append]
    refine ⟨ih, by simp, fun a ha b hb z => ?_⟩
    have hb := List.mem_singleton.mp hb
    rw [z.trans hb] at ha
    exact hn ha
/-- a line: own name first, no name twice, made names -/
theorem Mk.line (m : Mk U D) : ∀ c ∈ D, (∃ rest, c.ln = c.nm :: rest) ∧ c.ln.Nodup ∧ ∀ x ∈ c.ln, x ∈ nms D := by
  induction m with
  | nil => exact fun c hc => by cases hc
  | @snoc D c rest m hn ok hb hnd h3 hm hl hrg hk hp ih =>
    have up : ∀ {x : Str}, x ∈ nms D → x ∈ nms (D ++ [c]) := fun h => by
      unfold nms
      rw [List.map_append]
      exact List.mem_append_left _ h
    have hr : ∀ x ∈ rest, x ∈ nms D := fun x hx => by
      obtain ⟨l, hl, hxl⟩ := mrg_mem hm x hx
      rcases List.mem_append.mp hl with z | z
      · obtain ⟨b, hb', rfl⟩ := List.mem_map.mp z
        exact (ih _ (at_mem (hb b hb')).1).2.2 x hxl
      · rw [List.mem_singleton.mp z] at hxl
        exact hb x hxl
    intro d hd
    rcases List.mem_append.mp hd with z | z
    · obtain ⟨a, b, e⟩ := ih d z
      exact ⟨a, b, fun x hx => up (e x hx)⟩
    · have z : d = c := by simpa using z
      rw [z, hl]
      refine ⟨⟨rest, rfl⟩, List.nodup_cons.mpr ⟨fun y => hn (hr _ y), mrg_nodup hm⟩, fun x hx => ?_⟩
      rcases List.mem_cons.mp hx with y | y
      · rw [y]
        unfold nms
        rw [List.map_append]
        exact List.mem_append_right _ (by simp)
      · exact up (hr x y)
theorem Mk.hks (m : Mk U D) : ∀ c ∈ D, (∀ h, c.hk = some h → RlOk U h) ∧ c.rg = [] ∧ nameOk c.nm ∧ c.bs.Nodup ∧ c.bs.length ≤ 3 ∧ (∀ b ∈ c.bs, b ∈ nms D) := by
  induction m with
  | nil => exact fun c hc => by cases hc
  | @snoc D c rest m hn ok hb hnd h3 hm hl hrg hk hp ih =>
    have up : ∀ {x : Str}, x ∈ nms D → x ∈ nms (D ++ [c]) := fun h => by
      unfold nms
      rw [List.map_append]
      exact List.mem_append_left _ h
    intro d hd
    rcases List.mem_append.mp hd with z | z
    · obtain ⟨a, b, c', d', e, f⟩ := ih d z
      exact ⟨a, b, c', d', e, fun x hx => up (f x hx)⟩
    · have z : d = c := by simpa using z
      rw [z]
      exact ⟨fun h e => (hk h e).1, hrg, ok, hnd, h3, fun x hx => up (hb x hx)⟩
theorem Mk.wf (m : Mk U D) (hl : D.length ≤ 10) (hU : U.length ≤ 6) : Wf D where
  nd := m.nd
  len := by omega
  ln := fun c hc => ⟨(m.line c hc).2.2, by
    have := nodup_len (m.line c hc).2.1 (m.line c hc).2.2
    unfold nms at this
    rw [List.length_map] at this
    omega⟩
  rg := fun c hc => by
    rw [(m.hks c hc).2.1]
    exact ⟨fun m hm => (by cases hm), Nat.zero_le _⟩
  hk := fun c hc h e => by
    have := (m.hks c hc).1 h e
    exact ⟨by have := this.len; omega, fun q hq => by have := (this.q q hq).1; omega⟩
  me := ⟨U, hU, fun x hx => by
    obtain ⟨c, hc, hx⟩ := List.mem_flatMap.mp hx
    obtain ⟨q, hq, hx⟩ := List.mem_flatMap.mp hx
    cases hh : c.hk with
    | none => rw [hh] at hq; cases hq
    | some h =>
      rw [hh] at hq
      exact (((m.hks c hc).1 h hh).q q hq).2.2 x hx⟩
/-- one more, as the law makes it -/
theorem Mk.base (m : Mk U D) (hD : D.length ≤ 10) {n : Str} (hn : n ∉ nms D) (ok : nameOk n) {bs : List Str} (hb : ∀ b ∈ bs, b ∈ nms D) (hnd : bs.Nodup) (h3 : bs.length ≤ 3) (ow : Bool) :
    mrg 1000 (((bsD D bs).map fun b => (at_ D b).ln) ++ [bsD D bs]) = some (restD D bs) ∧ (∀ b ∈ bsD D bs, b ∈ bs) ∧ (bsD D bs).Nodup ∧ (bsD D bs).length ≤ 3 := by
  unfold bsD restD
  cases hm : mrgD D bs with
  | some r => exact ⟨hm, fun b hb => hb, hnd, h3⟩
  | none =>
    obtain ⟨b0, br, hb0⟩ : ∃ b0 br, bs = b0 :: br := by
      cases bs with
      | nil =>
        have e : mrgD D [] = some [] := by
          unfold mrgD mrg
          exact if_pos rfl
        rw [e] at hm
        cases hm
      | cons x r => exact ⟨x, r, rfl⟩
    subst hb0
    have hb0m := hb b0 (List.mem_cons_self ..)
    obtain ⟨⟨r, e⟩, hnd0, hin⟩ := m.line _ (at_mem hb0m).1
    rw [(at_mem hb0m).2] at e
    have hlen := nodup_len hnd0 hin
    unfold nms at hlen
    rw [e, List.length_map, List.length_cons] at hlen
    refine ⟨?_, fun b hb => List.mem_of_mem_take hb, List.Nodup.sublist (List.take_sublist 1 _) hnd, by show (List.take 1 (b0 :: br)).length ≤ 3; simp⟩
    show mrg 1000 [(at_ D b0).ln, [b0]] = some (at_ D b0).ln
    rw [e] at hnd0 ⊢
    exact mrg_two hnd0 (by omega)
theorem Mk.new (m : Mk U D) (hD : D.length ≤ 10) {n : Str} (hn : n ∉ nms D) (ok : nameOk n) {bs : List Str} (hb : ∀ b ∈ bs, b ∈ nms D) (hnd : bs.Nodup) (h3 : bs.length ≤ 3) (ow : Bool) {hk : Option Hk} {pa : Bool} (hhk : ∀ h, hk = some h → RlOk U h) (hpa : hk = none → pa = false) :
    Mk U (D ++ [newC D n bs ow hk pa]) := by
  obtain ⟨e1, e2, e3, e4⟩ := m.base hD hn ok hb hnd h3 ow
  unfold newC
  cases hs : swC D n bs ow with
  | false =>
    rw [if_neg (by decide)]
    exact .snoc (c := baseC D n bs ow) m hn ok (fun b h => hb b (e2 b h)) e3 e4 e1 rfl rfl (fun h e => by cases e) (fun _ => rfl)
  | true =>
    rw [if_pos rfl]
    refine .snoc (c := { baseC D n bs ow with hk := hk, pa := pa }) m hn ok (fun b h => hb b (e2 b h)) e3 e4 e1 rfl rfl (fun h e => ⟨hhk h e, ?_⟩) hpa
    unfold swC sw at hs
    have hnew : at_ (D ++ [baseC D n bs ow]) n = baseC D n bs ow := at_app_new (c := baseC D n bs ow) hn
    rw [hnew] at hs
    obtain ⟨x, hx, hox⟩ := List.any_eq_true.mp hs
    rcases List.mem_cons.mp hx with z | z
    · rw [z, hnew] at hox
      exact .inl hox
    · right
      obtain ⟨l, hl, hxl⟩ := mrg_mem e1 x z
      rcases List.mem_append.mp hl with y | y
      · obtain ⟨b, hb', rfl⟩ := List.mem_map.mp y
        have bm := hb b (e2 b hb')
        have xm := (m.line _ (at_mem bm).1).2.2 x hxl
        rw [at_app_old xm] at hox
        exact ⟨b, hb', List.any_eq_true.mpr ⟨x, hxl, hox⟩⟩
      · rw [List.mem_singleton.mp y] at hxl
        have xm := hb x (e2 x hxl)
        rw [at_app_old xm] at hox
        obtain ⟨⟨r, e⟩, _⟩ := m.line _ (at_mem xm).1
        rw [(at_mem xm).2] at e
        exact ⟨x, hxl, List.any_eq_true.mpr ⟨x, by rw [e]; exact List.mem_cons_self .., hox⟩⟩
end
end ST
set_option maxHeartbeats 4000000
namespace ST
open PySem PySem.Spec PyProof.Rows L2
open LamX (CodeO Tabs TabB)
theorem strL_ne_bag (xs : List Str) (d s c : Int) : strL xs ≠ [.int d, .int s, .int c] := fun z => by
  cases xs with
  | nil => cases z
  | cons x r => cases z
/-- the bag's change leaves the plain classes -/
theorem POk.bag {K : PySem.W.Frag} {S : Addr → Prop} {H H' : Hp} {D : List C} {sg : Sg} {q : PPar} {b : Addr} {n : Nat} (w : POk K S H D sg q) (hB : BagR H b n) (a : Frm K (fun x => x = b) H H') : POk K S H' D sg q := by
  obtain ⟨d, s, c, hb, _⟩ := hB
  have nl : ∀ {p : Addr} {xs : List Str}, H p = some (.lst (strL xs)) → ¬ p = b := fun h z => by
    rw [z, hb] at h
    injection h with h
    injection h with h
    exact strL_ne_bag _ _ _ _ h.symm
  have nd : ∀ {p : Addr} {xs : List (Key × V)}, H p = some (.dK xs) → ¬ p = b := fun h z => by
    rw [z, hb] at h
    cases h
  exact { w with
    p_ := a.dK w.p_ (nd w.p_)
    nl_ := a.lst w.nl_ (nl w.nl_)
    db_ := a.dK w.db_ (nd w.db_)
    dw_ := a.dK w.dw_ (nd w.dw_)
    ds_ := a.dK w.ds_ (nd w.ds_)
    du_ := a.dK w.du_ (nd w.du_)
    do_ := a.dK w.do_ (nd w.do_)
    dl_ := a.dK w.dl_ (nd w.dl_)
    b_ := fun c hc => a.lst (w.b_ c hc) (nl (w.b_ c hc))
    s_ := fun c hc => a.dK (w.s_ c hc) (nd (w.s_ c hc))
    r_ := fun c hc => (w.r_ c hc).frm a
    o_ := fun c hc => a.lst (w.o_ c hc) (nl (w.o_ c hc))
    l_ := fun c hc => a.lst (w.l_ c hc) (nl (w.l_ c hc)) }
theorem pop_perm {α : Type} {x : α} : ∀ {xs : List α} {k : Nat}, xs[k]? = some x → xs.Perm (x :: xs.eraseIdx k)
  | [], k, h => by cases h
  | a :: r, 0, h => by
    cases h
    exact List.Perm.refl _
  | a :: r, k + 1, h => (List.Perm.cons a (pop_perm (xs := r) (k := k) h)).trans (List.Perm.swap x a _)
theorem seqIx_nat {j n : Nat} (h : j < n) : seqIndex? (j : Int) n = some j := by
  unfold seqIndex?
  have h1 : ¬ (j : Int) < 0 := by omega
  simp only [if_neg h1]
  rw [if_pos]
  · simp
  · simp; omega
theorem strL_eraseIdx (xs : List Str) (k : Nat) : (strL xs).eraseIdx k = strL (xs.eraseIdx k) := by
  induction xs generalizing k with
  | nil => rfl
  | cons a r ih =>
    cases k with
    | zero => rfl
    | succ k =>
      show V.str a :: (strL r).eraseIdx k = V.str a :: strL (r.eraseIdx k)
      rw [ih]
def SgOne (l : List (Str × Str)) : Prop := l.length ≤ 100 ∧ (∀ z ∈ l, nameOk z.1 ∧ markOk z.2) ∧ (l.map (·.1)).Nodup
theorem RuR.none_pa {H : Hp} {v : V} {hk : Option Hk} {pa : Bool} (h : RuR H v hk pa) (e : hk = none) : pa = false := by
  subst e
  exact h.2
section
variable {P : Program} {w : World} {K : PySem.W.Frag} {mg : Str → Option Value} {base : Heap}
def spLCl (K : PySem.W.Frag) : Sp := fun vs H Q _ => ∃ (b : Addr) (n : Nat) (S : Addr → Prop) (D : List C) (sg : Sg) (q : PPar) (nm : Str) (ma : Addr) (U : List Str), vs = [.ref b, .ref q.p, .str nm, .ref ma] ∧ BagR H b n ∧ n ≤ 40000 ∧ POk K S H D sg q ∧ (∀ x, SgOne (sg x)) ∧ Mk U D ∧ D.length ≤ 9 ∧ H ma = some (.lst (strL U)) ∧ ma ≠ b ∧
  U.length ≤ 5 ∧ U.Nodup ∧ (∀ m ∈ U, nameOk m) ∧ nm ∉ nms D ∧ nameOk nm ∧ ¬ S b ∧ (∀ x, ¬ Al H x → S x) ∧
  ∀ H' c sg' q', Frm K (fun x => S x ∨ x = b) H H' → BagR H' b (n + 60) → POk K S H' (D ++ [c]) sg' q' → q'.p = q.p → Mk U (D ++ [c]) → c.nm = nm → (∀ x, SgOne (sg' x)) → Q .non H'
theorem ok_law_class (T : Tx K mg) : FnOk P w K mg base CX0 3 (He.fAd K d_law_class.at_) (fdOf K (He.fAd K d_law_class.at_)) ["_law_bag_here", "_law_plain", "_law_name", "_law_methods_here"] (spLCl K) := by
  refine (F_law_class T).ok sc_law_class (fun vs H Q E h => ?_) (fun cdv A outer s H vs Q E hr h => ?_)
  · obtain ⟨_, _, _, _, _, _, _, _, _, rfl, _⟩ := h
    rfl
  · obtain ⟨b, n, S, D, sg, q, nm, ma, U, rfl, hB, hn, W, hsg, m, hD, hma, nmb, hU, hUnd, hUok, hnm, hok, nSb, hS, k⟩ := h
    have hu := hu_of hr
    refine ⟨_, PSs.nox (pss_cons (ps_par (i := 4) (j := 5) rfl (sc_law_class).nd rfl rfl (by decide) rfl rfl (pa_cons (pe_callTy (k_list (K := K) rfl) (by rfl) (z_list T) (by decide +kernel) (pa_cons (pe_dget hu (pv 1) pe_str (fun _ _ => rfl)) pa_nil)) (pa_cons (pe_lst pa_nil) pa_nil)) rfl)
    (pss_cons (ps_for PassesOwn.never rfl (pi_range1 rfl (z_range T) (pa_cons (pe_callB (k_min2 rfl) (by rfl) (z_min T) (by decide +kernel) (pa_cons (pe_call (ok_law_pick T) (hr.mono (by decide)) rfl (g_law_pick T) (F_law_pick T).kp (b_law_pick T) .nil pass0 (pa_cons (pv 0) (pa_cons (pe_lst (pa_cons pe_int (pa_cons pe_int (pa_cons pe_int (pa_cons pe_int (pa_cons pe_int (pa_cons pe_int pa_nil))))))) pa_nil))) (pa_cons (pe_callB (k_len (K := K) rfl) (by rfl) (z_len T) (by decide +kernel) (pa_cons (pv 4) pa_nil)) pa_nil))) pa_nil)) (pg_name (i := 6) (sc_law_class).nd rfl (Or.inl rfl)) (pss_one (ps_expr (w_append (K := K) rfl (pv 5) (w_popAt (K := K) rfl (pv 4) (pe_call (ok_law_take T) (hr.mono (by decide)) rfl (g_law_take T) (F_law_take T).kp (b_law_take T) .nil pass0 (pa_cons (pv 0) (pa_cons (pe_callB (k_len (K := K) rfl) (by rfl) (z_len T) (by decide +kernel) (pa_cons (pv 4) pa_nil)) pa_nil))))))))
    (pss_cons (ps_set (i := 7) (sc_law_class).nd rfl (Or.inl rfl) pe_dnewK)
    (pss_cons (ps_for PassesOwn.never rfl (i_list (K := K) rfl (pv 3)) (pg_name (i := 8) (sc_law_class).nd rfl (Or.inl rfl)) (pss_one (ps_if (pt_cmpR op_eq (pe_call (ok_law_take T) (hr.mono (by decide)) rfl (g_law_take T) (F_law_take T).kp (b_law_take T) .nil pass0 (pa_cons (pv 0) (pa_cons pe_int pa_nil))) pe_int (nomark _)) (pss_one (ps_dput hu (pv 7) (pv 8) (pe_call (ok_law_pick T) (hr.mono (by decide)) rfl (g_law_pick T) (F_law_pick T).kp (b_law_pick T) .nil pass0 (pa_cons (pv 0) (pa_cons (pe_lst (pa_cons pe_str (pa_cons pe_str (pa_cons pe_str pa_nil)))) pa_nil))) rfl)) pss_nil)))
    (pss_one (ps_expr (pe_call (ok_law_make T) (hr.mono (by decide)) rfl (g_law_make T) (F_law_make T).kp (b_law_make T) .nil pass0 (pa_cons (pv 1) (pa_cons (pv 2) (pa_cons (pv 5) (pa_cons (pe_cmpR op_eq (pe_call (ok_law_take T) (hr.mono (by decide)) rfl (g_law_take T) (F_law_take T).kp (b_law_take T) .nil pass0 (pa_cons (pv 0) (pa_cons pe_int pa_nil))) pe_int (nomark _)) (pa_cons (pv 7) (pa_cons (pe_call (ok_law_new_rule T) (hr.mono (by decide)) rfl (g_law_new_rule T) (F_law_new_rule T).kp (b_law_new_rule T) .nil pass0 (pa_cons (pv 0) (pa_cons (pv 3) pa_nil))) pa_nil))))))))))))), ?_⟩
    refine ⟨_, rfl, q.p, _, rfl, W.kN, q.nl, _, rfl, .inl (.inl (.of W.nl_)), fun lf hlf => ⟨Nat.zero_le _, fun bl hbl => ⟨_, _, rfl, ?_⟩⟩⟩
    have e1 : Ext K H (upd H lf (.lst (strL (nms D)))) := .new hlf (nt_lst _)
    have flf : ¬ Al H lf := fresh_none hlf
    have fbl : ¬ Al H bl := fresh_of e1 hbl
    have nlb : lf ≠ bl := ne_of_none upd_same hbl
    have e2 := e1.trans (Frm.new hbl (nt_lst []))
    have hl2 : (upd (upd H lf (.lst (strL (nms D)))) bl (.lst [])) lf = some (.lst (strL (nms D))) := by rw [upd_ne nlb]; exact upd_same
    have hb2 : (upd (upd H lf (.lst (strL (nms D)))) bl (.lst [])) bl = some (.lst []) := upd_same
    generalize upd (upd H lf (.lst (strL (nms D)))) bl (.lst []) = H2 at e2 hl2 hb2 ⊢
    have lfb : lf ≠ b := (ne_fresh hB.al flf).symm
    have blb : bl ≠ b := (ne_fresh hB.al fbl).symm
    refine ⟨_, rfl, Nat.le_of_ble_eq_true rfl, fun pl hpl => ?_⟩
    have e3 : Ext K H2 (upd H2 pl (.lst [.int 0, .int 1, .int 1, .int 2, .int 0, .int 3])) := .new hpl (nt_lst _)
    have hp3 : (upd H2 pl (.lst [.int 0, .int 1, .int 1, .int 2, .int 0, .int 3])) pl = some (.lst [.int 0, .int 1, .int 1, .int 2, .int 0, .int 3]) := upd_same
    have hB2 := hB.ext e2
    have plb : pl ≠ b := (ne_fresh hB2.al (fresh_none hpl)).symm
    generalize upd H2 pl (.lst [.int 0, .int 1, .int 1, .int 2, .int 0, .int 3]) = H3 at e3 hp3 ⊢
    refine ⟨b, pl, n, _, rfl, hB2.ext e3, hp3, plb, by omega, by decide, by decide, fun v H4 hv f4 hB4 => ?_⟩
    obtain ⟨kk, hkk, rfl⟩ : ∃ kk : Nat, kk ≤ 3 ∧ v = .int kk := by
      simp only [List.mem_cons, List.not_mem_nil, or_false] at hv
      rcases hv with z | z | z | z | z | z <;> rw [z]
      · exact ⟨0, by decide, rfl⟩
      · exact ⟨1, by decide, rfl⟩
      · exact ⟨1, by decide, rfl⟩
      · exact ⟨2, by decide, rfl⟩
      · exact ⟨0, by decide, rfl⟩
      · exact ⟨3, by decide, rfl⟩
    have g4 : Frm K (fun x => x = b) H H4 := (e2.trans e3).of.trans f4
    have hl4 := f4.lst (e3.at hl2 (nt_lst _)) lfb
    have hb4 := f4.lst (e3.at hb2 (nt_lst _)) blb
    refine ⟨_, rfl, lf, _, rfl, .inl (.inl (.of hl4)), _, _, rfl, ?_⟩
    rw [strL_length]
    obtain ⟨c, hc, hc3, hcD⟩ : ∃ c : Nat, (if ((nms D).length : Int) < (kk : Int) then ((nms D).length : Int) else (kk : Int)) = (c : Int) ∧ c ≤ 3 ∧ c ≤ (nms D).length := by
      split
      · exact ⟨(nms D).length, rfl, by omega, Nat.le_refl _⟩
      · exact ⟨kk, rfl, hkk, by omega⟩
    rw [hc]
    refine ⟨c, rfl, by omega, by omega, ?_⟩
    rw [Int.toNat_natCast]
    have lD : (nms D).length ≤ 9 := by rw [List.length_map]; exact hD
    refine for_it walk_range (fun i σ H' => ∃ (x y z : Option V) (lc bc : List Str), σ = [some (.ref b), some (.ref q.p), some (.str nm), some (.ref ma), some (.ref lf), some (.ref bl), x, y, z] ∧ Frm K (fun x => x = b) H H' ∧ BagR H' b (n + 1 + i) ∧ H' lf = some (.lst (strL lc)) ∧ H' bl = some (.lst (strL bc)) ∧ bc.length = i ∧ lc.length + i = (nms D).length ∧ (bc ++ lc).Perm (nms D))
      ⟨_, _, _, nms D, [], rfl, g4, hB4, hl4, hb4, rfl, rfl, List.Perm.refl _⟩ (fun _ _ _ _ _ => trivial) ?_ ?_
    · rintro i x σ H5 H5' hi ⟨_, _, _, lc, bc, rfl, f5, hB5, hl5, hb5, hbc, hlc, hpm⟩ ⟨rfl, rfl⟩
      refine ⟨_, rfl, .inl ⟨rfl, _, .of hb5⟩, _, rfl, .inl ⟨rfl, _, .of hl5⟩, _, rfl, _, rfl, lf, _, rfl, .inl (.inl (.of hl5)), b, _, (strL lc).length, rfl, hB5, by omega, by rw [strL_length]; omega, by rw [strL_length]; omega, fun j H6 hj f6 hB6 => ?_⟩
      have hl6 := f6.lst hl5 lfb
      have hb6 := f6.lst hb5 blb
      rw [strL_length] at hj
      have hx : (strL lc)[j]? = some (.str lc[j]) := by rw [List.getElem?_map, List.getElem?_eq_getElem hj]; rfl
      refine ⟨lf, _, j, j, _, rfl, rfl, hl6, by omega, by omega, seqIx_nat (by rw [strL_length]; exact hj), hx, ?_⟩
      rw [strL_eraseIdx]
      have g7 : Frm K (fun x => x = lf) H6 (upd H6 lf (.lst (strL (lc.eraseIdx j)))) := .mut hl6 trivial rfl (nt_lst _)
      have l7 : (upd H6 lf (.lst (strL (lc.eraseIdx j)))) lf = some (.lst (strL (lc.eraseIdx j))) := upd_same
      have F7 : Frm K (fun x => x = b) H (upd H6 lf (.lst (strL (lc.eraseIdx j)))) := (f5.trans f6).mutNew flf hl6 trivial (nt_lst _)
      generalize upd H6 lf (.lst (strL (lc.eraseIdx j))) = H7 at g7 l7 F7 ⊢
      have hb7 := g7.lst hb6 nlb.symm
      have hB7 := hB6.frm g7 lfb.symm
      refine ⟨bl, _, _, rfl, rfl, hb7, ?_, ?_⟩
      · rw [strL_length]
        exact Nat.lt_of_lt_of_le (show bc.length < 10 by omega) (by decide)
      have g8 : Frm K (fun x => x = bl) H7 (upd H7 bl (.lst (strL bc ++ [.str lc[j]]))) := .mut hb7 trivial rfl (nt_lst _)
      refine ⟨_, _, _, lc.eraseIdx j, bc ++ [lc[j]], rfl, F7.mutNew fbl hb7 trivial (nt_lst _), hB7.frm g8 blb.symm, g8.lst l7 nlb, by rw [upd_same, strL_append]; rfl, by rw [List.length_append, hbc]; rfl, by rw [List.length_eraseIdx_of_lt hj]; omega, ?_⟩
      refine List.Perm.trans ?_ hpm
      rw [List.append_assoc]
      exact List.Perm.append_left bc (pop_perm (List.getElem?_eq_getElem hj)).symm
    · rintro σ H5 ⟨_, _, _, lc, bc, rfl, f5, hB5, hl5, hb5, hbc, hlc, hpm⟩
      have hbm : ∀ x ∈ bc, x ∈ nms D := fun x hx => hpm.subset (List.mem_append_left _ hx)
      have hbnd : bc.Nodup := (List.nodup_append.mp (hpm.nodup_iff.mpr m.nd)).1
      intro sd hsd
      have fsd : ¬ Al H sd := fresh_of f5 hsd
      have sdb : sd ≠ b := (ne_fresh hB5.al (fresh_none hsd)).symm
      have e6 : Ext K H5 (upd H5 sd (.dK [])) := .new hsd (nt_dK _)
      have hsd6 : (upd H5 sd (.dK [])) sd = some (.dK []) := upd_same
      have hB6 := hB5.ext e6
      have f6 := f5.trans e6.of
      have hb6 := e6.at hb5 (nt_lst _)
      generalize upd H5 sd (.dK []) = H6 at e6 hsd6 hB6 f6 hb6 ⊢
      refine ⟨_, rfl, ma, rfl, ⟨_, .of (f6.lst hma nmb)⟩, ?_⟩
      refine for_it walk_list (fun i σ H' => ∃ (x z : Option V) (sgs : List (Str × Str)), σ = [some (.ref b), some (.ref q.p), some (.str nm), some (.ref ma), some (.ref lf), some (.ref bl), x, some (.ref sd), z] ∧ Frm K (fun x => x = b) H H' ∧ BagR H' b (n + 1 + c + 2 * i) ∧ H' bl = some (.lst (strL bc)) ∧ H' sd = some (.dK (sgs.map fun z => (.inr z.1, .str z.2))) ∧ (sgs.map (·.1)).Sublist (U.take i) ∧ ∀ z ∈ sgs, markOk z.2)
        ⟨_, _, [], rfl, f6, hB6, hb6, hsd6, List.nil_sublist _, fun z hz => by cases hz⟩ (fun i σ H' _ ⟨_, _, _, _, f, _⟩ => .inl (.of (f.lst hma nmb))) ?_ ?_
      · rintro i x σ H7 H7' hi ⟨_, _, sgs, rfl, f7, hB7, hb7, hs7, hsub, hmk⟩ ⟨rfl, hx⟩
        obtain ⟨me, hme, rfl, mem⟩ := strL_get hx
        have il : i < 5 := Nat.lt_of_lt_of_le (List.getElem?_eq_some_iff.mp hme).1 hU
        refine ⟨_, rfl, b, _, 3, rfl, hB7, by omega, by omega, by omega, fun j H8 hj f8 hB8 => ⟨rfl, _, rfl, ?_⟩⟩
        have hb8 := f8.lst hb7 blb
        have hs8 := f8.dK hs7 sdb
        have t1 : U.take (i + 1) = U.take i ++ [me] := by rw [List.take_succ, hme]; rfl
        refine ite2 (fun _ => ?_) (fun _ => ?_)
        · refine ⟨_, rfl, Nat.le_of_ble_eq_true rfl, fun pl2 hpl2 => ?_⟩
          have e9 : Ext K H8 (upd H8 pl2 (.lst [.str "plain", .str "abstract", .str "blocked"])) := .new hpl2 (nt_lst _)
          have p9 : (upd H8 pl2 (.lst [.str "plain", .str "abstract", .str "blocked"])) pl2 = some (.lst [.str "plain", .str "abstract", .str "blocked"]) := upd_same
          have pb9 : pl2 ≠ b := (ne_fresh hB8.al (fresh_none hpl2)).symm
          generalize upd H8 pl2 (.lst [.str "plain", .str "abstract", .str "blocked"]) = H9 at e9 p9 ⊢
          refine ⟨b, pl2, _, _, rfl, hB8.ext e9, p9, pb9, by omega, by decide, by decide, fun v H10 hv f10 hB10 => ?_⟩
          obtain ⟨mk, hmk1, rfl⟩ : ∃ mk : Str, markOk mk ∧ v = .str mk := by
            simp only [List.mem_cons, List.not_mem_nil, or_false] at hv
            rcases hv with z | z | z <;> rw [z]
            · exact ⟨"plain", by decide, rfl⟩
            · exact ⟨"abstract", by decide, rfl⟩
            · exact ⟨"blocked", by decide, rfl⟩
          have hs10 := f10.dK (e9.at hs8 (nt_dK _)) sdb
          have hb10 := f10.lst (e9.at hb8 (nt_lst _)) blb
          have sl := hsub.length_le
          rw [List.length_map, List.length_take] at sl
          have nk : me ∉ sgs.map (·.1) := fun z => by
            have h1 := hsub.subset z
            obtain ⟨j', hj'⟩ := List.getElem?_of_mem h1
            have hlt : j' < i := by
              have := (List.getElem?_eq_some_iff.mp hj').1
              rw [List.length_take] at this
              omega
            rw [List.getElem?_take_of_lt hlt] at hj'
            have := nodup_ix hUnd hj' hme
            omega
          refine ⟨_, rfl, _, rfl, sd, _, rfl, DPut.k (k := .inr me) hs10 ?_, ?_⟩
          · rw [List.length_map]
            exact Nat.lt_of_le_of_lt (show sgs.length ≤ 5 by omega) (by decide)
          have g11 : Frm K (fun x => x = sd) H10 (upd H10 sd (.dK (putK (sgs.map fun z => ((.inr z.1 : Key), V.str z.2)) (.inr me) (.str mk)))) := .mut hs10 trivial rfl (nt_dK _)
          have sbl : bl ≠ sd := ne_of hb10 hs10 (fun z => by cases z)
          refine ⟨_, _, sgs ++ [(me, mk)], rfl, ((f7.trans f8).trans (e9.of.trans f10)).mutNew fsd hs10 trivial (nt_dK _), (hB10.frm g11 sdb.symm).mono (by omega), g11.lst hb10 sbl, ?_, ?_, fun z hz => ?_⟩
          · rw [upd_same, putK_new, List.map_append]
            · rfl
            · have : ∀ l : List (Str × Str), me ∉ l.map (·.1) → valV (l.map fun z => ((.inr z.1 : Key), V.str z.2)) (.inr me) = none := fun l => by
                induction l with
                | nil => exact fun _ => rfl
                | cons z r ih =>
                  intro h
                  show valV (((.inr z.1 : Key), V.str z.2) :: r.map fun z => ((.inr z.1 : Key), V.str z.2)) (.inr me) = none
                  rw [valV_neg (fun y => h (by rw [← Sum.inr.inj y]; exact List.mem_cons_self ..))]
                  exact ih fun y => h (List.mem_cons_of_mem _ y)
              exact this sgs nk
          · rw [t1, List.map_append]
            exact hsub.append (List.Sublist.refl _)
          · rcases List.mem_append.mp hz with y | y
            · exact hmk z y
            · rw [List.mem_singleton.mp y]
              exact hmk1
        · exact ⟨_, _, sgs, rfl, f7.trans f8, hB8.mono (by omega), hb8, hs8, hsub.trans (by rw [t1]; exact List.sublist_append_left _ _), hmk⟩
      · rintro σ H7 ⟨_, _, sgs, rfl, f7, hB7, hb7, hs7, hsub, hmk⟩
        rw [strL_length] at hB7 hsub
        rw [List.take_length] at hsub
        have sl := hsub.length_le
        rw [List.length_map] at sl
        have sg1 : SgOne sgs := ⟨by omega, fun z hz => ⟨hUok _ (hsub.subset (List.mem_map.mpr ⟨z, hz, rfl⟩)), hmk z hz⟩, hsub.nodup hUnd⟩
        refine ⟨_, rfl, _, rfl, _, rfl, _, rfl, b, _, 2, rfl, hB7, by omega, by omega, by omega, fun j H8 hj f8 hB8 => ⟨rfl, _, rfl, _, rfl, _, rfl, b, ma, _, U, rfl, hB8, (f7.trans f8).lst hma nmb, nmb, by omega, hU, hUnd, fun v H9 hk pa f9 hB9 hR hRl => ?_⟩⟩
        have F9 := (f7.trans f8).trans f9
        have f79 := f8.trans f9
        have W9 := W.bag hB F9
        have eb : newC D nm bc (decide (V.int (j : Int) = V.int 0)) none false = baseC D nm bc (decide (V.int (j : Int) = V.int 0)) := by
          unfold newC
          split <;> rfl
        have mb := m.new (by omega) hnm hok hbm hbnd (by omega) (decide (V.int (j : Int) = V.int 0)) (hk := none) (pa := false) (fun h z => by cases z) (fun _ => rfl)
        rw [eb] at mb
        have mn := m.new (by omega) hnm hok hbm hbnd (by omega) (decide (V.int (j : Int) = V.int 0)) hRl fun z => hR.none_pa z
        refine ⟨S, D, sg, q, nm, bc, _, bl, sd, sgs, v, hk, pa, rfl, W9, m.wf (by omega) (by omega), by omega, hnm, f79.lst hb7 blb, hbm, by omega, f79.dK hs7 sdb, W.raw.nmk fbl, W.raw.nmk fsd, hR, fun x hx => hS x fun z => hx (F9.al x z), mb.wf (by rw [List.length_append]; show D.length + 1 ≤ 10; omega) (by omega), fun c hc => ((m.wf (by omega) (by omega)).ln c hc).2, fun H10 q' f10 eq W10 => ?_⟩
        refine k H10 _ _ q' ((F9.mono fun x z => .inr z).trans (f10.mono fun x z => .inl z)) ((hB9.frm f10 nSb).mono (by omega)) W10 eq mn ?_ fun x => ?_
        · unfold newC
          split <;> rfl
        · show SgOne (if x = nm then sgs else sg x)
          split
          · exact sg1
          · exact hsg x
end
end ST
set_option maxHeartbeats 4000000
namespace ST
open PySem PySem.Spec PyProof.Rows L2
theorem Rch.trans {D : List C} {a b c : Str} (h : Rch D a b) (h' : Rch D b c) : Rch D a c := by
  induction h' with
  | refl => exact h
  | step _ hc ih => exact ih.step hc
structure Gd (U : List Str) (D : List C) : Prop where
  md : Mk U (un D)
  len : D.length ≤ 8
  rg : ∀ c ∈ D, c.rg.Nodup ∧ (∀ o ∈ c.rg, o ∈ nms D ∧ ¬ Rch D o c.nm) ∧ (c.rg ≠ [] → sw D c.nm = true)
/-- the same name, bases, line, .. -/
theorem sw_congr {D E : List C} {n : Str} (hn : (at_ E n).ln = (at_ D n).ln) (h : ∀ m ∈ (at_ D n).ln, (at_ E m).ow = (at_ D m).ow) : sw E n = sw D n := by
  unfold sw
  rw [hn]
  have : ∀ l : List Str, (∀ m ∈ l, (at_ E m).ow = (at_ D m).ow) → l.any (fun m => (at_ E m).ow) = l.any fun m => (at_ D m).ow := fun l => by
    induction l with
    | nil => exact fun _ => rfl
    | cons x r ih =>
      intro h
      rw [List.any_cons, List.any_cons, h x (List.mem_cons_self ..), ih fun m hm => h m (List.mem_cons_of_mem _ hm)]
  exact this _ h
section
variable {U : List Str} {D : List C}
theorem un_mem {c : C} (h : c ∈ D) : { c with rg := [] } ∈ un D := List.mem_map.mpr ⟨c, h, rfl⟩
theorem Gd.nd (g : Gd U D) : (nms D).Nodup := by
  rw [← nms_un]
  exact g.md.nd
theorem Gd.line (g : Gd U D) {c : C} (hc : c ∈ D) : (∃ rest, c.ln = c.nm :: rest) ∧ c.ln.Nodup ∧ ∀ x ∈ c.ln, x ∈ nms D := by
  have := g.md.line _ (un_mem hc)
  rw [nms_un] at this
  exact this
theorem Gd.hks (g : Gd U D) {c : C} (hc : c ∈ D) : (∀ h, c.hk = some h → RlOk U h) ∧ nameOk c.nm ∧ c.bs.Nodup ∧ c.bs.length ≤ 3 ∧ (∀ b ∈ c.bs, b ∈ nms D) := by
  obtain ⟨a, b, d, e, f, h⟩ := g.md.hks _ (un_mem hc)
  rw [nms_un] at h
  exact ⟨a, d, e, f, h⟩
theorem Gd.wf (g : Gd U D) (hU : U.length ≤ 6) : Wf D where
  nd := g.nd
  len := by have := g.len; omega
  ln := fun c hc => ⟨(g.line hc).2.2, by
    have := nodup_len (g.line hc).2.1 (g.line hc).2.2
    unfold nms at this
    rw [List.length_map] at this
    have := g.len
    omega⟩
  rg := fun c hc => ⟨fun o ho => ((g.rg c hc).2.1 o ho).1, by
    have := nodup_len (g.rg c hc).1 fun o ho => ((g.rg c hc).2.1 o ho).1
    unfold nms at this
    rw [List.length_map] at this
    have := g.len
    omega⟩
  hk := fun c hc h e => by
    have := (g.hks hc).1 h e
    exact ⟨by have := this.len; omega, fun q hq => by have := (this.q q hq).1; omega⟩
  me := ⟨U, hU, fun x hx => by
    obtain ⟨c, hc, hx⟩ := List.mem_flatMap.mp hx
    obtain ⟨q, hq, hx⟩ := List.mem_flatMap.mp hx
    cases hh : c.hk with
    | none => rw [hh] at hq; cases hq
    | some h =>
      rw [hh] at hq
      exact (((g.hks hc).1 h hh).q q hq).2.2 x hx⟩
theorem sw_un (m : Mk U (un D)) {n : Str} (hn : n ∈ nms D) : sw (un D) n = sw D n := by
  refine sw_congr (by rw [at_un hn]) fun x hx => ?_
  have := (m.line _ (un_mem (at_mem hn).1)).2.2 x hx
  rw [nms_un] at this
  rw [at_un this]
theorem at_add {n o x : Str} (hx : x ∈ nms D) : at_ (addReg D n o) x = if x = n ∧ o ∉ (at_ D x).rg then { at_ D x with rg := (at_ D x).rg ++ [o] } else at_ D x := by
  induction D with
  | nil => cases hx
  | cons c r ih =>
    by_cases z : c.nm = x
    · have e1 : at_ (c :: r) x = c := by
        unfold at_
        rw [List.find?_cons, decide_eq_true z]
        rfl
      have e2 : at_ (addReg (c :: r) n o) x = if c.nm = n ∧ o ∉ c.rg then { c with rg := c.rg ++ [o] } else c := by
        unfold at_ addReg
        rw [List.map_cons, List.find?_cons, decide_eq_true (by rw [addReg_nm]; exact z)]
        rfl
      rw [e2, e1]
      subst z
      rfl
    · have e1 : at_ (c :: r) x = at_ r x := by
        unfold at_
        rw [List.find?_cons, decide_eq_false z]
      have e2 : at_ (addReg (c :: r) n o) x = at_ (addReg r n o) x := by
        unfold at_ addReg
        rw [List.map_cons, List.find?_cons, decide_eq_false (by rw [addReg_nm]; exact z)]
      rw [e1, e2]
      exact ih ((List.mem_cons.mp hx).resolve_left fun y => z y.symm)
theorem at_add_ln {n o x : Str} (hx : x ∈ nms D) : (at_ (addReg D n o) x).ln = (at_ D x).ln ∧ (at_ (addReg D n o) x).ow = (at_ D x).ow := by
  rw [at_add hx]
  split <;> exact ⟨rfl, rfl⟩
theorem un_add (D : List C) (n o : Str) : un (addReg D n o) = un D := by
  unfold un addReg
  rw [List.map_map]
  refine List.map_congr_left fun c _ => ?_
  show { (if c.nm = n ∧ o ∉ c.rg then { c with rg := c.rg ++ [o] } else c) with rg := [] } = _
  split <;> rfl
theorem subs_add (D : List C) (n o x : Str) : subs (addReg D n o) x = subs D x := by
  unfold subs addReg
  rw [List.filter_map, List.map_map]
  have e : (fun c : C => decide (x ∈ c.bs)) ∘ (fun c : C => if c.nm = n ∧ o ∉ c.rg then { c with rg := c.rg ++ [o] } else c) = fun c => decide (x ∈ c.bs) := by
    funext c
    show decide (x ∈ (if c.nm = n ∧ o ∉ c.rg then { c with rg := c.rg ++ [o] } else c).bs) = _
    split <;> rfl
  rw [e]
  exact List.map_congr_left fun c _ => addReg_nm c n o
theorem nxt_iff {x y : Str} : y ∈ nxt D x ↔ sw D x = true ∧ (y ∈ (at_ D x).rg ∨ y ∈ subs D x) := by
  unfold nxt
  by_cases h : sw D x = true
  · rw [if_pos h, List.mem_append, List.mem_filter, decide_eq_true_eq]
    constructor
    · rintro (z | ⟨z, _⟩)
      · exact ⟨h, .inl z⟩
      · exact ⟨h, .inr z⟩
    · rintro ⟨_, z | z⟩
      · exact .inl z
      · by_cases q : y ∈ (at_ D x).rg
        · exact .inl q
        · exact .inr ⟨z, q⟩
  · rw [if_neg h]
    exact ⟨fun z => (by cases z), fun z => (h z.1).elim⟩
theorem subs_nms {x y : Str} (h : y ∈ subs D x) : y ∈ nms D := by
  unfold subs at h
  obtain ⟨c, hc, e⟩ := List.mem_map.mp h
  exact List.mem_map.mpr ⟨c, (List.mem_filter.mp hc).1, e⟩
theorem Gd.nxt_nms (g : Gd U D) {x y : Str} (hx : x ∈ nms D) (h : y ∈ nxt D x) : y ∈ nms D := by
  rcases (nxt_iff.mp h).2 with z | z
  · exact ((g.rg _ (at_mem hx).1).2.1 y z).1
  · exact subs_nms z
theorem Gd.sw_add (g : Gd U D) {n o x : Str} (hx : x ∈ nms D) : sw (addReg D n o) x = sw D x :=
  sw_congr (at_add_ln hx).1 fun m hm => (at_add_ln ((g.line (at_mem hx).1).2.2 m hm)).2
theorem Gd.nxt_add (g : Gd U D) {n o x y : Str} (hx : x ∈ nms D) (h : y ∈ nxt (addReg D n o) x) : y ∈ nxt D x ∨ (x = n ∧ y = o) := by
  obtain ⟨h1, h2⟩ := nxt_iff.mp h
  rw [g.sw_add hx] at h1
  rw [subs_add] at h2
  rcases h2 with z | z
  · rw [at_add hx] at z
    by_cases q : x = n ∧ o ∉ (at_ D x).rg
    · rw [if_pos q] at z
      rcases List.mem_append.mp z with y' | y'
      · exact .inl (nxt_iff.mpr ⟨h1, .inl y'⟩)
      · exact .inr ⟨q.1, List.mem_singleton.mp y'⟩
    · rw [if_neg q] at z
      exact .inl (nxt_iff.mpr ⟨h1, .inl z⟩)
  · exact .inl (nxt_iff.mpr ⟨h1, .inr z⟩)
theorem Gd.rch_add (g : Gd U D) {n o x y : Str} (hx : x ∈ nms D) (hn : n ∈ nms D) (ho : o ∈ nms D) (h : Rch (addReg D n o) x y) : y ∈ nms D ∧ (Rch D x y ∨ (Rch D x n ∧ Rch D o y)) := by
  induction h with
  | refl => exact ⟨hx, .inl .refl⟩
  | step _ hc ih =>
    obtain ⟨hb, ih⟩ := ih
    rcases g.nxt_add hb hc with z | ⟨z1, z2⟩
    · refine ⟨g.nxt_nms hb z, ?_⟩
      rcases ih with i | ⟨i1, i2⟩
      · exact .inl (i.step z)
      · exact .inr ⟨i1, i2.step z⟩
    · rw [z2]
      refine ⟨ho, .inr ⟨?_, .refl⟩⟩
      rw [z1] at ih
      rcases ih with i | ⟨i1, _⟩
      · exact i
      · exact i1
theorem Gd.add (g : Gd U D) {n o : Str} (hn : n ∈ nms D) (ho : o ∈ nms D) (hs : sw D n = true) (hr : ¬ Rch D o n) : Gd U (addReg D n o) := by
  refine ⟨by rw [un_add]; exact g.md, by unfold addReg; rw [List.length_map]; exact g.len, fun c hc => ?_⟩
  obtain ⟨d, hd, rfl⟩ := addReg_mem hc
  rw [addReg_nms, addReg_nm]
  have dm : d.nm ∈ nms D := List.mem_map.mpr ⟨d, hd, rfl⟩
  have ed : at_ D d.nm = d := at_of g.nd hd
  obtain ⟨r1, r2, r3⟩ := g.rg d hd
  have old : ∀ x ∈ d.rg, x ∈ nms D ∧ ¬ Rch (addReg D n o) x d.nm := fun x hx => by
    obtain ⟨x1, x2⟩ := r2 x hx
    refine ⟨x1, fun y => ?_⟩
    rcases (g.rch_add x1 hn ho y).2 with z | ⟨z1, z2⟩
    · exact x2 z
    · have sd := r3 fun e => by rw [e] at hx; cases hx
      have st : Rch D d.nm x := Rch.refl.step (nxt_iff.mpr ⟨sd, .inl (by rw [ed]; exact hx)⟩)
      exact hr ((z2.trans st).trans z1)
  rw [g.sw_add dm]
  by_cases q : d.nm = n ∧ o ∉ d.rg
  · rw [if_pos q]
    refine ⟨?_, fun x hx => ?_, fun _ => by rw [q.1]; exact hs⟩
    · rw [List.nodup_append]
      refine ⟨r1, by simp, fun a ha b hb z => ?_⟩
      rw [z.trans (List.mem_singleton.mp hb)] at ha
      exact q.2 ha
    · rcases List.mem_append.mp hx with z | z
      · exact old x z
      · rw [List.mem_singleton.mp z]
        refine ⟨ho, fun y => ?_⟩
        rcases (g.rch_add ho hn ho y).2 with z | ⟨z1, z2⟩
        · exact hr (by rw [← q.1]; exact z)
        · exact hr z1
  · rw [if_neg q]
    exact ⟨r1, old, r3⟩
theorem un_self (h : ∀ c ∈ D, c.rg = []) : un D = D := by
  unfold un
  conv => rhs; rw [← List.map_id D]
  refine List.map_congr_left fun c hc => ?_
  have := h c hc
  cases c
  simp only at this
  subst this
  rfl
theorem Mk.gd (m : Mk U D) (hl : D.length ≤ 8) : Gd U D := by
  have e : un D = D := un_self fun c hc => (m.hks c hc).2.1
  refine ⟨by rw [e]; exact m, hl, fun c hc => ?_⟩
  rw [(m.hks c hc).2.1]
  exact ⟨List.nodup_nil, fun o ho => (by cases ho), fun h => (h rfl).elim⟩
end
end ST
set_option maxHeartbeats 4000000
namespace ST
open PySem PySem.Spec PyProof.Rows L2
open LamX (CodeO Tabs TabB)
section
variable {P : Program} {w : World} {K : PySem.W.Frag} {mg : Str → Option Value} {base : Heap}
def spLSA (K : PySem.W.Frag) : Sp := fun vs H Q _ => ∃ (b : Addr) (n t : Nat) (S : Addr → Prop) (D : List C) (sg : Sg) (q : PPar) (U : List Str), vs = [.ref b, .ref q.p, .int t] ∧ BagR H b n ∧ n ≤ 40000 ∧ POk K S H D sg q ∧ Gd U D ∧ U.length ≤ 6 ∧ D ≠ [] ∧ t ≤ 10 ∧ ¬ S b ∧
  ∀ H' D', Frm K (fun x => S x ∨ x = b) H H' → BagR H' b (n + 20) → POk K S H' D' sg q → Gd U D' → Q .non H'
theorem ok_law_some_admitted (T : Tx K mg) : FnOk P w K mg base CX0 5 (He.fAd K d_law_some_admitted.at_) (fdOf K (He.fAd K d_law_some_admitted.at_)) ["_law_bag_here", "_law_plain", "_law_turns"] (spLSA K) := by
  refine (F_law_some_admitted T).ok sc_law_some_admitted (fun vs H Q E h => ?_) (fun cdv A outer s H vs Q E hr h => ?_)
  · obtain ⟨_, _, _, _, _, _, _, _, rfl, _⟩ := h
    rfl
  · obtain ⟨b, n, t, S, D, sg, q, U, rfl, hB, hn, W, g, hU, hD, ht, nSb, k⟩ := h
    have hu := hu_of hr
    refine ⟨_, PSs.nox (pss_one (ps_for PassesOwn.never rfl (pi_range1 rfl (z_range T) (pa_cons (pv 2) pa_nil)) (pg_name (i := 3) (sc_law_some_admitted).nd rfl (Or.inl rfl)) (pss_cons (ps_par (i := 4) (j := 5) rfl (sc_law_some_admitted).nd rfl rfl (by decide) rfl rfl (pa_cons (pe_call (ok_law_pick T) (hr.mono (by decide)) rfl (g_law_pick T) (F_law_pick T).kp (b_law_pick T) .nil pass0 (pa_cons (pv 0) (pa_cons (pe_dget hu (pv 1) pe_str (fun _ _ => rfl)) pa_nil))) (pa_cons (pe_call (ok_law_pick T) (hr.mono (by decide)) rfl (g_law_pick T) (F_law_pick T).kp (b_law_pick T) .nil pass0 (pa_cons (pv 0) (pa_cons (pe_dget hu (pv 1) pe_str (fun _ _ => rfl)) pa_nil))) pa_nil)) rfl)
    (pss_one (ps_if (pt_val (pe_call (ok_law_admits T) (hr.mono (by decide)) rfl (g_law_admits T) (F_law_admits T).kp (b_law_admits T) .nil pass0 (pa_cons (pv 1) (pa_cons (pv 4) (pa_cons (pv 5) pa_nil))))) (pss_one (ps_expr (pe_call (ok_law_admit T) (hr.mono (by decide)) rfl (g_law_admit T) (F_law_admit T).kp (b_law_admit T) .nil pass0 (pa_cons (pv 1) (pa_cons (pv 4) (pa_cons (pv 5) pa_nil)))))) pss_nil))))), ?_⟩
    refine ⟨_, rfl, t, rfl, by omega, by omega, ?_⟩
    rw [Int.toNat_natCast]
    refine for_it walk_range (fun i σ H' => ∃ (x y z : Option V) (D' : List C), σ = [some (.ref b), some (.ref q.p), some (.int t), x, y, z] ∧ Frm K (fun x => S x ∨ x = b) H H' ∧ BagR H' b (n + 2 * i) ∧ POk K S H' D' sg q ∧ Gd U D' ∧ D' ≠ [])
      ⟨_, _, _, D, rfl, .refl, hB, W, g, hD⟩ (fun _ _ _ _ _ => trivial) ?_ ?_
    · rintro i x σ H1 H1' hi ⟨_, _, _, D', rfl, f1, hB1, W1, g1, hD1⟩ ⟨rfl, rfl⟩
      have nlb : q.nl ≠ b := fun z => nSb (z ▸ W1.sn)
      have lp : 0 < (strL (nms D')).length := by
        rw [strL_length, List.length_map]
        exact List.length_pos_iff.mpr hD1
      have ll : (strL (nms D')).length ≤ 1000 := by
        rw [strL_length, List.length_map]
        have := g1.len
        omega
      refine ⟨_, rfl, _, rfl, q.p, _, rfl, W1.kN, b, q.nl, _, _, rfl, hB1, W1.nl_, nlb, by omega, lp, ll, fun v H2 hv f2 hB2 => ?_⟩
      have W2 := W1.bag hB1 f2
      obtain ⟨nn, hnn, rfl⟩ := List.mem_map.mp hv
      refine ⟨_, rfl, _, rfl, q.p, _, rfl, W2.kN, b, q.nl, _, _, rfl, hB2, W2.nl_, nlb, by omega, lp, ll, fun v H3 hv3 f3 hB3 => ?_⟩
      have W3 := W2.bag hB2 f3
      obtain ⟨oo, hoo, rfl⟩ := List.mem_map.mp hv3
      refine ⟨_, _, rfl, ?_⟩
      refine ⟨_, rfl, _, rfl, _, rfl, S, D', sg, q, nn, oo, rfl, W3, g1.wf hU, fun c hc => (g1.rg c hc).1, hnn, hoo, fun bb H4 e4 hbb => ⟨_, rfl, ?_⟩⟩
      have W4 := W3.ext e4
      have f14 := (f2.trans f3).trans e4.of
      have hB4 := hB3.ext e4
      cases bb with
      | false => exact iteF ⟨_, _, _, D', rfl, f1.trans (f14.mono fun x z => .inr z), hB4, W4, g1, hD1⟩
      | true =>
        obtain ⟨hs, hr'⟩ := hbb rfl
        refine iteT ⟨_, rfl, _, rfl, _, rfl, S, D', sg, q, nn, oo, rfl, W4, g1.wf hU, hnn, fun H5 f5 W5 => ?_⟩
        refine ⟨_, _, _, addReg D' nn oo, rfl, (f1.trans (f14.mono fun x z => .inr z)).trans (f5.mono fun x z => .inl z), hB4.frm f5 nSb, W5, g1.add hnn hoo hs hr', fun z => hD1 ?_⟩
        unfold addReg at z
        exact List.map_eq_nil_iff.mp z
    · rintro σ H1 ⟨_, _, _, D', rfl, f1, hB1, W1, g1, hD1⟩
      exact k H1 D' f1 (hB1.mono (by omega)) W1 g1
end
end ST
set_option maxHeartbeats 4000000
namespace ST
open PySem PySem.Spec PyProof.Rows L2
open LamX (CodeO Tabs TabB)
def nl1 : List Str := ["a", "b", "c", "d", "e", "g", "h", "i"]
def nl2 : List Str := ["aa", "ab", "a", "ba", "b", "sworn", "f", "z"]
def ml0 : List Str := ["f", "g", "h", "run", "size"]
theorem nl1_ok : (∀ x ∈ nl1, nameOk x) ∧ nl1.Nodup := by
  unfold nameOk
  decide +kernel
theorem nl2_ok : (∀ x ∈ nl2, nameOk x) ∧ nl2.Nodup := by
  unfold nameOk
  decide +kernel
theorem ml0_ok : (∀ x ∈ ml0, nameOk x) ∧ ml0.Nodup := by
  unfold nameOk
  decide +kernel
theorem Frm.over {K : PySem.W.Frag} {A B : Addr → Prop} {H H1 H2 : Hp} (a : Frm K A H H1) (b : Frm K B H1 H2) (h : ∀ x, B x → ¬ Al H x ∨ A x) : Frm K A H H2 :=
  ⟨fun p o e n t => b.keep p o (a.keep p o e n t) n fun z => (h p z).elim (fun y => (y (al_of e n)).elim) t, fun p h => b.al p (a.al p h), fun h => b.tabs (a.tabs h)⟩
theorem POk.narrow {K : PySem.W.Frag} {S S' : Addr → Prop} {H : Hp} {D : List C} {sg : Sg} {q : PPar} (w : POk K S H D sg q) (h : ∀ x, S x → Al H x → S' x) : POk K S' H D sg q := { w with
  sn := h _ w.sn (al_of w.nl_ (nt_lst _))
  sb := h _ w.sb (al_of w.db_ (nt_dK _))
  sw_ := h _ w.sw_ (al_of w.dw_ (nt_dK _))
  ss := h _ w.ss (al_of w.ds_ (nt_dK _))
  su := h _ w.su (al_of w.du_ (nt_dK _))
  so := h _ w.so (al_of w.do_ (nt_dK _))
  sl_ := h _ w.sl_ (al_of w.dl_ (nt_dK _))
  sll := fun c hc => h _ (w.sll c hc) (al_of (w.l_ c hc) (nt_lst _)) }
section
variable {P : Program} {w : World} {K : PySem.W.Frag} {mg : Str → Option Value} {base : Heap}
structure UOk (U : List Str) : Prop where
  len : U.length ≤ 5
  nd : U.Nodup
  ok : ∀ m ∈ U, nameOk m
def spLDn (K : PySem.W.Frag) : Sp := fun vs H Q _ => ∃ (b : Addr) (n : Nat), vs = [.ref b, .int 7] ∧ BagR H b n ∧ n ≤ 30000 ∧
  ∀ H' D sg q U, Frm K (fun x => x = b) H H' → BagR H' b (n + 600) → POk K (fun x => ¬ Al H x) H' D sg q → Gd U D → UOk U → (∀ x, SgOne (sg x)) → Q (.ref q.p) H'
theorem ok_law_drawn (T : Tx K mg) : FnOk P w K mg base CX0 6 (He.fAd K d_law_drawn.at_) (fdOf K (He.fAd K d_law_drawn.at_)) ["_law_bag_here", "_law_most"] (spLDn K) := by
  refine (F_law_drawn T).ok sc_law_drawn (fun vs H Q E h => ?_) (fun cdv A outer s H vs Q E hr h => ?_)
  · obtain ⟨_, _, rfl, _⟩ := h
    rfl
  · obtain ⟨b, n, rfl, hB, hn, k⟩ := h
    have hu := hu_of hr
    refine ⟨_, PSs.nox (pss_cons (ps_set (i := 2) (sc_law_drawn).nd rfl (Or.inl rfl) (pe_call0 (ok_law_new T) (hr.mono (by decide)) rfl (g_law_new T) (F_law_new T).kp (b_law_new T) .nil pass0))
    (pss_cons (ps_set (i := 3) (sc_law_drawn).nd rfl (Or.inl rfl) (pe_slice (l_l (K := K) rfl) (pe_lst (pa_cons pe_str (pa_cons pe_str (pa_cons pe_str (pa_cons pe_str (pa_cons pe_str pa_nil)))))) po_none (po_some (pe_call (ok_law_pick T) (hr.mono (by decide)) rfl (g_law_pick T) (F_law_pick T).kp (b_law_pick T) .nil pass0 (pa_cons (pv 0) (pa_cons (pe_lst (pa_cons pe_int (pa_cons pe_int (pa_cons pe_int (pa_cons pe_int (pa_cons pe_int (pa_cons pe_int pa_nil))))))) pa_nil))))))
    (pss_cons (ps_set (i := 4) (sc_law_drawn).nd rfl (Or.inl rfl) (pe_call (ok_law_pick T) (hr.mono (by decide)) rfl (g_law_pick T) (F_law_pick T).kp (b_law_pick T) .nil pass0 (pa_cons (pv 0) (pa_cons (pe_lst (pa_cons (pe_lst (pa_cons pe_str (pa_cons pe_str (pa_cons pe_str (pa_cons pe_str (pa_cons pe_str (pa_cons pe_str (pa_cons pe_str (pa_cons pe_str pa_nil))))))))) (pa_cons (pe_lst (pa_cons pe_str (pa_cons pe_str (pa_cons pe_str (pa_cons pe_str (pa_cons pe_str (pa_cons pe_str (pa_cons pe_str (pa_cons pe_str pa_nil))))))))) pa_nil))) pa_nil))))
    (pss_cons (ps_for PassesOwn.never rfl (i_list (K := K) rfl (pe_slice (l_l (K := K) rfl) (pv 4) po_none (po_some (pe_op op_add pe_int (pe_call (ok_law_take T) (hr.mono (by decide)) rfl (g_law_take T) (F_law_take T).kp (b_law_take T) .nil pass0 (pa_cons (pv 0) (pa_cons (pe_op op_sub (pv 1) pe_int) pa_nil))))))) (pg_name (i := 5) (sc_law_drawn).nd rfl (Or.inl rfl)) (pss_one (ps_expr (pe_call (ok_law_class T) (hr.mono (by decide)) rfl (g_law_class T) (F_law_class T).kp (b_law_class T) .nil pass0 (pa_cons (pv 0) (pa_cons (pv 2) (pa_cons (pv 5) (pa_cons (pv 3) pa_nil))))))))
    (pss_cons (ps_expr (pe_call (ok_law_some_admitted T) (hr.mono (by decide)) rfl (g_law_some_admitted T) (F_law_some_admitted T).kp (b_law_some_admitted T) .nil pass0 (pa_cons (pv 0) (pa_cons (pv 2) (pa_cons (pe_callB (k_min2 rfl) (by rfl) (z_min T) (by decide +kernel) (pa_cons (pe_op op_mul pe_int (pe_callB (k_len (K := K) rfl) (by rfl) (z_len T) (by decide +kernel) (pa_cons (pe_dget hu (pv 2) pe_str (fun _ _ => rfl)) pa_nil))) (pa_cons pe_int pa_nil))) pa_nil)))))
    (pss_one (ps_ret (pv 2)))))))), ?_⟩
    refine ⟨fun x => ¬ Al H x, rfl, fun x hx => hx, fun H1 q e1 W1 fq => ?_⟩
    refine ⟨Nat.le_of_ble_eq_true rfl, fun ml hml => ?_⟩
    have e2 : Ext K H1 (upd H1 ml (.lst [.str "f", .str "g", .str "h", .str "run", .str "size"])) := .new hml (nt_lst _)
    have hm2 : (upd H1 ml (.lst [.str "f", .str "g", .str "h", .str "run", .str "size"])) ml = some (.lst (strL ml0)) := upd_same
    have fml : ¬ Al H ml := fresh_of e1 hml
    have mb : ml ≠ b := (ne_fresh hB.al fml).symm
    generalize upd H1 ml (.lst [.str "f", .str "g", .str "h", .str "run", .str "size"]) = H2 at e2 hm2 ⊢
    refine ⟨_, rfl, Nat.le_of_ble_eq_true rfl, fun pl hpl => ?_⟩
    have e3 : Ext K H2 (upd H2 pl (.lst [.int 1, .int 2, .int 2, .int 3, .int 0, .int 2])) := .new hpl (nt_lst _)
    have hp3 : (upd H2 pl (.lst [.int 1, .int 2, .int 2, .int 3, .int 0, .int 2])) pl = some (.lst [.int 1, .int 2, .int 2, .int 3, .int 0, .int 2]) := upd_same
    have hB2 := hB.ext (e1.trans e2)
    have plb : pl ≠ b := (ne_fresh hB2.al (fresh_none hpl)).symm
    generalize upd H2 pl (.lst [.int 1, .int 2, .int 2, .int 3, .int 0, .int 2]) = H3 at e3 hp3 ⊢
    refine ⟨b, pl, n, _, rfl, hB2.ext e3, hp3, plb, by omega, by decide, by decide, fun v H4 hv f4 hB4 => ?_⟩
    obtain ⟨kk, rfl⟩ : ∃ kk : Nat, v = .int kk := by
      simp only [List.mem_cons, List.not_mem_nil, or_false] at hv
      rcases hv with z | z | z | z | z | z <;> rw [z]
      · exact ⟨1, rfl⟩
      · exact ⟨2, rfl⟩
      · exact ⟨2, rfl⟩
      · exact ⟨3, rfl⟩
      · exact ⟨0, rfl⟩
      · exact ⟨2, rfl⟩
    have W4 := ((W1.ext e2).ext e3).bag (hB2.ext e3) f4
    have g4 : Frm K (fun x => x = b) H H4 := ((e1.trans e2).trans e3).of.trans f4
    have hm4 := f4.lst (e3.at hm2 (nt_lst _)) mb
    refine ⟨kk, rfl, ml, _, rfl, .inl (.of hm4), fun ma hma => ?_⟩
    rw [cutTo]
    have st : (strL ml0).take kk = strL (ml0.take kk) := by
      unfold strL
      rw [List.map_take]
    rw [st]
    have uok : UOk (ml0.take kk) := ⟨by rw [List.length_take]; exact Nat.le_trans (Nat.min_le_right _ _) (by decide), ml0_ok.2.sublist (List.take_sublist _ _), fun m hm => ml0_ok.1 m (List.mem_of_mem_take hm)⟩
    generalize ml0.take kk = U at uok st
    clear st
    have e5 : Ext K H4 (upd H4 ma (.lst (strL U))) := .new hma (nt_lst _)
    have hma5 : (upd H4 ma (.lst (strL U))) ma = some (.lst (strL U)) := upd_same
    have fma : ¬ Al H ma := fresh_of g4 hma
    have mab : ma ≠ b := (ne_fresh hB.al fma).symm
    generalize upd H4 ma (.lst (strL U)) = H5 at e5 hma5 ⊢
    have W4 : POk K (fun x => ¬ Al H x ∧ x ≠ ma) H4 [] (fun _ => []) q := W4.narrow fun x h1 h2 => ⟨h1, ne_fresh h2 (fresh_none hma)⟩
    have W5 := W4.ext e5
    have hB5 := hB4.ext e5
    have g5 := g4.trans e5.of
    -- the names
    refine ⟨_, rfl, Nat.le_of_ble_eq_true rfl, fun a1 ha1 => ⟨Nat.le_of_ble_eq_true rfl, fun a2 ha2 => ⟨Nat.le_of_ble_eq_true rfl, fun al hal => ?_⟩⟩⟩
    have e6 : Ext K H5 (upd H5 a1 (.lst [.str "a", .str "b", .str "c", .str "d", .str "e", .str "g", .str "h", .str "i"])) := .new ha1 (nt_lst _)
    have h6 : (upd H5 a1 (.lst [.str "a", .str "b", .str "c", .str "d", .str "e", .str "g", .str "h", .str "i"])) a1 = some (.lst (strL nl1)) := upd_same
    generalize upd H5 a1 (.lst [.str "a", .str "b", .str "c", .str "d", .str "e", .str "g", .str "h", .str "i"]) = H6 at e6 h6 ha2 hal ⊢
    have e7 : Ext K H6 (upd H6 a2 (.lst [.str "aa", .str "ab", .str "a", .str "ba", .str "b", .str "sworn", .str "f", .str "z"])) := .new ha2 (nt_lst _)
    have h7 : (upd H6 a2 (.lst [.str "aa", .str "ab", .str "a", .str "ba", .str "b", .str "sworn", .str "f", .str "z"])) a2 = some (.lst (strL nl2)) := upd_same
    generalize upd H6 a2 (.lst [.str "aa", .str "ab", .str "a", .str "ba", .str "b", .str "sworn", .str "f", .str "z"]) = H7 at e7 h7 hal ⊢
    have e8 : Ext K H7 (upd H7 al (.lst [.ref a1, .ref a2])) := .new hal (nt_lst _)
    have h8 : (upd H7 al (.lst [.ref a1, .ref a2])) al = some (.lst [.ref a1, .ref a2]) := upd_same
    have e58 := (e6.trans e7).trans e8
    have fa1 : ¬ Al H a1 := fresh_of g5 ha1
    have fa2 : ¬ Al H a2 := fresh_of (g5.trans e6.of) ha2
    have fal : ¬ Al H al := fresh_of ((g5.trans e6.of).trans e7.of) hal
    have h81 := e8.at (e7.at h6 (nt_lst _)) (nt_lst _)
    have h82 := e8.at h7 (nt_lst _)
    generalize upd H7 al (.lst [.ref a1, .ref a2]) = H8 at e8 h8 e58 h81 h82 ⊢
    refine ⟨b, al, _, _, rfl, hB5.ext e58, h8, (ne_fresh hB.al fal).symm, by omega, Nat.le_of_ble_eq_true rfl, Nat.le_of_ble_eq_true rfl, fun v H9 hv f9 hB9 => ?_⟩
    have W9 := (W5.ext e58).bag (hB5.ext e58) f9
    have g9 := (g5.trans e58.of).trans f9
    obtain ⟨an, NL, rfl, han, hNok, hNnd, hNlen⟩ : ∃ (an : Addr) (NL : List Str), v = .ref an ∧ H9 an = some (.lst (strL NL)) ∧ (∀ x ∈ NL, nameOk x) ∧ NL.Nodup ∧ NL.length = 8 := by
      simp only [List.mem_cons, List.not_mem_nil, or_false] at hv
      rcases hv with z | z <;> rw [z]
      · exact ⟨a1, nl1, rfl, f9.lst h81 (ne_fresh hB.al fa1).symm, nl1_ok.1, nl1_ok.2, rfl⟩
      · exact ⟨a2, nl2, rfl, f9.lst h82 (ne_fresh hB.al fa2).symm, nl2_ok.1, nl2_ok.2, rfl⟩
    refine ⟨_, rfl, _, rfl, _, rfl, 7, 1, rfl, rfl, b, _, 6, rfl, hB9, by omega, by decide, by decide, fun j H10 hj f10 hB10 => ?_⟩
    have W10 := W9.bag hB9 f10
    have g10 := g9.trans f10
    have anb : an ≠ b := fun z => by
      obtain ⟨d, s', c, hbb, _⟩ := hB9
      rw [z, hbb] at han
      injection han with h
      injection h with h
      exact strL_ne_bag _ _ _ _ h.symm
    refine ⟨2, j, rfl, rfl, _, rfl, an, _, rfl, .inl (.of (f10.lst han anb)), fun sp hsp => ?_⟩
    have sN : cutV (strL NL) none (some ((2 : Int) + (j : Int))) = strL (NL.take (2 + j)) := by
      rw [show ((2 : Int) + (j : Int)) = ((2 + j : Nat) : Int) by omega, cutTo]
      unfold strL
      rw [List.map_take]
    rw [sN]
    have e11 : Ext K H10 (upd H10 sp (.lst (strL (NL.take (2 + j))))) := .new hsp (nt_lst _)
    have h11 : (upd H10 sp (.lst (strL (NL.take (2 + j))))) sp = some (.lst (strL (NL.take (2 + j)))) := upd_same
    have fsp : ¬ Al H sp := fresh_of g10 hsp
    have spb : sp ≠ b := (ne_fresh hB.al fsp).symm
    generalize upd H10 sp (.lst (strL (NL.take (2 + j)))) = H11 at e11 h11 ⊢
    have W10 : POk K (fun x => ¬ Al H x ∧ x ≠ ma ∧ x ≠ sp) H10 [] (fun _ => []) q := W10.narrow fun x h1 h2 => ⟨h1.1, h1.2, ne_fresh h2 (fresh_none hsp)⟩
    have W11 := W10.ext e11
    have g11 := g10.trans e11.of
    have hB11 := hB10.ext e11
    have hma11 : H11 ma = some (.lst (strL U)) := e11.at (f10.lst (f9.lst (e58.at hma5 (nt_lst _)) mab) mab) (nt_lst _)
    refine ⟨sp, rfl, ⟨_, .of h11⟩, ?_⟩
    have tl : (NL.take (2 + j)).length ≤ 7 := by rw [List.length_take]; omega
    have tok : ∀ x ∈ NL.take (2 + j), nameOk x := fun x hx => hNok x (List.mem_of_mem_take hx)
    have tnd : (NL.take (2 + j)).Nodup := hNnd.sublist (List.take_sublist _ _)
    have tpos : 2 ≤ (NL.take (2 + j)).length := by rw [List.length_take]; omega
    generalize NL.take (2 + j) = NT' at h11 tl tok tnd tpos ⊢
    refine for_it walk_list (fun i σ H' => ∃ (x : Option V) (D : List C) (sg : Sg) (q' : PPar), σ = [some (.ref b), some (.int 7), some (.ref q.p), some (.ref ma), some (.ref an), x] ∧ Frm K (fun x => x = b) H H' ∧ BagR H' b (n + 3 + 60 * i) ∧ POk K (fun x => ¬ Al H x ∧ x ≠ ma ∧ x ≠ sp) H' D sg q' ∧ q'.p = q.p ∧ (∀ x, SgOne (sg x)) ∧ Mk U D ∧ nms D = NT'.take i ∧ H' ma = some (.lst (strL U)) ∧ H' sp = some (.lst (strL NT')) ∧ Frm K (fun x => x = b) H H')
      ⟨_, [], fun _ => [], q, rfl, g11, hB11, W11, rfl, fun x => ⟨Nat.zero_le _, fun z hz => (by cases hz), List.nodup_nil⟩, .nil, rfl, hma11, h11, g11⟩ (fun i σ H' _ ⟨_, _, _, _, _, _, _, _, _, _, _, _, _, h, _⟩ => .inl (.of h)) ?_ ?_
    · rintro i x σ H12 H12' hi ⟨_, D, sg, q', rfl, f12, hB12, W12, eq', hsg, m12, hnm, hma12, hsp12, _⟩ ⟨rfl, hx⟩
      obtain ⟨nn, hnn, rfl, nm⟩ := strL_get hx
      have il : i < 7 := by
        have := (List.getElem?_eq_some_iff.mp hnn).1
        omega
      have Dl : D.length ≤ 7 := by
        have : (nms D).length = D.length := List.length_map ..
        rw [hnm, List.length_take] at this
        omega
      have t1 : NT'.take (i + 1) = NT'.take i ++ [nn] := by rw [List.take_succ, hnn]; rfl
      have nin : nn ∉ nms D := fun z => by
        rw [hnm] at z
        obtain ⟨j', hj'⟩ := List.getElem?_of_mem z
        have hlt : j' < i := by
          have := (List.getElem?_eq_some_iff.mp hj').1
          rw [List.length_take] at this
          omega
        rw [List.getElem?_take_of_lt hlt] at hj'
        have := nodup_ix tnd hj' hnn
        omega
      refine ⟨_, rfl, _, rfl, _, rfl, _, rfl, b, _, _, D, sg, q', nn, ma, U, by rw [eq']; rfl, hB12, by omega, W12, hsg, m12, by omega, hma12, mab, uok.len, uok.nd, uok.ok, nin, tok nn nm, fun z => z.1 hB.al, fun x hx => ⟨fun z => hx (f12.al x z), fun z => hx (z ▸ al_of hma12 (nt_lst _)), fun z => hx (z ▸ al_of hsp12 (nt_lst _))⟩, fun H13 c sg' q'' f13 hB13 W13 eq'' m13 ec hsg' => ?_⟩
      have G := f12.over f13 fun x z => z.elim (fun y => .inl y.1) .inr
      refine ⟨_, D ++ [c], sg', q'', rfl, G, hB13.mono (by omega), W13, eq''.trans eq', hsg', m13, ?_, f13.lst hma12 fun z => z.elim (fun y => y.2.1 rfl) mab, f13.lst hsp12 fun z => z.elim (fun y => y.2.2 rfl) spb, G⟩
      unfold nms at hnm ⊢
      rw [List.map_append, hnm, t1, ← ec]
      rfl
    · rintro σ H12 ⟨_, D, sg, q', rfl, f12, hB12, W12, eq', hsg, m12, hnm, hma12, hsp12, _⟩
      rw [strL_length] at hB12 hnm
      rw [List.take_length] at hnm
      have Dl : D.length = NT'.length := by
        have : (nms D).length = D.length := List.length_map ..
        rw [hnm] at this
        exact this.symm
      have kN := W12.kN
      rw [eq'] at kN
      refine ⟨_, rfl, _, rfl, _, rfl, q.p, _, rfl, kN, q'.nl, _, rfl, .inl (.inl (.of W12.nl_)), 2, _, rfl, rfl, .inl ⟨by omega, by omega⟩, _, _, rfl, ?_⟩
      rw [strL_length, List.length_map]
      obtain ⟨t, ht, ht10⟩ : ∃ t : Nat, (if (10 : Int) < 2 * (D.length : Int) then (10 : Int) else 2 * (D.length : Int)) = (t : Int) ∧ t ≤ 10 := by
        split
        · exact ⟨10, rfl, Nat.le_refl _⟩
        · exact ⟨2 * D.length, by omega, by omega⟩
      rw [ht]
      refine ⟨b, _, t, _, D, sg, q', U, by rw [eq']; rfl, hB12, by omega, W12, m12.gd (by omega), by have := uok.len; omega, fun z => by rw [z] at Dl; simp at Dl; omega, ht10, fun z => z.1 hB.al, fun H13 D' f13 hB13 W13 g13 => ?_⟩
      have G := f12.over f13 fun x z => z.elim (fun y => .inl y.1) .inr
      refine ⟨_, rfl, ?_⟩
      rw [← eq']
      exact k H13 D' sg q' U G (hB13.mono (by omega)) (W13.narrow fun x h _ => h.1) g13 uok hsg
end
end ST
set_option maxHeartbeats 4000000
namespace ST
open PySem PySem.Spec PyProof.Rows L2
open LamX (CodeO Tabs TabB)
section
variable {P : Program} {w : World} {K : PySem.W.Frag} {mg : Str → Option Value} {base : Heap}
def spLMi (K : PySem.W.Frag) : Sp := fun vs H Q _ => ∃ (S Sw : Addr → Prop) (D E : List C) (sg : Sg) (q : PPar) (wd : Addr) (n : Str) (rest : List Str), vs = [.ref wd, .ref q.p, .str n] ∧ WldM K Sw H wd E ∧ (∀ x, ¬ Al H x → Sw x) ∧ POk K S H D sg q ∧ n ∈ nms D ∧
  Wf E ∧ nameOk n ∧ n ∉ nms E ∧ (∀ b ∈ (at_ D n).bs, b ∈ nms E) ∧ (at_ D n).bs.Nodup ∧ (at_ D n).bs.length ≤ 3 ∧ SgOne (sg n) ∧ (∀ h, (at_ D n).hk = some h → hkOk h ∧ ((at_ D n).ow = true ∨ ∃ b ∈ (at_ D n).bs, sw E b = true)) ∧
  mrg 1000 (((at_ D n).bs.map fun b => (at_ E b).ln) ++ [(at_ D n).bs]) = some rest ∧ (at_ D n).ln = n :: rest ∧ rest.length ≤ 1000 ∧
  ∀ H', Frm K Sw H H' → WldM K Sw H' wd (E ++ [{ at_ D n with rg := [] }]) → Q .non H'
theorem ok_law_made_in (T : Tx K mg) : FnOk P w K mg base CX0 10 (He.fAd K d_law_made_in.at_) (fdOf K (He.fAd K d_law_made_in.at_)) ["_law_world", "_law_plain", "_law_name"] (spLMi K) := by
  refine (F_law_made_in T).ok sc_law_made_in (fun vs H Q E h => ?_) (fun cdv A outer s H vs Q E hr h => ?_)
  · obtain ⟨_, _, _, _, _, _, _, _, _, rfl, _⟩ := h
    rfl
  · obtain ⟨S, Sw, D, E, sg, q, wd, n, rest, rfl, ⟨p, WM⟩, hSw, W, hn, wfE, hok, hnE, hbs, hbnd, hb3, hsg, hhk, hmrg, hln, hrl, k⟩ := h
    have hu := hu_of hr
    refine ⟨_, PSs.nox (pss_cons (ps_par (i := 3) (j := 4) rfl (sc_law_made_in).nd rfl rfl (by decide) rfl rfl (pa_cons (pe_dget hu (pe_dget hu (pv 1) pe_str (fun _ _ => rfl)) (pv 2) (fun _ _ => rfl)) (pa_cons (LiI.pe_listItems rfl (pe_dget hu (pe_dget hu (pv 1) pe_str (fun _ _ => rfl)) (pv 2) (fun _ _ => rfl)) (by rfl) (z_list T) (by rfl)) pa_nil)) rfl)
    (pss_cons (ps_set (i := 5) (sc_law_made_in).nd rfl (Or.inl rfl) (pe_dget hu (pe_dget hu (pv 1) pe_str (fun _ _ => rfl)) (pv 2) (fun _ _ => rfl)))
    (pss_cons (ps_asg (pe_ifExp (pt_cmpR op_notN (pv 5) pe_non (nomark _)) (pv 5) (pe_tup (pa_cons pe_non (pa_cons pe_bl pa_nil)))) (g_tup (K := K) rfl rfl (pgs_cons (pg_name (i := 6) (sc_law_made_in).nd rfl (Or.inl rfl)) (pgs_cons (pg_name (i := 7) (sc_law_made_in).nd rfl (Or.inl rfl)) pgs_nil))))
    (pss_cons (ps_set (i := 8) (sc_law_made_in).nd rfl (Or.inl rfl) (pe_dget hu (pe_dget hu (pv 1) pe_str (fun _ _ => rfl)) (pv 2) (fun _ _ => rfl)))
    (pss_one (ps_if (pt_cmpR (o_eqT (K := K) rfl hr.units) (pv 8) (pe_lst pa_nil) (nomark _)) (pss_one (ps_expr (pe_methM (pl := _) (pv 0) (cl_World T) (m_World_make T) (call_World_make T) (hr.mono (by decide)) (pa_cons (pv 2) pa_nil) (pk_cons (pv 3) (pk_cons (pv 4) (pk_cons (pv 6) (pk_cons (pv 7) pk_nil))))))) (pss_one (ps_if (pt_cmpR op_eq (pe_callB (k_len (K := K) rfl) (by rfl) (z_len T) (by decide +kernel) (pa_cons (pv 8) pa_nil)) pe_int (nomark _)) (pss_one (ps_expr (pe_methM (pl := _) (pv 0) (cl_World T) (m_World_make T) (call_World_make T) (hr.mono (by decide)) (pa_cons (pv 2) (pa_cons (pe_ix (x_l (K := K) rfl) (pv 8) pe_int (fun _ _ => rfl)) pa_nil)) (pk_cons (pv 3) (pk_cons (pv 4) (pk_cons (pv 6) (pk_cons (pv 7) pk_nil))))))) (pss_one (ps_if (pt_cmpR op_eq (pe_callB (k_len (K := K) rfl) (by rfl) (z_len T) (by decide +kernel) (pa_cons (pv 8) pa_nil)) pe_int (nomark _)) (pss_one (ps_expr (pe_methM (pl := _) (pv 0) (cl_World T) (m_World_make T) (call_World_make T) (hr.mono (by decide)) (pa_cons (pv 2) (pa_cons (pe_ix (x_l (K := K) rfl) (pv 8) pe_int (fun _ _ => rfl)) (pa_cons (pe_ix (x_l (K := K) rfl) (pv 8) pe_int (fun _ _ => rfl)) pa_nil))) (pk_cons (pv 3) (pk_cons (pv 4) (pk_cons (pv 6) (pk_cons (pv 7) pk_nil))))))) (pss_one (ps_expr (pe_methM (pl := _) (pv 0) (cl_World T) (m_World_make T) (call_World_make T) (hr.mono (by decide)) (pa_cons (pv 2) (pa_cons (pe_ix (x_l (K := K) rfl) (pv 8) pe_int (fun _ _ => rfl)) (pa_cons (pe_ix (x_l (K := K) rfl) (pv 8) pe_int (fun _ _ => rfl)) (pa_cons (pe_ix (x_l (K := K) rfl) (pv 8) pe_int (fun _ _ => rfl)) pa_nil)))) (pk_cons (pv 3) (pk_cons (pv 4) (pk_cons (pv 6) (pk_cons (pv 7) pk_nil))))))))))))))))), ?_⟩
    obtain ⟨am1, am2⟩ := at_mem hn
    refine ⟨_, rfl, q.p, _, rfl, W.kW, _, rfl, q.dw, _, rfl, W.gW hn, _, rfl, q.p, _, rfl, W.kS, _, rfl, q.ds, _, rfl, W.gS hn, q.sl n, _, rfl, W.s hn, fun H1 am ts hx1 _ _ _ ham hpr => ⟨_, _, rfl, ?_⟩⟩
    have e1 : Ext K H H1 := ⟨fun b o h _ _ => hx1 b o h, fun b ⟨o, h, nt⟩ => ⟨o, hx1 _ _ h, nt⟩, fun t => t.ext hx1⟩
    have hM1 : PairsR H1 am (sg n) := by
      refine ⟨ts, ham, ?_⟩
      have : ∀ (l : List (Str × Str)) (ts : List Addr), Paired (fun (t : Addr) (q : Key × V) => H1 t = some (.tup [kV q.1, q.2])) ts (l.map fun z => ((.inr z.1 : Key), V.str z.2)) → Paired (fun (r : Addr) (q : Str × Str) => H1 r = some (.tup [.str q.1, .str q.2])) ts l := fun l => by
        induction l with
        | nil =>
          intro ts h
          cases h
          exact .nil
        | cons z r ih =>
          intro ts h
          cases h with
          | cons h t => exact .cons h (ih _ t)
      exact this _ _ hpr
    have W1 := W.ext e1
    -- the rule
    refine ⟨_, rfl, q.p, _, rfl, W1.kU, _, rfl, q.du, _, rfl, W1.gU hn, ?_⟩
    have hR := W1.r hn
    have fin : ∀ (H2 : Hp) (hv : V) (Qx : VK), Ext K H1 H2 → HkR H2 hv (at_ D n).hk → (∀ H', Frm K Sw H H' → WldM K Sw H' wd (E ++ [{ at_ D n with rg := [] }]) → Qx .non H') → ∀ bs, (at_ D n).bs = bs → spMake K (.ref wd :: .str n :: strL bs) [.bl (at_ D n).ow, .ref am, hv, .bl (at_ D n).pa] H2 Qx := by
      rintro H2 hv Qx e2 hH kx _ rfl
      refine ⟨wd, am, E, Sw, n, (at_ D n).bs, rest, (at_ D n).ow, (at_ D n).pa, hv, (at_ D n).hk, sg n, 1000, rfl, rfl, hb3, fun ab hab => ?_⟩
      have e3 : Ext K H2 (upd H2 ab (.tup (strL (at_ D n).bs))) := .new hab (nt_tup _)
      have e03 := (e1.trans e2).trans e3
      refine ⟨⟨p, WM.ext e03⟩, wfE, hok, hnE, upd_same, hbs, hbnd, hb3, hM1.frm (e2.trans e3) (fun z => z), hsg.1, hsg.2.1, hsg.2.2, hH.frm e3, hhk, hmrg, Nat.le_refl _, hrl, fun b hb => hSw b fun z => hb (e03.al b z), fun H4 f4 W4 => ?_⟩
      have ec : ∀ c : C, c.nm = n → c.ln = n :: rest → (⟨n, c.bs, c.ow, c.hk, c.pa, n :: rest, []⟩ : C) = { c with rg := [] } := fun c h1 h2 => by
        rw [← h2, ← h1]
      rw [ec _ am2 hln] at W4
      exact kx H4 (e03.of.trans f4) W4
    refine ⟨_, rfl, rfl, _, rfl, ?_⟩
    cases hh : (at_ D n).hk
    case' none =>
      rw [hh] at hR
      obtain ⟨hv, hpa⟩ := hR
      rw [hv]
      refine iteF ⟨Nat.le_of_ble_eq_true rfl, fun t ht => ⟨t, _, rfl, .of upd_same, rfl, _, _, rfl, _, _, rfl, rfl, ?_⟩⟩
      have e2 : Ext K H1 (upd H1 t (.tup [.non, .bl false])) := .new ht (nt_tup _)
      have hH : HkR (upd H1 t (.tup [.non, .bl false])) .non (at_ D n).hk := by rw [hh]; rfl
      generalize upd H1 t (.tup [.non, .bl false]) = H2 at e2 hH ⊢
      rw [← hpa]
    case' some h =>
      rw [hh] at hR
      obtain ⟨r, a, hv, hr1, hr2⟩ := hR
      rw [hv]
      refine iteT ⟨_, rfl, r, _, rfl, .of hr1, rfl, _, _, rfl, _, _, rfl, rfl, ?_⟩
      have e2 : Ext K H1 H1 := .refl
      have hH : HkR H1 (.ref a) (at_ D n).hk := by rw [hh]; exact hr2
    all_goals
      have W2 := W1.ext e2
      have wd2 := (WM.ext (e1.trans e2)).wd_
      refine ⟨_, rfl, q.p, _, rfl, W2.kB, _, rfl, q.db, _, rfl, W2.gB hn, ?_⟩
      have hb2 := W2.b hn
      refine ⟨_, rfl, Nat.zero_le _, fun z hz => ⟨List Str, inferInstance, inferInstance, (at_ D n).bs, [], ?_⟩⟩
      have e3 := Frm.new (K := K) (S := fun _ => False) hz (nt_lst [])
      refine ⟨dp_strs (e3.at hb2 (nt_lst _)), dp_strs upd_same, by decide, _, rfl, ?_⟩
      have hb3' := e3.at hb2 (nt_lst _)
      have wd3 := (WM.ext ((e1.trans e2).trans e3)).wd_
      have e23 := e2.trans e3
      have hH3 := hH.frm e3
      match hbe : (at_ D n).bs, hb3 with
      | [], _ =>
        refine iteT ⟨_, rfl, wd, p.dx, _, rfl, wd3, rfl, _, rfl, _, rfl, _, rfl, _, rfl, _, rfl, ?_⟩
        exact fin _ _ _ e23 hH3 (fun H' f W' => k H' f W') [] hbe
      | [b0], _ =>
        rw [hbe] at hb3'
        refine iteF ?_
        refine ⟨_, rfl, q.bl n, _, rfl, .inl (.inl (.of hb3')), rfl, _, rfl, ?_⟩
        refine iteT ?_
        refine ⟨_, rfl, wd, p.dx, _, rfl, wd3, rfl, _, rfl, _, rfl, q.bl n, _, 0, .str b0, rfl, rfl, .inl (.of hb3'), rfl, _, rfl, _, rfl, _, rfl, _, rfl, ?_⟩
        exact fin _ _ _ e23 hH3 (fun H' f W' => k H' f W') [b0] hbe
      | [b0, b1], _ =>
        rw [hbe] at hb3'
        refine iteF ?_
        refine ⟨_, rfl, q.bl n, _, rfl, .inl (.inl (.of hb3')), rfl, _, rfl, ?_⟩
        refine iteF ?_
        refine ⟨_, rfl, q.bl n, _, rfl, .inl (.inl (.of hb3')), rfl, _, rfl, ?_⟩
        refine iteT ?_
        refine ⟨_, rfl, wd, p.dx, _, rfl, wd3, rfl, _, rfl, _, rfl, q.bl n, _, 0, .str b0, rfl, rfl, .inl (.of hb3'), rfl, _, rfl, q.bl n, _, 1, .str b1, rfl, rfl, .inl (.of hb3'), rfl, _, rfl, _, rfl, _, rfl, _, rfl, ?_⟩
        exact fin _ _ _ e23 hH3 (fun H' f W' => k H' f W') [b0, b1] hbe
      | [b0, b1, b2], _ =>
        rw [hbe] at hb3'
        refine iteF ?_
        refine ⟨_, rfl, q.bl n, _, rfl, .inl (.inl (.of hb3')), rfl, _, rfl, ?_⟩
        refine iteF ?_
        refine ⟨_, rfl, q.bl n, _, rfl, .inl (.inl (.of hb3')), rfl, _, rfl, ?_⟩
        refine iteF ?_
        refine ⟨_, rfl, wd, p.dx, _, rfl, wd3, rfl, _, rfl, _, rfl, q.bl n, _, 0, .str b0, rfl, rfl, .inl (.of hb3'), rfl, _, rfl, q.bl n, _, 1, .str b1, rfl, rfl, .inl (.of hb3'), rfl, _, rfl, q.bl n, _, 2, .str b2, rfl, rfl, .inl (.of hb3'), rfl, _, rfl, _, rfl, _, rfl, _, rfl, ?_⟩
        exact fin _ _ _ e23 hH3 (fun H' f W' => k H' f W') [b0, b1, b2] hbe
      | b0 :: b1 :: b2 :: b3 :: r, hl => exact absurd hl (by simp)
end
end ST
set_option maxHeartbeats 4000000
namespace ST
open PySem PySem.Spec PyProof.Rows L2
theorem Mk.pre {U : List Str} {D : List C} (m : Mk U D) : ∀ (i : Nat) (c : C), D[i]? = some c → Mk U (D.take i) ∧ c.nm ∉ nms (D.take i) ∧ nameOk c.nm ∧ (∀ b ∈ c.bs, b ∈ nms (D.take i)) ∧ c.bs.Nodup ∧ c.bs.length ≤ 3 ∧
    (∃ rest, mrg 1000 ((c.bs.map fun b => (at_ (D.take i) b).ln) ++ [c.bs]) = some rest ∧ c.ln = c.nm :: rest) ∧ ∀ h, c.hk = some h → RlOk U h ∧ (c.ow = true ∨ ∃ b ∈ c.bs, sw (D.take i) b = true) := by
  induction m with
  | nil => exact fun i c h => by cases h
  | @snoc D c rest m hn ok hb hnd h3 hm hl hrg hk hp ih =>
    intro i d hd
    by_cases hi : i < D.length
    · rw [List.getElem?_append_left hi] at hd
      rw [List.take_append_of_le_length (Nat.le_of_lt hi)]
      exact ih i d hd
    · have hlt := (List.getElem?_eq_some_iff.mp hd).1
      rw [List.length_append] at hlt
      have hlt : i < D.length + 1 := hlt
      have ei : i = D.length := by omega
      subst ei
      rw [List.getElem?_append_right (Nat.le_refl _), Nat.sub_self] at hd
      cases hd
      have et : (D ++ [c]).take D.length = D := by rw [List.take_append_of_le_length (Nat.le_refl _), List.take_length]
      rw [et]
      exact ⟨m, hn, ok, hb, hnd, h3, ⟨rest, hm, hl⟩, hk⟩
/-- the same classes, fewer registrations -/
def Le (E D : List C) : Prop := Paired (fun (e d : C) => e = { d with rg := e.rg } ∧ ∀ o ∈ e.rg, o ∈ d.rg) E D
section
variable {U : List Str} {D E : List C}
theorem Le.nms (h : Le E D) : nms E = nms D := by
  induction h with
  | nil => rfl
  | cons h _ ih =>
    show _ :: ST.nms _ = _ :: ST.nms _
    rw [ih, h.1]
theorem Le.un (h : Le E D) : un E = un D := by
  induction h with
  | nil => rfl
  | cons h _ ih =>
    show _ :: ST.un _ = _ :: ST.un _
    rw [ih, h.1]
theorem Le.at_ (h : Le E D) (x : Str) : (at_ E x).ln = (at_ D x).ln ∧ (at_ E x).ow = (at_ D x).ow ∧ ∀ o ∈ (at_ E x).rg, o ∈ (at_ D x).rg := by
  induction h with
  | nil => exact ⟨rfl, rfl, fun _ h => h⟩
  | @cons e d es ds h _ ih =>
    have en : e.nm = d.nm := by rw [h.1]
    by_cases z : d.nm = x
    · have e1 : ST.at_ (d :: ds) x = d := by
        unfold ST.at_
        rw [List.find?_cons, decide_eq_true z]
        rfl
      have e2 : ST.at_ (e :: es) x = e := by
        unfold ST.at_
        rw [List.find?_cons, decide_eq_true (en.trans z)]
        rfl
      rw [e1, e2]
      exact ⟨by rw [h.1], by rw [h.1], h.2⟩
    · have e1 : ST.at_ (d :: ds) x = ST.at_ ds x := by
        unfold ST.at_
        rw [List.find?_cons, decide_eq_false z]
      have e2 : ST.at_ (e :: es) x = ST.at_ es x := by
        unfold ST.at_
        rw [List.find?_cons, decide_eq_false (by rw [en]; exact z)]
      rw [e1, e2]
      exact ih
theorem Le.sw (h : Le E D) (x : Str) : sw E x = sw D x := sw_congr (h.at_ x).1 fun m _ => (h.at_ m).2.1
theorem Le.subs (h : Le E D) (x : Str) : subs E x = subs D x := by
  unfold ST.subs
  induction h with
  | nil => rfl
  | @cons e d es ds h _ ih =>
    have en : e.nm = d.nm := by rw [h.1]
    have eb : e.bs = d.bs := by rw [h.1]
    rw [List.filter_cons, List.filter_cons, eb]
    split
    · rw [List.map_cons, List.map_cons, ih, en]
    · exact ih
theorem Le.nxt (h : Le E D) {x y : Str} (hy : y ∈ nxt E x) : y ∈ nxt D x := by
  obtain ⟨h1, h2⟩ := nxt_iff.mp hy
  rw [h.sw] at h1
  rw [h.subs] at h2
  exact nxt_iff.mpr ⟨h1, h2.imp (fun z => (h.at_ x).2.2 y z) id⟩
theorem Le.rch (h : Le E D) {x y : Str} (r : Rch E x y) : Rch D x y := by
  induction r with
  | refl => exact .refl
  | step _ hc ih => exact ih.step (h.nxt hc)
theorem Le.mem (h : Le E D) {e : C} (he : e ∈ E) : ∃ d ∈ D, e = { d with rg := e.rg } ∧ ∀ o ∈ e.rg, o ∈ d.rg := by
  induction h with
  | nil => cases he
  | cons h _ ih =>
    rcases List.mem_cons.mp he with z | z
    · rw [z]
      exact ⟨_, List.mem_cons_self .., h⟩
    · obtain ⟨d, hd, q⟩ := ih z
      exact ⟨d, List.mem_cons_of_mem _ hd, q⟩
theorem Gd.le (g : Gd U D) (h : Le E D) (hnd : ∀ e ∈ E, e.rg.Nodup) : Gd U E := by
  refine ⟨by rw [h.un]; exact g.md, ?_, fun e he => ⟨hnd e he, fun o ho => ?_, fun hne => ?_⟩⟩
  · have : (ST.nms E).length = (ST.nms D).length := by rw [h.nms]
    rw [List.length_map, List.length_map] at this
    rw [this]
    exact g.len
  · obtain ⟨d, hd, e1, e2⟩ := h.mem he
    obtain ⟨q1, q2⟩ := (g.rg d hd).2.1 o (e2 o ho)
    rw [h.nms]
    refine ⟨q1, fun z => q2 ?_⟩
    rw [e1] at z
    exact h.rch z
  · obtain ⟨d, hd, e1, e2⟩ := h.mem he
    rw [h.sw, e1]
    refine (g.rg d hd).2.2 fun z => ?_
    cases hr : e.rg with
    | nil => exact hne hr
    | cons o r =>
      have := e2 o (by rw [hr]; exact List.mem_cons_self ..)
      rw [z] at this
      cases this
theorem Le.refl : ∀ D : List C, Le D D
  | [] => .nil
  | d :: r => .cons ⟨rfl, fun _ h => h⟩ (Le.refl r)
theorem Le.un_le : ∀ D : List C, Le (ST.un D) D
  | [] => .nil
  | d :: r => .cons ⟨rfl, fun _ h => (by cases h)⟩ (Le.un_le r)
/-- registered so far: all of the first i, j of the next -/
def prt (D : List C) (i : Nat) (c : C) (j : Nat) : List C := D.take i ++ { c with rg := c.rg.take j } :: ST.un (D.drop (i + 1))
theorem prt_le {i : Nat} {c : C} (hc : D[i]? = some c) (j : Nat) : Le (prt D i c j) D := by
  have e : D = D.take i ++ c :: D.drop (i + 1) := by
    rw [← drop_cons hc, List.take_append_drop]
  have : Le (prt D i c j) (D.take i ++ c :: D.drop (i + 1)) := paired_append (Le.refl _) (.cons ⟨rfl, fun o h => List.mem_of_mem_take h⟩ (Le.un_le _))
  rw [← e] at this
  exact this
theorem prt_zero {i : Nat} {c : C} (hc : D[i]? = some c) : prt D i c 0 = D.take i ++ ST.un (D.drop i) := by
  unfold prt
  rw [drop_cons hc]
  rfl
theorem prt_full {i : Nat} {c : C} (hc : D[i]? = some c) : prt D i c c.rg.length = D.take (i + 1) ++ ST.un (D.drop (i + 1)) := by
  unfold prt
  rw [List.take_succ, hc, List.take_length, List.append_assoc]
  rfl
theorem addReg_out {n o : Str} (h : n ∉ ST.nms D) : addReg D n o = D := by
  unfold addReg
  conv => rhs; rw [← List.map_id D]
  exact List.map_congr_left fun c hc => if_neg fun z => h (List.mem_map.mpr ⟨c, hc, z.1⟩)
theorem prt_succ (nd : (ST.nms D).Nodup) {i j : Nat} {c : C} {o : Str} (hc : D[i]? = some c) (hnd : c.rg.Nodup) (ho : c.rg[j]? = some o) : addReg (prt D i c j) c.nm o = prt D i c (j + 1) := by
  have e : D = D.take i ++ c :: D.drop (i + 1) := by
    rw [← drop_cons hc, List.take_append_drop]
  have nd' : (ST.nms (D.take i ++ c :: D.drop (i + 1))).Nodup := by rw [← e]; exact nd
  unfold ST.nms at nd'
  rw [List.map_append, List.map_cons, List.nodup_append] at nd'
  obtain ⟨n1, n2, n3⟩ := nd'
  have h1 : c.nm ∉ ST.nms (D.take i) := fun z => n3 _ z _ (List.mem_cons_self ..) rfl
  have h2 : c.nm ∉ ST.nms (ST.un (D.drop (i + 1))) := by
    rw [nms_un]
    exact (List.nodup_cons.mp n2).1
  have h3 : o ∉ c.rg.take j := fun z => by
    obtain ⟨k, hk⟩ := List.getElem?_of_mem z
    have hlt : k < j := by
      have := (List.getElem?_eq_some_iff.mp hk).1
      rw [List.length_take] at this
      omega
    rw [List.getElem?_take_of_lt hlt] at hk
    have := nodup_ix hnd hk ho
    omega
  have sp : ∀ A B : List C, addReg (A ++ B) c.nm o = addReg A c.nm o ++ addReg B c.nm o := fun A B => List.map_append ..
  unfold prt
  rw [sp, addReg_out h1]
  congr 1
  show (if c.nm = c.nm ∧ o ∉ c.rg.take j then _ else _) :: addReg (ST.un (D.drop (i + 1))) c.nm o = _
  rw [if_pos ⟨rfl, h3⟩, addReg_out h2, List.take_succ, ho]
  rfl
end
end ST
set_option maxHeartbeats 4000000
namespace ST
open PySem PySem.Spec PyProof.Rows L2
open LamX (CodeO Tabs TabB)
section
variable {P : Program} {w : World} {K : PySem.W.Frag} {mg : Str → Option Value} {base : Heap}
def spLMd (K : PySem.W.Frag) : Sp := fun vs H Q _ => ∃ (S : Addr → Prop) (D : List C) (sg : Sg) (q : PPar) (U : List Str), vs = [.ref q.p] ∧ POk K S H D sg q ∧ Gd U D ∧ UOk U ∧ (∀ x, SgOne (sg x)) ∧
  ∀ wd H', Ext K H H' → WldM K (fun x => ¬ Al H x) H' wd D → Q (.ref wd) H'
theorem ok_law_made (T : Tx K mg) : FnOk P w K mg base CX0 12 (He.fAd K d_law_made.at_) (fdOf K (He.fAd K d_law_made.at_)) ["_law_plain"] (spLMd K) := by
  refine (F_law_made T).ok sc_law_made (fun vs H Q E h => ?_) (fun cdv A outer s H vs Q E hr h => ?_)
  · obtain ⟨_, _, _, _, _, rfl, _⟩ := h
    rfl
  · obtain ⟨S, D, sg, q, U, rfl, W, g, uok, hsg, k⟩ := h
    have hu := hu_of hr
    refine ⟨_, PSs.nox (pss_cons (ps_set (i := 1) (sc_law_made).nd rfl (Or.inl rfl) (pe_make0 (mk_World T) (ok_World_init T) (hr.mono (by decide)) rfl (g_World T) (b_World_init T) .nil pass0))
    (pss_cons (ps_for PassesOwn.never rfl (i_list (K := K) rfl (pe_dget hu (pv 0) pe_str (fun _ _ => rfl))) (pg_name (i := 2) (sc_law_made).nd rfl (Or.inl rfl)) (pss_one (ps_expr (pe_call (ok_law_made_in T) (hr.mono (by decide)) rfl (g_law_made_in T) (F_law_made_in T).kp (b_law_made_in T) .nil pass0 (pa_cons (pv 1) (pa_cons (pv 0) (pa_cons (pv 2) pa_nil)))))))
    (pss_cons (ps_for PassesOwn.never rfl (i_list (K := K) rfl (pe_dget hu (pv 0) pe_str (fun _ _ => rfl))) (pg_name (i := 2) (sc_law_made).nd rfl (Or.inl rfl)) (pss_one (ps_for PassesOwn.never rfl (i_list (K := K) rfl (pe_dget hu (pe_dget hu (pv 0) pe_str (fun _ _ => rfl)) (pv 2) (fun _ _ => rfl))) (pg_name (i := 3) (sc_law_made).nd rfl (Or.inl rfl)) (pss_one (ps_expr (pe_meth (pv 1) (cl_World T) (m_World_admit T) (ok_World_admit T) (hr.mono (by decide)) (b_World_admit T) .nil pass0 (pa_cons (pv 2) (pa_cons (pv 3) pa_nil))))))))
    (pss_one (ps_ret (pv 1)))))), ?_⟩
    intro wd dx np ndx ne
    have e1 : Ext K H (upd (upd H dx (.own wd)) wd (.ins (He.ga K "World") dx [])) := Frm.trans (.new ndx (nt_own _)) (.new (by rw [upd_ne ne.symm]; exact np) (nt_ins _ _ _))
    refine ⟨wd, dx, fun x => ¬ Al H x, rfl, upd_same, fresh_none np, fun b hb z => hb (e1.al b z), fun H1 f1 W1 => ⟨rfl, ?_⟩⟩
    have e2 : Ext K H H1 := e1.over f1 fun x z => .inl (z ▸ fresh_none np)
    clear f1 e1
    have lD : (nms D).length = D.length := List.length_map ..
    refine ⟨_, rfl, q.p, _, rfl, (W.ext e2).kN, q.nl, rfl, ⟨_, .of (W.ext e2).nl_⟩, ?_⟩
    refine for_it walk_list (fun i σ H' => ∃ (x y : Option V), σ = [some (.ref q.p), some (.ref wd), x, y] ∧ Ext K H H' ∧ WldM K (fun x => ¬ Al H x) H' wd ((un D).take i)) ⟨_, _, rfl, e2, W1⟩ (fun i σ H' _ ⟨_, _, _, e, _⟩ => .inl (.of (W.ext e).nl_)) ?_ ?_
    · rintro i x σ H3 H3' hi ⟨_, _, rfl, e3, WM⟩ ⟨rfl, hx⟩
      obtain ⟨n, hn, rfl, nm⟩ := strL_get hx
      have hlt : i < D.length := by
        have := (List.getElem?_eq_some_iff.mp hn).1
        omega
      have hc : D[i]? = some D[i] := List.getElem?_eq_getElem hlt
      generalize D[i] = c at hc
      have cn : c.nm = n := by
        unfold nms at hn
        rw [List.getElem?_map, hc] at hn
        exact Option.some.inj hn
      have cm := List.mem_of_getElem? hc
      have ea : at_ D n = c := by rw [← cn]; exact at_of g.nd cm
      have huc : (un D)[i]? = some { c with rg := [] } := by
        unfold un
        rw [List.getElem?_map, hc]
        rfl
      obtain ⟨p1, p2, p3, p4, p5, p6, ⟨rest, p7, p8⟩, p9⟩ := g.md.pre i _ huc
      have lt8 : ((un D).take i).length ≤ 10 := by
        rw [List.length_take]
        have := g.len
        omega
      have rl : rest.length ≤ 1000 := by
        have := ((g.wf (by have := uok.len; omega)).ln c cm).2
        have p8 : c.ln = c.nm :: rest := p8
        rw [p8, List.length_cons] at this
        omega
      refine ⟨_, rfl, _, rfl, _, rfl, S, _, D, (un D).take i, sg, q, wd, n, rest, rfl, WM, fun x hx z => hx (e3.al x z), W.ext e3, nm, p1.wf lt8 (by have := uok.len; omega), cn ▸ p3, by rw [← cn]; exact p2, by rw [ea]; exact p4, by rw [ea]; exact p5, by rw [ea]; exact p6, hsg n, ?_, by rw [ea]; exact p7, by rw [ea, ← cn]; exact p8, rl, fun H4 f4 W4 => ?_⟩
      · rw [ea]
        intro h hh
        obtain ⟨r, q2⟩ := p9 h hh
        exact ⟨⟨r.ne, by have := r.len; omega, fun q hq => ⟨fun m hm => uok.ok m ((r.q q hq).2.2 m hm), (r.q q hq).2.1, by have := (r.q q hq).1; omega⟩⟩, q2⟩
      · rw [ea] at W4
        refine ⟨_, _, rfl, e3.over f4 fun x z => .inl z, ?_⟩
        rw [List.take_succ, huc]
        exact W4
    · rintro σ H3 ⟨_, _, rfl, e3, WM⟩
      rw [strL_length, lD] at WM
      have eu : (un D).take D.length = un D := List.take_of_length_le (by unfold un; rw [List.length_map]; exact Nat.le_refl _)
      rw [eu] at WM
      refine ⟨_, rfl, q.p, _, rfl, (W.ext e3).kN, q.nl, rfl, ⟨_, .of (W.ext e3).nl_⟩, ?_⟩
      refine for_it walk_list (fun i σ H' => ∃ (x y : Option V), σ = [some (.ref q.p), some (.ref wd), x, y] ∧ Ext K H H' ∧ WldM K (fun x => ¬ Al H x) H' wd (D.take i ++ un (D.drop i))) ⟨_, _, rfl, e3, WM⟩ (fun i σ H' _ ⟨_, _, _, e, _⟩ => .inl (.of (W.ext e).nl_)) ?_ ?_
      · rintro i x σ H4 H4' hi ⟨_, _, rfl, e4, WM4⟩ ⟨rfl, hx⟩
        obtain ⟨n, hn, rfl, nm⟩ := strL_get hx
        have hlt : i < D.length := by
          have := (List.getElem?_eq_some_iff.mp hn).1
          omega
        have hc : D[i]? = some D[i] := List.getElem?_eq_getElem hlt
        generalize D[i] = c at hc
        have cn : c.nm = n := by
          unfold nms at hn
          rw [List.getElem?_map, hc] at hn
          exact Option.some.inj hn
        have cm := List.mem_of_getElem? hc
        have ea : at_ D n = c := by rw [← cn]; exact at_of g.nd cm
        obtain ⟨r1, r2, r3⟩ := g.rg c cm
        have W4 := W.ext e4
        have hl := W4.l nm
        rw [ea] at hl
        refine ⟨_, rfl, q.p, _, rfl, W4.kL, _, rfl, q.dl, _, rfl, W4.gL nm, q.ll n, rfl, ⟨_, .of hl⟩, ?_⟩
        rw [← prt_zero hc] at WM4
        have hl0 := W.l nm
        rw [ea] at hl0
        refine for_it walk_list (fun j σ H' => ∃ (y : Option V), σ = [some (.ref q.p), some (.ref wd), some (.str n), y] ∧ Ext K H H' ∧ WldM K (fun x => ¬ Al H x) H' wd (prt D i c j)) ⟨_, rfl, e4, WM4⟩ (fun j σ H' _ ⟨_, _, e, _⟩ => .inl (.of (e.at hl0 (nt_lst _)))) ?_ ?_
        · rintro j x σ H5 H5' hj ⟨_, rfl, e5, WM5⟩ ⟨rfl, hx⟩
          obtain ⟨o, ho, rfl, om⟩ := strL_get hx
          obtain ⟨o1, o2⟩ := r2 o om
          have le := prt_le hc j
          have gp : Gd U (prt D i c j) := g.le le fun e he => by
            unfold prt at he
            rcases List.mem_append.mp he with z | z
            · exact (g.rg e (List.mem_of_mem_take z)).1
            · rcases List.mem_cons.mp z with z | z
              · rw [z]
                exact r1.sublist (List.take_sublist _ _)
              · obtain ⟨d, _, e'⟩ := List.mem_map.mp z
                rw [← e']
                exact List.nodup_nil
          refine ⟨_, rfl, wd, _, _, rfl, (Classical.choose_spec WM5).wd_, rfl, _, rfl, _, rfl, wd, _, prt D i c j, n, o, rfl, WM5, gp.wf (by have := uok.len; omega), by rw [le.nms]; exact nm, by rw [le.nms]; exact o1, ?_, ?_, ?_, fun H6 f6 W6 => ?_⟩
          · rw [le.sw, ← cn]
            exact r3 fun z => by rw [z] at om; cases om
          · intro z
            exact o2 (by rw [cn, z]; exact .refl)
          · intro z
            exact o2 (by rw [cn]; exact le.rch z)
          · rw [← cn, prt_succ g.nd hc r1 ho] at W6
            exact ⟨_, rfl, e5.over f6 fun x z => .inl z, W6⟩
        · rintro σ H5 ⟨_, rfl, e5, WM5⟩
          rw [strL_length, prt_full hc] at WM5
          exact ⟨_, _, rfl, e5, WM5⟩
      · rintro σ H4 ⟨_, _, rfl, e4, WM4⟩
        rw [strL_length, lD, List.take_length, List.drop_length] at WM4
        have : D ++ un [] = D := List.append_nil D
        rw [this] at WM4
        exact ⟨_, rfl, k wd H4 e4 WM4⟩
end
end ST
set_option maxHeartbeats 4000000
namespace ST
open PySem PySem.Spec PyProof.Rows L2
open LamX (CodeO Tabs TabB)
abbrev Row : Type := Str × Str × List (Option Str)
def RowR (H : Hp) (r : Addr) (x : Row) : Prop := ∃ l : Addr, H r = some (.tup [.str x.1, .str x.2.1, .ref l]) ∧ H l = some (.lst (x.2.2.map oV))
/-- rows whose own lists are new since H0 -/
def RowF (H0 H : Hp) (r : Addr) (x : Row) : Prop := ∃ l : Addr, H r = some (.tup [.str x.1, .str x.2.1, .ref l]) ∧ H l = some (.lst (x.2.2.map oV)) ∧ ¬ Al H0 l
def RowsF (H0 H : Hp) (p : Addr) (xs : List Row) : Prop := ∃ rs : List Addr, H p = some (.lst (rs.map V.ref)) ∧ Paired (RowF H0 H) rs xs
def rowOf (D : List C) (ps : List (List Str)) (q : Str × Str) : Row := (q.1, q.2, ps.map fun ms => outS D ((at_ D q.1).ln ++ (at_ D q.2).ln) q.1 q.2 ms)
theorem RowR.ext {K : PySem.W.Frag} {H H' : Hp} (a : Ext K H H') {r : Addr} {x : Row} : RowR H r x → RowR H' r x
  | ⟨l, h1, h2⟩ => ⟨l, a.tup h1, a.at h2 (nt_lst _)⟩
theorem RowF.frm {K : PySem.W.Frag} {S : Addr → Prop} {H0 H H' : Hp} (a : Frm K S H H') (n : ∀ b, ¬ Al H0 b → Al H b → ¬ S b) {r : Addr} {x : Row} : RowF H0 H r x → RowF H0 H' r x
  | ⟨l, h1, h2, h3⟩ => ⟨l, a.tup h1, a.lst h2 (n l h3 (al_of h2 (nt_lst _))), h3⟩
theorem twoP_mem {D : List C} {q : Str × Str} (h : q ∈ twoP D) : q.1 ∈ nms D ∧ q.2 ∈ nms D := by
  unfold twoP at h
  obtain ⟨n, hn, h⟩ := List.mem_flatMap.mp h
  obtain ⟨o, ho, e⟩ := List.mem_map.mp h
  rw [← e]
  exact ⟨(List.mem_filter.mp hn).1, (List.mem_filter.mp ho).1⟩
section
variable {P : Program} {w : World} {K : PySem.W.Frag} {mg : Str → Option Value} {base : Heap}
def spLOc (K : PySem.W.Frag) : Sp := fun vs H Q _ => ∃ (S Sw : Addr → Prop) (D : List C) (sg : Sg) (q : PPar) (wd pl : Addr) (ps : List (List Str)), vs = [.ref wd, .ref q.p, .ref pl] ∧ WldM K Sw H wd D ∧ POk K S H D sg q ∧ Wf D ∧ D.length ≤ 8 ∧ LPatR H pl ps ∧ ps.length ≤ 64 ∧ Tabs (Tbs K) H ∧
  ∀ p H', Ext K H H' → ¬ Al H p → RowsF H H' p ((twoP D).map (rowOf D ps)) → Q (.ref p) H'
theorem ok_law_outcomes (T : Tx K mg) (B : Tb base mg K) : FnOk P w K mg base CX0 13 (He.fAd K d_law_outcomes.at_) (fdOf K (He.fAd K d_law_outcomes.at_)) ["_law_world", "_law_plain", "_law_some"] (spLOc K) := by
  refine (F_law_outcomes T).ok sc_law_outcomes (fun vs H Q E h => ?_) (fun cdv A outer s H vs Q E hr h => ?_)
  · obtain ⟨_, _, _, _, _, _, _, _, rfl, _⟩ := h
    rfl
  · obtain ⟨S, Sw, D, sg, q, wd, pl, ps, rfl, WM, W, wf, hD8, ⟨rp, hp1, hp2⟩, hps, hT, k⟩ := h
    have hu := hu_of hr
    refine ⟨_, PSs.nox (pss_cons (ps_set (i := 3) (sc_law_outcomes).nd rfl (Or.inl rfl) (pe_lst pa_nil))
    (pss_cons (ps_for PassesOwn.never rfl (i_list (K := K) rfl (pe_call (ok_law_two_classes T) (hr.mono (by decide)) rfl (g_law_two_classes T) (F_law_two_classes T).kp (b_law_two_classes T) .nil pass0 (pa_cons (pv 1) pa_nil))) (g_tup (K := K) rfl rfl (pgs_cons (pg_name (i := 4) (sc_law_outcomes).nd rfl (Or.inr rfl)) (pgs_cons (pg_name (i := 5) (sc_law_outcomes).nd rfl (Or.inr rfl)) pgs_nil))) (pss_one (ps_expr (w_append (K := K) rfl (pv 3) (pe_tup (pa_cons (pv 4) (pa_cons (pv 5) (pa_cons (pe_lc (own := [("_law_one", 6)]) (g := gName 6) (tt := tYes) rfl (sc_law_outcomes).nd (i_list (K := K) rfl (pv 2)) (blkOk_by (by kernel_rfl)) (fun _ _ _ _ _ => (pg_name (i := 6) (sc_law_outcomes).nd rfl (by first | exact Or.inl rfl | exact Or.inr rfl))) (fun _ _ _ _ _ => pts_nil) (fun _ _ _ _ _ => (pe_call (ok_outcome T B) (hr.mono (by decide)) rfl (g_outcome T) (F_outcome T).kp (b_outcome T) .nil pass0 (pa_cons (pv 0) (pa_cons (pv 4) (pa_cons (pv 5) (pa_cons (pv 6) pa_nil))))))) pa_nil))))))))
    (pss_one (ps_ret (pv 3))))), ?_⟩
    refine ⟨Nat.zero_le _, fun f hf => ?_⟩
    have e1 : Ext K H (upd H f (.lst [])) := .new hf (nt_lst _)
    have ff : ¬ Al H f := fresh_none hf
    have hf1 : (upd H f (.lst [])) f = some (.lst []) := upd_same
    generalize upd H f (.lst []) = H1 at e1 hf1 ⊢
    refine ⟨_, rfl, S, D, sg, q, rfl, W.ext e1, wf, fun tp H2 e2 ⟨rs, hrs1, hrs2⟩ => ⟨tp, rfl, ⟨_, .of hrs1⟩, ?_⟩⟩
    have e12 := e1.trans e2
    have hf2 := e2.at hf1 (nt_lst _)
    have tl : (twoP D).length ≤ 64 := by
      unfold twoP
      refine Nat.le_trans (flat_len _ 8 _ fun x _ => ?_) (show _ * 8 ≤ 8 * 8 from Nat.mul_le_mul_right _ ?_)
      · rw [List.length_map]
        refine Nat.le_trans (List.length_filter_le _ _) ?_
        rw [List.length_map]
        exact hD8
      · refine Nat.le_trans (List.length_filter_le _ _) ?_
        rw [List.length_map]
        exact hD8
    refine for_it walk_list (fun i σ H' => ∃ (x y z : Option V) (as : List Addr), σ = [some (.ref wd), some (.ref q.p), some (.ref pl), some (.ref f), x, y, z] ∧ Ext K H H' ∧ H' f = some (.lst (as.map V.ref)) ∧ Paired (fun r x => ∃ l : Addr, H' r = some (.tup [.str x.1, .str x.2.1, .ref l]) ∧ H' l = some (.lst (x.2.2.map oV)) ∧ l ≠ f ∧ ¬ Al H l) as (((twoP D).take i).map (rowOf D ps)) ∧ H' tp = some (.lst (rs.map V.ref)) ∧ Paired (fun (r : Addr) (q : Str × Str) => H' r = some (.tup [.str q.1, .str q.2])) rs (twoP D))
      ⟨_, _, _, [], rfl, e12, hf2, .nil, hrs1, hrs2⟩ (fun i σ H' _ ⟨_, _, _, _, _, _, _, _, h, _⟩ => .inl (.of h)) ?_ ?_
    · rintro i x σ H3 H3' hi ⟨_, _, _, as, rfl, e3, hf3, pr3, ht3, hq3⟩ ⟨rfl, hx⟩
      rw [List.getElem?_map] at hx
      cases hr9 : rs[i]? with
      | none => rw [hr9] at hx; cases hx
      | some rr =>
        rw [hr9] at hx
        cases hx
        obtain ⟨c, hc, z⟩ := paired_get hq3 hr9
        have cm := List.mem_of_getElem? hc
        obtain ⟨c1, c2⟩ := twoP_mem cm
        have il : i < 64 := by
          have := (List.getElem?_eq_some_iff.mp hc).1
          omega
        refine ⟨rr, _, rfl, .of z, rfl, _, _, rfl, _, _, rfl, rfl, ?_⟩
        refine ⟨_, rfl, .inl ⟨rfl, _, .of hf3⟩, _, rfl, _, rfl, _, rfl, pl, rfl, ⟨_, .of (e3.at hp1 (nt_lst _))⟩, ?_⟩
        refine lcw (K := K) walk_list (fun _ _ (y : V) (o : Option Str) => y = oV o) (fun j => (ps[j]?).bind fun ms => some (outS D ((at_ D c.1).ln ++ (at_ D c.2).ln) c.1 c.2 ms)) (fun _ _ _ _ _ _ h => h) (fun H e => ext_l e (.of (e3.at hp1 (nt_lst _)))) (by rw [List.length_map, paired_len hp2]; exact Nat.le_trans hps (by decide)) (fun j x H4 H4' DD hj e4 y fD aD N0 N1 h0 h1 => ?_) (fun DD acc H4 fD e4 hDD pr => ?_)
        · obtain ⟨rfl, hx⟩ := y
          rw [List.getElem?_map] at hx
          cases hr' : rp[j]? with
          | none => rw [hr'] at hx; cases hx
          | some r =>
            rw [hr'] at hx
            cases hx
            obtain ⟨ms, hms, hrr⟩ := paired_get hp2 hr'
            rw [hms] at h1
            have e34 := e3.trans e4
            exact ⟨rfl, _, rfl, _, rfl, _, rfl, _, rfl, wd, r, D, c.1, c.2, ms, rfl, (WM.ext e34).r, wf, c1, c2, .inl (.inl (.of (e34.at hrr (nt_lst _)))), e34.tabs hT, fun H5 e5 => h1 _ rfl _ _ e5 rfl⟩
        rw [List.length_map, paired_len hp2, range_bind, List.filterMap_eq_map'] at pr
        have eacc := paired_eqm pr
        refine ⟨Nat.le_of_ble_eq_true rfl, fun r hr' => ?_⟩
        have e5 : Ext K H4 (upd H4 r (.tup [.str c.1, .str c.2, .ref DD])) := .new hr' (nt_tup _)
        have h5 : (upd H4 r (.tup [.str c.1, .str c.2, .ref DD])) r = some (.tup [.str c.1, .str c.2, .ref DD]) := upd_same
        have d5 := e5.at hDD (nt_lst _)
        generalize upd H4 r (.tup [.str c.1, .str c.2, .ref DD]) = H5 at e5 h5 d5 ⊢
        have e35 := e4.trans e5
        have hf5 := e35.at hf3 (nt_lst _)
        have al : as.length ≤ 64 := by
          rw [paired_len pr3, List.length_map, List.length_take]
          omega
        refine ⟨f, _, _, rfl, rfl, hf5, ?_, ?_⟩
        · rw [List.length_map]
          exact Nat.lt_of_le_of_lt al (by decide)
        have g6 : Frm K (fun x => x = f) H5 (upd H5 f (.lst (as.map V.ref ++ [.ref r]))) := .mut hf5 trivial rfl (nt_lst _)
        have ntp : tp ≠ f := fun z9 => by
          rw [z9, hf2] at hrs1
          injection hrs1 with h9
          injection h9 with h9
          have : rs = [] := List.map_eq_nil_iff.mp h9.symm
          rw [this] at hr9
          cases hr9
        have afl : ∀ {b : Addr} {xs : List V}, H3' b = some (.lst xs) → ¬ b = f → (upd H5 f (.lst (as.map V.ref ++ [.ref r]))) b = some (.lst xs) := fun h n => g6.lst (e35.at h (nt_lst _)) n
        have nDf : DD ≠ f := (ne_fresh (al_of hf3 (nt_lst _)) fD).symm
        have tk : (twoP D).take (i + 1) = (twoP D).take i ++ [c] := by rw [List.take_succ, hc]; rfl
        refine ⟨_, _, _, as ++ [r], rfl, ?_, by rw [upd_same, List.map_append]; rfl, ?_, afl ht3 ntp, L2.Paired.mapP hq3 fun _ _ h => g6.tup (e35.tup h)⟩
        · exact (e3.trans e35).mutNew ff hf5 trivial (nt_lst _)
        · rw [tk, List.map_append]
          refine paired_append (L2.Paired.mapP pr3 fun _ _ ⟨l, l1, l2, l3, l4⟩ => ⟨l, g6.tup (e35.tup l1), afl l2 l3, l3, l4⟩) (.cons ⟨DD, g6.tup h5, ?_, nDf, fresh_back e3 fD⟩ .nil)
          have := g6.lst d5 nDf
          rw [this, eacc]
          show some (HO.lst (List.map _ _)) = some (HO.lst (List.map oV (List.map _ ps)))
          rfl
    · rintro σ H3 ⟨_, _, _, as, rfl, e3, hf3, pr3, ht3, hq3⟩
      rw [List.length_map, paired_len hq3, List.take_length] at pr3
      exact ⟨_, rfl, k f H3 e3 ff ⟨as, hf3, L2.Paired.mapP pr3 fun _ _ ⟨l, l1, l2, _, l4⟩ => ⟨l, l1, l2, l4⟩⟩⟩
end
end ST
set_option maxHeartbeats 4000000
namespace ST
open PySem PySem.Spec PyProof.Rows L2
/-- g is in no other class's bases or line -/
structure Lo (D : List C) (g : Str) : Prop where
  nd : (nms D).Nodup
  bs : ∀ c ∈ D, g ∉ c.bs
  ln : ∀ c ∈ D, c.nm ≠ g → g ∉ c.ln
  lm : ∀ c ∈ D, ∀ m ∈ c.ln, m ∈ nms D
  rgn : ∀ c ∈ D, c.rg.Nodup
  rgm : ∀ c ∈ D, ∀ o ∈ c.rg, o ∈ nms D
theorem bfsGo_congr {s1 s2 : Str → List Str} {p : Str → Prop} (h : ∀ n, p n → s1 n = s2 n ∧ ∀ m ∈ s1 n, p m) : ∀ (k : Nat) (f : List Str) (a : Nat), (∀ x ∈ f, p x) → bfsGo s1 k f a = bfsGo s2 k f a ∧ ∀ x ∈ bfsGo s1 k f a, p x
  | 0, f, a, hf => ⟨rfl, hf⟩
  | k + 1, f, a, hf => by
    unfold bfsGo
    cases hn : f[a]? with
    | none => exact ⟨rfl, hf⟩
    | some n =>
      have pn := hf n (List.mem_of_getElem? hn)
      obtain ⟨e, hm⟩ := h n pn
      have ha : ∀ (r f : List Str), (∀ x ∈ f, p x) → (∀ x ∈ r, p x) → ∀ x ∈ addAll f r, p x := fun r => by
        induction r with
        | nil => exact fun f hf _ => hf
        | cons o r ih =>
          intro f hf hr
          refine ih _ ?_ fun x hx => hr x (List.mem_cons_of_mem _ hx)
          intro x hx
          split at hx
          · exact hf x hx
          · rcases List.mem_append.mp hx with z | z
            · exact hf x z
            · rw [List.mem_singleton.mp z]
              exact hr o (List.mem_cons_self ..)
      show bfsGo s1 k (addAll f (s1 n)) (a + 1) = bfsGo s2 k (addAll f (s2 n)) (a + 1) ∧ ∀ x ∈ bfsGo s1 k (addAll f (s1 n)) (a + 1), p x
      rw [← e]
      exact bfsGo_congr h k _ _ (ha _ _ hf hm)
theorem bfs_congr {s1 s2 : Str → List Str} {p : Str → Prop} (h : ∀ n, p n → s1 n = s2 n ∧ ∀ m ∈ s1 n, p m) {st : Str} (hs : p st) : bfs s1 st = bfs s2 st ∧ ∀ x ∈ bfs s1 st, p x :=
  bfsGo_congr h 51 [st] 0 fun x hx => by rw [List.mem_singleton.mp hx]; exact hs
theorem at_drop {D : List C} {g x : Str} (hx : x ≠ g) : at_ (dropD D g) x = { at_ D x with rg := (at_ D x).rg.erase g } := by
  induction D with
  | nil => rfl
  | cons c r ih =>
    have e0 : dropD (c :: r) g = if c.nm ≠ g then { c with rg := c.rg.erase g } :: dropD r g else dropD r g := by
      unfold dropD dropF
      rw [List.filter_cons]
      by_cases z : c.nm = g
      · rw [if_neg (by simp [z]), if_neg (fun h => h z)]
      · rw [if_pos (by simp [z]), if_pos z]
        rfl
    by_cases z : c.nm = x
    · have e1 : at_ (c :: r) x = c := by
        unfold at_
        rw [List.find?_cons, decide_eq_true z]
        rfl
      rw [e0, if_pos (by rw [z]; exact hx), e1]
      unfold at_
      rw [List.find?_cons, decide_eq_true (show ({ c with rg := c.rg.erase g } : C).nm = x from z)]
      rfl
    · have e1 : at_ (c :: r) x = at_ r x := by
        unfold at_
        rw [List.find?_cons, decide_eq_false z]
      rw [e0, e1, ← ih]
      split
      · unfold at_
        rw [List.find?_cons, decide_eq_false (show ¬ ({ c with rg := c.rg.erase g } : C).nm = x from z)]
      · rfl
section
variable {D : List C} {g : Str}
theorem nms_drop (D : List C) (g : Str) : nms (dropD D g) = (nms D).filter fun x => decide (x ≠ g) := by
  unfold dropD dropF nms
  rw [List.map_map, List.filter_map]
  rfl
theorem Lo.lx (h : Lo D g) {x : Str} (hx : x ∈ nms D) (ne : x ≠ g) : ∀ m ∈ (at_ D x).ln, m ≠ g ∧ m ∈ nms D := fun m hm =>
  ⟨fun z => h.ln _ (at_mem hx).1 (by rw [(at_mem hx).2]; exact ne) (z ▸ hm), h.lm _ (at_mem hx).1 m hm⟩
theorem Lo.sw (h : Lo D g) {x : Str} (hx : x ∈ nms D) (ne : x ≠ g) : sw (dropD D g) x = sw D x :=
  sw_congr (by rw [at_drop ne]) fun m hm => by rw [at_drop (h.lx hx ne m hm).1]
theorem hookGo_congr {D E : List C} {n : Str} : ∀ l : List Str, (∀ m ∈ l, (at_ E m).hk = (at_ D m).hk ∧ (at_ E m).pa = (at_ D m).pa) → hookGo E n l = hookGo D n l
  | [], _ => rfl
  | m :: r, h => by
    obtain ⟨h1, h2⟩ := h m (List.mem_cons_self ..)
    unfold hookGo
    rw [h1, h2, hookGo_congr r fun x hx => h x (List.mem_cons_of_mem _ hx)]
theorem Lo.hook (h : Lo D g) {x : Str} (hx : x ∈ nms D) (ne : x ≠ g) : hookFor (dropD D g) x = hookFor D x := by
  unfold hookFor
  rw [at_drop ne]
  exact hookGo_congr _ fun m hm => by
    rw [at_drop (h.lx hx ne m hm).1]
    exact ⟨rfl, rfl⟩
theorem Lo.ans (h : Lo D g) {x : Str} (hx : x ∈ nms D) (ne : x ≠ g) (ms : List Str) : ans (dropD D g) x ms = ans D x ms := by
  unfold ST.ans
  rw [h.sw hx ne, h.hook hx ne]
theorem Lo.decl (h : Lo D g) {x : Str} (hx : x ∈ nms D) (ne : x ≠ g) (ms : List Str) : decl (dropD D g) x ms = decl D x ms := by
  unfold ST.decl
  rw [h.sw hx ne, h.ans hx ne]
theorem subs_drop (D : List C) (g x : Str) : subs (dropD D g) x = (subs D x).filter fun y => decide (y ≠ g) := by
  unfold subs dropD dropF
  rw [List.filter_map, List.map_map, List.filter_map, List.filter_filter, List.filter_filter]
  have e : (fun c : C => decide (x ∈ c.bs)) ∘ (fun c : C => ({ c with rg := c.rg.erase g } : C)) = fun c => decide (x ∈ c.bs) := rfl
  rw [e]
  have e2 : D.filter (fun c => decide (x ∈ c.bs) && decide (c.nm ≠ g)) = D.filter (fun c => ((fun y => decide (y ≠ g)) ∘ fun c : C => c.nm) c && decide (x ∈ c.bs)) := List.filter_congr fun c _ => Bool.and_comm _ _
  rw [e2]
  rfl
theorem Lo.nxt (h : Lo D g) {x : Str} (hx : x ∈ nms D) (ne : x ≠ g) : nxt (dropD D g) x = (nxt D x).filter fun y => decide (y ≠ g) := by
  unfold ST.nxt
  rw [h.sw hx ne, subs_drop]
  split
  · have er : (at_ (dropD D g) x).rg = (at_ D x).rg.filter fun y => decide (y ≠ g) := by
      rw [at_drop ne]
      show (at_ D x).rg.erase g = _
      rw [(h.rgn _ (at_mem hx).1).erase_eq_filter]
      refine List.filter_congr fun y _ => ?_
      by_cases z : y = g <;> simp [z]
    rw [er, List.filter_append, List.filter_filter, List.filter_filter]
    congr 1
    refine List.filter_congr fun y _ => ?_
    by_cases z : y = g
    · simp [z]
    · simp [z, List.mem_filter]
  · rfl
theorem Lo.nxn (h : Lo D g) {x y : Str} (hx : x ∈ nms D) (hy : y ∈ ST.nxt D x) : y ∈ nms D := by
  rcases (nxt_iff.mp hy).2 with z | z
  · exact h.rgm _ (at_mem hx).1 y z
  · exact subs_nms z
theorem Lo.held (h : Lo D g) {hs : List Str} (hg : g ∉ hs) {x : Str} (hx : x ∈ nms D) (ne : x ≠ g) : inHeld (dropD D g) hs x = inHeld D hs x := by
  unfold inHeld
  rw [h.nxt hx ne, List.filter_filter]
  refine List.filter_congr fun y _ => ?_
  by_cases z : y = g
  · rw [z, decide_eq_false hg]
    rfl
  · simp [z]
theorem Lo.heldp (h : Lo D g) {hs : List Str} (hg : g ∉ hs) {x : Str} (hx : x ∈ nms D) : ∀ m ∈ inHeld D hs x, m ∈ nms D ∧ m ≠ g := fun m hm => by
  obtain ⟨h1, h2⟩ := List.mem_filter.mp hm
  exact ⟨h.nxn hx h1, fun z => hg (by rw [← z]; exact of_decide_eq_true h2)⟩
theorem Lo.led (h : Lo D g) {hs : List Str} (hg : g ∉ hs) {c : Str} (hc : c ∈ nms D) (ne : c ≠ g) (ms : List Str) : ledTo (dropD D g) hs c ms = ledTo D hs c ms ∧ ∀ x ∈ ledTo D hs c ms, x ∈ nms D ∧ x ≠ g := by
  unfold ledTo
  have := bfs_congr (s1 := succL D hs ms) (s2 := succL (dropD D g) hs ms) (p := fun x => x ∈ nms D ∧ x ≠ g) (fun n hn => ?_) ⟨hc, ne⟩
  · exact ⟨this.1.symm, this.2⟩
  · unfold succL
    rw [h.decl hn.1 hn.2, h.held hg hn.1 hn.2]
    refine ⟨rfl, ?_⟩
    split
    · exact h.heldp hg hn.1
    · exact fun m hm => by cases hm
theorem Lo.road (h : Lo D g) {hs : List Str} (hg : g ∉ hs) {c o : Str} (hc : c ∈ nms D) (ne : c ≠ g) (ho : o ∈ nms D) (no : o ≠ g) : hasRoad (dropD D g) hs c o = hasRoad D hs c o := by
  unfold hasRoad
  rw [h.sw ho no, (bfs_congr (s1 := inHeld D hs) (s2 := inHeld (dropD D g) hs) (p := fun x => x ∈ nms D ∧ x ≠ g) (fun n hn => ⟨(h.held hg hn.1 hn.2).symm, h.heldp hg hn.1⟩) ⟨hc, ne⟩).1]
theorem any_congr {α : Type} {p q : α → Bool} : ∀ {l : List α}, (∀ x ∈ l, p x = q x) → l.any p = l.any q
  | [], _ => rfl
  | x :: r, h => by
    rw [List.any_cons, List.any_cons, h x (List.mem_cons_self ..), any_congr fun y hy => h y (List.mem_cons_of_mem _ hy)]
theorem Lo.out (h : Lo D g) {hs : List Str} (hg : g ∉ hs) {c o : Str} (hc : c ∈ nms D) (ne : c ≠ g) (ho : o ∈ nms D) (no : o ≠ g) (ms : List Str) : outS (dropD D g) hs c o ms = outS D hs c o ms := by
  obtain ⟨e1, e2⟩ := h.led hg hc ne ms
  have ew : (ledTo D hs c ms).any (isWon (dropD D g) ms) = (ledTo D hs c ms).any (isWon D ms) := any_congr fun x hx => by
    unfold isWon
    rw [h.sw (e2 x hx).1 (e2 x hx).2, h.ans (e2 x hx).1 (e2 x hx).2]
  have er : reached (dropD D g) (ledTo D hs c ms) o ms = reached D (ledTo D hs c ms) o ms := by
    unfold reached
    rw [h.sw ho no, h.decl ho no]
    split
    · rfl
    · refine any_congr fun x hx => ?_
      rw [h.sw (e2 x hx).1 (e2 x hx).2]
      unfold above
      rw [at_drop no]
  unfold outS
  rw [e1, h.decl hc ne, ew, er]
end
end ST
set_option maxHeartbeats 4000000
namespace ST
open PySem PySem.Spec PyProof.Rows L2
section
variable {D : List C} {g : Str}
theorem rm_mem {c o : Str} {e : C} (h : e ∈ rmReg D c o) : ∃ d ∈ D, e.nm = d.nm ∧ e.bs = d.bs ∧ e.ln = d.ln ∧ (e.rg = d.rg ∨ e.rg = d.rg.erase o) := by
  obtain ⟨d, hd, rfl⟩ := List.mem_map.mp h
  refine ⟨d, hd, ?_⟩
  split
  · exact ⟨rfl, rfl, rfl, .inr rfl⟩
  · exact ⟨rfl, rfl, rfl, .inl rfl⟩
theorem Lo.rm (h : Lo D g) (c o : Str) : Lo (rmReg D c o) g where
  nd := by rw [rmReg_nms]; exact h.nd
  bs := fun e he => by
    obtain ⟨d, hd, _, e2, _⟩ := rm_mem he
    rw [e2]
    exact h.bs d hd
  ln := fun e he hne => by
    obtain ⟨d, hd, e1, _, e3, _⟩ := rm_mem he
    rw [e3]
    exact h.ln d hd (by rw [← e1]; exact hne)
  lm := fun e he m hm => by
    obtain ⟨d, hd, e1, _, e3, _⟩ := rm_mem he
    rw [rmReg_nms]
    rw [e3] at hm
    exact h.lm d hd m hm
  rgn := fun e he => by
    obtain ⟨d, hd, _, _, _, e4⟩ := rm_mem he
    rcases e4 with z | z <;> rw [z]
    · exact h.rgn d hd
    · exact (h.rgn d hd).erase o
  rgm := fun e he x hx => by
    obtain ⟨d, hd, _, _, _, e4⟩ := rm_mem he
    rw [rmReg_nms]
    rcases e4 with z | z <;> rw [z] at hx
    · exact h.rgm d hd x hx
    · exact h.rgm d hd x (List.mem_of_mem_erase hx)
theorem rm_drop (D : List C) (g c o : Str) : rmReg (dropD D g) c o = dropD (rmReg D c o) g := by
  unfold rmReg dropD dropF
  rw [List.map_map, List.filter_map, List.map_map]
  have e : (fun e : C => decide (e.nm ≠ g)) ∘ (fun e : C => if e.nm = c then { e with rg := e.rg.erase o } else e) = fun e => decide (e.nm ≠ g) := by
    funext e
    show decide ((if e.nm = c then { e with rg := e.rg.erase o } else e).nm ≠ g) = _
    split <;> rfl
  rw [e]
  refine List.map_congr_left fun e _ => ?_
  show (if e.nm = c then { { e with rg := e.rg.erase g } with rg := (e.rg.erase g).erase o } else { e with rg := e.rg.erase g }) = { (if e.nm = c then { e with rg := e.rg.erase o } else e) with rg := (if e.nm = c then { e with rg := e.rg.erase o } else e).rg.erase g }
  split
  · show ({ e with rg := (e.rg.erase g).erase o } : C) = { e with rg := (e.rg.erase o).erase g }
    rw [List.erase_comm]
  · rfl
def Agr (D : List C) (m1 m2 : List Str) : Prop := ∀ x ∈ methodsOf D, (x ∈ m1 ↔ x ∈ m2)
theorem hookGo_in {D : List C} {n : Str} : ∀ {l : List Str} {h : Hk}, hookGo D n l = some h → ∃ m ∈ l, (at_ D m).hk = some h
  | [], _, h => by cases h
  | m :: r, h0, h => by
    unfold hookGo at h
    cases hh : (at_ D m).hk with
    | none =>
      rw [hh] at h
      obtain ⟨m', hm', e⟩ := hookGo_in (l := r) h
      exact ⟨m', List.mem_cons_of_mem _ hm', e⟩
    | some h1 =>
      rw [hh] at h
      have h : (if m = n ∨ (at_ D m).pa = true then some h1 else none) = some h0 := h
      split at h
      · rw [← h]
        exact ⟨m, List.mem_cons_self .., hh⟩
      · cases h
theorem at_hk_mem {D : List C} {m : Str} {h : Hk} (e : (at_ D m).hk = some h) : ∀ q ∈ h, ∀ x ∈ q.1, x ∈ methodsOf D := by
  intro q hq x hx
  by_cases hm : m ∈ nms D
  · refine List.mem_flatMap.mpr ⟨_, (at_mem hm).1, ?_⟩
    rw [e]
    exact List.mem_flatMap.mpr ⟨q, hq, hx⟩
  · have : at_ D m = C.none := by
      unfold at_
      rw [List.find?_eq_none.mpr]
      · rfl
      · intro c hc z
        exact hm (List.mem_map.mpr ⟨c, hc, by simpa using z⟩)
    rw [this] at e
    cases e
theorem ansH_congr {m1 m2 : List Str} : ∀ {h : Hk}, (∀ q ∈ h, ∀ x ∈ q.1, (x ∈ m1 ↔ x ∈ m2)) → ansH m1 h = ansH m2 h
  | [], _ => rfl
  | c :: r, h => by
    have e : hasAll c.1 m1 = hasAll c.1 m2 := by
      unfold hasAll
      have : ∀ l : List Str, (∀ x ∈ l, (x ∈ m1 ↔ x ∈ m2)) → l.all (fun m => decide (m ∈ m1)) = l.all fun m => decide (m ∈ m2) := fun l => by
        induction l with
        | nil => exact fun _ => rfl
        | cons x r ih =>
          intro h
          rw [List.all_cons, List.all_cons, ih fun y hy => h y (List.mem_cons_of_mem _ hy)]
          have := h x (List.mem_cons_self ..)
          by_cases z : x ∈ m1
          · rw [decide_eq_true z, decide_eq_true (this.mp z)]
          · rw [decide_eq_false z, decide_eq_false fun y => z (this.mpr y)]
      exact this _ (h c (List.mem_cons_self ..))
    unfold ansH
    rw [e, ansH_congr fun q hq => h q (List.mem_cons_of_mem _ hq)]
theorem ans_congr {m1 m2 : List Str} (a : Agr D m1 m2) (n : Str) : ans D n m1 = ans D n m2 := by
  unfold ST.ans
  split
  · cases hh : hookFor D n with
    | none => rfl
    | some h =>
      obtain ⟨m, _, e⟩ := hookGo_in hh
      exact ansH_congr fun q hq x hx => a x (at_hk_mem e q hq x hx)
  · rfl
theorem out_congr {m1 m2 : List Str} (a : Agr D m1 m2) (hs : List Str) (c o : Str) : outS D hs c o m1 = outS D hs c o m2 := by
  have ed : ∀ n, decl D n m1 = decl D n m2 := fun n => by
    unfold ST.decl
    rw [ans_congr a]
  have el : ledTo D hs c m1 = ledTo D hs c m2 := by
    unfold ledTo
    congr 1
    funext n
    unfold succL
    rw [ed]
  have ew : isWon D m1 = isWon D m2 := by
    funext n
    unfold isWon
    rw [ans_congr a]
  have er : ∀ l, reached D l o m1 = reached D l o m2 := fun l => by
    unfold reached
    rw [ed]
  unfold outS
  rw [ed, el, ew, er]
end
end ST
set_option maxHeartbeats 4000000
namespace ST
open PySem PySem.Spec PyProof.Rows L2
section
variable {D : List C} {g : Str}
theorem methods_rm (D : List C) (c o : Str) : methodsOf (rmReg D c o) = methodsOf D := by
  unfold methodsOf rmReg
  rw [List.flatMap_map]
  congr 1
  funext e
  split <;> rfl
abbrev hld (D : List C) (c o : Str) : List Str := (at_ D c).ln ++ (at_ D o).ln
theorem held_rm {c o : Str} (hc : c ∈ nms D) (ho : o ∈ nms D) : hld (rmReg D c o) c o = hld D c o := by
  unfold hld
  rw [at_rm hc, at_rm ho]
  congr 1
  · split <;> rfl
  · split <;> rfl
def NeedC (D : List C) (c o : Str) : Prop := (∀ ms, outS (rmReg D c o) (hld D c o) c o ms = outS D (hld D c o) c o ms) ∧ hasRoad (rmReg D c o) (hld D c o) c o = hasRoad D (hld D c o) c o
theorem need_iff {ps : List (List Str)} (p : PatOk D ps) {c o : Str} (hc : c ∈ nms D) (ho : o ∈ nms D) : needP ps D c o = true ↔ NeedC D c o := by
  unfold needP NeedC stT
  rw [decide_eq_true_eq]
  have e := held_rm hc ho
  unfold hld at e
  rw [e]
  rw [Prod.mk.injEq]
  refine and_congr_left fun _ => ?_
  constructor
  · intro h ms
    obtain ⟨q, hq, ag⟩ := p.2 ms
    have a2 : Agr D q ms := ag
    have a1 : Agr (rmReg D c o) q ms := fun x hx => ag x (by rw [methods_rm] at hx; exact hx)
    have := List.map_inj_left.mp h q hq
    rw [← out_congr a1, ← out_congr a2]
    exact this
  · intro h
    exact List.map_congr_left fun ms _ => h ms
theorem held_drop {c o : Str} (nc : c ≠ g) (no : o ≠ g) : hld (dropD D g) c o = hld D c o := by
  unfold hld
  rw [at_drop nc, at_drop no]
theorem Lo.gh (h : Lo D g) {c o : Str} (hc : c ∈ nms D) (ho : o ∈ nms D) (nc : c ≠ g) (no : o ≠ g) : g ∉ hld D c o := fun z => by
  rcases List.mem_append.mp z with y | y
  · exact (h.lx hc nc g y).1 rfl
  · exact (h.lx ho no g y).1 rfl
theorem Lo.need (h : Lo D g) {c o : Str} (hc : c ∈ nms D) (ho : o ∈ nms D) (nc : c ≠ g) (no : o ≠ g) : NeedC (dropD D g) c o ↔ NeedC D c o := by
  unfold NeedC
  have gh := h.gh hc ho nc no
  have hr := h.rm c o
  have hc' : c ∈ nms (rmReg D c o) := by rw [rmReg_nms]; exact hc
  have ho' : o ∈ nms (rmReg D c o) := by rw [rmReg_nms]; exact ho
  rw [held_drop nc no, rm_drop, hr.road gh hc' nc ho' no, h.road gh hc nc ho no]
  refine and_congr_left fun _ => ?_
  constructor
  · intro q ms
    have := q ms
    rw [hr.out gh hc' nc ho' no, h.out gh hc nc ho no] at this
    exact this
  · intro q ms
    rw [hr.out gh hc' nc ho' no, h.out gh hc nc ho no]
    exact q ms
end
end ST
set_option maxHeartbeats 4000000
namespace ST
open PySem PySem.Spec PyProof.Rows L2
section
variable {U : List Str} {D : List C} {g : Str}
theorem Mk.ln_out (m : Mk U D) (h : ∀ c ∈ D, g ∉ c.bs) : ∀ c ∈ D, c.nm ≠ g → g ∉ c.ln := by
  induction m with
  | nil => exact fun c hc => by cases hc
  | @snoc D c rest m hn ok hb hnd h3 hm hl hrg hk hp ih =>
    have ih := ih fun d hd => h d (List.mem_append_left _ hd)
    have hg := h c (List.mem_append_right _ (List.mem_singleton.mpr rfl))
    intro d hd hne
    rcases List.mem_append.mp hd with z | z
    · exact ih d z hne
    · rw [List.mem_singleton.mp z] at hne ⊢
      rw [hl]
      intro y
      rcases List.mem_cons.mp y with y | y
      · exact hne y.symm
      · obtain ⟨l, hl', hgl⟩ := mrg_mem hm g y
        rcases List.mem_append.mp hl' with q | q
        · obtain ⟨b, hb', rfl⟩ := List.mem_map.mp q
          have bm := at_mem (hb b hb')
          exact ih _ bm.1 (fun e => hg (by rw [← e, bm.2]; exact hb')) hgl
        · rw [List.mem_singleton.mp q] at hgl
          exact hg hgl
theorem Gd.lo (gd : Gd U D) (hg : ∀ c ∈ D, g ∉ c.bs) : Lo D g where
  nd := gd.nd
  bs := hg
  ln := fun c hc hne => by
    have := gd.md.ln_out (g := g) (fun d hd => by
      obtain ⟨e, he, rfl⟩ := List.mem_map.mp hd
      exact hg e he) _ (un_mem hc) hne
    exact this
  lm := fun c hc => (gd.line hc).2.2
  rgn := fun c hc => (gd.rg c hc).1
  rgm := fun c hc o ho => ((gd.rg c hc).2.1 o ho).1
theorem at_dropF {x : Str} (hx : x ≠ g) : at_ (dropF D g) x = at_ D x := by
  unfold at_ dropF
  rw [List.find?_filter]
  congr 2
  funext c
  by_cases z : c.nm = x
  · rw [decide_eq_true z, decide_eq_true (show c.nm ≠ g by rw [z]; exact hx)]
    rfl
  · rw [decide_eq_false z]
    simp
theorem dropF_nms {x : Str} (h : x ∈ nms D) (hx : x ≠ g) : x ∈ nms (dropF D g) := by
  obtain ⟨c, hc, e⟩ := List.mem_map.mp h
  exact List.mem_map.mpr ⟨c, dropF_mem.mpr ⟨hc, by rw [e]; exact hx⟩, e⟩
theorem Mk.drop (m : Mk U D) (h : ∀ c ∈ D, g ∉ c.bs) : Mk U (dropF D g) := by
  induction m with
  | nil => exact .nil
  | @snoc D c rest m hn ok hb hnd h3 hm hl hrg hk hp ih =>
    have hD := fun d hd => h d (List.mem_append_left [c] hd)
    have ih := ih hD
    have hg := h c (List.mem_append_right _ (List.mem_singleton.mpr rfl))
    have sp : dropF (D ++ [c]) g = dropF D g ++ dropF [c] g := List.filter_append ..
    rw [sp]
    by_cases z : c.nm = g
    · have : dropF [c] g = [] := by
        unfold dropF
        rw [List.filter_cons, if_neg (by simp [z])]
        rfl
      rw [this, List.append_nil]
      exact ih
    · have : dropF [c] g = [c] := by
        unfold dropF
        rw [List.filter_cons, if_pos (by simp [z])]
        rfl
      rw [this]
      have bn : ∀ b ∈ c.bs, b ≠ g := fun b hb' e => hg (e ▸ hb')
      refine .snoc ih (fun y => hn ?_) ok (fun b hb' => dropF_nms (hb b hb') (bn b hb')) hnd h3 (rest := rest) ?_ hl hrg (fun h' e => ⟨(hk h' e).1, (hk h' e).2.imp id fun ⟨b, hb', q⟩ => ⟨b, hb', ?_⟩⟩) hp
      · obtain ⟨d, hd, e⟩ := List.mem_map.mp y
        exact List.mem_map.mpr ⟨d, (dropF_mem.mp hd).1, e⟩
      · have : (c.bs.map fun b => (at_ (dropF D g) b).ln) = c.bs.map fun b => (at_ D b).ln := List.map_congr_left fun b hb' => by rw [at_dropF (bn b hb')]
        rw [this]
        exact hm
      · rw [← q]
        refine sw_congr (by rw [at_dropF (bn b hb')]) fun x hx => ?_
        have bm := at_mem (hb b hb')
        have : x ≠ g := fun e => m.ln_out hD _ bm.1 (by rw [bm.2]; exact bn b hb') (e ▸ hx)
        rw [at_dropF this]
theorem Lo.rch (h : Lo D g) {x y : Str} (hx : x ∈ nms D) (nx : x ≠ g) (r : Rch (dropD D g) x y) : Rch D x y ∧ y ∈ nms D ∧ y ≠ g := by
  induction r with
  | refl => exact ⟨.refl, hx, nx⟩
  | step _ hc ih =>
    obtain ⟨i1, i2, i3⟩ := ih
    rw [h.nxt i2 i3] at hc
    obtain ⟨c1, c2⟩ := List.mem_filter.mp hc
    exact ⟨i1.step c1, h.nxn i2 c1, of_decide_eq_true c2⟩
theorem un_drop (D : List C) (g : Str) : un (dropD D g) = dropF (un D) g := by
  unfold un dropD dropF
  rw [List.map_map, List.filter_map]
  rfl
theorem Gd.drop (gd : Gd U D) (hg : ∀ c ∈ D, g ∉ c.bs) : Gd U (dropD D g) := by
  have lo := gd.lo hg
  refine ⟨?_, ?_, fun c hc => ?_⟩
  · rw [un_drop]
    exact gd.md.drop fun d hd => by
      obtain ⟨e, he, rfl⟩ := List.mem_map.mp hd
      exact hg e he
  · unfold dropD dropF
    rw [List.length_map]
    exact Nat.le_trans (List.length_filter_le _ _) gd.len
  · obtain ⟨d, hd, hne, rfl⟩ := dropD_mem hc
    obtain ⟨r1, r2, r3⟩ := gd.rg d hd
    refine ⟨r1.erase g, fun o ho => ?_, fun hr => ?_⟩
    · have ho : o ∈ d.rg.erase g := ho
      have om := List.mem_of_mem_erase ho
      have og : o ≠ g := fun e => by
        rw [r1.erase_eq_filter] at ho
        have := (List.mem_filter.mp ho).2
        simp [e] at this
      obtain ⟨o1, o2⟩ := r2 o om
      refine ⟨?_, fun z => o2 (lo.rch o1 og z).1⟩
      rw [nms_drop]
      exact List.mem_filter.mpr ⟨o1, decide_eq_true og⟩
    · have : sw D d.nm = true := r3 fun e => hr (by show d.rg.erase g = []; rw [e]; rfl)
      rw [← this]
      exact lo.sw (List.mem_map.mpr ⟨d, hd, rfl⟩) hne
end
end ST
set_option maxHeartbeats 4000000
namespace ST
open PySem PySem.Spec PyProof.Rows L2
section
variable {U : List Str} {D : List C} {g : Str}
/-- the pair does not name g -/
def off (g : Str) (q : Str × Str) : Bool := decide (q.1 ≠ g) && decide (q.2 ≠ g)
theorem regs_drop (h : Lo D g) : regsOf (dropD D g) = (regsOf D).filter (off g) := by
  have hr := h.rgn
  unfold regsOf dropD dropF
  rw [List.flatMap_map]
  clear h
  induction D with
  | nil => rfl
  | cons c r ih =>
    have ih := ih fun d hd => hr d (List.mem_cons_of_mem _ hd)
    rw [List.flatMap_cons, List.filter_append, ← ih, List.filter_cons]
    have hc := hr c (List.mem_cons_self ..)
    by_cases z : c.nm = g
    · rw [if_neg (by simp [z])]
      have : (c.rg.map fun o => (c.nm, o)).filter (off g) = [] := by
        rw [List.filter_eq_nil_iff]
        intro q hq
        obtain ⟨o, _, e⟩ := List.mem_map.mp hq
        rw [← e]
        unfold off
        simp [z]
      rw [this]
      rfl
    · rw [if_pos (by simp [z]), List.flatMap_cons]
      congr 1
      show (c.rg.erase g).map (fun o => (c.nm, o)) = _
      rw [hc.erase_eq_filter, List.filter_map]
      congr 1
      refine List.filter_congr fun o _ => ?_
      show (o != g) = off g (c.nm, o)
      unfold off
      by_cases y : o = g <;> simp [y, z]
theorem regs_in (h : Lo D g) {q : Str × Str} (hq : q ∈ regsOf D) : q.1 ∈ nms D ∧ q.2 ∈ nms D := by
  obtain ⟨c, hc, hq⟩ := List.mem_flatMap.mp hq
  obtain ⟨o, ho, e⟩ := List.mem_map.mp hq
  rw [← e]
  exact ⟨List.mem_map.mpr ⟨c, hc, rfl⟩, h.rgm c hc o ho⟩
theorem need_drop (h : Lo D g) {ps ps' : List (List Str)} (p : PatOk D ps) (p' : PatOk (dropD D g) ps') {q : Str × Str} (hq : q ∈ regsOf D) (ho : off g q = true) : needP ps' (dropD D g) q.1 q.2 = needP ps D q.1 q.2 := by
  obtain ⟨q1, q2⟩ := regs_in h hq
  unfold off at ho
  rw [Bool.and_eq_true, decide_eq_true_eq, decide_eq_true_eq] at ho
  have m1 : q.1 ∈ nms (dropD D g) := by
    rw [nms_drop]
    exact List.mem_filter.mpr ⟨q1, decide_eq_true ho.1⟩
  have m2 : q.2 ∈ nms (dropD D g) := by
    rw [nms_drop]
    exact List.mem_filter.mpr ⟨q2, decide_eq_true ho.2⟩
  rw [Bool.eq_iff_iff, need_iff p' m1 m2, need_iff p q1 q2]
  exact h.need q1 q2 ho.1 ho.2
theorem needs_drop (h : Lo D g) {ps ps' : List (List Str)} (p : PatOk D ps) (p' : PatOk (dropD D g) ps') (f : Bool → Bool) : (regsOf (dropD D g)).filter (fun q => f (needP ps' (dropD D g) q.1 q.2)) = ((regsOf D).filter fun q => f (needP ps D q.1 q.2)).filter (off g) := by
  rw [regs_drop h, List.filter_filter, List.filter_filter]
  refine List.filter_congr fun q hq => ?_
  cases ho : off g q with
  | false => rw [Bool.and_false, Bool.false_and]
  | true => rw [need_drop h p p' hq ho, Bool.and_true, Bool.true_and]
theorem flat_filter {α β : Type} (f : α → List β) (p : β → Bool) : ∀ l : List α, (l.flatMap f).filter p = l.flatMap fun x => (f x).filter p
  | [] => rfl
  | x :: r => by rw [List.flatMap_cons, List.filter_append, flat_filter f p r, List.flatMap_cons]
theorem flat_drop {α β : Type} (f : α → List β) (p : α → Bool) : ∀ l : List α, (∀ x ∈ l, p x = false → f x = []) → (l.filter p).flatMap f = l.flatMap f
  | [], _ => rfl
  | x :: r, h => by
    have ih := flat_drop f p r fun y hy => h y (List.mem_cons_of_mem _ hy)
    rw [List.filter_cons, List.flatMap_cons]
    cases hp : p x with
    | true =>
      rw [if_pos rfl, List.flatMap_cons, ih]
    | false =>
      rw [if_neg (by decide), h x (List.mem_cons_self ..) hp, ih]
      rfl
theorem flat_eq {α β : Type} {f h : α → List β} : ∀ {l : List α}, (∀ x ∈ l, f x = h x) → l.flatMap f = l.flatMap h
  | [], _ => rfl
  | x :: r, e => by rw [List.flatMap_cons, List.flatMap_cons, e x (List.mem_cons_self ..), flat_eq fun y hy => e y (List.mem_cons_of_mem _ hy)]
theorem two_drop (h : Lo D g) : twoP (dropD D g) = (twoP D).filter (off g) := by
  unfold twoP
  rw [flat_filter, nms_drop, List.filter_filter]
  have e1 : (nms D).filter (fun n => sw (dropD D g) n && decide (n ≠ g)) = ((nms D).filter fun n => sw D n).filter fun n => decide (n ≠ g) := by
    rw [List.filter_filter]
    refine List.filter_congr fun n hn => ?_
    by_cases z : n = g
    · simp [z]
    · rw [h.sw hn z, Bool.and_comm]
  rw [e1]
  have off_of : ∀ n, ((((nms D).filter fun o => decide (o ≠ n)).map fun o => (n, o)).filter (off g)) = if n = g then [] else (((nms D).filter fun x => decide (x ≠ g)).filter fun o => decide (o ≠ n)).map fun o => (n, o) := fun n => by
    rw [List.filter_map]
    by_cases z : n = g
    · rw [if_pos z, List.map_eq_nil_iff, List.filter_eq_nil_iff]
      intro o _
      show ¬ off g (n, o) = true
      unfold off
      simp [z]
    · rw [if_neg z, List.filter_filter, List.filter_filter]
      congr 1
      refine List.filter_congr fun o _ => ?_
      show (off g (n, o) && decide (o ≠ n)) = (decide (o ≠ n) && decide (o ≠ g))
      unfold off
      simp only [decide_eq_true (show n ≠ g from z), Bool.true_and]
      rw [Bool.and_comm]
  have e2 : (fun n => ((((nms D).filter fun o => decide (o ≠ n)).map fun o => (n, o)).filter (off g))) = fun n => if n = g then [] else (((nms D).filter fun x => decide (x ≠ g)).filter fun o => decide (o ≠ n)).map fun o => (n, o) := funext off_of
  rw [e2, ← flat_drop (fun n => if n = g then [] else (((nms D).filter fun x => decide (x ≠ g)).filter fun o => decide (o ≠ n)).map fun o => (n, o)) (fun n => decide (n ≠ g)) ((nms D).filter fun n => sw D n) fun n _ hn => if_pos (by simpa using hn)]
  refine flat_eq fun n hn => ?_
  have : n ≠ g := of_decide_eq_true (List.mem_filter.mp hn).2
  rw [if_neg this]
theorem rows_drop (h : Lo D g) (ps : List (List Str)) : (twoP (dropD D g)).map (rowOf (dropD D g) ps) = ((twoP D).map (rowOf D ps)).filter fun r => off g (r.1, r.2.1) := by
  rw [two_drop h, List.filter_map]
  have e : (fun r : Row => off g (r.1, r.2.1)) ∘ rowOf D ps = off g := rfl
  rw [e]
  refine List.map_congr_left fun q hq => ?_
  obtain ⟨q1, q2⟩ := List.mem_filter.mp hq
  obtain ⟨m1, m2⟩ := twoP_mem q1
  unfold off at q2
  rw [Bool.and_eq_true, decide_eq_true_eq, decide_eq_true_eq] at q2
  unfold rowOf
  have : (at_ (dropD D g) q.1).ln ++ (at_ (dropD D g) q.2).ln = (at_ D q.1).ln ++ (at_ D q.2).ln := by rw [at_drop q2.1, at_drop q2.2]
  rw [this]
  have e2 : ∀ ms, outS (dropD D g) ((at_ D q.1).ln ++ (at_ D q.2).ln) q.1 q.2 ms = outS D ((at_ D q.1).ln ++ (at_ D q.2).ln) q.1 q.2 ms := fun ms => h.out (h.gh m1 m2 q2.1 q2.2) m1 q2.1 m2 q2.2 ms
  congr 2
  exact List.map_congr_left fun ms _ => e2 ms
theorem Mk.last (m : Mk U D) (ne : D ≠ []) : ∃ n ∈ nms D, ∀ c ∈ D, n ∉ c.bs := by
  cases m with
  | nil => exact (ne rfl).elim
  | @snoc D c rest m hn ok hb hnd h3 hm hl hrg hk hp =>
    refine ⟨c.nm, List.mem_map.mpr ⟨c, List.mem_append_right _ (List.mem_singleton.mpr rfl), rfl⟩, fun d hd => ?_⟩
    rcases List.mem_append.mp hd with z | z
    · exact fun y => hn ((m.hks d z).2.2.2.2.2 _ y)
    · rw [List.mem_singleton.mp z]
      exact fun y => hn (hb _ y)
theorem Gd.low (gd : Gd U D) (ne : D ≠ []) : lowest D ≠ [] := by
  obtain ⟨n, hn, h⟩ := gd.md.last fun z => ne (List.map_eq_nil_iff.mp z)
  rw [nms_un] at hn
  intro z
  have : n ∈ lowest D := List.mem_filter.mpr ⟨hn, decide_eq_true fun c hc => (show n ∉ ({ c with rg := [] } : C).bs from h _ (un_mem hc))⟩
  rw [z] at this
  cases this
theorem low_mem {n : Str} (h : n ∈ lowest D) : n ∈ nms D ∧ (∀ c ∈ D, n ∉ c.bs) ∧ subs D n = [] := by
  obtain ⟨h1, h2⟩ := List.mem_filter.mp h
  have h2 := of_decide_eq_true h2
  refine ⟨h1, h2, ?_⟩
  unfold subs
  rw [List.map_eq_nil_iff, List.filter_eq_nil_iff]
  exact fun c hc z => h2 c hc (of_decide_eq_true z)
end
end ST
set_option maxHeartbeats 4000000
namespace ST
open PySem PySem.Spec PyProof.Rows L2
section
variable {K : PySem.W.Frag} {S S' A0 : Addr → Prop} {H H' : Hp} {D : List C} {sg : Sg} {q : PPar} {wd : Addr}
/-- all places of the plain classes -/
structure PIn (A0 : Addr → Prop) (D : List C) (q : PPar) : Prop where
  p : A0 q.p
  nl : A0 q.nl
  db : A0 q.db
  dw : A0 q.dw
  ds : A0 q.ds
  du : A0 q.du
  dor : A0 q.dor
  dl : A0 q.dl
  c : ∀ c ∈ D, A0 (q.bl c.nm) ∧ A0 (q.sl c.nm) ∧ A0 (q.ol c.nm) ∧ A0 (q.ll c.nm)
theorem POk.pin (w : POk K S H D sg q) : PIn (Al H) D q where
  p := al_of w.p_ (nt_dK _)
  nl := al_of w.nl_ (nt_lst _)
  db := al_of w.db_ (nt_dK _)
  dw := al_of w.dw_ (nt_dK _)
  ds := al_of w.ds_ (nt_dK _)
  du := al_of w.du_ (nt_dK _)
  dor := al_of w.do_ (nt_dK _)
  dl := al_of w.dl_ (nt_dK _)
  c := fun c hc => ⟨al_of (w.b_ c hc) (nt_lst _), al_of (w.s_ c hc) (nt_dK _), al_of (w.o_ c hc) (nt_lst _), al_of (w.l_ c hc) (nt_lst _)⟩
theorem PIn.drop (i : PIn A0 D q) (g : Str) : PIn A0 (dropD D g) q := { i with
  c := fun c hc => by
    obtain ⟨d, hd, _, rfl⟩ := dropD_mem hc
    exact i.c d hd }
theorem POk.away (w : POk K S H D sg q) (i : PIn A0 D q) (a : Frm K S' H H') (n : ∀ b, A0 b → ¬ S' b) : POk K S H' D sg q := { w with
  p_ := a.dK w.p_ (n _ i.p)
  nl_ := a.lst w.nl_ (n _ i.nl)
  db_ := a.dK w.db_ (n _ i.db)
  dw_ := a.dK w.dw_ (n _ i.dw)
  ds_ := a.dK w.ds_ (n _ i.ds)
  du_ := a.dK w.du_ (n _ i.du)
  do_ := a.dK w.do_ (n _ i.dor)
  dl_ := a.dK w.dl_ (n _ i.dl)
  b_ := fun c hc => a.lst (w.b_ c hc) (n _ (i.c c hc).1)
  s_ := fun c hc => a.dK (w.s_ c hc) (n _ (i.c c hc).2.1)
  r_ := fun c hc => (w.r_ c hc).frm a
  o_ := fun c hc => a.lst (w.o_ c hc) (n _ (i.c c hc).2.2.1)
  l_ := fun c hc => a.lst (w.l_ c hc) (n _ (i.c c hc).2.2.2) }
/-- the world's places, told anew: what came since is not of them -/
theorem WldM.renew (h : WldM K S H wd D) (a : Frm K S' H H') (n : ∀ b, S b → ¬ S' b) : WldM K (fun x => S x ∧ (Al H x ∨ ¬ Al H' x)) H' wd D := by
  obtain ⟨p, w⟩ := h
  have w' := w.away a n
  have al := fun {b : Addr} {o : HO} (h : H b = some o) (n : NT o) (hs : S b) => (⟨hs, .inl (al_of h n)⟩ : S b ∧ (Al H b ∨ ¬ Al H' b))
  refine ⟨p, { w' with
    e_ := fun c hc => ?_
    fr := fun b hb => ⟨w'.fr b hb, .inr hb⟩
    sw_ := al w.wd_ (nt_ins _ _ _) w.sw_
    sk := al w.kp_ (nt_dK _) w.sk
    scl := al w.cl_ (nt_lst _) w.scl
    st := al w.t_ (nt_ins _ _ _) w.st
    sr := al w.r_ (nt_dK _) w.sr
    sn := al w.n_ (nt_dK _) w.sn
    sl := al w.l_ (nt_dK _) w.sl
    sc := al w.ch_ (nt_ins _ _ _) w.sc
    sls := fun c hc => al (w.ll_ c hc) (nt_lst _) (w.sls c hc) }⟩
  have e1 := (w.e_ c hc).mono (W' := fun b => p.τ b = 7 ∧ S b ∧ Al H b) fun b hb z => ⟨z.1, z.2, hb⟩
  exact (e1.frm a fun b z => n b z.2.1).mono fun b _ z => ⟨z.1, z.2.1, .inl z.2.2⟩
end
end ST
set_option maxHeartbeats 4000000
namespace ST
open PySem PySem.Spec PyProof.Rows L2
open PySem.W (Datum)
theorem Gd.sm {U : List Str} {D : List C} (g : Gd U D) : Sm D := ⟨g.len, fun c hc h e => ⟨((g.hks hc).1 h e).len, fun q hq => (((g.hks hc).1 h e).q q hq).1⟩⟩
abbrev dOL : Datum (List (Option Str)) := @PySem.W.instDatumList _ _ dOpt
abbrev rowD (z : Row) : PyData := .tuple [.str z.1, .str z.2.1, .list (z.2.2.map oP)]
def dRow : Datum Row where
  toD := rowD
  plain z := by
    have := dOL.plain z.2.2
    show PyData.plain (.tuple [.str z.1, .str z.2.1, dOL.toD z.2.2]) = true
    simp only [PyData.plain, PyData.plainAll, this, Bool.and_self]
  eqv p q := by
    have := dOL.eqv p.2.2 q.2.2
    show PyData.eqv (.tuple [.str p.1, .str p.2.1, dOL.toD p.2.2]) (.tuple [.str q.1, .str q.2.1, dOL.toD q.2.2]) = _
    simp only [PyData.eqv, PyData.eqvAll]
    rw [this, Bool.and_true, PySem.W.beq_decide, PySem.W.beq_decide, ← Bool.decide_and, ← Bool.decide_and]
    exact decide_eq_decide.mpr ⟨fun e => Prod.ext e.1 (Prod.ext e.2.1 e.2.2), fun e => by rw [e]; exact ⟨rfl, rfl, rfl⟩⟩
  depth := dOL.depth + 1
  depth_le z := by
    have := dOL.depth_le z.2.2
    show PyData.depth (.tuple [.str z.1, .str z.2.1, dOL.toD z.2.2]) ≤ _
    simp only [PyData.depth, PyData.depthAll]
    refine Nat.succ_le_succ (Nat.max_le.mpr ⟨Nat.zero_le _, Nat.max_le.mpr ⟨Nat.zero_le _, Nat.max_le.mpr ⟨this, Nat.zero_le _⟩⟩⟩)
abbrev dRows : Datum (List Row) := @PySem.W.instDatumList _ _ dRow
theorem dps_opt {K : PySem.W.Frag} {H : Hp} : ∀ os : List (Option Str), DpAll K H (os.map oV) (os.map oP)
  | [] => .nil
  | o :: r => .cons (oV_dp K H o) (dps_opt r)
theorem dp_row {K : PySem.W.Frag} {H : Hp} {r : Addr} {z : Row} : RowR H r z → Dp K H (.ref r) (rowD z)
  | ⟨l, h1, h2⟩ => .tup (.of h1) (.cons (.str _) (.cons (.str _) (.cons (.lst (.of h2) (dps_opt _)) .nil)))
theorem dps_rows {K : PySem.W.Frag} {H : Hp} : ∀ {rs : List Addr} {zs : List Row}, Paired (RowR H) rs zs → DpAll K H (rs.map V.ref) (zs.map rowD)
  | _, _, .nil => .nil
  | _, _, .cons h r => .cons (dp_row h) (dps_rows r)
theorem RowF.r {H0 H : Hp} {r : Addr} {z : Row} : RowF H0 H r z → RowR H r z
  | ⟨l, h1, h2, _⟩ => ⟨l, h1, h2⟩
theorem RowsF.dp {K : PySem.W.Frag} {H0 H : Hp} {p : Addr} {zs : List Row} : RowsF H0 H p zs → Dp K H (.ref p) (.list (zs.map rowD))
  | ⟨_, h1, h2⟩ => .lst (.of h1) (dps_rows (L2.Paired.mapP h2 fun _ _ h => h.r))
/-- what a comprehension over rows keeps -/
theorem dps_kept {K : PySem.W.Frag} {H : Hp} : ∀ {acc : List V} {zs : List Row}, Paired (fun (y : V) (z : Row) => ∃ r : Addr, y = .ref r ∧ RowR H r z) acc zs → DpAll K H acc (zs.map rowD)
  | _, _, .nil => .nil
  | _, _, .cons ⟨r, e, h⟩ q => by
    subst e
    exact .cons (dp_row h) (dps_kept q)
theorem in_pair (g : Str) (a b : Str) : (!inV (.str g) [.str a, .str b]) = off g (a, b) := by
  have := inV_str g [a, b]
  show (!inV (.str g) (strL [a, b])) = _
  rw [this]
  unfold off
  by_cases h1 : a = g
  · subst h1; simp
  · by_cases h2 : b = g
    · subst h2; simp
    · simp [h1, h2, Ne.symm h1, Ne.symm h2]
theorem dropD_len {D : List C} {g : Str} (h : g ∈ nms D) : (dropD D g).length < D.length := by
  unfold dropD dropF
  rw [List.length_map]
  obtain ⟨c, hc, e⟩ := List.mem_map.mp h
  refine Nat.lt_of_le_of_ne (List.length_filter_le _ _) fun z => ?_
  have := List.length_filter_eq_length_iff.mp z c hc
  simp [e] at this
/-- a list of lists stays -/
theorem LsR.frm {K : PySem.W.Frag} {S : Addr → Prop} {H H' : Hp} (a : Frm K S H H') {rs : List Addr} {ls : List (List Str)} (h : LsR H rs ls) (n : ∀ r ∈ rs, ¬ S r) : LsR H' rs ls := by
  unfold LsR at h ⊢
  induction h with
  | nil => exact .nil
  | cons h r ih => exact .cons (a.lst h (n _ (List.mem_cons_self ..))) (ih fun r hr => n r (List.mem_cons_of_mem _ hr))
theorem LsR.al {H : Hp} {rs : List Addr} {ls : List (List Str)} (h : LsR H rs ls) : ∀ r ∈ rs, Al H r := by
  unfold LsR at h
  induction h with
  | nil => exact fun r hr => by cases hr
  | cons h r ih =>
    intro x hx
    rcases List.mem_cons.mp hx with z | z
    · exact z ▸ al_of h (nt_lst _)
    · exact ih x z
end ST
set_option maxHeartbeats 4000000
namespace ST
open PySem PySem.Spec PyProof.Rows L2
open LamX (CodeO Tabs TabB)
section
variable {P : Program} {w : World} {K : PySem.W.Frag} {mg : Str → Option Value} {base : Heap}
def spLaw (K : PySem.W.Frag) : Sp := fun vs H Q _ => ∃ (a : Addr) (ns : List Int), vs = [.ref a] ∧ SqL K H a (ns.map V.int) ∧ ns.length ≤ 63 ∧ Tabs (Tbs K) H ∧ ∀ H', Q (.bl true) H'
/-- what stands at the head of the while: H the law's own start, H1 ahead of the draw, H2 behind it -/
structure Inv7 (K : PySem.W.Frag) (H H1 H2 : Hp) (b : Addr) (n : Nat) (wd pl : Addr) (rs : List Addr) (ps : List (List Str)) (U : List Str) (sg : Sg) (q : PPar) (Sw : Addr → Prop) (H' : Hp) (D : List C) : Prop where
  ext : Ext K H H'
  gd : Gd U D
  bag : BagR H' b (n + 8 - D.length)
  pl_ : POk K (fun x => ¬ Al H1 x ∧ Al H2 x) H' D sg q
  pin : PIn (Al H2) D q
  wm : WldM K Sw H' wd D
  sw : ∀ x, Sw x → ¬ Al H2 x ∧ x ≠ pl ∧ x ∉ rs
  hpl : H' pl = some (.lst (rs.map V.ref))
  hrs : LsR H' rs ps
  al : ∀ x, Al H2 x → Al H' x
theorem ok_law (T : Tx K mg) (B : Tb base mg K) : FnOk P w K mg base CX0 30 (He.fAd K d_law.at_) (fdOf K (He.fAd K d_law.at_)) ["_law_script"] (spLaw K) := by
  refine (F_law T).ok sc_law (fun vs H Q E h => ?_) (fun cdv A outer s H vs Q E hr h => ?_)
  · obtain ⟨_, _, rfl, _⟩ := h
    rfl
  · obtain ⟨a, ns, rfl, ha, hns, hT, k⟩ := h
    have hu := hu_of hr
    refine ⟨_, PSs.nox (pss_cons (ps_for PassesOwn.never rfl (pi_range1 rfl (z_range T) (pa_cons (pe_callB (k_max2 rfl) (by rfl) (z_max T) (by decide +kernel) (pa_cons pe_int (pa_cons (pe_callB (k_min2 rfl) (by rfl) (z_min T) (by decide +kernel) (pa_cons pe_int (pa_cons (pe_callB (k_len (K := K) rfl) (by rfl) (z_len T) (by decide +kernel) (pa_cons (pv 0) pa_nil)) pa_nil))) pa_nil))) pa_nil)) (pg_name (i := 1) (sc_law).nd rfl (Or.inl rfl)) (pss_cons (ps_set (i := 2) (sc_law).nd rfl (Or.inl rfl) (pe_call (ok_law_bag T) (hr.mono (by decide)) rfl (g_law_bag T) (F_law_bag T).kp (b_law_bag T) .nil pass0 (pa_cons (pv 0) (pa_cons (pv 1) pa_nil))))
    (pss_one (ps_for PassesOwn.never rfl (pi_range1 rfl (z_range T) (pa_cons pe_int pa_nil)) (pg_name (i := 3) (sc_law).nd rfl (Or.inl rfl)) (pss_cons (ps_set (i := 4) (sc_law).nd rfl (Or.inl rfl) (pe_call (ok_law_drawn T) (hr.mono (by decide)) rfl (g_law_drawn T) (F_law_drawn T).kp (b_law_drawn T) .nil pass0 (pa_cons (pv 2) (pa_cons pe_int pa_nil))))
    (pss_cons (ps_par (i := 5) (j := 6) rfl (sc_law).nd rfl rfl (by decide) rfl rfl (pa_cons (pe_call (ok_law_made T) (hr.mono (by decide)) rfl (g_law_made T) (F_law_made T).kp (b_law_made T) .nil pass0 (pa_cons (pv 4) pa_nil)) (pa_cons (pe_call (ok_law_patterns T) (hr.mono (by decide)) rfl (g_law_patterns T) (F_law_patterns T).kp (b_law_patterns T) .nil pass0 (pa_cons (pv 4) pa_nil)) pa_nil)) rfl)
    (pss_one (ps_while PassesOwn.never (pt_cmpR op_gt (pe_callB (k_len (K := K) rfl) (by rfl) (z_len T) (by decide +kernel) (pa_cons (pe_dget hu (pv 4) pe_str (fun _ _ => rfl)) pa_nil)) pe_int (nomark _)) (pss_cons (ps_par (i := 7) (j := 8) rfl (sc_law).nd rfl rfl (by decide) rfl rfl (pa_cons (pe_call (ok_needless T B) (hr.mono (by decide)) rfl (g_needless T) (F_needless T).kp (b_needless T) .nil pass0 (pa_cons (pv 5) pa_nil)) (pa_cons (pe_call (ok_kernel T B) (hr.mono (by decide)) rfl (g_kernel T) (F_kernel T).kp (b_kernel T) .nil pass0 (pa_cons (pv 5) pa_nil)) pa_nil)) rfl)
    (pss_cons (ps_asg (pe_tup (pa_cons (pe_call (ok_law_outcomes T B) (hr.mono (by decide)) rfl (g_law_outcomes T) (F_law_outcomes T).kp (b_law_outcomes T) .nil pass0 (pa_cons (pv 5) (pa_cons (pv 4) (pa_cons (pv 6) pa_nil)))) (pa_cons (pe_call (ok_law_pick T) (hr.mono (by decide)) rfl (g_law_pick T) (F_law_pick T).kp (b_law_pick T) .nil pass0 (pa_cons (pv 2) (pa_cons (pe_call (ok_law_lowest T) (hr.mono (by decide)) rfl (g_law_lowest T) (F_law_lowest T).kp (b_law_lowest T) .nil pass0 (pa_cons (pv 4) pa_nil)) pa_nil))) pa_nil))) (g_tup (K := K) rfl rfl (pgs_cons (pg_name (i := 9) (sc_law).nd rfl (Or.inl rfl)) (pgs_cons (pg_name (i := 10) (sc_law).nd rfl (Or.inr rfl)) pgs_nil))))
    (pss_cons (ps_expr (pe_meth (pv 5) (cl_World T) (m_World_drop T) (ok_World_drop T) (hr.mono (by decide)) (b_World_drop T) .nil pass0 (pa_cons (pv 10) pa_nil)))
    (pss_cons (ps_expr (pe_call (ok_law_drop T) (hr.mono (by decide)) rfl (g_law_drop T) (F_law_drop T).kp (b_law_drop T) .nil pass0 (pa_cons (pv 4) (pa_cons (pv 10) pa_nil))))
    (pss_cons (ps_if (pt_cmpR (o_neT (K := K) rfl hr.units) (pe_call (ok_needless T B) (hr.mono (by decide)) rfl (g_needless T) (F_needless T).kp (b_needless T) .nil pass0 (pa_cons (pv 5) pa_nil)) (pe_lc (own := [("_law_pair", 11)]) (g := gName 11) (tt := _) rfl (sc_law).nd (i_list (K := K) rfl (pv 7)) (blkOk_by (by kernel_rfl)) (fun _ _ _ _ _ => (pg_name (i := 11) (sc_law).nd rfl (by first | exact Or.inl rfl | exact Or.inr rfl))) (fun _ _ _ _ _ => pts_one (pt_cmpR (o_ni (K := K) rfl) (pv 10) (pv 11) (by rfl))) (fun _ _ _ _ _ => (pv 11))) (nomark _)) (pss_one (ps_ret pe_bl)) pss_nil)
    (pss_cons (ps_if (pt_cmpR (o_neT (K := K) rfl hr.units) (pe_call (ok_kernel T B) (hr.mono (by decide)) rfl (g_kernel T) (F_kernel T).kp (b_kernel T) .nil pass0 (pa_cons (pv 5) pa_nil)) (pe_lc (own := [("_law_pair", 11)]) (g := gName 11) (tt := _) rfl (sc_law).nd (i_list (K := K) rfl (pv 8)) (blkOk_by (by kernel_rfl)) (fun _ _ _ _ _ => (pg_name (i := 11) (sc_law).nd rfl (by first | exact Or.inl rfl | exact Or.inr rfl))) (fun _ _ _ _ _ => pts_one (pt_cmpR (o_ni (K := K) rfl) (pv 10) (pv 11) (by rfl))) (fun _ _ _ _ _ => (pv 11))) (nomark _)) (pss_one (ps_ret pe_bl)) pss_nil)
    (pss_one (ps_if (pt_cmpR (o_neT (K := K) rfl hr.units) (pe_call (ok_law_outcomes T B) (hr.mono (by decide)) rfl (g_law_outcomes T) (F_law_outcomes T).kp (b_law_outcomes T) .nil pass0 (pa_cons (pv 5) (pa_cons (pv 4) (pa_cons (pv 6) pa_nil)))) (pe_lc (own := [("_law_row", 12)]) (g := gName 12) (tt := _) rfl (sc_law).nd (i_list (K := K) rfl (pv 9)) (blkOk_by (by kernel_rfl)) (fun _ _ _ _ _ => (pg_name (i := 12) (sc_law).nd rfl (by first | exact Or.inl rfl | exact Or.inr rfl))) (fun _ _ _ _ _ => pts_one (pt_cmpR (o_ni (K := K) rfl) (pv 10) (pe_slice (l_t (K := K) rfl) (pv 12) po_none (po_some pe_int)) (by rfl))) (fun _ _ _ _ _ => (pv 12))) (nomark _)) (pss_one (ps_ret pe_bl)) pss_nil))))))))))))))))
    (pss_one (ps_ret pe_bl))), ?_⟩
    refine ⟨_, rfl, a, _, rfl, .inl ha, _, _, rfl, _, _, rfl, ?_⟩
    rw [List.length_map]
    obtain ⟨c, hc, hc3⟩ : ∃ c : Nat, (if (if ((ns.length : Nat) : Int) < 3 then ((ns.length : Nat) : Int) else 3) > 2 then (if ((ns.length : Nat) : Int) < 3 then ((ns.length : Nat) : Int) else 3) else 2) = (c : Int) ∧ c ≤ 3 := by
      by_cases h1 : ((ns.length : Nat) : Int) < 3
      · rw [if_pos h1]
        by_cases h2 : ((ns.length : Nat) : Int) > 2
        · rw [if_pos h2]
          exact ⟨ns.length, rfl, by omega⟩
        · rw [if_neg h2]
          exact ⟨2, rfl, by omega⟩
      · rw [if_neg h1]
        exact ⟨3, rfl, by omega⟩
    rw [hc]
    clear hc
    refine ⟨_, rfl, by omega, by omega, ?_⟩
    rw [show ((c : Nat) : Int).toNat = c by omega]
    refine for_it walk_range (fun i σ H' => ∃ x1 x2 x3 x4 x5 x6 x7 x8 x9 x10 x11 x12 : Option V, σ = [some (.ref a), x1, x2, x3, x4, x5, x6, x7, x8, x9, x10, x11, x12] ∧ Ext K H H') ⟨_, _, _, _, _, _, _, _, _, _, _, _, rfl, .refl⟩ (fun _ _ _ _ _ => trivial) ?_ ?_
    case refine_2 =>
      rintro σ H' ⟨_, _, _, _, _, _, _, _, _, _, _, _, rfl, e⟩
      exact k _
    rintro i x σ H0' H0 hi ⟨_, _, _, _, _, _, _, _, _, _, _, _, rfl, e0⟩ ⟨rfl, rfl⟩
    refine ⟨_, rfl, _, rfl, a, ns, i, by show [V.ref a, V.int (0 + (i : Int))] = _; rw [Int.zero_add], ext_l e0 ha, by omega, by omega, fun b H1 e1 fb hB => ?_⟩
    have e01 := e0.trans e1
    have fbH : ¬ Al H b := fresh_back e0 fb
    refine ⟨_, rfl, by decide, by decide, ?_⟩
    rw [show ((2 : Int).toNat) = 2 from rfl]
    refine for_it walk_range (fun j σ H' => ∃ x3 x4 x5 x6 x7 x8 x9 x10 x11 x12 : Option V, σ = [some (.ref a), some (.int (0 + (i : Int))), some (.ref b), x3, x4, x5, x6, x7, x8, x9, x10, x11, x12] ∧ Ext K H H' ∧ BagR H' b (700 * j)) ⟨_, _, _, _, _, _, _, _, _, _, rfl, e01, hB⟩ (fun _ _ _ _ _ => trivial) ?_ ?_
    case refine_2 =>
      rintro σ H' ⟨_, _, _, _, _, _, _, _, _, _, rfl, e, _⟩
      exact ⟨_, _, _, _, _, _, _, _, _, _, _, _, rfl, e⟩
    clear hB e01 e1 fb
    rintro j x σ H1' H1 hj ⟨_, _, _, _, _, _, _, _, _, _, rfl, e1, hB⟩ ⟨rfl, rfl⟩
    refine ⟨_, rfl, b, _, rfl, hB, by omega, fun H2 D sg q U f2 hB2 W2 g2 uok hsg => ?_⟩
    have e2 : Ext K H H2 := e1.over f2 fun x z => .inl (z ▸ fbH)
    have bH1 : Al H1 b := hB.al
    have aH1 : ∀ x, Al H x → Al H1 x := e1.al
    have aH2 : ∀ x, Al H x → Al H2 x := e2.al
    have bH2 : Al H2 b := hB2.al
    have hU : U.length ≤ 6 := by have := uok.len; omega
    refine ⟨_, rfl, _, D, sg, q, U, rfl, W2, g2, uok, hsg, fun wd H3 e3 WM3 => ?_⟩
    refine ⟨_, rfl, _, D, sg, q, rfl, W2.ext e3, g2.wf hU, g2.sm, fun pl H4 rs ps e4 hpl hrs npl nrs hps => ⟨_, _, rfl, ?_⟩⟩
    have e34 := e3.trans e4
    have npl2 : ¬ Al H2 pl := fresh_back e3 npl
    have nrs2 : ∀ r ∈ rs, ¬ Al H2 r := fun r hr => fresh_back e3 (nrs r hr)
    have I0 : Inv7 K H H1 H2 b (700 * j + 600) wd pl rs ps U sg q (fun x => ¬ Al H2 x ∧ (Al H3 x ∨ ¬ Al H4 x)) H4 D := {
      ext := e2.trans e34
      gd := g2
      bag := (hB2.ext e34).mono (by have := g2.len; omega)
      pl_ := (W2.narrow fun x h1 h2 => ⟨h1, h2⟩).ext e34
      pin := W2.pin
      wm := WM3.renew e4 fun _ _ z => z
      sw := fun x ⟨h1, h2⟩ => ⟨h1, fun z => h2.elim (fun y => npl (z ▸ y)) (fun y => y (z ▸ al_of hpl (nt_lst _))), fun z => h2.elim (fun y => nrs x z y) (fun y => y (hrs.al x z))⟩
      hpl := hpl
      hrs := hrs
      al := fun x h => e34.al x h }
    clear e4 hpl hrs WM3 e34 e3 npl nrs hB2 W2 g2 f2 e2 hB e1
    refine ⟨fun m σ H' => ∃ (D : List C) (Sw : Addr → Prop) (x7 x8 x9 x10 x11 x12 : Option V), m = D.length ∧ σ = [some (.ref a), some (.int (0 + (i : Int))), some (.ref b), some (.int (0 + (j : Int))), some (.ref q.p), some (.ref wd), some (.ref pl), x7, x8, x9, x10, x11, x12] ∧ Inv7 K H H1 H2 b (700 * j + 600) wd pl rs ps U sg q Sw H' D, ⟨_, D, _, _, _, _, _, _, _, rfl, rfl, I0⟩, ?_⟩
    clear I0 D
    rintro m σ H5 ⟨D, Sw, _, _, _, _, _, _, rfl, rfl, I5⟩
    have W5 := I5.pl_
    have g5 := I5.gd
    have wf := g5.wf hU
    have len8 := g5.len
    refine ⟨_, rfl, q.p, _, rfl, W5.kN, q.nl, _, rfl, .inl (.inl (.of W5.nl_)), _, _, rfl, rfl, _, rfl, ?_⟩
    rw [strL_length, List.length_map]
    refine ite2 (fun z => ?_) (fun z => ?_)
    case refine_2 => exact ⟨_, _, _, _, _, _, _, _, _, _, rfl, I5.ext, I5.bag.mono (by omega)⟩
    have Dne : D ≠ [] := fun y => by
      rw [y] at z
      simp at z
    clear z
    have WM5 := I5.wm
    have hT5 := I5.ext.tabs hT
    refine ⟨_, fun σ' H' z => z, ?_⟩
    refine ⟨_, rfl, wd, D, rfl, WM5.r, wf, hT5, fun p1 H6 ps1 e6 f6 ok1 hP1 => ?_⟩
    refine ⟨_, rfl, wd, D, rfl, (WM5.ext e6).r, wf, e6.tabs hT5, fun p2 H7 ps2 e7 f7 ok2 hP2 => ⟨_, _, rfl, ?_⟩⟩
    have e57 := e6.trans e7
    have f7 := fresh_back e6 f7
    refine ⟨_, rfl, _, rfl, _, rfl, _, Sw, D, sg, q, wd, pl, ps, rfl, WM5.ext e57, W5.ext e57, wf, len8, ⟨rs, e57.at I5.hpl (nt_lst _), I5.hrs.ext e57⟩, hps, e57.tabs hT5, fun p3 H8 e8 f8 hR8 => ?_⟩
    have e58 := e57.trans e8
    have f8 := fresh_back e57 f8
    refine ⟨_, rfl, _, rfl, _, D, sg, q, rfl, W5.ext e58, wf, fun c hc => (g5.hks hc).2.2.2.1, fun p4 H9 e9 f9 hp4 => ?_⟩
    have e59 := e58.trans e9
    have twoLen : (twoP D).length ≤ 10000 := by
      unfold twoP
      refine Nat.le_trans (flat_len _ 50 _ fun x _ => ?_) (show _ * 50 ≤ 200 * 50 from Nat.mul_le_mul_right _ ?_)
      · rw [List.length_map]
        exact Nat.le_trans (List.length_filter_le _ _) (nms_len wf)
      · exact Nat.le_trans (List.length_filter_le _ _) (Nat.le_trans (nms_len wf) (by decide))
    have lowL : (lowest D).length ≤ 8 := Nat.le_trans (List.length_filter_le _ _) (by rw [List.length_map]; exact len8)
    have bag9 := I5.bag.ext e59
    refine ⟨b, p4, _, _, rfl, bag9, hp4, (ne_fresh (e58.al _ I5.bag.al) f9).symm, by omega, ?_, by rw [strL_length]; omega, fun v H10 hv f10 hB10 => ?_⟩
    · rw [strL_length]
      exact List.length_pos_iff.mpr (g5.low Dne)
    obtain ⟨g, hg, rfl⟩ := List.mem_map.mp hv
    obtain ⟨gm, gb, gs⟩ := low_mem hg
    have lo := g5.lo gb
    have f5 : Frm K (fun x => x = b) H5 H10 := e59.of.trans f10
    refine ⟨Nat.le_of_ble_eq_true rfl, fun tp htp => ?_⟩
    have eT : Ext K H10 (upd H10 tp (.tup [.ref p3, .str g])) := .new htp (nt_tup _)
    have hT11 : (upd H10 tp (.tup [.ref p3, .str g])) tp = some (.tup [.ref p3, .str g]) := upd_same
    generalize upd H10 tp (.tup [.ref p3, .str g]) = H11 at eT hT11 ⊢
    refine ⟨tp, _, rfl, .of hT11, rfl, _, _, rfl, _, _, rfl, rfl, ?_⟩
    have f5 : Frm K (fun x => x = b) H5 H11 := f5.trans eT.of
    have bSw : ¬ Sw b := fun z => (I5.sw b z).1 bH2
    have WM11 := WM5.renew f5 fun x h z => bSw (z ▸ h)
    have bag11 := hB10.ext eT
    have W11 := ((W5.ext e59).bag bag9 f10).ext eT
    have nb : ∀ {x : Addr}, ¬ Al H5 x → ¬ x = b := fun h z => h (z ▸ I5.bag.al)
    have hP1 := hP1.frm (((e7.trans e8).trans e9).of.trans (f10.trans eT.of)) (nb f6)
    have hP2 := hP2.frm ((e8.trans e9).of.trans (f10.trans eT.of)) (nb f7)
    obtain ⟨rr, hp3, hrow⟩ := hR8
    have g8 : Frm K (fun x => x = b) H8 H11 := e9.of.trans (f10.trans eT.of)
    have hp3 := g8.lst hp3 (nb f8)
    have hrow : Paired (RowF H5 H11) rr ((twoP D).map (rowOf D ps)) := L2.Paired.mapP hrow fun _ _ ⟨l, l1, l2, l3⟩ => ⟨l, g8.tup l1, g8.lst l2 (nb (fresh_back e57 l3)), fresh_back e57 l3⟩
    have hpl := f5.lst I5.hpl (fun z => npl2 (z ▸ bH2))
    have hrs := I5.hrs.frm f5 (fun r hr z => nrs2 r hr (z ▸ bH2))
    have x11 : Ext K H H11 := I5.ext.over f5 fun x z => .inl (z ▸ fbH)
    refine ⟨_, rfl, wd, _, _, rfl, (Classical.choose_spec WM11).wd_, rfl, _, rfl, wd, _, D, g, rfl, WM11, wf, gm, gs, fun H12 f12 WM12 => ?_⟩
    have n12 : ∀ {x : Addr} {o : HO}, H11 x = some o → NT o → ¬ Al H5 x → ¬ (Sw x ∧ (Al H5 x ∨ ¬ Al H11 x)) := fun h1 h2 h3 z => z.2.elim h3 fun y => y (al_of h1 h2)
    have W12 := W11.away I5.pin f12 fun x h z => (I5.sw x z.1).1 h
    have bag12 := bag11.frm f12 fun z => bSw z.1
    have hpl := f12.lst hpl fun z => (I5.sw _ z.1).2.1 rfl
    have hrs := hrs.frm f12 fun r hr z => (I5.sw _ z.1).2.2 hr
    have hP1 := hP1.frm f12 (hP1.elim fun _ h => n12 h.1 (nt_lst _) f6)
    have hP2 := hP2.frm f12 (hP2.elim fun _ h => n12 h.1 (nt_lst _) f7)
    have hp3' := f12.lst hp3 (n12 hp3 (nt_lst _) f8)
    have hrow : Paired (RowF H5 H12) rr ((twoP D).map (rowOf D ps)) := L2.Paired.mapP hrow fun _ _ ⟨l, l1, l2, l3⟩ => ⟨l, f12.tup l1, f12.lst l2 (n12 l2 (nt_lst _) l3), l3⟩
    have x12 := x11.over f12 fun x z => .inl fun y => (I5.sw x z.1).1 (aH2 x y)
    refine ⟨_, rfl, _, rfl, _, D, sg, q, g, rfl, W12, wf, gm, fun H13 f13 W13 => ?_⟩
    have WM13 := WM12.away f13 fun x z y => (I5.sw x z.1).1 y.2
    have bag13 := bag12.frm f13 fun z => z.1 bH1
    have hpl := f13.lst hpl fun z => npl2 z.2
    have hrs := hrs.frm f13 fun r hr z => nrs2 r hr z.2
    have hP1 := hP1.frm f13 fun z => f6 (I5.al _ z.2)
    have hP2 := hP2.frm f13 fun z => f7 (I5.al _ z.2)
    have hp3 := f13.lst hp3' fun z => f8 (I5.al _ z.2)
    have hrow : Paired (RowF H5 H13) rr ((twoP D).map (rowOf D ps)) := L2.Paired.mapP hrow fun _ _ ⟨l, l1, l2, l3⟩ => ⟨l, f13.tup l1, f13.lst l2 (fun z => l3 (I5.al _ z.2)), l3⟩
    have x13 := x12.over f13 fun x z => .inl fun y => z.1 (aH1 x y)
    have al13 : ∀ x, Al H2 x → Al H13 x := fun x h => f13.al _ (f12.al _ (f5.al _ (I5.al x h)))
    have hT13 := x13.tabs hT
    have dl := dropD_len gm
    have g13 := g5.drop gb
    have wf' := g13.wf hU
    have pin' := I5.pin.drop g
    have sw' : ∀ x, (Sw x ∧ (Al H5 x ∨ ¬ Al H11 x)) → ¬ Al H2 x ∧ x ≠ pl ∧ x ∉ rs := fun x z => I5.sw x z.1
    have bag13 : BagR H13 b (700 * j + 600 + 8 - (dropD D g).length) := bag13.mono (by omega)
    clear f5 f6 f7 f8 f9 f10 f12 f13 e6 e7 e8 e9 e57 e58 e59 eT hT11 htp WM5 WM11 WM12 W5 W11 W12 bag9 bag11 bag12 x11 x12 hp3' g8 n12 nb bSw I5 hp4 hv hT5 hB10
    -- the first comparison
    refine ⟨_, rfl, wd, _, rfl, WM13.r, wf', hT13, fun p5 H14 ps5 e14 f14 ok5 hP5 => ?_⟩
    obtain ⟨r1, hr1, hr2⟩ := hP1.frm e14 id
    refine ⟨_, rfl, p1, rfl, ⟨_, .of hr1⟩, ?_⟩
    refine lcw (K := K) walk_list (fun _ H (y : V) (q : Str × Str) => ∃ r : Addr, y = .ref r ∧ H r = some (.tup [.str q.1, .str q.2])) (fun i => (((regsOf D).filter fun q => needP ps1 D q.1 q.2)[i]?).bind fun q => if off g q = true then some q else none) (fun _ _ _ _ _ a ⟨r, h1, h2⟩ => ⟨r, h1, a.tup h2⟩) (fun H e => ext_l e (.of hr1)) (by rw [List.length_map, paired_len hr2]; exact Nat.le_trans (List.length_filter_le _ _) (Nat.le_trans (regs_len wf) (by decide))) (fun i x H15 H15' DD hi e15 y fD aD N0 N1 h0 h1 => ?_) (fun DD acc H15 fD e15 h pr => ?_)
    · obtain ⟨rfl, hx⟩ := y
      rw [List.getElem?_map] at hx
      cases hr' : r1[i]? with
      | none => rw [hr'] at hx; cases hx
      | some r =>
        rw [hr'] at hx
        cases hx
        obtain ⟨z, hz, hrr⟩ := paired_get hr2 hr'
        rw [hz] at h0 h1
        have t := e15.tup hrr
        refine ⟨rfl, _, rfl, _, rfl, r, _, rfl, .inr (.of t), rfl, rfl, _, rfl, ?_⟩
        show if (!inV (.str g) [.str z.1, .str z.2]) = true then _ else _
        rw [in_pair]
        refine ite2 (fun y => ?_) (fun y => ?_)
        · exact ⟨_, rfl, h1 z (if_pos y) _ _ .refl ⟨r, rfl, t⟩⟩
        · exact h0 (if_neg y) _ .refl
    rw [List.length_map] at pr
    have hB1 := pairs_out (f := off g) (L2.Paired.mapP hr2 fun _ _ h => e15.tup h) h pr
    refine ⟨_, _, dPairs, _, _, (hP5.frm e15 id).dp, hB1.dp, by decide, _, rfl, ?_⟩
    refine ite2 (fun z => absurd (needs_drop lo ok1 ok5 id) (of_decide_eq_true z)) (fun _ => ?_)
    have e15 := e14.trans e15
    clear e14 hP5 hB1 hr1 hr2 hP1 pr h fD f14
    -- the second
    refine ⟨_, rfl, wd, _, rfl, (WM13.ext e15).r, wf', e15.tabs hT13, fun p6 H16 ps6 e16 f16 ok6 hP6 => ?_⟩
    obtain ⟨r1, hr1, hr2⟩ := hP2.frm (e15.trans e16) id
    refine ⟨_, rfl, p2, rfl, ⟨_, .of hr1⟩, ?_⟩
    refine lcw (K := K) walk_list (fun _ H (y : V) (q : Str × Str) => ∃ r : Addr, y = .ref r ∧ H r = some (.tup [.str q.1, .str q.2])) (fun i => (((regsOf D).filter fun q => !needP ps2 D q.1 q.2)[i]?).bind fun q => if off g q = true then some q else none) (fun _ _ _ _ _ a ⟨r, h1, h2⟩ => ⟨r, h1, a.tup h2⟩) (fun H e => ext_l e (.of hr1)) (by rw [List.length_map, paired_len hr2]; exact Nat.le_trans (List.length_filter_le _ _) (Nat.le_trans (regs_len wf) (by decide))) (fun i x H17 H17' DD hi e17 y fD aD N0 N1 h0 h1 => ?_) (fun DD acc H17 fD e17 h pr => ?_)
    · obtain ⟨rfl, hx⟩ := y
      rw [List.getElem?_map] at hx
      cases hr' : r1[i]? with
      | none => rw [hr'] at hx; cases hx
      | some r =>
        rw [hr'] at hx
        cases hx
        obtain ⟨z, hz, hrr⟩ := paired_get hr2 hr'
        rw [hz] at h0 h1
        have t := e17.tup hrr
        refine ⟨rfl, _, rfl, _, rfl, r, _, rfl, .inr (.of t), rfl, rfl, _, rfl, ?_⟩
        show if (!inV (.str g) [.str z.1, .str z.2]) = true then _ else _
        rw [in_pair]
        refine ite2 (fun y => ?_) (fun y => ?_)
        · exact ⟨_, rfl, h1 z (if_pos y) _ _ .refl ⟨r, rfl, t⟩⟩
        · exact h0 (if_neg y) _ .refl
    rw [List.length_map] at pr
    have hB1 := pairs_out (f := off g) (L2.Paired.mapP hr2 fun _ _ h => e17.tup h) h pr
    refine ⟨_, _, dPairs, _, _, (hP6.frm e17 id).dp, hB1.dp, by decide, _, rfl, ?_⟩
    refine ite2 (fun z => absurd (needs_drop lo ok2 ok6 not) (of_decide_eq_true z)) (fun _ => ?_)
    have e17 := (e15.trans e16).trans e17
    clear e15 e16 hP6 hB1 hr1 hr2 hP2 pr h fD f16
    -- the third
    refine ⟨_, rfl, _, rfl, _, rfl, _, _, dropD D g, sg, q, wd, pl, ps, rfl, WM13.ext e17, W13.ext e17, wf', by omega, ⟨rs, e17.at hpl (nt_lst _), hrs.ext e17⟩, hps, e17.tabs hT13, fun p7 H18 e18 f18 hR7 => ?_⟩
    have e1318 := e17.trans e18
    have hp3 := e1318.at hp3 (nt_lst _)
    have hrow : Paired (RowR H18) rr ((twoP D).map (rowOf D ps)) := L2.Paired.mapP hrow fun _ _ h => h.r.ext e1318
    refine ⟨_, rfl, p3, rfl, ⟨_, .of hp3⟩, ?_⟩
    refine lcw (K := K) walk_list (fun DD H (y : V) (z : Row) => ∃ r l : Addr, y = .ref r ∧ H r = some (.tup [.str z.1, .str z.2.1, .ref l]) ∧ H l = some (.lst (z.2.2.map oV)) ∧ l ≠ DD) (fun i => (((twoP D).map (rowOf D ps))[i]?).bind fun z => if off g (z.1, z.2.1) = true then some z else none) (fun _ _ _ _ _ a ⟨r, l, h1, h2, h3, h4⟩ => ⟨r, l, h1, a.tup h2, a.lst h3 h4, h4⟩) (fun H e => ext_l e (.of hp3)) (by rw [List.length_map, paired_len hrow, List.length_map]; exact twoLen) (fun i x H19 H19' DD hi e19 y fD aD N0 N1 h0 h1 => ?_) (fun DD acc H19 fD e19 h pr => ?_)
    · obtain ⟨rfl, hx⟩ := y
      rw [List.getElem?_map] at hx
      cases hr' : rr[i]? with
      | none => rw [hr'] at hx; cases hx
      | some r =>
        rw [hr'] at hx
        cases hx
        obtain ⟨z, hz, l, hl1, hl2⟩ := paired_get hrow hr'
        rw [hz] at h0 h1
        have t := e19.tup hl1
        have ln : l ≠ DD := ne_fresh (al_of hl2 (nt_lst _)) fD
        refine ⟨rfl, _, rfl, _, rfl, 2, rfl, r, _, rfl, .of t, fun y => absurd (show HT.sIx 3 3 (some 2) = 3 from y.2) (by decide), fun _ tq htq => ?_⟩
        have eq1 : Ext K H19' (upd H19' tq (.tup [.str z.1, .str z.2.1])) := .new htq (nt_tup _)
        have eq2 : (upd H19' tq (.tup [.str z.1, .str z.2.1])) tq = some (.tup [.str z.1, .str z.2.1]) := upd_same
        refine ⟨tq, _, rfl, .inr (.of eq2), rfl, rfl, _, rfl, ?_⟩
        show if (!inV (.str g) [.str z.1, .str z.2.1]) = true then _ else _
        rw [in_pair]
        refine ite2 (fun y => ?_) (fun y => ?_)
        · exact ⟨_, rfl, h1 z (if_pos y) _ _ eq1 ⟨r, l, rfl, eq1.tup t, (e19.trans eq1).at hl2 (nt_lst _), ln⟩⟩
        · exact h0 (if_neg y) _ eq1
    rw [List.length_map, paired_len hrow, range_bind, filterMap_filter] at pr
    have hB1 : Dp K H19 (.ref DD) (.list ((((twoP D).map (rowOf D ps)).filter fun z => off g (z.1, z.2.1)).map rowD)) := by
      have e9 : (((twoP D).map (rowOf D ps)).filter fun z => decide (off g (z.1, z.2.1) = true)) = (((twoP D).map (rowOf D ps)).filter fun z => off g (z.1, z.2.1)) := List.filter_congr fun z _ => by simp
      rw [e9] at pr
      have pr' := L2.Paired.mapP (G := fun (y : V) (z : Row) => ∃ r : Addr, y = .ref r ∧ RowR H19 r z) pr fun _ _ ⟨r, l, h1, h2, h3, _⟩ => ⟨r, h1, l, h2, h3⟩
      exact .lst (.of h) (dps_kept pr')
    refine ⟨_, _, dRows, _, _, ext_dp e19 hR7.dp, hB1, by decide, _, rfl, ?_⟩
    refine ite2 (fun z => absurd (rows_drop lo ps) (of_decide_eq_true z)) (fun _ => ?_)
    have e19 := e1318.trans e19
    exact ⟨_, dl, dropD D g, _, _, _, _, _, _, _, rfl, rfl, {
      ext := x13.trans e19
      gd := g13
      bag := bag13.ext e19
      pl_ := W13.ext e19
      pin := pin'
      wm := WM13.ext e19
      sw := sw'
      hpl := e19.at hpl (nt_lst _)
      hrs := hrs.ext e19
      al := fun x h => e19.al x (al13 x h) }⟩
end
end ST
set_option maxHeartbeats 0
namespace ST
open PySem PySem.Spec PyProof.Rows L2
end ST
open PySem PySem.W PySem.Calls PyProof.Rows
theorem PySem.Challenge.cw_sworntypes_k79_whole_kernels_after_drops_holds : PySem.Challenge.rw_sworntypes_k79_whole_kernels_after_drops.Holds := by
  w_on; o_law
  refine HandSHeadRun.head_any (r := ST.R) (q := ST.qv) (H := ST.hk) (ob := ST.ob) (M := 20000) (loose := ST.loose) (d := HandSHeadRun.topDef ST.R.prog 97) (kwd := []) ST.ob_eq
    (by kernel_rfl) (fun s => by kernel_rfl) ST.run (by kernel_rfl) (by kernel_rfl) (by kernel_rfl) (by rfl) (by first | assumption | decide +kernel) (by decide +kernel) ⟨rfl, rfl, rfl, rfl, rfl, by decide +kernel⟩ ?hw ?hc
  case hw => w_witness2
  case hc =>
    refine LamX.walk_ofTsE (l := PySem.Challenge.rw_sworntypes_k79_whole_kernels_after_drops) (n := 63) (k := 30) (x := "_law_script") (CX := fun _ => L2.CX0) rfl (by decide) (by kernel_rfl) ⟨rfl, by decide, by decide⟩ ?F (fun _ _ _ _ _ z => z)
    intro w mg fa h Y G hmg0
    obtain ⟨K, KX, c⟩ := Y
    have T : ST.Tx K mg := ⟨c.c, c.x, ⟨h, KX, G⟩⟩
    have e0 : (HandSHeadRun.topDef ST.R.prog 97).name = ("law" : PySem.Str) := by kernel_rfl
    have hmg : mg ("law" : PySem.Str) = some (.ref fa) := by
      rw [← e0]
      exact hmg0
    have e := hmg.symm.trans (ST.g_law T)
    cases e
    have hp1 : (("led_to", none) : PySem.Str × Option PySem.Str) ∈ ST.tf := List.mem_of_getElem? (i := 0) rfl
    have hp2 : (("has_road", none) : PySem.Str × Option PySem.Str) ∈ ST.tf := List.mem_of_getElem? (i := 1) rfl
    have all2 : ∀ {F : (PySem.Addr × PySem.Addr) → Prop}, F (He.cT K ("led_to", none)) → F (He.cT K ("has_road", none)) → ∀ p ∈ [He.cT K ("led_to", none), He.cT K ("has_road", none)], F p := fun h1 h2 p hp => by
      rcases List.mem_cons.mp hp with z | z
      · rw [z]
        exact h1
      · rcases List.mem_cons.mp z with z | z
        · rw [z]
          exact h2
        · cases z
    refine ⟨K, KX, ST.fdOf K (He.fAd K ST.d_law.at_), [He.cT K ("led_to", none), He.cT K ("has_road", none)], ST.spLaw K, all2 (c.empty _ hp1) (c.empty _ hp2), all2 (c.out _ hp1) (c.out _ hp2),
      all2 (codeHd_of_K KX (c.hd _ hp1)) (codeHd_of_K KX (c.hd _ hp2)), fun s v => L2.FunD.bindsA (ps := ["_law_script"]) (ST.F_law T) (fun _ _ _ _ _ _ us hl => match us, hl with | [_], _ => rfl) s [v] rfl,
      fun H a ns hl _ hT hS => ⟨a, ns, rfl, hS, hl, fun p hp => ?_, fun _ => rfl⟩, fun base hb hn hT => ST.ok_law ⟨c.c, c.x, ⟨base, hb, hn⟩⟩ ⟨hT _ (List.mem_cons_self ..), hT _ (List.mem_cons_of_mem _ (List.mem_cons_self ..))⟩⟩
    rcases List.mem_cons.mp hp with z | z
    · rw [z]
      exact LamX.TabS.nil (hT _ (List.mem_cons_self ..))
    · rcases List.mem_cons.mp z with z | z
      · rw [z]
        exact LamX.TabS.nil (hT _ (List.mem_cons_of_mem _ (List.mem_cons_self ..)))
      · cases z

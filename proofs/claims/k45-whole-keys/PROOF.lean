import PyProof.Rows.All
import Wide.All
import OpenK.AllK
import Wide.FinOn
import KE.KStateDown
import HandS.ForMost
import HandS.IsInst
import HandS.Star
import HandS.Defaults
import HandS.Wide
import HandS.Style
import HandS.Conv
import HandS.RaiseMore
import HandS.Codes
import HandS.Walk
import HandS.Head0
import HandS.Head1
import HandS.Head2
import HandS.HeadEnd
import HandS.HeadHook1
import HandS.HeadHook2
import HandS.HeadHook3
import HandS.HeadHook4
import HandS.HeadWalk
import PySem.Challenge.RW_keysthroughtext_k45_whole_keys_not_menti
set_option Elab.async false
set_option linter.all false
set_option maxRecDepth 100000
set_option maxHeartbeats 4000000
namespace Kt
open PySem PySem.Spec PyProof.Rows L2
def top (i : Nat) : Stmt := PySem.Challenge.pw_keysthroughtext_k45_whole_keys_not_menti.main.body.getD i (.Pass ⟨0, 0, 0, 0⟩)
abbrev s_without_repeats : Stmt := top 14
abbrev s_is_integer : Stmt := top 29
abbrev s_kind : Stmt := top 30
abbrev s_fresh : Stmt := top 31
abbrev s_is_word : Stmt := top 41
abbrev s_Ldraws : Stmt := top 44
abbrev s_Ldraw : Stmt := top 45
abbrev s_Lsome : Stmt := top 46
abbrev s_Ltext : Stmt := top 47
abbrev s_Linteger : Stmt := top 48
abbrev s_Lkeys : Stmt := top 49
abbrev s_Lwords : Stmt := top 50
abbrev s_Latom : Stmt := top 51
abbrev s_Lcontainer : Stmt := top 52
abbrev s_Lmodel : Stmt := top 53
abbrev s_Lreal : Stmt := top 54
abbrev s_Lmade : Stmt := top 55
abbrev s_Lask : Stmt := top 56
abbrev s_Ljoined : Stmt := top 57
abbrev s_Lexchanged : Stmt := top 58
abbrev s_Lturned : Stmt := top 59
abbrev s_law : Stmt := top 60
abbrev s_Seen_init : Stmt := inClass (top 13) 0
abbrev s_Seen_has : Stmt := inClass (top 13) 1
abbrev s_Seen_place : Stmt := inClass (top 13) 2
abbrev s_Seen_is_row : Stmt := inClass (top 13) 3
abbrev s_Condition_and : Stmt := inClass (top 15) 0
abbrev s_Condition_or : Stmt := inClass (top 15) 1
abbrev s_Condition_invert : Stmt := inClass (top 15) 2
abbrev s_Condition_leaves : Stmt := inClass (top 15) 4
abbrev s_Condition_own_labels : Stmt := inClass (top 15) 6
abbrev s_Condition_label_list : Stmt := inClass (top 15) 10
abbrev s_Both_init : Stmt := inClass (top 16) 0
abbrev s_Both_holds : Stmt := inClass (top 16) 1
abbrev s_Either_init : Stmt := inClass (top 17) 0
abbrev s_Either_holds : Stmt := inClass (top 17) 1
abbrev s_Inverse_init : Stmt := inClass (top 18) 0
abbrev s_Inverse_holds : Stmt := inClass (top 18) 1
abbrev s_Kind_init : Stmt := inClass (top 19) 0
abbrev s_Kind_holds : Stmt := inClass (top 19) 1
abbrev s_Equals_init : Stmt := inClass (top 20) 0
abbrev s_Equals_holds : Stmt := inClass (top 20) 1
abbrev s_Size_init : Stmt := inClass (top 21) 0
abbrev s_Size_holds : Stmt := inClass (top 21) 1
abbrev s_Has_init : Stmt := inClass (top 22) 0
abbrev s_Has_holds : Stmt := inClass (top 22) 1
abbrev s_Item_init : Stmt := inClass (top 23) 0
abbrev s_Item_holds : Stmt := inClass (top 23) 1
abbrev s_Before_init : Stmt := inClass (top 24) 0
abbrev s_Before_holds : Stmt := inClass (top 24) 1
abbrev s_First_init : Stmt := inClass (top 25) 0
abbrev s_First_holds : Stmt := inClass (top 25) 1
abbrev s_Every_init : Stmt := inClass (top 26) 0
abbrev s_Every_holds : Stmt := inClass (top 26) 1
abbrev s_Some_init : Stmt := inClass (top 27) 0
abbrev s_Some_holds : Stmt := inClass (top 27) 1
abbrev s_Both_leaves : Stmt := inClass (top 16) 2
abbrev s_Either_leaves : Stmt := inClass (top 17) 2
abbrev s_Inverse_leaves : Stmt := inClass (top 18) 2
abbrev s_Item_own_labels : Stmt := inClass (top 23) 3
abbrev s_First_own_labels : Stmt := inClass (top 25) 2
abbrev s_Every_own_labels : Stmt := inClass (top 26) 2
abbrev s_Some_own_labels : Stmt := inClass (top 27) 2
abbrev s_Table_init : Stmt := inClass (top 35) 0
abbrev s_Labels_init : Stmt := inClass (top 42) 0
abbrev s_Labels_call : Stmt := inClass (top 42) 1
abbrev s_Labels_seen : Stmt := inClass (top 42) 2
abbrev s_Labels_label_of : Stmt := inClass (top 42) 3
abbrev s_Labels_fits : Stmt := inClass (top 42) 4
abbrev s_Labels_look : Stmt := inClass (top 42) 5
def d_without_repeats : He.DefD := ⟨("without_repeats", none), "without_repeats", "without_repeats", defArgs s_without_repeats, defBody s_without_repeats, defScope s_without_repeats, [], []⟩
def d_is_integer : He.DefD := ⟨("is_integer", none), "is_integer", "is_integer", defArgs s_is_integer, defBody s_is_integer, defScope s_is_integer, [], []⟩
def d_kind : He.DefD := ⟨("kind", none), "kind", "kind", defArgs s_kind, defBody s_kind, defScope s_kind, [], []⟩
def d_fresh : He.DefD := ⟨("fresh", none), "fresh", "fresh", defArgs s_fresh, defBody s_fresh, defScope s_fresh, [], []⟩
def d_is_word : He.DefD := ⟨("is_word", none), "is_word", "is_word", defArgs s_is_word, defBody s_is_word, defScope s_is_word, [], []⟩
def d_Ldraws : He.DefD := ⟨("_law_draws", none), "_law_draws", "_law_draws", defArgs s_Ldraws, defBody s_Ldraws, defScope s_Ldraws, [], []⟩
def d_Ldraw : He.DefD := ⟨("_law_draw", none), "_law_draw", "_law_draw", defArgs s_Ldraw, defBody s_Ldraw, defScope s_Ldraw, [], []⟩
def d_Lsome : He.DefD := ⟨("_law_some", none), "_law_some", "_law_some", defArgs s_Lsome, defBody s_Lsome, defScope s_Lsome, [], []⟩
def d_Ltext : He.DefD := ⟨("_law_text", none), "_law_text", "_law_text", defArgs s_Ltext, defBody s_Ltext, defScope s_Ltext, [], []⟩
def d_Linteger : He.DefD := ⟨("_law_integer", none), "_law_integer", "_law_integer", defArgs s_Linteger, defBody s_Linteger, defScope s_Linteger, [], []⟩
def d_Lkeys : He.DefD := ⟨("_law_keys", none), "_law_keys", "_law_keys", defArgs s_Lkeys, defBody s_Lkeys, defScope s_Lkeys, [], []⟩
def d_Lwords : He.DefD := ⟨("_law_words", none), "_law_words", "_law_words", defArgs s_Lwords, defBody s_Lwords, defScope s_Lwords, [], []⟩
def d_Latom : He.DefD := ⟨("_law_atom", none), "_law_atom", "_law_atom", defArgs s_Latom, defBody s_Latom, defScope s_Latom, [], []⟩
def d_Lcontainer : He.DefD := ⟨("_law_container", none), "_law_container", "_law_container", defArgs s_Lcontainer, defBody s_Lcontainer, defScope s_Lcontainer, [], []⟩
def d_Lmodel : He.DefD := ⟨("_law_model", none), "_law_model", "_law_model", defArgs s_Lmodel, defBody s_Lmodel, defScope s_Lmodel, [], []⟩
def d_Lreal : He.DefD := ⟨("_law_real", none), "_law_real", "_law_real", defArgs s_Lreal, defBody s_Lreal, defScope s_Lreal, [], []⟩
def d_Lmade : He.DefD := ⟨("_law_made", none), "_law_made", "_law_made", defArgs s_Lmade, defBody s_Lmade, defScope s_Lmade, [], []⟩
def d_Lask : He.DefD := ⟨("_law_ask", none), "_law_ask", "_law_ask", defArgs s_Lask, defBody s_Lask, defScope s_Lask, [], []⟩
def d_Ljoined : He.DefD := ⟨("_law_joined", none), "_law_joined", "_law_joined", defArgs s_Ljoined, defBody s_Ljoined, defScope s_Ljoined, [], []⟩
def d_Lexchanged : He.DefD := ⟨("_law_exchanged", none), "_law_exchanged", "_law_exchanged", defArgs s_Lexchanged, defBody s_Lexchanged, defScope s_Lexchanged, [], []⟩
def d_Lturned : He.DefD := ⟨("_law_turned", none), "_law_turned", "_law_turned", defArgs s_Lturned, defBody s_Lturned, defScope s_Lturned, [], []⟩
def d_law : He.DefD := ⟨("law", none), "law", "law", defArgs s_law, defBody s_law, defScope s_law, [], []⟩
def d_Seen_init : He.DefD := ⟨("Seen", some "__init__"), "__init__", "Seen.__init__", defArgs s_Seen_init, defBody s_Seen_init, defScope s_Seen_init, [], []⟩
def d_Seen_has : He.DefD := ⟨("Seen", some "has"), "has", "Seen.has", defArgs s_Seen_has, defBody s_Seen_has, defScope s_Seen_has, [], []⟩
def d_Seen_place : He.DefD := ⟨("Seen", some "place"), "place", "Seen.place", defArgs s_Seen_place, defBody s_Seen_place, defScope s_Seen_place, [], []⟩
def d_Seen_is_row : He.DefD := ⟨("Seen", some "is_row"), "is_row", "Seen.is_row", defArgs s_Seen_is_row, defBody s_Seen_is_row, defScope s_Seen_is_row, [], []⟩
def d_Condition_and : He.DefD := ⟨("Condition", some "__and__"), "__and__", "Condition.__and__", defArgs s_Condition_and, defBody s_Condition_and, defScope s_Condition_and, [], []⟩
def d_Condition_or : He.DefD := ⟨("Condition", some "__or__"), "__or__", "Condition.__or__", defArgs s_Condition_or, defBody s_Condition_or, defScope s_Condition_or, [], []⟩
def d_Condition_invert : He.DefD := ⟨("Condition", some "__invert__"), "__invert__", "Condition.__invert__", defArgs s_Condition_invert, defBody s_Condition_invert, defScope s_Condition_invert, [], []⟩
def d_Condition_leaves : He.DefD := ⟨("Condition", some "leaves"), "leaves", "Condition.leaves", defArgs s_Condition_leaves, defBody s_Condition_leaves, defScope s_Condition_leaves, [], []⟩
def d_Condition_own_labels : He.DefD := ⟨("Condition", some "own_labels"), "own_labels", "Condition.own_labels", defArgs s_Condition_own_labels, defBody s_Condition_own_labels, defScope s_Condition_own_labels, [], []⟩
def d_Condition_label_list : He.DefD := ⟨("Condition", some "label_list"), "label_list", "Condition.label_list", defArgs s_Condition_label_list, defBody s_Condition_label_list, defScope s_Condition_label_list, [], []⟩
def d_Both_init : He.DefD := ⟨("Both", some "__init__"), "__init__", "Both.__init__", defArgs s_Both_init, defBody s_Both_init, defScope s_Both_init, [], []⟩
def d_Both_holds : He.DefD := ⟨("Both", some "holds"), "holds", "Both.holds", defArgs s_Both_holds, defBody s_Both_holds, defScope s_Both_holds, [], []⟩
def d_Either_init : He.DefD := ⟨("Either", some "__init__"), "__init__", "Either.__init__", defArgs s_Either_init, defBody s_Either_init, defScope s_Either_init, [], []⟩
def d_Either_holds : He.DefD := ⟨("Either", some "holds"), "holds", "Either.holds", defArgs s_Either_holds, defBody s_Either_holds, defScope s_Either_holds, [], []⟩
def d_Inverse_init : He.DefD := ⟨("Inverse", some "__init__"), "__init__", "Inverse.__init__", defArgs s_Inverse_init, defBody s_Inverse_init, defScope s_Inverse_init, [], []⟩
def d_Inverse_holds : He.DefD := ⟨("Inverse", some "holds"), "holds", "Inverse.holds", defArgs s_Inverse_holds, defBody s_Inverse_holds, defScope s_Inverse_holds, [], []⟩
def d_Kind_init : He.DefD := ⟨("Kind", some "__init__"), "__init__", "Kind.__init__", defArgs s_Kind_init, defBody s_Kind_init, defScope s_Kind_init, [], []⟩
def d_Kind_holds : He.DefD := ⟨("Kind", some "holds"), "holds", "Kind.holds", defArgs s_Kind_holds, defBody s_Kind_holds, defScope s_Kind_holds, [], []⟩
def d_Equals_init : He.DefD := ⟨("Equals", some "__init__"), "__init__", "Equals.__init__", defArgs s_Equals_init, defBody s_Equals_init, defScope s_Equals_init, [], []⟩
def d_Equals_holds : He.DefD := ⟨("Equals", some "holds"), "holds", "Equals.holds", defArgs s_Equals_holds, defBody s_Equals_holds, defScope s_Equals_holds, [], []⟩
def d_Size_init : He.DefD := ⟨("Size", some "__init__"), "__init__", "Size.__init__", defArgs s_Size_init, defBody s_Size_init, defScope s_Size_init, [], []⟩
def d_Size_holds : He.DefD := ⟨("Size", some "holds"), "holds", "Size.holds", defArgs s_Size_holds, defBody s_Size_holds, defScope s_Size_holds, [], []⟩
def d_Has_init : He.DefD := ⟨("Has", some "__init__"), "__init__", "Has.__init__", defArgs s_Has_init, defBody s_Has_init, defScope s_Has_init, [], []⟩
def d_Has_holds : He.DefD := ⟨("Has", some "holds"), "holds", "Has.holds", defArgs s_Has_holds, defBody s_Has_holds, defScope s_Has_holds, [], []⟩
def d_Item_init : He.DefD := ⟨("Item", some "__init__"), "__init__", "Item.__init__", defArgs s_Item_init, defBody s_Item_init, defScope s_Item_init, [], []⟩
def d_Item_holds : He.DefD := ⟨("Item", some "holds"), "holds", "Item.holds", defArgs s_Item_holds, defBody s_Item_holds, defScope s_Item_holds, [], []⟩
def d_Before_init : He.DefD := ⟨("Before", some "__init__"), "__init__", "Before.__init__", defArgs s_Before_init, defBody s_Before_init, defScope s_Before_init, [], []⟩
def d_Before_holds : He.DefD := ⟨("Before", some "holds"), "holds", "Before.holds", defArgs s_Before_holds, defBody s_Before_holds, defScope s_Before_holds, [], []⟩
def d_First_init : He.DefD := ⟨("First", some "__init__"), "__init__", "First.__init__", defArgs s_First_init, defBody s_First_init, defScope s_First_init, [], []⟩
def d_First_holds : He.DefD := ⟨("First", some "holds"), "holds", "First.holds", defArgs s_First_holds, defBody s_First_holds, defScope s_First_holds, [], []⟩
def d_Every_init : He.DefD := ⟨("Every", some "__init__"), "__init__", "Every.__init__", defArgs s_Every_init, defBody s_Every_init, defScope s_Every_init, [], []⟩
def d_Every_holds : He.DefD := ⟨("Every", some "holds"), "holds", "Every.holds", defArgs s_Every_holds, defBody s_Every_holds, defScope s_Every_holds, [], []⟩
def d_Some_init : He.DefD := ⟨("Some", some "__init__"), "__init__", "Some.__init__", defArgs s_Some_init, defBody s_Some_init, defScope s_Some_init, [], []⟩
def d_Some_holds : He.DefD := ⟨("Some", some "holds"), "holds", "Some.holds", defArgs s_Some_holds, defBody s_Some_holds, defScope s_Some_holds, [], []⟩
def d_Both_leaves : He.DefD := ⟨("Both", some "leaves"), "leaves", "Both.leaves", defArgs s_Both_leaves, defBody s_Both_leaves, defScope s_Both_leaves, [], []⟩
def d_Either_leaves : He.DefD := ⟨("Either", some "leaves"), "leaves", "Either.leaves", defArgs s_Either_leaves, defBody s_Either_leaves, defScope s_Either_leaves, [], []⟩
def d_Inverse_leaves : He.DefD := ⟨("Inverse", some "leaves"), "leaves", "Inverse.leaves", defArgs s_Inverse_leaves, defBody s_Inverse_leaves, defScope s_Inverse_leaves, [], []⟩
def d_Item_own_labels : He.DefD := ⟨("Item", some "own_labels"), "own_labels", "Item.own_labels", defArgs s_Item_own_labels, defBody s_Item_own_labels, defScope s_Item_own_labels, [], []⟩
def d_First_own_labels : He.DefD := ⟨("First", some "own_labels"), "own_labels", "First.own_labels", defArgs s_First_own_labels, defBody s_First_own_labels, defScope s_First_own_labels, [], []⟩
def d_Every_own_labels : He.DefD := ⟨("Every", some "own_labels"), "own_labels", "Every.own_labels", defArgs s_Every_own_labels, defBody s_Every_own_labels, defScope s_Every_own_labels, [], []⟩
def d_Some_own_labels : He.DefD := ⟨("Some", some "own_labels"), "own_labels", "Some.own_labels", defArgs s_Some_own_labels, defBody s_Some_own_labels, defScope s_Some_own_labels, [], []⟩
def d_Table_init : He.DefD := ⟨("Table", some "__init__"), "__init__", "Table.__init__", defArgs s_Table_init, defBody s_Table_init, defScope s_Table_init, [.adr (He.dflAt ("Table", some "__init__") 0)], []⟩
def d_Labels_init : He.DefD := ⟨("Labels", some "__init__"), "__init__", "Labels.__init__", defArgs s_Labels_init, defBody s_Labels_init, defScope s_Labels_init, [], []⟩
def d_Labels_call : He.DefD := ⟨("Labels", some "__call__"), "__call__", "Labels.__call__", defArgs s_Labels_call, defBody s_Labels_call, defScope s_Labels_call, [], []⟩
def d_Labels_seen : He.DefD := ⟨("Labels", some "seen"), "seen", "Labels.seen", defArgs s_Labels_seen, defBody s_Labels_seen, defScope s_Labels_seen, [], []⟩
def d_Labels_label_of : He.DefD := ⟨("Labels", some "label_of"), "label_of", "Labels.label_of", defArgs s_Labels_label_of, defBody s_Labels_label_of, defScope s_Labels_label_of, [], []⟩
def d_Labels_fits : He.DefD := ⟨("Labels", some "fits"), "fits", "Labels.fits", defArgs s_Labels_fits, defBody s_Labels_fits, defScope s_Labels_fits, [], []⟩
def d_Labels_look : He.DefD := ⟨("Labels", some "look"), "look", "Labels.look", defArgs s_Labels_look, defBody s_Labels_look, defScope s_Labels_look, [], []⟩
def fn0 : List He.DefD := [d_without_repeats, d_is_integer, d_kind, d_fresh, d_is_word, d_Ldraws, d_Ldraw, d_Lsome, d_Ltext, d_Linteger, d_Lkeys, d_Lwords, d_Latom, d_Lcontainer, d_Lmodel, d_Lreal, d_Lmade, d_Lask, d_Ljoined, d_Lexchanged]
def fn1 : List He.DefD := [d_Lturned, d_law, d_Seen_init, d_Seen_has, d_Seen_place, d_Seen_is_row, d_Condition_and, d_Condition_or, d_Condition_invert, d_Condition_leaves, d_Condition_own_labels, d_Condition_label_list, d_Both_init, d_Both_holds, d_Either_init, d_Either_holds, d_Inverse_init, d_Inverse_holds, d_Kind_init, d_Kind_holds]
def fn2 : List He.DefD := [d_Equals_init, d_Equals_holds, d_Size_init, d_Size_holds, d_Has_init, d_Has_holds, d_Item_init, d_Item_holds, d_Before_init, d_Before_holds, d_First_init, d_First_holds, d_Every_init, d_Every_holds, d_Some_init, d_Some_holds, d_Both_leaves, d_Either_leaves, d_Inverse_leaves, d_Item_own_labels]
def fn3 : List He.DefD := [d_First_own_labels, d_Every_own_labels, d_Some_own_labels, d_Table_init, d_Labels_init, d_Labels_call, d_Labels_seen, d_Labels_label_of, d_Labels_fits, d_Labels_look]
def fn : List He.DefD := fn0 ++ fn1 ++ fn2 ++ fn3
def gloL0 : List PySem.Str := ["without_repeats", "is_integer", "kind", "fresh", "is_word", "_law_draws", "_law_draw", "_law_some", "_law_text", "_law_integer", "_law_keys", "_law_words", "_law_atom", "_law_container", "_law_model", "_law_real", "_law_made", "_law_ask", "_law_joined", "_law_exchanged"]
def gloL1 : List PySem.Str := ["_law_turned", "law", "Seen", "Both", "Either", "Inverse", "Kind", "Equals", "Size", "Has", "Item", "Before", "First", "Every", "Some", "Table", "Labels"]
def gloL : List PySem.Str := gloL0 ++ gloL1
def freeL0 : List PySem.Str := ["len", "isinstance", "str", "int", "bool", "list", "tuple", "range", "abs", "max", "min", "all"]
def freeL : List PySem.Str := freeL0
def ownL0 : List PySem.Str := ["Seen", "Both", "Either", "Inverse", "Kind", "Equals", "Size", "Has", "Item", "Before", "First", "Every", "Some", "Table", "Labels"]
def ownL : List PySem.Str := ownL0
def noatL0 : List (PySem.Str × PySem.Str) := [("Seen", "shape"), ("Seen", "atom"), ("Seen", "key_rows"), ("Seen", "labels"), ("Both", "left"), ("Both", "right"), ("Either", "left"), ("Either", "right"), ("Inverse", "inner"), ("Kind", "name"), ("Equals", "atom"), ("Size", "count"), ("Has", "key"), ("Item", "key"), ("Item", "label"), ("Before", "first"), ("Before", "second"), ("First", "label"), ("Every", "label"), ("Some", "label")]
def noatL1 : List (PySem.Str × PySem.Str) := [("Table", "held"), ("Labels", "names"), ("Labels", "rule_rows")]
def noatL : List (PySem.Str × PySem.Str) := noatL0 ++ noatL1
def methL0 : List (PySem.Str × PySem.Str) := [("Seen", "has"), ("Seen", "place"), ("Seen", "is_row"), ("Both", "holds"), ("Both", "leaves"), ("Both", "own_labels"), ("Both", "label_list"), ("Either", "holds"), ("Either", "leaves"), ("Either", "own_labels"), ("Either", "label_list"), ("Inverse", "holds"), ("Inverse", "leaves"), ("Inverse", "own_labels"), ("Inverse", "label_list"), ("Kind", "holds"), ("Kind", "leaves"), ("Kind", "own_labels"), ("Kind", "label_list"), ("Equals", "holds")]
def methL1 : List (PySem.Str × PySem.Str) := [("Equals", "leaves"), ("Equals", "own_labels"), ("Equals", "label_list"), ("Size", "holds"), ("Size", "leaves"), ("Size", "own_labels"), ("Size", "label_list"), ("Has", "holds"), ("Has", "leaves"), ("Has", "own_labels"), ("Has", "label_list"), ("Item", "holds"), ("Item", "leaves"), ("Item", "own_labels"), ("Item", "label_list"), ("Before", "holds"), ("Before", "leaves"), ("Before", "own_labels"), ("Before", "label_list"), ("First", "holds")]
def methL2 : List (PySem.Str × PySem.Str) := [("First", "leaves"), ("First", "own_labels"), ("First", "label_list"), ("Every", "holds"), ("Every", "leaves"), ("Every", "own_labels"), ("Every", "label_list"), ("Some", "holds"), ("Some", "leaves"), ("Some", "own_labels"), ("Some", "label_list"), ("Labels", "label_of"), ("Labels", "seen"), ("Labels", "fits"), ("Labels", "look")]
def methL : List (PySem.Str × PySem.Str) := methL0 ++ methL1 ++ methL2
def faX0 : List He.Fa := [.int "MOST_COUNT" 4, .int "MOST_RULES" 3, .str "OTHER" "other", .str "REFUSED" "refused", .str "LETTERS" "abcdefghijklmnopqrstuvwxyz", .glo "KINDS", .glo "Condition"]
def faX : List He.Fa := faX0
def fa : List He.Fa := gloL.map He.Fa.glo ++ (freeL.map He.Fa.free ++ (ownL.map He.Fa.cls ++ (ownL.map He.Fa.mkr ++ (noatL.map (fun p => He.Fa.noat p.1 p.2) ++ (methL.map (fun p => He.Fa.meth p.1 p.2) ++ faX)))))
def loose0 : List PySem.Str := ["_wall", "KeysError", "BadKey", "DoubleKey", "NoKey", "BadCondition", "BadLabel", "NoLabel", "TooMuch", "KINDS", "MOST_COUNT", "Seen", "without_repeats", "Condition", "Both", "Either", "Inverse", "Kind", "Equals", "Size"]
def loose1 : List PySem.Str := ["Has", "Item", "Before", "First", "Every", "Some", "is_integer", "kind", "fresh", "same_rows", "same_tables", "same", "Table", "OTHER", "REFUSED", "MOST_RULES", "LETTERS", "is_word", "Labels", "_law_draws"]
def loose2 : List PySem.Str := ["_law_draw", "_law_some", "_law_text", "_law_integer", "_law_keys", "_law_words", "_law_atom", "_law_container", "_law_model", "_law_real", "_law_made", "_law_ask", "_law_joined", "_law_exchanged", "_law_turned"]
def loose : List PySem.Str := loose0 ++ loose1 ++ loose2
def condN : List PySem.Str := ["Both", "Either", "Inverse", "Kind", "Equals", "Size", "Has", "Item", "Before", "First", "Every", "Some"]
def inhB (K : PySem.W.Frag) (c m : PySem.Str) : Bool := decide (He.ma K (He.ga K c) m = He.ma K (He.ga K "Condition") m)
def opB (K : PySem.W.Frag) (c m r : PySem.Str) : Bool := He.eqO (PySem.W.findIn K (.ref (He.ga K c)) m) (some (some (.ref (He.ma K (He.ga K c) m)))) && (PySem.W.isFn K (.ref (He.ma K (He.ga K c) m)) && (PySem.W.keepIn K (.ref (He.ma K (He.ga K c) m)) && (inhB K c m && He.eqO (PySem.W.findIn K (.ref (He.ga K c)) r) (some none))))
def ex1 (K : PySem.W.Frag) : Bool := condN.all fun c => condN.all fun d => decide (c = d) || decide (PySem.W.subIn K (.ref (He.ga K d)) (.ref (He.ga K c)) = some false)
def ex2 (K : PySem.W.Frag) : Bool := condN.all fun c => PySem.W.selfFirst K (He.ga K c) && (opB K c "__and__" "__rand__" && (opB K c "__or__" "__ror__" && opB K c "__invert__" "__rinvert__"))
def ex3 (K : PySem.W.Frag) : Bool := (condN.all fun c => inhB K c "label_list") && ((["Kind", "Equals", "Size", "Has", "Item", "Before", "First", "Every", "Some"] : List PySem.Str).all fun c => inhB K c "leaves") &&
  ((["Kind", "Equals", "Size", "Has", "Before"] : List PySem.Str).all fun c => inhB K c "own_labels")
def ex4 (K : PySem.W.Frag) : Bool := He.tupB K "KINDS" [.str "null", .str "true", .str "false", .str "integer", .str "text", .str "list", .str "tuple", .str "table"]
def ex5 (K : PySem.W.Frag) : Bool := He.eqO (PySem.W.findIn K (.ref (He.ga K "Table")) "__class__") (some (some (.builtin "object.__class__"))) && (He.eqO (PySem.W.specialIn K (.builtin "object.__class__") "__get__") (some (some (.builtin "getset_descriptor.__get__"))) &&
  (decide (PySem.W.takesIn K (.builtin "object.__class__") = some true) && decide (PySem.W.mroIn K (He.ga K "Table") (.type "object") = some true)))
def ex6 (K : PySem.W.Frag) : Bool := ((["NoneType", "bool", "int", "str", "list", "tuple"] : List String).all fun t => decide (PySem.W.kitOne K (.type t) (.ref (He.ga K "Table")) = some false)) &&
  ((["str", "list", "tuple", "int", "bool"] : List String).all fun t => decide (PySem.W.kitOne K (.ref (He.ga K "Table")) (.type t) = some false))
def ex7 (K : PySem.W.Frag) : Bool := He.eqO (PySem.W.findIn K (.ref (He.ga K "Labels")) "__call__") (some (some (.ref (He.ma K (He.ga K "Labels") "__call__")))) && (PySem.W.isFn K (.ref (He.ma K (He.ga K "Labels") "__call__")) && PySem.W.fnIn K (He.ma K (He.ga K "Labels") "__call__"))
def exB (K : PySem.W.Frag) : Bool := ex1 K && (ex2 K && (ex3 K && (ex4 K && (ex5 K && (ex6 K && ex7 K)))))
abbrev R : PySem.W.OpenRow := PySem.W.OpenLaw.row PySem.Challenge.rw_keysthroughtext_k45_whole_keys_not_menti
abbrev hk : PySem.W.Hook := He.hookX 4 fa fn [] [] exB
def ob (s : PySem.W.SharedT) : He.AlX := He.obsX 4 fa fn [] [] exB (HandSHeadRun.getT s)
theorem ob_eq (s : PySem.W.SharedT) : ob s = hk.obs s.abs := He.obsX_eq (HandSHeadRun.getT_eq s)
/-! the top's run, looked at three times (each look by itself keeps the memory lower) -/
abbrev KS (s : PySem.W.SharedT) : PySem.W.Frag := He.frT (HandSHeadRun.getT s) (He.asD (HandSHeadRun.getT s) 4)
section
open PySem.W PySem.Calls HandSHeadRun
noncomputable abbrev ended (w : World) (os : OsState) : Option PySem.W.SharedT := endF (stepQ (denQ tabQ) R.prog w) 20000 R.prog w os
abbrev qV : Program := PySem.W.view R.prog [60]
theorem runA (w : World) : ∀ os : OsState, (ended w os).map (fun s => (looksF R.prog (boot_heap w.params) s.abs, seenQ qV loose (importedModules R.prog.main.body) (fun s => xlAt qV [] s && recOk R.toRowW.records s) s.abs)) = some (true, openGood qV loose) := by
  intro os
  kernel_rfl
theorem runB (w : World) : ∀ os : OsState, (ended w os).map (fun s => (fa.all fun f => f.ok (KS s), exB (KS s) && He.tabsB (HandSHeadRun.getT s) [] (KS s))) = some (true, true) := by
  intro os
  kernel_rfl
theorem runC (w : World) : ∀ os : OsState, (ended w os).map (fun s => (fn.all fun d => d.ok (KS s), fn.map fun d => He.fnW (KS s) d.at_)) = some (true, fn.map He.DefD.val) := by
  intro os
  kernel_rfl
theorem run (w : World) : HandSHeadRun.RunEq R (PySem.W.view R.prog [60]) hk ob 20000 loose w := by
  intro os
  have a := runA w os
  have b := runB w os
  have c := runC w os
  show (ended w os).map (fun s => (looksF R.prog (boot_heap w.params) s.abs, seenQ qV loose (importedModules R.prog.main.body) (fun s => xlAt qV [] s && recOk R.toRowW.records s) s.abs, ob s)) = some (true, openGood qV loose, hk.val w)
  cases e : ended w os with
  | none =>
    rw [e] at a
    cases a
  | some s =>
    rw [e] at a b c
    have a2 := Option.some.inj a
    have b2 := Option.some.inj b
    have c2 := Option.some.inj c
    have a3 := congrArg Prod.fst a2
    have a4 := congrArg Prod.snd a2
    have b3 := congrArg Prod.fst b2
    have b4 := congrArg Prod.snd b2
    have c3 := congrArg Prod.fst c2
    have c4 := congrArg Prod.snd c2
    have o : ob s = hk.val w := by
      show (((((fa.all fun f => f.ok (KS s)) && fn.all fun d => d.ok (KS s), fn.map fun d => He.fnW (KS s) d.at_), []), exB (KS s) && He.tabsB (HandSHeadRun.getT s) [] (KS s)) : He.AlX) = (((true, fn.map He.DefD.val), []), true)
      rw [show (fa.all fun f => f.ok (KS s)) = true from b3, show (fn.all fun d => d.ok (KS s)) = true from c3, show (fn.map fun d => He.fnW (KS s) d.at_) = fn.map He.DefD.val from c4, show (exB (KS s) && He.tabsB (HandSHeadRun.getT s) [] (KS s)) = true from b4]
      rfl
    show some (looksF R.prog (boot_heap w.params) s.abs, seenQ qV loose (importedModules R.prog.main.body) (fun s => xlAt qV [] s && recOk R.toRowW.records s) s.abs, ob s) = _
    rw [o, show looksF R.prog (boot_heap w.params) s.abs = true from a3, show seenQ qV loose (importedModules R.prog.main.body) (fun s => xlAt qV [] s && recOk R.toRowW.records s) s.abs = openGood qV loose from a4]
    rfl
end
/-! ### rules of our own -/
section
variable {X : Cx}
/-- str * int -/
def strRep (x : PySem.Str) (n : Nat) : PySem.Str := ⟨(List.replicate n x.cps).foldl (· ++ ·) #[]⟩
theorem foldl_app_size (x : Array Nat) : ∀ (n : Nat) (acc : Array Nat), ((List.replicate n x).foldl (· ++ ·) acc).size = acc.size + n * x.size
  | 0, acc => by simp
  | n + 1, acc => by
    rw [List.replicate_succ, List.foldl_cons, foldl_app_size x n (acc ++ x), Array.size_append, Nat.succ_mul]
    omega
theorem strRep_length (x : PySem.Str) (n : Nat) : (strRep x n).length = n * x.length := by
  have h := foldl_app_size x.cps n #[]
  show ((List.replicate n x.cps).foldl (· ++ ·) #[]).size = n * x.cps.size
  rw [h]
  simp
/-- x * n with 2 ≤ n, the text not empty (or whatever comes: only the length is told) -/
def rMulStr : R2 := fun x y H Q => ∃ (z : PySem.Str) (n : Nat), x = .str z ∧ y = .int (n : Int) ∧ 1 ≤ n ∧ n ≤ 100000 ∧ z.length ≤ 100 ∧ ∀ z' : PySem.Str, z'.length = n * z.length → Q (.str z') H
theorem op_mul_str : OpR X (binaryOp .Mult) rMulStr := by
  intro pins s σ H x y v u Q I rx ry h
  obtain ⟨z, n, rfl, rfl, h1, h2, h3, q⟩ := h
  obtain ⟨t, rfl⟩ := rx
  obtain ⟨t', rfl⟩ := ry
  have e1 : ((n : Int)).toNat = n := Int.toNat_natCast n
  refine PySem.P.mul_str ?_ (fun _ _ => ?_) (fun _ _ => ?_) ?_
  · have a : ¬ ((n : Int) < -(2 ^ 63 : Int)) := by omega
    have b : ¬ ((n : Int) ≥ 2 ^ 63) := by omega
    rw [decide_eq_false a, decide_eq_false b]
    rfl
  · have hz : (z.length : Int) ≤ 100 := by exact_mod_cast h3
    have : (100 : Int) ≤ (2 ^ 63 - 1) / (n : Int) := by
      refine (Int.le_ediv_iff_mul_le (by omega)).mpr ?_
      omega
    omega
  · rw [e1]
    have hm : z.length * n ≤ 100 * 100000 := Nat.mul_le_mul h3 h2
    show Builtin.Str.tooLong _ = false
    unfold Builtin.Str.tooLong
    have hs := sizeLine_eq
    simp only [decide_eq_false_iff_not]
    omega
  · rw [if_neg (by omega)]
    by_cases c : ((n : Int) == 1 || z.length == 0) = true
    · rw [if_pos c]
      have e : z.length = n * z.length := by
        rcases Bool.or_eq_true_iff.mp c with c | c
        · have c' : (n : Int) = 1 := beq_iff_eq.mp c
          have : n = 1 := by omega
          rw [this, Nat.one_mul]
        · have c' : z.length = 0 := beq_iff_eq.mp c
          rw [c', Nat.mul_zero]
      exact ⟨.str z, H, I.tok _, ⟨_, rfl⟩, q z e⟩
    · rw [if_neg c, e1]
      refine ⟨?_, ⟨.str (strRep z n), H, I.tok _, ⟨_, rfl⟩, q _ (strRep_length z n)⟩⟩
      have hm := Nat.mul_le_mul h3 h2
      have hl := strRep_length z n
      have hc : n * z.length = z.length * n := Nat.mul_comm _ _
      have : (strRep z n).length ≤ sizeLine := by
        rw [hl, hc, sizeLine_eq]
        omega
      exact this

/-- x is True, x is False, whatever x is -/
def rIsBl (b : Bool) : R2 := fun x y H Q => y = .bl b ∧ Q (.bl (decide (x = .bl b))) H
theorem op_isBlv (b : Bool) : OpR X (compareOp .Is) (rIsBl b) := by
  intro pins s σ H x y v u Q I rx ry h
  obtain ⟨rfl, q⟩ := h
  cases (show u = Value.bool b from ry)
  by_cases e : x = .bl b
  · subst e
    cases (show v = Value.bool b from rx)
    exact wpAny_is_self rfl ⟨.bl true, H, I, rfl, by simpa using q⟩
  · have hv : plainIs v (.bool b) = true ∧ v ≠ .bool b := by
      cases x with
      | bl c =>
        cases (show v = Value.bool c from rx)
        exact ⟨rfl, fun z => e (by rw [Value.bool.inj z])⟩
      | non =>
        cases rx
        exact ⟨rfl, fun z => by cases z⟩
      | ref a =>
        cases rx
        exact ⟨rfl, fun z => by cases z⟩
      | ty n =>
        cases rx
        exact ⟨rfl, fun z => by cases z⟩
      | _ =>
        obtain ⟨t, rfl⟩ := rx
        exact ⟨rfl, fun z => by cases z⟩
    exact wpAny_is_other hv.1 hv.2 ⟨.bl false, H, I, rfl, by simpa [e] using q⟩
/-- list.count of flat items -/
def rCntV (K : PySem.W.Frag) : V → List V → Hp → VK → Prop := fun x xs H Q => ∃ (p : Addr) (ys : List V) (y : V), x = .ref p ∧ xs = [y] ∧ SqL K H p ys ∧ flatV y = true ∧ ys.all flatV = true ∧ Q (.int ((ys.countP fun z => eqV z y : Nat) : Int)) H
theorem countP_eqU {x : V} : ∀ {xs : List V} {us : List Value}, Vals xs us → xs.all flatV = true → us.countP (eqU x) = xs.countP fun y => eqV y x
  | _, _, .nil, _ => rfl
  | y :: xs, u :: us, .cons r t, f => by
    rw [List.all_cons, Bool.and_eq_true] at f
    rw [List.countP_cons, List.countP_cons, eqU_of r f.1, countP_eqU t f.2]
theorem mt_countV : MtR X "list.count" (rCntV X.K) := by
  intro pins s σ H x xs v us Q I rx rxs h
  obtain ⟨p, ys, y, rfl, rfl, hs, fy, fs, q⟩ := h
  cases rx
  obtain ⟨u, rfl, ru⟩ := rxs.one
  obtain ⟨its, rv, ⟨⟨cls, dd, data, sl⟩, n, ho, hc, hdn, hd⟩, hlen⟩ := I.list hs
  simp only at hc hd
  subst hc hd
  refine call_meets PySem.F.slot_list_count ⟨_, ho, rfl⟩ PySem.F.entry_list_count (PySem.F.args_list_count_2 _ _)
    (SeqAt.list_countAt p its.toArray n dd sl u (eqU y)) ⟨ho, fun w hw => mem_eqAt ru fy rv fs w (by simpa using hw), ?_⟩
  have ec : its.toArray.toList.countP (eqU y) = ys.countP fun z => eqV z y := countP_eqU rv fs
  refine ⟨.int ((ys.countP fun z => eqV z y : Nat) : Int), H, I.tok _, ⟨s.toks, ?_⟩, q⟩
  show Value.int ((its.toArray.toList.countP (eqU y) : Nat) : Int) s.toks = Value.int ((ys.countP fun z => eqV z y : Nat) : Int) s.toks
  rw [ec]
/-- two lists of flat items -/
def eqL (xs ys : List V) : Bool := (xs.length == ys.length) && (List.range xs.length).all fun j => eqV (xs.getD j .non) (ys.getD j .non)
def rEqF (K : PySem.W.Frag) (neg : Bool) : R2 := fun x y H Q => ∃ (a b : Addr) (xs ys : List V), x = .ref a ∧ y = .ref b ∧ SqL K H a xs ∧ SqL K H b ys ∧ xs.all flatV = true ∧ ys.all flatV = true ∧ Q (.bl (if neg = true then !eqL xs ys else eqL xs ys)) H
theorem items_eqF {A : Around} {s : Shared} {xs ys : List V} {us ws : List Value} (r : Vals xs us) (r2 : Vals ys ws) (fx : xs.all flatV = true) (fy : ys.all flatV = true) :
    ∀ j (h1 : j < us.toArray.size) (h2 : j < ws.toArray.size), SeqAt.EqAt A s us.toArray[j] ws.toArray[j] (eqV (xs.getD j .non) (ys.getD j .non)) := fun j h1 h2 => by
  have l1 : j < xs.length := by
    rw [r.length]
    simpa using h1
  have l2 : j < ys.length := by
    rw [r2.length]
    simpa using h2
  obtain ⟨u, e1, ru⟩ := Vals.get r (List.getElem?_eq_getElem l1)
  obtain ⟨w', e2, rw'⟩ := Vals.get r2 (List.getElem?_eq_getElem l2)
  have g1 : us.toArray[j] = u := by
    obtain ⟨_, q⟩ := List.getElem?_eq_some_iff.mp e1
    simpa using q
  have g2 : ws.toArray[j] = w' := by
    obtain ⟨_, q⟩ := List.getElem?_eq_some_iff.mp e2
    simpa using q
  rw [g1, g2, List.getD_eq_getElem?_getD, List.getD_eq_getElem?_getD, List.getElem?_eq_getElem l1, List.getElem?_eq_getElem l2]
  exact eqAt_V ru rw' (List.all_eq_true.mp fx _ (List.getElem_mem l1)) (List.all_eq_true.mp fy _ (List.getElem_mem l2))
theorem op_eqF (hu : X.A.units < cLine) : OpR X (compareOp .Eq) (rEqF X.K false) := by
  intro pins s σ H x y v u Q I rx ry h
  obtain ⟨a, b, xs, ys, rfl, rfl, hx, hy, fx, fy, q⟩ := h
  cases rx
  cases ry
  obtain ⟨its, r, pl, hz⟩ := I.list hx
  obtain ⟨its2, r2, pl2, hz2⟩ := I.list hy
  have n1 := r.length
  have n2 := r2.length
  by_cases e : its.toArray.size = its2.toArray.size
  · refine SeqAt.RcAt.lists pl.isList pl2.isList e hu (items_eqF r r2 fx fy) _ _ _ _ ⟨.bl _, H, I, rfl, ?_⟩
    have el : xs.length = ys.length := by
      simp at e
      omega
    have z : eqL xs ys = (List.range its.toArray.size).all fun j => eqV (xs.getD j .non) (ys.getD j .non) := by
      unfold eqL
      rw [el, beq_self_eq_true, Bool.true_and, List.size_toArray, ← n1, el]
    rw [← z]
    exact q
  · refine SeqAt.RcAt.lists_lengths pl.isList pl2.isList (by simpa using e) hu _ _ _ _ ⟨.bl _, H, I, rfl, ?_⟩
    have el : xs.length ≠ ys.length := by
      simp at e
      omega
    have z : eqL xs ys = false := by
      unfold eqL
      rw [beq_eq_false_iff_ne.mpr el, Bool.false_and]
    rw [← z]
    exact q
theorem op_neF (hu : X.A.units < cLine) : OpR X (compareOp .NotEq) (rEqF X.K true) := by
  intro pins s σ H x y v u Q I rx ry h
  obtain ⟨a, b, xs, ys, rfl, rfl, hx, hy, fx, fy, q⟩ := h
  cases rx
  cases ry
  obtain ⟨its, r, pl, hz⟩ := I.list hx
  obtain ⟨its2, r2, pl2, hz2⟩ := I.list hy
  have n1 := r.length
  have n2 := r2.length
  by_cases e : its.toArray.size = its2.toArray.size
  · refine SeqAt.RcNeAt.lists pl.isList pl2.isList e hu (items_eqF r r2 fx fy) _ _ _ _ ⟨.bl _, H, I, rfl, ?_⟩
    have el : xs.length = ys.length := by
      simp at e
      omega
    have z : eqL xs ys = (List.range its.toArray.size).all fun j => eqV (xs.getD j .non) (ys.getD j .non) := by
      unfold eqL
      rw [el, beq_self_eq_true, Bool.true_and, List.size_toArray, ← n1, el]
    rw [← z]
    exact q
  · refine SeqAt.RcNeAt.lists_lengths pl.isList pl2.isList (by simpa using e) hu _ _ _ _ ⟨.bl _, H, I, rfl, ?_⟩
    have el : xs.length ≠ ys.length := by
      simp at e
      omega
    have z : (!eqL xs ys) = true := by
      unfold eqL
      rw [beq_eq_false_iff_ne.mpr el, Bool.false_and]
      rfl
    rw [← z]
    exact q
theorem eqL_nil (xs : List V) : eqL xs [] = decide (xs = []) := by
  cases xs with
  | nil => rfl
  | cons x xs => rfl
/-- an expression, with a word behind it: what follows is shown once -/
def tJ (t : TE) : TE := fun σ H Q => ∃ Q0 : VK, t σ H Q0 ∧ ∀ x H1, Q0 x H1 → Q x H1
theorem pe_j {e : Expr} {t : TE} (h : PE X e t) : PE X e (tJ t) := by
  refine ⟨fun pins s σ H Q I hq => ?_⟩
  obtain ⟨Q0, h1, h2⟩ := hq
  exact thn (h.run pins s σ H Q0 I h1) fun u s1 ⟨v, H1, I1, r, q⟩ => ⟨v, H1, I1, r, h2 v H1 q⟩
def tJT (t : TT) : TT := fun σ H Q => ∃ Q0 : Bool → Hp → Prop, t σ H Q0 ∧ ∀ b H1, Q0 b H1 → Q b H1
theorem pt_j {e : Expr} {t : TT} (h : PT X e t) : PT X e (tJT t) := by
  refine ⟨fun pins s σ H Q I hq => ?_⟩
  obtain ⟨Q0, h1, h2⟩ := hq
  exact thn (h.run pins s σ H Q0 I h1) fun b s1 ⟨H1, I1, q⟩ => ⟨H1, I1, h2 b H1 q⟩
/-! ### calls by positional promises -/
def tCl (sp : Sp) (t : TA) : TE := fun σ H Q => t σ H fun vs H1 => sp vs H1 Q E0
theorem pe_cl {k : Nat} {f : Addr} {sp : Sp} {x : PySem.Str} {e : Expr} {es : List Expr} {t : TA} {p pos : Pos} (F : FnR X.prog X.w X.K X.mg X.base CX0 k f sp) (hr : Room k X.A) (hm : X.mg x = some (.ref f)) (hk : PySem.W.keepIn X.K (.ref f) = true)
    (ha : PA X (e :: es) t) (hg : Gl X x := by rfl) (hdb : (x == ("__debug__" : PySem.Str)) = false := by decide) (he : starEach (e :: es) X.env = (false, eval e X.env) :: starEach es X.env := by rfl) (hpl : (backTo pos (starEach es X.env)).any (·.1) = false := by rfl) :
    PE X (.Call (.Name x p) (e :: es) [] pos) (tCl sp t) := by
  refine ⟨fun pins s σ H Q I h => ?_⟩
  refine wpAny_Call_Name_kw (ld_glob I hg hm ?_ hdb)
  refine PySem.W.callWith_K (h₀ := X.base) I.ok.mod.kin hk (thn (ha.run pos pins s σ H _ I h) fun us s1 ⟨vs, H1, I1, r, q⟩ => ⟨I1.kIn, ?_⟩) he hpl
  exact wpAny_call (run_fnR F hr pass0 I1 r q)
/-- o.m(e, ..), the class and the method told by the reading -/
def tDyn (X : Cx) (k : Nat) (m : PySem.Str) (ta : TE) (t : TA) : TE := fun σ H Q => ta σ H fun x H1 => ∃ (a C dx : Addr) (fs : List (PySem.Str × V)) (f : Addr) (sp : Sp), x = .ref a ∧ H1 a = some (.ins C dx fs) ∧ fs.lookup m = none ∧ Cls X.K C ∧ Meth X.K C m f ∧ FnR X.prog X.w X.K X.mg X.base CX0 k f sp ∧
  t σ H1 fun vs H2 => sp (x :: vs) H2 Q E0
theorem pe_dyn {k : Nat} {m : PySem.Str} {o e : Expr} {es : List Expr} {ta : TE} {t : TA} {apos pos : Pos} {pl : Sem Bool} (he : PE X o ta) (hr : Room k X.A) (ha : PA X (e :: es) t)
    (hst : starEach (e :: es) X.env = (false, eval e X.env) :: starEach es X.env := by rfl) (hpl : (backTo pos (starEach es X.env)).any (·.1) = false := by rfl)
    (ht : eval (.Call (.Attribute o m apos) (e :: es) [] pos) X.env = (do
      let ov ← eval o X.env
      standAt apos.atName
      let (f, first) ← holding [ov] (getMethod ov m pl)
      callWith pos f first (backTo pos (starEach (e :: es) X.env)) (backToKw pos (keywordEach [] X.env))) := by rfl) :
    PE X (.Call (.Attribute o m apos) (e :: es) [] pos) (tDyn X k m ta t) := by
  refine ⟨fun pins s σ H Q I h => ?_⟩
  refine PySem.W.methodCall_KW (pl := pl) (thn (he.run pins s σ H _ I h) fun u s1 ⟨x, H1, I1, rx, a, C, dx, fs, f, sp, ex, ea, l, c, hm, F, q⟩ => ?_) ht
  subst ex
  obtain rfl : u = Value.ref a := rx
  refine getmeth_ok I1 ea c hm l ?_
  refine PySem.W.callWith_K (first := [.ref a]) (h₀ := X.base) I.ok.mod.kin hm.kp (thn (ha.run pos pins s1 σ H1 _ I1 q) fun us s2 ⟨vs, H2, I2, r, q2⟩ => ⟨I2.kIn, ?_⟩) hst hpl
  exact wpAny_call (run_fnR (us := .ref a :: us) (vs := .ref a :: vs) F hr pass0 I2 (.cons rfl r) q2)
theorem pe_dyn0 {k : Nat} {m : PySem.Str} {o : Expr} {ta : TE} {apos pos : Pos} {pl : Sem Bool} (he : PE X o ta) (hr : Room k X.A)
    (ht : eval (.Call (.Attribute o m apos) [] [] pos) X.env = (do
      let ov ← eval o X.env
      standAt apos.atName
      let (f, first) ← holding [ov] (getMethod ov m pl)
      callWith pos f first (backTo pos (starEach [] X.env)) (backToKw pos (keywordEach [] X.env))) := by rfl) :
    PE X (.Call (.Attribute o m apos) [] [] pos) (tDyn X k m ta tNil) := by
  refine ⟨fun pins s σ H Q I h => ?_⟩
  refine PySem.W.methodCall_KW (pl := pl) (thn (he.run pins s σ H _ I h) fun u s1 ⟨x, H1, I1, rx, a, C, dx, fs, f, sp, ex, ea, l, c, hm, F, q⟩ => ?_) ht
  subst ex
  obtain rfl : u = Value.ref a := rx
  refine getmeth_ok I1 ea c hm l ?_
  exact PySem.W.callWith_K0 (first := [.ref a]) I1.kIn hm.kp (wpAny_call (run_fnR (us := [.ref a]) (vs := [.ref a]) F hr pass0 I1 (.cons rfl .nil) q))
/-! ### operators of own classes -/
structure BinOk (K : PySem.W.Frag) (C D : Addr) (nm rm : PySem.Str) (f : Addr) : Prop where
  c1 : PySem.W.selfFirst K C = true
  c2 : PySem.W.selfFirst K D = true
  f1 : PySem.W.findIn K (.ref C) nm = some (some (.ref f))
  f2 : PySem.W.findIn K (.ref D) nm = some (some (.ref f))
  r1 : PySem.W.findIn K (.ref C) rm = some none
  r2 : PySem.W.findIn K (.ref D) rm = some none
  fn : PySem.W.isFn K (.ref f) = true
  sub : C = D ∨ PySem.W.subIn K (.ref D) (.ref C) = some false
theorem bin_K2 {prog : Program} {w : World} {A : Around} {E : Value → Shared → Prop} {s : Shared} {K : PySem.W.Frag} {x y C D L f : Addr} {h0 : Heap} {m : PySem.Str → Option Value} {ox oy : Obj} {od oe : Option Obj} {op : Operator} {Q : Value → Shared → Prop}
    (F : Fr h0 L s.heap m) (X0 : K.In h0) (I : PySem.W.InstAt s.heap x ox C od) (J : PySem.W.InstAt s.heap y oy D oe) (b : BinOk K C D (PySem.dunder op.info.2) (PySem.dunderR op.info.2) f) (hne : C ≠ D)
    (h : wpAny (model prog w) A (call (.ref f) [.ref x, .ref y]) (PySem.W.CmpBack Q) E s) : wpAny (model prog w) A (binaryOp op (.ref x) (.ref y)) Q E s := by
  have X := X0.keeps F.keep
  obtain ⟨cd, rest, hcd, hm⟩ := PySem.W.ksp_first b.c1
  obtain ⟨cd2, rest2, hcd2, hm2⟩ := PySem.W.ksp_first b.c2
  have hsub : PySem.W.subIn K (.ref D) (.ref C) = some false := b.sub.resolve_left hne
  have hs := b.f1
  have hs2 := b.f2
  have hr := b.r1
  have hr2 := b.r2
  rcases hi : op.info with ⟨sym, nm'⟩
  rw [hi] at hs hs2 hr hr2
  dsimp only at hs hs2 hr hr2
  have one := PySem.W.ksp_try X I hs b.fn h
  obtain ⟨hh, g, d, tt, os⟩ := s
  have L1 : PySem.W.Looks (model prog w) hh (typeOf (.ref x)) (.ref C) := I.type
  have L2 : PySem.W.Looks (model prog w) hh (typeOf (.ref y)) (.ref D) := J.type
  have L3 : PySem.W.Looks (model prog w) hh (fillsNumberSlot (.ref C) nm') true := PySem.W.fills_K X hcd hm hs
  have L4 : PySem.W.Looks (model prog w) hh (fillsNumberSlot (.ref D) nm') true := PySem.W.fills_K X hcd2 hm2 hs2
  have L5 : PySem.W.Looks (model prog w) hh (isSubtype (.ref D) (.ref C)) false := PySem.W.looks_subIn X hsub
  have L6 : PySem.W.Looks (model prog w) hh (numberSlotInPython (.ref C) nm') true := PySem.W.ksp_inPy X hs hr (.inl rfl)
  have L7 : PySem.W.Looks (model prog w) hh (numberSlotInPython (.ref D) nm') true := PySem.W.ksp_inPy X hs2 hr2 (.inl rfl)
  have hn : (Value.ref C == Value.ref D) = false := Bool.eq_false_iff.mpr fun q => hne (by cases beq_iff_eq.mp q; rfl)
  simp only [binaryOp, hi]
  refine wpAny_holding (wpAny_bind ?_)
  unfold binaryOp1
  refine wpAny_bind (L1.at (wpAny_bind (L2.at (wpAny_bind (L3.at ?_)))))
  simp only [hn, Bool.false_eq_true, if_false]
  ksp_lk
  refine wpAny_mono one (fun r s' hr' => ?_) fun _ _ e => e
  obtain ⟨v, rfl, hq⟩ := hr'
  ksp_lk
  exact hq
def rOwn (X : Cx) (k : Nat) (nm rm : PySem.Str) : R2 := fun x y H Q => ∃ (a b C D dx dy : Addr) (fs gs : List (PySem.Str × V)) (f : Addr) (sp : Sp), x = .ref a ∧ y = .ref b ∧ H a = some (.ins C dx fs) ∧ H b = some (.ins D dy gs) ∧ BinOk X.K C D nm rm f ∧ FnR X.prog X.w X.K X.mg X.base CX0 k f sp ∧ sp [x, y] H Q E0
theorem op_own2 {op : Operator} {nm rm : PySem.Str} {k : Nat} (hr : Room k X.A) (h1 : PySem.dunder op.info.2 = nm) (h2 : PySem.dunderR op.info.2 = rm) : OpR X (binaryOp op) (rOwn X k nm rm) := by
  subst h1 h2
  intro pins s σ H x y v u Q I rx ry h
  obtain ⟨a, b, C, D, dx, dy, fs, gs, f, sp, rfl, rfl, ha, hb, B, F, q⟩ := h
  cases (show v = Value.ref a from rx)
  cases (show u = Value.ref b from ry)
  obtain ⟨m, Fr0⟩ := I.fr
  obtain ⟨mA, O, _⟩ := ins_get I.hok ha
  obtain ⟨od, J, _⟩ := O.look
  obtain ⟨mB, O2, _⟩ := ins_get I.hok hb
  obtain ⟨oe, J2, _⟩ := O2.look
  have call_ : wpAny (model X.prog X.w) X.A (call (.ref f) [.ref a, .ref b]) (PySem.W.CmpBack (EP X pins σ Q)) X.xe s := by
    refine thn (wpAny_call (run_fnR (us := [.ref a, .ref b]) (vs := [.ref a, .ref b]) F hr pass0 I (.cons rfl (.cons rfl .nil)) q)) fun r s' ⟨z, H', I', rz, qz⟩ => ?_
    have fin : EP X pins σ Q r s' := ⟨z, H', I', rz, qz⟩
    cases z with
    | non => cases rz; exact fin
    | bl b => cases rz; exact fin
    | ref b => cases rz; exact fin
    | ty b => cases rz; exact fin
    | _ => obtain ⟨t, rfl⟩ := rz; exact fin
  by_cases e : C = D
  · subst e
    exact PySem.W.binop_K Fr0 I.ok.mod.kin J J2.type B.c1 B.f1 B.fn call_
  · exact bin_K2 Fr0 I.ok.mod.kin J J2 B e call_
def rInv (X : Cx) (k : Nat) : V → Hp → VK → Prop := fun x H Q => ∃ (a C dx : Addr) (fs : List (PySem.Str × V)) (f : Addr) (sp : Sp), x = .ref a ∧ H a = some (.ins C dx fs) ∧ PySem.W.findIn X.K (.ref C) "__invert__" = some (some (.ref f)) ∧ PySem.W.isFn X.K (.ref f) = true ∧ FnR X.prog X.w X.K X.mg X.base CX0 k f sp ∧ sp [x] H Q E0
theorem un_own {k : Nat} (hr : Room k X.A) : UnR X (unaryOp .Invert) (rInv X k) := by
  intro pins s σ H x v Q I rx h
  obtain ⟨a, C, dx, fs, f, sp, rfl, ha, hs, hf, F, q⟩ := h
  cases (show v = Value.ref a from rx)
  obtain ⟨m, Fr0⟩ := I.fr
  obtain ⟨mA, O, _⟩ := ins_get I.hok ha
  obtain ⟨od, J, _⟩ := O.look
  exact PySem.W.ksp_inv Fr0 I.ok.mod.kin J hs hf (wpAny_call (run_fnR (us := [.ref a]) (vs := [.ref a]) F hr pass0 I (.cons rfl .nil) q))
end
/-! ### the mathematics: values, conditions, labels; other keys -/
instance keyLaw : LawfulBEq L2.Key where
  eq_of_beq {a b} h := by
    cases a with
    | inl i =>
      cases b with
      | inl j => exact congrArg Sum.inl (eq_of_beq (show (i == j) = true from h))
      | inr y => cases h
    | inr x =>
      cases b with
      | inl j => cases h
      | inr y => exact congrArg Sum.inr (eq_of_beq (show (x == y) = true from h))
  rfl {a} := by
    cases a with
    | inl i => exact (beq_self_eq_true i)
    | inr x => exact (beq_self_eq_true x)
inductive PV where
  | non
  | bl (b : Bool)
  | int (i : Int)
  | str (s : PySem.Str)
  | lst (xs : List PV)
  | tup (xs : List PV)
  | tab (kvs : List (L2.Key × PV))
inductive Cond where
  | both (a b : Cond)
  | either (a b : Cond)
  | inverse (a : Cond)
  | kind (s : PySem.Str)
  | equals (k : L2.Key)
  | size (n : Int)
  | has (k : L2.Key)
  | item (k : L2.Key) (l : PySem.Str)
  | before (j k : L2.Key)
  | first (l : PySem.Str)
  | every (l : PySem.Str)
  | some_ (l : PySem.Str)
/-- what a condition sees of a value -/
structure Sn where
  sort : PySem.Str
  atom : V
  keys : Option (List L2.Key)
  labs : Option (List PySem.Str)
def isTx : L2.Key → Bool
  | .inl _ => false
  | .inr _ => true
def wanted (k : L2.Key) : PySem.Str := if isTx k then "text" else "integer"
def hSize (s : Sn) (n : Int) : Bool := match s.labs with
  | none => false
  | some ls => decide ((ls.length : Int) = n)
def hHas (s : Sn) (k : L2.Key) : Bool := match s.keys with
  | none => false
  | some ks => decide (k ∈ ks)
def plc (s : Sn) (k : L2.Key) : Nat := match s.keys with
  | none => 0
  | some ks => ks.idxOf k
def hItem (s : Sn) (k : L2.Key) (l : PySem.Str) : Bool := hHas s k && (match s.labs with
  | none => false
  | some ls => decide (ls[plc s k]? = some l))
def hBefore (s : Sn) (j k : L2.Key) : Bool := hHas s j && hHas s k && decide (plc s j < plc s k)
def hRow (s : Sn) : Bool := s.labs.isSome && s.keys.isNone
def hFirst (s : Sn) (l : PySem.Str) : Bool := hRow s && (match s.labs with
  | none => false
  | some ls => decide (ls.take 1 = [l]))
def hEvery (s : Sn) (l : PySem.Str) : Bool := match s.labs with
  | none => false
  | some ls => decide (ls.count l = ls.length)
def hSome (s : Sn) (l : PySem.Str) : Bool := match s.labs with
  | none => false
  | some ls => decide (l ∈ ls)
def hold (s : Sn) : Cond → Bool
  | .both a b => hold s a && hold s b
  | .either a b => hold s a || hold s b
  | .inverse a => !hold s a
  | .kind x => decide (s.sort = x)
  | .equals k => decide (s.sort = wanted k) && decide (s.atom = kV k)
  | .size n => hSize s n
  | .has k => hHas s k
  | .item k l => hItem s k l
  | .before j k => hBefore s j k
  | .first l => hFirst s l
  | .every l => hEvery s l
  | .some_ l => hSome s l
abbrev Rules := List (PySem.Str × Cond)
def labS (s : Sn) : Rules → PySem.Str
  | [] => "other"
  | (n, c) :: r => if hold s c = true then n else labS s r
def seenOf (L : PV → PySem.Str) : PV → Sn
  | .non => ⟨"null", .non, none, none⟩
  | .bl true => ⟨"true", .bl true, none, none⟩
  | .bl false => ⟨"false", .bl false, none, none⟩
  | .int i => ⟨"integer", .int i, none, none⟩
  | .str x => ⟨"text", .str x, none, none⟩
  | .lst xs => ⟨"list", .non, none, some (xs.map L)⟩
  | .tup xs => ⟨"tuple", .non, none, some (xs.map L)⟩
  | .tab kvs => ⟨"table", .non, some (kvs.map (·.1)), some (kvs.map fun p => L p.2)⟩
/-- the label of a value nested at most so deep -/
def lab (R : Rules) : Nat → PV → PySem.Str
  | 0, m => labS (seenOf (fun _ => "other") m) R
  | n + 1, m => labS (seenOf (lab R n) m) R
def snN (R : Rules) : Nat → PV → Sn
  | 0, m => seenOf (fun _ => "other") m
  | n + 1, m => seenOf (lab R n) m
theorem lab_snN (R : Rules) : ∀ (n : Nat) (m : PV), lab R n m = labS (snN R n m) R
  | 0, _ => rfl
  | _ + 1, _ => rfl
/-- a value with other keys -/
def exch (f : L2.Key → L2.Key) : Nat → PV → PV
  | 0, m => m
  | n + 1, .lst xs => .lst (xs.map (exch f n))
  | n + 1, .tup xs => .tup (xs.map (exch f n))
  | n + 1, .tab kvs => .tab (kvs.map fun p => (f p.1, exch f n p.2))
  | _ + 1, m => m
/-- a condition mentions keys of these alone -/
def ment (kn : List L2.Key) : Cond → Prop
  | .both a b => ment kn a ∧ ment kn b
  | .either a b => ment kn a ∧ ment kn b
  | .inverse a => ment kn a
  | .has k => k ∈ kn
  | .item k _ => k ∈ kn
  | .before j k => j ∈ kn ∧ k ∈ kn
  | _ => True
/-- keys that are mentioned stay, others become no such keys -/
structure Fix (f : L2.Key → L2.Key) (kn : List L2.Key) : Prop where
  stay : ∀ k ∈ kn, f k = k
  back : ∀ k, f k ∈ kn → f k = k
section
variable {f : L2.Key → L2.Key} {kn : List L2.Key}
theorem mem_fix (F : Fix f kn) {k : L2.Key} (hk : k ∈ kn) (ks : List L2.Key) : k ∈ ks.map f ↔ k ∈ ks := by
  refine ⟨fun h => ?_, fun h => List.mem_map.mpr ⟨k, h, F.stay k hk⟩⟩
  obtain ⟨j, hj, e⟩ := List.mem_map.mp h
  have h2 : f j = j := F.back j (by rw [e]; exact hk)
  rw [← e, h2]
  exact hj
theorem beq_fix (F : Fix f kn) {k : L2.Key} (hk : k ∈ kn) (j : L2.Key) : (f j == k) = (j == k) := by
  by_cases e : j = k
  · rw [e, F.stay k hk]
  · have e2 : f j ≠ k := fun q => e (by
      have h2 : f j = j := F.back j (by rw [q]; exact hk)
      rw [← h2]
      exact q)
    rw [beq_eq_false_iff_ne.mpr e, beq_eq_false_iff_ne.mpr e2]
theorem idx_fix (F : Fix f kn) {k : L2.Key} (hk : k ∈ kn) : ∀ ks : List L2.Key, (ks.map f).idxOf k = ks.idxOf k
  | [] => rfl
  | j :: ks => by
    rw [List.map_cons, List.idxOf_cons, List.idxOf_cons, beq_fix F hk, idx_fix F hk ks]
/-- two views of which the second has the keys exchanged -/
structure SnEx (f : L2.Key → L2.Key) (s t : Sn) : Prop where
  sort : t.sort = s.sort
  atom : t.atom = s.atom
  labs : t.labs = s.labs
  keys : t.keys = s.keys.map (List.map f)
theorem has_ex (F : Fix f kn) {s t : Sn} (E : SnEx f s t) {k : L2.Key} (hk : k ∈ kn) : hHas t k = hHas s k := by
  unfold hHas
  rw [E.keys]
  cases s.keys with
  | none => rfl
  | some ks => exact decide_eq_decide.mpr (mem_fix F hk ks)
theorem plc_ex (F : Fix f kn) {s t : Sn} (E : SnEx f s t) {k : L2.Key} (hk : k ∈ kn) : plc t k = plc s k := by
  unfold plc
  rw [E.keys]
  cases s.keys with
  | none => rfl
  | some ks => exact idx_fix F hk ks
theorem row_ex {s t : Sn} (E : SnEx f s t) : hRow t = hRow s := by
  unfold hRow
  rw [E.keys, E.labs]
  cases s.keys <;> rfl
theorem hold_ex (F : Fix f kn) {s t : Sn} (E : SnEx f s t) : ∀ c : Cond, ment kn c → hold t c = hold s c
  | .both a b, h => by
    show (hold t a && hold t b) = (hold s a && hold s b)
    rw [hold_ex F E a h.1, hold_ex F E b h.2]
  | .either a b, h => by
    show (hold t a || hold t b) = (hold s a || hold s b)
    rw [hold_ex F E a h.1, hold_ex F E b h.2]
  | .inverse a, h => by
    show (!hold t a) = (!hold s a)
    rw [hold_ex F E a h]
  | .kind x, _ => by
    show decide (t.sort = x) = decide (s.sort = x)
    rw [E.sort]
  | .equals k, _ => by
    show (decide (t.sort = wanted k) && decide (t.atom = kV k)) = (decide (s.sort = wanted k) && decide (s.atom = kV k))
    rw [E.sort, E.atom]
  | .size n, _ => by
    show hSize t n = hSize s n
    unfold hSize
    rw [E.labs]
  | .has k, h => has_ex F E h
  | .item k l, h => by
    show hItem t k l = hItem s k l
    unfold hItem
    rw [has_ex F E h, plc_ex F E h, E.labs]
  | .before j k, h => by
    show hBefore t j k = hBefore s j k
    unfold hBefore
    rw [has_ex F E h.1, has_ex F E h.2, plc_ex F E h.1, plc_ex F E h.2]
  | .first l, _ => by
    show hFirst t l = hFirst s l
    unfold hFirst
    rw [row_ex E, E.labs]
  | .every l, _ => by
    show hEvery t l = hEvery s l
    unfold hEvery
    rw [E.labs]
  | .some_ l, _ => by
    show hSome t l = hSome s l
    unfold hSome
    rw [E.labs]
theorem labS_ex (F : Fix f kn) {s t : Sn} (E : SnEx f s t) : ∀ R : Rules, (∀ r ∈ R, ment kn r.2) → labS t R = labS s R
  | [], _ => rfl
  | (n, c) :: r, h => by
    show (if hold t c = true then n else labS t r) = (if hold s c = true then n else labS s r)
    rw [hold_ex F E c (h (n, c) (List.mem_cons_self ..)), labS_ex F E r fun q hq => h q (List.mem_cons_of_mem _ hq)]
/-- what a value shows stays when its keys are exchanged -/
theorem seen_ex {L : PV → PySem.Str} {g : PV → PV} (hL : ∀ m, L (g m) = L m) (m : PV) : ∀ m', (m' = match m with
    | .lst xs => .lst (xs.map g)
    | .tup xs => .tup (xs.map g)
    | .tab kvs => .tab (kvs.map fun p => (f p.1, g p.2))
    | m => m) → SnEx f (seenOf L m) (seenOf L m') := by
  rintro m' rfl
  cases m with
  | bl b => cases b <;> exact ⟨rfl, rfl, rfl, rfl⟩
  | lst xs =>
    refine ⟨rfl, rfl, ?_, rfl⟩
    show some ((xs.map g).map L) = some (xs.map L)
    rw [List.map_map]
    exact congrArg some (List.map_congr_left fun m _ => hL m)
  | tup xs =>
    refine ⟨rfl, rfl, ?_, rfl⟩
    show some ((xs.map g).map L) = some (xs.map L)
    rw [List.map_map]
    exact congrArg some (List.map_congr_left fun m _ => hL m)
  | tab kvs =>
    refine ⟨rfl, rfl, ?_, ?_⟩
    · show some ((kvs.map fun p => (f p.1, g p.2)).map fun p => L p.2) = some (kvs.map fun p => L p.2)
      rw [List.map_map]
      exact congrArg some (List.map_congr_left fun p _ => hL p.2)
    · show some ((kvs.map fun p => (f p.1, g p.2)).map (·.1)) = some ((kvs.map (·.1)).map f)
      rw [List.map_map, List.map_map]
      rfl
  | _ => exact ⟨rfl, rfl, rfl, rfl⟩
theorem exch_succ (n : Nat) (m : PV) : exch f (n + 1) m = match m with
    | .lst xs => .lst (xs.map (exch f n))
    | .tup xs => .tup (xs.map (exch f n))
    | .tab kvs => .tab (kvs.map fun p => (f p.1, exch f n p.2))
    | m => m := by cases m <;> rfl
theorem lab_ex (F : Fix f kn) {R : Rules} (h : ∀ r ∈ R, ment kn r.2) : ∀ (n : Nat) (m : PV), lab R n (exch f n m) = lab R n m
  | 0, m => rfl
  | n + 1, m => labS_ex F (seen_ex (fun q => lab_ex F h n q) m _ (exch_succ n m)) R h
/-- a condition says the same of both -/
theorem fits_ex (F : Fix f kn) {R : Rules} (h : ∀ r ∈ R, ment kn r.2) {c : Cond} (hc : ment kn c) (n : Nat) (m : PV) : hold (snN R (n + 1) (exch f (n + 1) m)) c = hold (snN R (n + 1) m) c :=
  hold_ex F (seen_ex (fun q => lab_ex F h n q) m _ (exch_succ n m)) c hc
end
/-! ### the facts that the head tells -/
structure Tx (K : PySem.W.Frag) (mg : PySem.Str → Option Value) : Prop where
  says : He.SaysD fa fn K
  ex : exB K = true
  gl : ∀ x, He.Fa.glo x ∈ fa → mg x = some (.ref (He.ga K x))
  fr : ∀ x, He.Fa.free x ∈ fa → mg x = none
  mc : ∃ t, mg "MOST_COUNT" = some (.int 4 t)
  mr : ∃ t, mg "MOST_RULES" = some (.int 3 t)
  oth : ∃ t, mg "OTHER" = some (.str "other" t)
  rfd : ∃ t, mg "REFUSED" = some (.str "refused" t)
  ltr : ∃ t, mg "LETTERS" = some (.str "abcdefghijklmnopqrstuvwxyz" t)
  knd : mg "KINDS" = some (.ref (He.ga K "KINDS"))
section
variable {P : Program} {w : World} {K : PySem.W.Frag} {mg : PySem.Str → Option Value} {base : Heap}
theorem memL {x : PySem.Str} {l : List PySem.Str} (h : l.contains x = true) : x ∈ l := List.contains_iff_mem.mp h
theorem memP {c m : PySem.Str} {l : List (PySem.Str × PySem.Str)} (h : (l.any fun p => decide (p.1 = c) && decide (p.2 = m)) = true) : (c, m) ∈ l := by
  obtain ⟨p, hp, e⟩ := List.any_eq_true.mp h
  obtain ⟨e1, e2⟩ := Bool.and_eq_true_iff.mp e
  have a1 : p.1 = c := of_decide_eq_true e1
  have a2 : p.2 = m := of_decide_eq_true e2
  rw [← a1, ← a2]
  exact hp
theorem Tx.glo (T : Tx K mg) (x : PySem.Str) (h : gloL.contains x = true := by decide +kernel) : mg x = some (.ref (He.ga K x)) :=
  T.gl x (List.mem_append_left _ (List.mem_map.mpr ⟨x, memL h, rfl⟩))
theorem Tx.free (T : Tx K mg) (x : PySem.Str) (h : freeL.contains x = true := by decide +kernel) : mg x = none :=
  T.fr x (List.mem_append_right _ (List.mem_append_left _ (List.mem_map.mpr ⟨x, memL h, rfl⟩)))
theorem Tx.cls (T : Tx K mg) (x : PySem.Str) (h : ownL.contains x = true := by decide +kernel) : Cls K (He.ga K x) :=
  He.cls_ok (T.says.facts (f := .cls x) (List.mem_append_right _ (List.mem_append_right _ (List.mem_append_left _ (List.mem_map.mpr ⟨x, memL h, rfl⟩)))))
theorem Tx.mk_ (T : Tx K mg) (x : PySem.Str) (h : ownL.contains x = true := by decide +kernel) : Mk K (He.ga K x) (He.ma K (He.ga K x) "__init__") :=
  He.mkr_ok (T.says.facts (f := .mkr x) (List.mem_append_right _ (List.mem_append_right _ (List.mem_append_right _ (List.mem_append_left _ (List.mem_map.mpr ⟨x, memL h, rfl⟩))))))
theorem Tx.noat (T : Tx K mg) (c f : PySem.Str) (h : (noatL.any fun p => decide (p.1 = c) && decide (p.2 = f)) = true := by decide +kernel) : NoAttr K (He.ga K c) f :=
  He.noat_ok (T.says.facts (f := .noat c f) (List.mem_append_right _ (List.mem_append_right _ (List.mem_append_right _ (List.mem_append_right _ (List.mem_append_left _ (List.mem_map.mpr ⟨(c, f), memP h, rfl⟩)))))))
theorem Tx.meth (T : Tx K mg) (c m : PySem.Str) (h : (methL.any fun p => decide (p.1 = c) && decide (p.2 = m)) = true := by decide +kernel) : Meth K (He.ga K c) m (He.ma K (He.ga K c) m) :=
  He.meth_ok (T.says.facts (f := .meth c m) (List.mem_append_right _ (List.mem_append_right _ (List.mem_append_right _ (List.mem_append_right _ (List.mem_append_right _ (List.mem_append_left _ (List.mem_map.mpr ⟨(c, m), memP h, rfl⟩))))))))
theorem Tx.fun_ (T : Tx K mg) (i : Nat) {d : He.DefD} (h : fn[i]? = some d) : ∃ fd, FunD K d.name d.qual d.params d.body d.scope (d.dvs K) (d.kws K) (He.fAd K d.at_) fd := T.says.def_ i h
/-- a def of the text and its body: the promise by positions -/
theorem okR {x qual : PySem.Str} {st : Stmt} {f : Addr} {fd : FuncData} {N ps : List PySem.Str} {k : Nat} {sp : Sp} (F : FunD K x qual (defArgs st) (defBody st) (defScope st) [] [] f fd) (S : FnScope N ps (defScope st))
    (hb : ∀ (kV doc pm : Value) (an : Option Addr) (cdv ct : Value) (us : List Value), us.length = ps.length → bindArgs (PySem.W.fnOf x qual (defArgs st) (defBody st) (defScope st) .none kV doc pm an cdv ct) ⟨us, []⟩ = pure (ps.zip us))
    (len : ∀ vs H Q E, sp vs H Q E → vs.length = ps.length)
    (hbody : ∀ (cdv : Value) (A : Around) (outer : List Env) (s : Shared) (H : Hp) (vs : List V) (Q : VK) (E : XK), Room k (A.deeper (envOfC qual (defScope st) s.heap.objs.size f cdv)) → sp vs H Q E →
      ∃ t, PSs (cxOf CX0 P w K mg base N qual (defScope st) f cdv A outer s H E).nox (defBody st) t ∧ t { nx := fun _ H' => Q .non H', rt := Q } (start N vs) H) : FnR P w K mg base CX0 (k + 1) f sp := by
  have G : FnOk P w K mg base CX0 (k + 1) f fd ps sp := F.ok S len fun cdv A outer s H vs Q E hr hsp => by
    obtain ⟨t, h, q⟩ := hbody cdv A outer s H vs Q E hr hsp
    exact ⟨t, h.nox, q⟩
  exact (G.raw (F.bindsN hb) .nil).imp fun vs H Q E h => by rw [List.append_nil]; exact h
/-- a def that a caller may call by its name -/
structure Cl (P : Program) (w : World) (K : PySem.W.Frag) (mg : PySem.Str → Option Value) (base : Heap) (k : Nat) (x : PySem.Str) (sp : Sp) : Prop where
  m : mg x = some (.ref (He.ga K x))
  kp : PySem.W.keepIn K (.ref (He.ga K x)) = true
  run : FnR P w K mg base CX0 k (He.ga K x) sp
theorem Cl.mono {j k : Nat} {x : PySem.Str} {sp : Sp} (G : Cl P w K mg base j x sp) (h : j ≤ k) : Cl P w K mg base k x sp := ⟨G.m, G.kp, G.run.mono h⟩
/-- a class that a caller may make instances of -/
structure Mkr (P : Program) (w : World) (K : PySem.W.Frag) (mg : PySem.Str → Option Value) (base : Heap) (k : Nat) (x : PySem.Str) (sp : Sp) : Prop where
  m : mg x = some (.ref (He.ga K x))
  mkc : Mk K (He.ga K x) (He.ma K (He.ga K x) "__init__")
  run : FnR P w K mg base CX0 k (He.ma K (He.ga K x) "__init__") sp
theorem Tx.mkr (T : Tx K mg) {k : Nat} (x : PySem.Str) {sp : Sp} (F : FnR P w K mg base CX0 k (He.ma K (He.ga K x) "__init__") sp) (h : ownL.contains x = true := by decide +kernel) (h2 : gloL.contains x = true := by decide +kernel) : Mkr P w K mg base k x sp := ⟨T.glo x h2, T.mk_ x h, F⟩
end
section
variable {X : Cx} {k : Nat} {sp : Sp} {x : PySem.Str} {e : Expr} {es : List Expr} {t : TA} {p pos : Pos}
theorem pe_f (G : Cl X.prog X.w X.K X.mg X.base k x sp) (hr : Room k X.A) (ha : PA X (e :: es) t) (hg : Gl X x := by rfl) (hdb : (x == ("__debug__" : PySem.Str)) = false := by decide) (he : starEach (e :: es) X.env = (false, eval e X.env) :: starEach es X.env := by rfl)
    (hpl : (backTo pos (starEach es X.env)).any (·.1) = false := by rfl) : PE X (.Call (.Name x p) (e :: es) [] pos) (tCl sp t) := pe_cl G.run hr G.m G.kp ha hg hdb he hpl
theorem pe_new (G : Mkr X.prog X.w X.K X.mg X.base k x sp) (hr : Room (k + 1) X.A) (ha : PA X (e :: es) t) (hg : Gl X x := by rfl) (hdb : (x == ("__debug__" : PySem.Str)) = false := by decide) (he : starEach (e :: es) X.env = (false, eval e X.env) :: starEach es X.env := by rfl)
    (hpl : (backTo pos (starEach es X.env)).any (·.1) = false := by rfl) : PE X (.Call (.Name x p) (e :: es) [] pos) (StX.tMakeR (He.ga X.K x) sp E0 t) := StX.pe_makeR G.mkc G.run hr hg G.m pass0 ha hdb he hpl
end
/-! ### heaps -/
/-- a heap without one address; without some -/
def Wo (d : Addr) (H : Hp) : Hp := fun b => if b = d then none else H b
def Hd : List Addr → Hp → Hp
  | [], H => H
  | d :: D, H => Wo d (Hd D H)
theorem wo_ne {d b : Addr} {H : Hp} (h : b ≠ d) : Wo d H b = H b := if_neg h
theorem wo_eq {d : Addr} {H : Hp} : Wo d H d = none := if_pos rfl
theorem wo_same {d : Addr} {H H' : Hp} (S : Same H H') : Same (Wo d H) (Wo d H') := fun b o h => by
  by_cases e : b = d
  · rw [e, wo_eq] at h
    cases h
  · rw [wo_ne e] at h ⊢
    exact S b o h
theorem wo_sub {d : Addr} {H : Hp} : Same (Wo d H) H := fun b o h => by
  by_cases e : b = d
  · rw [e, wo_eq] at h
    cases h
  · rw [wo_ne e] at h
    exact h
theorem hd_same : ∀ (D : List Addr) {H H' : Hp}, Same H H' → Same (Hd D H) (Hd D H')
  | [], _, _, S => S
  | _ :: D, _, _, S => wo_same (hd_same D S)
theorem hd_sub : ∀ (D : List Addr) {H : Hp}, Same (Hd D H) H
  | [], _ => Same.refl _
  | _ :: D, _ => wo_sub.trans (hd_sub D)
/-- an address out of D is seen -/
theorem hd_out : ∀ {D : List Addr} {H : Hp} {b : Addr}, b ∉ D → Hd D H b = H b
  | [], _, _, _ => rfl
  | d :: D, H, b, h => by
    show Wo d (Hd D H) b = H b
    rw [wo_ne (fun e => h (by rw [e]; exact List.mem_cons_self ..)), hd_out fun z => h (List.mem_cons_of_mem _ z)]
theorem hd_in : ∀ {D : List Addr} {H : Hp} {b : Addr}, b ∈ D → Hd D H b = none
  | d :: D, H, b, h => by
    show Wo d (Hd D H) b = none
    by_cases e : b = d
    · rw [e, wo_eq]
    · rw [wo_ne e]
      exact hd_in ((List.mem_cons.mp h).resolve_left e)
/-- D's addresses are taken -/
def Tkn (D : List Addr) (H : Hp) : Prop := ∀ b ∈ D, H b ≠ none
theorem Tkn.new {D : List Addr} {H : Hp} (h : Tkn D H) {p : Addr} (hp : H p = none) : p ∉ D := fun z => h p z hp
theorem Tkn.mono {D : List Addr} {H H' : Hp} (h : Tkn D H) (S : Same H H') : Tkn D H' := fun b hb => by
  cases e : H b with
  | none => exact absurd e (h b hb)
  | some o =>
    rw [S b o e]
    exact fun z => by cases z
theorem same_new {H : Hp} {p : Addr} (h : H p = none) (o : HO) : Same H (upd H p o) := fun b u q => by rw [upd_ne (ne_of_none q h)]; exact q
/-- but for d all stands as it stood -/
abbrev Sm (d : Addr) (H H' : Hp) : Prop := Same (Wo d H) (Wo d H')
theorem Sm.of {d : Addr} {H H' : Hp} (S : Same H H') : Sm d H H' := wo_same S
theorem sm_upd {d : Addr} {H : Hp} {o : HO} : Sm d H (upd H d o) := fun b u h => by
  by_cases e : b = d
  · rw [e, wo_eq] at h
    cases h
  · rw [wo_ne e] at h ⊢
    rw [upd_ne e]
    exact h
theorem Sm.at {d : Addr} {H H' : Hp} (S : Sm d H H') {b : Addr} {o : HO} (h : H b = some o) (ne : b ≠ d) : H' b = some o := by
  have := S b o (by rw [wo_ne ne]; exact h)
  rw [wo_ne ne] at this
  exact this
/-- the draws: a list of three ints, the first not negative and not of too many bits -/
def DrAt (H : Hp) (d : Addr) : Prop := ∃ g a b : Int, H d = some (.lst [.int g, .int a, .int b]) ∧ 0 ≤ g ∧ 0 ≤ a ∧ a < 2 ^ 40 ∧ 0 ≤ b ∧ b < 2 ^ 40
theorem DrAt.some {H : Hp} {d : Addr} (h : DrAt H d) : ∃ o, H d = some o := let ⟨_, _, _, e, _⟩ := h; ⟨_, e⟩
theorem DrAt.mono {H H' : Hp} {d : Addr} (h : DrAt H d) (S : Same H H') : DrAt H' d := by
  obtain ⟨g, a, b, e, r⟩ := h
  exact ⟨g, a, b, S _ _ e, r⟩
theorem DrAt.ne {H : Hp} {d p : Addr} (h : DrAt H d) (hp : H p = none) : p ≠ d := fun e => by
  obtain ⟨o, q⟩ := h.some
  rw [e, q] at hp
  cases hp
theorem seq_mono {K : PySem.W.Frag} {H H' : Hp} {a : Addr} {xs : List V} (S : Same H H') (h : SqL K H a xs) : SqL K H' a xs := S.seq h
theorem seqT_mono {K : PySem.W.Frag} {H H' : Hp} {a : Addr} {xs : List V} (S : Same H H') (h : SqT K H a xs) : SqT K H' a xs := by
  rcases h with (h | ⟨o, h⟩) | h
  · exact .inl (.inl (S _ _ h))
  · exact .inl (.inr ⟨o, S _ _ h⟩)
  · exact .inr h
/-! ### attributes -/
theorem lk_hd {f : PySem.Str} {v : V} {r : List (PySem.Str × V)} : List.lookup f ((f, v) :: r) = some v := by
  rw [List.lookup_cons, beq_self_eq_true]
theorem lk_tl {f g : PySem.Str} {v : V} {r : List (PySem.Str × V)} (h : (f == g) = false) : List.lookup f ((g, v) :: r) = List.lookup f r := by
  rw [List.lookup_cons, h]
theorem pf_tl {f g : PySem.Str} {v x : V} {r : List (PySem.Str × V)} (h : ¬ g = f) : putF f v ((g, x) :: r) = (g, x) :: putF f v r := by
  show (if g = f then _ else _) = _
  rw [if_neg h]
section
variable {K : PySem.W.Frag} {mg : PySem.Str → Option Value}
theorem F_without_repeats (T : Tx K mg) : ∃ fd, FunD K "without_repeats" "without_repeats" (defArgs s_without_repeats) (defBody s_without_repeats) (defScope s_without_repeats) [] [] (He.fAd K ("without_repeats", none)) fd := T.fun_ 0 (d := d_without_repeats) rfl
theorem F_is_integer (T : Tx K mg) : ∃ fd, FunD K "is_integer" "is_integer" (defArgs s_is_integer) (defBody s_is_integer) (defScope s_is_integer) [] [] (He.fAd K ("is_integer", none)) fd := T.fun_ 1 (d := d_is_integer) rfl
theorem F_kind (T : Tx K mg) : ∃ fd, FunD K "kind" "kind" (defArgs s_kind) (defBody s_kind) (defScope s_kind) [] [] (He.fAd K ("kind", none)) fd := T.fun_ 2 (d := d_kind) rfl
theorem F_fresh (T : Tx K mg) : ∃ fd, FunD K "fresh" "fresh" (defArgs s_fresh) (defBody s_fresh) (defScope s_fresh) [] [] (He.fAd K ("fresh", none)) fd := T.fun_ 3 (d := d_fresh) rfl
theorem F_is_word (T : Tx K mg) : ∃ fd, FunD K "is_word" "is_word" (defArgs s_is_word) (defBody s_is_word) (defScope s_is_word) [] [] (He.fAd K ("is_word", none)) fd := T.fun_ 4 (d := d_is_word) rfl
theorem F_Ldraws (T : Tx K mg) : ∃ fd, FunD K "_law_draws" "_law_draws" (defArgs s_Ldraws) (defBody s_Ldraws) (defScope s_Ldraws) [] [] (He.fAd K ("_law_draws", none)) fd := T.fun_ 5 (d := d_Ldraws) rfl
theorem F_Ldraw (T : Tx K mg) : ∃ fd, FunD K "_law_draw" "_law_draw" (defArgs s_Ldraw) (defBody s_Ldraw) (defScope s_Ldraw) [] [] (He.fAd K ("_law_draw", none)) fd := T.fun_ 6 (d := d_Ldraw) rfl
theorem F_Lsome (T : Tx K mg) : ∃ fd, FunD K "_law_some" "_law_some" (defArgs s_Lsome) (defBody s_Lsome) (defScope s_Lsome) [] [] (He.fAd K ("_law_some", none)) fd := T.fun_ 7 (d := d_Lsome) rfl
theorem F_Ltext (T : Tx K mg) : ∃ fd, FunD K "_law_text" "_law_text" (defArgs s_Ltext) (defBody s_Ltext) (defScope s_Ltext) [] [] (He.fAd K ("_law_text", none)) fd := T.fun_ 8 (d := d_Ltext) rfl
theorem F_Linteger (T : Tx K mg) : ∃ fd, FunD K "_law_integer" "_law_integer" (defArgs s_Linteger) (defBody s_Linteger) (defScope s_Linteger) [] [] (He.fAd K ("_law_integer", none)) fd := T.fun_ 9 (d := d_Linteger) rfl
theorem F_Lkeys (T : Tx K mg) : ∃ fd, FunD K "_law_keys" "_law_keys" (defArgs s_Lkeys) (defBody s_Lkeys) (defScope s_Lkeys) [] [] (He.fAd K ("_law_keys", none)) fd := T.fun_ 10 (d := d_Lkeys) rfl
theorem F_Lwords (T : Tx K mg) : ∃ fd, FunD K "_law_words" "_law_words" (defArgs s_Lwords) (defBody s_Lwords) (defScope s_Lwords) [] [] (He.fAd K ("_law_words", none)) fd := T.fun_ 11 (d := d_Lwords) rfl
theorem F_Latom (T : Tx K mg) : ∃ fd, FunD K "_law_atom" "_law_atom" (defArgs s_Latom) (defBody s_Latom) (defScope s_Latom) [] [] (He.fAd K ("_law_atom", none)) fd := T.fun_ 12 (d := d_Latom) rfl
theorem F_Lcontainer (T : Tx K mg) : ∃ fd, FunD K "_law_container" "_law_container" (defArgs s_Lcontainer) (defBody s_Lcontainer) (defScope s_Lcontainer) [] [] (He.fAd K ("_law_container", none)) fd := T.fun_ 13 (d := d_Lcontainer) rfl
theorem F_Lmodel (T : Tx K mg) : ∃ fd, FunD K "_law_model" "_law_model" (defArgs s_Lmodel) (defBody s_Lmodel) (defScope s_Lmodel) [] [] (He.fAd K ("_law_model", none)) fd := T.fun_ 14 (d := d_Lmodel) rfl
theorem F_Lreal (T : Tx K mg) : ∃ fd, FunD K "_law_real" "_law_real" (defArgs s_Lreal) (defBody s_Lreal) (defScope s_Lreal) [] [] (He.fAd K ("_law_real", none)) fd := T.fun_ 15 (d := d_Lreal) rfl
theorem F_Lmade (T : Tx K mg) : ∃ fd, FunD K "_law_made" "_law_made" (defArgs s_Lmade) (defBody s_Lmade) (defScope s_Lmade) [] [] (He.fAd K ("_law_made", none)) fd := T.fun_ 16 (d := d_Lmade) rfl
theorem F_Lask (T : Tx K mg) : ∃ fd, FunD K "_law_ask" "_law_ask" (defArgs s_Lask) (defBody s_Lask) (defScope s_Lask) [] [] (He.fAd K ("_law_ask", none)) fd := T.fun_ 17 (d := d_Lask) rfl
theorem F_Ljoined (T : Tx K mg) : ∃ fd, FunD K "_law_joined" "_law_joined" (defArgs s_Ljoined) (defBody s_Ljoined) (defScope s_Ljoined) [] [] (He.fAd K ("_law_joined", none)) fd := T.fun_ 18 (d := d_Ljoined) rfl
theorem F_Lexchanged (T : Tx K mg) : ∃ fd, FunD K "_law_exchanged" "_law_exchanged" (defArgs s_Lexchanged) (defBody s_Lexchanged) (defScope s_Lexchanged) [] [] (He.fAd K ("_law_exchanged", none)) fd := T.fun_ 19 (d := d_Lexchanged) rfl
theorem F_Lturned (T : Tx K mg) : ∃ fd, FunD K "_law_turned" "_law_turned" (defArgs s_Lturned) (defBody s_Lturned) (defScope s_Lturned) [] [] (He.fAd K ("_law_turned", none)) fd := T.fun_ 20 (d := d_Lturned) rfl
theorem F_law (T : Tx K mg) : ∃ fd, FunD K "law" "law" (defArgs s_law) (defBody s_law) (defScope s_law) [] [] (He.fAd K ("law", none)) fd := T.fun_ 21 (d := d_law) rfl
theorem F_Seen_init (T : Tx K mg) : ∃ fd, FunD K "__init__" "Seen.__init__" (defArgs s_Seen_init) (defBody s_Seen_init) (defScope s_Seen_init) [] [] (He.fAd K ("Seen", some "__init__")) fd := T.fun_ 22 (d := d_Seen_init) rfl
theorem F_Seen_has (T : Tx K mg) : ∃ fd, FunD K "has" "Seen.has" (defArgs s_Seen_has) (defBody s_Seen_has) (defScope s_Seen_has) [] [] (He.fAd K ("Seen", some "has")) fd := T.fun_ 23 (d := d_Seen_has) rfl
theorem F_Seen_place (T : Tx K mg) : ∃ fd, FunD K "place" "Seen.place" (defArgs s_Seen_place) (defBody s_Seen_place) (defScope s_Seen_place) [] [] (He.fAd K ("Seen", some "place")) fd := T.fun_ 24 (d := d_Seen_place) rfl
theorem F_Seen_is_row (T : Tx K mg) : ∃ fd, FunD K "is_row" "Seen.is_row" (defArgs s_Seen_is_row) (defBody s_Seen_is_row) (defScope s_Seen_is_row) [] [] (He.fAd K ("Seen", some "is_row")) fd := T.fun_ 25 (d := d_Seen_is_row) rfl
theorem F_Condition_and (T : Tx K mg) : ∃ fd, FunD K "__and__" "Condition.__and__" (defArgs s_Condition_and) (defBody s_Condition_and) (defScope s_Condition_and) [] [] (He.fAd K ("Condition", some "__and__")) fd := T.fun_ 26 (d := d_Condition_and) rfl
theorem F_Condition_or (T : Tx K mg) : ∃ fd, FunD K "__or__" "Condition.__or__" (defArgs s_Condition_or) (defBody s_Condition_or) (defScope s_Condition_or) [] [] (He.fAd K ("Condition", some "__or__")) fd := T.fun_ 27 (d := d_Condition_or) rfl
theorem F_Condition_invert (T : Tx K mg) : ∃ fd, FunD K "__invert__" "Condition.__invert__" (defArgs s_Condition_invert) (defBody s_Condition_invert) (defScope s_Condition_invert) [] [] (He.fAd K ("Condition", some "__invert__")) fd := T.fun_ 28 (d := d_Condition_invert) rfl
theorem F_Condition_leaves (T : Tx K mg) : ∃ fd, FunD K "leaves" "Condition.leaves" (defArgs s_Condition_leaves) (defBody s_Condition_leaves) (defScope s_Condition_leaves) [] [] (He.fAd K ("Condition", some "leaves")) fd := T.fun_ 29 (d := d_Condition_leaves) rfl
theorem F_Condition_own_labels (T : Tx K mg) : ∃ fd, FunD K "own_labels" "Condition.own_labels" (defArgs s_Condition_own_labels) (defBody s_Condition_own_labels) (defScope s_Condition_own_labels) [] [] (He.fAd K ("Condition", some "own_labels")) fd := T.fun_ 30 (d := d_Condition_own_labels) rfl
theorem F_Condition_label_list (T : Tx K mg) : ∃ fd, FunD K "label_list" "Condition.label_list" (defArgs s_Condition_label_list) (defBody s_Condition_label_list) (defScope s_Condition_label_list) [] [] (He.fAd K ("Condition", some "label_list")) fd := T.fun_ 31 (d := d_Condition_label_list) rfl
theorem F_Both_init (T : Tx K mg) : ∃ fd, FunD K "__init__" "Both.__init__" (defArgs s_Both_init) (defBody s_Both_init) (defScope s_Both_init) [] [] (He.fAd K ("Both", some "__init__")) fd := T.fun_ 32 (d := d_Both_init) rfl
theorem F_Both_holds (T : Tx K mg) : ∃ fd, FunD K "holds" "Both.holds" (defArgs s_Both_holds) (defBody s_Both_holds) (defScope s_Both_holds) [] [] (He.fAd K ("Both", some "holds")) fd := T.fun_ 33 (d := d_Both_holds) rfl
theorem F_Either_init (T : Tx K mg) : ∃ fd, FunD K "__init__" "Either.__init__" (defArgs s_Either_init) (defBody s_Either_init) (defScope s_Either_init) [] [] (He.fAd K ("Either", some "__init__")) fd := T.fun_ 34 (d := d_Either_init) rfl
theorem F_Either_holds (T : Tx K mg) : ∃ fd, FunD K "holds" "Either.holds" (defArgs s_Either_holds) (defBody s_Either_holds) (defScope s_Either_holds) [] [] (He.fAd K ("Either", some "holds")) fd := T.fun_ 35 (d := d_Either_holds) rfl
theorem F_Inverse_init (T : Tx K mg) : ∃ fd, FunD K "__init__" "Inverse.__init__" (defArgs s_Inverse_init) (defBody s_Inverse_init) (defScope s_Inverse_init) [] [] (He.fAd K ("Inverse", some "__init__")) fd := T.fun_ 36 (d := d_Inverse_init) rfl
theorem F_Inverse_holds (T : Tx K mg) : ∃ fd, FunD K "holds" "Inverse.holds" (defArgs s_Inverse_holds) (defBody s_Inverse_holds) (defScope s_Inverse_holds) [] [] (He.fAd K ("Inverse", some "holds")) fd := T.fun_ 37 (d := d_Inverse_holds) rfl
theorem F_Kind_init (T : Tx K mg) : ∃ fd, FunD K "__init__" "Kind.__init__" (defArgs s_Kind_init) (defBody s_Kind_init) (defScope s_Kind_init) [] [] (He.fAd K ("Kind", some "__init__")) fd := T.fun_ 38 (d := d_Kind_init) rfl
theorem F_Kind_holds (T : Tx K mg) : ∃ fd, FunD K "holds" "Kind.holds" (defArgs s_Kind_holds) (defBody s_Kind_holds) (defScope s_Kind_holds) [] [] (He.fAd K ("Kind", some "holds")) fd := T.fun_ 39 (d := d_Kind_holds) rfl
theorem F_Equals_init (T : Tx K mg) : ∃ fd, FunD K "__init__" "Equals.__init__" (defArgs s_Equals_init) (defBody s_Equals_init) (defScope s_Equals_init) [] [] (He.fAd K ("Equals", some "__init__")) fd := T.fun_ 40 (d := d_Equals_init) rfl
theorem F_Equals_holds (T : Tx K mg) : ∃ fd, FunD K "holds" "Equals.holds" (defArgs s_Equals_holds) (defBody s_Equals_holds) (defScope s_Equals_holds) [] [] (He.fAd K ("Equals", some "holds")) fd := T.fun_ 41 (d := d_Equals_holds) rfl
theorem F_Size_init (T : Tx K mg) : ∃ fd, FunD K "__init__" "Size.__init__" (defArgs s_Size_init) (defBody s_Size_init) (defScope s_Size_init) [] [] (He.fAd K ("Size", some "__init__")) fd := T.fun_ 42 (d := d_Size_init) rfl
theorem F_Size_holds (T : Tx K mg) : ∃ fd, FunD K "holds" "Size.holds" (defArgs s_Size_holds) (defBody s_Size_holds) (defScope s_Size_holds) [] [] (He.fAd K ("Size", some "holds")) fd := T.fun_ 43 (d := d_Size_holds) rfl
theorem F_Has_init (T : Tx K mg) : ∃ fd, FunD K "__init__" "Has.__init__" (defArgs s_Has_init) (defBody s_Has_init) (defScope s_Has_init) [] [] (He.fAd K ("Has", some "__init__")) fd := T.fun_ 44 (d := d_Has_init) rfl
theorem F_Has_holds (T : Tx K mg) : ∃ fd, FunD K "holds" "Has.holds" (defArgs s_Has_holds) (defBody s_Has_holds) (defScope s_Has_holds) [] [] (He.fAd K ("Has", some "holds")) fd := T.fun_ 45 (d := d_Has_holds) rfl
theorem F_Item_init (T : Tx K mg) : ∃ fd, FunD K "__init__" "Item.__init__" (defArgs s_Item_init) (defBody s_Item_init) (defScope s_Item_init) [] [] (He.fAd K ("Item", some "__init__")) fd := T.fun_ 46 (d := d_Item_init) rfl
theorem F_Item_holds (T : Tx K mg) : ∃ fd, FunD K "holds" "Item.holds" (defArgs s_Item_holds) (defBody s_Item_holds) (defScope s_Item_holds) [] [] (He.fAd K ("Item", some "holds")) fd := T.fun_ 47 (d := d_Item_holds) rfl
theorem F_Before_init (T : Tx K mg) : ∃ fd, FunD K "__init__" "Before.__init__" (defArgs s_Before_init) (defBody s_Before_init) (defScope s_Before_init) [] [] (He.fAd K ("Before", some "__init__")) fd := T.fun_ 48 (d := d_Before_init) rfl
theorem F_Before_holds (T : Tx K mg) : ∃ fd, FunD K "holds" "Before.holds" (defArgs s_Before_holds) (defBody s_Before_holds) (defScope s_Before_holds) [] [] (He.fAd K ("Before", some "holds")) fd := T.fun_ 49 (d := d_Before_holds) rfl
theorem F_First_init (T : Tx K mg) : ∃ fd, FunD K "__init__" "First.__init__" (defArgs s_First_init) (defBody s_First_init) (defScope s_First_init) [] [] (He.fAd K ("First", some "__init__")) fd := T.fun_ 50 (d := d_First_init) rfl
theorem F_First_holds (T : Tx K mg) : ∃ fd, FunD K "holds" "First.holds" (defArgs s_First_holds) (defBody s_First_holds) (defScope s_First_holds) [] [] (He.fAd K ("First", some "holds")) fd := T.fun_ 51 (d := d_First_holds) rfl
theorem F_Every_init (T : Tx K mg) : ∃ fd, FunD K "__init__" "Every.__init__" (defArgs s_Every_init) (defBody s_Every_init) (defScope s_Every_init) [] [] (He.fAd K ("Every", some "__init__")) fd := T.fun_ 52 (d := d_Every_init) rfl
theorem F_Every_holds (T : Tx K mg) : ∃ fd, FunD K "holds" "Every.holds" (defArgs s_Every_holds) (defBody s_Every_holds) (defScope s_Every_holds) [] [] (He.fAd K ("Every", some "holds")) fd := T.fun_ 53 (d := d_Every_holds) rfl
theorem F_Some_init (T : Tx K mg) : ∃ fd, FunD K "__init__" "Some.__init__" (defArgs s_Some_init) (defBody s_Some_init) (defScope s_Some_init) [] [] (He.fAd K ("Some", some "__init__")) fd := T.fun_ 54 (d := d_Some_init) rfl
theorem F_Some_holds (T : Tx K mg) : ∃ fd, FunD K "holds" "Some.holds" (defArgs s_Some_holds) (defBody s_Some_holds) (defScope s_Some_holds) [] [] (He.fAd K ("Some", some "holds")) fd := T.fun_ 55 (d := d_Some_holds) rfl
theorem F_Both_leaves (T : Tx K mg) : ∃ fd, FunD K "leaves" "Both.leaves" (defArgs s_Both_leaves) (defBody s_Both_leaves) (defScope s_Both_leaves) [] [] (He.fAd K ("Both", some "leaves")) fd := T.fun_ 56 (d := d_Both_leaves) rfl
theorem F_Either_leaves (T : Tx K mg) : ∃ fd, FunD K "leaves" "Either.leaves" (defArgs s_Either_leaves) (defBody s_Either_leaves) (defScope s_Either_leaves) [] [] (He.fAd K ("Either", some "leaves")) fd := T.fun_ 57 (d := d_Either_leaves) rfl
theorem F_Inverse_leaves (T : Tx K mg) : ∃ fd, FunD K "leaves" "Inverse.leaves" (defArgs s_Inverse_leaves) (defBody s_Inverse_leaves) (defScope s_Inverse_leaves) [] [] (He.fAd K ("Inverse", some "leaves")) fd := T.fun_ 58 (d := d_Inverse_leaves) rfl
theorem F_Item_own_labels (T : Tx K mg) : ∃ fd, FunD K "own_labels" "Item.own_labels" (defArgs s_Item_own_labels) (defBody s_Item_own_labels) (defScope s_Item_own_labels) [] [] (He.fAd K ("Item", some "own_labels")) fd := T.fun_ 59 (d := d_Item_own_labels) rfl
theorem F_First_own_labels (T : Tx K mg) : ∃ fd, FunD K "own_labels" "First.own_labels" (defArgs s_First_own_labels) (defBody s_First_own_labels) (defScope s_First_own_labels) [] [] (He.fAd K ("First", some "own_labels")) fd := T.fun_ 60 (d := d_First_own_labels) rfl
theorem F_Every_own_labels (T : Tx K mg) : ∃ fd, FunD K "own_labels" "Every.own_labels" (defArgs s_Every_own_labels) (defBody s_Every_own_labels) (defScope s_Every_own_labels) [] [] (He.fAd K ("Every", some "own_labels")) fd := T.fun_ 61 (d := d_Every_own_labels) rfl
theorem F_Some_own_labels (T : Tx K mg) : ∃ fd, FunD K "own_labels" "Some.own_labels" (defArgs s_Some_own_labels) (defBody s_Some_own_labels) (defScope s_Some_own_labels) [] [] (He.fAd K ("Some", some "own_labels")) fd := T.fun_ 62 (d := d_Some_own_labels) rfl
theorem F_Table_init (T : Tx K mg) : ∃ fd, FunD K "__init__" "Table.__init__" (defArgs s_Table_init) (defBody s_Table_init) (defScope s_Table_init) (d_Table_init.dvs K) [] (He.fAd K ("Table", some "__init__")) fd := T.fun_ 63 (d := d_Table_init) rfl
theorem F_Labels_init (T : Tx K mg) : ∃ fd, FunD K "__init__" "Labels.__init__" (defArgs s_Labels_init) (defBody s_Labels_init) (defScope s_Labels_init) [] [] (He.fAd K ("Labels", some "__init__")) fd := T.fun_ 64 (d := d_Labels_init) rfl
theorem F_Labels_call (T : Tx K mg) : ∃ fd, FunD K "__call__" "Labels.__call__" (defArgs s_Labels_call) (defBody s_Labels_call) (defScope s_Labels_call) [] [] (He.fAd K ("Labels", some "__call__")) fd := T.fun_ 65 (d := d_Labels_call) rfl
theorem F_Labels_seen (T : Tx K mg) : ∃ fd, FunD K "seen" "Labels.seen" (defArgs s_Labels_seen) (defBody s_Labels_seen) (defScope s_Labels_seen) [] [] (He.fAd K ("Labels", some "seen")) fd := T.fun_ 66 (d := d_Labels_seen) rfl
theorem F_Labels_label_of (T : Tx K mg) : ∃ fd, FunD K "label_of" "Labels.label_of" (defArgs s_Labels_label_of) (defBody s_Labels_label_of) (defScope s_Labels_label_of) [] [] (He.fAd K ("Labels", some "label_of")) fd := T.fun_ 67 (d := d_Labels_label_of) rfl
theorem F_Labels_fits (T : Tx K mg) : ∃ fd, FunD K "fits" "Labels.fits" (defArgs s_Labels_fits) (defBody s_Labels_fits) (defScope s_Labels_fits) [] [] (He.fAd K ("Labels", some "fits")) fd := T.fun_ 68 (d := d_Labels_fits) rfl
theorem F_Labels_look (T : Tx K mg) : ∃ fd, FunD K "look" "Labels.look" (defArgs s_Labels_look) (defBody s_Labels_look) (defScope s_Labels_look) [] [] (He.fAd K ("Labels", some "look")) fd := T.fun_ 69 (d := d_Labels_look) rfl
end
section
variable {P : Program} {w : World} {K : PySem.W.Frag} {mg : PySem.Str → Option Value} {base : Heap}
/-! ### a draw -/
theorem draw_hi {a b c : Int} : (a * b + c) % 2147483647 < 2 ^ 40 := Int.lt_trans (Int.emod_lt_of_pos _ (by decide)) (by decide)
def spDraw : Sp := fun vs H Q _ => ∃ (d : Addr) (m : Int), vs = [.ref d, .int m] ∧ DrAt H d ∧ 0 < m ∧ m < 2 ^ 200 ∧ ∀ (r : Int) (H' : Hp), 0 ≤ r → r < m → Sm d H H' → DrAt H' d → Q (.int r) H'
theorem scDraw : FnScope ["_law_draws_here", "_law_many", "_law_digit"] ["_law_draws_here", "_law_many"] (defScope s_Ldraw) := ⟨rfl, rfl, rfl, by decide +kernel, rfl, by decide +kernel, by decide +kernel⟩
theorem atI3 {x y z : V} : atI [x, y, z] 0 = some x ∧ atI [x, y, z] 1 = some y ∧ atI [x, y, z] 2 = some z := ⟨rfl, rfl, rfl⟩
theorem atI_pos {α : Type} {xs : List α} {r : Int} (h0 : 0 ≤ r) (hi : r.toNat < xs.length) : atI xs r = some xs[r.toNat] := by
  have e : ((r.toNat : Nat) : Int) = r := by omega
  have z : atI xs ((r.toNat : Nat) : Int) = some xs[r.toNat] := atI_nat (List.getElem?_eq_getElem hi)
  rw [e] at z
  exact z
theorem dr_ix {H : Hp} {d : Addr} {g a b : Int} (h : H d = some (.lst [.int g, .int a, .int b])) : SqL K H d [.int g, .int a, .int b] := SqL.of h
theorem ok_draw (T : Tx K mg) : FnR P w K mg base CX0 1 (He.ga K "_law_draw") spDraw := by
  obtain ⟨fd, F⟩ := F_Ldraw T
  refine okR F scDraw (fun _ _ _ _ _ _ us hl => match us, hl with | [_, _], _ => rfl) (fun vs H Q E h => ?_) fun cdv A outer s H vs Q E hr h => ?_
  · obtain ⟨d, m, rfl, _⟩ := h
    rfl
  obtain ⟨d, m, rfl, ⟨g, a, b, hd, h0, a0, a1, b0, b1⟩, hm, hm2, q⟩ := h
  have ti := T.free "int"
  refine ⟨_, pss_cons (ps_if (pt_cmpR op_gt (pe_ix ix_list (pv 0) pe_int (fun _ _ => rfl)) pe_int (nomark _))
      (pss_cons (ps_set (i := 2) scDraw.nd rfl (.inl rfl) (pe_op op_mod (pe_callTy call_int1 rfl ti boot_int (pa_cons (pe_ix ix_list (pv 0) pe_int (fun _ _ => rfl)) pa_nil)) (pv 1)))
      (pss_cons (ps_asg (pe_op op_fdivW (pe_ix ix_list (pv 0) pe_int (fun _ _ => rfl)) (pv 1)) (pg_sub (pv 0) pe_int set_list))
      (pss_one (ps_ret (pv 2))))) pss_nil)
    (pss_cons (ps_asg (pe_op op_mod (pe_callTy call_int1 rfl ti boot_int (pa_cons (pe_op op_add (pe_op op_mul (pe_ix ix_list (pv 0) pe_int (fun _ _ => rfl)) pe_int) pe_int) pa_nil)) pe_int) (pg_sub (pv 0) pe_int set_list))
    (pss_cons (ps_asg (pe_op op_mod (pe_callTy call_int1 rfl ti boot_int (pa_cons (pe_op op_add (pe_op op_mul (pe_ix ix_list (pv 0) pe_int (fun _ _ => rfl)) pe_int) pe_int) pa_nil)) pe_int) (pg_sub (pv 0) pe_int set_list))
    (pss_one (ps_ret (pe_op op_mod (pe_op op_fdiv (pe_op op_mod (pe_callTy call_int1 rfl ti boot_int (pa_cons (pe_op op_add (pe_op op_mul (pe_ix ix_list (pv 0) pe_int (fun _ _ => rfl)) pe_int) (pe_op op_fdiv (pe_ix ix_list (pv 0) pe_int (fun _ _ => rfl)) pe_int)) pa_nil)) pe_int) pe_int) (pv 1)))))), ?_⟩
  refine ⟨_, rfl, d, _, _, _, rfl, rfl, dr_ix hd, atI3.1, _, _, rfl, rfl, _, rfl, ?_⟩
  refine ite2 (fun _ => ?_) (fun _ => ?_)
  · refine ⟨_, rfl, d, _, _, _, rfl, rfl, dr_ix hd, atI3.1, .inl ⟨_, rfl, _, rfl, _, _, rfl, rfl, hm, ?_⟩⟩
    have w0 : CDivW g m := wide_div hm (b := 200) (by omega) (by decide) (by decide)
    refine ⟨_, rfl, d, _, _, _, rfl, rfl, dr_ix hd, atI3.1, _, rfl, _, _, rfl, rfl, w0, _, rfl, d, _, _, _, rfl, rfl, hd, rfl, _, rfl, ?_⟩
    exact q _ _ (Int.emod_nonneg _ (by omega)) (Int.emod_lt_of_pos _ hm) sm_upd ⟨_, _, _, upd_same, Int.ediv_nonneg h0 (by omega), a0, a1, b0, b1⟩
  · have lo : -(2 ^ 64) < a ∧ a < 2 ^ 64 := ⟨by omega, by omega⟩
    have lo2 : -(2 ^ 64) < b ∧ b < 2 ^ 64 := ⟨by omega, by omega⟩
    refine ⟨_, rfl, d, _, _, _, rfl, rfl, dr_ix hd, atI3.2.1, _, _, rfl, rfl, .inl lo, _, _, rfl, rfl, .inl ⟨_, rfl, _, _, rfl, rfl, (by show (0 : Int) < 2147483647; decide), ?_⟩⟩
    refine ⟨_, rfl, d, _, _, _, rfl, rfl, hd, rfl, ?_⟩
    have p1 : (a * 48271 + 11) % 2147483647 < 2147483647 := Int.emod_lt_of_pos _ (by decide)
    have p0 : 0 ≤ (a * 48271 + 11) % 2147483647 := Int.emod_nonneg _ (by decide)
    have hd2 : upd H d (.lst [.int g, .int ((a * 48271 + 11) % 2147483647), .int b]) d = some (.lst [.int g, .int ((a * 48271 + 11) % 2147483647), .int b]) := upd_same
    refine ⟨_, rfl, d, _, _, _, rfl, rfl, dr_ix hd2, atI3.2.2, _, _, rfl, rfl, .inl lo2, _, _, rfl, rfl, .inl ⟨_, rfl, _, _, rfl, rfl, (by show (0 : Int) < 2147483399; decide), ?_⟩⟩
    refine ⟨_, rfl, d, _, _, _, rfl, rfl, hd2, rfl, ?_⟩
    have r1 : (b * 40692 + 29) % 2147483399 < 2147483399 := Int.emod_lt_of_pos _ (by decide)
    have r0 : 0 ≤ (b * 40692 + 29) % 2147483399 := Int.emod_nonneg _ (by decide)
    have hd3 : upd (upd H d (.lst [.int g, .int ((a * 48271 + 11) % 2147483647), .int b])) d (.lst [.int g, .int ((a * 48271 + 11) % 2147483647), .int ((b * 40692 + 29) % 2147483399)]) d = some (.lst [.int g, .int ((a * 48271 + 11) % 2147483647), .int ((b * 40692 + 29) % 2147483399)]) := upd_same
    have lo3 : -(2 ^ 64) < (a * 48271 + 11) % 2147483647 ∧ (a * 48271 + 11) % 2147483647 < 2 ^ 64 := ⟨by omega, by omega⟩
    have lo4 : CDiv ((b * 40692 + 29) % 2147483399) 3 := ⟨by decide, by decide⟩
    refine ⟨_, rfl, d, _, _, _, rfl, rfl, dr_ix hd3, atI3.2.1, _, _, rfl, rfl, .inl lo3, _, rfl, d, _, _, _, rfl, rfl, dr_ix hd3, atI3.2.2, _, _, rfl, rfl, lo4, _, _, rfl, rfl, .inl ⟨_, rfl, _, _, rfl, rfl, (by show (0 : Int) < 2147483587; decide),
      _, _, rfl, rfl, ⟨by decide, by decide⟩, _, rfl, _, _, rfl, rfl, hm, ?_⟩⟩
    refine q _ _ (Int.emod_nonneg _ (by omega)) (Int.emod_lt_of_pos _ hm) ?_ ?_
    · exact Same.trans sm_upd sm_upd
    · exact ⟨g, _, _, hd3, h0, p0, by omega, r0, by omega⟩
/-! ### one of some things -/
/-- what may be drawn from: a list, a text; its length; the draw's outcome -/
def Pick (K : PySem.W.Frag) (H : Hp) (t : V) (G : V → Prop) : Prop := (∃ (a : Addr) (xs : List V), t = .ref a ∧ SqL K H a xs ∧ 0 < xs.length ∧ xs.length ≤ 1000 ∧ ∀ x ∈ xs, G x) ∨
  ∃ z : PySem.Str, t = .str z ∧ 0 < z.length ∧ z.length ≤ 1000 ∧ ∀ c ∈ z.cps.toList, G (.str ⟨#[c]⟩)
def spSome (K : PySem.W.Frag) : Sp := fun vs H Q _ => ∃ (d : Addr) (t : V) (G : V → Prop), vs = [.ref d, t] ∧ DrAt H d ∧ Pick K (Wo d H) t G ∧ ∀ (x : V) (H' : Hp), G x → Sm d H H' → DrAt H' d → Q x H'
theorem scSome : FnScope ["_law_draws_here", "_law_things"] ["_law_draws_here", "_law_things"] (defScope s_Lsome) := ⟨rfl, rfl, rfl, by decide +kernel, rfl, by decide +kernel, by decide +kernel⟩
theorem ok_some (T : Tx K mg) : FnR P w K mg base CX0 2 (He.ga K "_law_some") (spSome K) := by
  obtain ⟨fd, F⟩ := F_Lsome T
  have GD : Cl P w K mg base 1 "_law_draw" spDraw := ⟨T.glo _, (let ⟨_, F⟩ := F_Ldraw T; F.kp), ok_draw T⟩
  refine okR F scSome (fun _ _ _ _ _ _ us hl => match us, hl with | [_, _], _ => rfl) (fun vs H Q E h => ?_) fun cdv A outer s H vs Q E hr h => ?_
  · obtain ⟨d, t, G, rfl, _⟩ := h
    rfl
  obtain ⟨d, t, G, rfl, D, hp, q⟩ := h
  refine ⟨_, pss_one (ps_ret (pe_ix ix_seq (pv 1) (pe_f GD hr (pa_cons (pv 0) (pa_cons (pe_callB call_len rfl (T.free "len") boot_len (pa_cons (pv 1) pa_nil)) pa_nil))) (fun _ _ => rfl))), ?_⟩
  rcases hp with ⟨a, xs, rfl, hs, h0, h1, hG⟩ | ⟨z, rfl, h0, h1, hG⟩
  · refine ⟨_, rfl, _, rfl, _, rfl, _, xs.length, rfl, .inl ⟨_, seq_mono wo_sub hs, rfl⟩, d, _, rfl, D, by omega, by omega, fun r H' r0 r1 S D' => ?_⟩
    have hi : r.toNat < xs.length := by omega
    exact .inl ⟨a, xs, r, xs[r.toNat], rfl, rfl, seq_mono wo_sub (seq_mono S hs), atI_pos r0 hi, q _ _ (hG _ (List.getElem_mem hi)) S D'⟩
  · refine ⟨_, rfl, _, rfl, _, rfl, _, z.length, rfl, ⟨by rw [sizeLine_eq]; omega, rfl⟩, d, _, rfl, D, by omega, by omega, fun r H' r0 r1 S D' => ?_⟩
    have hi : r.toNat < z.cps.toList.length := by
      rw [Array.length_toList]
      have : z.length = z.cps.size := rfl
      omega
    exact .inr (.inr ⟨z, r, z.cps.toList[r.toNat], rfl, rfl, by rw [sizeLine_eq]; omega, atI_pos r0 hi, q _ _ (hG _ (List.getElem_mem hi)) S D'⟩)
end
section
variable {P : Program} {w : World} {K : PySem.W.Frag} {mg : PySem.Str → Option Value} {base : Heap}
theorem cl_draw (T : Tx K mg) : Cl P w K mg base 1 "_law_draw" spDraw := ⟨T.glo _, (let ⟨_, F⟩ := F_Ldraw T; F.kp), ok_draw T⟩
theorem cl_some (T : Tx K mg) : Cl P w K mg base 2 "_law_some" (spSome K) := ⟨T.glo _, (let ⟨_, F⟩ := F_Lsome T; F.kp), ok_some T⟩
theorem str_add_len (x y : PySem.Str) : (x ++ y).length = x.length + y.length := Array.size_append
/-! ### a text -/
def spText : Sp := fun vs H Q _ => ∃ d : Addr, vs = [.ref d] ∧ DrAt H d ∧ ∀ (z : PySem.Str) (H' : Hp), z.length ≤ 280 → Sm d H H' → DrAt H' d → Q (.str z) H'
theorem scText : FnScope ["_law_draws_here", "_law_signs", "_law_found", "_law_turn"] ["_law_draws_here"] (defScope s_Ltext) := ⟨rfl, rfl, rfl, by decide +kernel, rfl, by decide +kernel, by decide +kernel⟩
abbrev signsT : PySem.Str := " !\"#$&'()*+,-./0123456789:;<=>?@ABCDEFGHIJKLMNOPQRSTUVWXYZ[\\]^_`abcdefghijklmnopqrstuvwxyz{|}~"
theorem ok_text (T : Tx K mg) : FnR P w K mg base CX0 3 (He.ga K "_law_text") spText := by
  obtain ⟨fd, F⟩ := F_Ltext T
  refine okR F scText (fun _ _ _ _ _ _ us hl => match us, hl with | [_], _ => rfl) (fun vs H Q E h => ?_) fun cdv A outer s H vs Q E hr h => ?_
  · obtain ⟨d, rfl, _⟩ := h
    rfl
  obtain ⟨d, rfl, D, q⟩ := h
  have hr1 : Room 1 _ := hr.mono (by decide)
  have GD := cl_draw (P := P) (w := w) (base := base) T
  have GS := cl_some (P := P) (w := w) (base := base) T
  refine ⟨_, pss_cons (ps_set (i := 1) scText.nd rfl (.inl rfl) pe_str) (pss_cons (ps_set (i := 2) scText.nd rfl (.inl rfl) pe_str)
    (pss_cons (ps_for PassesOwn.never rfl (pi_range1 (by rfl) (T.free "range") (pa_cons (pe_f GD hr1 (pa_cons (pv 0) (pa_cons pe_int pa_nil))) pa_nil)) (pg_name (i := 3) scText.nd rfl (.inl rfl))
      (pss_one (ps_set (i := 2) scText.nd rfl (.inl rfl) (pe_op op_add_str (pv 2) (pe_f GS hr (pa_cons (pv 0) (pa_cons (pv 1) pa_nil)))))))
    (pss_one (ps_ret (pe_ifExp (pt_cmpR op_eq (pe_f GD hr1 (pa_cons (pv 0) (pa_cons pe_int pa_nil))) pe_int (nomark _)) (pe_op op_mul_str (pv 2) pe_int) (pv 2)))))), ?_⟩
  refine ⟨_, rfl, d, 8, rfl, D, by decide, by decide, fun r H1 r0 r1 S1 D1 => ⟨_, rfl, by omega, by omega, ?_⟩⟩
  refine for_range (lo := 0) (n := r.toNat) (fun i σ H2 => ∃ (z : PySem.Str) (v : Option V), σ = [some (.ref d), some (.str signsT), some (.str z), v] ∧ z.length ≤ i ∧ Sm d H H2 ∧ DrAt H2 d) ⟨_, none, rfl, Nat.le_refl _, S1, D1⟩ ?_ ?_
  · rintro i σ H2 hi ⟨z, v, rfl, hz, S2, D2⟩
    refine ⟨_, rfl, _, rfl, _, rfl, d, .str signsT, fun x => ∃ c : Nat, x = .str ⟨#[c]⟩, rfl, D2, .inr ⟨signsT, rfl, by decide +kernel, by decide +kernel, fun c _ => ⟨c, rfl⟩⟩, ?_⟩
    rintro x H3 ⟨c, rfl⟩ S3 D3
    have hl : (z ++ (⟨#[c]⟩ : PySem.Str)).length = z.length + 1 := str_add_len z ⟨#[c]⟩
    refine ⟨_, _, rfl, rfl, ?_, _, some (.int (0 + i)), rfl, by rw [hl]; omega, S2.trans S3, D3⟩
    show z.length + 1 ≤ sizeLine
    rw [sizeLine_eq]
    omega
  · rintro σ H2 ⟨z, v, rfl, hz, S2, D2⟩
    have hz8 : z.length ≤ 7 := by omega
    refine ⟨_, rfl, d, 9, rfl, D2, by decide, by decide, fun r2 H3 _ _ S3 D3 => ⟨rfl, _, rfl, ?_⟩⟩
    refine ite2 (fun _ => ?_) (fun _ => ?_)
    · refine ⟨_, rfl, z, 40, rfl, rfl, by decide, by decide, by omega, fun z' hz' => ?_⟩
      exact q z' _ (by omega) (S2.trans S3) D3
    · exact ⟨_, rfl, q z _ (by omega) (S2.trans S3) D3⟩
/-! ### an integer -/
def spInteger : Sp := fun vs H Q _ => ∃ d : Addr, vs = [.ref d] ∧ DrAt H d ∧ ∀ (n : Int) (H' : Hp), -(10 ^ 30) < n → n < 10 ^ 30 → Sm d H H' → DrAt H' d → Q (.int n) H'
theorem scInteger : FnScope ["_law_draws_here", "_law_size", "_law_number"] ["_law_draws_here"] (defScope s_Linteger) := ⟨rfl, rfl, rfl, by decide +kernel, rfl, by decide +kernel, by decide +kernel⟩
theorem ok_integer (T : Tx K mg) : FnR P w K mg base CX0 3 (He.ga K "_law_integer") spInteger := by
  obtain ⟨fd, F⟩ := F_Linteger T
  refine okR F scInteger (fun _ _ _ _ _ _ us hl => match us, hl with | [_], _ => rfl) (fun vs H Q E h => ?_) fun cdv A outer s H vs Q E hr h => ?_
  · obtain ⟨d, rfl, _⟩ := h
    rfl
  obtain ⟨d, rfl, D, q⟩ := h
  have hr1 : Room 1 _ := hr.mono (by decide)
  have GD := cl_draw (P := P) (w := w) (base := base) T
  have GS := cl_some (P := P) (w := w) (base := base) T
  refine ⟨_, pss_cons (ps_set (i := 1) scInteger.nd rfl (.inl rfl) (pe_f GS hr (pa_cons (pv 0) (pa_cons (pe_lst (pa_cons pe_int (pa_cons pe_int (pa_cons pe_int (pa_cons (pe_op op_pow pe_int pe_int) (pa_cons (pe_op op_add (pe_op op_pow pe_int pe_int) pe_int)
        (pa_cons (pe_op op_pow pe_int pe_int) (pa_cons (pe_op op_pow pe_int pe_int) pa_nil)))))))) pa_nil))))
    (pss_cons (ps_set (i := 2) scInteger.nd rfl (.inl rfl) (pe_ifExp (pt_cmpR op_eq (pe_f GD hr1 (pa_cons (pv 0) (pa_cons pe_int pa_nil))) pe_int (nomark _)) (pe_op op_sub (pv 1) pe_int) (pe_f GD hr1 (pa_cons (pv 0) (pa_cons (pv 1) pa_nil)))))
    (pss_one (ps_ret (pe_ifExp (pt_cmpR op_eq (pe_f GD hr1 (pa_cons (pv 0) (pa_cons pe_int pa_nil))) pe_int (nomark _)) (pe_un un_neg (pv 2)) (pv 2))))), ?_⟩
  refine ⟨_, rfl, _, _, rfl, rfl, ⟨by decide, by decide, by decide⟩, _, _, rfl, rfl, ⟨by decide, by decide, by decide⟩, _, _, rfl, rfl, _, _, rfl, rfl, ⟨by decide, by decide, by decide⟩, _, _, rfl, rfl, ⟨by decide, by decide, by decide⟩, (by show 7 ≤ sizeLine; decide), fun p hp => ?_⟩
  have S0 := same_new hp (.lst [.int 5, .int 10, .int 100, .int (10 ^ 15), .int (10 ^ 15 + 1), .int (10 ^ 16), .int (10 ^ 30)])
  refine ⟨d, _, fun x => ∃ n : Int, x = .int n ∧ 1 ≤ n ∧ n ≤ 10 ^ 30, rfl, D.mono S0, .inl ⟨p, [.int 5, .int 10, .int 100, .int (10 ^ 15), .int (10 ^ 15 + 1), .int (10 ^ 16), .int (10 ^ 30)], rfl, SqL.of ((wo_ne (D.ne hp)).trans upd_same), by decide, by decide, fun x hx => ?_⟩, ?_⟩
  · simp only [List.mem_cons, List.not_mem_nil, or_false] at hx
    rcases hx with rfl | rfl | rfl | rfl | rfl | rfl | rfl <;> exact ⟨_, rfl, by decide, by decide⟩
  rintro x H1 ⟨n, rfl, n1, n2⟩ S1 D1
  have S2 : Sm d H H1 := (Sm.of S0).trans S1
  refine ⟨_, rfl, d, 4, rfl, D1, by decide, by decide, fun r H2 _ _ S3 D3 => ⟨rfl, _, rfl, ?_⟩⟩
  have fin : ∀ (m : Int) (H3 : Hp), 0 ≤ m → m < 10 ^ 30 → Sm d H H3 → DrAt H3 d → tIf (tTest (tOp rEq (tCl spDraw (tCons (tVar 0) (tCons (tC (.int 3)) tNil))) (tC (.int 2)))) (tUn (rU fun i => .int (-i)) (tVar 2)) (tVar 2) [some (.ref d), some (.int n), some (.int m)] H3 Q := by
    intro m H3 m0 m1 S4 D4
    refine ⟨_, rfl, d, 3, rfl, D4, by decide, by decide, fun r2 H4 _ _ S5 D5 => ⟨rfl, _, rfl, ?_⟩⟩
    refine ite2 (fun _ => ?_) (fun _ => ?_)
    · exact ⟨_, rfl, m, rfl, q _ _ (by omega) (by omega) (S4.trans S5) D5⟩
    · exact ⟨_, rfl, q _ _ (by omega) (by omega) (S4.trans S5) D5⟩
  refine ite2 (fun _ => ?_) (fun _ => ?_)
  · exact ⟨_, rfl, _, _, rfl, rfl, fin _ _ (by omega) (by omega) (S2.trans S3) D3⟩
  · refine ⟨_, rfl, _, rfl, d, n, rfl, D3, by omega, by omega, fun r2 H3 r0 r1 S4 D4 => ?_⟩
    exact fin _ _ r0 (by omega) ((S2.trans S3).trans S4) D4
end
/-! ### keys -/
def KOk : L2.Key → Prop
  | .inl n => -(10 ^ 30) < n ∧ n < 10 ^ 30
  | .inr z => z.length ≤ 2000
theorem sm_set {d l : Addr} {H H2 : Hp} {o : HO} (S : Sm d H H2) (h : H l = none) : Sm d H (upd H2 l o) := fun b u e => by
  have e2 := S b u e
  by_cases q : b = d
  · rw [q, wo_eq] at e
    cases e
  · rw [wo_ne q] at e e2 ⊢
    rw [upd_ne (ne_of_none e h)]
    exact e2
theorem DrAt.set {d l : Addr} {H : Hp} {o : HO} (D : DrAt H d) (h : l ≠ d) : DrAt (upd H l o) d := by
  obtain ⟨g, a, b, e, r⟩ := D
  exact ⟨g, a, b, (upd_ne h.symm).trans e, r⟩
theorem Sm.none {d l : Addr} {H H2 : Hp} (S : Sm d H H2) (h : H2 l = Option.none) (ne : l ≠ d) : H l = Option.none := by
  cases e : H l with
  | none => rfl
  | some o =>
    rw [S.at e ne] at h
    cases h
theorem flat_kV (k : L2.Key) : flatV (kV k) = true := by cases k <;> rfl
theorem flat_kVs : ∀ ks : List L2.Key, (ks.map kV).all flatV = true
  | [] => rfl
  | k :: ks => by rw [List.map_cons, List.all_cons, flat_kV, flat_kVs ks]; rfl
theorem eqV_kV (j k : L2.Key) : eqV (kV j) (kV k) = (j == k) := by
  cases j <;> cases k <;> rfl
theorem inV_kV (k : L2.Key) : ∀ ks : List L2.Key, inV (kV k) (ks.map kV) = decide (k ∈ ks)
  | [] => by
    symm
    exact decide_eq_false (by simp)
  | j :: ks => by
    have ih := inV_kV k ks
    unfold inV at ih ⊢
    rw [List.map_cons, List.any_cons, ih, eqV_kV]
    by_cases e : j = k
    · subst e
      simp
    · have e2 : ¬ k = j := fun z => e z.symm
      simp [e, e2]
theorem mem_cutV {xs : List V} {lo hi : Option Int} {x : V} (h : x ∈ cutV xs lo hi) : x ∈ xs := List.mem_of_mem_drop (List.mem_of_mem_take h)
theorem cut_hi (xs : List V) (n : Nat) : cutV xs none (some (n : Int)) = xs.take n := by
  unfold cutV
  rw [HT.sIx_none, show HT.sIx xs.length xs.length (some (n : Int)) = min n xs.length from HT.sIx_nat xs.length xs.length n, List.drop_zero, Nat.sub_zero]
  by_cases h : n ≤ xs.length
  · rw [Nat.min_eq_left h]
  · rw [Nat.min_eq_right (by omega), List.take_length, List.take_of_length_le (by omega)]
section
variable {P : Program} {w : World} {K : PySem.W.Frag} {mg : PySem.Str → Option Value} {base : Heap}
theorem cl_text (T : Tx K mg) : Cl P w K mg base 3 "_law_text" spText := ⟨T.glo _, (let ⟨_, F⟩ := F_Ltext T; F.kp), ok_text T⟩
theorem cl_integer (T : Tx K mg) : Cl P w K mg base 3 "_law_integer" spInteger := ⟨T.glo _, (let ⟨_, F⟩ := F_Linteger T; F.kp), ok_integer T⟩
/-- str of a key -/
def rStr : List V → Hp → VK → Prop := fun xs H Q => ∃ k : L2.Key, xs = [kV k] ∧ KOk k ∧ ∀ z : PySem.Str, z.length ≤ 2000 → (∀ y, k = .inr y → z = y) → Q (.str z) H
theorem call_strK {X : Cx} : CallR X (.type "str") rStr := by
  intro pins s σ H xs us Q I r h
  obtain ⟨k, rfl, ko, q⟩ := h
  refine (CallR.or call_str_int SkE.call_str_str) pins s σ H _ us Q I r ?_
  cases k with
  | inl n =>
    have hn : n.natAbs < 2 ^ 100 := by have := ko.1; have := ko.2; omega
    have hl : n.natAbs.log2 < 1920 := Nat.lt_of_lt_of_le (PySem.Flt.log2_lt_of (by decide) hn) (by decide)
    exact .inl ⟨n, rfl, hl, q _ (Nat.le_trans (int_text_len_1921 hl) (by decide)) fun y e => by cases e⟩
  | inr z => exact .inr ⟨z, rfl, q z ko fun y e => Sum.inr.inj e⟩
def spKeys : Sp := fun vs H Q _ => ∃ (d : Addr) (m : Int), vs = [.ref d, .int m] ∧ DrAt H d ∧ 0 ≤ m ∧ m ≤ 100 ∧ ∀ (ks : List L2.Key) (r : Addr) (H' : Hp), ks.Nodup → (∀ k ∈ ks, KOk k) → (ks.length : Int) ≤ m → H r = none → r ≠ d → Sm d H H' → DrAt H' d → H' r = some (.lst (ks.map kV)) → Q (.ref r) H'
theorem scKeys : FnScope ["_law_draws_here", "_law_many", "_law_found", "_law_turn", "_law_key", "_law_one"] ["_law_draws_here", "_law_many"] (defScope s_Lkeys) := ⟨rfl, rfl, rfl, by decide +kernel, rfl, by decide +kernel, by decide +kernel⟩
/-- the state of the loop: what was found -/
def KSt (d : Addr) (H : Hp) (l : Addr) (n : Nat) (H2 : Hp) : Prop := ∃ ks : List L2.Key, ks.Nodup ∧ (∀ k ∈ ks, KOk k) ∧ ks.length ≤ n ∧ H2 l = some (.lst (ks.map kV)) ∧ Sm d H H2 ∧ DrAt H2 d
theorem KSt.move {d l : Addr} {H H2 H3 : Hp} {n : Nat} (h : KSt d H l n H2) (ne : l ≠ d) (S : Sm d H2 H3) (D : DrAt H3 d) : KSt d H l n H3 := by
  obtain ⟨ks, a, b, c, e, S2, _⟩ := h
  exact ⟨ks, a, b, c, S.at e ne, S2.trans S, D⟩
theorem ok_keys (T : Tx K mg) : FnR P w K mg base CX0 4 (He.ga K "_law_keys") spKeys := by
  obtain ⟨fd, F⟩ := F_Lkeys T
  refine okR F scKeys (fun _ _ _ _ _ _ us hl => match us, hl with | [_, _], _ => rfl) (fun vs H Q E h => ?_) fun cdv A outer s H vs Q E hr h => ?_
  · obtain ⟨d, m, rfl, _⟩ := h
    rfl
  obtain ⟨d, m, rfl, D, m0, m1, q⟩ := h
  have hr1 : Room 1 _ := hr.mono (by decide)
  have GD := cl_draw (P := P) (w := w) (base := base) T
  have GT := cl_text (P := P) (w := w) (base := base) T
  have GI := cl_integer (P := P) (w := w) (base := base) T
  have ts := T.free "str"
  refine ⟨_, pss_cons (ps_set (i := 2) scKeys.nd rfl (.inl rfl) (pe_lst pa_nil))
    (pss_cons (ps_for PassesOwn.never rfl (pi_range1 (by rfl) (T.free "range") (pa_cons (pv 1) pa_nil)) (pg_name (i := 3) scKeys.nd rfl (.inl rfl))
      (C8.pss_cut (ps_set (i := 4) scKeys.nd rfl (.inl rfl) (pe_ifExp (pt_cmpR op_gt (pe_f GD hr1 (pa_cons (pv 0) (pa_cons pe_int pa_nil))) pe_int (nomark _)) (pe_f GI hr (pa_cons (pv 0) pa_nil)) (pe_f GT hr (pa_cons (pv 0) pa_nil))))
      (C8.pss_cut (ps_if (pt_cmpR op_eq (pe_f GD hr1 (pa_cons (pv 0) (pa_cons pe_int pa_nil))) pe_int (nomark _)) (pss_one (ps_set (i := 4) scKeys.nd rfl (.inl rfl) (pe_callTy call_strK rfl ts boot_str (pa_cons (pv 4) pa_nil)))) pss_nil)
      (pss_one (ps_for PassesOwn.never rfl (pi_list (pe_j (pe_ifExp (pt_cmpR op_eq (pe_f GD hr1 (pa_cons (pv 0) (pa_cons pe_int pa_nil))) pe_int (nomark _)) (pe_lst (pa_cons (pv 4) (pa_cons (pe_callTy call_strK rfl ts boot_str (pa_cons (pv 4) pa_nil)) pa_nil))) (pe_lst (pa_cons (pv 4) pa_nil))))) (pg_name (i := 5) scKeys.nd rfl (.inl rfl))
        (pss_one (ps_if (pt_cmpR op_notIn_seq (pv 5) (pv 2) rfl) (pss_one (ps_expr (pe_bm PySem.F.plainAttrs_list PySem.F.slot_list_append PySem.F.type_list_append mt_append (pv 2) (pa_cons (pv 5) pa_nil)))) pss_nil)))))))
    (pss_one (ps_ret (pe_slice sl_list (pv 2) po_none (po_some (pv 1)))))), ?_⟩
  refine ⟨Nat.zero_le _, fun l hl => ?_⟩
  have nld : l ≠ d := D.ne hl
  refine ⟨_, rfl, m, rfl, by omega, by omega, ?_⟩
  have start0 : KSt d H l (2 * 0) (upd H l (.lst [])) := ⟨[], List.nodup_nil, (fun k hk => by cases hk), Nat.le_refl _, upd_same, Sm.of (same_new hl _), D.set nld⟩
  refine for_range (lo := 0) (n := m.toNat) (fun i σ H2 => ∃ v3 v4 v5 : Option V, σ = [some (.ref d), some (.int m), some (.ref l), v3, v4, v5] ∧ KSt d H l (2 * i) H2) ⟨none, none, none, rfl, start0⟩ ?_ ?_
  · rintro i σ H2 hi ⟨v3, v4, v5, rfl, R⟩
    have D2 : DrAt H2 d := let ⟨_, _, _, _, _, _, z⟩ := R; z
    -- a key
    refine ⟨fun σ' H' => ∃ (k : L2.Key) (v5 : Option V), σ' = [some (.ref d), some (.int m), some (.ref l), some (.int (0 + i)), some (kV k), v5] ∧ KOk k ∧ KSt d H l (2 * i) H', ?_, ?_⟩
    · refine ⟨_, rfl, d, 3, rfl, D2, by decide, by decide, fun r H3 _ _ S3 D3 => ⟨_, _, rfl, rfl, _, rfl, ?_⟩⟩
      refine ite2 (fun _ => ?_) (fun _ => ?_)
      · exact ⟨_, rfl, d, rfl, D3, fun n H4 n0 n1 S4 D4 => ⟨.inl n, v5, rfl, ⟨n0, n1⟩, (R.move nld S3 D3).move nld S4 D4⟩⟩
      · exact ⟨_, rfl, d, rfl, D3, fun z H4 hz S4 D4 => ⟨.inr z, v5, rfl, Nat.le_trans hz (by decide), (R.move nld S3 D3).move nld S4 D4⟩⟩
    rintro σ' H3 ⟨k, v5, rfl, ko, R3⟩
    have D3 : DrAt H3 d := let ⟨_, _, _, _, _, _, z⟩ := R3; z
    refine ⟨fun σ' H' => ∃ (k : L2.Key) (v5 : Option V), σ' = [some (.ref d), some (.int m), some (.ref l), some (.int (0 + i)), some (kV k), v5] ∧ KOk k ∧ KSt d H l (2 * i) H', ?_, ?_⟩
    · refine ⟨_, rfl, d, 3, rfl, D3, by decide, by decide, fun r H4 _ _ S4 D4 => ⟨rfl, _, rfl, ?_⟩⟩
      refine ite2 (fun _ => ?_) (fun _ => ?_)
      · exact ⟨_, rfl, k, rfl, ko, fun z hz _ => ⟨.inr z, v5, rfl, hz, R3.move nld S4 D4⟩⟩
      · exact ⟨k, v5, rfl, ko, R3.move nld S4 D4⟩
    rintro σ' H4 ⟨k, v5, rfl, ko, R4⟩
    have D4 : DrAt H4 d := let ⟨_, _, _, _, _, _, z⟩ := R4; z
    refine ⟨fun x H' => ∃ (a : Addr) (ws : List L2.Key), x = .ref a ∧ H' a = some (.lst (ws.map kV)) ∧ a ≠ l ∧ (∀ k ∈ ws, KOk k) ∧ ws.length ≤ 2 ∧ KSt d H l (2 * i) H', ?_, ?_⟩
    · refine ⟨_, rfl, d, 3, rfl, D4, by decide, by decide, fun r H5 _ _ S5 D5 => ⟨rfl, _, rfl, ?_⟩⟩
      have R5 := R4.move nld S5 D5
      have lnew : ∀ a, H5 a = none → a ≠ l := fun a ha e => by
        obtain ⟨ks, _, _, _, hH, _, _⟩ := R5
        rw [e, hH] at ha
        cases ha
      refine ite2 (fun _ => ?_) (fun _ => ?_)
      · refine ⟨_, rfl, _, rfl, k, rfl, ko, fun z hz _ => ⟨by show 2 ≤ sizeLine; decide, fun a ha => ?_⟩⟩
        refine ⟨a, [k, .inr z], rfl, upd_same, lnew a ha, fun j hj => ?_, Nat.le_refl _, R5.move nld (Sm.of (same_new ha _)) (D5.set (D5.ne ha))⟩
        rcases List.mem_cons.mp hj with rfl | hj
        · exact ko
        · rw [List.mem_singleton.mp hj]
          exact hz
      · refine ⟨_, rfl, by show 1 ≤ sizeLine; decide, fun a ha => ?_⟩
        refine ⟨a, [k], rfl, upd_same, lnew a ha, fun j hj => ?_, Nat.le_succ 1, R5.move nld (Sm.of (same_new ha _)) (D5.set (D5.ne ha))⟩
        rw [List.mem_singleton.mp hj]
        exact ko
    rintro x H5 ⟨a, ws, rfl, ha, nal, wo, wl, R5⟩
    refine ⟨a, rfl, ⟨_, SqL.of ha⟩, ?_⟩
    refine for_list (K := K) (a := a) (xs := ws.map kV) (fun j σ H6 => ∃ v5 : Option V, σ = [some (.ref d), some (.int m), some (.ref l), some (.int (0 + i)), some (kV k), v5] ∧ H6 a = some (.lst (ws.map kV)) ∧ KSt d H l (2 * i + j) H6) ⟨v5, rfl, ha, R5⟩ (fun j σ H6 _ ⟨_, _, z, _⟩ => SqL.of z) ?_ ?_
    · rintro j x σ H6 hx ⟨v5, rfl, ha6, R6⟩
      have hj : j < ws.length := by
        have := (List.getElem?_eq_some_iff.mp hx).1
        rw [List.length_map] at this
        exact this
      obtain ⟨y, hy, rfl⟩ : ∃ y ∈ ws, x = kV y := by
        rw [List.getElem?_map, List.getElem?_eq_getElem hj] at hx
        exact ⟨ws[j], List.getElem_mem hj, (Option.some.inj hx).symm⟩
      obtain ⟨ks, nd, kok, hlen, hH, S6, D6⟩ := R6
      refine ⟨_, rfl, _, rfl, l, _, rfl, .inl (SqL.of hH), flat_kV y, flat_kVs ks, _, rfl, ?_⟩
      show (if (!inV (kV y) (ks.map kV)) = true then _ else _)
      rw [inV_kV]
      by_cases c : y ∈ ks
      · rw [decide_eq_true c]
        refine iteF ?_
        exact ⟨some (kV y), rfl, ha6, ks, nd, kok, Nat.le_succ_of_le hlen, hH, S6, D6⟩
      · rw [decide_eq_false c]
        refine iteT ?_
        have i62 : ks.length ≤ 300 := by omega
        refine ⟨_, rfl, .inl ⟨rfl, _, SqL.of hH⟩, _, rfl, l, _, _, rfl, rfl, hH, ?_, ?_⟩
        · rw [List.length_map, sizeLine_eq]
          omega
        · refine ⟨some (kV y), rfl, (upd_ne nal).trans ha6, ks ++ [y], ?_, fun z hz => ?_, ?_, ?_, sm_set S6 hl, D6.set nld⟩
          · exact List.nodup_append.mpr ⟨nd, List.nodup_cons.mpr ⟨by simp, List.nodup_nil⟩, fun a ha b hb e => c (by rw [List.mem_singleton.mp hb] at e; rw [← e]; exact ha)⟩
          · rcases List.mem_append.mp hz with hz | hz
            · exact kok z hz
            · rw [List.mem_singleton.mp hz]
              exact wo y hy
          · rw [List.length_append, List.length_singleton]
            omega
          · rw [upd_same, List.map_append]
            rfl
    · rintro σ H6 ⟨v5, rfl, _, ks, nd, kok, hlen, hH, S6, D6⟩
      rw [List.length_map] at hlen
      exact ⟨_, _, v5, rfl, ks, nd, kok, by omega, hH, S6, D6⟩
  · rintro σ H2 ⟨v3, v4, v5, rfl, R⟩
    obtain ⟨ks, nd, ko, hlen, hH, S2, D2⟩ := R
    refine ⟨_, rfl, _, rfl, m, rfl, l, _, rfl, SqL.of hH, fun p hp => ?_⟩
    have em : m = ((m.toNat : Nat) : Int) := by omega
    have ec : cutV (ks.map kV) none (some m) = (ks.take m.toNat).map kV := by
      rw [em, cut_hi, List.map_take]
      rfl
    have S3 : Sm d H (upd H2 p (.lst (cutV (ks.map kV) none (some m)))) := S2.trans (Sm.of (same_new hp _))
    refine q (ks.take m.toNat) p _ (nd.sublist (List.take_sublist _ _)) (fun k hk => ko k (List.mem_of_mem_take hk)) (by rw [List.length_take]; omega) (S2.none hp (D2.ne hp)) (D2.ne hp) S3 (D2.set (D2.ne hp)) (by rw [upd_same, ec])
end
/-! ### words -/
theorem atI_zero {α : Type} (x : α) (r : List α) : atI (x :: r) 0 = some x := (atI_pos (xs := x :: r) (Int.le_refl 0) (by simp)).trans rfl
abbrev alph : PySem.Str := "abcdefghijklmnopqrstuvwxyz"
structure WordOk (z : PySem.Str) : Prop where
  lo : 1 ≤ z.length
  hi : z.length ≤ 8
  let_ : ∀ c ∈ z.cps.toList, c ∈ alph.cps.toList
  no : z ≠ "other"
  nr : z ≠ "refused"
theorem flat_strs : ∀ ws : List PySem.Str, (ws.map V.str).all flatV = true
  | [] => rfl
  | k :: ks => by rw [List.map_cons, List.all_cons, flat_strs ks]; rfl
theorem inV_str (z : PySem.Str) : ∀ ws : List PySem.Str, inV (.str z) (ws.map V.str) = decide (z ∈ ws)
  | [] => by
    symm
    exact decide_eq_false (by simp)
  | y :: ws => by
    have ih := inV_str z ws
    unfold inV at ih ⊢
    rw [List.map_cons, List.any_cons, ih]
    show ((y == z) || decide (z ∈ ws)) = _
    by_cases e : y = z
    · subst e
      simp
    · have e2 : ¬ z = y := fun q => e q.symm
      simp [e, e2]
theorem one_len (c : Nat) : (⟨#[c]⟩ : PySem.Str).length = 1 := rfl
theorem one_inj {a b : Nat} (h : (⟨#[a]⟩ : PySem.Str) = ⟨#[b]⟩) : a = b := by
  have h2 : (#[a] : Array Nat) = #[b] := congrArg PySem.Str.cps h
  have h3 : [a] = [b] := congrArg Array.toList h2
  exact (List.cons.inj h3).1
/-- among three letters one is not in two words -/
theorem free_letter {ws : List PySem.Str} (h : ws.length ≤ 2) : ∃ j c, j < 3 ∧ alph.cps[j]? = some c ∧ (⟨#[c]⟩ : PySem.Str) ∉ ws := by
  have e0 : alph.cps[0]? = some 97 := by decide +kernel
  have e1 : alph.cps[1]? = some 98 := by decide +kernel
  have e2 : alph.cps[2]? = some 99 := by decide +kernel
  by_cases h0 : (⟨#[97]⟩ : PySem.Str) ∈ ws
  · by_cases h1 : (⟨#[98]⟩ : PySem.Str) ∈ ws
    · by_cases h2 : (⟨#[99]⟩ : PySem.Str) ∈ ws
      · exfalso
        match ws, h with
        | [], _ => cases h0
        | [x], _ =>
          have a := List.mem_singleton.mp h0
          have b := List.mem_singleton.mp h1
          have := one_inj (a.trans b.symm)
          omega
        | [x, y], _ =>
          simp only [List.mem_cons, List.not_mem_nil, or_false] at h0 h1 h2
          rcases h0 with h0 | h0 <;> rcases h1 with h1 | h1 <;> rcases h2 with h2 | h2 <;>
            first | (have := one_inj (h0.trans h1.symm); omega) | (have := one_inj (h0.trans h2.symm); omega) | (have := one_inj (h1.trans h2.symm); omega)
      · exact ⟨2, 99, by decide, e2, h2⟩
    · exact ⟨1, 98, by decide, e1, h1⟩
  · exact ⟨0, 97, by decide, e0, h0⟩
theorem letter_ok {c : Nat} (h : c ∈ alph.cps.toList) : WordOk ⟨#[c]⟩ where
  lo := Nat.le_refl 1
  hi := by rw [one_len]; decide
  let_ := fun b hb => by
    have : b = c := List.mem_singleton.mp hb
    rw [this]
    exact h
  no := fun e => by
    have := congrArg PySem.Str.length e
    rw [one_len] at this
    exact absurd this (by decide +kernel)
  nr := fun e => by
    have := congrArg PySem.Str.length e
    rw [one_len] at this
    exact absurd this (by decide +kernel)
section
variable {P : Program} {w : World} {K : PySem.W.Frag} {mg : PySem.Str → Option Value} {base : Heap}
theorem cl_keys (T : Tx K mg) : Cl P w K mg base 4 "_law_keys" spKeys := ⟨T.glo _, (let ⟨_, F⟩ := F_Lkeys T; F.kp), ok_keys T⟩
def spWords : Sp := fun vs H Q _ => ∃ (d : Addr) (m : Int), vs = [.ref d, .int m] ∧ DrAt H d ∧ 0 ≤ m ∧ m ≤ 3 ∧ ∀ (ws : List PySem.Str) (r : Addr) (H' : Hp), ws.Nodup → (∀ z ∈ ws, WordOk z) → ws.length = m.toNat → H r = none → r ≠ d → Sm d H H' → DrAt H' d → H' r = some (.lst (ws.map V.str)) → Q (.ref r) H'
abbrev nWords : List PySem.Str := ["_law_draws_here", "_law_many", "_law_found", "_law_turn", "_law_word", "_law_k", "_law_one"]
theorem scWords : FnScope nWords ["_law_draws_here", "_law_many"] (defScope s_Lwords) := ⟨rfl, rfl, rfl, by decide +kernel, rfl, by decide +kernel, by decide +kernel⟩
structure WSt (d : Addr) (H : Hp) (l : Addr) (ws : List PySem.Str) (H2 : Hp) : Prop where
  nd : ws.Nodup
  ok : ∀ z ∈ ws, WordOk z
  at_ : H2 l = some (.lst (ws.map V.str))
  sm : Sm d H H2
  dr : DrAt H2 d
theorem WSt.move {d l : Addr} {H H2 H3 : Hp} {ws : List PySem.Str} (h : WSt d H l ws H2) (ne : l ≠ d) (S : Sm d H2 H3) (D : DrAt H3 d) : WSt d H l ws H3 := ⟨h.nd, h.ok, S.at h.at_ ne, h.sm.trans S, D⟩
theorem WSt.new {d l p : Addr} {H H2 : Hp} {o : HO} {ws : List PySem.Str} (h : WSt d H l ws H2) (ne : l ≠ d) (hp : H2 p = none) : WSt d H l ws (upd H2 p o) := h.move ne (Sm.of (same_new hp _)) (h.dr.set (h.dr.ne hp))
theorem ok_words (T : Tx K mg) : FnR P w K mg base CX0 3 (He.ga K "_law_words") spWords := by
  obtain ⟨fd, F⟩ := F_Lwords T
  refine okR F scWords (fun _ _ _ _ _ _ us hl => match us, hl with | [_, _], _ => rfl) (fun vs H Q E h => ?_) fun cdv A outer s H vs Q E hr h => ?_
  · obtain ⟨d, m, rfl, _⟩ := h
    rfl
  obtain ⟨d, m, rfl, D, m0, m1, q⟩ := h
  have hr1 : Room 1 _ := hr.mono (by decide)
  have GD := cl_draw (P := P) (w := w) (base := base) T
  have GS := cl_some (P := P) (w := w) (base := base) T
  have nd := scWords.nd
  refine ⟨_, pss_cons (ps_set (i := 2) nd rfl (.inr rfl) (pe_lst pa_nil))
    (pss_cons (ps_for PassesOwn.never rfl (pi_range1 (by rfl) (T.free "range") (pa_cons (pv 1) pa_nil)) (pg_name (i := 3) nd rfl (.inl rfl))
      (pss_cons (ps_set (i := 4) nd rfl (.inl rfl) pe_str)
      (pss_cons (ps_for PassesOwn.never rfl (pi_range1 (by rfl) (T.free "range") (pa_cons (pe_op op_add pe_int (pe_f GD hr1 (pa_cons (pv 0) (pa_cons pe_int pa_nil)))) pa_nil)) (pg_name (i := 5) nd rfl (.inl rfl))
        (pss_one (ps_set (i := 4) nd rfl (.inl rfl) (pe_op op_add_str (pv 4) (pe_f GS hr (pa_cons (pv 0) (pa_cons pe_str pa_nil)))))))
      (C8.pss_cut (ps_if (pt_j (PW.pt (pw_or (pt_cmpR op_in_seq (pv 4) (pv 2) rfl) (pw_or1 (pt_cmpR op_in_seq (pv 4) (pe_tup (pa_cons pe_str (pa_cons pe_str pa_nil))) rfl)))))
        (pss_one (ps_set (i := 4) nd rfl (.inl rfl) (pe_ix ix_list (pe_lc (own := [("_law_one", 6)]) (g := gName 6) (tt := tTest (tOp (rIn K true) (tVar 6) (tVar 2))) rfl nd (pi_str pe_str) (blkOk_by (own := [("_law_one", 6)]) (N := nWords) (sc := defScope s_Lwords) (by decide +kernel))
          (fun _ _ _ _ _ => pg_name (i := 6) nd rfl (Or.inl rfl)) (fun _ _ _ _ _ => pts_one (pt_cmpR op_notIn_seq (pv 6) (pv 2) rfl)) (fun _ _ _ _ _ => pv 6)) pe_int (fun _ _ => rfl)))) pss_nil)
      (pss_one (ps_expr (pe_bm PySem.F.plainAttrs_list PySem.F.slot_list_append PySem.F.type_list_append mt_append (pv 2) (pa_cons (pv 4) pa_nil))))))))
    (pss_one (ps_ret (pv 2)))), ?_⟩
  refine ⟨Nat.zero_le _, fun l hl => ?_⟩
  have nld : l ≠ d := D.ne hl
  refine ⟨_, rfl, m, rfl, by omega, by omega, ?_⟩
  have start0 : WSt d H l [] (upd H l (.lst [])) := ⟨List.nodup_nil, (fun k hk => by cases hk), upd_same, Sm.of (same_new hl _), D.set nld⟩
  refine for_range (lo := 0) (n := m.toNat) (fun i σ H2 => ∃ (v3 v4 v5 : Option V) (ws : List PySem.Str), σ = [some (.ref d), some (.int m), some (.ref l), v3, v4, v5, none] ∧ ws.length = i ∧ WSt d H l ws H2) ⟨none, none, none, [], rfl, rfl, start0⟩ ?_ ?_
  · rintro i σ H2 hi ⟨v3, v4, v5, ws, rfl, hwl, R⟩
    refine ⟨_, rfl, d, 8, rfl, R.dr, by decide, by decide, fun r H3 r0 r1 S3 D3 => ⟨_, _, rfl, rfl, 1 + r, rfl, by omega, by omega, ?_⟩⟩
    have R3 := R.move nld S3 D3
    refine for_range (lo := 0) (n := (1 + r).toNat) (fun j σ H4 => ∃ (z : PySem.Str) (v5 : Option V), σ = [some (.ref d), some (.int m), some (.ref l), some (.int (0 + i)), some (.str z), v5, none] ∧ z.length = j ∧ (∀ c ∈ z.cps.toList, c ∈ alph.cps.toList) ∧ WSt d H l ws H4) ⟨"", v5, rfl, rfl, (fun c hc => by cases hc), R3⟩ ?_ ?_
    · rintro j σ H4 hj ⟨z, v5, rfl, hz, hc, R4⟩
      refine ⟨_, rfl, _, rfl, d, .str alph, fun x => ∃ c : Nat, x = .str ⟨#[c]⟩ ∧ c ∈ alph.cps.toList, rfl, R4.dr, .inr ⟨alph, rfl, by decide +kernel, by decide +kernel, fun c hc => ⟨c, rfl, hc⟩⟩, ?_⟩
      rintro x H5 ⟨c, rfl, hca⟩ S5 D5
      have hl2 : (z ++ (⟨#[c]⟩ : PySem.Str)).length = z.length + 1 := str_add_len z ⟨#[c]⟩
      refine ⟨_, _, rfl, rfl, ?_, _, some (.int (0 + j)), rfl, by rw [hl2]; omega, fun b hb => ?_, R4.move nld S5 D5⟩
      · show z.length + 1 ≤ sizeLine
        rw [sizeLine_eq]
        omega
      · have e : (z ++ (⟨#[c]⟩ : PySem.Str)).cps.toList = z.cps.toList ++ [c] := by
          show (z.cps ++ #[c]).toList = _
          rw [Array.toList_append]
        rw [e] at hb
        rcases List.mem_append.mp hb with hb | hb
        · exact hc b hb
        · rw [List.mem_singleton.mp hb]
          exact hca
    · rintro σ H4 ⟨z, v5, rfl, hz, hc, R4⟩
      have z1 : 1 ≤ z.length := by omega
      have z8 : z.length ≤ 8 := by omega
      refine ⟨fun σ' H' => ∃ (z : PySem.Str) (v5 : Option V), σ' = [some (.ref d), some (.int m), some (.ref l), some (.int (0 + i)), some (.str z), v5, none] ∧ WordOk z ∧ z ∉ ws ∧ WSt d H l ws H', ?_, ?_⟩
      · -- the word is taken, or not allowed
        refine ⟨fun b H' => (b = false → z ∉ ws ∧ WordOk z) ∧ WSt d H l ws H', ?_, ?_⟩
        · refine ⟨_, rfl, _, rfl, l, _, rfl, .inl (SqL.of R4.at_), rfl, flat_strs ws, _, rfl, ?_⟩
          show (if (inV (.str z) (ws.map V.str)) = true then _ else _)
          rw [inV_str]
          by_cases c : z ∈ ws
          · rw [decide_eq_true c]
            exact iteT ⟨(fun e => nomatch e), R4⟩
          · rw [decide_eq_false c]
            refine iteF ⟨_, rfl, by show 2 ≤ sizeLine; decide, fun p hp => ⟨p, _, rfl, .inr (.inl (.inl upd_same)), rfl, rfl, _, rfl, ?_⟩⟩
            refine ⟨fun e => ⟨c, ?_⟩, R4.new nld hp⟩
            have e2 : inV (.str z) ((["other", "refused"] : List PySem.Str).map V.str) = false := e
            rw [inV_str] at e2
            have e3 := of_decide_eq_false e2
            exact ⟨z1, z8, hc, fun q => e3 (by rw [q]; simp), fun q => e3 (by rw [q]; simp)⟩
        · rintro b H5 ⟨hb, R5⟩
          cases b with
          | false => exact iteF ⟨z, v5, rfl, (hb rfl).2, (hb rfl).1, R5⟩
          | true =>
            refine iteT ?_
            refine ⟨alph, rfl, fun p hp => ?_⟩
            have npl : p ≠ l := fun e => by
              rw [e, R5.at_] at hp
              cases hp
            refine lc_it walk_str (Pv := fun k H6 => ∃ acc : List V, H6 p = some (.lst acc) ∧ acc.length ≤ k ∧ (∀ x ∈ acc, ∃ c : Nat, x = .str ⟨#[c]⟩ ∧ c ∈ alph.cps.toList ∧ (⟨#[c]⟩ : PySem.Str) ∉ ws) ∧
                (∀ j c, j < k → alph.cps[j]? = some c → (⟨#[c]⟩ : PySem.Str) ∉ ws → acc ≠ []) ∧ WSt d H l ws H6)
              ⟨[], upd_same, Nat.le_refl _, (fun x hx => by cases hx), (fun j c hj => by omega), R5.new nld hp⟩ (fun _ _ _ _ => trivial) ?_ ?_
            · rintro k x H6 H7 hk ⟨acc, hacc, hlen, hall, hne, R6⟩ ⟨rfl, c, hcc, rfl⟩
              have hca : c ∈ alph.cps.toList := by
                have := Array.mem_of_getElem? hcc
                exact Array.mem_toList_iff.mpr this
              refine ⟨rfl, _, rfl, _, rfl, l, _, rfl, .inl (SqL.of R6.at_), rfl, flat_strs ws, _, rfl, ?_⟩
              show (if (!inV (.str ⟨#[c]⟩) (ws.map V.str)) = true then _ else _)
              rw [inV_str]
              by_cases cc : (⟨#[c]⟩ : PySem.Str) ∈ ws
              · rw [decide_eq_true cc]
                refine iteF ⟨acc, hacc, Nat.le_succ_of_le hlen, hall, fun j c2 hj h2 h3 => ?_, R6⟩
                by_cases ej : j = k
                · subst ej
                  rw [hcc] at h2
                  cases h2
                  exact absurd cc h3
                · exact hne j c2 (by omega) h2 h3
              · rw [decide_eq_false cc]
                refine iteT ⟨_, rfl, acc, hacc, ?_, acc ++ [.str ⟨#[c]⟩], upd_same, ?_, fun y hy => ?_, fun _ _ _ _ _ => by simp, ?_⟩
                · have : alph.cps.size = 26 := by decide +kernel
                  rw [sizeLine_eq]
                  omega
                · rw [List.length_append, List.length_singleton]
                  omega
                · rcases List.mem_append.mp hy with hy | hy
                  · exact hall y hy
                  · rw [List.mem_singleton.mp hy]
                    exact ⟨c, rfl, hca, cc⟩
                · have pd : p ≠ d := R5.dr.ne hp
                  refine ⟨R6.nd, R6.ok, (upd_ne npl.symm).trans R6.at_, ?_, R6.dr.set pd⟩
                  exact sm_set R6.sm (R5.sm.none hp pd)
            · rintro H6 ⟨acc, hacc, hlen, hall, hne, R6⟩
              obtain ⟨j, c, hj, hcj, hcw⟩ := free_letter (ws := ws) (by omega)
              have hn : acc ≠ [] := hne j c (by
                have : alph.cps.size = 26 := by decide +kernel
                omega) hcj hcw
              cases acc with
              | nil => exact absurd rfl hn
              | cons x acc =>
                obtain ⟨c2, rfl, h2, h3⟩ := hall _ (List.mem_cons_self ..)
                exact ⟨p, _, _, _, rfl, rfl, SqL.of hacc, atI_zero _ _, ⟨#[c2]⟩, v5, rfl, letter_ok h2, h3, R6⟩
      rintro σ' H5 ⟨z, v5, rfl, wo, hn, R5⟩
      have hle : ws.length ≤ 3 := by omega
      refine ⟨_, rfl, .inl ⟨rfl, _, SqL.of R5.at_⟩, _, rfl, l, _, _, rfl, rfl, R5.at_, ?_, ?_⟩
      · rw [List.length_map, sizeLine_eq]
        omega
      · refine ⟨_, _, v5, ws ++ [z], rfl, by rw [List.length_append, List.length_singleton, hwl], ?_, fun y hy => ?_, ?_, sm_set R5.sm hl, R5.dr.set nld⟩
        · exact List.nodup_append.mpr ⟨R5.nd, List.nodup_cons.mpr ⟨by simp, List.nodup_nil⟩, fun a ha b hb e => hn (by rw [List.mem_singleton.mp hb] at e; rw [← e]; exact ha)⟩
        · rcases List.mem_append.mp hy with hy | hy
          · exact R5.ok y hy
          · rw [List.mem_singleton.mp hy]
            exact wo
        · rw [upd_same, List.map_append]
          rfl
  · rintro σ H2 ⟨v3, v4, v5, ws, rfl, hwl, R⟩
    exact ⟨_, rfl, q ws l H2 R.nd R.ok hwl hl nld R.sm R.dr R.at_⟩
end
section
variable {P : Program} {w : World} {K : PySem.W.Frag} {mg : PySem.Str → Option Value} {base : Heap}
theorem cl_words (T : Tx K mg) : Cl P w K mg base 3 "_law_words" spWords := ⟨T.glo _, (let ⟨_, F⟩ := F_Lwords T; F.kp), ok_words T⟩
/-! ### where the draws come from -/
def spDraws (K : PySem.W.Frag) : Sp := fun vs H Q _ => ∃ (a : Addr) (ns : List Int) (i : Int), vs = [.ref a, .int i] ∧ SqL K H a (ns.map V.int) ∧ ns.length ≤ 63 ∧ 0 ≤ i ∧ i ≤ 100 ∧ ∀ (d : Addr) (H' : Hp), H d = none → Same H H' → DrAt H' d → Q (.ref d) H'
abbrev nDraws : List PySem.Str := ["_law_script", "_law_at", "_law_great", "_law_one", "_law_two", "_law_cell"]
theorem scDraws : FnScope nDraws ["_law_script", "_law_at"] (defScope s_Ldraws) := ⟨rfl, rfl, rfl, by decide +kernel, rfl, by decide +kernel, by decide +kernel⟩
theorem ok_draws (T : Tx K mg) : FnR P w K mg base CX0 1 (He.ga K "_law_draws") (spDraws K) := by
  obtain ⟨fd, F⟩ := F_Ldraws T
  refine okR F scDraws (fun _ _ _ _ _ _ us hl => match us, hl with | [_, _], _ => rfl) (fun vs H Q E h => ?_) fun cdv A outer s H vs Q E hr h => ?_
  · obtain ⟨a, ns, i, rfl, _⟩ := h
    rfl
  obtain ⟨a, ns, i, rfl, hs, h63, i0, i1, q⟩ := h
  have nd := scDraws.nd
  have ti := T.free "int"
  have tl := T.free "len"
  have ta := T.free "abs"
  refine ⟨_, pss_cons (ps_set (i := 2) nd rfl (.inl rfl) pe_int)
    (C8.pss_cut (ps_if (PW.pt (pw_and (pt_cmpR op_lt (pv 1) (pe_callB call_len_seq rfl tl boot_len (pa_cons (pv 0) pa_nil)) (nomark _)) (pw_and1 (PW.pt (pw_or (pt_cmpR op_ge (pe_ix ix_list (pv 0) (pv 1) (fun _ _ => rfl)) (pe_op op_pow pe_int pe_int) (nomark _)) (pw_or1 (pt_cmpR op_le (pe_ix ix_list (pv 0) (pv 1) (fun _ _ => rfl)) (pe_un un_neg (pe_op op_pow pe_int pe_int)) (nomark _))))))))
      (pss_one (ps_set (i := 2) nd rfl (.inl rfl) (pe_callB call_abs rfl ta boot_abs (pa_cons (pe_ix ix_list (pv 0) (pv 1) (fun _ _ => rfl)) pa_nil)))) pss_nil)
    (pss_cons (ps_par (i := 3) (j := 4) (by rfl) nd rfl rfl (by decide) rfl rfl (pa_cons (pe_op op_add pe_int (pe_op op_mul pe_int (pv 1))) (pa_cons (pe_op op_add pe_int (pe_op op_mul pe_int (pv 1))) pa_nil)) (by rfl))
    (pss_cons (ps_for PassesOwn.never rfl (pi_list (pe_slice sl_list (pv 0) po_none (po_some pe_int))) (pg_name (i := 5) nd rfl (.inl rfl))
      (pss_cons (ps_set (i := 3) nd rfl (.inl rfl) (pe_op op_mod (pe_callTy call_int1 rfl ti boot_int (pa_cons (pe_op op_add (pe_op op_mul (pv 3) pe_int) (pe_op op_mod (pe_callTy call_int1 rfl ti boot_int (pa_cons (pv 5) pa_nil)) pe_int)) pa_nil)) pe_int))
      (pss_one (ps_set (i := 4) nd rfl (.inl rfl) (pe_op op_mod (pe_callTy call_int1 rfl ti boot_int (pa_cons (pe_op op_add (pe_op op_add (pe_op op_mul (pv 4) pe_int) (pv 3)) pe_int) pa_nil)) pe_int)))))
    (pss_one (ps_ret (pe_lst (pa_cons (pv 2) (pa_cons (pv 3) (pa_cons (pv 4) pa_nil))))))))), ?_⟩
  refine ⟨fun σ' H' => H' = H ∧ ∃ g : Int, 0 ≤ g ∧ σ' = [some (.ref a), some (.int i), some (.int g), none, none, none], ?_, ?_⟩
  · refine ⟨_, rfl, _, rfl, a, _, rfl, .inl hs, _, _, rfl, rfl, _, rfl, ?_⟩
    have cell : i < ((ns.map V.int).length : Int) → ∃ n : Int, atI (ns.map V.int) i = some (.int n) := fun c => by
      rw [List.length_map] at c
      have hi : i.toNat < (ns.map V.int).length := by
        rw [List.length_map]
        omega
      refine ⟨ns[i.toNat]'(by omega), ?_⟩
      rw [atI_pos i0 hi, List.getElem_map]
    refine ite2 (fun c => ?_) (fun _ => iteF ⟨rfl, 0, Int.le_refl 0, rfl⟩)
    obtain ⟨n, hn⟩ := cell (of_decide_eq_true c)
    have yes : ∀ Q1 : Hp → Prop, Q1 H → True := fun _ _ => trivial
    have abs0 : 0 ≤ (if n < 0 then -n else n) := by split <;> omega
    refine ⟨_, rfl, _, rfl, a, _, _, _, rfl, rfl, hs, hn, _, _, rfl, rfl, ⟨by decide, by decide, by decide⟩, _, _, rfl, rfl, _, rfl, ?_⟩
    refine ite2 (fun _ => ?_) (fun _ => ?_)
    · refine iteT ⟨_, rfl, _, rfl, a, _, _, _, rfl, rfl, hs, hn, _, rfl, rfl, _, abs0, rfl⟩
    · refine ⟨_, rfl, _, rfl, a, _, _, _, rfl, rfl, hs, hn, _, _, rfl, rfl, ⟨by decide, by decide, by decide⟩, _, rfl, _, _, rfl, rfl, _, rfl, ?_⟩
      refine ite2 (fun _ => ?_) (fun _ => ?_)
      · exact ⟨_, rfl, _, rfl, a, _, _, _, rfl, rfl, hs, hn, _, rfl, rfl, _, abs0, rfl⟩
      · exact ⟨rfl, 0, Int.le_refl 0, rfl⟩
  rintro σ' H' ⟨rfl, g, g0, rfl⟩
  have b1 : -(2 ^ 64) < (7919 : Int) ∧ (7919 : Int) < 2 ^ 64 := by decide
  have b2 : -(2 ^ 64) < (104729 : Int) ∧ (104729 : Int) < 2 ^ 64 := by decide
  refine ⟨_, rfl, _, _, rfl, rfl, .inl b1, _, _, rfl, rfl, _, rfl, _, _, rfl, rfl, .inl b2, _, _, rfl, rfl, _, _, rfl, ?_⟩
  refine ⟨_, rfl, 45, rfl, a, _, rfl, hs, fun p hp => ⟨p, rfl, ⟨_, SqL.of upd_same⟩, ?_⟩⟩
  refine for_list (K := K) (a := p) (xs := cutV (ns.map V.int) none (some 45)) (fun j σ H2 => ∃ (x y : Int) (v5 : Option V), σ = [some (.ref a), some (.int i), some (.int g), some (.int x), some (.int y), v5] ∧ 0 ≤ x ∧ x < 2 ^ 40 ∧ 0 ≤ y ∧ y < 2 ^ 40 ∧ H2 = upd H' p (.lst (cutV (ns.map V.int) none (some 45))))
    ⟨_, _, none, rfl, by omega, by omega, by omega, by omega, rfl⟩ (fun j σ H2 _ ⟨_, _, _, _, _, _, _, _, e⟩ => by rw [e]; exact SqL.of upd_same) ?_ ?_
  · rintro j v σ H2 hj ⟨x, y, v5, rfl, x0, x1, y0, y1, rfl⟩
    obtain ⟨n, rfl⟩ : ∃ n, v = V.int n := by
      obtain ⟨n, _, e⟩ := List.mem_map.mp (mem_cutV (List.mem_of_getElem? hj))
      exact ⟨n, e.symm⟩
    have lx : -(2 ^ 64) < x ∧ x < 2 ^ 64 := ⟨by omega, by omega⟩
    have ly : -(2 ^ 64) < y ∧ y < 2 ^ 64 := ⟨by omega, by omega⟩
    refine ⟨_, rfl, _, _, rfl, rfl, .inl lx, _, rfl, .inl ⟨_, rfl, _, _, rfl, rfl, (by show (0 : Int) < 2147483629; decide), _, _, rfl, rfl, .inl ⟨_, rfl, _, _, rfl, rfl, (by show (0 : Int) < 2147483647; decide), ?_⟩⟩⟩
    refine ⟨_, rfl, _, _, rfl, rfl, .inl ly, _, rfl, _, _, rfl, rfl, _, _, rfl, rfl, .inl ⟨_, rfl, _, _, rfl, rfl, (by show (0 : Int) < 2147483563; decide), ?_⟩⟩
    exact ⟨_, _, _, rfl, Int.emod_nonneg _ (by decide), Int.lt_trans (Int.emod_lt_of_pos _ (by decide)) (by decide), Int.emod_nonneg _ (by decide), Int.lt_trans (Int.emod_lt_of_pos _ (by decide)) (by decide), rfl⟩
  · rintro σ H2 ⟨x, y, v5, rfl, x0, x1, y0, y1, rfl⟩
    refine ⟨_, rfl, _, rfl, _, rfl, by show 3 ≤ sizeLine; decide, fun d hd => ?_⟩
    have S1 := same_new hp (.lst (cutV (ns.map V.int) none (some 45)))
    exact q d _ (S1.free hd) (S1.trans (same_new hd _)) ⟨g, x, y, upd_same, g0, x0, x1, y0, y1⟩
end
/-! ### what stands in the heap: models, values -/
def MAtom (H : Hp) (v : V) : PV → Prop
  | .non => ∃ p, v = .ref p ∧ H p = some (.tup [.str "null", .non])
  | .bl true => ∃ p, v = .ref p ∧ H p = some (.tup [.str "true", .non])
  | .bl false => ∃ p, v = .ref p ∧ H p = some (.tup [.str "false", .non])
  | .int i => ∃ p, v = .ref p ∧ H p = some (.tup [.str "integer", .int i])
  | .str z => ∃ p, v = .ref p ∧ H p = some (.tup [.str "text", .str z])
  | _ => False
/-- a list or tuple of models -/
def MRow (s : PySem.Str) (G : V → PV → Prop) (H : Hp) (v : V) (ms : List PV) : Prop := ∃ (p q : Addr) (xs : List V), v = .ref p ∧ H p = some (.tup [.str s, .ref q]) ∧ H q = some (.lst xs) ∧ xs.length ≤ 100 ∧ Paired G xs ms
def MEnt (G : V → PV → Prop) (H : Hp) (r : V) (kv : L2.Key × PV) : Prop := ∃ (a : Addr) (x : V), r = .ref a ∧ H a = some (.tup [kV kv.1, x]) ∧ G x kv.2
def MTab (ks : List L2.Key) (G : V → PV → Prop) (H : Hp) (v : V) (kvs : List (L2.Key × PV)) : Prop := ∃ (p q : Addr) (rs : List V), v = .ref p ∧ H p = some (.tup [.str "table", .ref q]) ∧ H q = some (.lst rs) ∧ rs.length ≤ 100 ∧
  (kvs.map (·.1)).Nodup ∧ (∀ kv ∈ kvs, kv.1 ∈ ks) ∧ Paired (MEnt G H) rs kvs
def MAt (ks : List L2.Key) : Nat → Hp → V → PV → Prop
  | 0 => fun H v m => MAtom H v m
  | n + 1 => fun H v m => match m with
    | .lst ms => MRow "list" (MAt ks n H) H v ms
    | .tup ms => MRow "tuple" (MAt ks n H) H v ms
    | .tab kvs => MTab ks (MAt ks n H) H v kvs
    | m => MAtom H v m
theorem MAtom.any {ks : List L2.Key} {H : Hp} {v : V} {m : PV} (h : MAtom H v m) : ∀ n, MAt ks n H v m
  | 0 => h
  | n + 1 => by
    cases m with
    | lst _ => exact h.elim
    | tup _ => exact h.elim
    | tab _ => exact h.elim
    | _ => exact h
theorem MAtom.mono {H H' : Hp} (S : Same H H') {v : V} {m : PV} (h : MAtom H v m) : MAtom H' v m := by
  cases m with
  | bl b =>
    cases b <;> obtain ⟨p, e, q⟩ := h <;> exact ⟨p, e, S _ _ q⟩
  | lst _ => exact h
  | tup _ => exact h
  | tab _ => exact h
  | _ =>
    obtain ⟨p, e, q⟩ := h
    exact ⟨p, e, S _ _ q⟩
theorem MRow.mono {s : PySem.Str} {G G' : V → PV → Prop} {H H' : Hp} (S : Same H H') (hG : ∀ v m, G v m → G' v m) {v : V} {ms : List PV} (h : MRow s G H v ms) : MRow s G' H' v ms := by
  obtain ⟨p, q, xs, e, h1, h2, l, r⟩ := h
  exact ⟨p, q, xs, e, S _ _ h1, S _ _ h2, l, r.mono hG⟩
theorem MTab.mono {ks : List L2.Key} {G G' : V → PV → Prop} {H H' : Hp} (S : Same H H') (hG : ∀ v m, G v m → G' v m) {v : V} {kvs : List (L2.Key × PV)} (h : MTab ks G H v kvs) : MTab ks G' H' v kvs := by
  obtain ⟨p, q, xs, e, h1, h2, l, nd, hk, r⟩ := h
  exact ⟨p, q, xs, e, S _ _ h1, S _ _ h2, l, nd, hk, r.mono fun r kv ⟨a, x, e, ha, g⟩ => ⟨a, x, e, S _ _ ha, hG _ _ g⟩⟩
theorem MAt.mono {ks : List L2.Key} : ∀ {n : Nat} {H H' : Hp} (_ : Same H H') {v : V} {m : PV}, MAt ks n H v m → MAt ks n H' v m
  | 0, _, _, S, _, _, h => MAtom.mono S h
  | n + 1, H, H', S, v, m, h => by
    cases m with
    | lst ms => exact MRow.mono S (fun _ _ z => MAt.mono S z) h
    | tup ms => exact MRow.mono S (fun _ _ z => MAt.mono S z) h
    | tab kvs => exact MTab.mono S (fun _ _ z => MAt.mono S z) h
    | non => exact MAtom.any (m := .non) (MAtom.mono (m := .non) S h) (n + 1)
    | bl b => exact MAtom.any (m := .bl b) (MAtom.mono (m := .bl b) S h) (n + 1)
    | int i => exact MAtom.any (m := .int i) (MAtom.mono (m := .int i) S h) (n + 1)
    | str z => exact MAtom.any (m := .str z) (MAtom.mono (m := .str z) S h) (n + 1)
theorem MAt.up {ks : List L2.Key} : ∀ {n : Nat} {H : Hp} {v : V} {m : PV}, MAt ks n H v m → MAt ks (n + 1) H v m
  | 0, _, _, _, h => MAtom.any h 1
  | n + 1, H, v, m, h => by
    cases m with
    | lst ms => exact MRow.mono (Same.refl H) (fun _ _ z => MAt.up z) h
    | tup ms => exact MRow.mono (Same.refl H) (fun _ _ z => MAt.up z) h
    | tab kvs => exact MTab.mono (Same.refl H) (fun _ _ z => MAt.up z) h
    | _ => exact h
theorem MAt.le {ks : List L2.Key} {n k : Nat} (h : n ≤ k) {H : Hp} {v : V} {m : PV} (a : MAt ks n H v m) : MAt ks k H v m := by
  induction h with
  | refl => exact a
  | step _ ih => exact ih.up
/-- a value's representation -/
def VAtom (v : V) : PV → Prop
  | .non => v = .non
  | .bl b => v = .bl b
  | .int i => v = .int i
  | .str z => v = .str z
  | _ => False
def VTab (CT : Addr) (G : Hp → V → PV → Prop) (H : Hp) (v : V) (kvs : List (L2.Key × PV)) : Prop := ∃ (p dx h : Addr) (ws : List (L2.Key × V)), v = .ref p ∧ H p = some (.ins CT dx [("held", .ref h)]) ∧ H h = some (.dK ws) ∧ ws.length ≤ 100 ∧
  Paired (fun (u : L2.Key × V) (kv : L2.Key × PV) => u.1 = kv.1 ∧ G (Wo h H) u.2 kv.2) ws kvs
def VLst (G : V → PV → Prop) (H : Hp) (v : V) (ms : List PV) : Prop := ∃ (p : Addr) (xs : List V), v = .ref p ∧ H p = some (.lst xs) ∧ xs.length ≤ 100 ∧ Paired G xs ms
def VTup (G : V → PV → Prop) (H : Hp) (v : V) (ms : List PV) : Prop := ∃ (p : Addr) (xs : List V), v = .ref p ∧ H p = some (.tup xs) ∧ xs.length ≤ 100 ∧ Paired G xs ms
def VAt (CT : Addr) : Nat → Hp → V → PV → Prop
  | 0 => fun _ v m => VAtom v m
  | n + 1 => fun H v m => match m with
    | .lst ms => VLst (VAt CT n H) H v ms
    | .tup ms => VTup (VAt CT n H) H v ms
    | .tab kvs => VTab CT (VAt CT n) H v kvs
    | m => VAtom v m
theorem VAtom.any {CT : Addr} {H : Hp} {v : V} {m : PV} (h : VAtom v m) : ∀ n, VAt CT n H v m
  | 0 => h
  | n + 1 => by
    cases m with
    | lst _ => exact h.elim
    | tup _ => exact h.elim
    | tab _ => exact h.elim
    | _ => exact h
theorem VAt.mono {CT : Addr} : ∀ {n : Nat} {H H' : Hp} (_ : Same H H') {v : V} {m : PV}, VAt CT n H v m → VAt CT n H' v m
  | 0, _, _, _, _, _, h => h
  | n + 1, H, H', S, v, m, h => by
    cases m with
    | lst ms =>
      obtain ⟨p, xs, e, h1, l, r⟩ := h
      exact ⟨p, xs, e, S _ _ h1, l, r.mono fun _ _ z => VAt.mono S z⟩
    | tup ms =>
      obtain ⟨p, xs, e, h1, l, r⟩ := h
      exact ⟨p, xs, e, S _ _ h1, l, r.mono fun _ _ z => VAt.mono S z⟩
    | tab kvs =>
      obtain ⟨p, dx, q, ws, e, h1, h2, l, r⟩ := h
      exact ⟨p, dx, q, ws, e, S _ _ h1, S _ _ h2, l, r.mono fun _ _ z => ⟨z.1, VAt.mono (wo_same S) z.2⟩⟩
    | _ => exact h
/-! ### lists read with their twins -/
theorem paired_get {α β : Type} {F : α → β → Prop} : ∀ {xs : List α} {ys : List β} {i : Nat} {x : α}, Paired F xs ys → xs[i]? = some x → ∃ y, ys[i]? = some y ∧ F x y
  | _, _, _, _, .nil, e => by simp at e
  | _, _, 0, _, .cons r _, e => by simp at e; subst e; exact ⟨_, rfl, r⟩
  | _, _, i + 1, x, .cons _ t, e => by
    obtain ⟨u, h1, h2⟩ := paired_get (i := i) (x := x) t (by simpa using e)
    exact ⟨u, by simpa using h1, h2⟩
theorem paired_take {α β : Type} {F : α → β → Prop} : ∀ {xs : List α} {ys : List β} (n : Nat), Paired F xs ys → Paired F (xs.take n) (ys.take n)
  | _, _, 0, _ => .nil
  | _, _, _ + 1, .nil => .nil
  | _, _, n + 1, .cons r t => .cons r (paired_take n t)
theorem take_succ_of {α : Type} {xs : List α} {i : Nat} {x : α} (h : xs[i]? = some x) : xs.take (i + 1) = xs.take i ++ [x] := by
  rw [List.take_add_one, h]
  rfl
section
variable {P : Program} {w : World} {K : PySem.W.Frag} {mg : PySem.Str → Option Value} {base : Heap}
theorem cl_draws (T : Tx K mg) : Cl P w K mg base 1 "_law_draws" (spDraws K) := ⟨T.glo _, (let ⟨_, F⟩ := F_Ldraws T; F.kp), ok_draws T⟩
theorem ty_key {H : Hp} (k : L2.Key) : TyX K H (kV k) (.type (if isTx k then "str" else "int")) := by
  cases k with
  | inl i => exact .base (.int i)
  | inr z => exact .base (.str z)
theorem kit_key (k : L2.Key) : PySem.W.kitOne K (.type (if isTx k then "str" else "int")) (.type "str") = some (isTx k) := by
  cases k with
  | inl i => exact kit_ty (show kitB "int" "str" = some false by decide +kernel)
  | inr z => exact kit_ty (show kitB "str" "str" = some true by decide +kernel)
/-! ### an atom of a model -/
def spAtom (K : PySem.W.Frag) : Sp := fun vs H Q _ => ∃ (d a : Addr) (as : List L2.Key), vs = [.ref d, .ref a] ∧ DrAt H d ∧ SqL K (Wo d H) a (as.map kV) ∧ 0 < as.length ∧ as.length ≤ 1000 ∧
  ∀ (r : V) (m : PV) (H' : Hp), Sm d H H' → DrAt H' d → MAtom (Wo d H') r m → Q r H'
abbrev nAtom : List PySem.Str := ["_law_draws_here", "_law_atoms", "_law_form", "_law_atom_here"]
theorem scAtom : FnScope nAtom ["_law_draws_here", "_law_atoms"] (defScope s_Latom) := ⟨rfl, rfl, rfl, by decide +kernel, rfl, by decide +kernel, by decide +kernel⟩
theorem key_of {as : List L2.Key} {x : V} (h : x ∈ as.map kV) : ∃ k : L2.Key, x = kV k := by
  obtain ⟨k, _, e⟩ := List.mem_map.mp h
  exact ⟨k, e.symm⟩
theorem ok_atom (T : Tx K mg) : FnR P w K mg base CX0 4 (He.ga K "_law_atom") (spAtom K) := by
  obtain ⟨fd, F⟩ := F_Latom T
  refine okR F scAtom (fun _ _ _ _ _ _ us hl => match us, hl with | [_, _], _ => rfl) (fun vs H Q E h => ?_) fun cdv A outer s H vs Q E hr h => ?_
  · obtain ⟨d, a, as, rfl, _⟩ := h
    rfl
  obtain ⟨d, a, as, rfl, D, ha, a0, a1, q⟩ := h
  have hr1 : Room 1 _ := hr.mono (by decide)
  have hr2 : Room 2 _ := hr.mono (by decide)
  have GD := cl_draw (P := P) (w := w) (base := base) T
  have GS := cl_some (P := P) (w := w) (base := base) T
  have GT := cl_text (P := P) (w := w) (base := base) T
  have GI := cl_integer (P := P) (w := w) (base := base) T
  have nd := scAtom.nd
  refine ⟨_, pss_cons (ps_set (i := 2) nd rfl (.inl rfl) (pe_f GD hr1 (pa_cons (pv 0) (pa_cons pe_int pa_nil))))
    (pss_cons (ps_if (pt_cmpR op_lt (pv 2) pe_int (nomark _)) (pss_one (ps_ret (pe_tup (pa_cons (pe_ix ix_list (pe_lst (pa_cons pe_str (pa_cons pe_str (pa_cons pe_str pa_nil)))) (pv 2) (fun _ _ => rfl)) (pa_cons pe_non pa_nil))))) pss_nil)
    (C8.pss_cut (ps_set (i := 3) nd rfl (.inl rfl) (pe_ifExp (pt_cmpR op_lt (pv 2) pe_int (nomark _)) (pe_f GS hr2 (pa_cons (pv 0) (pa_cons (pe_lst (pa_cons (pe_f GI hr (pa_cons (pv 0) pa_nil)) (pa_cons (pe_f GT hr (pa_cons (pv 0) pa_nil)) pa_nil))) pa_nil))) (pe_f GS hr2 (pa_cons (pv 0) (pa_cons (pv 1) pa_nil)))))
    (pss_one (ps_ret (pe_tup (pa_cons (pe_ifExp (pt_val (pe_callB call_isi rfl (T.free "isinstance") boot_isinstance (pa_cons (pv 3) (pa_cons (pe_bltn (v := .ty "str") (by rfl) (T.free "str") boot_str rfl) pa_nil)))) pe_str pe_str) (pa_cons (pv 3) pa_nil))))))), ?_⟩
  refine ⟨_, rfl, d, 9, rfl, D, by decide, by decide, fun f H1 f0 f1 S1 D1 => ?_⟩
  refine ⟨_, rfl, _, _, rfl, rfl, _, rfl, ?_⟩
  refine ite2 (fun c => ?_) (fun _ => ?_)
  · have f3 : f < 3 := of_decide_eq_true c
    refine ⟨by show 3 ≤ sizeLine; decide, fun l hl => ⟨_, rfl, ?_⟩⟩
    have S2 := same_new hl (.lst [.str "null", .str "true", .str "false"])
    have hf : f = 0 ∨ f = 1 ∨ f = 2 := by omega
    have go : ∀ (z : PySem.Str) (m : PV), (∀ (H : Hp) (p : Addr), H p = some (.tup [.str z, .non]) → MAtom H (.ref p) m) → ∀ p, (upd H1 l (.lst [.str "null", .str "true", .str "false"])) p = none → Q (.ref p) (upd (upd H1 l (.lst [.str "null", .str "true", .str "false"])) p (.tup [.str z, .non])) := by
      intro z m hm p hp
      have nd1 : l ≠ d := D1.ne hl
      have D2 := D1.set (o := .lst [.str "null", .str "true", .str "false"]) nd1
      have nd2 : p ≠ d := D2.ne hp
      exact q _ m _ ((S1.trans (Sm.of S2)).trans (Sm.of (same_new hp _))) (D2.set nd2) (hm _ _ ((wo_ne nd2).trans upd_same))
    rcases hf with rfl | rfl | rfl
    · exact ⟨l, _, _, _, rfl, rfl, SqL.of upd_same, rfl, by show 2 ≤ sizeLine; decide, go "null" .non fun H p h => ⟨p, rfl, h⟩⟩
    · exact ⟨l, _, _, _, rfl, rfl, SqL.of upd_same, rfl, by show 2 ≤ sizeLine; decide, go "true" (.bl true) fun H p h => ⟨p, rfl, h⟩⟩
    · exact ⟨l, _, _, _, rfl, rfl, SqL.of upd_same, rfl, by show 2 ≤ sizeLine; decide, go "false" (.bl false) fun H p h => ⟨p, rfl, h⟩⟩
  refine ⟨fun σ' H' => ∃ k : L2.Key, σ' = [some (.ref d), some (.ref a), some (.int f), some (kV k)] ∧ Sm d H H' ∧ DrAt H' d, ?_, ?_⟩
  · refine ⟨_, rfl, _, _, rfl, rfl, _, rfl, ?_⟩
    refine ite2 (fun _ => ?_) (fun _ => ?_)
    · refine ⟨_, rfl, _, rfl, d, rfl, D1, fun n H2 _ _ S2 D2 => ⟨_, rfl, d, rfl, D2, fun z H3 _ S3 D3 => ⟨by show 2 ≤ sizeLine; decide, fun p hp => ?_⟩⟩⟩
      have nd2 := D3.ne hp
      refine ⟨d, _, fun x => ∃ k : L2.Key, x = kV k, rfl, D3.set nd2, .inl ⟨p, _, rfl, SqL.of ((wo_ne nd2).trans upd_same), Nat.succ_pos 1, (by show 2 ≤ 1000; decide), fun x hx => ?_⟩, ?_⟩
      · rcases List.mem_cons.mp hx with rfl | hx
        · exact ⟨.inl n, rfl⟩
        · rw [List.mem_singleton.mp hx]
          exact ⟨.inr z, rfl⟩
      · rintro x H4 ⟨k, rfl⟩ S4 D4
        exact ⟨k, rfl, (((S1.trans S2).trans S3).trans (Sm.of (same_new hp _))).trans S4, D4⟩
    · refine ⟨_, rfl, _, rfl, d, _, fun x => ∃ k : L2.Key, x = kV k, rfl, D1, .inl ⟨a, _, rfl, seq_mono S1 ha, by rw [List.length_map]; exact a0, by rw [List.length_map]; exact a1, fun x hx => key_of hx⟩, ?_⟩
      rintro x H4 ⟨k, rfl⟩ S4 D4
      exact ⟨k, rfl, S1.trans S4, D4⟩
  rintro σ' H' ⟨k, rfl, S2, D2⟩
  refine ⟨_, rfl, kV k, .ty "str", _, _, isTx k, rfl, .ty "str", ty_key k, kit_key k, _, rfl, ?_⟩
  have fin : ∀ (z : PySem.Str), (∀ (H : Hp) (p : Addr), H p = some (.tup [.str z, kV k]) → ∃ m, MAtom H (.ref p) m) → ∀ p, H' p = none → Q (.ref p) (upd H' p (.tup [.str z, kV k])) := by
    intro z hm p hp
    have nd2 := D2.ne hp
    obtain ⟨m, hm⟩ := hm (Wo d (upd H' p (.tup [.str z, kV k]))) p ((wo_ne nd2).trans upd_same)
    exact q _ m _ (S2.trans (Sm.of (same_new hp _))) (D2.set nd2) hm
  cases k with
  | inl i => exact iteF ⟨_, rfl, by show 2 ≤ sizeLine; decide, fin "integer" fun H p h => ⟨.int i, p, rfl, h⟩⟩
  | inr z => exact iteT ⟨_, rfl, by show 2 ≤ sizeLine; decide, fin "text" fun H p h => ⟨.str z, p, rfl, h⟩⟩
end
theorem iteP {c : Bool} {A B : Prop} (e : c = true) (h : A) : if c = true then A else B := by
  rw [if_pos e]
  exact h
theorem iteN {c : Bool} {A B : Prop} (e : c = false) (h : B) : if c = true then A else B := by
  rw [if_neg (by rw [e]; decide)]
  exact h
theorem hd_ne : ∀ {D : List Addr} {H : Hp} {b c : Addr} {o : HO}, c ≠ b → Hd D (upd H b o) c = Hd D H c
  | [], _, _, _, _, h => upd_ne h
  | d :: D, H, b, c, o, h => by
    show Wo d (Hd D (upd H b o)) c = Wo d (Hd D H) c
    unfold Wo
    rw [hd_ne h]
theorem hd_upd_in {D : List Addr} {H : Hp} {b : Addr} {o : HO} (h : b ∈ D) : Hd D (upd H b o) = Hd D H := by
  funext c
  by_cases e : c = b
  · rw [e, hd_in h, hd_in h]
  · exact hd_ne e
theorem erase_kV : ∀ (ls : List L2.Key) (j : Nat), (ls.map kV).eraseIdx j = (ls.eraseIdx j).map kV
  | [], j => by simp
  | a :: r, 0 => by simp
  | a :: r, j + 1 => by
    have ih := erase_kV r j
    simp [ih]
theorem erase_no : ∀ {ls : List L2.Key} {j : Nat} (_ : ls.Nodup) (hj : j < ls.length), ls[j] ∉ ls.eraseIdx j
  | a :: r, 0, nd, _ => by
    have := (List.nodup_cons.mp nd).1
    simpa using this
  | a :: r, j + 1, nd, hj => by
    have h1 := (List.nodup_cons.mp nd).1
    have ih := erase_no (ls := r) (j := j) (List.nodup_cons.mp nd).2 (by simpa using hj)
    have hm : r[j]'(by simpa using hj) ∈ r := List.getElem_mem _
    simp only [List.getElem_cons_succ, List.eraseIdx_cons_succ, List.mem_cons, not_or]
    exact ⟨fun e => h1 (by rw [← e]; exact hm), ih⟩
section
variable {P : Program} {w : World} {K : PySem.W.Frag} {mg : PySem.Str → Option Value} {base : Heap}
theorem cl_atom (T : Tx K mg) : Cl P w K mg base 4 "_law_atom" (spAtom K) := ⟨T.glo _, (let ⟨_, F⟩ := F_Latom T; F.kp), ok_atom T⟩
/-! ### a row or a table of models -/
def spCont (K : PySem.W.Frag) : Sp := fun vs H Q _ => ∃ (d kl il : Addr) (ks : List L2.Key) (xs : List V) (ms : List PV) (n : Nat), vs = [.ref d, .ref kl, .ref il] ∧ DrAt H d ∧ SqL K (Wo d H) kl (ks.map kV) ∧ ks.Nodup ∧ ks.length ≤ 100 ∧
  SqL K (Wo d H) il xs ∧ xs.length ≤ 50 ∧ Paired (MAt ks n (Wo d H)) xs ms ∧ ∀ (r : V) (m : PV) (H' : Hp), Sm d H H' → DrAt H' d → MAt ks (n + 1) (Wo d H') r m → Q r H'
abbrev nCont : List PySem.Str := ["_law_draws_here", "_law_keys_here", "_law_items", "_law_sort", "_law_left", "_law_rows", "_law_item"]
theorem scCont : FnScope nCont ["_law_draws_here", "_law_keys_here", "_law_items"] (defScope s_Lcontainer) := ⟨rfl, rfl, rfl, by decide +kernel, rfl, by decide +kernel, by decide +kernel⟩
/-- the loop's state: the keys that are left, the entries made -/
structure CSt (d : Addr) (H : Hp) (lf rw : Addr) (ks : List L2.Key) (n j : Nat) (ls : List L2.Key) (rs : List V) (kvs : List (L2.Key × PV)) (H2 : Hp) : Prop where
  l : H2 lf = some (.lst (ls.map kV))
  r : H2 rw = some (.lst rs)
  nd : ls.Nodup
  sub : ∀ k ∈ ls, k ∈ ks
  ll : ls.length ≤ 100
  len : rs.length ≤ j
  nk : (kvs.map (·.1)).Nodup
  ink : ∀ kv ∈ kvs, kv.1 ∈ ks ∧ kv.1 ∉ ls
  ent : Paired (MEnt (MAt ks n (Hd [lf, rw, d] H2)) (Hd [lf, rw, d] H2)) rs kvs
  sm : Sm d H H2
  dr : DrAt H2 d
theorem ent_mono {ks : List L2.Key} {n : Nat} {G G' : Hp} (S : Same G G') {rs : List V} {kvs : List (L2.Key × PV)} (h : Paired (MEnt (MAt ks n G) G) rs kvs) : Paired (MEnt (MAt ks n G') G') rs kvs :=
  h.mono fun _ _ ⟨a, x, e, q, m⟩ => ⟨a, x, e, S _ _ q, m.mono S⟩
theorem CSt.move {d lf rw : Addr} {H H2 H3 : Hp} {ks ls : List L2.Key} {n j : Nat} {rs : List V} {kvs : List (L2.Key × PV)} (h : CSt d H lf rw ks n j ls rs kvs H2) (n1 : lf ≠ d) (n2 : rw ≠ d) (S : Sm d H2 H3) (D : DrAt H3 d) : CSt d H lf rw ks n j ls rs kvs H3 :=
  ⟨S.at h.l n1, S.at h.r n2, h.nd, h.sub, h.ll, h.len, h.nk, h.ink, ent_mono (wo_same (wo_same S)) h.ent, h.sm.trans S, D⟩
theorem ok_container (T : Tx K mg) : FnR P w K mg base CX0 3 (He.ga K "_law_container") (spCont K) := by
  obtain ⟨fd, F⟩ := F_Lcontainer T
  refine okR F scCont (fun _ _ _ _ _ _ us hl => match us, hl with | [_, _, _], _ => rfl) (fun vs H Q E h => ?_) fun cdv A outer s H vs Q E hr h => ?_
  · obtain ⟨d, kl, il, ks, xs, ms, n, rfl, _⟩ := h
    rfl
  obtain ⟨d, kl, il, ks, xs, ms, n, rfl, D, hk, kn, k100, hi, hx, hm, q⟩ := h
  have hr1 : Room 1 _ := hr.mono (by decide)
  have GD := cl_draw (P := P) (w := w) (base := base) T
  have GS := cl_some (P := P) (w := w) (base := base) T
  have nd := scCont.nd
  have tl := T.free "list"
  have bl : bootBuiltins "list" = some (.type "list") := by decide +kernel
  refine ⟨_, pss_cons (ps_set (i := 3) nd rfl (.inl rfl) (pe_f GS hr (pa_cons (pv 0) (pa_cons (pe_lst (pa_cons pe_str (pa_cons pe_str (pa_cons pe_str (pa_cons pe_str pa_nil))))) pa_nil))))
    (pss_cons (ps_if (pt_cmpR op_ne (pv 3) pe_str (nomark _)) (pss_one (ps_ret (pe_tup (pa_cons (pv 3) (pa_cons (pe_callTy call_list_of rfl tl bl (pa_cons (pv 2) pa_nil)) pa_nil))))) pss_nil)
    (pss_cons (ps_par (i := 4) (j := 5) (by rfl) nd rfl rfl (by decide) rfl rfl (pa_cons (pe_callTy call_list_of rfl tl bl (pa_cons (pv 1) pa_nil)) (pa_cons (pe_lst pa_nil) pa_nil)) (by rfl))
    (pss_cons (ps_for PassesOwn.never rfl (pi_list (pv 2)) (pg_name (i := 6) nd rfl (.inl rfl))
      (pss_one (ps_if (pt_cmpR (op_neF hr.units0) (pv 4) (pe_lst pa_nil) (nomark _))
        (pss_one (ps_expr (pe_bm PySem.F.plainAttrs_list PySem.F.slot_list_append PySem.F.type_list_append mt_append (pv 5) (pa_cons (pe_tup (pa_cons (pe_bm PySem.F.plainAttrs_list PySem.F.slot_list_pop PySem.F.type_list_pop mt_popAt (pv 4)
          (pa_cons (pe_f GD hr1 (pa_cons (pv 0) (pa_cons (pe_callB call_len_seq rfl (T.free "len") boot_len (pa_cons (pv 4) pa_nil)) pa_nil))) pa_nil)) (pa_cons (pv 6) pa_nil))) pa_nil)))) pss_nil)))
    (pss_one (ps_ret (pe_tup (pa_cons pe_str (pa_cons (pv 5) pa_nil)))))))), ?_⟩
  refine ⟨_, rfl, by show 4 ≤ sizeLine; decide, fun p0 hp0 => ?_⟩
  have np0 := D.ne hp0
  have S0 := same_new hp0 (.lst [.str "list", .str "tuple", .str "table", .str "table"])
  refine ⟨d, _, fun x => x = .str "list" ∨ x = .str "tuple" ∨ x = .str "table", rfl, D.set np0, .inl ⟨p0, _, rfl, SqL.of ((wo_ne np0).trans upd_same), Nat.succ_pos 3, (by show 4 ≤ 1000; decide), fun x hx => ?_⟩, ?_⟩
  · simp only [List.mem_cons, List.not_mem_nil, or_false] at hx
    rcases hx with rfl | rfl | rfl | rfl <;> simp
  intro x H1 hx1 S1 D1
  have S01 : Sm d H H1 := (Sm.of S0).trans S1
  -- a row
  have row : ∀ (z : PySem.Str), (∀ (G : Hp) (v : V), MRow z (MAt ks n G) G v ms → ∃ m, MAt ks (n + 1) G v m) → ∀ l, H1 l = none → ∀ p, (upd H1 l (.lst xs)) p = none → Q (.ref p) (upd (upd H1 l (.lst xs)) p (.tup [.str z, .ref l])) := by
    intro z hz l hl p hp
    have n1 := D1.ne hl
    have D2 := D1.set (o := .lst xs) n1
    have n2 := D2.ne hp
    have Sx : Sm d H (upd (upd H1 l (.lst xs)) p (.tup [.str z, .ref l])) := (S01.trans (Sm.of (same_new hl _))).trans (Sm.of (same_new hp _))
    have npl : l ≠ p := fun e => by
      rw [e, upd_same] at hp
      cases hp
    obtain ⟨m, hm2⟩ := hz (Wo d (upd (upd H1 l (.lst xs)) p (.tup [.str z, .ref l]))) (.ref p) ⟨p, l, xs, rfl, (wo_ne n2).trans upd_same, (wo_ne n1).trans ((upd_ne npl).trans upd_same), by omega, hm.mono fun _ _ a => a.mono Sx⟩
    exact q _ m _ Sx (D2.set n2) hm2
  have rows : ∀ z : PySem.Str, x = .str z → z ≠ "table" → (∀ (G : Hp) (v : V), MRow z (MAt ks n G) G v ms → ∃ m, MAt ks (n + 1) G v m) → True := fun _ _ _ _ => trivial
  rcases hx1 with rfl | rfl | rfl
  · refine ⟨_, rfl, rfl, _, rfl, iteP (by decide +kernel) ?_⟩
    exact ⟨_, rfl, _, rfl, il, xs, rfl, .inl (seq_mono wo_sub (seq_mono S01 hi)), fun l hl => ⟨by show 2 ≤ sizeLine; decide, row "list" (fun G v h => ⟨.lst ms, h⟩) l hl⟩⟩
  · refine ⟨_, rfl, rfl, _, rfl, iteP (by decide +kernel) ?_⟩
    exact ⟨_, rfl, _, rfl, il, xs, rfl, .inl (seq_mono wo_sub (seq_mono S01 hi)), fun l hl => ⟨by show 2 ≤ sizeLine; decide, row "tuple" (fun G v h => ⟨.tup ms, h⟩) l hl⟩⟩
  refine ⟨_, rfl, rfl, _, rfl, iteN (by decide +kernel) ?_⟩
  refine ⟨_, rfl, kl, _, rfl, .inl (seq_mono wo_sub (seq_mono S01 hk)), fun lf hlf => ⟨Nat.zero_le _, fun rw_ hrw => ⟨_, _, rfl, ?_⟩⟩⟩
  have n1 : lf ≠ d := D1.ne hlf
  have D2 := D1.set (o := .lst (ks.map kV)) n1
  have n2 : rw_ ≠ d := D2.ne hrw
  have nlr : lf ≠ rw_ := fun e => by
    rw [e, upd_same] at hrw
    cases hrw
  have Slf := same_new hlf (.lst (ks.map kV))
  have Srw := same_new hrw (.lst [])
  have lf0 : H lf = none := S01.none hlf n1
  have rw0 : H rw_ = none := S01.none (Slf.free hrw) n2
  have Sx : Sm d H (upd (upd H1 lf (.lst (ks.map kV))) rw_ (.lst [])) := (S01.trans (Sm.of Slf)).trans (Sm.of Srw)
  have base0 : CSt d H lf rw_ ks n 0 ks [] [] (upd (upd H1 lf (.lst (ks.map kV))) rw_ (.lst [])) :=
    ⟨(upd_ne nlr).trans upd_same, upd_same, kn, fun _ h => h, k100, Nat.le_refl _, List.nodup_nil, (fun kv h => by cases h), .nil, Sx, D2.set n2⟩
  have tk : ∀ H2 : Hp, (∃ ls rs kvs j, CSt d H lf rw_ ks n j ls rs kvs H2) → Tkn [lf, rw_, d] H2 := by
    rintro H2 ⟨ls, rs, kvs, j, R⟩ b hb
    simp only [List.mem_cons, List.not_mem_nil, or_false] at hb
    rcases hb with rfl | rfl | rfl
    · rw [R.l]
      exact fun z => by cases z
    · rw [R.r]
      exact fun z => by cases z
    · obtain ⟨o, e⟩ := R.dr.some
      rw [e]
      exact fun z => by cases z
  have old : ∀ H2 : Hp, Sm d H H2 → Same (Wo d H) (Hd [lf, rw_, d] H2) := fun H2 S b o h => by
    have h2 := S b o h
    have hb : H b = some o := wo_sub b o h
    have e1 : b ≠ lf := ne_of_none hb lf0
    have e2 : b ≠ rw_ := ne_of_none hb rw0
    show Wo lf (Wo rw_ (Wo d H2)) b = some o
    rw [wo_ne e1, wo_ne e2]
    exact h2
  refine ⟨_, rfl, il, rfl, ⟨_, seq_mono wo_sub (seq_mono Sx hi)⟩, for_list (K := K) (a := il) (xs := xs) (fun j σ H2 => ∃ (ls : List L2.Key) (rs : List V) (kvs : List (L2.Key × PV)) (v6 : Option V),
    σ = [some (.ref d), some (.ref kl), some (.ref il), some (.str "table"), some (.ref lf), some (.ref rw_), v6] ∧ CSt d H lf rw_ ks n j ls rs kvs H2) ⟨ks, [], [], none, rfl, base0⟩ (fun j σ H2 _ ⟨_, _, _, _, _, R⟩ => seq_mono wo_sub (seq_mono R.sm hi)) ?_ ?_⟩
  · rintro j v σ H2 hj ⟨ls, rs, kvs, v6, rfl, R⟩
    have hjx : j < xs.length := (List.getElem?_eq_some_iff.mp hj).1
    obtain ⟨m, _, hvm⟩ := paired_get hm hj
    refine ⟨_, rfl, Nat.zero_le _, fun pn hpn => ?_⟩
    have Sn := same_new hpn (.lst [])
    have R2 := R.move n1 n2 (Sm.of Sn) (R.dr.set (R.dr.ne hpn))
    refine ⟨lf, pn, ls.map kV, [], rfl, rfl, SqL.of R2.l, SqL.of upd_same, flat_kVs ls, rfl, _, rfl, ?_⟩
    show (if (!eqL (ls.map kV) []) = true then _ else _)
    rw [eqL_nil]
    by_cases c : ls = []
    · subst c
      refine iteF ⟨[], rs, kvs, some v, rfl, R2.l, R2.r, R2.nd, R2.sub, R2.ll, Nat.le_succ_of_le R2.len, R2.nk, R2.ink, R2.ent, R2.sm, R2.dr⟩
    · have lpos : 0 < ls.length := List.length_pos_iff.mpr c
      have c2 : ¬ ls.map kV = [] := fun e => c (List.map_eq_nil_iff.mp e)
      rw [decide_eq_false c2]
      refine iteT ⟨_, rfl, .inl ⟨rfl, _, SqL.of R2.r⟩, _, rfl, .inl ⟨rfl, _, SqL.of R2.l⟩, _, rfl, _, rfl, lf, _, rfl, .inl (SqL.of R2.l), d, _, rfl, R2.dr, ?_, ?_, fun r H3 r0 r1 S3 D3 => ?_⟩
      · rw [List.length_map]
        omega
      · have := R2.ll
        rw [List.length_map]
        omega
      rw [List.length_map] at r1
      have R3 := R2.move n1 n2 S3 D3
      have hr0 : r.toNat < ls.length := by omega
      have sx : seqIndex? r (ls.map kV).length = some r.toNat := by
        rw [List.length_map]
        unfold seqIndex?
        simp only [if_neg (show ¬ r < 0 by omega)]
        rw [if_pos (by simp; omega)]
      refine ⟨lf, _, r, r.toNat, kV ls[r.toNat], rfl, rfl, R3.l, by omega, by have := R3.ll; omega, sx, by rw [List.getElem?_map, List.getElem?_eq_getElem hr0]; rfl, _, rfl, by show 2 ≤ sizeLine; decide, fun p hp => ?_⟩
      rw [erase_kV] at hp ⊢
      have R4r : (upd H3 lf (.lst ((ls.eraseIdx r.toNat).map kV))) rw_ = some (.lst rs) := (upd_ne nlr.symm).trans R3.r
      have nrp : rw_ ≠ p := ne_of_none R4r hp
      have nlp : lf ≠ p := ne_of_none upd_same hp
      have D4 := R3.dr.set (o := .lst ((ls.eraseIdx r.toNat).map kV)) n1
      have npd := D4.ne hp
      have e1 : Hd [lf, rw_, d] (upd H3 lf (.lst ((ls.eraseIdx r.toNat).map kV))) = Hd [lf, rw_, d] H3 := hd_upd_in (by simp)
      refine ⟨rw_, rs, _, rfl, rfl, (upd_ne nrp).trans R4r, by have := R3.len; rw [sizeLine_eq]; omega, ?_⟩
      have e2 : ∀ o u, Hd [lf, rw_, d] (upd (upd (upd H3 lf (.lst ((ls.eraseIdx r.toNat).map kV))) p o) rw_ u) = Hd [lf, rw_, d] (upd (upd H3 lf (.lst ((ls.eraseIdx r.toNat).map kV))) p o) := fun o u => hd_upd_in (by simp)
      have S4 : ∀ o, Same (Hd [lf, rw_, d] H3) (Hd [lf, rw_, d] (upd (upd H3 lf (.lst ((ls.eraseIdx r.toNat).map kV))) p o)) := fun o => by
        rw [← e1]
        exact hd_same _ (same_new hp o)
      have pD : p ∉ [lf, rw_, d] := by
        simp only [List.mem_cons, List.not_mem_nil, or_false, not_or]
        exact ⟨fun e => nlp e.symm, fun e => nrp e.symm, npd⟩
      have hsm : Sm d H (upd (upd H3 lf (.lst ((ls.eraseIdx r.toNat).map kV))) p (.tup [kV ls[r.toNat], v])) := (sm_set R3.sm lf0).trans (Sm.of (same_new hp _))
      refine ⟨ls.eraseIdx r.toNat, rs ++ [.ref p], kvs ++ [(ls[r.toNat], m)], some v, rfl, (upd_ne nlr).trans ((upd_ne nlp).trans upd_same), upd_same, R3.nd.sublist (List.eraseIdx_sublist _ _), fun k hk => R3.sub k (List.mem_of_mem_eraseIdx hk), ?_, ?_, ?_, ?_, ?_, sm_set hsm rw0, (D4.set npd).set n2⟩
      · exact Nat.le_trans (List.eraseIdx_sublist _ _).length_le R3.ll
      · rw [List.length_append, List.length_singleton]
        have := R3.len
        omega
      · rw [List.map_append]
        refine List.nodup_append.mpr ⟨R3.nk, List.nodup_cons.mpr ⟨by simp, List.nodup_nil⟩, fun a ha b hb e => ?_⟩
        rw [List.mem_singleton.mp hb] at e
        obtain ⟨kv, hkv, ea⟩ := List.mem_map.mp ha
        have z := (R3.ink kv hkv).2
        rw [show kv.1 = ls[r.toNat] from ea.trans e] at z
        exact z (List.getElem_mem hr0)
      · intro kv hkv
        rcases List.mem_append.mp hkv with hkv | hkv
        · exact ⟨(R3.ink kv hkv).1, fun z => (R3.ink kv hkv).2 (List.mem_of_mem_eraseIdx z)⟩
        · rw [List.mem_singleton.mp hkv]
          exact ⟨R3.sub _ (List.getElem_mem hr0), erase_no R3.nd hr0⟩
      · rw [e2]
        refine (ent_mono (S4 _) R3.ent).snoc ⟨p, v, rfl, (hd_out pD).trans upd_same, ?_⟩
        exact (hvm.mono (old H3 R3.sm)).mono (S4 _)
  · rintro σ H2 ⟨ls, rs, kvs, v6, rfl, R⟩
    refine ⟨_, rfl, by show 2 ≤ sizeLine; decide, fun p hp => ?_⟩
    have np := R.dr.ne hp
    have Sp_ : Sm d H2 (upd H2 p (.tup [.str "table", .ref rw_])) := Sm.of (same_new hp _)
    refine q _ (.tab kvs) _ (R.sm.trans Sp_) (R.dr.set np) ?_
    have nrp : rw_ ≠ p := fun e => by
      rw [← e, R.r] at hp
      cases hp
    exact ⟨p, rw_, rs, rfl, (wo_ne np).trans upd_same, (wo_ne n2).trans ((upd_ne nrp).trans R.r), by have := R.len; omega, R.nk, fun kv h => (R.ink kv h).1, ent_mono ((wo_sub.trans wo_sub).trans Sp_) R.ent⟩
end
/-- what stands at the places of D is another matter -/
theorem hd_sm {D : List Addr} {d : Addr} {H H' : Hp} (h : d ∈ D) (S : Sm d H H') : Same (Hd D H) (Hd D H') := fun b o e => by
  by_cases q : b ∈ D
  · rw [hd_in q] at e
    cases e
  · rw [hd_out q] at e ⊢
    exact S.at e fun z => q (by rw [z]; exact h)
theorem hd_new {d l : Addr} {H : Hp} {o : HO} (h : H l = none) : Same (Wo d H) (Hd [l, d] (upd H l o)) := fun b u e => by
  have hb : H b = some u := wo_sub b u e
  have e1 : b ≠ l := ne_of_none hb h
  show Wo l (Wo d (upd H l o)) b = some u
  rw [wo_ne e1]
  by_cases q : b = d
  · rw [q, wo_eq] at e
    cases e
  · rw [wo_ne q, upd_ne e1]
    exact hb
theorem cut_lo (xs : List V) (n : Nat) (h : n ≤ xs.length) : cutV xs (some (n : Int)) none = xs.drop n := by
  unfold cutV
  rw [HT.sIx_none, show HT.sIx xs.length 0 (some (n : Int)) = min n xs.length from HT.sIx_nat xs.length 0 n, Nat.min_eq_left h, List.take_of_length_le (by rw [List.length_drop]; exact Nat.le_refl _)]
structure MRw where
  a : Addr
  dep : Int
  t : V
  m : PV
section
variable {P : Program} {w : World} {K : PySem.W.Frag} {mg : PySem.Str → Option Value} {base : Heap}
theorem cl_container (T : Tx K mg) : Cl P w K mg base 3 "_law_container" (spCont K) := ⟨T.glo _, (let ⟨_, F⟩ := F_Lcontainer T; F.kp), ok_container T⟩
/-! ### a model -/
def spModel (K : PySem.W.Frag) : Sp := fun vs H Q _ => ∃ (d kl al : Addr) (ks as : List L2.Key) (m : Int), vs = [.ref d, .ref kl, .ref al, .int m] ∧ DrAt H d ∧ SqL K (Wo d H) kl (ks.map kV) ∧ ks.Nodup ∧ ks.length ≤ 100 ∧
  SqL K (Wo d H) al (as.map kV) ∧ 0 < as.length ∧ as.length ≤ 1000 ∧ 0 < m ∧ m ≤ 18 ∧ ∀ (r : V) (p : PV) (H' : Hp), Sm d H H' → DrAt H' d → MAt ks 11 (Wo d H') r p → Q r H'
abbrev nModel : List PySem.Str := ["_law_draws_here", "_law_keys_here", "_law_atoms", "_law_most", "_law_left", "_law_turn", "_law_many", "_law_inner", "_law_depth", "_law_outer", "_law_row"]
theorem scModel : FnScope nModel ["_law_draws_here", "_law_keys_here", "_law_atoms", "_law_most"] (defScope s_Lmodel) := ⟨rfl, rfl, rfl, by decide +kernel, rfl, by decide +kernel, by decide +kernel⟩
def rowOk (ks : List L2.Key) (G : Hp) (q : MRw) : Prop := G q.a = some (.tup [.int q.dep, q.t]) ∧ 0 ≤ q.dep ∧ q.dep ≤ 10 ∧ MAt ks q.dep.toNat G q.t q.m
theorem rowOk.mono {ks : List L2.Key} {G G' : Hp} (S : Same G G') {q : MRw} (h : rowOk ks G q) : rowOk ks G' q := ⟨S _ _ h.1, h.2.1, h.2.2.1, h.2.2.2.mono S⟩
abbrev rfs (rs : List MRw) : List V := rs.map fun q => .ref q.a
structure MSt (d : Addr) (H : Hp) (ks : List L2.Key) (l : Addr) (rs : List MRw) (H2 : Hp) : Prop where
  at_ : H2 l = some (.lst (rfs rs))
  ok : ∀ q ∈ rs, rowOk ks (Hd [l, d] H2) q
  ne : l ≠ d
  l0 : H l = none
  sm : Sm d H H2
  dr : DrAt H2 d
theorem MSt.move {d l : Addr} {H H2 H3 : Hp} {ks : List L2.Key} {rs : List MRw} (h : MSt d H ks l rs H2) (S : Sm d H2 H3) (D : DrAt H3 d) : MSt d H ks l rs H3 :=
  ⟨S.at h.at_ h.ne, fun q hq => (h.ok q hq).mono (hd_sm (by simp) S), h.ne, h.l0, h.sm.trans S, D⟩
theorem MSt.new {d l p : Addr} {H H2 : Hp} {ks : List L2.Key} {rs : List MRw} {o : HO} (h : MSt d H ks l rs H2) (hp : H2 p = none) : MSt d H ks l rs (upd H2 p o) := h.move (Sm.of (same_new hp _)) (h.dr.set (h.dr.ne hp))
/-- what the rows' comprehension reads -/
theorem lc_rows {σ : L2.St} {H1 : Hp} {D a : Addr} {rs : List MRw} {f : MRw → V} {i : Int} {Qd : Hp → Prop} (hD : H1 D = none) (ha : H1 a = some (.lst (rfs rs))) (hr : ∀ q ∈ rs, H1 q.a = some (.tup [.int q.dep, q.t])) (hf : ∀ q : MRw, atI [V.int q.dep, q.t] i = some (f q)) (hl : rs.length ≤ 1000)
    (h10 : 10 < σ.length) (hq : Qd (upd H1 D (.lst (rs.map f)))) :
    ∃ W : Nat → Nat → Hp → Prop, (∃ m, W 0 m (upd H1 D (.lst []))) ∧ ∀ j m H, W j m H →
      ((Itl K a).stop j H ∧ Qd H) ∨ ((Itl K a).go j H ∧ ∃ Nx : Hp → Prop, (∀ H', Nx H' → ∃ m', m' < m ∧ W (j + 1) m' H') ∧ ∀ x H', (Itl K a).yld j H x H' → gName 10 x (wipe σ [10]) H' fun σ2 H2 => wipe σ2 [10] = wipe σ [10] ∧ tYes σ2 H2 fun b H3 =>
        if b = true then tOp (rIxT K) (tVar 10) (tC (.int i)) σ2 H3 fun y H4 => ∃ acc, H4 D = some (.lst acc) ∧ acc.length < sizeLine ∧ Nx (upd H4 D (.lst (acc ++ [y]))) else Nx H3) := by
  have nD : ∀ {b : Addr} {o : HO}, H1 b = some o → b ≠ D := fun h => ne_of_none h hD
  refine lc_list (K := K) (a := a) (xs := rfs rs) (fun j H6 => H6 = upd H1 D (.lst ((rs.take j).map f))) rfl (fun j H6 _ e => by rw [e]; exact SqL.of ((upd_ne (nD ha)).trans ha)) ?_ ?_
  · rintro j x H6 hx rfl
    have hj : j < rs.length := by
      have := (List.getElem?_eq_some_iff.mp hx).1
      rw [List.length_map] at this
      exact this
    obtain ⟨q, hq1, rfl⟩ : ∃ q, rs[j]? = some q ∧ x = .ref q.a := by
      rw [List.getElem?_map, List.getElem?_eq_getElem hj] at hx
      exact ⟨rs[j], List.getElem?_eq_getElem hj, (Option.some.inj hx).symm⟩
    have hq2 := hr q (List.mem_of_getElem? hq1)
    have e10 : ((wipe σ [10]).set 10 (some (V.ref q.a)))[10]? = some (some (V.ref q.a)) := List.getElem?_set_self (by rw [wipe_length]; exact h10)
    refine ⟨?_, _, e10, q.a, _, _, _, rfl, rfl, SqT.of ((upd_ne (nD hq2)).trans hq2), hf q, _, upd_same, ?_, ?_⟩
    · show ((σ.set 10 none).set 10 (some (V.ref q.a))).set 10 none = σ.set 10 none
      rw [List.set_set, List.set_set]
    · rw [List.length_map, sizeLine_eq]
      have := List.length_take_le j rs
      omega
    · rw [upd_upd, take_succ_of hq1, List.map_append]
      rfl
  · rintro H6 rfl
    rw [List.length_map, List.take_length]
    exact hq
end
section
variable {P : Program} {w : World} {K : PySem.W.Frag} {mg : PySem.Str → Option Value} {base : Heap}
theorem rfs_len (rs : List MRw) : (rfs rs).length = rs.length := List.length_map _
theorem rfs_snoc (rs : List MRw) (q : MRw) : rfs (rs ++ [q]) = rfs rs ++ [.ref q.a] := List.map_append
theorem rows_paired {ks : List L2.Key} {G : Hp} {n : Nat} : ∀ {rs : List MRw}, (∀ q ∈ rs, MAt ks n G q.t q.m) → Paired (MAt ks n G) (rs.map (·.t)) (rs.map (·.m))
  | [], _ => .nil
  | q :: rs, h => .cons (h q (List.mem_cons_self ..)) (rows_paired fun r hr => h r (List.mem_cons_of_mem _ hr))
theorem ok_model (T : Tx K mg) : FnR P w K mg base CX0 5 (He.ga K "_law_model") (spModel K) := by
  obtain ⟨fd, F⟩ := F_Lmodel T
  refine okR F scModel (fun _ _ _ _ _ _ us hl => match us, hl with | [_, _, _, _], _ => rfl) (fun vs H Q E h => ?_) fun cdv A outer s H vs Q E hr h => ?_
  · obtain ⟨d, kl, al, ks, as, m, rfl, _⟩ := h
    rfl
  obtain ⟨d, kl, al, ks, as, m, rfl, D, hk, kn, k100, ha, a0, a1, m0, m1, q⟩ := h
  have hr1 : Room 1 _ := hr.mono (by decide)
  have hr3 : Room 3 _ := hr.mono (by decide)
  have GD := cl_draw (P := P) (w := w) (base := base) T
  have GA := cl_atom (P := P) (w := w) (base := base) T
  have GC := cl_container (P := P) (w := w) (base := base) T
  have nd := scModel.nd
  have tl := T.free "len"
  refine ⟨_, pss_cons (ps_set (i := 4) nd rfl (.inl rfl) (pe_lst pa_nil))
    (pss_cons (ps_for PassesOwn.never rfl (pi_range1 (by rfl) (T.free "range") (pa_cons (pe_op op_add (pe_f GD hr1 (pa_cons (pv 0) (pa_cons (pv 3) pa_nil))) pe_int) pa_nil)) (pg_name (i := 5) nd rfl (.inl rfl))
      (pss_cons (ps_set (i := 6) nd rfl (.inl rfl) (pe_f GD hr1 (pa_cons (pv 0) (pa_cons (pe_op op_add (pe_callB (call_min2 rfl) rfl (T.free "min") boot_min (pa_cons pe_int (pa_cons (pe_callB call_len_seq rfl tl boot_len (pa_cons (pv 4) pa_nil)) pa_nil))) pe_int) pa_nil))))
      (pss_cons (ps_set (i := 7) nd rfl (.inl rfl) (pe_slice sl_list (pv 4) (po_some (pe_op op_sub (pe_callB call_len_seq rfl tl boot_len (pa_cons (pv 4) pa_nil)) (pv 6))) po_none))
      (pss_cons (ps_set (i := 8) nd rfl (.inl rfl) (pe_op op_add pe_int (pe_callB (cr_max rfl) rfl (T.free "max") boot_max (pa_cons (pe_op op_cat (pe_lst (pa_cons pe_int pa_nil)) (pe_lc (own := [("_law_row", 10)]) (g := gName 10) (tt := tYes) (te := tOp (rIxT K) (tVar 10) (tC (.int 0))) rfl nd (pi_list (pv 7)) (blkOk_by (own := [("_law_row", 10)]) (N := nModel) (sc := defScope s_Lmodel) (by decide +kernel))
            (fun _ _ _ _ _ => pg_name (i := 10) nd rfl (Or.inl rfl)) (fun _ _ _ _ _ => pts_nil) (fun _ _ _ _ _ => pe_ix ix_tup (pv 10) pe_int (fun _ _ => rfl)))) pa_nil))))
      (pss_one (ps_if (pt_j (PW.pt (pw_or (pt_cmpR op_lt (pe_f GD hr1 (pa_cons (pv 0) (pa_cons pe_int pa_nil))) pe_int (nomark _)) (pw_or1 (pt_cmpR op_gt (pv 8) pe_int (nomark _))))))
        (pss_one (ps_expr (pe_bm PySem.F.plainAttrs_list PySem.F.slot_list_append PySem.F.type_list_append mt_append (pv 4) (pa_cons (pe_tup (pa_cons pe_int (pa_cons (pe_f GA hr (pa_cons (pv 0) (pa_cons (pv 2) pa_nil))) pa_nil))) pa_nil))))
        (pss_cons (ps_set (i := 9) nd rfl (.inl rfl) (pe_f GC hr3 (pa_cons (pv 0) (pa_cons (pv 1) (pa_cons (pe_lc (own := [("_law_row", 10)]) (g := gName 10) (tt := tYes) (te := tOp (rIxT K) (tVar 10) (tC (.int 1))) rfl nd (pi_list (pv 7)) (blkOk_by (own := [("_law_row", 10)]) (N := nModel) (sc := defScope s_Lmodel) (by decide +kernel))
            (fun _ _ _ _ _ => pg_name (i := 10) nd rfl (Or.inl rfl)) (fun _ _ _ _ _ => pts_nil) (fun _ _ _ _ _ => pe_ix ix_tup (pv 10) pe_int (fun _ _ => rfl))) pa_nil))))) (pss_one (ps_set (i := 4) nd rfl (.inl rfl) (pe_op op_cat (pe_slice sl_list (pv 4) po_none (po_some (pe_op op_sub (pe_callB call_len_seq rfl tl boot_len (pa_cons (pv 4) pa_nil)) (pv 6)))) (pe_lst (pa_cons (pe_tup (pa_cons (pv 8) (pa_cons (pv 9) pa_nil))) pa_nil))))))))))))
    (pss_cons (ps_if (pt_cmpR op_eq (pe_callB call_len_seq rfl tl boot_len (pa_cons (pv 4) pa_nil)) pe_int (nomark _)) (pss_one (ps_ret (pe_ix ix_tup (pe_ix ix_list (pv 4) pe_int (fun _ _ => rfl)) pe_int (fun _ _ => rfl)))) pss_nil) (pss_one (ps_ret (pe_f GC hr3 (pa_cons (pv 0) (pa_cons (pv 1) (pa_cons (pe_lc (own := [("_law_row", 10)]) (g := gName 10) (tt := tYes) (te := tOp (rIxT K) (tVar 10) (tC (.int 1))) rfl nd (pi_list (pv 4)) (blkOk_by (own := [("_law_row", 10)]) (N := nModel) (sc := defScope s_Lmodel) (by decide +kernel))
            (fun _ _ _ _ _ => pg_name (i := 10) nd rfl (Or.inl rfl)) (fun _ _ _ _ _ => pts_nil) (fun _ _ _ _ _ => pe_ix ix_tup (pv 10) pe_int (fun _ _ => rfl))) pa_nil)))))))), ?_⟩
  refine ⟨Nat.zero_le _, fun l hl => ?_⟩
  have st0 : MSt d H ks l [] (upd H l (.lst [])) := ⟨upd_same, (fun q hq => by cases hq), D.ne hl, hl, Sm.of (same_new hl _), D.set (D.ne hl)⟩
  refine ⟨_, rfl, _, rfl, d, m, rfl, st0.dr, m0, by omega, fun r H1 r0 r1 S1 D1 => ⟨_, _, rfl, rfl, r + 1, rfl, by omega, by omega, ?_⟩⟩
  refine for_range (lo := 0) (n := (r + 1).toNat) (fun i σ H2 => ∃ (l : Addr) (rs : List MRw) (v5 v6 v7 v8 v9 : Option V), σ = [some (.ref d), some (.ref kl), some (.ref al), some (.int m), some (.ref l), v5, v6, v7, v8, v9, none] ∧ rs.length ≤ i ∧ MSt d H ks l rs H2)
    ⟨l, [], none, none, none, none, none, rfl, Nat.le_refl _, st0.move S1 D1⟩ ?_ ?_
  · rintro i σ H2 hi ⟨l, rs, v5, v6, v7, v8, v9, rfl, hlen, R⟩
    have i18 : i < 18 := by omega
    -- many
    refine ⟨_, rfl, _, rfl, l, _, rfl, .inl (SqL.of R.at_), _, _, rfl, _, _, rfl, rfl, d, _, rfl, R.dr, ?_, ?_, fun many H3 y0 y1 S3 D3 => ?_⟩
    · rw [rfs_len]
      split <;> omega
    · rw [rfs_len]
      split <;> omega
    rw [rfs_len] at y1
    have ym : many.toNat ≤ rs.length := by
      split at y1 <;> omega
    have R3 := R.move S3 D3
    -- inner
    refine ⟨_, rfl, _, rfl, l, _, rfl, .inl (SqL.of R3.at_), _, rfl, _, _, rfl, rfl, _, rfl, l, _, rfl, SqL.of R3.at_, fun p hp => ?_⟩
    have e1 : ((rfs rs).length : Int) - many = ((rs.length - many.toNat : Nat) : Int) := by
      rw [rfs_len]
      omega
    rw [e1, cut_lo _ _ (by rw [rfs_len]; omega), show (rfs rs).drop (rs.length - many.toNat) = rfs (rs.drop (rs.length - many.toNat)) from List.map_drop.symm]
    have R4 := R3.new (o := .lst (rfs (rs.drop (rs.length - many.toNat)))) hp
    have hp4 : (upd H3 p (.lst (rfs (rs.drop (rs.length - many.toNat))))) p = some (.lst (rfs (rs.drop (rs.length - many.toNat)))) := upd_same
    have ok4 := R4.ok
    generalize upd H3 p (.lst (rfs (rs.drop (rs.length - many.toNat)))) = H4 at R4 hp4 ok4 ⊢
    have inok : ∀ q ∈ rs.drop (rs.length - many.toNat), rowOk ks (Hd [l, d] H4) q := fun q hq => ok4 q (List.mem_of_mem_drop hq)
    have inlen : (rs.drop (rs.length - many.toNat)).length ≤ 50 := by
      rw [List.length_drop]
      omega
    generalize rs.drop (rs.length - many.toNat) = inn at hp4 inok inlen ⊢
    -- depth
    refine ⟨by show 1 ≤ sizeLine; decide, fun p1 hp1 => ⟨_, rfl, p, rfl, ⟨_, SqL.of ((upd_ne (ne_of_none hp4 hp1)).trans hp4)⟩, fun D1_ hD1 => ?_⟩⟩
    have R5 := R4.new (o := .lst [.int 0]) hp1
    refine lc_rows (K := K) (f := fun q => V.int q.dep) hD1 ((upd_ne (ne_of_none hp4 hp1)).trans hp4) (fun q hq => same_new hp1 _ _ _ (hd_sub _ _ _ (inok q hq).1)) (fun q => rfl) (Nat.le_trans inlen (by decide)) (Nat.lt_succ_self 10) ?_
    have R6 := R5.new (o := .lst (inn.map fun q => V.int q.dep)) hD1
    have np1D : p1 ≠ D1_ := ne_of_none upd_same hD1
    refine ⟨p1, D1_, _, _, rfl, rfl, (upd_ne np1D).trans upd_same, upd_same, ?_, fun p2 hp2 => ?_⟩
    · rw [List.length_map, List.length_singleton, sizeLine_eq]
      omega
    have R7 := R6.new (o := .lst ([.int 0] ++ inn.map fun q => V.int q.dep)) hp2
    have hmx : SqL K (upd (upd (upd H4 p1 (.lst [.int 0])) D1_ (.lst (inn.map fun q => V.int q.dep))) p2 (.lst ([.int 0] ++ inn.map fun q => V.int q.dep))) p2 ((0 :: inn.map MRw.dep).map V.int) := by
      refine SqL.of (upd_same.trans ?_)
      rw [List.map_cons, List.map_map]
      rfl
    refine ⟨p2, 0 :: inn.map MRw.dep, rfl, hmx, Nat.succ_pos _, fun mx hmem hle => ⟨_, _, rfl, rfl, ?_⟩⟩
    have mx0 : 0 ≤ mx := hle 0 (List.mem_cons_self ..)
    have mx10 : mx ≤ 10 := by
      rcases List.mem_cons.mp hmem with e | e
      · omega
      · obtain ⟨q, hq, eq⟩ := List.mem_map.mp e
        have := (inok q hq).2.2.1
        omega
    have hdep : ∀ q ∈ inn, q.dep ≤ mx := fun q hq => hle _ (List.mem_cons_of_mem _ (List.mem_map.mpr ⟨q, hq, rfl⟩))
    have Sin : Same H4 (upd (upd (upd H4 p1 (.lst [.int 0])) D1_ (.lst (inn.map fun q => V.int q.dep))) p2 (.lst ([.int 0] ++ inn.map fun q => V.int q.dep))) := ((same_new hp1 _).trans (same_new hD1 _)).trans (same_new hp2 _)
    have hp7 := Sin _ _ hp4
    have inok7 : ∀ q ∈ inn, rowOk ks (Hd [l, d] _) q := fun q hq => (inok q hq).mono (hd_same [l, d] Sin)
    generalize upd (upd (upd H4 p1 (.lst [.int 0])) D1_ (.lst (inn.map fun q => V.int q.dep))) p2 (.lst ([.int 0] ++ inn.map fun q => V.int q.dep)) = H7 at R7 hp7 inok7 ⊢
    -- the test
    refine ⟨fun b H' => (b = false → 1 + mx ≤ 10) ∧ Sm d H7 H' ∧ DrAt H' d, ?_, ?_⟩
    · refine ⟨_, rfl, d, 5, rfl, R7.dr, by decide, by decide, fun r2 H8 _ _ S8 D8 => ⟨_, _, rfl, rfl, _, rfl, ?_⟩⟩
      refine ite2 (fun _ => ⟨(fun e => by cases e), S8, D8⟩) (fun _ => ?_)
      refine ⟨_, rfl, _, _, rfl, rfl, _, rfl, fun e => ?_, S8, D8⟩
      have := of_decide_eq_false e
      omega
    rintro b H8 ⟨hb, S8, D8⟩
    have R8 := R7.move S8 D8
    have inok8 : ∀ q ∈ inn, rowOk ks (Hd [l, d] H8) q := fun q hq => (inok7 q hq).mono (hd_sm (by simp) S8)
    cases b with
    | true =>
      refine iteT ⟨_, rfl, .inl ⟨rfl, _, SqL.of R8.at_⟩, _, rfl, _, rfl, d, al, as, rfl, R8.dr, seq_mono R8.sm ha, a0, a1, fun t mm H9 S9 D9 hmm => ⟨by show 2 ≤ sizeLine; decide, fun p3 hp3 => ?_⟩⟩
      have R9 := R8.move S9 D9
      have R10 := R9.new (o := .tup [.int 0, t]) hp3
      have n3l : p3 ≠ l := fun e => by
        rw [e, R9.at_] at hp3
        cases hp3
      refine ⟨l, _, _, rfl, rfl, R10.at_, by rw [rfs_len, sizeLine_eq]; omega, ?_⟩
      have eh : Hd [l, d] (upd (upd H9 p3 (.tup [.int 0, t])) l (.lst (rfs rs ++ [.ref p3]))) = Hd [l, d] (upd H9 p3 (.tup [.int 0, t])) := hd_upd_in (by simp)
      refine ⟨l, rs ++ [⟨p3, 0, t, mm⟩], _, _, _, _, _, rfl, by rw [List.length_append, List.length_singleton]; omega, ⟨by rw [upd_same, rfs_snoc], fun q hq => ?_, R8.ne, R8.l0, sm_set R10.sm R8.l0, R10.dr.set R8.ne⟩⟩
      rw [eh]
      rcases List.mem_append.mp hq with hq | hq
      · exact R10.ok q hq
      · rw [List.mem_singleton.mp hq]
        have n3d : p3 ≠ d := R9.dr.ne hp3
        refine ⟨(hd_out (by simp [n3l, n3d])).trans upd_same, Int.le_refl 0, (by show (0 : Int) ≤ 10; decide), MAtom.any ?_ _⟩
        -- the atom is not the list
        have mono_at : ∀ {mm : PV}, MAtom (Wo d H9) t mm → MAtom (Hd [l, d] (upd H9 p3 (.tup [.int 0, t]))) t mm := by
          intro mm h
          have step : ∀ {pp : Addr} {zs : List V}, (Wo d H9) pp = some (.tup zs) → Hd [l, d] (upd H9 p3 (.tup [.int 0, t])) pp = some (.tup zs) := by
            intro pp zs e
            have hH := wo_sub _ _ e
            have nl : pp ≠ l := fun z => by
              rw [z, R9.at_] at hH
              cases hH
            have np3 : pp ≠ p3 := ne_of_none hH hp3
            show Wo l (Wo d _) pp = _
            rw [wo_ne nl]
            by_cases z : pp = d
            · rw [z, wo_eq] at e
              cases e
            · rw [wo_ne z]
              exact (upd_ne np3).trans hH
          cases mm with
          | bl b => cases b <;> obtain ⟨pp, e, h⟩ := h <;> exact ⟨pp, e, step h⟩
          | non =>
            obtain ⟨pp, e, h⟩ := h
            exact ⟨pp, e, step h⟩
          | int _ =>
            obtain ⟨pp, e, h⟩ := h
            exact ⟨pp, e, step h⟩
          | str _ =>
            obtain ⟨pp, e, h⟩ := h
            exact ⟨pp, e, step h⟩
          | _ => exact h.elim
        exact mono_at hmm
    | false =>
      have hd10 := hb rfl
      have npd : p ≠ d := fun e => by
        obtain ⟨g, a, b, e2, _⟩ := R7.dr
        rw [← e, hp7] at e2
        have e3 := HO.lst.inj (Option.some.inj e2)
        cases inn with
        | nil => cases e3
        | cons q qs => cases e3
      have hp8 := S8.at hp7 npd
      have S08 : Sm d H H8 := R8.sm
      have inn1000 : inn.length ≤ 1000 := Nat.le_trans inlen (by decide)
      refine iteF ⟨_, rfl, _, rfl, _, rfl, p, rfl, ⟨_, SqL.of hp8⟩, fun D2 hD2 => ?_⟩
      refine lc_rows (K := K) (f := MRw.t) hD2 hp8 (fun q hq => hd_sub _ _ _ (inok8 q hq).1) (fun q => rfl) inn1000 (Nat.lt_succ_self 10) ?_
      have R9 := R8.new (o := .lst (inn.map MRw.t)) hD2
      have n2d := R8.dr.ne hD2
      have Sd2 := same_new hD2 (.lst (inn.map MRw.t))
      refine ⟨d, kl, D2, ks, inn.map MRw.t, inn.map MRw.m, mx.toNat, rfl, R9.dr, seq_mono R9.sm hk, kn, k100, SqL.of ((wo_ne n2d).trans upd_same), by rw [List.length_map]; exact inlen, ?_, fun outer mo H9 S9 D9 hmo => ?_⟩
      · refine rows_paired fun q hq => ?_
        obtain ⟨_, q0, q10, qm⟩ := inok8 q hq
        have hq2 := hdep q hq
        exact (MAt.le (by omega) qm).mono (wo_sub.trans (Sm.of Sd2))
      have R10 := R9.move S9 D9
      refine ⟨_, rfl, _, rfl, l, _, rfl, .inl (SqL.of R10.at_), _, rfl, _, _, rfl, rfl, _, rfl, l, _, rfl, SqL.of R10.at_, fun p4 hp4 => ?_⟩
      have e1' : ((rfs rs).length : Int) - many = ((rs.length - many.toNat : Nat) : Int) := by
        rw [rfs_len]
        omega
      rw [e1', cut_hi, show (rfs rs).take (rs.length - many.toNat) = rfs (rs.take (rs.length - many.toNat)) from List.map_take.symm]
      have S10 := same_new hp4 (.lst (rfs (rs.take (rs.length - many.toNat))))
      refine ⟨_, rfl, _, rfl, by show 2 ≤ sizeLine; decide, fun p5 hp5 => ⟨by show 1 ≤ sizeLine; decide, fun p6 hp6 => ?_⟩⟩
      have S11 := same_new hp5 (.tup [.int (1 + mx), outer])
      have S12 := same_new hp6 (.lst [.ref p5])
      refine ⟨p4, p6, _, _, rfl, rfl, S12 _ _ (S11 _ _ upd_same), upd_same, ?_, fun p7 hp7 => ?_⟩
      · rw [rfs_len, List.length_singleton, sizeLine_eq]
        have := List.length_take_le (rs.length - many.toNat) rs
        omega
      have Sall := (S10.trans S11).trans S12
      have n5d : p5 ≠ d := (R10.dr.mono S10).ne hp5
      have D12 := R10.dr.mono Sall
      have n7d : p7 ≠ d := D12.ne hp7
      have sm12 : Sm d H _ := R10.sm.trans (Sm.of Sall)
      refine ⟨p7, rs.take (rs.length - many.toNat) ++ [⟨p5, 1 + mx, outer, mo⟩], _, _, _, _, _, rfl, ?_, ⟨?_, fun q hq => ?_, n7d, sm12.none hp7 n7d, sm12.trans (Sm.of (same_new hp7 _)), D12.mono (same_new hp7 _)⟩⟩
      · rw [List.length_append, List.length_singleton, List.length_take]
        omega
      · rw [upd_same, rfs_snoc]
      have Sfin : ∀ o, Same (Wo d H9) (Hd [p7, d] (upd _ p7 o)) := fun o => (Sm.of Sall).trans (hd_new (o := o) hp7)
      rcases List.mem_append.mp hq with hq | hq
      · exact (R10.ok q (List.mem_of_mem_take hq)).mono (wo_sub.trans (Sfin _))
      · rw [List.mem_singleton.mp hq]
        refine ⟨hd_new hp7 _ _ ((wo_ne n5d).trans (S12 _ _ upd_same)), by show 0 ≤ 1 + mx; omega, hd10, ?_⟩
        have en : (1 + mx).toNat = mx.toNat + 1 := by omega
        show MAt ks (1 + mx).toNat _ outer mo
        rw [en]
        exact hmo.mono (Sfin _)
  · rintro σ H2 ⟨l, rs, v5, v6, v7, v8, v9, rfl, hlen, R⟩
    refine ⟨_, rfl, l, _, rfl, .inl (SqL.of R.at_), rfl, _, rfl, ?_⟩
    have h18 : rs.length ≤ 18 := by omega
    refine ite2 (fun c => ?_) (fun _ => ?_)
    · have c1 : rs.length = 1 := by
        have := V.int.inj (of_decide_eq_true c)
        rw [rfs_len] at this
        omega
      match rs, c1, R with
      | [q0], _, R =>
        obtain ⟨h1, _, h3, h4⟩ := R.ok q0 (List.mem_singleton.mpr rfl)
        refine ⟨_, rfl, l, _, _, _, rfl, rfl, SqL.of R.at_, rfl, q0.a, _, _, _, rfl, rfl, SqT.of (hd_sub _ _ _ h1), rfl, q q0.t q0.m H2 R.sm R.dr ?_⟩
        exact (MAt.le (by omega) h4).mono wo_sub
    · refine ⟨_, rfl, _, rfl, _, rfl, l, rfl, ⟨_, SqL.of R.at_⟩, fun D2 hD2 => ?_⟩
      refine lc_rows (K := K) (f := MRw.t) hD2 R.at_ (fun q hq => hd_sub _ _ _ (R.ok q hq).1) (fun q => rfl) (by omega) (Nat.lt_succ_self 10) ?_
      have R9 := R.new (o := .lst (rs.map MRw.t)) hD2
      have n2d := R.dr.ne hD2
      have Sd2 := same_new hD2 (.lst (rs.map MRw.t))
      refine ⟨d, kl, D2, ks, rs.map MRw.t, rs.map MRw.m, 10, rfl, R9.dr, seq_mono R9.sm hk, kn, k100, SqL.of ((wo_ne n2d).trans upd_same), by rw [List.length_map]; omega, ?_, fun outer mo H9 S9 D9 hmo => q outer mo H9 (R9.sm.trans S9) D9 hmo⟩
      refine rows_paired fun q hq => ?_
      obtain ⟨_, q0, q10, qm⟩ := R.ok q hq
      exact (MAt.le (by omega) qm).mono (wo_sub.trans (Sm.of Sd2))
end
/-! ### facts of kinds -/
section
variable {P : Program} {w : World} {K : PySem.W.Frag} {mg : PySem.Str → Option Value} {base : Heap}
abbrev CTof (K : PySem.W.Frag) : Addr := He.ga K "Table"
theorem Tx.e1 (T : Tx K mg) : ex1 K = true := (He.ba T.ex).1
theorem Tx.e2 (T : Tx K mg) : ex2 K = true := (He.ba (He.ba T.ex).2).1
theorem Tx.e3 (T : Tx K mg) : ex3 K = true := (He.ba (He.ba (He.ba T.ex).2).2).1
theorem Tx.e4 (T : Tx K mg) : ex4 K = true := (He.ba (He.ba (He.ba (He.ba T.ex).2).2).2).1
theorem Tx.e5 (T : Tx K mg) : ex5 K = true := (He.ba (He.ba (He.ba (He.ba (He.ba T.ex).2).2).2).2).1
theorem Tx.e6 (T : Tx K mg) : ex6 K = true := (He.ba (He.ba (He.ba (He.ba (He.ba (He.ba T.ex).2).2).2).2).2).1
theorem Tx.e7 (T : Tx K mg) : ex7 K = true := (He.ba (He.ba (He.ba (He.ba (He.ba (He.ba T.ex).2).2).2).2).2).2
/-- the type of a value -/
def tyOf (K : PySem.W.Frag) : PV → Value
  | .non => .type "NoneType"
  | .bl _ => .type "bool"
  | .int _ => .type "int"
  | .str _ => .type "str"
  | .lst _ => .type "list"
  | .tup _ => .type "tuple"
  | .tab _ => .ref (CTof K)
theorem tab_ty (T : Tx K mg) {H : Hp} {p dx : Addr} {fs : List (PySem.Str × V)} (h : H p = some (.ins (CTof K) dx fs)) : TyX K H (.ref p) (.ref (CTof K)) := by
  obtain ⟨a, b⟩ := He.ba T.e5
  obtain ⟨b, c⟩ := He.ba b
  obtain ⟨c, d⟩ := He.ba c
  exact .base (.ins h (T.cls "Table") (He.eqO_ok a) (He.eqO_ok b) (of_decide_eq_true c) (of_decide_eq_true d))
theorem ty_V (T : Tx K mg) {n : Nat} {H : Hp} {v : V} {m : PV} (h : VAt (CTof K) n H v m) : TyX K H v (tyOf K m) := by
  cases n with
  | zero =>
    cases m with
    | non => cases (show v = .non from h); exact .base .non
    | bl b => cases (show v = .bl b from h); exact .base (.bl b)
    | int i => cases (show v = .int i from h); exact .base (.int i)
    | str z => cases (show v = .str z from h); exact .base (.str z)
    | _ => exact (show False from h).elim
  | succ n =>
    cases m with
    | non => cases (show v = .non from h); exact .base .non
    | bl b => cases (show v = .bl b from h); exact .base (.bl b)
    | int i => cases (show v = .int i from h); exact .base (.int i)
    | str z => cases (show v = .str z from h); exact .base (.str z)
    | lst ms =>
      obtain ⟨p, xs, rfl, e, _⟩ := (show VLst _ H v ms from h)
      exact .base (.lst e)
    | tup ms =>
      obtain ⟨p, xs, rfl, e, _⟩ := (show VTup _ H v ms from h)
      exact .base (.tup e)
    | tab kvs =>
      obtain ⟨p, dx, q, ws, rfl, e, _⟩ := (show VTab _ _ H v kvs from h)
      exact tab_ty T e
def isL : PV → Bool
  | .lst _ => true
  | _ => false
def isT : PV → Bool
  | .tup _ => true
  | _ => false
def isS : PV → Bool
  | .str _ => true
  | _ => false
def isTab : PV → Bool
  | .tab _ => true
  | _ => false
theorem kit_tab (T : Tx K mg) {t : String} {b : Bool} (h : (["str", "list", "tuple", "int", "bool"] : List String).contains t = true) : PySem.W.kitOne K (.ref (CTof K)) (.type t) = some false := by
  have := List.all_eq_true.mp (He.ba T.e6).2 t (List.contains_iff_mem.mp h)
  exact of_decide_eq_true this
theorem kit_L (T : Tx K mg) (m : PV) : PySem.W.kitOne K (tyOf K m) (.type "list") = some (isL m) := by
  cases m with
  | tab _ => exact kit_tab (b := true) T (by decide)
  | non => exact kit_ty (show kitB "NoneType" "list" = some false by decide +kernel)
  | bl _ => exact kit_ty (show kitB "bool" "list" = some false by decide +kernel)
  | int _ => exact kit_ty (show kitB "int" "list" = some false by decide +kernel)
  | str _ => exact kit_ty (show kitB "str" "list" = some false by decide +kernel)
  | lst _ => exact kit_ty (show kitB "list" "list" = some true by decide +kernel)
  | tup _ => exact kit_ty (show kitB "tuple" "list" = some false by decide +kernel)
theorem kit_T (T : Tx K mg) (m : PV) : PySem.W.kitOne K (tyOf K m) (.type "tuple") = some (isT m) := by
  cases m with
  | tab _ => exact kit_tab (b := true) T (by decide)
  | non => exact kit_ty (show kitB "NoneType" "tuple" = some false by decide +kernel)
  | bl _ => exact kit_ty (show kitB "bool" "tuple" = some false by decide +kernel)
  | int _ => exact kit_ty (show kitB "int" "tuple" = some false by decide +kernel)
  | str _ => exact kit_ty (show kitB "str" "tuple" = some false by decide +kernel)
  | lst _ => exact kit_ty (show kitB "list" "tuple" = some false by decide +kernel)
  | tup _ => exact kit_ty (show kitB "tuple" "tuple" = some true by decide +kernel)
theorem kit_S (T : Tx K mg) (m : PV) : PySem.W.kitOne K (tyOf K m) (.type "str") = some (isS m) := by
  cases m with
  | tab _ => exact kit_tab (b := true) T (by decide)
  | non => exact kit_ty (show kitB "NoneType" "str" = some false by decide +kernel)
  | bl _ => exact kit_ty (show kitB "bool" "str" = some false by decide +kernel)
  | int _ => exact kit_ty (show kitB "int" "str" = some false by decide +kernel)
  | str _ => exact kit_ty (show kitB "str" "str" = some true by decide +kernel)
  | lst _ => exact kit_ty (show kitB "list" "str" = some false by decide +kernel)
  | tup _ => exact kit_ty (show kitB "tuple" "str" = some false by decide +kernel)
theorem kit_to (T : Tx K mg) {t : String} (h : (["NoneType", "bool", "int", "str", "list", "tuple"] : List String).contains t = true) : PySem.W.kitOne K (.type t) (.ref (CTof K)) = some false :=
  of_decide_eq_true (List.all_eq_true.mp (He.ba T.e6).1 t (List.contains_iff_mem.mp h))
theorem kit_Tab (T : Tx K mg) (m : PV) : PySem.W.kitOne K (tyOf K m) (.ref (CTof K)) = some (isTab m) := by
  cases m with
  | tab _ =>
    show PySem.W.kitOne K (.ref (CTof K)) (.ref (CTof K)) = some true
    unfold PySem.W.kitOne
    rw [if_pos (beq_self_eq_true _)]
  | _ => exact kit_to T (by decide)
/-! ### is_integer -/
def spIsInt : Sp := fun vs H Q _ => ∃ k : L2.Key, vs = [kV k] ∧ Q (.bl (!isTx k)) H
theorem scIsInt : FnScope ["value"] ["value"] (defScope s_is_integer) := ⟨rfl, rfl, rfl, by decide +kernel, rfl, by decide +kernel, by decide +kernel⟩
theorem ok_is_integer (T : Tx K mg) : FnR P w K mg base CX0 1 (He.ga K "is_integer") spIsInt := by
  obtain ⟨fd, F⟩ := F_is_integer T
  refine okR F scIsInt (fun _ _ _ _ _ _ us hl => match us, hl with | [_], _ => rfl) (fun vs H Q E h => ?_) fun cdv A outer s H vs Q E hr h => ?_
  · obtain ⟨k, rfl, _⟩ := h
    rfl
  obtain ⟨k, rfl, q⟩ := h
  have bi : bootBuiltins "int" = some (.type "int") := by decide +kernel
  have bb : bootBuiltins "bool" = some (.type "bool") := by decide +kernel
  refine ⟨_, pss_one (ps_ret (pe_and (pe_callB call_isi rfl (T.free "isinstance") boot_isinstance (pa_cons (pv 0) (pa_cons (pe_bltn (v := .ty "int") (by rfl) (T.free "int") bi rfl) pa_nil)))
    (pe_one (pe_not (pe_callB call_isi rfl (T.free "isinstance") boot_isinstance (pa_cons (pv 0) (pa_cons (pe_bltn (v := .ty "bool") (by rfl) (T.free "bool") bb rfl) pa_nil))))))), ?_⟩
  cases k with
  | inl i =>
    refine ⟨_, rfl, .int i, .ty "int", .type "int", _, true, rfl, .ty "int", .base (.int i), kit_ty (by decide +kernel), _, rfl, ?_⟩
    exact iteT ⟨_, rfl, .int i, .ty "bool", .type "int", _, false, rfl, .ty "bool", .base (.int i), kit_ty (by decide +kernel), _, rfl, q⟩
  | inr z =>
    refine ⟨_, rfl, .str z, .ty "int", .type "str", _, false, rfl, .ty "int", .base (.str z), kit_ty (by decide +kernel), _, rfl, ?_⟩
    exact iteF q
theorem cl_is_integer (T : Tx K mg) : Cl P w K mg base 1 "is_integer" spIsInt := ⟨T.glo _, (let ⟨_, F⟩ := F_is_integer T; F.kp), ok_is_integer T⟩
/-! ### fresh -/
theorem same_set {l : Addr} {H H2 : Hp} {o : HO} (S : Same H H2) (h : H l = none) : Same H (upd H2 l o) := fun b u e => by
  rw [upd_ne (ne_of_none e h)]
  exact S b u e
/-- what stood ahead of a new place is seen without it -/
theorem hd_old {D : List Addr} {l : Addr} {H H2 : Hp} (S : Same H H2) (h : H l = none) : Same (Hd D H) (Hd (l :: D) H2) := fun b o e => by
  have hb : H b = some o := hd_sub D _ _ e
  show Wo l (Hd D H2) b = some o
  rw [wo_ne (ne_of_none hb h)]
  exact hd_same D S _ _ e
def spFresh (K : PySem.W.Frag) : Nat → Sp
  | 0 => fun _ _ _ _ => False
  | n + 1 => fun vs H Q _ => ∃ (v : V) (D : List Addr) (m : PV), vs = [v] ∧ Tkn D H ∧ VAt (CTof K) n (Hd D H) v m ∧ ∀ (v' : V) (H' : Hp), Same H H' → VAt (CTof K) n (Hd D H') v' m → Q v' H'
theorem scFresh : FnScope ["value", "item"] ["value"] (defScope s_fresh) := ⟨rfl, rfl, rfl, by decide +kernel, rfl, by decide +kernel, by decide +kernel⟩
theorem fnR_false {k : Nat} {f : Addr} : FnR P w K mg base CX0 k f (fun _ _ _ _ => False) := fun _ _ _ _ _ _ _ _ _ _ _ h => h.elim
end
theorem getElem_map_take {α : Type} {xs : List α} {i : Nat} (h : i < xs.length) : xs.take (i + 1) = xs.take i ++ [xs[i]] := take_succ_of (List.getElem?_eq_getElem h)
section
variable {P : Program} {w : World} {K : PySem.W.Frag} {mg : PySem.Str → Option Value} {base : Heap}
theorem ok_fresh (T : Tx K mg) : ∀ n, FnR P w K mg base CX0 n (He.ga K "fresh") (spFresh K n)
  | 0 => fnR_false
  | n + 1 => by
    obtain ⟨fd, F⟩ := F_fresh T
    have GF : Cl P w K mg base n "fresh" (spFresh K n) := ⟨T.glo _, F.kp, ok_fresh T n⟩
    refine okR F scFresh (fun _ _ _ _ _ _ us hl => match us, hl with | [_], _ => rfl) (fun vs H Q E h => ?_) fun cdv A outer s H vs Q E hr h => ?_
    · obtain ⟨v, D, m, rfl, _⟩ := h
      rfl
    obtain ⟨v, D, m, rfl, tk, hv, q⟩ := h
    have nd := scFresh.nd
    have ti := T.free "isinstance"
    have bl : bootBuiltins "list" = some (.type "list") := by decide +kernel
    have bt : bootBuiltins "tuple" = some (.type "tuple") := by decide +kernel
    refine ⟨_, pss_cons (ps_if (pt_val (pe_callB call_isi rfl ti boot_isinstance (pa_cons (pv 0) (pa_cons (pe_bltn (v := .ty "list") (by rfl) (T.free "list") bl rfl) pa_nil))))
        (pss_one (ps_ret (pe_lc (own := [("item", 1)]) (g := gName 1) (tt := tYes) (te := tCl (spFresh K n) (tCons (tVar 1) tNil)) rfl nd (pi_list (pv 0)) (blkOk_by (own := [("item", 1)]) (N := ["value", "item"]) (sc := defScope s_fresh) (by decide +kernel))
          (fun _ _ _ _ _ => pg_name (i := 1) nd rfl (Or.inl rfl)) (fun _ _ _ _ _ => pts_nil) (fun _ _ _ _ _ => pe_f GF hr (pa_cons (pv 1) pa_nil))))) pss_nil)
      (pss_cons (ps_if (pt_val (pe_callB call_isi rfl ti boot_isinstance (pa_cons (pv 0) (pa_cons (pe_bltn (v := .ty "tuple") (by rfl) (T.free "tuple") bt rfl) pa_nil))))
        (pss_one (ps_ret (pe_callTy call_tuple_of rfl (T.free "tuple") bt (pa_cons (pe_lc (own := [("item", 1)]) (g := gName 1) (tt := tYes) (te := tCl (spFresh K n) (tCons (tVar 1) tNil)) rfl nd (pi_tup (pv 0)) (blkOk_by (own := [("item", 1)]) (N := ["value", "item"]) (sc := defScope s_fresh) (by decide +kernel))
          (fun _ _ _ _ _ => pg_name (i := 1) nd rfl (Or.inl rfl)) (fun _ _ _ _ _ => pts_nil) (fun _ _ _ _ _ => pe_f GF hr (pa_cons (pv 1) pa_nil))) pa_nil)))) pss_nil)
      (pss_one (ps_ret (pv 0)))), ?_⟩
    have hty := ty_V T (VAt.mono (hd_sub D) hv)
    refine ⟨_, rfl, v, .ty "list", _, _, isL m, rfl, .ty "list", hty, kit_L T m, _, rfl, ?_⟩
    -- the items, one by one
    have turn : ∀ (k : Nat), n = k + 1 → ∀ (xs : List V) (ms : List PV), Paired (VAt (CTof K) k (Hd D H)) xs ms → xs.length ≤ 100 → ∀ (D' : Addr), H D' = none → ∀ (i : Nat) (x : V) (H6 : Hp), xs[i]? = some x →
        (∃ acc, H6 D' = some (.lst acc) ∧ Paired (VAt (CTof K) k (Hd (D' :: D) H6)) acc (ms.take i) ∧ Same H H6) →
        tCl (spFresh K n) (tCons (tVar 1) tNil) [some v, some x] H6 fun y H4 => ∃ acc, H4 D' = some (.lst acc) ∧ acc.length < sizeLine ∧ ∃ acc2, (upd H4 D' (.lst (acc ++ [y]))) D' = some (.lst acc2) ∧ Paired (VAt (CTof K) k (Hd (D' :: D) (upd H4 D' (.lst (acc ++ [y]))))) acc2 (ms.take (i + 1)) ∧ Same H (upd H4 D' (.lst (acc ++ [y]))) := by
      rintro k rfl xs ms hp hl D' hD i x H6 hx ⟨acc, hacc, hpa, S6⟩
      obtain ⟨m, hm, hxm⟩ := paired_get hp hx
      have tk6 : Tkn (D' :: D) H6 := fun b hb => by
        rcases List.mem_cons.mp hb with rfl | hb
        · rw [hacc]
          exact fun z => by cases z
        · exact tk.mono S6 b hb
      refine ⟨_, rfl, x, D' :: D, m, rfl, tk6, hxm.mono (hd_old S6 hD), fun v' H7 S7 hv' => ?_⟩
      have hacc7 := S7 _ _ hacc
      have e : ∀ o, Hd (D' :: D) (upd H7 D' o) = Hd (D' :: D) H7 := fun o => hd_upd_in (List.mem_cons_self ..)
      refine ⟨acc, hacc7, ?_, acc ++ [v'], upd_same, ?_, same_set (S6.trans S7) hD⟩
      · have l1 := hpa.length
        have l2 := List.length_take_le i ms
        have l3 := hp.length
        rw [List.length_take] at l1
        rw [sizeLine_eq]
        omega
      · rw [e, take_succ_of hm]
        exact (hpa.mono fun _ _ z => z.mono (hd_same _ S7)).snoc hv'
    cases n with
    | zero =>
      have no : isL m = false ∧ isT m = false := by
        cases m with
        | lst _ => exact (show False from hv).elim
        | tup _ => exact (show False from hv).elim
        | _ => exact ⟨rfl, rfl⟩
      refine iteN no.1 ?_
      refine ⟨_, rfl, v, .ty "tuple", _, _, isT m, rfl, .ty "tuple", hty, kit_T T m, _, rfl, iteN no.2 ?_⟩
      exact ⟨_, rfl, q v H (Same.refl H) hv⟩
    | succ k =>
      cases m with
      | lst ms =>
        obtain ⟨p, xs, rfl, hp, hl, pr⟩ := (show VLst _ _ v ms from hv)
        have hpH : H p = some (.lst xs) := hd_sub D _ _ hp
        refine iteT ⟨_, rfl, p, rfl, ⟨_, SqL.of hpH⟩, fun D' hD => ?_⟩
        refine lc_list (K := K) (a := p) (xs := xs) (fun i H6 => ∃ acc, H6 D' = some (.lst acc) ∧ Paired (VAt (CTof K) k (Hd (D' :: D) H6)) acc (ms.take i) ∧ Same H H6) ⟨[], upd_same, .nil, same_new hD _⟩ (fun i H6 _ ⟨_, _, _, S6⟩ => SqL.of (S6 _ _ hpH)) ?_ ?_
        · intro i x H6 hx hi
          exact ⟨rfl, turn k rfl xs ms pr hl D' hD i x H6 hx hi⟩
        · rintro H6 ⟨acc, hacc, hpa, S6⟩
          rw [pr.length, List.take_length] at hpa
          have nD : D' ∉ D := tk.new hD
          exact q (.ref D') H6 S6 ⟨D', acc, rfl, (hd_out nD).trans hacc, by rw [hpa.length, ← pr.length]; exact hl, hpa.mono fun _ _ z => z.mono wo_sub⟩
      | tup ms =>
        obtain ⟨p, xs, rfl, hp, hl, pr⟩ := (show VTup _ _ v ms from hv)
        have hpH : H p = some (.tup xs) := hd_sub D _ _ hp
        refine iteF ?_
        refine ⟨_, rfl, .ref p, .ty "tuple", _, _, true, rfl, .ty "tuple", hty, kit_T T (.tup ms), _, rfl, iteT ?_⟩
        refine ⟨_, rfl, p, rfl, ⟨_, SqT.of hpH⟩, fun D' hD => ?_⟩
        refine lc_tup (K := K) (a := p) (xs := xs) (fun i H6 => ∃ acc, H6 D' = some (.lst acc) ∧ Paired (VAt (CTof K) k (Hd (D' :: D) H6)) acc (ms.take i) ∧ Same H H6) ⟨[], upd_same, .nil, same_new hD _⟩ (fun i H6 _ ⟨_, _, _, S6⟩ => SqT.of (S6 _ _ hpH)) ?_ ?_
        · intro i x H6 hx hi
          exact ⟨rfl, turn k rfl xs ms pr hl D' hD i x H6 hx hi⟩
        · rintro H6 ⟨acc, hacc, hpa, S6⟩
          rw [pr.length, List.take_length] at hpa
          refine ⟨D', acc, rfl, .inl ⟨SqL.of hacc, fun t ht => ?_⟩⟩
          have nt : t ∉ D := (tk.mono S6).new ht
          have St := same_new ht (.tup acc)
          exact q (.ref t) _ (S6.trans St) ⟨t, acc, rfl, (hd_out nt).trans upd_same, by rw [hpa.length, ← pr.length]; exact hl, hpa.mono fun _ _ z => z.mono (wo_sub.trans (hd_same D St))⟩
      | non => exact iteF ⟨_, rfl, v, .ty "tuple", _, _, false, rfl, .ty "tuple", hty, kit_T T _, _, rfl, iteF ⟨_, rfl, q v H (Same.refl H) hv⟩⟩
      | bl _ => exact iteF ⟨_, rfl, v, .ty "tuple", _, _, false, rfl, .ty "tuple", hty, kit_T T _, _, rfl, iteF ⟨_, rfl, q v H (Same.refl H) hv⟩⟩
      | int _ => exact iteF ⟨_, rfl, v, .ty "tuple", _, _, false, rfl, .ty "tuple", hty, kit_T T _, _, rfl, iteF ⟨_, rfl, q v H (Same.refl H) hv⟩⟩
      | str _ => exact iteF ⟨_, rfl, v, .ty "tuple", _, _, false, rfl, .ty "tuple", hty, kit_T T _, _, rfl, iteF ⟨_, rfl, q v H (Same.refl H) hv⟩⟩
      | tab _ => exact iteF ⟨_, rfl, v, .ty "tuple", _, _, false, rfl, .ty "tuple", hty, kit_T T _, _, rfl, iteF ⟨_, rfl, q v H (Same.refl H) hv⟩⟩
theorem cl_fresh (T : Tx K mg) (n : Nat) : Cl P w K mg base n "fresh" (spFresh K n) := ⟨T.glo _, (let ⟨_, F⟩ := F_fresh T; F.kp), ok_fresh T n⟩
end
section
variable {P : Program} {w : World} {K : PySem.W.Frag} {mg : PySem.Str → Option Value} {base : Heap}
theorem tab_binds (T : Tx K mg) : ∃ fd, FunD K "__init__" "Table.__init__" (defArgs s_Table_init) (defBody s_Table_init) (defScope s_Table_init) (d_Table_init.dvs K) [] (He.fAd K ("Table", some "__init__")) fd ∧ Binds K fd ["self", "entries"] [] := by
  obtain ⟨fd, F⟩ := F_Table_init T
  refine ⟨fd, F, ?_⟩
  obtain ⟨ds, hv, hb⟩ := F.binds1 (ps := ["self", "entries"]) 2 1 (by exact List.cons_ne_nil _ _) rfl fun T kV doc pm an cdv ct us its hl hi => by
    obtain ⟨c, rfl⟩ : ∃ c, its = [c] := List.length_eq_one_iff.mp hi
    match us, hl with
    | [a, b], _ => exact ⟨_, rfl, rfl⟩
  cases hv
  exact hb
/-! ### Table(entries) -/
def VEnt (K : PySem.W.Frag) (n : Nat) (G : Hp) (r : V) (kv : L2.Key × PV) : Prop := ∃ (a : Addr) (x : V), r = .ref a ∧ G a = some (.tup [kV kv.1, x]) ∧ VAt (CTof K) n G x kv.2
theorem VEnt.mono {n : Nat} {G G' : Hp} (S : Same G G') {r : V} {kv : L2.Key × PV} (h : VEnt K n G r kv) : VEnt K n G' r kv := by
  obtain ⟨a, x, e, h1, h2⟩ := h
  exact ⟨a, x, e, S _ _ h1, h2.mono S⟩
def spTab (K : PySem.W.Frag) (n : Nat) : Sp := fun vs H Q _ => ∃ (p e dx : Addr) (D : List Addr) (rs : List V) (kvs : List (L2.Key × PV)), vs = [.ref p, .ref e] ∧ H p = some (.ins (CTof K) dx []) ∧ Tkn D H ∧ p ∉ D ∧ SqL K (Hd (p :: D) H) e rs ∧ rs.length ≤ 100 ∧
  (kvs.map (·.1)).Nodup ∧ Paired (VEnt K n (Hd (p :: D) H)) rs kvs ∧ ∀ H' : Hp, (∀ b o, b ≠ p → H b = some o → H' b = some o) → VTab (CTof K) (VAt (CTof K) n) (Hd D H') (.ref p) kvs → Q .non H'
abbrev nTab : List PySem.Str := ["self", "entries", "held", "key", "item"]
theorem scTab : FnScope nTab ["self", "entries"] (defScope s_Table_init) := ⟨rfl, rfl, rfl, by decide +kernel, rfl, by decide +kernel, by decide +kernel⟩
theorem valV_out {kvs : List (L2.Key × V)} {k : L2.Key} (h : k ∉ kvs.map (·.1)) : valV kvs k = none := by
  cases e : valV kvs k with
  | none => rfl
  | some v => exact absurd (valV_in e) h
theorem ok_table (T : Tx K mg) (n : Nat) : FnR P w K mg base CX0 (n + 3) (He.ma K (He.ga K "Table") "__init__") (spTab K n) := by
  obtain ⟨fd, F, hb⟩ := tab_binds T
  have GF := cl_fresh (P := P) (w := w) (base := base) T (n + 1)
  have GI := cl_is_integer (P := P) (w := w) (base := base) T
  have nd := scTab.nd
  have bs : bootBuiltins "str" = some (.type "str") := by decide +kernel
  have G : FnOk P w K mg base CX0 (n + 3) (He.fAd K ("Table", some "__init__")) fd ["self", "entries"] (spTab K n) := by
    refine F.ok scTab (fun vs H Q E h => ?_) fun cdv A outer s H vs Q E hr h => ?_
    · obtain ⟨p, e, dx, D, rs, kvs, rfl, _⟩ := h
      rfl
    obtain ⟨p, e, dx, D, rs, kvs, rfl, hp, tk, npD, he, hl, hn, hpr, q⟩ := h
    have hr1 : Room 1 _ := hr.mono (by omega)
    have hrn : Room (n + 1) _ := hr.mono (by omega)
    have hu := hu_of hr
    refine ⟨_, PSs.nox (pss_cons (ps_set (i := 2) nd rfl (.inl rfl) pe_dnewK)
      (pss_cons (ps_for PassesOwn.never rfl (pi_list (pv 1)) (pg_tup (by rfl) (pgs_cons (pg_name (i := 3) nd rfl (.inl rfl)) (pgs_cons (pg_name (i := 4) nd rfl (.inl rfl)) pgs_nil)))
        (pss_cons (ps_if (pt_j (PW.pt (pw_and (pt_not (pt_val (pe_f GI hr1 (pa_cons (pv 3) pa_nil)))) (pw_and1 (pt_not (pt_val (pe_callB call_isi rfl (T.free "isinstance") boot_isinstance (pa_cons (pv 3) (pa_cons (pe_bltn (v := .ty "str") (by rfl) (T.free "str") bs rfl) pa_nil)))))))))
          (pss_one ps_never) pss_nil)
        (pss_cons (ps_if (pt_cmp (pc_din hu (pv 3) (pv 2))) (pss_one ps_never) pss_nil)
        (pss_one (ps_dput hu (pv 2) (pv 3) (pe_f GF hrn (pa_cons (pv 4) pa_nil)) rfl)))))
      (pss_one (ps_fld (pv 0) (pv 2) rfl)))), ?_⟩
    intro h hh
    have nhp : h ≠ p := fun z => by
      rw [z, hp] at hh
      cases hh
    have tkp : Tkn (p :: D) H := fun b hb => by
      rcases List.mem_cons.mp hb with rfl | hb
      · rw [hp]
        exact fun z => by cases z
      · exact tk b hb
    have heH : SqL K H e rs := seq_mono (hd_sub _) he
    refine ⟨_, rfl, e, rfl, ⟨_, seq_mono (same_new hh _) heH⟩, for_list (K := K) (a := e) (xs := rs) (fun i σ H2 => ∃ (v3 v4 : Option V) (ws : List (L2.Key × V)), σ = [some (.ref p), some (.ref e), some (.ref h), v3, v4] ∧ H2 h = some (.dK ws) ∧ ws.map (·.1) = (kvs.take i).map (·.1) ∧
      Paired (fun (u : L2.Key × V) (kv : L2.Key × PV) => u.1 = kv.1 ∧ VAt (CTof K) n (Hd (h :: p :: D) H2) u.2 kv.2) ws (kvs.take i) ∧ Same H H2) ⟨none, none, [], rfl, upd_same, rfl, .nil, same_new hh _⟩ (fun i σ H2 _ ⟨_, _, _, _, _, _, _, S2⟩ => seq_mono S2 heH) ?_ ?_⟩
    · rintro i r σ H2 hi ⟨v3, v4, ws, rfl, hws, hks, hpa, S2⟩
      obtain ⟨kv, hkv, a, x, rfl, ha, hx⟩ := paired_get hpr hi
      have haH2 := S2 _ _ (hd_sub _ _ _ ha)
      have hik : i < kvs.length := (List.getElem?_eq_some_iff.mp hkv).1
      refine ⟨a, _, rfl, .inl (.inl haH2), rfl, _, _, rfl, _, _, rfl, rfl, ?_⟩
      have nk : kv.1 ∉ ws.map (·.1) := by
        rw [hks]
        intro z
        obtain ⟨j, hj, ej⟩ := List.mem_iff_getElem.mp z
        rw [List.length_map, List.length_take] at hj
        have hj2 : j < (kvs.map (·.1)).length := by
          rw [List.length_map]
          omega
        have hi2 : i < (kvs.map (·.1)).length := by
          rw [List.length_map]
          exact hik
        have ej2 : (kvs.map (·.1))[j] = kv.1 := by
          rw [List.getElem_map, List.getElem_take] at ej
          rw [List.getElem_map]
          exact ej
        have ei2 : (kvs.map (·.1))[i] = kv.1 := by
          rw [List.getElem_map, (List.getElem?_eq_some_iff.mp hkv).2]
        exact (List.pairwise_iff_getElem.mp hn) j i hj2 hi2 (by omega) (ej2.trans ei2.symm)
      have tk2 : Tkn (h :: p :: D) H2 := fun b hb => by
        rcases List.mem_cons.mp hb with rfl | hb
        · rw [hws]
          exact fun z => by cases z
        · exact tkp.mono S2 b hb
      have wl : ws.length < sizeLine := by
        have l1 : (ws.map (·.1)).length = ((kvs.take i).map (·.1)).length := by rw [hks]
        rw [List.length_map, List.length_map, List.length_take] at l1
        have l3 := hpr.length
        rw [sizeLine_eq]
        omega
      refine ⟨fun b H' => b = false ∧ H' = H2, ?_, ?_⟩
      · refine ⟨_, rfl, kv.1, rfl, _, rfl, ?_⟩
        cases hk : kv.1 with
        | inl i => exact iteF ⟨rfl, rfl⟩
        | inr z => exact iteT ⟨_, rfl, .str z, .ty "str", .type "str", _, true, rfl, .ty "str", .base (.str z), kit_ty (by decide +kernel), _, rfl, rfl, rfl⟩
      rintro b H3 ⟨rfl, rfl⟩
      refine iteF ⟨_, rfl, _, rfl, h, _, rfl, DGet.k (k := kv.1) hws, _, rfl, ?_⟩
      rw [valV_out nk]
      refine iteF ⟨_, rfl, x, h :: p :: D, kv.2, rfl, tk2, hx.mono (hd_old S2 hh), fun v' H4 S4 hv' => ?_⟩
      have hws4 := S4 _ _ hws
      refine ⟨_, rfl, _, rfl, h, _, rfl, DPut.k (k := kv.1) hws4 wl, ?_⟩
      rw [putK_new _ (valV_out nk)]
      have eh : ∀ o, Hd (h :: p :: D) (upd H4 h o) = Hd (h :: p :: D) H4 := fun o => hd_upd_in (List.mem_cons_self ..)
      refine ⟨_, _, ws ++ [(kv.1, v')], rfl, upd_same, ?_, ?_, same_set (S2.trans S4) hh⟩
      · rw [take_succ_of hkv, List.map_append, List.map_append, hks]
        rfl
      · rw [eh, take_succ_of hkv]
        exact (hpa.mono fun _ _ z => ⟨z.1, z.2.mono (hd_same _ S4)⟩).snoc ⟨rfl, hv'⟩
    · rintro σ H2 ⟨v3, v4, ws, rfl, hws, hks, hpa, S2⟩
      rw [hpr.length, List.take_length] at hpa
      refine ⟨_, rfl, _, rfl, p, _, dx, [], rfl, S2 _ _ hp, T.cls "Table", T.noat "Table" "held", (by show 0 < 1000; decide), ?_⟩
      refine q _ (fun b o nb hb => (upd_ne nb).trans (S2 _ _ hb)) ?_
      have hhD : h ∉ D := tk.new hh
      have eh : ∀ o, Hd (h :: p :: D) (upd H2 p o) = Hd (h :: p :: D) H2 := fun o => hd_upd_in (by simp)
      refine ⟨p, dx, h, ws, rfl, (hd_out npD).trans upd_same, (hd_out hhD).trans ((upd_ne nhp).trans hws), ?_, ?_⟩
      · rw [hpa.length, ← hpr.length]
        exact hl
      · refine hpa.mono fun u kv z => ⟨z.1, ?_⟩
        have z2 := z.2
        rw [← eh (.ins (CTof K) dx (putF "held" (.ref h) []))] at z2
        exact z2.mono (wo_same wo_sub)
  exact (G.raw hb .nil).imp fun vs H Q E h => by rw [List.append_nil]; exact h
end
section
variable {P : Program} {w : World} {K : PySem.W.Frag} {mg : PySem.Str → Option Value} {base : Heap}
theorem mk_table (T : Tx K mg) (n : Nat) : Mkr P w K mg base (n + 3) "Table" (spTab K n) := T.mkr "Table" (ok_table T n)
/-! ### from a model to a value -/
def spReal (K : PySem.W.Frag) : Nat → Sp
  | 0 => fun _ _ _ _ => False
  | n + 1 => fun vs H Q _ => ∃ (v : V) (D : List Addr) (ks : List L2.Key) (m : PV), vs = [v] ∧ Tkn D H ∧ MAt ks n (Hd D H) v m ∧ ∀ (v' : V) (H' : Hp), Same H H' → VAt (CTof K) n (Hd D H') v' m → Q v' H'
abbrev nReal : List PySem.Str := ["_law_model_here", "_law_sort", "_law_inner", "_law_key", "_law_item"]
theorem scReal : FnScope nReal ["_law_model_here"] (defScope s_Lreal) := ⟨rfl, rfl, rfl, by decide +kernel, rfl, by decide +kernel, by decide +kernel⟩
theorem ok_real (T : Tx K mg) : ∀ n, FnR P w K mg base CX0 (n + 15) (He.ga K "_law_real") (spReal K n)
  | 0 => fnR_false
  | n + 1 => by
    obtain ⟨fd, F⟩ := F_Lreal T
    have GR : Cl P w K mg base (n + 15) "_law_real" (spReal K n) := ⟨T.glo _, F.kp, ok_real T n⟩
    refine okR F scReal (fun _ _ _ _ _ _ us hl => match us, hl with | [_], _ => rfl) (fun vs H Q E h => ?_) fun cdv A outer s H vs Q E hr h => ?_
    · obtain ⟨v, D, ks, m, rfl, _⟩ := h
      rfl
    obtain ⟨v, D, ks, m, rfl, tk, hm, q⟩ := h
    have nd := scReal.nd
    have GT := mk_table (P := P) (w := w) (base := base) T (n - 1)
    have hrT : Room (n - 1 + 3 + 1) _ := hr.mono (by omega)
    have bt : bootBuiltins "tuple" = some (.type "tuple") := by decide +kernel
    refine ⟨_, pss_cons (ps_asg (pv 0) (pg_tup (by rfl) (pgs_cons (pg_name (i := 1) nd rfl (.inl rfl)) (pgs_cons (pg_name (i := 2) nd rfl (.inl rfl)) pgs_nil))))
      (pss_cons (ps_if (pt_cmpR op_eq (pv 1) pe_str (nomark _)) (pss_one (ps_ret (pe_new GT hrT (pa_cons (pe_lc (own := [("_law_key", 3), ("_law_item", 4)]) (g := gTup K 2 (gCons (gName 3) (gCons (gName 4) gNil))) (tt := tYes)
            (te := tTup (tCons (tVar 3) (tCons (tCl (spReal K n) (tCons (tVar 4) tNil)) tNil))) rfl nd (pi_list (pv 2)) (blkOk_by (own := [("_law_key", 3), ("_law_item", 4)]) (N := nReal) (sc := defScope s_Lreal) (by decide +kernel))
            (fun _ _ _ _ _ => pg_tup (by rfl) (pgs_cons (pg_name (i := 3) nd rfl (.inl rfl)) (pgs_cons (pg_name (i := 4) nd rfl (.inl rfl)) pgs_nil))) (fun _ _ _ _ _ => pts_nil)
            (fun _ _ _ _ _ => pe_tup (pa_cons (pv 3) (pa_cons (pe_f GR hr (pa_cons (pv 4) pa_nil)) pa_nil)))) pa_nil)))) pss_nil)
      (pss_cons (ps_if (pt_cmpR op_eq (pv 1) pe_str (nomark _)) (pss_one (ps_ret (pe_lc (own := [("_law_item", 4)]) (g := gName 4) (tt := tYes) (te := tCl (spReal K n) (tCons (tVar 4) tNil)) rfl nd (pi_list (pv 2))
            (blkOk_by (own := [("_law_item", 4)]) (N := nReal) (sc := defScope s_Lreal) (by decide +kernel)) (fun _ _ _ _ _ => pg_name (i := 4) nd rfl (Or.inl rfl)) (fun _ _ _ _ _ => pts_nil) (fun _ _ _ _ _ => pe_f GR hr (pa_cons (pv 4) pa_nil))))) pss_nil)
      (pss_cons (ps_if (pt_cmpR op_eq (pv 1) pe_str (nomark _)) (pss_one (ps_ret (pe_callTy call_tuple_of rfl (T.free "tuple") bt (pa_cons (pe_lc (own := [("_law_item", 4)]) (g := gName 4) (tt := tYes) (te := tCl (spReal K n) (tCons (tVar 4) tNil)) rfl nd (pi_list (pv 2))
            (blkOk_by (own := [("_law_item", 4)]) (N := nReal) (sc := defScope s_Lreal) (by decide +kernel)) (fun _ _ _ _ _ => pg_name (i := 4) nd rfl (Or.inl rfl)) (fun _ _ _ _ _ => pts_nil) (fun _ _ _ _ _ => pe_f GR hr (pa_cons (pv 4) pa_nil))) pa_nil)))) pss_nil)
      (pss_cons (ps_if (pt_cmpR op_eq (pv 1) pe_str (nomark _)) (pss_one (ps_ret pe_non)) pss_nil)
      (pss_one (ps_ret (pe_ifExp (pt_cmpR op_in_seq (pv 1) (pe_tup (pa_cons pe_str (pa_cons pe_str pa_nil))) rfl) (pv 2) (pe_cmpR op_eq (pv 1) pe_str (nomark _))))))))), ?_⟩
    -- the items of a row, one by one
    have turn : ∀ (k : Nat), n = k + 1 → ∀ (xs : List V) (ms : List PV), Paired (MAt ks k (Hd D H)) xs ms → xs.length ≤ 100 → ∀ (D' : Addr), H D' = none → ∀ (i : Nat) (x : V) (H6 : Hp) (s1 s2 : V), xs[i]? = some x →
        (∃ acc, H6 D' = some (.lst acc) ∧ Paired (VAt (CTof K) k (Hd (D' :: D) H6)) acc (ms.take i) ∧ Same H H6) →
        tCl (spReal K n) (tCons (tVar 4) tNil) [some v, some s1, some s2, none, some x] H6 fun y H4 => ∃ acc, H4 D' = some (.lst acc) ∧ acc.length < sizeLine ∧ ∃ acc2, (upd H4 D' (.lst (acc ++ [y]))) D' = some (.lst acc2) ∧ Paired (VAt (CTof K) k (Hd (D' :: D) (upd H4 D' (.lst (acc ++ [y]))))) acc2 (ms.take (i + 1)) ∧ Same H (upd H4 D' (.lst (acc ++ [y]))) := by
      rintro k rfl xs ms hp hl D' hD i x H6 s1 s2 hx ⟨acc, hacc, hpa, S6⟩
      obtain ⟨m, hm, hxm⟩ := paired_get hp hx
      have tk6 : Tkn (D' :: D) H6 := fun b hb => by
        rcases List.mem_cons.mp hb with rfl | hb
        · rw [hacc]
          exact fun z => by cases z
        · exact tk.mono S6 b hb
      refine ⟨_, rfl, x, D' :: D, ks, m, rfl, tk6, hxm.mono (hd_old S6 hD), fun v' H7 S7 hv' => ?_⟩
      have hacc7 := S7 _ _ hacc
      have e : ∀ o, Hd (D' :: D) (upd H7 D' o) = Hd (D' :: D) H7 := fun o => hd_upd_in (List.mem_cons_self ..)
      refine ⟨acc, hacc7, ?_, acc ++ [v'], upd_same, ?_, same_set (S6.trans S7) hD⟩
      · have l1 := hpa.length
        have l2 := List.length_take_le i ms
        have l3 := hp.length
        rw [List.length_take] at l1
        rw [sizeLine_eq]
        omega
      · rw [e, take_succ_of hm]
        exact (hpa.mono fun _ _ z => z.mono (hd_same _ S7)).snoc hv'
    -- an atom
    have atom : ∀ (z : PySem.Str) (x : V) (p : Addr), v = .ref p → Hd D H p = some (.tup [.str z, x]) → H p = some (.tup [.str z, x]) := fun z x p _ h => hd_sub D _ _ h
    have un : ∀ {p : Addr} {z : PySem.Str} {x : V} {C : L2.St → Hp → Prop}, v = .ref p → H p = some (.tup [.str z, x]) → C [some v, some (.str z), some x, none, none] H →
        tAsg (tVar 0) (gTup K 2 (gCons (gName 1) (gCons (gName 2) gNil))) { nx := C, rt := Q } [some v, none, none, none, none] H := by
      intro p z x C e hp hc
      exact ⟨_, rfl, p, _, e, .inl (.inl hp), rfl, _, _, rfl, _, _, rfl, rfl, hc⟩
    cases m with
    | non =>
      obtain ⟨p, e, hp⟩ : ∃ p, v = .ref p ∧ Hd D H p = some (.tup [.str "null", .non]) := by cases n <;> exact hm
      have hp := hd_sub D _ _ hp
      refine un e hp ?_
      refine ⟨_, rfl, rfl, _, rfl, iteN (by decide +kernel) ⟨_, rfl, rfl, _, rfl, iteN (by decide +kernel) ⟨_, rfl, rfl, _, rfl, iteN (by decide +kernel) ⟨_, rfl, rfl, _, rfl, iteP (by decide +kernel) ?_⟩⟩⟩⟩
      exact q .non H (Same.refl H) (VAtom.any (m := .non) rfl n)
    | bl b =>
      cases b with
      | true =>
        obtain ⟨p, e, hp⟩ : ∃ p, v = .ref p ∧ Hd D H p = some (.tup [.str "true", .non]) := by cases n <;> exact hm
        have hp := hd_sub D _ _ hp
        refine un e hp ?_
        refine ⟨_, rfl, rfl, _, rfl, iteN (by decide +kernel) ⟨_, rfl, rfl, _, rfl, iteN (by decide +kernel) ⟨_, rfl, rfl, _, rfl, iteN (by decide +kernel) ⟨_, rfl, rfl, _, rfl, iteN (by decide +kernel) ?_⟩⟩⟩⟩
        refine ⟨_, rfl, by show 2 ≤ sizeLine; decide, fun t ht => ⟨t, _, rfl, .inr (.inl (.inl upd_same)), rfl, rfl, _, rfl, iteN (by decide +kernel) ⟨_, rfl, rfl, ?_⟩⟩⟩
        have e2 : decide (V.str "true" = V.str "true") = true := by decide +kernel
        exact q _ _ (same_new ht _) (VAtom.any (m := .bl true) (congrArg V.bl e2) n)
      | false =>
        obtain ⟨p, e, hp⟩ : ∃ p, v = .ref p ∧ Hd D H p = some (.tup [.str "false", .non]) := by cases n <;> exact hm
        have hp := hd_sub D _ _ hp
        refine un e hp ?_
        refine ⟨_, rfl, rfl, _, rfl, iteN (by decide +kernel) ⟨_, rfl, rfl, _, rfl, iteN (by decide +kernel) ⟨_, rfl, rfl, _, rfl, iteN (by decide +kernel) ⟨_, rfl, rfl, _, rfl, iteN (by decide +kernel) ?_⟩⟩⟩⟩
        refine ⟨_, rfl, by show 2 ≤ sizeLine; decide, fun t ht => ⟨t, _, rfl, .inr (.inl (.inl upd_same)), rfl, rfl, _, rfl, iteN (by decide +kernel) ⟨_, rfl, rfl, ?_⟩⟩⟩
        have e2 : decide (V.str "false" = V.str "true") = false := by decide +kernel
        exact q _ _ (same_new ht _) (VAtom.any (m := .bl false) (congrArg V.bl e2) n)
    | int i =>
      obtain ⟨p, e, hp⟩ : ∃ p, v = .ref p ∧ Hd D H p = some (.tup [.str "integer", .int i]) := by cases n <;> exact hm
      have hp := hd_sub D _ _ hp
      refine un e hp ?_
      refine ⟨_, rfl, rfl, _, rfl, iteN (by decide +kernel) ⟨_, rfl, rfl, _, rfl, iteN (by decide +kernel) ⟨_, rfl, rfl, _, rfl, iteN (by decide +kernel) ⟨_, rfl, rfl, _, rfl, iteN (by decide +kernel) ?_⟩⟩⟩⟩
      refine ⟨_, rfl, by show 2 ≤ sizeLine; decide, fun t ht => ⟨t, _, rfl, .inr (.inl (.inl upd_same)), rfl, rfl, _, rfl, iteP (by decide +kernel) ⟨_, rfl, ?_⟩⟩⟩
      exact q _ _ (same_new ht _) (VAtom.any (m := .int i) rfl n)
    | str z =>
      obtain ⟨p, e, hp⟩ : ∃ p, v = .ref p ∧ Hd D H p = some (.tup [.str "text", .str z]) := by cases n <;> exact hm
      have hp := hd_sub D _ _ hp
      refine un e hp ?_
      refine ⟨_, rfl, rfl, _, rfl, iteN (by decide +kernel) ⟨_, rfl, rfl, _, rfl, iteN (by decide +kernel) ⟨_, rfl, rfl, _, rfl, iteN (by decide +kernel) ⟨_, rfl, rfl, _, rfl, iteN (by decide +kernel) ?_⟩⟩⟩⟩
      refine ⟨_, rfl, by show 2 ≤ sizeLine; decide, fun t ht => ⟨t, _, rfl, .inr (.inl (.inl upd_same)), rfl, rfl, _, rfl, iteP (by decide +kernel) ⟨_, rfl, ?_⟩⟩⟩
      exact q _ _ (same_new ht _) (VAtom.any (m := .str z) rfl n)
    | lst ms =>
      cases n with
      | zero => exact (show False from hm).elim
      | succ k =>
        obtain ⟨p, l, xs, e, hp, hlx, hl, pr⟩ := (show MRow "list" _ _ v ms from hm)
        have hp := hd_sub D _ _ hp
        have hlH := hd_sub D _ _ hlx
        refine un e hp ?_
        refine ⟨_, rfl, rfl, _, rfl, iteN (by decide +kernel) ⟨_, rfl, rfl, _, rfl, iteP (by decide +kernel) ?_⟩⟩
        refine ⟨_, rfl, l, rfl, ⟨_, SqL.of hlH⟩, fun D' hD => ?_⟩
        refine lc_list (K := K) (a := l) (xs := xs) (fun i H6 => ∃ acc, H6 D' = some (.lst acc) ∧ Paired (VAt (CTof K) k (Hd (D' :: D) H6)) acc (ms.take i) ∧ Same H H6) ⟨[], upd_same, .nil, same_new hD _⟩ (fun i H6 _ ⟨_, _, _, S6⟩ => SqL.of (S6 _ _ hlH)) ?_ ?_
        · intro i x H6 hx hi
          exact ⟨rfl, turn k rfl xs ms pr hl D' hD i x H6 _ _ hx hi⟩
        · rintro H6 ⟨acc, hacc, hpa, S6⟩
          rw [pr.length, List.take_length] at hpa
          exact q (.ref D') H6 S6 ⟨D', acc, rfl, (hd_out (tk.new hD)).trans hacc, by rw [hpa.length, ← pr.length]; exact hl, hpa.mono fun _ _ z => z.mono wo_sub⟩
    | tup ms =>
      cases n with
      | zero => exact (show False from hm).elim
      | succ k =>
        obtain ⟨p, l, xs, e, hp, hlx, hl, pr⟩ := (show MRow "tuple" _ _ v ms from hm)
        have hp := hd_sub D _ _ hp
        have hlH := hd_sub D _ _ hlx
        refine un e hp ?_
        refine ⟨_, rfl, rfl, _, rfl, iteN (by decide +kernel) ⟨_, rfl, rfl, _, rfl, iteN (by decide +kernel) ⟨_, rfl, rfl, _, rfl, iteP (by decide +kernel) ?_⟩⟩⟩
        refine ⟨_, rfl, l, rfl, ⟨_, SqL.of hlH⟩, fun D' hD => ?_⟩
        refine lc_list (K := K) (a := l) (xs := xs) (fun i H6 => ∃ acc, H6 D' = some (.lst acc) ∧ Paired (VAt (CTof K) k (Hd (D' :: D) H6)) acc (ms.take i) ∧ Same H H6) ⟨[], upd_same, .nil, same_new hD _⟩ (fun i H6 _ ⟨_, _, _, S6⟩ => SqL.of (S6 _ _ hlH)) ?_ ?_
        · intro i x H6 hx hi
          exact ⟨rfl, turn k rfl xs ms pr hl D' hD i x H6 _ _ hx hi⟩
        · rintro H6 ⟨acc, hacc, hpa, S6⟩
          rw [pr.length, List.take_length] at hpa
          refine ⟨D', acc, rfl, .inl ⟨SqL.of hacc, fun t ht => ?_⟩⟩
          have St := same_new ht (.tup acc)
          exact q (.ref t) _ (S6.trans St) ⟨t, acc, rfl, (hd_out ((tk.mono S6).new ht)).trans upd_same, by rw [hpa.length, ← pr.length]; exact hl, hpa.mono fun _ _ z => z.mono (wo_sub.trans (hd_same D St))⟩
    | tab kvs =>
      cases n with
      | zero => exact (show False from hm).elim
      | succ k =>
        obtain ⟨p, l, rs, e, hp, hlx, hl, kn, kin, pr⟩ := (show MTab ks _ _ v kvs from hm)
        have hp := hd_sub D _ _ hp
        have hlH := hd_sub D _ _ hlx
        refine un e hp ?_
        refine ⟨_, rfl, rfl, _, rfl, iteP (by decide +kernel) ?_⟩
        refine ⟨_, rfl, l, rfl, ⟨_, SqL.of hlH⟩, fun D' hD => ?_⟩
        refine lc_list (K := K) (a := l) (xs := rs) (fun i H6 => ∃ acc, H6 D' = some (.lst acc) ∧ Paired (VEnt K k (Hd (D' :: D) H6)) acc (kvs.take i) ∧ Same H H6) ⟨[], upd_same, .nil, same_new hD _⟩ (fun i H6 _ ⟨_, _, _, S6⟩ => SqL.of (S6 _ _ hlH)) ?_ ?_
        · rintro i r H6 hr6 ⟨acc, hacc, hpa, S6⟩
          obtain ⟨kv, hkv, a, x, rfl, ha, hx⟩ := paired_get pr hr6
          have tk6 : Tkn (D' :: D) H6 := fun b hb => by
            rcases List.mem_cons.mp hb with rfl | hb
            · rw [hacc]
              exact fun z => by cases z
            · exact tk.mono S6 b hb
          refine ⟨a, _, rfl, .inl (.inl (S6 _ _ (hd_sub D _ _ ha))), rfl, _, _, rfl, _, _, rfl, rfl, rfl, ?_⟩
          refine ⟨_, rfl, _, rfl, x, D' :: D, ks, kv.2, rfl, tk6, hx.mono (hd_old S6 hD), fun v' H7 S7 hv' => ⟨by show 2 ≤ sizeLine; decide, fun t ht => ?_⟩⟩
          have hacc7 := S7 _ _ hacc
          have St := same_new ht (.tup [kV kv.1, v'])
          have ntD : t ∉ D' :: D := (tk6.mono S7).new ht
          have e : ∀ o, Hd (D' :: D) (upd (upd H7 t (.tup [kV kv.1, v'])) D' o) = Hd (D' :: D) (upd H7 t (.tup [kV kv.1, v'])) := fun o => hd_upd_in (List.mem_cons_self ..)
          refine ⟨acc, St _ _ hacc7, ?_, acc ++ [.ref t], upd_same, ?_, same_set ((S6.trans S7).trans St) hD⟩
          · have l1 := hpa.length
            have l2 := List.length_take_le i kvs
            have l3 := pr.length
            rw [List.length_take] at l1
            rw [sizeLine_eq]
            omega
          · rw [e, take_succ_of hkv]
            exact (hpa.mono fun _ _ z => z.mono (hd_same _ (S7.trans St))).snoc ⟨t, v', rfl, (hd_out ntD).trans upd_same, hv'.mono (hd_same _ St)⟩
        · rintro H6 ⟨acc, hacc, hpa, S6⟩
          rw [pr.length, List.take_length] at hpa
          intro x dx hx hdx nx
          have S8 : Same H6 (upd (upd H6 dx (.own x)) x (.ins (CTof K) dx [])) := (same_new hdx _).trans (same_new ((upd_ne nx.symm).trans hx) _)
          have tk8 := (tk.mono S6).mono S8
          have hxD : x ∉ D := (tk.mono S6).new hx
          have hold : Same (Hd D H6) (Hd (x :: D) (upd (upd H6 dx (.own x)) x (.ins (CTof K) dx []))) := hd_old S8 hx
          refine ⟨x, D', dx, D, acc, kvs, rfl, upd_same, tk8, hxD, SqL.of (hold _ _ ((hd_out (tk.new hD)).trans hacc)), by rw [hpa.length, ← pr.length]; exact hl, kn, hpa.mono fun _ _ z => z.mono (wo_sub.trans hold), fun H' S9 hv => ⟨rfl, ?_⟩⟩
          refine q (.ref x) H' (fun b o hb => ?_) hv
          have h6 := S6 _ _ hb
          exact S9 b o (ne_of_none h6 hx) (S8 _ _ h6)
end
/-! ### the exchange of keys by place -/
def fmap (ks os : List L2.Key) (k : L2.Key) : L2.Key := if k ∈ ks then os.getD (ks.idxOf k) k else k
theorem fmap_at {ks os : List L2.Key} (hl : os.length = ks.length) {k : L2.Key} (h : k ∈ ks) : os[ks.idxOf k]? = some (fmap ks os k) := by
  have hi : ks.idxOf k < os.length := by
    rw [hl]
    exact List.idxOf_lt_length_of_mem h
  unfold fmap
  rw [if_pos h, List.getD_eq_getElem?_getD, List.getElem?_eq_getElem hi]
  rfl
theorem fmap_mem {ks os : List L2.Key} (hl : os.length = ks.length) {k : L2.Key} (h : k ∈ ks) : fmap ks os k ∈ os := List.mem_of_getElem? (fmap_at hl h)
theorem fmap_inj {ks os : List L2.Key} (hl : os.length = ks.length) (hn : os.Nodup) {j k : L2.Key} (hj : j ∈ ks) (hk : k ∈ ks) (e : fmap ks os j = fmap ks os k) : j = k := by
  have a := fmap_at hl hj
  have b := fmap_at hl hk
  rw [e] at a
  obtain ⟨a1, a2⟩ := List.getElem?_eq_some_iff.mp a
  obtain ⟨b1, b2⟩ := List.getElem?_eq_some_iff.mp b
  have hidx : ks.idxOf j = ks.idxOf k := by
    by_cases c : ks.idxOf j < ks.idxOf k
    · exact absurd (a2.trans b2.symm) ((List.pairwise_iff_getElem.mp hn) _ _ a1 b1 c)
    · by_cases c2 : ks.idxOf k < ks.idxOf j
      · exact absurd (b2.trans a2.symm) ((List.pairwise_iff_getElem.mp hn) _ _ b1 a1 c2)
      · omega
  have h1 : ks[ks.idxOf j]'(List.idxOf_lt_length_of_mem hj) = j := List.getElem_idxOf _
  have h2 : ks[ks.idxOf k]'(List.idxOf_lt_length_of_mem hk) = k := List.getElem_idxOf _
  rw [← h1, ← h2]
  simp only [hidx]
theorem nodup_fmap {ks os : List L2.Key} (hl : os.length = ks.length) (hn : os.Nodup) {g : PV → PV} : ∀ {kvs : List (L2.Key × PV)}, (kvs.map (·.1)).Nodup → (∀ kv ∈ kvs, kv.1 ∈ ks) → ((kvs.map fun p => (fmap ks os p.1, g p.2)).map (·.1)).Nodup
  | [], _, _ => List.nodup_nil
  | kv :: kvs, h, hin => by
    rw [List.map_cons, List.nodup_cons] at h
    rw [List.map_cons, List.map_cons, List.nodup_cons]
    refine ⟨fun z => h.1 ?_, nodup_fmap hl hn h.2 fun q hq => hin q (List.mem_cons_of_mem _ hq)⟩
    obtain ⟨y, hy, e⟩ := List.mem_map.mp z
    obtain ⟨x, hx, rfl⟩ := List.mem_map.mp hy
    have e2 : x.1 = kv.1 := fmap_inj hl hn (hin x (List.mem_cons_of_mem _ hx)) (hin kv (List.mem_cons_self ..)) e
    exact List.mem_map.mpr ⟨x, hx, e2⟩
theorem idx_first {k : L2.Key} : ∀ {ks : List L2.Key} {m : Nat} {z : L2.Key}, m < ks.idxOf k → ks[m]? = some z → z ≠ k
  | [], _, _, h, _ => by simp at h
  | j :: ks, 0, z, h, e => by
    have ez : j = z := by simpa using e
    rw [List.idxOf_cons] at h
    intro q
    rw [ez, q, beq_self_eq_true] at h
    simp at h
  | j :: ks, m + 1, z, h, e => by
    rw [List.idxOf_cons] at h
    have e2 : ks[m]? = some z := by simpa using e
    cases c : (j == k) with
    | true =>
      rw [c] at h
      simp at h
    | false =>
      rw [c] at h
      exact idx_first (ks := ks) (m := m) (by simpa using h) e2
theorem take_map_succ {α β : Type} {f : α → β} {xs : List α} {i : Nat} {x : α} (h : xs[i]? = some x) : (xs.take (i + 1)).map f = (xs.take i).map f ++ [f x] := by
  rw [take_succ_of h, List.map_append]
  rfl
theorem MEnt.mono {G G' : V → PV → Prop} {H H' : Hp} (S : Same H H') (g : ∀ x m, G x m → G' x m) {r : V} {kv : L2.Key × PV} (h : MEnt G H r kv) : MEnt G' H' r kv := by
  obtain ⟨a, x, e, h1, h2⟩ := h
  exact ⟨a, x, e, S _ _ h1, g _ _ h2⟩
theorem key_at {ks : List L2.Key} {k : L2.Key} (hk : k ∈ ks) : (ks.map kV)[ks.idxOf k]? = some (kV k) := by
  have hi := List.idxOf_lt_length_of_mem hk
  rw [List.getElem?_map, List.getElem?_eq_getElem hi, List.getElem_idxOf]
  rfl
theorem key_self (k : L2.Key) : eqV (kV k) (kV k) = true := by rw [eqV_kV, beq_self_eq_true]
theorem key_first (ks : List L2.Key) (k : L2.Key) (m : Nat) (z' : V) (hm : m < ks.idxOf k) (hz : (ks.map kV)[m]? = some z') : eqV z' (kV k) = false := by
  rw [List.getElem?_map] at hz
  obtain ⟨j, hj, rfl⟩ := Option.map_eq_some_iff.mp hz
  rw [eqV_kV]
  exact beq_eq_false_iff_ne.mpr (idx_first hm hj)
section
variable {P : Program} {w : World} {K : PySem.W.Frag} {mg : PySem.Str → Option Value} {base : Heap}
def spExch (K : PySem.W.Frag) : Nat → Sp
  | 0 => fun _ _ _ _ => False
  | n + 1 => fun vs H Q _ => ∃ (v : V) (kl ol : Addr) (D : List Addr) (ks os : List L2.Key) (m : PV), vs = [v, .ref kl, .ref ol] ∧ Tkn D H ∧ SqL K (Hd D H) kl (ks.map kV) ∧ SqL K (Hd D H) ol (os.map kV) ∧ os.length = ks.length ∧ os.Nodup ∧ MAt ks n (Hd D H) v m ∧
    ∀ (v' : V) (H' : Hp), Same H H' → MAt os n (Hd D H') v' (exch (fmap ks os) n m) → Q v' H'
abbrev nExch : List PySem.Str := ["_law_model_here", "_law_keys_here", "_law_others", "_law_sort", "_law_inner", "_law_rows", "_law_key", "_law_item"]
theorem scExch : FnScope nExch ["_law_model_here", "_law_keys_here", "_law_others"] (defScope s_Lexchanged) := ⟨rfl, rfl, rfl, by decide +kernel, rfl, by decide +kernel, by decide +kernel⟩
theorem ok_exch (T : Tx K mg) : ∀ n, FnR P w K mg base CX0 n (He.ga K "_law_exchanged") (spExch K n)
  | 0 => fnR_false
  | n + 1 => by
    obtain ⟨fd, F⟩ := F_Lexchanged T
    have GR : Cl P w K mg base n "_law_exchanged" (spExch K n) := ⟨T.glo _, F.kp, ok_exch T n⟩
    refine okR F scExch (fun _ _ _ _ _ _ us hl => match us, hl with | [_, _, _], _ => rfl) (fun vs H Q E h => ?_) fun cdv A outer s H vs Q E hr h => ?_
    · obtain ⟨v, kl, ol, D, ks, os, m, rfl, _⟩ := h
      rfl
    obtain ⟨v, kl, ol, D, ks, os, m, rfl, tk, hkl, hol, hlen, hon, hm, q⟩ := h
    have nd := scExch.nd
    refine ⟨_, pss_cons (ps_asg (pv 0) (pg_tup (by rfl) (pgs_cons (pg_name (i := 3) nd rfl (.inl rfl)) (pgs_cons (pg_name (i := 4) nd rfl (.inl rfl)) pgs_nil))))
      (pss_cons (ps_if (pt_cmpR op_eq (pv 3) pe_str (nomark _))
        (pss_cons (ps_setLc (i := 5) (own := [("_law_key", 6), ("_law_item", 7)]) (g := gTup K 2 (gCons (gName 6) (gCons (gName 7) gNil))) (tt := tYes) (te := tTup (tCons (tVar 6) (tCons (tCl (spExch K n) (tCons (tVar 7) (tCons (tVar 1) (tCons (tVar 2) tNil)))) tNil)))
            rfl nd rfl rfl (sw_true rfl rfl rfl (by decide +kernel)) (pi_list (pv 4)) (blkOk_by (own := [("_law_key", 6), ("_law_item", 7)]) (N := nExch) (sc := defScope s_Lexchanged) (by decide +kernel))
            (fun _ _ _ _ _ => pg_tup (by rfl) (pgs_cons (pg_name (i := 6) nd rfl (.inl rfl)) (pgs_cons (pg_name (i := 7) nd rfl (.inl rfl)) pgs_nil))) (fun _ _ _ _ _ => pts_nil)
            (fun _ _ _ _ _ => pe_tup (pa_cons (pv 6) (pa_cons (pe_f GR hr (pa_cons (pv 7) (pa_cons (pv 1) (pa_cons (pv 2) pa_nil)))) pa_nil))))
        (pss_one (ps_ret (pe_tup (pa_cons pe_str (pa_cons (pe_lc (own := [("_law_key", 6), ("_law_item", 7)]) (g := gTup K 2 (gCons (gName 6) (gCons (gName 7) gNil))) (tt := tYes) (te := tTup (tCons (tOp (rIxL K) (tVar 2) (tBM K "list" (rIndex K) (tVar 1) (tCons (tVar 6) tNil))) (tCons (tVar 7) tNil)))
            rfl nd (pi_list (pv 5)) (blkOk_by (own := [("_law_key", 6), ("_law_item", 7)]) (N := nExch) (sc := defScope s_Lexchanged) (by decide +kernel))
            (fun _ _ _ _ _ => pg_tup (by rfl) (pgs_cons (pg_name (i := 6) nd rfl (.inl rfl)) (pgs_cons (pg_name (i := 7) nd rfl (.inl rfl)) pgs_nil))) (fun _ _ _ _ _ => pts_nil)
            (fun _ _ _ _ _ => pe_tup (pa_cons (pe_ix ix_list (pv 2) (pe_bm PySem.F.plainAttrs_list PySem.F.slot_list_index PySem.F.type_list_index mt_index (pv 1) (pa_cons (pv 6) pa_nil)) (fun _ _ => rfl)) (pa_cons (pv 7) pa_nil)))) pa_nil)))))) pss_nil)
      (pss_cons (ps_if (pt_cmpR op_in_seq (pv 3) (pe_tup (pa_cons pe_str (pa_cons pe_str pa_nil))) rfl) (pss_one (ps_ret (pe_tup (pa_cons (pv 3) (pa_cons (pe_lc (own := [("_law_item", 7)]) (g := gName 7) (tt := tYes) (te := tCl (spExch K n) (tCons (tVar 7) (tCons (tVar 1) (tCons (tVar 2) tNil)))) rfl nd (pi_list (pv 4))
            (blkOk_by (own := [("_law_item", 7)]) (N := nExch) (sc := defScope s_Lexchanged) (by decide +kernel)) (fun _ _ _ _ _ => pg_name (i := 7) nd rfl (Or.inl rfl)) (fun _ _ _ _ _ => pts_nil) (fun _ _ _ _ _ => pe_f GR hr (pa_cons (pv 7) (pa_cons (pv 1) (pa_cons (pv 2) pa_nil))))) pa_nil))))) pss_nil)
      (pss_one (ps_ret (pv 0))))), ?_⟩
    have un : ∀ {p : Addr} {z : PySem.Str} {x : V} {C : L2.St → Hp → Prop}, v = .ref p → H p = some (.tup [.str z, x]) → C [some v, some (.ref kl), some (.ref ol), some (.str z), some x, none, none, none] H →
        tAsg (tVar 0) (gTup K 2 (gCons (gName 3) (gCons (gName 4) gNil))) { nx := C, rt := Q } [some v, some (.ref kl), some (.ref ol), none, none, none, none, none] H := by
      intro p z x C e hp hc
      exact ⟨_, rfl, p, _, e, .inl (.inl hp), rfl, _, _, rfl, _, _, rfl, rfl, hc⟩
    have hklH := seq_mono (hd_sub D) hkl
    have holH := seq_mono (hd_sub D) hol
    -- the items of a row, one by one
    have turn : ∀ (k : Nat), n = k + 1 → ∀ (xs : List V) (ms : List PV), Paired (MAt ks k (Hd D H)) xs ms → xs.length ≤ 100 → ∀ (H1 : Hp), Same H H1 → ∀ (D' : Addr), H1 D' = none → ∀ (i : Nat) (x : V) (H6 : Hp) (s1 s2 : V), xs[i]? = some x →
        (∃ acc, H6 D' = some (.lst acc) ∧ Paired (MAt os k (Hd (D' :: D) H6)) acc ((ms.take i).map (exch (fmap ks os) k)) ∧ Same H1 H6) →
        tCl (spExch K n) (tCons (tVar 7) (tCons (tVar 1) (tCons (tVar 2) tNil))) [some v, some (.ref kl), some (.ref ol), some s1, some s2, none, none, some x] H6 fun y H4 => ∃ acc, H4 D' = some (.lst acc) ∧ acc.length < sizeLine ∧ ∃ acc2, (upd H4 D' (.lst (acc ++ [y]))) D' = some (.lst acc2) ∧ Paired (MAt os k (Hd (D' :: D) (upd H4 D' (.lst (acc ++ [y]))))) acc2 ((ms.take (i + 1)).map (exch (fmap ks os) k)) ∧ Same H1 (upd H4 D' (.lst (acc ++ [y]))) := by
      rintro k rfl xs ms hp hl H1 S1 D' hD i x H6 s1 s2 hx ⟨acc, hacc, hpa, S6⟩
      obtain ⟨m, hm, hxm⟩ := paired_get hp hx
      have tk6 : Tkn (D' :: D) H6 := fun b hb => by
        rcases List.mem_cons.mp hb with rfl | hb
        · rw [hacc]
          exact fun z => by cases z
        · exact (tk.mono S1).mono S6 b hb
      have hold : Same (Hd D H) (Hd (D' :: D) H6) := (hd_same D S1).trans (hd_old S6 hD)
      refine ⟨_, rfl, _, rfl, _, rfl, x, kl, ol, D' :: D, ks, os, m, rfl, tk6, seq_mono hold hkl, seq_mono hold hol, hlen, hon, hxm.mono hold, fun v' H7 S7 hv' => ?_⟩
      have hacc7 := S7 _ _ hacc
      have e : ∀ o, Hd (D' :: D) (upd H7 D' o) = Hd (D' :: D) H7 := fun o => hd_upd_in (List.mem_cons_self ..)
      refine ⟨acc, hacc7, ?_, acc ++ [v'], upd_same, ?_, same_set (S6.trans S7) hD⟩
      · have l1 := hpa.length
        have l2 := List.length_take_le i ms
        have l3 := hp.length
        rw [List.length_map, List.length_take] at l1
        rw [sizeLine_eq]
        omega
      · rw [e, take_map_succ hm]
        exact (hpa.mono fun _ _ z => z.mono (hd_same _ S7)).snoc hv'
    have fin : MAtom (Hd D H) v m → exch (fmap ks os) n m = m → ∀ H', Same H H' → Q v H' := fun h e H' S => q v H' S (by rw [e]; exact (h.mono (hd_same D S)).any n)
    cases m with
    | non =>
      obtain ⟨p, e, hp⟩ : ∃ p, v = .ref p ∧ Hd D H p = some (.tup [.str "null", .non]) := by cases n <;> exact hm
      refine un e (hd_sub D _ _ hp) ?_
      refine ⟨_, rfl, rfl, _, rfl, iteN (by decide +kernel) ⟨_, rfl, by show 2 ≤ sizeLine; decide, fun t ht => ⟨t, _, rfl, .inr (.inl (.inl upd_same)), rfl, rfl, _, rfl, iteN (by decide +kernel) ⟨_, rfl, fin ⟨p, e, hp⟩ (by cases n <;> rfl) _ (same_new ht _)⟩⟩⟩⟩
    | bl b =>
      cases b with
      | true =>
        obtain ⟨p, e, hp⟩ : ∃ p, v = .ref p ∧ Hd D H p = some (.tup [.str "true", .non]) := by cases n <;> exact hm
        refine un e (hd_sub D _ _ hp) ?_
        refine ⟨_, rfl, rfl, _, rfl, iteN (by decide +kernel) ⟨_, rfl, by show 2 ≤ sizeLine; decide, fun t ht => ⟨t, _, rfl, .inr (.inl (.inl upd_same)), rfl, rfl, _, rfl, iteN (by decide +kernel) ⟨_, rfl, fin ⟨p, e, hp⟩ (by cases n <;> rfl) _ (same_new ht _)⟩⟩⟩⟩
      | false =>
        obtain ⟨p, e, hp⟩ : ∃ p, v = .ref p ∧ Hd D H p = some (.tup [.str "false", .non]) := by cases n <;> exact hm
        refine un e (hd_sub D _ _ hp) ?_
        refine ⟨_, rfl, rfl, _, rfl, iteN (by decide +kernel) ⟨_, rfl, by show 2 ≤ sizeLine; decide, fun t ht => ⟨t, _, rfl, .inr (.inl (.inl upd_same)), rfl, rfl, _, rfl, iteN (by decide +kernel) ⟨_, rfl, fin ⟨p, e, hp⟩ (by cases n <;> rfl) _ (same_new ht _)⟩⟩⟩⟩
    | int i =>
      obtain ⟨p, e, hp⟩ : ∃ p, v = .ref p ∧ Hd D H p = some (.tup [.str "integer", .int i]) := by cases n <;> exact hm
      refine un e (hd_sub D _ _ hp) ?_
      refine ⟨_, rfl, rfl, _, rfl, iteN (by decide +kernel) ⟨_, rfl, by show 2 ≤ sizeLine; decide, fun t ht => ⟨t, _, rfl, .inr (.inl (.inl upd_same)), rfl, rfl, _, rfl, iteN (by decide +kernel) ⟨_, rfl, fin ⟨p, e, hp⟩ (by cases n <;> rfl) _ (same_new ht _)⟩⟩⟩⟩
    | str z =>
      obtain ⟨p, e, hp⟩ : ∃ p, v = .ref p ∧ Hd D H p = some (.tup [.str "text", .str z]) := by cases n <;> exact hm
      refine un e (hd_sub D _ _ hp) ?_
      refine ⟨_, rfl, rfl, _, rfl, iteN (by decide +kernel) ⟨_, rfl, by show 2 ≤ sizeLine; decide, fun t ht => ⟨t, _, rfl, .inr (.inl (.inl upd_same)), rfl, rfl, _, rfl, iteN (by decide +kernel) ⟨_, rfl, fin ⟨p, e, hp⟩ (by cases n <;> rfl) _ (same_new ht _)⟩⟩⟩⟩
    | lst ms =>
      cases n with
      | zero => exact (show False from hm).elim
      | succ k =>
        obtain ⟨p, l, xs, e, hp, hlx, hl, pr⟩ := (show MRow "list" _ _ v ms from hm)
        have hp := hd_sub D _ _ hp
        have hlH := hd_sub D _ _ hlx
        refine un e hp ?_
        refine ⟨_, rfl, rfl, _, rfl, iteN (by decide +kernel) ⟨_, rfl, by show 2 ≤ sizeLine; decide, fun t ht => ⟨t, _, rfl, .inr (.inl (.inl upd_same)), rfl, rfl, _, rfl, iteP (by decide +kernel) ?_⟩⟩⟩
        have St := same_new ht (.tup [.str "list", .str "tuple"])
        have hlt := St _ _ hlH
        generalize upd H t (.tup [.str "list", .str "tuple"]) = H1 at St hlt ⊢
        refine ⟨_, rfl, _, rfl, l, rfl, ⟨_, SqL.of hlt⟩, fun D' hD => ?_⟩
        refine lc_list (K := K) (a := l) (xs := xs) (fun i H6 => ∃ acc, H6 D' = some (.lst acc) ∧ Paired (MAt os k (Hd (D' :: D) H6)) acc ((ms.take i).map (exch (fmap ks os) k)) ∧ Same H1 H6) ⟨[], upd_same, .nil, same_new hD _⟩ (fun i H6 _ ⟨_, _, _, S6⟩ => SqL.of (S6 _ _ hlt)) ?_ ?_
        · intro i x H6 hx hi
          exact ⟨rfl, turn k rfl xs ms pr hl H1 St D' hD i x H6 _ _ hx hi⟩
        · rintro H6 ⟨acc, hacc, hpa, S6⟩
          rw [pr.length, List.take_length] at hpa
          refine ⟨by show 2 ≤ sizeLine; decide, fun t2 ht2 => ?_⟩
          have S8 := same_new ht2 (.tup [.str "list", .ref D'])
          have tk6 := (tk.mono St).mono S6
          refine q (.ref t2) _ ((St.trans S6).trans S8) ⟨t2, D', acc, rfl, (hd_out (tk6.new ht2)).trans upd_same, (hd_out ((tk.mono St).new hD)).trans (S8 _ _ hacc), ?_, hpa.mono fun _ _ z => z.mono (wo_sub.trans (hd_same D S8))⟩
          have l1 := hpa.length
          rw [List.length_map] at l1
          rw [l1, ← pr.length]
          exact hl
    | tup ms =>
      cases n with
      | zero => exact (show False from hm).elim
      | succ k =>
        obtain ⟨p, l, xs, e, hp, hlx, hl, pr⟩ := (show MRow "tuple" _ _ v ms from hm)
        have hp := hd_sub D _ _ hp
        have hlH := hd_sub D _ _ hlx
        refine un e hp ?_
        refine ⟨_, rfl, rfl, _, rfl, iteN (by decide +kernel) ⟨_, rfl, by show 2 ≤ sizeLine; decide, fun t ht => ⟨t, _, rfl, .inr (.inl (.inl upd_same)), rfl, rfl, _, rfl, iteP (by decide +kernel) ?_⟩⟩⟩
        have St := same_new ht (.tup [.str "list", .str "tuple"])
        have hlt := St _ _ hlH
        generalize upd H t (.tup [.str "list", .str "tuple"]) = H1 at St hlt ⊢
        refine ⟨_, rfl, _, rfl, l, rfl, ⟨_, SqL.of hlt⟩, fun D' hD => ?_⟩
        refine lc_list (K := K) (a := l) (xs := xs) (fun i H6 => ∃ acc, H6 D' = some (.lst acc) ∧ Paired (MAt os k (Hd (D' :: D) H6)) acc ((ms.take i).map (exch (fmap ks os) k)) ∧ Same H1 H6) ⟨[], upd_same, .nil, same_new hD _⟩ (fun i H6 _ ⟨_, _, _, S6⟩ => SqL.of (S6 _ _ hlt)) ?_ ?_
        · intro i x H6 hx hi
          exact ⟨rfl, turn k rfl xs ms pr hl H1 St D' hD i x H6 _ _ hx hi⟩
        · rintro H6 ⟨acc, hacc, hpa, S6⟩
          rw [pr.length, List.take_length] at hpa
          refine ⟨by show 2 ≤ sizeLine; decide, fun t2 ht2 => ?_⟩
          have S8 := same_new ht2 (.tup [.str "tuple", .ref D'])
          have tk6 := (tk.mono St).mono S6
          refine q (.ref t2) _ ((St.trans S6).trans S8) ⟨t2, D', acc, rfl, (hd_out (tk6.new ht2)).trans upd_same, (hd_out ((tk.mono St).new hD)).trans (S8 _ _ hacc), ?_, hpa.mono fun _ _ z => z.mono (wo_sub.trans (hd_same D S8))⟩
          have l1 := hpa.length
          rw [List.length_map] at l1
          rw [l1, ← pr.length]
          exact hl
    | tab kvs =>
      cases n with
      | zero => exact (show False from hm).elim
      | succ k =>
        obtain ⟨p, l, rs, e, hp, hlx, hl, kn, kin, pr⟩ := (show MTab ks _ _ v kvs from hm)
        have hp := hd_sub D _ _ hp
        have hlH := hd_sub D _ _ hlx
        refine un e hp ?_
        refine ⟨_, rfl, rfl, _, rfl, iteP (by decide +kernel) ?_⟩
        refine ⟨_, rfl, l, rfl, ⟨_, SqL.of hlH⟩, fun D' hD => ?_⟩
        have dt : ∀ {H2 : Hp} {C : Addr} {acc : List V}, Same H H2 → H2 C = some (.lst acc) → Tkn (C :: D) H2 := fun S2 hc b hb => by
          rcases List.mem_cons.mp hb with rfl | hb
          · rw [hc]
            exact fun z => by cases z
          · exact tk.mono S2 b hb
        refine lc_list (K := K) (a := l) (xs := rs) (fun i H6 => ∃ acc, H6 D' = some (.lst acc) ∧ Paired (MEnt (MAt os k (Hd (D' :: D) H6)) (Hd (D' :: D) H6)) acc ((kvs.take i).map fun p => (p.1, exch (fmap ks os) k p.2)) ∧ Same H H6) ⟨[], upd_same, .nil, same_new hD _⟩ (fun i H6 _ ⟨_, _, _, S6⟩ => SqL.of (S6 _ _ hlH)) ?_ ?_
        · rintro i r H6 hr6 ⟨acc, hacc, hpa, S6⟩
          obtain ⟨kv, hkv, a, x, rfl, ha, hx⟩ := paired_get pr hr6
          have tk6 := dt S6 hacc
          have hold : Same (Hd D H) (Hd (D' :: D) H6) := hd_old S6 hD
          refine ⟨a, _, rfl, .inl (.inl (S6 _ _ (hd_sub D _ _ ha))), rfl, _, _, rfl, _, _, rfl, rfl, rfl, ?_⟩
          refine ⟨_, rfl, _, rfl, _, rfl, _, rfl, x, kl, ol, D' :: D, ks, os, kv.2, rfl, tk6, seq_mono hold hkl, seq_mono hold hol, hlen, hon, hx.mono hold, fun v' H7 S7 hv' => ⟨by show 2 ≤ sizeLine; decide, fun t ht => ?_⟩⟩
          have hacc7 := S7 _ _ hacc
          have St := same_new ht (.tup [kV kv.1, v'])
          have ntD : t ∉ D' :: D := (tk6.mono S7).new ht
          have e : ∀ o, Hd (D' :: D) (upd (upd H7 t (.tup [kV kv.1, v'])) D' o) = Hd (D' :: D) (upd H7 t (.tup [kV kv.1, v'])) := fun o => hd_upd_in (List.mem_cons_self ..)
          refine ⟨acc, St _ _ hacc7, ?_, acc ++ [.ref t], upd_same, ?_, same_set ((S6.trans S7).trans St) hD⟩
          · have l1 := hpa.length
            have l2 := List.length_take_le i kvs
            have l3 := pr.length
            rw [List.length_map, List.length_take] at l1
            rw [sizeLine_eq]
            omega
          · rw [e, take_map_succ hkv]
            exact (hpa.mono fun _ _ z => MEnt.mono (hd_same _ (S7.trans St)) (fun _ _ z => z.mono (hd_same _ (S7.trans St))) z).snoc ⟨t, v', rfl, (hd_out ntD).trans upd_same, hv'.mono (hd_same _ St)⟩
        · rintro H6 ⟨acc, hacc, hpa, S6⟩
          rw [pr.length, List.take_length] at hpa
          have hacc' := hacc
          refine ⟨_, rfl, D', rfl, ⟨_, SqL.of hacc⟩, fun D2 hD2 => ?_⟩
          have tkD := dt S6 hacc
          have al : acc.length = kvs.length := by
            have := hpa.length
            rw [List.length_map] at this
            exact this
          refine lc_list (K := K) (a := D') (xs := acc) (fun i H7 => ∃ acc2, H7 D2 = some (.lst acc2) ∧ Paired (MEnt (MAt os k (Hd (D2 :: D) H7)) (Hd (D2 :: D) H7)) acc2 ((kvs.take i).map fun p => (fmap ks os p.1, exch (fmap ks os) k p.2)) ∧ Same H6 H7) ⟨[], upd_same, .nil, same_new hD2 _⟩ (fun i H7 _ ⟨_, _, _, S7⟩ => SqL.of (S7 _ _ hacc)) ?_ ?_
          · rintro i r H7 hr7 ⟨acc2, hacc2, hpa2, S7⟩
            obtain ⟨kv', hkv', a, x, rfl, ha, hx⟩ := paired_get hpa hr7
            rw [List.getElem?_map] at hkv'
            obtain ⟨kv, hkv, rfl⟩ := Option.map_eq_some_iff.mp hkv'
            have haH6 := hd_sub (D' :: D) _ _ ha
            have hin := kin kv (List.mem_of_getElem? hkv)
            have S67 := S6.trans S7
            refine ⟨a, _, rfl, .inl (.inl (S7 _ _ haH6)), rfl, _, _, rfl, _, _, rfl, rfl, rfl, ?_⟩
            refine ⟨_, rfl, _, rfl, .inl ⟨rfl, _, S67.seq hklH⟩, _, rfl, ?_⟩
            refine ⟨kl, ks.map kV, kV kv.1, ks.idxOf kv.1, kV kv.1, rfl, rfl, S67.seq hklH, flat_kV _, flat_kVs _, key_at hin, key_self _, key_first _ _, ?_⟩
            refine ⟨ol, os.map kV, _, kV (fmap ks os kv.1), rfl, rfl, S67.seq holH, ?_, _, rfl, by show 2 ≤ sizeLine; decide, fun t ht => ?_⟩
            · have hi : ks.idxOf kv.1 < (os.map kV).length := by
                rw [List.length_map, hlen]
                exact List.idxOf_lt_length_of_mem hin
              refine (atI_pos (by omega) (by omega)).trans ?_
              rw [← List.getElem?_eq_getElem, Int.toNat_natCast, List.getElem?_map, fmap_at hlen hin]
              rfl
            have tk7 := dt S67 hacc2
            have St := same_new ht (.tup [kV (fmap ks os kv.1), x])
            have ntD : t ∉ D2 :: D := tk7.new ht
            have e : ∀ o, Hd (D2 :: D) (upd (upd H7 t (.tup [kV (fmap ks os kv.1), x])) D2 o) = Hd (D2 :: D) (upd H7 t (.tup [kV (fmap ks os kv.1), x])) := fun o => hd_upd_in (List.mem_cons_self ..)
            have ho : Same (Hd (D' :: D) H6) (Hd (D2 :: D) H7) := Same.trans (wo_sub : Same (Wo D' (Hd D H6)) (Hd D H6)) (hd_old S7 hD2)
            refine ⟨acc2, St _ _ hacc2, ?_, acc2 ++ [.ref t], upd_same, ?_, same_set (S7.trans St) hD2⟩
            · have l1 := hpa2.length
              have l2 := List.length_take_le i kvs
              have l3 := pr.length
              rw [List.length_map, List.length_take] at l1
              rw [sizeLine_eq]
              omega
            · rw [e, take_map_succ hkv]
              exact (hpa2.mono fun _ _ z => MEnt.mono (hd_same _ St) (fun _ _ z => z.mono (hd_same _ St)) z).snoc ⟨t, x, rfl, (hd_out ntD).trans upd_same, hx.mono (ho.trans (hd_same _ St))⟩
          · rintro H7 ⟨acc2, hacc2, hpa2, S7⟩
            rw [al, List.take_length] at hpa2
            refine ⟨by show 2 ≤ sizeLine; decide, fun t2 ht2 => ?_⟩
            have S8 := same_new ht2 (.tup [.str "table", .ref D2])
            have tk7 := (tk.mono S6).mono S7
            refine q (.ref t2) _ ((S6.trans S7).trans S8) ⟨t2, D2, acc2, rfl, (hd_out (tk7.new ht2)).trans upd_same, (hd_out ((tk.mono S6).new hD2)).trans (S8 _ _ hacc2), ?_, nodup_fmap hlen hon kn kin, ?_, hpa2.mono fun _ _ z => MEnt.mono (wo_sub.trans (hd_same D S8)) (fun _ _ z => z.mono (wo_sub.trans (hd_same D S8))) z⟩
            · have l1 := hpa2.length
              rw [List.length_map] at l1
              rw [l1, ← pr.length]
              exact hl
            · intro kv hkv
              obtain ⟨p, hp, rfl⟩ := List.mem_map.mp hkv
              exact fmap_mem hlen (kin p hp)
end
/-! ### without_repeats, kind, Seen -/
section
variable {P : Program} {w : World} {K : PySem.W.Frag} {mg : PySem.Str → Option Value} {base : Heap}
def spWr (K : PySem.W.Frag) : Sp := fun vs H Q _ => ∃ (a : Addr) (ls : List PySem.Str), vs = [.ref a] ∧ SqL K H a (ls.map V.str) ∧ ls.length ≤ 100 ∧ ∀ (p : Addr) (rs : List PySem.Str) (H' : Hp), Same H H' → H' p = some (.lst (rs.map V.str)) → rs.length ≤ 100 → (∀ r ∈ rs, r ∈ ls) → Q (.ref p) H'
abbrev nWr : List PySem.Str := ["names", "found", "name"]
theorem scWr : FnScope nWr ["names"] (defScope s_without_repeats) := ⟨rfl, rfl, rfl, by decide +kernel, rfl, by decide +kernel, by decide +kernel⟩
theorem ok_wr (T : Tx K mg) : FnR P w K mg base CX0 1 (He.ga K "without_repeats") (spWr K) := by
  obtain ⟨fd, F⟩ := F_without_repeats T
  refine okR F scWr (fun _ _ _ _ _ _ us hl => match us, hl with | [_], _ => rfl) (fun vs H Q E h => ?_) fun cdv A outer s H vs Q E hr h => ?_
  · obtain ⟨a, ls, rfl, _⟩ := h
    rfl
  obtain ⟨a, ls, rfl, ha, hl, q⟩ := h
  have nd := scWr.nd
  refine ⟨_, pss_cons (ps_set (i := 1) nd rfl (.inl rfl) (pe_lst pa_nil))
    (pss_cons (ps_for PassesOwn.never rfl (pi_list (pv 0)) (pg_name (i := 2) nd rfl (.inl rfl))
      (pss_one (ps_if (pt_cmpR op_notIn_seq (pv 2) (pv 1) rfl) (pss_one (ps_expr (pe_bm PySem.F.plainAttrs_list PySem.F.slot_list_append PySem.F.type_list_append mt_append (pv 1) (pa_cons (pv 2) pa_nil)))) pss_nil)))
    (pss_one (ps_ret (pv 1)))), ?_⟩
  refine ⟨Nat.zero_le _, fun p hp => ?_⟩
  refine ⟨_, rfl, a, rfl, ⟨_, seq_mono (same_new hp _) ha⟩, for_list (K := K) (a := a) (xs := ls.map V.str) (fun i σ H2 => ∃ (v2 : Option V) (rs : List PySem.Str), σ = [some (.ref a), some (.ref p), v2] ∧ H2 p = some (.lst (rs.map V.str)) ∧ rs.length ≤ i ∧ (∀ r ∈ rs, r ∈ ls) ∧ Same H H2)
    ⟨none, [], rfl, upd_same, Nat.le_refl _, (fun r hr => by cases hr), same_new hp _⟩ (fun i σ H2 _ ⟨_, _, _, _, _, _, S2⟩ => seq_mono S2 ha) ?_ ?_⟩
  · rintro i v σ H2 hi ⟨v2, rs, rfl, hrs, rl, rin, S2⟩
    rw [List.getElem?_map] at hi
    obtain ⟨z, hz, rfl⟩ := Option.map_eq_some_iff.mp hi
    have il : i < ls.length := (List.getElem?_eq_some_iff.mp hz).1
    refine ⟨_, rfl, _, rfl, p, _, rfl, .inl (SqL.of hrs), rfl, flat_strs rs, _, rfl, ?_⟩
    refine ite2 (fun _ => ?_) (fun _ => ⟨_, rs, rfl, hrs, by omega, rin, S2⟩)
    refine ⟨_, rfl, .inl ⟨rfl, _, SqL.of hrs⟩, _, rfl, p, _, _, rfl, rfl, hrs, ?_, _, rs ++ [z], rfl, ?_, ?_, ?_, same_set S2 hp⟩
    · rw [List.length_map, sizeLine_eq]
      omega
    · rw [List.map_append]
      exact upd_same
    · rw [List.length_append, List.length_singleton]
      omega
    · intro r hr
      rcases List.mem_append.mp hr with hr | hr
      · exact rin r hr
      · rw [List.mem_singleton.mp hr]
        exact List.mem_of_getElem? hz
  · rintro σ H2 ⟨v2, rs, rfl, hrs, rl, rin, S2⟩
    rw [List.length_map] at rl
    exact ⟨_, rfl, q p rs H2 S2 hrs (by omega) rin⟩
theorem cl_wr (T : Tx K mg) : Cl P w K mg base 1 "without_repeats" (spWr K) := ⟨T.glo _, (let ⟨_, F⟩ := F_without_repeats T; F.kp), ok_wr T⟩
/-! kind -/
def sortOf : PV → PySem.Str
  | .non => "null"
  | .bl true => "true"
  | .bl false => "false"
  | .int _ => "integer"
  | .str _ => "text"
  | .lst _ => "list"
  | .tup _ => "tuple"
  | .tab _ => "table"
theorem sort_seen (L : PV → PySem.Str) (m : PV) : (seenOf L m).sort = sortOf m := by
  cases m with
  | bl b => cases b <;> rfl
  | _ => rfl
def spKind (K : PySem.W.Frag) : Sp := fun vs H Q _ => ∃ (v : V) (n : Nat) (m : PV), vs = [v] ∧ VAt (CTof K) n H v m ∧ ∀ H', Same H H' → Q (.str (sortOf m)) H'
theorem scKind : FnScope ["value"] ["value"] (defScope s_kind) := ⟨rfl, rfl, rfl, by decide +kernel, rfl, by decide +kernel, by decide +kernel⟩
theorem ok_kind (T : Tx K mg) : FnR P w K mg base CX0 1 (He.ga K "kind") (spKind K) := by
  obtain ⟨fd, F⟩ := F_kind T
  refine okR F scKind (fun _ _ _ _ _ _ us hl => match us, hl with | [_], _ => rfl) (fun vs H Q E h => ?_) fun cdv A outer s H vs Q E hr h => ?_
  · obtain ⟨v, n, m, rfl, _⟩ := h
    rfl
  obtain ⟨v, n, m, rfl, hv, q⟩ := h
  have nd := scKind.nd
  have ti := T.free "isinstance"
  have bl : bootBuiltins "list" = some (.type "list") := by decide +kernel
  have bt : bootBuiltins "tuple" = some (.type "tuple") := by decide +kernel
  have bs : bootBuiltins "str" = some (.type "str") := by decide +kernel
  refine ⟨_, pss_cons (ps_if (pt_cmpR op_isN (pv 0) pe_non (nomark _)) (pss_one (ps_ret pe_str)) pss_nil)
    (pss_cons (ps_if (pt_cmpR (op_isBlv true) (pv 0) pe_bl (nomark _)) (pss_one (ps_ret pe_str)) pss_nil)
    (pss_cons (ps_if (pt_cmpR (op_isBlv false) (pv 0) pe_bl (nomark _)) (pss_one (ps_ret pe_str)) pss_nil)
    (pss_cons (ps_if (pt_val (pe_callB call_isi rfl ti boot_isinstance (pa_cons (pv 0) (pa_cons (pe_bltn (v := .ty "str") (by rfl) (T.free "str") bs rfl) pa_nil)))) (pss_one (ps_ret pe_str)) pss_nil)
    (pss_cons (ps_if (pt_val (pe_callB call_isi rfl ti boot_isinstance (pa_cons (pv 0) (pa_cons (pe_bltn (v := .ty "list") (by rfl) (T.free "list") bl rfl) pa_nil)))) (pss_one (ps_ret pe_str)) pss_nil)
    (pss_cons (ps_if (pt_val (pe_callB call_isi rfl ti boot_isinstance (pa_cons (pv 0) (pa_cons (pe_bltn (v := .ty "tuple") (by rfl) (T.free "tuple") bt rfl) pa_nil)))) (pss_one (ps_ret pe_str)) pss_nil)
    (pss_cons (ps_if (pt_val (pe_callB call_isi rfl ti boot_isinstance (pa_cons (pv 0) (pa_cons (pe_glob (v := .ref (CTof K)) (by rfl) (T.glo "Table") rfl) pa_nil)))) (pss_one (ps_ret pe_str)) pss_nil)
    (pss_one (ps_ret pe_str)))))))), ?_⟩
  have hty := ty_V T hv
  have fin := q H (Same.refl H)
  cases m with
  | non =>
    obtain rfl : v = .non := by cases n <;> exact hv
    exact ⟨_, rfl, rfl, _, rfl, iteP (by decide) fin⟩
  | bl b =>
    obtain rfl : v = .bl b := by cases n <;> exact hv
    cases b with
    | true => exact ⟨_, rfl, rfl, _, rfl, iteN (by decide) ⟨_, rfl, rfl, _, rfl, iteP (by decide) fin⟩⟩
    | false => exact ⟨_, rfl, rfl, _, rfl, iteN (by decide) ⟨_, rfl, rfl, _, rfl, iteN (by decide) ⟨_, rfl, rfl, _, rfl, iteP (by decide) fin⟩⟩⟩
  | int i =>
    obtain rfl : v = .int i := by cases n <;> exact hv
    exact ⟨_, rfl, rfl, _, rfl, iteN (by rfl) ⟨_, rfl, rfl, _, rfl, iteN (by rfl) ⟨_, rfl, rfl, _, rfl, iteN (by rfl)
      ⟨_, rfl, _, .ty "str", _, _, _, rfl, .ty "str", hty, kit_S T _, _, rfl, iteN (by rfl) ⟨_, rfl, _, .ty "list", _, _, _, rfl, .ty "list", hty, kit_L T _, _, rfl, iteN (by rfl) ⟨_, rfl, _, .ty "tuple", _, _, _, rfl, .ty "tuple", hty, kit_T T _, _, rfl, iteN (by rfl)
      ⟨_, rfl, _, .ref (CTof K), _, _, _, rfl, .own _, hty, kit_Tab T _, _, rfl, iteN (by rfl) fin⟩⟩⟩⟩⟩⟩⟩
  | str z =>
    obtain rfl : v = .str z := by cases n <;> exact hv
    exact ⟨_, rfl, rfl, _, rfl, iteN (by rfl) ⟨_, rfl, rfl, _, rfl, iteN (by rfl) ⟨_, rfl, rfl, _, rfl, iteN (by rfl)
      ⟨_, rfl, _, .ty "str", _, _, _, rfl, .ty "str", hty, kit_S T _, _, rfl, iteP (by rfl) fin⟩⟩⟩⟩
  | lst ms =>
    obtain ⟨a, rfl⟩ : ∃ a, v = .ref a := by
      cases n with
      | zero => exact (show False from hv).elim
      | succ n =>
        obtain ⟨p, xs, e, _⟩ := (show VLst _ H v ms from hv)
        exact ⟨p, e⟩
    exact ⟨_, rfl, rfl, _, rfl, iteN (by rfl) ⟨_, rfl, rfl, _, rfl, iteN (by rfl) ⟨_, rfl, rfl, _, rfl, iteN (by rfl)
      ⟨_, rfl, _, .ty "str", _, _, _, rfl, .ty "str", hty, kit_S T _, _, rfl, iteN (by rfl) ⟨_, rfl, _, .ty "list", _, _, _, rfl, .ty "list", hty, kit_L T _, _, rfl, iteP (by rfl) fin⟩⟩⟩⟩⟩
  | tup ms =>
    obtain ⟨a, rfl⟩ : ∃ a, v = .ref a := by
      cases n with
      | zero => exact (show False from hv).elim
      | succ n =>
        obtain ⟨p, xs, e, _⟩ := (show VTup _ H v ms from hv)
        exact ⟨p, e⟩
    exact ⟨_, rfl, rfl, _, rfl, iteN (by rfl) ⟨_, rfl, rfl, _, rfl, iteN (by rfl) ⟨_, rfl, rfl, _, rfl, iteN (by rfl)
      ⟨_, rfl, _, .ty "str", _, _, _, rfl, .ty "str", hty, kit_S T _, _, rfl, iteN (by rfl) ⟨_, rfl, _, .ty "list", _, _, _, rfl, .ty "list", hty, kit_L T _, _, rfl, iteN (by rfl) ⟨_, rfl, _, .ty "tuple", _, _, _, rfl, .ty "tuple", hty, kit_T T _, _, rfl, iteP (by rfl) fin⟩⟩⟩⟩⟩⟩
  | tab kvs =>
    obtain ⟨a, rfl⟩ : ∃ a, v = .ref a := by
      cases n with
      | zero => exact (show False from hv).elim
      | succ n =>
        obtain ⟨p, dx, h, ws, e, _⟩ := (show VTab _ _ H v kvs from hv)
        exact ⟨p, e⟩
    exact ⟨_, rfl, rfl, _, rfl, iteN (by rfl) ⟨_, rfl, rfl, _, rfl, iteN (by rfl) ⟨_, rfl, rfl, _, rfl, iteN (by rfl)
      ⟨_, rfl, _, .ty "str", _, _, _, rfl, .ty "str", hty, kit_S T _, _, rfl, iteN (by rfl) ⟨_, rfl, _, .ty "list", _, _, _, rfl, .ty "list", hty, kit_L T _, _, rfl, iteN (by rfl) ⟨_, rfl, _, .ty "tuple", _, _, _, rfl, .ty "tuple", hty, kit_T T _, _, rfl, iteN (by rfl)
      ⟨_, rfl, _, .ref (CTof K), _, _, _, rfl, .own _, hty, kit_Tab T _, _, rfl, iteP (by rfl) fin⟩⟩⟩⟩⟩⟩⟩
theorem cl_kind (T : Tx K mg) : Cl P w K mg base 1 "kind" (spKind K) := ⟨T.glo _, (let ⟨_, F⟩ := F_kind T; F.kp), ok_kind T⟩
end
/-! ### what is seen of a value -/
section
variable {P : Program} {w : World} {K : PySem.W.Frag} {mg : PySem.Str → Option Value} {base : Heap}
def OptL (K : PySem.W.Frag) (H : Hp) (v : V) : Option (List V) → Prop
  | none => v = .non
  | some xs => ∃ a, v = .ref a ∧ SqL K H a xs
structure SnOk (s : Sn) : Prop where
  tx : s.sort = "text" → ∃ z, s.atom = .str z
  it : s.sort = "integer" → ∃ i, s.atom = .int i
  ln : ∀ ks, s.keys = some ks → ∃ ls, s.labs = some ls ∧ ls.length = ks.length
  sm : ∀ ls, s.labs = some ls → ls.length ≤ 100
structure SeenAt (K : PySem.W.Frag) (H : Hp) (v : V) (s : Sn) : Prop where
  at_ : ∃ (p dx : Addr) (kr lr : V), v = .ref p ∧ H p = some (.ins (He.ga K "Seen") dx [("shape", .str s.sort), ("atom", s.atom), ("key_rows", kr), ("labels", lr)]) ∧ OptL K H kr (s.keys.map (List.map kV)) ∧ OptL K H lr (s.labs.map (List.map V.str))
  ok : SnOk s
theorem OptL.mono {H H' : Hp} (S : Same H H') {v : V} {o : Option (List V)} (h : OptL K H v o) : OptL K H' v o := by
  cases o with
  | none => exact h
  | some xs =>
    obtain ⟨a, e, h⟩ := h
    exact ⟨a, e, seq_mono S h⟩
theorem SeenAt.mono {H H' : Hp} (S : Same H H') {v : V} {s : Sn} (h : SeenAt K H v s) : SeenAt K H' v s := by
  obtain ⟨⟨p, dx, kr, lr, e, h1, h2, h3⟩, ok⟩ := h
  exact ⟨⟨p, dx, kr, lr, e, S _ _ h1, h2.mono S, h3.mono S⟩, ok⟩
/-! the methods -/
def spSHas (K : PySem.W.Frag) : Sp := fun vs H Q _ => ∃ (v : V) (s : Sn) (k : L2.Key), vs = [v, kV k] ∧ SeenAt K H v s ∧ Q (.bl (hHas s k)) H
theorem scSHas : FnScope ["self", "key"] ["self", "key"] (defScope s_Seen_has) := ⟨rfl, rfl, rfl, by decide +kernel, rfl, by decide +kernel, by decide +kernel⟩
theorem ok_shas (T : Tx K mg) : FnR P w K mg base CX0 1 (He.ma K (He.ga K "Seen") "has") (spSHas K) := by
  obtain ⟨fd, F⟩ := F_Seen_has T
  refine okR F scSHas (fun _ _ _ _ _ _ us hl => match us, hl with | [_, _], _ => rfl) (fun vs H Q E h => ?_) fun cdv A outer s H vs Q E hr h => ?_
  · obtain ⟨v, s, k, rfl, _⟩ := h
    rfl
  obtain ⟨v, s, k, rfl, ⟨⟨p, dx, kr, lr, rfl, hp, hk, hl⟩, ok⟩, q⟩ := h
  refine ⟨_, pss_one (ps_ret (pe_and (pe_cmpR op_notN (pe_fld (pv 0) (by rfl)) pe_non (nomark _)) (pe_one (pe_cmpR op_in_seq (pv 1) (pe_fld (pv 0) (by rfl)) rfl)))), ?_⟩
  have c := T.cls "Seen"
  have n := T.noat "Seen" "key_rows"
  refine ⟨_, rfl, p, _, dx, _, kr, rfl, hp, c, n, by rw [lk_tl (by decide), lk_tl (by decide), lk_hd], rfl, _, rfl, ?_⟩
  unfold hHas at q
  cases ek : s.keys with
  | none =>
    rw [ek] at hk q
    cases hk
    exact iteN (by decide) q
  | some ks =>
    rw [ek] at hk q
    obtain ⟨a, rfl, hs⟩ := hk
    refine iteP (by rfl) ⟨_, rfl, _, rfl, p, _, dx, _, _, rfl, hp, c, n, by rw [lk_tl (by decide), lk_tl (by decide), lk_hd], a, _, rfl, .inl hs, flat_kV k, flat_kVs ks, ?_⟩
    show Q (.bl (inV (kV k) (ks.map kV))) H
    rw [inV_kV]
    exact q
def spPlace (K : PySem.W.Frag) : Sp := fun vs H Q _ => ∃ (v : V) (s : Sn) (k : L2.Key), vs = [v, kV k] ∧ SeenAt K H v s ∧ hHas s k = true ∧ Q (.int (plc s k : Nat)) H
theorem scPlace : FnScope ["self", "key"] ["self", "key"] (defScope s_Seen_place) := ⟨rfl, rfl, rfl, by decide +kernel, rfl, by decide +kernel, by decide +kernel⟩
theorem ok_place (T : Tx K mg) : FnR P w K mg base CX0 1 (He.ma K (He.ga K "Seen") "place") (spPlace K) := by
  obtain ⟨fd, F⟩ := F_Seen_place T
  refine okR F scPlace (fun _ _ _ _ _ _ us hl => match us, hl with | [_, _], _ => rfl) (fun vs H Q E h => ?_) fun cdv A outer s H vs Q E hr h => ?_
  · obtain ⟨v, s, k, rfl, _⟩ := h
    rfl
  obtain ⟨v, s, k, rfl, ⟨⟨p, dx, kr, lr, rfl, hp, hk, hl⟩, ok⟩, hh, q⟩ := h
  refine ⟨_, pss_one (ps_ret (pe_bm PySem.F.plainAttrs_list PySem.F.slot_list_index PySem.F.type_list_index mt_index (pe_fld (pv 0) (by rfl)) (pa_cons (pv 1) pa_nil))), ?_⟩
  have c := T.cls "Seen"
  have n := T.noat "Seen" "key_rows"
  unfold hHas at hh
  unfold plc at q
  cases ek : s.keys with
  | none =>
    rw [ek] at hh
    cases hh
  | some ks =>
    rw [ek] at hk q hh
    obtain ⟨a, rfl, hs⟩ := hk
    have hin : k ∈ ks := of_decide_eq_true hh
    exact ⟨_, rfl, p, _, dx, _, .ref a, rfl, hp, c, n, by rw [lk_tl (by decide), lk_tl (by decide), lk_hd], .inl ⟨rfl, _, hs⟩, _, rfl, a, ks.map kV, kV k, ks.idxOf k, kV k, rfl, rfl, hs, flat_kV _, flat_kVs _, key_at hin, key_self _, key_first _ _, q⟩
def spIsRow (K : PySem.W.Frag) : Sp := fun vs H Q _ => ∃ (v : V) (s : Sn), vs = [v] ∧ SeenAt K H v s ∧ Q (.bl (hRow s)) H
theorem scIsRow : FnScope ["self"] ["self"] (defScope s_Seen_is_row) := ⟨rfl, rfl, rfl, by decide +kernel, rfl, by decide +kernel, by decide +kernel⟩
theorem ok_isrow (T : Tx K mg) : FnR P w K mg base CX0 1 (He.ma K (He.ga K "Seen") "is_row") (spIsRow K) := by
  obtain ⟨fd, F⟩ := F_Seen_is_row T
  refine okR F scIsRow (fun _ _ _ _ _ _ us hl => match us, hl with | [_], _ => rfl) (fun vs H Q E h => ?_) fun cdv A outer s H vs Q E hr h => ?_
  · obtain ⟨v, s, rfl, _⟩ := h
    rfl
  obtain ⟨v, s, rfl, ⟨⟨p, dx, kr, lr, rfl, hp, hk, hl⟩, ok⟩, q⟩ := h
  refine ⟨_, pss_one (ps_ret (pe_and (pe_cmpR op_notN (pe_fld (pv 0) (by rfl)) pe_non (nomark _)) (pe_one (pe_cmpR op_isN (pe_fld (pv 0) (by rfl)) pe_non (nomark _))))), ?_⟩
  have c := T.cls "Seen"
  have n1 := T.noat "Seen" "key_rows"
  have n2 := T.noat "Seen" "labels"
  refine ⟨_, rfl, p, _, dx, _, lr, rfl, hp, c, n2, by rw [lk_tl (by decide), lk_tl (by decide), lk_tl (by decide), lk_hd], rfl, _, rfl, ?_⟩
  unfold hRow at q
  cases el : s.labs with
  | none =>
    rw [el] at hl q
    cases hl
    exact iteN (by decide) q
  | some ls =>
    rw [el] at hl q
    obtain ⟨a, rfl, hs⟩ := hl
    refine iteP (by rfl) ⟨_, rfl, p, _, dx, _, kr, rfl, hp, c, n1, by rw [lk_tl (by decide), lk_tl (by decide), lk_hd], rfl, ?_⟩
    cases ek : s.keys with
    | none =>
      rw [ek] at hk q
      cases hk
      exact q
    | some ks =>
      rw [ek] at hk q
      obtain ⟨a, rfl, hs⟩ := hk
      exact q
/-! Seen(..) -/
def spMkSeen (K : PySem.W.Frag) : Sp := fun vs H Q _ => ∃ (p dx : Addr) (a b c d : V), vs = [.ref p, a, b, c, d] ∧ H p = some (.ins (He.ga K "Seen") dx []) ∧ Q .non (upd H p (.ins (He.ga K "Seen") dx [("shape", a), ("atom", b), ("key_rows", c), ("labels", d)]))
abbrev nMkSeen : List PySem.Str := ["self", "shape", "atom", "key_rows", "labels"]
theorem scMkSeen : FnScope nMkSeen nMkSeen (defScope s_Seen_init) := ⟨rfl, rfl, rfl, by decide +kernel, rfl, by decide +kernel, by decide +kernel⟩
theorem ok_mkseen (T : Tx K mg) : FnR P w K mg base CX0 1 (He.ma K (He.ga K "Seen") "__init__") (spMkSeen K) := by
  obtain ⟨fd, F⟩ := F_Seen_init T
  refine okR F scMkSeen (fun _ _ _ _ _ _ us hl => match us, hl with | [_, _, _, _, _], _ => rfl) (fun vs H Q E h => ?_) fun cdv A outer s H vs Q E hr h => ?_
  · obtain ⟨p, dx, a, b, c, d, rfl, _⟩ := h
    rfl
  obtain ⟨p, dx, a, b, c, d, rfl, hp, q⟩ := h
  refine ⟨_, pss_cons (ps_fld (pv 0) (pv 1) rfl) (pss_cons (ps_fld (pv 0) (pv 2) rfl) (pss_cons (ps_fld (pv 0) (pv 3) rfl) (pss_one (ps_fld (pv 0) (pv 4) rfl)))), ?_⟩
  have cl := T.cls "Seen"
  refine ⟨_, rfl, _, rfl, p, _, dx, _, rfl, hp, cl, T.noat "Seen" "shape", by show 0 < 1000; decide, ?_⟩
  refine ⟨_, rfl, _, rfl, p, _, dx, _, rfl, upd_same, cl, T.noat "Seen" "atom", by show 1 < 1000; decide, ?_⟩
  refine ⟨_, rfl, _, rfl, p, _, dx, _, rfl, upd_same, cl, T.noat "Seen" "key_rows", by show 2 < 1000; decide, ?_⟩
  refine ⟨_, rfl, _, rfl, p, _, dx, _, rfl, upd_same, cl, T.noat "Seen" "labels", by show 3 < 1000; decide, ?_⟩
  rw [upd_upd, upd_upd, upd_upd]
  exact q
end
/-! ### conditions as instances -/
section
variable {P : Program} {w : World} {K : PySem.W.Frag} {mg : PySem.Str → Option Value} {base : Heap}
def nmC : Cond → PySem.Str
  | .both _ _ => "Both"
  | .either _ _ => "Either"
  | .inverse _ => "Inverse"
  | .kind _ => "Kind"
  | .equals _ => "Equals"
  | .size _ => "Size"
  | .has _ => "Has"
  | .item _ _ => "Item"
  | .before _ _ => "Before"
  | .first _ => "First"
  | .every _ => "Every"
  | .some_ _ => "Some"
def CI (K : PySem.W.Frag) (H : Hp) (v : V) (x : PySem.Str) (fs : List (PySem.Str × V)) : Prop := ∃ p dx, v = .ref p ∧ H p = some (.ins (He.ga K x) dx fs)
def CondAt (K : PySem.W.Frag) (H : Hp) : V → Cond → Prop
  | v, .both a b => ∃ x y, CI K H v "Both" [("left", x), ("right", y)] ∧ CondAt K H x a ∧ CondAt K H y b
  | v, .either a b => ∃ x y, CI K H v "Either" [("left", x), ("right", y)] ∧ CondAt K H x a ∧ CondAt K H y b
  | v, .inverse a => ∃ x, CI K H v "Inverse" [("inner", x)] ∧ CondAt K H x a
  | v, .kind s => CI K H v "Kind" [("name", .str s)]
  | v, .equals k => CI K H v "Equals" [("atom", kV k)]
  | v, .size n => CI K H v "Size" [("count", .int n)]
  | v, .has k => CI K H v "Has" [("key", kV k)]
  | v, .item k l => CI K H v "Item" [("key", kV k), ("label", .str l)]
  | v, .before j k => CI K H v "Before" [("first", kV j), ("second", kV k)]
  | v, .first l => CI K H v "First" [("label", .str l)]
  | v, .every l => CI K H v "Every" [("label", .str l)]
  | v, .some_ l => CI K H v "Some" [("label", .str l)]
/-- instances stay -/
def SameI (H H' : Hp) : Prop := ∀ b C dx fs, H b = some (.ins C dx fs) → H' b = some (.ins C dx fs)
theorem toI {H H' : Hp} (S : Same H H') : SameI H H' := fun b _ _ _ h => S b _ h
theorem CI.mono {H H' : Hp} (S : SameI H H') {v : V} {x : PySem.Str} {fs : List (PySem.Str × V)} (h : CI K H v x fs) : CI K H' v x fs := by
  obtain ⟨p, dx, e, h⟩ := h
  exact ⟨p, dx, e, S _ _ _ _ h⟩
theorem CondAt.mono {H H' : Hp} (S : SameI H H') : ∀ {c : Cond} {v : V}, CondAt K H v c → CondAt K H' v c
  | .both a b, v, h => by
    obtain ⟨x, y, h1, h2, h3⟩ := h
    exact ⟨x, y, h1.mono S, CondAt.mono S h2, CondAt.mono S h3⟩
  | .either a b, v, h => by
    obtain ⟨x, y, h1, h2, h3⟩ := h
    exact ⟨x, y, h1.mono S, CondAt.mono S h2, CondAt.mono S h3⟩
  | .inverse a, v, h => by
    obtain ⟨x, h1, h2⟩ := h
    exact ⟨x, h1.mono S, CondAt.mono S h2⟩
  | .kind _, v, h => CI.mono S h
  | .equals _, v, h => CI.mono S h
  | .size _, v, h => CI.mono S h
  | .has _, v, h => CI.mono S h
  | .item _ _, v, h => CI.mono S h
  | .before _ _, v, h => CI.mono S h
  | .first _, v, h => CI.mono S h
  | .every _, v, h => CI.mono S h
  | .some_ _, v, h => CI.mono S h
theorem Tx.clsC (T : Tx K mg) : ∀ c : Cond, Cls K (He.ga K (nmC c))
  | .both _ _ => T.cls "Both"
  | .either _ _ => T.cls "Either"
  | .inverse _ => T.cls "Inverse"
  | .kind _ => T.cls "Kind"
  | .equals _ => T.cls "Equals"
  | .size _ => T.cls "Size"
  | .has _ => T.cls "Has"
  | .item _ _ => T.cls "Item"
  | .before _ _ => T.cls "Before"
  | .first _ => T.cls "First"
  | .every _ => T.cls "Every"
  | .some_ _ => T.cls "Some"
theorem Tx.mHolds (T : Tx K mg) : ∀ c : Cond, Meth K (He.ga K (nmC c)) "holds" (He.ma K (He.ga K (nmC c)) "holds")
  | .both _ _ => T.meth "Both" "holds"
  | .either _ _ => T.meth "Either" "holds"
  | .inverse _ => T.meth "Inverse" "holds"
  | .kind _ => T.meth "Kind" "holds"
  | .equals _ => T.meth "Equals" "holds"
  | .size _ => T.meth "Size" "holds"
  | .has _ => T.meth "Has" "holds"
  | .item _ _ => T.meth "Item" "holds"
  | .before _ _ => T.meth "Before" "holds"
  | .first _ => T.meth "First" "holds"
  | .every _ => T.meth "Every" "holds"
  | .some_ _ => T.meth "Some" "holds"
theorem Tx.mLeaves (T : Tx K mg) : ∀ c : Cond, Meth K (He.ga K (nmC c)) "leaves" (He.ma K (He.ga K (nmC c)) "leaves")
  | .both _ _ => T.meth "Both" "leaves"
  | .either _ _ => T.meth "Either" "leaves"
  | .inverse _ => T.meth "Inverse" "leaves"
  | .kind _ => T.meth "Kind" "leaves"
  | .equals _ => T.meth "Equals" "leaves"
  | .size _ => T.meth "Size" "leaves"
  | .has _ => T.meth "Has" "leaves"
  | .item _ _ => T.meth "Item" "leaves"
  | .before _ _ => T.meth "Before" "leaves"
  | .first _ => T.meth "First" "leaves"
  | .every _ => T.meth "Every" "leaves"
  | .some_ _ => T.meth "Some" "leaves"
theorem Tx.mOwn (T : Tx K mg) : ∀ c : Cond, Meth K (He.ga K (nmC c)) "own_labels" (He.ma K (He.ga K (nmC c)) "own_labels")
  | .both _ _ => T.meth "Both" "own_labels"
  | .either _ _ => T.meth "Either" "own_labels"
  | .inverse _ => T.meth "Inverse" "own_labels"
  | .kind _ => T.meth "Kind" "own_labels"
  | .equals _ => T.meth "Equals" "own_labels"
  | .size _ => T.meth "Size" "own_labels"
  | .has _ => T.meth "Has" "own_labels"
  | .item _ _ => T.meth "Item" "own_labels"
  | .before _ _ => T.meth "Before" "own_labels"
  | .first _ => T.meth "First" "own_labels"
  | .every _ => T.meth "Every" "own_labels"
  | .some_ _ => T.meth "Some" "own_labels"
theorem Tx.mList (T : Tx K mg) : ∀ c : Cond, Meth K (He.ga K (nmC c)) "label_list" (He.ma K (He.ga K (nmC c)) "label_list")
  | .both _ _ => T.meth "Both" "label_list"
  | .either _ _ => T.meth "Either" "label_list"
  | .inverse _ => T.meth "Inverse" "label_list"
  | .kind _ => T.meth "Kind" "label_list"
  | .equals _ => T.meth "Equals" "label_list"
  | .size _ => T.meth "Size" "label_list"
  | .has _ => T.meth "Has" "label_list"
  | .item _ _ => T.meth "Item" "label_list"
  | .before _ _ => T.meth "Before" "label_list"
  | .first _ => T.meth "First" "label_list"
  | .every _ => T.meth "Every" "label_list"
  | .some_ _ => T.meth "Some" "label_list"
structure NoM (fs : List (PySem.Str × V)) : Prop where
  h : fs.lookup ("holds" : PySem.Str) = none
  l : fs.lookup ("leaves" : PySem.Str) = none
  o : fs.lookup ("own_labels" : PySem.Str) = none
  b : fs.lookup ("label_list" : PySem.Str) = none
theorem lk_nil {f : PySem.Str} : List.lookup f ([] : List (PySem.Str × V)) = none := rfl
theorem noM1 {f : PySem.Str} {v : V} (h : (["holds", "leaves", "own_labels", "label_list"] : List PySem.Str).all (fun x => !(x == f)) = true) : NoM [(f, v)] := by
  have g : ∀ x ∈ (["holds", "leaves", "own_labels", "label_list"] : List PySem.Str), List.lookup x [(f, v)] = none := fun x hx => by
    have := List.all_eq_true.mp h x hx
    rw [lk_tl (by simpa using this), lk_nil]
  exact ⟨g _ (by simp), g _ (by simp), g _ (by simp), g _ (by simp)⟩
theorem noM2 {f f2 : PySem.Str} {v v2 : V} (h : (["holds", "leaves", "own_labels", "label_list"] : List PySem.Str).all (fun x => !(x == f)) = true) (h2 : (["holds", "leaves", "own_labels", "label_list"] : List PySem.Str).all (fun x => !(x == f2)) = true) : NoM [(f, v), (f2, v2)] := by
  have g : ∀ x ∈ (["holds", "leaves", "own_labels", "label_list"] : List PySem.Str), List.lookup x [(f, v), (f2, v2)] = none := fun x hx => by
    have a := List.all_eq_true.mp h x hx
    have b := List.all_eq_true.mp h2 x hx
    rw [lk_tl (by simpa using a), lk_tl (by simpa using b), lk_nil]
  exact ⟨g _ (by simp), g _ (by simp), g _ (by simp), g _ (by simp)⟩
theorem CondAt.ins {H : Hp} {v : V} {c : Cond} (h : CondAt K H v c) : ∃ p dx fs, v = .ref p ∧ H p = some (.ins (He.ga K (nmC c)) dx fs) ∧ NoM fs := by
  have one : ∀ {f : PySem.Str} {x : V}, CI K H v (nmC c) [(f, x)] → (["holds", "leaves", "own_labels", "label_list"] : List PySem.Str).all (fun x => !(x == f)) = true → ∃ p dx fs, v = .ref p ∧ H p = some (.ins (He.ga K (nmC c)) dx fs) ∧ NoM fs := fun h n => by
    obtain ⟨p, dx, e, h⟩ := h
    exact ⟨p, dx, _, e, h, noM1 n⟩
  have two : ∀ {f f2 : PySem.Str} {x y : V}, CI K H v (nmC c) [(f, x), (f2, y)] → (["holds", "leaves", "own_labels", "label_list"] : List PySem.Str).all (fun x => !(x == f)) = true → (["holds", "leaves", "own_labels", "label_list"] : List PySem.Str).all (fun x => !(x == f2)) = true → ∃ p dx fs, v = .ref p ∧ H p = some (.ins (He.ga K (nmC c)) dx fs) ∧ NoM fs := fun h n n2 => by
    obtain ⟨p, dx, e, h⟩ := h
    exact ⟨p, dx, _, e, h, noM2 n n2⟩
  cases c with
  | both a b =>
    obtain ⟨x, y, h, _⟩ := h
    exact two h (by decide +kernel) (by decide +kernel)
  | either a b =>
    obtain ⟨x, y, h, _⟩ := h
    exact two h (by decide +kernel) (by decide +kernel)
  | inverse a =>
    obtain ⟨x, h, _⟩ := h
    exact one h (by decide +kernel)
  | kind _ => exact one h (by decide +kernel)
  | equals _ => exact one h (by decide +kernel)
  | size _ => exact one h (by decide +kernel)
  | has _ => exact one h (by decide +kernel)
  | item _ _ => exact two h (by decide +kernel) (by decide +kernel)
  | before _ _ => exact two h (by decide +kernel) (by decide +kernel)
  | first _ => exact one h (by decide +kernel)
  | every _ => exact one h (by decide +kernel)
  | some_ _ => exact one h (by decide +kernel)
/-! the makers -/
def spMk1 (K : PySem.W.Frag) (x f : PySem.Str) : Sp := fun vs H Q _ => ∃ (p dx : Addr) (a : V), vs = [.ref p, a] ∧ H p = some (.ins (He.ga K x) dx []) ∧ Q .non (upd H p (.ins (He.ga K x) dx [(f, a)]))
def spMk2 (K : PySem.W.Frag) (x f g : PySem.Str) : Sp := fun vs H Q _ => ∃ (p dx : Addr) (a b : V), vs = [.ref p, a, b] ∧ H p = some (.ins (He.ga K x) dx []) ∧ Q .non (upd H p (.ins (He.ga K x) dx [(f, a), (g, b)]))
theorem ok_mkInverse (T : Tx K mg) : FnR P w K mg base CX0 1 (He.ma K (He.ga K "Inverse") "__init__") (spMk1 K "Inverse" "inner") := by
  obtain ⟨fd, F⟩ := F_Inverse_init T
  have S : FnScope ["self", "inner"] ["self", "inner"] (defScope s_Inverse_init) := ⟨rfl, rfl, rfl, by decide +kernel, rfl, by decide +kernel, by decide +kernel⟩
  refine okR F S (fun _ _ _ _ _ _ us hl => match us, hl with | [_, _], _ => rfl) (fun vs H Q E h => ?_) fun cdv A outer s H vs Q E hr h => ?_
  · obtain ⟨p, dx, a, rfl, _⟩ := h
    rfl
  obtain ⟨p, dx, a, rfl, hp, q⟩ := h
  refine ⟨_, pss_one (ps_fld (pv 0) (pv 1) rfl), ?_⟩
  exact ⟨_, rfl, _, rfl, p, _, dx, _, rfl, hp, T.cls "Inverse", T.noat "Inverse" "inner", by show 0 < 1000; decide, q⟩
theorem ok_mkEquals (T : Tx K mg) : FnR P w K mg base CX0 1 (He.ma K (He.ga K "Equals") "__init__") (spMk1 K "Equals" "atom") := by
  obtain ⟨fd, F⟩ := F_Equals_init T
  have S : FnScope ["self", "atom"] ["self", "atom"] (defScope s_Equals_init) := ⟨rfl, rfl, rfl, by decide +kernel, rfl, by decide +kernel, by decide +kernel⟩
  refine okR F S (fun _ _ _ _ _ _ us hl => match us, hl with | [_, _], _ => rfl) (fun vs H Q E h => ?_) fun cdv A outer s H vs Q E hr h => ?_
  · obtain ⟨p, dx, a, rfl, _⟩ := h
    rfl
  obtain ⟨p, dx, a, rfl, hp, q⟩ := h
  refine ⟨_, pss_one (ps_fld (pv 0) (pv 1) rfl), ?_⟩
  exact ⟨_, rfl, _, rfl, p, _, dx, _, rfl, hp, T.cls "Equals", T.noat "Equals" "atom", by show 0 < 1000; decide, q⟩
theorem ok_mkHas (T : Tx K mg) : FnR P w K mg base CX0 1 (He.ma K (He.ga K "Has") "__init__") (spMk1 K "Has" "key") := by
  obtain ⟨fd, F⟩ := F_Has_init T
  have S : FnScope ["self", "key"] ["self", "key"] (defScope s_Has_init) := ⟨rfl, rfl, rfl, by decide +kernel, rfl, by decide +kernel, by decide +kernel⟩
  refine okR F S (fun _ _ _ _ _ _ us hl => match us, hl with | [_, _], _ => rfl) (fun vs H Q E h => ?_) fun cdv A outer s H vs Q E hr h => ?_
  · obtain ⟨p, dx, a, rfl, _⟩ := h
    rfl
  obtain ⟨p, dx, a, rfl, hp, q⟩ := h
  refine ⟨_, pss_one (ps_fld (pv 0) (pv 1) rfl), ?_⟩
  exact ⟨_, rfl, _, rfl, p, _, dx, _, rfl, hp, T.cls "Has", T.noat "Has" "key", by show 0 < 1000; decide, q⟩
theorem ok_mkFirst (T : Tx K mg) : FnR P w K mg base CX0 1 (He.ma K (He.ga K "First") "__init__") (spMk1 K "First" "label") := by
  obtain ⟨fd, F⟩ := F_First_init T
  have S : FnScope ["self", "label"] ["self", "label"] (defScope s_First_init) := ⟨rfl, rfl, rfl, by decide +kernel, rfl, by decide +kernel, by decide +kernel⟩
  refine okR F S (fun _ _ _ _ _ _ us hl => match us, hl with | [_, _], _ => rfl) (fun vs H Q E h => ?_) fun cdv A outer s H vs Q E hr h => ?_
  · obtain ⟨p, dx, a, rfl, _⟩ := h
    rfl
  obtain ⟨p, dx, a, rfl, hp, q⟩ := h
  refine ⟨_, pss_one (ps_fld (pv 0) (pv 1) rfl), ?_⟩
  exact ⟨_, rfl, _, rfl, p, _, dx, _, rfl, hp, T.cls "First", T.noat "First" "label", by show 0 < 1000; decide, q⟩
theorem ok_mkEvery (T : Tx K mg) : FnR P w K mg base CX0 1 (He.ma K (He.ga K "Every") "__init__") (spMk1 K "Every" "label") := by
  obtain ⟨fd, F⟩ := F_Every_init T
  have S : FnScope ["self", "label"] ["self", "label"] (defScope s_Every_init) := ⟨rfl, rfl, rfl, by decide +kernel, rfl, by decide +kernel, by decide +kernel⟩
  refine okR F S (fun _ _ _ _ _ _ us hl => match us, hl with | [_, _], _ => rfl) (fun vs H Q E h => ?_) fun cdv A outer s H vs Q E hr h => ?_
  · obtain ⟨p, dx, a, rfl, _⟩ := h
    rfl
  obtain ⟨p, dx, a, rfl, hp, q⟩ := h
  refine ⟨_, pss_one (ps_fld (pv 0) (pv 1) rfl), ?_⟩
  exact ⟨_, rfl, _, rfl, p, _, dx, _, rfl, hp, T.cls "Every", T.noat "Every" "label", by show 0 < 1000; decide, q⟩
theorem ok_mkSome (T : Tx K mg) : FnR P w K mg base CX0 1 (He.ma K (He.ga K "Some") "__init__") (spMk1 K "Some" "label") := by
  obtain ⟨fd, F⟩ := F_Some_init T
  have S : FnScope ["self", "label"] ["self", "label"] (defScope s_Some_init) := ⟨rfl, rfl, rfl, by decide +kernel, rfl, by decide +kernel, by decide +kernel⟩
  refine okR F S (fun _ _ _ _ _ _ us hl => match us, hl with | [_, _], _ => rfl) (fun vs H Q E h => ?_) fun cdv A outer s H vs Q E hr h => ?_
  · obtain ⟨p, dx, a, rfl, _⟩ := h
    rfl
  obtain ⟨p, dx, a, rfl, hp, q⟩ := h
  refine ⟨_, pss_one (ps_fld (pv 0) (pv 1) rfl), ?_⟩
  exact ⟨_, rfl, _, rfl, p, _, dx, _, rfl, hp, T.cls "Some", T.noat "Some" "label", by show 0 < 1000; decide, q⟩
theorem ok_mkBoth (T : Tx K mg) : FnR P w K mg base CX0 1 (He.ma K (He.ga K "Both") "__init__") (spMk2 K "Both" "left" "right") := by
  obtain ⟨fd, F⟩ := F_Both_init T
  have S : FnScope ["self", "left", "right"] ["self", "left", "right"] (defScope s_Both_init) := ⟨rfl, rfl, rfl, by decide +kernel, rfl, by decide +kernel, by decide +kernel⟩
  refine okR F S (fun _ _ _ _ _ _ us hl => match us, hl with | [_, _, _], _ => rfl) (fun vs H Q E h => ?_) fun cdv A outer s H vs Q E hr h => ?_
  · obtain ⟨p, dx, a, b, rfl, _⟩ := h
    rfl
  obtain ⟨p, dx, a, b, rfl, hp, q⟩ := h
  refine ⟨_, pss_cons (ps_fld (pv 0) (pv 1) rfl) (pss_one (ps_fld (pv 0) (pv 2) rfl)), ?_⟩
  refine ⟨_, rfl, _, rfl, p, _, dx, _, rfl, hp, T.cls "Both", T.noat "Both" "left", by show 0 < 1000; decide, ?_⟩
  refine ⟨_, rfl, _, rfl, p, _, dx, _, rfl, upd_same, T.cls "Both", T.noat "Both" "right", by show 1 < 1000; decide, ?_⟩
  rw [upd_upd]
  exact q
theorem ok_mkEither (T : Tx K mg) : FnR P w K mg base CX0 1 (He.ma K (He.ga K "Either") "__init__") (spMk2 K "Either" "left" "right") := by
  obtain ⟨fd, F⟩ := F_Either_init T
  have S : FnScope ["self", "left", "right"] ["self", "left", "right"] (defScope s_Either_init) := ⟨rfl, rfl, rfl, by decide +kernel, rfl, by decide +kernel, by decide +kernel⟩
  refine okR F S (fun _ _ _ _ _ _ us hl => match us, hl with | [_, _, _], _ => rfl) (fun vs H Q E h => ?_) fun cdv A outer s H vs Q E hr h => ?_
  · obtain ⟨p, dx, a, b, rfl, _⟩ := h
    rfl
  obtain ⟨p, dx, a, b, rfl, hp, q⟩ := h
  refine ⟨_, pss_cons (ps_fld (pv 0) (pv 1) rfl) (pss_one (ps_fld (pv 0) (pv 2) rfl)), ?_⟩
  refine ⟨_, rfl, _, rfl, p, _, dx, _, rfl, hp, T.cls "Either", T.noat "Either" "left", by show 0 < 1000; decide, ?_⟩
  refine ⟨_, rfl, _, rfl, p, _, dx, _, rfl, upd_same, T.cls "Either", T.noat "Either" "right", by show 1 < 1000; decide, ?_⟩
  rw [upd_upd]
  exact q
theorem ok_mkItem (T : Tx K mg) : FnR P w K mg base CX0 1 (He.ma K (He.ga K "Item") "__init__") (spMk2 K "Item" "key" "label") := by
  obtain ⟨fd, F⟩ := F_Item_init T
  have S : FnScope ["self", "key", "label"] ["self", "key", "label"] (defScope s_Item_init) := ⟨rfl, rfl, rfl, by decide +kernel, rfl, by decide +kernel, by decide +kernel⟩
  refine okR F S (fun _ _ _ _ _ _ us hl => match us, hl with | [_, _, _], _ => rfl) (fun vs H Q E h => ?_) fun cdv A outer s H vs Q E hr h => ?_
  · obtain ⟨p, dx, a, b, rfl, _⟩ := h
    rfl
  obtain ⟨p, dx, a, b, rfl, hp, q⟩ := h
  refine ⟨_, pss_cons (ps_fld (pv 0) (pv 1) rfl) (pss_one (ps_fld (pv 0) (pv 2) rfl)), ?_⟩
  refine ⟨_, rfl, _, rfl, p, _, dx, _, rfl, hp, T.cls "Item", T.noat "Item" "key", by show 0 < 1000; decide, ?_⟩
  refine ⟨_, rfl, _, rfl, p, _, dx, _, rfl, upd_same, T.cls "Item", T.noat "Item" "label", by show 1 < 1000; decide, ?_⟩
  rw [upd_upd]
  exact q
theorem ok_mkBefore (T : Tx K mg) : FnR P w K mg base CX0 1 (He.ma K (He.ga K "Before") "__init__") (spMk2 K "Before" "first" "second") := by
  obtain ⟨fd, F⟩ := F_Before_init T
  have S : FnScope ["self", "first", "second"] ["self", "first", "second"] (defScope s_Before_init) := ⟨rfl, rfl, rfl, by decide +kernel, rfl, by decide +kernel, by decide +kernel⟩
  refine okR F S (fun _ _ _ _ _ _ us hl => match us, hl with | [_, _, _], _ => rfl) (fun vs H Q E h => ?_) fun cdv A outer s H vs Q E hr h => ?_
  · obtain ⟨p, dx, a, b, rfl, _⟩ := h
    rfl
  obtain ⟨p, dx, a, b, rfl, hp, q⟩ := h
  refine ⟨_, pss_cons (ps_fld (pv 0) (pv 1) rfl) (pss_one (ps_fld (pv 0) (pv 2) rfl)), ?_⟩
  refine ⟨_, rfl, _, rfl, p, _, dx, _, rfl, hp, T.cls "Before", T.noat "Before" "first", by show 0 < 1000; decide, ?_⟩
  refine ⟨_, rfl, _, rfl, p, _, dx, _, rfl, upd_same, T.cls "Before", T.noat "Before" "second", by show 1 < 1000; decide, ?_⟩
  rw [upd_upd]
  exact q
end
/-! ### holds -/
section
variable {P : Program} {w : World} {K : PySem.W.Frag} {mg : PySem.Str → Option Value} {base : Heap}
def hl : Cond → Nat
  | .both a b => max (hl a) (hl b) + 1
  | .either a b => max (hl a) (hl b) + 1
  | .inverse a => hl a + 1
  | _ => 2
def spHolds (K : PySem.W.Frag) (c : Cond) : Sp := fun vs H Q _ => ∃ (v sv : V) (s : Sn), vs = [v, sv] ∧ CondAt K H v c ∧ SeenAt K H sv s ∧ ∀ H', Same H H' → Q (.bl (hold s c)) H'
theorem spHolds_len {c : Cond} : ∀ (vs : List V) (H : Hp) (Q : VK) (E : XK), spHolds K c vs H Q E → vs.length = (["self", "seen"] : List PySem.Str).length := by
  rintro vs H Q E ⟨v, sv, s, rfl, _⟩
  rfl
theorem lkS {a b c d : V} : List.lookup ("shape" : PySem.Str) [("shape", a), ("atom", b), ("key_rows", c), ("labels", d)] = some a := lk_hd
theorem lkA {a b c d : V} : List.lookup ("atom" : PySem.Str) [("shape", a), ("atom", b), ("key_rows", c), ("labels", d)] = some b := (lk_tl (by decide)).trans lk_hd
theorem lkL {a b c d : V} : List.lookup ("labels" : PySem.Str) [("shape", a), ("atom", b), ("key_rows", c), ("labels", d)] = some d := (lk_tl (by decide)).trans ((lk_tl (by decide)).trans ((lk_tl (by decide)).trans lk_hd))
/-- the three methods of a seen -/
theorem sn_ins {H : Hp} {v : V} {s : Sn} (h : SeenAt K H v s) : ∃ p dx fs, v = .ref p ∧ H p = some (.ins (He.ga K "Seen") dx fs) ∧ fs.lookup ("has" : PySem.Str) = none ∧ fs.lookup ("place" : PySem.Str) = none ∧ fs.lookup ("is_row" : PySem.Str) = none := by
  obtain ⟨⟨p, dx, kr, lr, e, h, _⟩, _⟩ := h
  refine ⟨p, dx, _, e, h, ?_, ?_, ?_⟩ <;> rw [lk_tl (by decide), lk_tl (by decide), lk_tl (by decide), lk_tl (by decide), lk_nil]
theorem ok_hBoth (T : Tx K mg) {a b : Cond} (ha : FnR P w K mg base CX0 (hl a) (He.ma K (He.ga K (nmC a)) "holds") (spHolds K a)) (hb : FnR P w K mg base CX0 (hl b) (He.ma K (He.ga K (nmC b)) "holds") (spHolds K b)) :
    FnR P w K mg base CX0 (max (hl a) (hl b) + 1) (He.ma K (He.ga K "Both") "holds") (spHolds K (.both a b)) := by
  obtain ⟨fd, F⟩ := F_Both_holds T
  have S : FnScope ["self", "seen"] ["self", "seen"] (defScope s_Both_holds) := ⟨rfl, rfl, rfl, by decide +kernel, rfl, by decide +kernel, by decide +kernel⟩
  refine okR F S (fun _ _ _ _ _ _ us hl => match us, hl with | [_, _], _ => rfl) spHolds_len fun cdv A outer s H vs Q E hr h => ?_
  obtain ⟨v, sv, s, rfl, ⟨x, y, ⟨p, dx, rfl, hp⟩, hx, hy⟩, hs, q⟩ := h
  refine ⟨_, pss_one (ps_ret (pe_and (pe_dyn (pe_fld (pv 0) (by rfl)) hr (pa_cons (pv 1) pa_nil)) (pe_one (pe_dyn (pe_fld (pv 0) (by rfl)) hr (pa_cons (pv 1) pa_nil))))), ?_⟩
  have c := T.cls "Both"
  obtain ⟨p1, d1, f1, rfl, h1, n1⟩ := hx.ins
  obtain ⟨p2, d2, f2, rfl, h2, n2⟩ := hy.ins
  refine ⟨_, rfl, p, _, dx, _, _, rfl, hp, c, T.noat "Both" "left", lk_hd, p1, _, d1, f1, _, _, rfl, h1, n1.h, T.clsC a, T.mHolds a, ha.mono (Nat.le_max_left ..), _, rfl, .ref p1, sv, s, rfl, hx, hs, fun H1 S1 => ⟨_, rfl, ?_⟩⟩
  show (if hold s a = true then _ else _)
  have q2 : ∀ H', Same H H' → Q (.bl (hold s a && hold s b)) H' := q
  cases eh : hold s a with
  | false =>
    rw [eh] at q2
    exact iteN rfl (q2 H1 S1)
  | true =>
    rw [eh] at q2
    refine iteP rfl ⟨_, rfl, p, _, dx, _, .ref p2, rfl, S1 _ _ hp, c, T.noat "Both" "right", (lk_tl (by decide)).trans lk_hd, p2, _, d2, f2, _, _, rfl, S1 _ _ h2, n2.h, T.clsC b, T.mHolds b, hb.mono (Nat.le_max_right ..), _, rfl, .ref p2, sv, s, rfl, hy.mono (toI S1), hs.mono S1, fun H2 S2 => q2 H2 (S1.trans S2)⟩
theorem ok_hEither (T : Tx K mg) {a b : Cond} (ha : FnR P w K mg base CX0 (hl a) (He.ma K (He.ga K (nmC a)) "holds") (spHolds K a)) (hb : FnR P w K mg base CX0 (hl b) (He.ma K (He.ga K (nmC b)) "holds") (spHolds K b)) :
    FnR P w K mg base CX0 (max (hl a) (hl b) + 1) (He.ma K (He.ga K "Either") "holds") (spHolds K (.either a b)) := by
  obtain ⟨fd, F⟩ := F_Either_holds T
  have S : FnScope ["self", "seen"] ["self", "seen"] (defScope s_Either_holds) := ⟨rfl, rfl, rfl, by decide +kernel, rfl, by decide +kernel, by decide +kernel⟩
  refine okR F S (fun _ _ _ _ _ _ us hl => match us, hl with | [_, _], _ => rfl) spHolds_len fun cdv A outer s H vs Q E hr h => ?_
  obtain ⟨v, sv, s, rfl, ⟨x, y, ⟨p, dx, rfl, hp⟩, hx, hy⟩, hs, q⟩ := h
  refine ⟨_, pss_one (ps_ret (pe_or (pe_dyn (pe_fld (pv 0) (by rfl)) hr (pa_cons (pv 1) pa_nil)) (pe_one (pe_dyn (pe_fld (pv 0) (by rfl)) hr (pa_cons (pv 1) pa_nil))))), ?_⟩
  have c := T.cls "Either"
  obtain ⟨p1, d1, f1, rfl, h1, n1⟩ := hx.ins
  obtain ⟨p2, d2, f2, rfl, h2, n2⟩ := hy.ins
  refine ⟨_, rfl, p, _, dx, _, _, rfl, hp, c, T.noat "Either" "left", lk_hd, p1, _, d1, f1, _, _, rfl, h1, n1.h, T.clsC a, T.mHolds a, ha.mono (Nat.le_max_left ..), _, rfl, .ref p1, sv, s, rfl, hx, hs, fun H1 S1 => ⟨_, rfl, ?_⟩⟩
  show (if hold s a = true then _ else _)
  have q2 : ∀ H', Same H H' → Q (.bl (hold s a || hold s b)) H' := q
  cases eh : hold s a with
  | true =>
    rw [eh] at q2
    exact iteP rfl (q2 H1 S1)
  | false =>
    rw [eh] at q2
    refine iteN rfl ⟨_, rfl, p, _, dx, _, .ref p2, rfl, S1 _ _ hp, c, T.noat "Either" "right", (lk_tl (by decide)).trans lk_hd, p2, _, d2, f2, _, _, rfl, S1 _ _ h2, n2.h, T.clsC b, T.mHolds b, hb.mono (Nat.le_max_right ..), _, rfl, .ref p2, sv, s, rfl, hy.mono (toI S1), hs.mono S1, fun H2 S2 => q2 H2 (S1.trans S2)⟩
theorem ok_hInverse (T : Tx K mg) {a : Cond} (ha : FnR P w K mg base CX0 (hl a) (He.ma K (He.ga K (nmC a)) "holds") (spHolds K a)) :
    FnR P w K mg base CX0 (hl a + 1) (He.ma K (He.ga K "Inverse") "holds") (spHolds K (.inverse a)) := by
  obtain ⟨fd, F⟩ := F_Inverse_holds T
  have S : FnScope ["self", "seen"] ["self", "seen"] (defScope s_Inverse_holds) := ⟨rfl, rfl, rfl, by decide +kernel, rfl, by decide +kernel, by decide +kernel⟩
  refine okR F S (fun _ _ _ _ _ _ us hl => match us, hl with | [_, _], _ => rfl) spHolds_len fun cdv A outer s H vs Q E hr h => ?_
  obtain ⟨v, sv, s, rfl, ⟨x, ⟨p, dx, rfl, hp⟩, hx⟩, hs, q⟩ := h
  refine ⟨_, pss_one (ps_ret (pe_not (pe_dyn (pe_fld (pv 0) (by rfl)) hr (pa_cons (pv 1) pa_nil)))), ?_⟩
  obtain ⟨p1, d1, f1, rfl, h1, n1⟩ := hx.ins
  exact ⟨_, rfl, p, _, dx, _, _, rfl, hp, T.cls "Inverse", T.noat "Inverse" "inner", lk_hd, p1, _, d1, f1, _, _, rfl, h1, n1.h, T.clsC a, T.mHolds a, ha, _, rfl, .ref p1, sv, s, rfl, hx, hs, fun H1 S1 => ⟨_, rfl, q H1 S1⟩⟩
theorem ok_hKind (T : Tx K mg) {z : PySem.Str} : FnR P w K mg base CX0 2 (He.ma K (He.ga K "Kind") "holds") (spHolds K (.kind z)) := by
  obtain ⟨fd, F⟩ := F_Kind_holds T
  have S : FnScope ["self", "seen"] ["self", "seen"] (defScope s_Kind_holds) := ⟨rfl, rfl, rfl, by decide +kernel, rfl, by decide +kernel, by decide +kernel⟩
  refine okR F S (fun _ _ _ _ _ _ us hl => match us, hl with | [_, _], _ => rfl) spHolds_len fun cdv A outer s H vs Q E hr h => ?_
  obtain ⟨v, sv, s, rfl, ⟨p, dx, rfl, hp⟩, ⟨⟨p2, dx2, kr, lr, rfl, hp2, hk, hl⟩, ok⟩, q⟩ := h
  refine ⟨_, pss_one (ps_ret (pe_cmpR op_eq (pe_fld (pv 1) (by rfl)) (pe_fld (pv 0) (by rfl)) (nomark _))), ?_⟩
  refine ⟨_, rfl, p2, _, dx2, _, .str s.sort, rfl, hp2, T.cls "Seen", T.noat "Seen" "shape", lkS, _, rfl, p, _, dx, _, .str z, rfl, hp, T.cls "Kind", T.noat "Kind" "name", lk_hd, rfl, ?_⟩
  have e : decide (V.str s.sort = V.str z) = decide (s.sort = z) := by simp
  rw [e]
  exact q H (Same.refl H)
theorem ok_hEquals (T : Tx K mg) {k : L2.Key} : FnR P w K mg base CX0 2 (He.ma K (He.ga K "Equals") "holds") (spHolds K (.equals k)) := by
  obtain ⟨fd, F⟩ := F_Equals_holds T
  have S : FnScope ["self", "seen", "wanted"] ["self", "seen"] (defScope s_Equals_holds) := ⟨rfl, rfl, rfl, by decide +kernel, rfl, by decide +kernel, by decide +kernel⟩
  refine okR F S (fun _ _ _ _ _ _ us hl => match us, hl with | [_, _], _ => rfl) spHolds_len fun cdv A outer s H vs Q E hr h => ?_
  obtain ⟨v, sv, s, rfl, ⟨p, dx, rfl, hp⟩, ⟨⟨p2, dx2, kr, lr, rfl, hp2, hk, hl⟩, ok⟩, q⟩ := h
  have nd := S.nd
  have bs : bootBuiltins "str" = some (.type "str") := by decide +kernel
  refine ⟨_, pss_cons (ps_set (i := 2) nd rfl (.inl rfl) (pe_ifExp (pt_val (pe_callB call_isi rfl (T.free "isinstance") boot_isinstance (pa_cons (pe_fld (pv 0) (by rfl)) (pa_cons (pe_bltn (v := .ty "str") (by rfl) (T.free "str") bs rfl) pa_nil)))) pe_str pe_str))
    (pss_one (ps_ret (pe_and (pe_cmpR op_eq (pe_fld (pv 1) (by rfl)) (pv 2) (nomark _)) (pe_one (pe_cmpR op_eq (pe_fld (pv 1) (by rfl)) (pe_fld (pv 0) (by rfl)) (nomark _)))))), ?_⟩
  refine ⟨_, rfl, p, _, dx, _, kV k, rfl, hp, T.cls "Equals", T.noat "Equals" "atom", lk_hd, kV k, .ty "str", _, _, isTx k, rfl, .ty "str", ty_key k, kit_key k, _, rfl, ?_⟩
  have rest : (fun (t : TS) => t { nx := fun _ H' => Q .non H', rt := Q } [some (.ref p), some (.ref p2), some (.str (wanted k))] H) (tRet (tAndV (tOp rEq (tFld K (tVar 1) "shape") (tVar 2)) (tOp rEq (tFld K (tVar 1) "atom") (tFld K (tVar 0) "atom")))) := by
    refine ⟨_, rfl, p2, _, dx2, _, .str s.sort, rfl, hp2, T.cls "Seen", T.noat "Seen" "shape", lkS, _, rfl, rfl, _, rfl, ?_⟩
    have e : decide (V.str s.sort = V.str (wanted k)) = decide (s.sort = wanted k) := by simp
    rw [e]
    have q2 : ∀ H', Same H H' → Q (.bl (decide (s.sort = wanted k) && decide (s.atom = kV k))) H' := q
    by_cases c : s.sort = wanted k
    · rw [decide_eq_true c] at q2 ⊢
      refine iteP rfl ⟨_, rfl, p2, _, dx2, _, s.atom, rfl, hp2, T.cls "Seen", T.noat "Seen" "atom", lkA, _, rfl, p, _, dx, _, kV k, rfl, hp, T.cls "Equals", T.noat "Equals" "atom", lk_hd, ?_, q2 H (Same.refl H)⟩
      cases k with
      | inl i =>
        obtain ⟨j, e⟩ := ok.it c
        rw [e]
        rfl
      | inr z =>
        obtain ⟨j, e⟩ := ok.tx c
        rw [e]
        rfl
    · rw [decide_eq_false c] at q2 ⊢
      exact iteN (by decide) (q2 H (Same.refl H))
  cases k with
  | inl i => exact iteN (by rfl) rest
  | inr z => exact iteP (by rfl) rest
end
section
variable {P : Program} {w : World} {K : PySem.W.Frag} {mg : PySem.Str → Option Value} {base : Heap}
theorem count_strs (l : PySem.Str) : ∀ ls : List PySem.Str, (ls.map V.str).countP (fun z => eqV z (.str l)) = ls.count l
  | [] => rfl
  | z :: ls => by
    rw [List.map_cons, List.countP_cons, List.count_cons, count_strs l ls]
    rfl
theorem eqL_one (l : PySem.Str) (ls : List PySem.Str) : eqL ((ls.take 1).map V.str) [.str l] = decide (ls.take 1 = [l]) := by
  cases ls with
  | nil => rfl
  | cons z ls =>
    show (true && (eqV (.str z) (.str l) && true)) = _
    have e : eqV (.str z) (.str l) = decide (z = l) := by
      show (z == l) = _
      rw [Bool.eq_iff_iff]
      simp
    rw [e]
    simp
theorem strs_len {s : Sn} (ok : SnOk s) {ls : List PySem.Str} (h : s.labs = some ls) : (ls.map V.str).length ≤ 100 := by
  rw [List.length_map]
  exact ok.sm ls h
theorem ok_hSize (T : Tx K mg) {z : Int} : FnR P w K mg base CX0 2 (He.ma K (He.ga K "Size") "holds") (spHolds K (.size z)) := by
  obtain ⟨fd, F⟩ := F_Size_holds T
  have S : FnScope ["self", "seen"] ["self", "seen"] (defScope s_Size_holds) := ⟨rfl, rfl, rfl, by decide +kernel, rfl, by decide +kernel, by decide +kernel⟩
  refine okR F S (fun _ _ _ _ _ _ us hl => match us, hl with | [_, _], _ => rfl) spHolds_len fun cdv A outer s H vs Q E hr h => ?_
  obtain ⟨v, sv, s, rfl, ⟨p, dx, rfl, hp⟩, ⟨⟨p2, dx2, kr, lr, rfl, hp2, hk, hl⟩, ok⟩, q⟩ := h
  refine ⟨_, pss_one (ps_ret (pe_and (pe_cmpR op_notN (pe_fld (pv 1) (by rfl)) pe_non (nomark _)) (pe_one (pe_cmpR op_eq (pe_callB call_len_seq rfl (T.free "len") boot_len (pa_cons (pe_fld (pv 1) (by rfl)) pa_nil)) (pe_fld (pv 0) (by rfl)) (nomark _))))), ?_⟩
  refine ⟨_, rfl, p2, _, dx2, _, lr, rfl, hp2, T.cls "Seen", T.noat "Seen" "labels", lkL, rfl, _, rfl, ?_⟩
  have q2 : Q (.bl (hSize s z)) H := q H (Same.refl H)
  unfold hSize at q2
  cases el : s.labs with
  | none =>
    rw [el] at hl q2
    cases hl
    exact iteN (by decide) q2
  | some ls =>
    rw [el] at hl q2
    obtain ⟨a, rfl, ha⟩ := hl
    refine iteP (by rfl) ⟨_, rfl, p2, _, dx2, _, .ref a, rfl, hp2, T.cls "Seen", T.noat "Seen" "labels", lkL, a, _, rfl, .inl ha, _, rfl, p, _, dx, _, .int z, rfl, hp, T.cls "Size", T.noat "Size" "count", lk_hd, rfl, ?_⟩
    have e : decide (V.int (((ls.map V.str).length : Nat) : Int) = V.int z) = decide ((ls.length : Int) = z) := by
      rw [List.length_map]
      simp
    show Q (.bl (decide (V.int (((ls.map V.str).length : Nat) : Int) = V.int z))) H
    rw [e]
    exact q2
theorem ok_hHas (T : Tx K mg) {k : L2.Key} : FnR P w K mg base CX0 2 (He.ma K (He.ga K "Has") "holds") (spHolds K (.has k)) := by
  obtain ⟨fd, F⟩ := F_Has_holds T
  have S : FnScope ["self", "seen"] ["self", "seen"] (defScope s_Has_holds) := ⟨rfl, rfl, rfl, by decide +kernel, rfl, by decide +kernel, by decide +kernel⟩
  refine okR F S (fun _ _ _ _ _ _ us hl => match us, hl with | [_, _], _ => rfl) spHolds_len fun cdv A outer s H vs Q E hr h => ?_
  obtain ⟨v, sv, s, rfl, ⟨p, dx, rfl, hp⟩, hs, q⟩ := h
  refine ⟨_, pss_one (ps_ret (pe_dyn (pv 1) hr (pa_cons (pe_fld (pv 0) (by rfl)) pa_nil))), ?_⟩
  obtain ⟨p2, d2, f2, rfl, h2, n1, n2, n3⟩ := sn_ins hs
  exact ⟨_, rfl, p2, _, d2, f2, _, _, rfl, h2, n1, T.cls "Seen", T.meth "Seen" "has", ok_shas T, _, rfl, p, _, dx, _, kV k, rfl, hp, T.cls "Has", T.noat "Has" "key", lk_hd, .ref p2, s, k, rfl, hs, q H (Same.refl H)⟩
theorem ok_hItem (T : Tx K mg) {k : L2.Key} {l : PySem.Str} : FnR P w K mg base CX0 2 (He.ma K (He.ga K "Item") "holds") (spHolds K (.item k l)) := by
  obtain ⟨fd, F⟩ := F_Item_holds T
  have S : FnScope ["self", "seen"] ["self", "seen"] (defScope s_Item_holds) := ⟨rfl, rfl, rfl, by decide +kernel, rfl, by decide +kernel, by decide +kernel⟩
  refine okR F S (fun _ _ _ _ _ _ us hl => match us, hl with | [_, _], _ => rfl) spHolds_len fun cdv A outer s H vs Q E hr h => ?_
  obtain ⟨v, sv, s, rfl, ⟨p, dx, rfl, hp⟩, hs, q⟩ := h
  refine ⟨_, pss_one (ps_ret (pe_and (pe_dyn (pv 1) hr (pa_cons (pe_fld (pv 0) (by rfl)) pa_nil))
    (pe_one (pe_cmpR op_eq (pe_ix ix_list (pe_fld (pv 1) (by rfl)) (pe_dyn (pv 1) hr (pa_cons (pe_fld (pv 0) (by rfl)) pa_nil)) (fun _ _ => rfl)) (pe_fld (pv 0) (by rfl)) (nomark _))))), ?_⟩
  obtain ⟨p2, d2, f2, rfl, h2, n1, n2, n3⟩ := sn_ins hs
  refine ⟨_, rfl, p2, _, d2, f2, _, _, rfl, h2, n1, T.cls "Seen", T.meth "Seen" "has", ok_shas T, _, rfl, p, _, dx, _, kV k, rfl, hp, T.cls "Item", T.noat "Item" "key", lk_hd, .ref p2, s, k, rfl, hs, _, rfl, ?_⟩
  have q2 : Q (.bl (hItem s k l)) H := q H (Same.refl H)
  unfold hItem at q2
  cases eh : hHas s k with
  | false =>
    rw [eh] at q2
    exact iteN rfl q2
  | true =>
    rw [eh] at q2
    obtain ⟨⟨p2', dx2, kr, lr, e, hp2, hk, hl⟩, ok⟩ := hs
    cases e
    obtain ⟨ks, ek, hin⟩ : ∃ ks, s.keys = some ks ∧ k ∈ ks := by
      unfold hHas at eh
      cases ek : s.keys with
      | none =>
        rw [ek] at eh
        cases eh
      | some ks =>
        rw [ek] at eh
        exact ⟨ks, rfl, of_decide_eq_true eh⟩
    obtain ⟨ls, el, ll⟩ := ok.ln ks ek
    have hl2 := hl
    rw [el] at hl2 q2
    obtain ⟨a, rfl, ha⟩ := hl2
    have pl : plc s k < ls.length := by
      unfold plc
      rw [ek, ll]
      exact List.idxOf_lt_length_of_mem hin
    have pl2 : plc s k < (ls.map V.str).length := by
      rw [List.length_map]
      exact pl
    refine iteP rfl ⟨_, rfl, p2, _, dx2, _, .ref a, rfl, hp2, T.cls "Seen", T.noat "Seen" "labels", lkL, _, rfl, p2, _, d2, f2, _, _, rfl, h2, n2, T.cls "Seen", T.meth "Seen" "place", ok_place T, _, rfl, p, _, dx, _, kV k, rfl, hp, T.cls "Item", T.noat "Item" "key", lk_hd,
      .ref p2, s, k, rfl, ⟨⟨p2, dx2, kr, .ref a, rfl, hp2, hk, hl⟩, ok⟩, eh, a, _, _, .str ls[plc s k], rfl, rfl, ha, ?_, _, rfl, p, _, dx, _, .str l, rfl, hp, T.cls "Item", T.noat "Item" "label", (lk_tl (by decide)).trans lk_hd, rfl, ?_⟩
    · refine (atI_pos (by omega) (by omega)).trans ?_
      rw [← List.getElem?_eq_getElem, Int.toNat_natCast, List.getElem?_map, List.getElem?_eq_getElem pl]
      rfl
    have e : decide (V.str ls[plc s k] = V.str l) = decide (ls[plc s k]? = some l) := by
      rw [List.getElem?_eq_getElem pl]
      simp
    show Q (.bl (decide (V.str ls[plc s k] = V.str l))) H
    rw [e]
    exact q2
theorem ok_hBefore (T : Tx K mg) {j k : L2.Key} : FnR P w K mg base CX0 2 (He.ma K (He.ga K "Before") "holds") (spHolds K (.before j k)) := by
  obtain ⟨fd, F⟩ := F_Before_holds T
  have S : FnScope ["self", "seen"] ["self", "seen"] (defScope s_Before_holds) := ⟨rfl, rfl, rfl, by decide +kernel, rfl, by decide +kernel, by decide +kernel⟩
  refine okR F S (fun _ _ _ _ _ _ us hl => match us, hl with | [_, _], _ => rfl) spHolds_len fun cdv A outer s H vs Q E hr h => ?_
  obtain ⟨v, sv, s, rfl, ⟨p, dx, rfl, hp⟩, hs, q⟩ := h
  refine ⟨_, pss_cons (ps_if (PW.pt (pw_or (pt_not (pt_val (pe_dyn (pv 1) hr (pa_cons (pe_fld (pv 0) (by rfl)) pa_nil)))) (pw_or1 (pt_not (pt_val (pe_dyn (pv 1) hr (pa_cons (pe_fld (pv 0) (by rfl)) pa_nil))))))) (pss_one (ps_ret pe_bl)) pss_nil)
    (pss_one (ps_ret (pe_cmpR op_lt (pe_dyn (pv 1) hr (pa_cons (pe_fld (pv 0) (by rfl)) pa_nil)) (pe_dyn (pv 1) hr (pa_cons (pe_fld (pv 0) (by rfl)) pa_nil)) (nomark _)))), ?_⟩
  obtain ⟨p2, d2, f2, rfl, h2, n1, n2, n3⟩ := sn_ins hs
  have c := T.cls "Seen"
  have q2 : Q (.bl (hBefore s j k)) H := q H (Same.refl H)
  unfold hBefore at q2
  refine ⟨_, rfl, p2, _, d2, f2, _, _, rfl, h2, n1, c, T.meth "Seen" "has", ok_shas T, _, rfl, p, _, dx, _, kV j, rfl, hp, T.cls "Before", T.noat "Before" "first", lk_hd, .ref p2, s, j, rfl, hs, _, rfl, ?_⟩
  cases ej : hHas s j with
  | false =>
    rw [ej] at q2
    exact iteP rfl (iteP rfl q2)
  | true =>
    rw [ej] at q2
    refine iteN rfl ⟨_, rfl, p2, _, d2, f2, _, _, rfl, h2, n1, c, T.meth "Seen" "has", ok_shas T, _, rfl, p, _, dx, _, kV k, rfl, hp, T.cls "Before", T.noat "Before" "second", (lk_tl (by decide)).trans lk_hd, .ref p2, s, k, rfl, hs, _, rfl, ?_⟩
    cases ek : hHas s k with
    | false =>
      rw [ek] at q2
      exact iteP rfl q2
    | true =>
      rw [ek] at q2
      refine iteN rfl ⟨_, rfl, p2, _, d2, f2, _, _, rfl, h2, n2, c, T.meth "Seen" "place", ok_place T, _, rfl, p, _, dx, _, kV j, rfl, hp, T.cls "Before", T.noat "Before" "first", lk_hd, .ref p2, s, j, rfl, hs, ej,
        _, rfl, p2, _, d2, f2, _, _, rfl, h2, n2, c, T.meth "Seen" "place", ok_place T, _, rfl, p, _, dx, _, kV k, rfl, hp, T.cls "Before", T.noat "Before" "second", (lk_tl (by decide)).trans lk_hd, .ref p2, s, k, rfl, hs, ek, _, _, rfl, rfl, ?_⟩
      have e : decide (((plc s j : Nat) : Int) < ((plc s k : Nat) : Int)) = decide (plc s j < plc s k) := by
        rw [decide_eq_decide]
        omega
      show Q (.bl (decide (((plc s j : Nat) : Int) < ((plc s k : Nat) : Int)))) H
      rw [e]
      exact q2
theorem ok_hFirst (T : Tx K mg) {l : PySem.Str} : FnR P w K mg base CX0 2 (He.ma K (He.ga K "First") "holds") (spHolds K (.first l)) := by
  obtain ⟨fd, F⟩ := F_First_holds T
  have S : FnScope ["self", "seen"] ["self", "seen"] (defScope s_First_holds) := ⟨rfl, rfl, rfl, by decide +kernel, rfl, by decide +kernel, by decide +kernel⟩
  refine okR F S (fun _ _ _ _ _ _ us hl => match us, hl with | [_, _], _ => rfl) spHolds_len fun cdv A outer s H vs Q E hr h => ?_
  obtain ⟨v, sv, s, rfl, ⟨p, dx, rfl, hp⟩, hs, q⟩ := h
  have hu := hu_of hr
  refine ⟨_, pss_one (ps_ret (pe_and (pe_dyn0 (pv 1) hr) (pe_one (pe_cmpR (op_eqF (Nat.lt_of_succ_lt hu)) (pe_slice sl_list (pe_fld (pv 1) (by rfl)) po_none (po_some pe_int)) (pe_lst (pa_cons (pe_fld (pv 0) (by rfl)) pa_nil)) (nomark _))))), ?_⟩
  obtain ⟨p2, d2, f2, rfl, h2, n1, n2, n3⟩ := sn_ins hs
  refine ⟨_, rfl, p2, _, d2, f2, _, _, rfl, h2, n3, T.cls "Seen", T.meth "Seen" "is_row", ok_isrow T, .ref p2, s, rfl, hs, _, rfl, ?_⟩
  have q2 : ∀ H', Same H H' → Q (.bl (hFirst s l)) H' := q
  unfold hFirst at q2
  cases er : hRow s with
  | false =>
    rw [er] at q2
    exact iteN rfl (q2 H (Same.refl H))
  | true =>
    rw [er] at q2
    obtain ⟨⟨p2', dx2, kr, lr, e, hp2, hk, hl⟩, ok⟩ := hs
    cases e
    obtain ⟨ls, el⟩ : ∃ ls, s.labs = some ls := by
      unfold hRow at er
      cases el : s.labs with
      | none =>
        rw [el] at er
        cases er
      | some ls => exact ⟨ls, rfl⟩
    rw [el] at hl q2
    obtain ⟨a, rfl, ha⟩ := hl
    refine iteP rfl ⟨_, rfl, p2, _, dx2, _, .ref a, rfl, hp2, T.cls "Seen", T.noat "Seen" "labels", lkL, 1, rfl, a, _, rfl, ha, fun p3 hp3 => ?_⟩
    have S3 := same_new hp3 (.lst (cutV (ls.map V.str) none (some 1)))
    refine ⟨_, rfl, p, _, dx, _, .str l, rfl, S3 _ _ hp, T.cls "First", T.noat "First" "label", lk_hd, by show 1 ≤ sizeLine; decide, fun p4 hp4 => ?_⟩
    have S4 := same_new hp4 (.lst [V.str l])
    have e3 : cutV (ls.map V.str) none (some 1) = (ls.take 1).map V.str := by
      rw [List.map_take]
      exact cut_hi (ls.map V.str) 1 |>.trans rfl
    refine ⟨p3, p4, _, _, rfl, rfl, SqL.of (S4 _ _ upd_same), SqL.of upd_same, ?_, rfl, ?_⟩
    · rw [e3]
      exact flat_strs _
    · show Q (.bl (eqL (cutV (ls.map V.str) none (some 1)) [V.str l])) _
      have S5 := S3.trans S4
      rw [e3] at S5 ⊢
      rw [eqL_one]
      exact q2 _ S5
theorem ok_hEvery (T : Tx K mg) {l : PySem.Str} : FnR P w K mg base CX0 2 (He.ma K (He.ga K "Every") "holds") (spHolds K (.every l)) := by
  obtain ⟨fd, F⟩ := F_Every_holds T
  have S : FnScope ["self", "seen"] ["self", "seen"] (defScope s_Every_holds) := ⟨rfl, rfl, rfl, by decide +kernel, rfl, by decide +kernel, by decide +kernel⟩
  refine okR F S (fun _ _ _ _ _ _ us hl => match us, hl with | [_, _], _ => rfl) spHolds_len fun cdv A outer s H vs Q E hr h => ?_
  obtain ⟨v, sv, s, rfl, ⟨p, dx, rfl, hp⟩, ⟨⟨p2, dx2, kr, lr, rfl, hp2, hk, hl⟩, ok⟩, q⟩ := h
  refine ⟨_, pss_one (ps_ret (pe_and (pe_cmpR op_notN (pe_fld (pv 1) (by rfl)) pe_non (nomark _)) (pe_one (pe_cmpR op_eq (pe_bm PySem.F.plainAttrs_list PySem.F.slot_list_count PySem.F.type_list_count mt_countV (pe_fld (pv 1) (by rfl)) (pa_cons (pe_fld (pv 0) (by rfl)) pa_nil)) (pe_callB call_len_seq rfl (T.free "len") boot_len (pa_cons (pe_fld (pv 1) (by rfl)) pa_nil)) (nomark _))))), ?_⟩
  have cs := T.cls "Seen"
  have cn := T.noat "Seen" "labels"
  refine ⟨_, rfl, p2, _, dx2, _, lr, rfl, hp2, cs, cn, lkL, rfl, _, rfl, ?_⟩
  have q2 : Q (.bl (hEvery s l)) H := q H (Same.refl H)
  unfold hEvery at q2
  cases el : s.labs with
  | none =>
    rw [el] at hl q2
    cases hl
    exact iteN (by decide) q2
  | some ls =>
    rw [el] at hl q2
    obtain ⟨a, rfl, ha⟩ := hl
    refine iteP (by rfl) ⟨_, rfl, p2, _, dx2, _, .ref a, rfl, hp2, cs, cn, lkL, .inl ⟨rfl, _, ha⟩, _, rfl, p, _, dx, _, .str l, rfl, hp, T.cls "Every", T.noat "Every" "label", lk_hd, a, _, .str l, rfl, rfl, ha, rfl, flat_strs _, _, rfl, p2, _, dx2, _, .ref a, rfl, hp2, cs, cn, lkL, a, _, rfl, .inl ha, rfl, ?_⟩
    show Q (.bl (decide (V.int ((((ls.map V.str).countP fun z => eqV z (.str l)) : Nat) : Int) = V.int (((ls.map V.str).length : Nat) : Int)))) H
    have e : decide (V.int ((((ls.map V.str).countP fun z => eqV z (.str l)) : Nat) : Int) = V.int (((ls.map V.str).length : Nat) : Int)) = decide (ls.count l = ls.length) := by
      rw [count_strs, List.length_map, decide_eq_decide]
      constructor
      · intro h
        have := V.int.inj h
        omega
      · intro h
        rw [h]
    rw [e]
    exact q2
theorem ok_hSome (T : Tx K mg) {l : PySem.Str} : FnR P w K mg base CX0 2 (He.ma K (He.ga K "Some") "holds") (spHolds K (.some_ l)) := by
  obtain ⟨fd, F⟩ := F_Some_holds T
  have S : FnScope ["self", "seen"] ["self", "seen"] (defScope s_Some_holds) := ⟨rfl, rfl, rfl, by decide +kernel, rfl, by decide +kernel, by decide +kernel⟩
  refine okR F S (fun _ _ _ _ _ _ us hl => match us, hl with | [_, _], _ => rfl) spHolds_len fun cdv A outer s H vs Q E hr h => ?_
  obtain ⟨v, sv, s, rfl, ⟨p, dx, rfl, hp⟩, ⟨⟨p2, dx2, kr, lr, rfl, hp2, hk, hl⟩, ok⟩, q⟩ := h
  refine ⟨_, pss_one (ps_ret (pe_and (pe_cmpR op_notN (pe_fld (pv 1) (by rfl)) pe_non (nomark _)) (pe_one (pe_cmpR op_in_seq (pe_fld (pv 0) (by rfl)) (pe_fld (pv 1) (by rfl)) rfl)))), ?_⟩
  have cs := T.cls "Seen"
  have cn := T.noat "Seen" "labels"
  refine ⟨_, rfl, p2, _, dx2, _, lr, rfl, hp2, cs, cn, lkL, rfl, _, rfl, ?_⟩
  have q2 : Q (.bl (hSome s l)) H := q H (Same.refl H)
  unfold hSome at q2
  cases el : s.labs with
  | none =>
    rw [el] at hl q2
    cases hl
    exact iteN (by decide) q2
  | some ls =>
    rw [el] at hl q2
    obtain ⟨a, rfl, ha⟩ := hl
    refine iteP (by rfl) ⟨_, rfl, p, _, dx, _, .str l, rfl, hp, T.cls "Some", T.noat "Some" "label", lk_hd, _, rfl, p2, _, dx2, _, .ref a, rfl, hp2, cs, cn, lkL, a, _, rfl, .inl ha, rfl, flat_strs _, ?_⟩
    show Q (.bl (inV (.str l) (ls.map V.str))) H
    rw [inV_str]
    exact q2
theorem ok_holds (T : Tx K mg) : ∀ c : Cond, FnR P w K mg base CX0 (hl c) (He.ma K (He.ga K (nmC c)) "holds") (spHolds K c)
  | .both a b => ok_hBoth T (ok_holds T a) (ok_holds T b)
  | .either a b => ok_hEither T (ok_holds T a) (ok_holds T b)
  | .inverse a => ok_hInverse T (ok_holds T a)
  | .kind _ => ok_hKind T
  | .equals _ => ok_hEquals T
  | .size _ => ok_hSize T
  | .has _ => ok_hHas T
  | .item _ _ => ok_hItem T
  | .before _ _ => ok_hBefore T
  | .first _ => ok_hFirst T
  | .every _ => ok_hEvery T
  | .some_ _ => ok_hSome T
end
/-! ### leaves, own_labels, label_list -/
section
variable {P : Program} {w : World} {K : PySem.W.Frag} {mg : PySem.Str → Option Value} {base : Heap}
def labOf : Cond → List PySem.Str
  | .both a b => labOf a ++ labOf b
  | .either a b => labOf a ++ labOf b
  | .inverse a => labOf a
  | .item _ l => [l]
  | .first l => [l]
  | .every l => [l]
  | .some_ l => [l]
  | _ => []
def isLf : Cond → Bool
  | .both _ _ => false
  | .either _ _ => false
  | .inverse _ => false
  | _ => true
def cnt : Cond → Nat
  | .both a b => cnt a + cnt b
  | .either a b => cnt a + cnt b
  | .inverse a => cnt a
  | _ => 1
def LeafAt (K : PySem.W.Frag) (H : Hp) (c : Cond) (v : V) : Prop := ∃ c', CondAt K H v c' ∧ isLf c' = true ∧ ∀ l ∈ labOf c', l ∈ labOf c
theorem LeafAt.mono {H H' : Hp} (S : Same H H') {c : Cond} {v : V} (h : LeafAt K H c v) : LeafAt K H' c v := by
  obtain ⟨c', a, b, d⟩ := h
  exact ⟨c', a.mono (toI S), b, d⟩
def spLeaves (K : PySem.W.Frag) (c : Cond) : Sp := fun vs H Q _ => ∃ v : V, vs = [v] ∧ CondAt K H v c ∧ cnt c ≤ 50 ∧ ∀ (p : Addr) (xs : List V) (H' : Hp), H p = none → Same H H' → H' p = some (.lst xs) → xs.length = cnt c → (∀ x ∈ xs, LeafAt K H' c x) → Q (.ref p) H'
theorem spLeaves_len {c : Cond} : ∀ (vs : List V) (H : Hp) (Q : VK) (E : XK), spLeaves K c vs H Q E → vs.length = (["self"] : List PySem.Str).length := by
  rintro vs H Q E ⟨v, rfl, _⟩
  rfl
theorem inh (T : Tx K mg) {c m : PySem.Str} (h : inhB K c m = true) : He.ma K (He.ga K c) m = He.ma K (He.ga K "Condition") m := of_decide_eq_true h
theorem inhLv (T : Tx K mg) {c : PySem.Str} (h : (["Kind", "Equals", "Size", "Has", "Item", "Before", "First", "Every", "Some"] : List PySem.Str).contains c = true := by decide +kernel) : He.ma K (He.ga K c) "leaves" = He.ma K (He.ga K "Condition") "leaves" :=
  inh T (List.all_eq_true.mp (He.ba (He.ba T.e3).1).2 c (memL h))
theorem inhOwn (T : Tx K mg) {c : PySem.Str} (h : (["Kind", "Equals", "Size", "Has", "Before"] : List PySem.Str).contains c = true := by decide +kernel) : He.ma K (He.ga K c) "own_labels" = He.ma K (He.ga K "Condition") "own_labels" :=
  inh T (List.all_eq_true.mp (He.ba T.e3).2 c (memL h))
theorem inhLab (T : Tx K mg) {c : PySem.Str} (h : condN.contains c = true := by decide +kernel) : He.ma K (He.ga K c) "label_list" = He.ma K (He.ga K "Condition") "label_list" :=
  inh T (List.all_eq_true.mp (He.ba (He.ba T.e3).1).1 c (memL h))
theorem ok_lvLeaf (T : Tx K mg) {c : Cond} (hc : isLf c = true) : FnR P w K mg base CX0 2 (He.ma K (He.ga K "Condition") "leaves") (spLeaves K c) := by
  obtain ⟨fd, F⟩ := F_Condition_leaves T
  have S : FnScope ["self"] ["self"] (defScope s_Condition_leaves) := ⟨rfl, rfl, rfl, by decide +kernel, rfl, by decide +kernel, by decide +kernel⟩
  refine okR F S (fun _ _ _ _ _ _ us hl => match us, hl with | [_], _ => rfl) spLeaves_len fun cdv A outer s H vs Q E hr h => ?_
  obtain ⟨v, rfl, hv, _, q⟩ := h
  refine ⟨_, pss_one (ps_ret (pe_lst (pa_cons (pv 0) pa_nil))), ?_⟩
  refine ⟨_, rfl, by show 1 ≤ sizeLine; decide, fun p hp => q p [v] _ hp (same_new hp _) upd_same ?_ ?_⟩
  · cases c with
    | both _ _ => cases hc
    | either _ _ => cases hc
    | inverse _ => cases hc
    | _ => rfl
  · intro x hx
    rw [List.mem_singleton.mp hx]
    exact ⟨c, hv.mono (toI (same_new hp _)), hc, fun l hl => hl⟩
theorem ok_lvBoth (T : Tx K mg) {a b : Cond} (ha : FnR P w K mg base CX0 (hl a) (He.ma K (He.ga K (nmC a)) "leaves") (spLeaves K a)) (hb : FnR P w K mg base CX0 (hl b) (He.ma K (He.ga K (nmC b)) "leaves") (spLeaves K b)) :
    FnR P w K mg base CX0 (max (hl a) (hl b) + 1) (He.ma K (He.ga K "Both") "leaves") (spLeaves K (.both a b)) := by
  obtain ⟨fd, F⟩ := F_Both_leaves T
  have S : FnScope ["self"] ["self"] (defScope s_Both_leaves) := ⟨rfl, rfl, rfl, by decide +kernel, rfl, by decide +kernel, by decide +kernel⟩
  refine okR F S (fun _ _ _ _ _ _ us hl => match us, hl with | [_], _ => rfl) spLeaves_len fun cdv A outer s H vs Q E hr h => ?_
  obtain ⟨v, rfl, ⟨x, y, ⟨p, dx, rfl, hp⟩, hx, hy⟩, hn, q⟩ := h
  refine ⟨_, pss_one (ps_ret (pe_op op_cat (pe_dyn0 (pe_fld (pv 0) (by rfl)) hr) (pe_dyn0 (pe_fld (pv 0) (by rfl)) hr))), ?_⟩
  have hn2 : cnt a + cnt b ≤ 50 := hn
  have c := T.cls "Both"
  obtain ⟨p1, d1, f1, rfl, h1, n1⟩ := hx.ins
  obtain ⟨p2, d2, f2, rfl, h2, n2⟩ := hy.ins
  refine ⟨_, rfl, p, _, dx, _, _, rfl, hp, c, T.noat "Both" "left", lk_hd, p1, _, d1, f1, _, _, rfl, h1, n1.l, T.clsC a, T.mLeaves a, ha.mono (Nat.le_max_left ..), .ref p1, rfl, hx, by omega, fun la xs H1 _ S1 hxs lx ix => ?_⟩
  refine ⟨_, rfl, p, _, dx, _, .ref p2, rfl, S1 _ _ hp, c, T.noat "Both" "right", (lk_tl (by decide)).trans lk_hd, p2, _, d2, f2, _, _, rfl, S1 _ _ h2, n2.l, T.clsC b, T.mLeaves b, hb.mono (Nat.le_max_right ..), .ref p2, rfl, hy.mono (toI S1), by omega, fun lb ys H2 _ S2 hys ly iy => ?_⟩
  refine ⟨la, lb, xs, ys, rfl, rfl, S2 _ _ hxs, hys, by rw [sizeLine_eq]; omega, fun l hl => ?_⟩
  have S3 := same_new hl (.lst (xs ++ ys))
  refine q l _ _ ((S1.trans S2).free hl) ((S1.trans S2).trans S3) upd_same (by rw [List.length_append, lx, ly]; rfl) fun z hz => ?_
  rcases List.mem_append.mp hz with hz | hz
  · obtain ⟨c', u1, u2, u3⟩ := (ix z hz).mono (S2.trans S3)
    exact ⟨c', u1, u2, fun l hl => List.mem_append_left _ (u3 l hl)⟩
  · obtain ⟨c', u1, u2, u3⟩ := (iy z hz).mono S3
    exact ⟨c', u1, u2, fun l hl => List.mem_append_right _ (u3 l hl)⟩
theorem ok_lvEither (T : Tx K mg) {a b : Cond} (ha : FnR P w K mg base CX0 (hl a) (He.ma K (He.ga K (nmC a)) "leaves") (spLeaves K a)) (hb : FnR P w K mg base CX0 (hl b) (He.ma K (He.ga K (nmC b)) "leaves") (spLeaves K b)) :
    FnR P w K mg base CX0 (max (hl a) (hl b) + 1) (He.ma K (He.ga K "Either") "leaves") (spLeaves K (.either a b)) := by
  obtain ⟨fd, F⟩ := F_Either_leaves T
  have S : FnScope ["self"] ["self"] (defScope s_Either_leaves) := ⟨rfl, rfl, rfl, by decide +kernel, rfl, by decide +kernel, by decide +kernel⟩
  refine okR F S (fun _ _ _ _ _ _ us hl => match us, hl with | [_], _ => rfl) spLeaves_len fun cdv A outer s H vs Q E hr h => ?_
  obtain ⟨v, rfl, ⟨x, y, ⟨p, dx, rfl, hp⟩, hx, hy⟩, hn, q⟩ := h
  refine ⟨_, pss_one (ps_ret (pe_op op_cat (pe_dyn0 (pe_fld (pv 0) (by rfl)) hr) (pe_dyn0 (pe_fld (pv 0) (by rfl)) hr))), ?_⟩
  have hn2 : cnt a + cnt b ≤ 50 := hn
  have c := T.cls "Either"
  obtain ⟨p1, d1, f1, rfl, h1, n1⟩ := hx.ins
  obtain ⟨p2, d2, f2, rfl, h2, n2⟩ := hy.ins
  refine ⟨_, rfl, p, _, dx, _, _, rfl, hp, c, T.noat "Either" "left", lk_hd, p1, _, d1, f1, _, _, rfl, h1, n1.l, T.clsC a, T.mLeaves a, ha.mono (Nat.le_max_left ..), .ref p1, rfl, hx, by omega, fun la xs H1 _ S1 hxs lx ix => ?_⟩
  refine ⟨_, rfl, p, _, dx, _, .ref p2, rfl, S1 _ _ hp, c, T.noat "Either" "right", (lk_tl (by decide)).trans lk_hd, p2, _, d2, f2, _, _, rfl, S1 _ _ h2, n2.l, T.clsC b, T.mLeaves b, hb.mono (Nat.le_max_right ..), .ref p2, rfl, hy.mono (toI S1), by omega, fun lb ys H2 _ S2 hys ly iy => ?_⟩
  refine ⟨la, lb, xs, ys, rfl, rfl, S2 _ _ hxs, hys, by rw [sizeLine_eq]; omega, fun l hl => ?_⟩
  have S3 := same_new hl (.lst (xs ++ ys))
  refine q l _ _ ((S1.trans S2).free hl) ((S1.trans S2).trans S3) upd_same (by rw [List.length_append, lx, ly]; rfl) fun z hz => ?_
  rcases List.mem_append.mp hz with hz | hz
  · obtain ⟨c', u1, u2, u3⟩ := (ix z hz).mono (S2.trans S3)
    exact ⟨c', u1, u2, fun l hl => List.mem_append_left _ (u3 l hl)⟩
  · obtain ⟨c', u1, u2, u3⟩ := (iy z hz).mono S3
    exact ⟨c', u1, u2, fun l hl => List.mem_append_right _ (u3 l hl)⟩
theorem ok_lvInverse (T : Tx K mg) {a : Cond} (ha : FnR P w K mg base CX0 (hl a) (He.ma K (He.ga K (nmC a)) "leaves") (spLeaves K a)) :
    FnR P w K mg base CX0 (hl a + 1) (He.ma K (He.ga K "Inverse") "leaves") (spLeaves K (.inverse a)) := by
  obtain ⟨fd, F⟩ := F_Inverse_leaves T
  have S : FnScope ["self"] ["self"] (defScope s_Inverse_leaves) := ⟨rfl, rfl, rfl, by decide +kernel, rfl, by decide +kernel, by decide +kernel⟩
  refine okR F S (fun _ _ _ _ _ _ us hl => match us, hl with | [_], _ => rfl) spLeaves_len fun cdv A outer s H vs Q E hr h => ?_
  obtain ⟨v, rfl, ⟨x, ⟨p, dx, rfl, hp⟩, hx⟩, hn, q⟩ := h
  refine ⟨_, pss_one (ps_ret (pe_dyn0 (pe_fld (pv 0) (by rfl)) hr)), ?_⟩
  obtain ⟨p1, d1, f1, rfl, h1, n1⟩ := hx.ins
  exact ⟨_, rfl, p, _, dx, _, _, rfl, hp, T.cls "Inverse", T.noat "Inverse" "inner", lk_hd, p1, _, d1, f1, _, _, rfl, h1, n1.l, T.clsC a, T.mLeaves a, ha, .ref p1, rfl, hx, hn, q⟩
theorem ok_leaves (T : Tx K mg) : ∀ c : Cond, FnR P w K mg base CX0 (hl c) (He.ma K (He.ga K (nmC c)) "leaves") (spLeaves K c)
  | .both a b => ok_lvBoth T (ok_leaves T a) (ok_leaves T b)
  | .either a b => ok_lvEither T (ok_leaves T a) (ok_leaves T b)
  | .inverse a => ok_lvInverse T (ok_leaves T a)
  | .kind _ => by rw [show nmC (.kind _) = "Kind" from rfl, inhLv T]; exact ok_lvLeaf T rfl
  | .equals _ => by rw [show nmC (.equals _) = "Equals" from rfl, inhLv T]; exact ok_lvLeaf T rfl
  | .size _ => by rw [show nmC (.size _) = "Size" from rfl, inhLv T]; exact ok_lvLeaf T rfl
  | .has _ => by rw [show nmC (.has _) = "Has" from rfl, inhLv T]; exact ok_lvLeaf T rfl
  | .item _ _ => by rw [show nmC (.item _ _) = "Item" from rfl, inhLv T]; exact ok_lvLeaf T rfl
  | .before _ _ => by rw [show nmC (.before _ _) = "Before" from rfl, inhLv T]; exact ok_lvLeaf T rfl
  | .first _ => by rw [show nmC (.first _) = "First" from rfl, inhLv T]; exact ok_lvLeaf T rfl
  | .every _ => by rw [show nmC (.every _) = "Every" from rfl, inhLv T]; exact ok_lvLeaf T rfl
  | .some_ _ => by rw [show nmC (.some_ _) = "Some" from rfl, inhLv T]; exact ok_lvLeaf T rfl
/-! own labels -/
def spOwn (K : PySem.W.Frag) (c : Cond) : Sp := fun vs H Q _ => ∃ v : V, vs = [v] ∧ CondAt K H v c ∧ ∀ (p : Addr) (H' : Hp), H p = none → Same H H' → H' p = some (.lst ((labOf c).map V.str)) → Q (.ref p) H'
theorem spOwn_len {c : Cond} : ∀ (vs : List V) (H : Hp) (Q : VK) (E : XK), spOwn K c vs H Q E → vs.length = (["self"] : List PySem.Str).length := by
  rintro vs H Q E ⟨v, rfl, _⟩
  rfl
theorem ok_own0 (T : Tx K mg) {c : Cond} (hc : labOf c = []) : FnR P w K mg base CX0 2 (He.ma K (He.ga K "Condition") "own_labels") (spOwn K c) := by
  obtain ⟨fd, F⟩ := F_Condition_own_labels T
  have S : FnScope ["self"] ["self"] (defScope s_Condition_own_labels) := ⟨rfl, rfl, rfl, by decide +kernel, rfl, by decide +kernel, by decide +kernel⟩
  refine okR F S (fun _ _ _ _ _ _ us hl => match us, hl with | [_], _ => rfl) spOwn_len fun cdv A outer s H vs Q E hr h => ?_
  obtain ⟨v, rfl, hv, q⟩ := h
  refine ⟨_, pss_one (ps_ret (pe_lst pa_nil)), ?_⟩
  refine ⟨Nat.zero_le _, fun p hp => q p _ hp (same_new hp _) ?_⟩
  rw [hc]
  exact upd_same
theorem ok_ownItem (T : Tx K mg) {k : L2.Key} {l : PySem.Str} : FnR P w K mg base CX0 2 (He.ma K (He.ga K "Item") "own_labels") (spOwn K (.item k l)) := by
  obtain ⟨fd, F⟩ := F_Item_own_labels T
  have S : FnScope ["self"] ["self"] (defScope s_Item_own_labels) := ⟨rfl, rfl, rfl, by decide +kernel, rfl, by decide +kernel, by decide +kernel⟩
  refine okR F S (fun _ _ _ _ _ _ us hl => match us, hl with | [_], _ => rfl) spOwn_len fun cdv A outer s H vs Q E hr h => ?_
  obtain ⟨v, rfl, ⟨p, dx, rfl, hp⟩, q⟩ := h
  refine ⟨_, pss_one (ps_ret (pe_lst (pa_cons (pe_fld (pv 0) (by rfl)) pa_nil))), ?_⟩
  exact ⟨_, rfl, p, _, dx, _, .str l, rfl, hp, T.cls "Item", T.noat "Item" "label", (lk_tl (by decide)).trans lk_hd, by show 1 ≤ sizeLine; decide, fun p hp => q p _ hp (same_new hp _) upd_same⟩
theorem ok_ownFirst (T : Tx K mg) {l : PySem.Str} : FnR P w K mg base CX0 2 (He.ma K (He.ga K "First") "own_labels") (spOwn K (.first l)) := by
  obtain ⟨fd, F⟩ := F_First_own_labels T
  have S : FnScope ["self"] ["self"] (defScope s_First_own_labels) := ⟨rfl, rfl, rfl, by decide +kernel, rfl, by decide +kernel, by decide +kernel⟩
  refine okR F S (fun _ _ _ _ _ _ us hl => match us, hl with | [_], _ => rfl) spOwn_len fun cdv A outer s H vs Q E hr h => ?_
  obtain ⟨v, rfl, ⟨p, dx, rfl, hp⟩, q⟩ := h
  refine ⟨_, pss_one (ps_ret (pe_lst (pa_cons (pe_fld (pv 0) (by rfl)) pa_nil))), ?_⟩
  exact ⟨_, rfl, p, _, dx, _, .str l, rfl, hp, T.cls "First", T.noat "First" "label", lk_hd, by show 1 ≤ sizeLine; decide, fun p hp => q p _ hp (same_new hp _) upd_same⟩
theorem ok_ownEvery (T : Tx K mg) {l : PySem.Str} : FnR P w K mg base CX0 2 (He.ma K (He.ga K "Every") "own_labels") (spOwn K (.every l)) := by
  obtain ⟨fd, F⟩ := F_Every_own_labels T
  have S : FnScope ["self"] ["self"] (defScope s_Every_own_labels) := ⟨rfl, rfl, rfl, by decide +kernel, rfl, by decide +kernel, by decide +kernel⟩
  refine okR F S (fun _ _ _ _ _ _ us hl => match us, hl with | [_], _ => rfl) spOwn_len fun cdv A outer s H vs Q E hr h => ?_
  obtain ⟨v, rfl, ⟨p, dx, rfl, hp⟩, q⟩ := h
  refine ⟨_, pss_one (ps_ret (pe_lst (pa_cons (pe_fld (pv 0) (by rfl)) pa_nil))), ?_⟩
  exact ⟨_, rfl, p, _, dx, _, .str l, rfl, hp, T.cls "Every", T.noat "Every" "label", lk_hd, by show 1 ≤ sizeLine; decide, fun p hp => q p _ hp (same_new hp _) upd_same⟩
theorem ok_ownSome (T : Tx K mg) {l : PySem.Str} : FnR P w K mg base CX0 2 (He.ma K (He.ga K "Some") "own_labels") (spOwn K (.some_ l)) := by
  obtain ⟨fd, F⟩ := F_Some_own_labels T
  have S : FnScope ["self"] ["self"] (defScope s_Some_own_labels) := ⟨rfl, rfl, rfl, by decide +kernel, rfl, by decide +kernel, by decide +kernel⟩
  refine okR F S (fun _ _ _ _ _ _ us hl => match us, hl with | [_], _ => rfl) spOwn_len fun cdv A outer s H vs Q E hr h => ?_
  obtain ⟨v, rfl, ⟨p, dx, rfl, hp⟩, q⟩ := h
  refine ⟨_, pss_one (ps_ret (pe_lst (pa_cons (pe_fld (pv 0) (by rfl)) pa_nil))), ?_⟩
  exact ⟨_, rfl, p, _, dx, _, .str l, rfl, hp, T.cls "Some", T.noat "Some" "label", lk_hd, by show 1 ≤ sizeLine; decide, fun p hp => q p _ hp (same_new hp _) upd_same⟩
theorem ok_own (T : Tx K mg) : ∀ c : Cond, isLf c = true → FnR P w K mg base CX0 2 (He.ma K (He.ga K (nmC c)) "own_labels") (spOwn K c)
  | .kind _, _ => by rw [show nmC (.kind _) = "Kind" from rfl, inhOwn T]; exact ok_own0 T rfl
  | .equals _, _ => by rw [show nmC (.equals _) = "Equals" from rfl, inhOwn T]; exact ok_own0 T rfl
  | .size _, _ => by rw [show nmC (.size _) = "Size" from rfl, inhOwn T]; exact ok_own0 T rfl
  | .has _, _ => by rw [show nmC (.has _) = "Has" from rfl, inhOwn T]; exact ok_own0 T rfl
  | .before _ _, _ => by rw [show nmC (.before _ _) = "Before" from rfl, inhOwn T]; exact ok_own0 T rfl
  | .item _ _, _ => ok_ownItem T
  | .first _, _ => ok_ownFirst T
  | .every _, _ => ok_ownEvery T
  | .some_ _, _ => ok_ownSome T
theorem labOf_leaf {c : Cond} (h : isLf c = true) : (labOf c).length ≤ 1 := by
  cases c with
  | both _ _ => cases h
  | either _ _ => cases h
  | inverse _ => cases h
  | kind _ => exact Nat.zero_le _
  | equals _ => exact Nat.zero_le _
  | size _ => exact Nat.zero_le _
  | has _ => exact Nat.zero_le _
  | before _ _ => exact Nat.zero_le _
  | _ => exact Nat.le_refl _
def spLab (K : PySem.W.Frag) (c : Cond) : Sp := fun vs H Q _ => ∃ v : V, vs = [v] ∧ CondAt K H v c ∧ cnt c ≤ 50 ∧ ∀ (p : Addr) (rs : List PySem.Str) (H' : Hp), Same H H' → H' p = some (.lst (rs.map V.str)) → rs.length ≤ 100 → (∀ r ∈ rs, r ∈ labOf c) → Q (.ref p) H'
abbrev nLab : List PySem.Str := ["self", "found", "leaf"]
theorem scLab : FnScope nLab ["self"] (defScope s_Condition_label_list) := ⟨rfl, rfl, rfl, by decide +kernel, rfl, by decide +kernel, by decide +kernel⟩
theorem hl_pos (c : Cond) : 2 ≤ hl c := by
  induction c with
  | both a b iha ihb =>
    show 2 ≤ max (hl a) (hl b) + 1
    omega
  | either a b iha ihb =>
    show 2 ≤ max (hl a) (hl b) + 1
    omega
  | inverse a ih =>
    show 2 ≤ hl a + 1
    omega
  | _ => exact Nat.le_refl 2
theorem ok_lab0 (T : Tx K mg) (c : Cond) : FnR P w K mg base CX0 (hl c + 1) (He.ma K (He.ga K "Condition") "label_list") (spLab K c) := by
  obtain ⟨fd, F⟩ := F_Condition_label_list T
  refine okR F scLab (fun _ _ _ _ _ _ us hl => match us, hl with | [_], _ => rfl) (fun vs H Q E h => ?_) fun cdv A outer s H vs Q E hr h => ?_
  · obtain ⟨v, rfl, _⟩ := h
    rfl
  obtain ⟨v, rfl, hv, hn, q⟩ := h
  have nd := scLab.nd
  have hp := hl_pos c
  have hr1 : Room 1 _ := hr.mono (by omega)
  have hr2 : Room 2 _ := hr.mono (by omega)
  have GW := cl_wr (P := P) (w := w) (base := base) T
  refine ⟨_, pss_cons (ps_set (i := 1) nd rfl (.inl rfl) (pe_lst pa_nil))
    (pss_cons (ps_for PassesOwn.never rfl (pi_list (pe_dyn0 (pv 0) hr)) (pg_name (i := 2) nd rfl (.inl rfl))
      (pss_one (ps_expr (pe_bm PySem.F.plainAttrs_list PySem.F.slot_list_extend PySem.F.type_list_extend mt_extend (pv 1) (pa_cons (pe_dyn0 (pv 2) hr2) pa_nil)))))
    (pss_one (ps_ret (pe_f GW hr1 (pa_cons (pv 1) pa_nil))))), ?_⟩
  refine ⟨Nat.zero_le _, fun f hf => ?_⟩
  obtain ⟨p, dx, fs, rfl, hp, nm⟩ := hv.ins
  have S0 := same_new hf (.lst [])
  refine ⟨_, rfl, p, _, dx, fs, _, _, rfl, S0 _ _ hp, nm.l, T.clsC c, T.mLeaves c, ok_leaves T c, .ref p, rfl, hv.mono (toI S0), hn, fun l xs H1 nl S1 hxs lx ix => ⟨l, rfl, ⟨_, SqL.of hxs⟩, ?_⟩⟩
  have nfl : l ≠ f := fun e => by
    rw [e, upd_same] at nl
    cases nl
  refine for_list (K := K) (a := l) (xs := xs) (fun i σ H2 => ∃ (v2 : Option V) (rs : List PySem.Str), σ = [some (.ref p), some (.ref f), v2] ∧ H2 f = some (.lst (rs.map V.str)) ∧ rs.length ≤ i ∧ (∀ r ∈ rs, r ∈ labOf c) ∧ Same H H2 ∧ H2 l = some (.lst xs) ∧ ∀ x ∈ xs, LeafAt K H2 c x)
    ⟨none, [], rfl, S1 _ _ upd_same, Nat.le_refl _, (fun r hr => by cases hr), S0.trans S1, hxs, ix⟩ (fun i σ H2 _ ⟨_, _, _, _, _, _, _, h, _⟩ => SqL.of h) ?_ ?_
  · rintro i x σ H2 hi ⟨v2, rs, rfl, hrs, rl, rin, S2, hl2, ix2⟩
    have il : i < xs.length := (List.getElem?_eq_some_iff.mp hi).1
    obtain ⟨c', h', lf, lb⟩ := ix2 x (List.mem_of_getElem? hi)
    obtain ⟨p', dx', fs', rfl, hp', nm'⟩ := h'.ins
    refine ⟨_, rfl, .inl ⟨rfl, _, SqL.of hrs⟩, _, rfl, p', _, dx', fs', _, _, rfl, hp', nm'.o, T.clsC c', T.mOwn c', ok_own T c' lf, .ref p', rfl, h', fun o H3 ho S3 ho3 => ?_⟩
    have l1 := labOf_leaf lf
    refine ⟨f, o, _, _, rfl, rfl, S3 _ _ hrs, ho3, ?_, _, rs ++ labOf c', rfl, ?_, ?_, ?_, same_set (S2.trans S3) hf, ?_, ?_⟩
    · rw [List.length_map, List.length_map, sizeLine_eq]
      omega
    · rw [List.map_append]
      exact upd_same
    · rw [List.length_append]
      omega
    · intro r hr
      rcases List.mem_append.mp hr with hr | hr
      · exact rin r hr
      · exact lb r hr
    · exact (upd_ne nfl).trans (S3 _ _ hl2)
    · intro x hx
      obtain ⟨c2, u1, u2, u3⟩ := ix2 x hx
      refine ⟨c2, u1.mono fun b C dx fs hb => ?_, u2, u3⟩
      have h3 := S3 _ _ hb
      refine (upd_ne fun e => ?_).trans h3
      rw [e, S3 _ _ hrs] at h3
      cases h3
  · rintro σ H2 ⟨v2, rs, rfl, hrs, rl, rin, S2, hl2, ix2⟩
    exact ⟨_, rfl, f, rs, rfl, SqL.of hrs, by omega, fun p2 rs2 H3 S3 h3 l3 r3 => q p2 rs2 H3 (S2.trans S3) h3 l3 fun r hr => rin r (r3 r hr)⟩
end
/-! ### Labels -/
section
variable {P : Program} {w : World} {K : PySem.W.Frag} {mg : PySem.Str → Option Value} {base : Heap}
/-- all but dicts stays -/
def SameX (H H' : Hp) : Prop := ∀ b o, (∀ kvs, o ≠ .dK kvs) → H b = some o → H' b = some o
theorem toX {H H' : Hp} (S : Same H H') : SameX H H' := fun b o _ h => S b o h
theorem SameX.I {H H' : Hp} (S : SameX H H') : SameI H H' := fun b _ _ _ h => S b _ (fun _ e => by cases e) h
theorem SameX.trans {H H' H2 : Hp} (S : SameX H H') (S' : SameX H' H2) : SameX H H2 := fun b o n h => S' b o n (S b o n h)
def RowAt (K : PySem.W.Frag) (H : Hp) (r : V) (q : PySem.Str × Cond) : Prop := ∃ (a : Addr) (x : V), r = .ref a ∧ H a = some (.tup [.str q.1, x]) ∧ CondAt K H x q.2
theorem RowAt.mono {H H' : Hp} (S : SameX H H') {r : V} {q : PySem.Str × Cond} (h : RowAt K H r q) : RowAt K H' r q := by
  obtain ⟨a, x, e, h1, h2⟩ := h
  exact ⟨a, x, e, S _ _ (fun _ e => by cases e) h1, h2.mono S.I⟩
structure ROk (R : Rules) : Prop where
  h : ∀ q ∈ R, hl q.2 ≤ 10
  c : ∀ q ∈ R, cnt q.2 ≤ 50
  len : R.length ≤ 3
def nms (R : Rules) : List PySem.Str := R.map (fun q => q.1) ++ [("other" : PySem.Str)]
def LabAt (K : PySem.W.Frag) (H : Hp) (v : V) (R : Rules) : Prop := ∃ (p dx nt rr : Addr) (rs : List V), v = .ref p ∧ H p = some (.ins (He.ga K "Labels") dx [("names", .ref nt), ("rule_rows", .ref rr)]) ∧ H nt = some (.tup ((nms R).map V.str)) ∧ H rr = some (.lst rs) ∧ Paired (RowAt K H) rs R ∧ ROk R
theorem LabAt.mono {H H' : Hp} (S : SameX H H') {v : V} {R : Rules} (h : LabAt K H v R) : LabAt K H' v R := by
  obtain ⟨p, dx, nt, rr, rs, e, h1, h2, h3, h4, h5⟩ := h
  exact ⟨p, dx, nt, rr, rs, e, S _ _ (fun _ e => by cases e) h1, S _ _ (fun _ e => by cases e) h2, S _ _ (fun _ e => by cases e) h3, h4.mono fun _ _ z => z.mono S, h5⟩
/-! label_of -/
def spLof (K : PySem.W.Frag) : Sp := fun vs H Q _ => ∃ (lv sv : V) (R : Rules) (s : Sn), vs = [lv, sv] ∧ LabAt K H lv R ∧ SeenAt K H sv s ∧ ∀ H', Same H H' → Q (.str (labS s R)) H'
abbrev nLof : List PySem.Str := ["self", "seen", "name", "condition"]
theorem scLof : FnScope nLof ["self", "seen"] (defScope s_Labels_label_of) := ⟨rfl, rfl, rfl, by decide +kernel, rfl, by decide +kernel, by decide +kernel⟩
theorem ok_lof (T : Tx K mg) : FnR P w K mg base CX0 11 (He.ma K (He.ga K "Labels") "label_of") (spLof K) := by
  obtain ⟨fd, F⟩ := F_Labels_label_of T
  refine okR F scLof (fun _ _ _ _ _ _ us hl => match us, hl with | [_, _], _ => rfl) (fun vs H Q E h => ?_) fun cdv A outer s H vs Q E hr h => ?_
  · obtain ⟨lv, sv, R, s, rfl, _⟩ := h
    rfl
  obtain ⟨lv, sv, R, s, rfl, ⟨p, dx, nt, rr, rs, rfl, hp, hn, hrr, hpr, hok⟩, hs, q⟩ := h
  have nd := scLof.nd
  obtain ⟨to, ho⟩ := T.oth
  refine ⟨_, pss_cons (ps_for PassesOwn.never rfl (pi_list (pe_fld (pv 0) (by rfl))) (pg_tup (by rfl) (pgs_cons (pg_name (i := 2) nd rfl (.inl rfl)) (pgs_cons (pg_name (i := 3) nd rfl (.inl rfl)) pgs_nil)))
      (pss_one (ps_if (pt_val (pe_dyn (pv 3) hr (pa_cons (pv 1) pa_nil))) (pss_one (ps_ret (pv 2))) pss_nil)))
    (pss_one (ps_ret (pe_glob (v := .str "other") (by rfl) ho ⟨_, rfl⟩))), ?_⟩
  refine ⟨_, rfl, p, _, dx, _, .ref rr, rfl, hp, T.cls "Labels", T.noat "Labels" "rule_rows", (lk_tl (by decide)).trans lk_hd, rr, rfl, ⟨_, SqL.of hrr⟩, for_list (K := K) (a := rr) (xs := rs) (fun i σ H2 => ∃ (v2 v3 : Option V), σ = [some (.ref p), some sv, v2, v3] ∧ Same H H2 ∧ labS s R = labS s (R.drop i)) ⟨none, none, rfl, Same.refl H, rfl⟩ (fun i σ H2 _ ⟨_, _, _, S2, _⟩ => SqL.of (S2 _ _ hrr)) ?_ ?_⟩
  · rintro i r σ H2 hi ⟨v2, v3, rfl, S2, hlab⟩
    obtain ⟨kv, hkv, a, x, rfl, ha, hx⟩ := paired_get hpr hi
    obtain ⟨p1, d1, f1, rfl, h1, n1⟩ := (hx.mono (toI S2)).ins
    have hin := List.mem_of_getElem? hkv
    have hdr : R.drop i = kv :: R.drop (i + 1) := by
      obtain ⟨hlt, e⟩ := List.getElem?_eq_some_iff.mp hkv
      rw [List.drop_eq_getElem_cons hlt, e]
    rw [hdr] at hlab
    refine ⟨a, _, rfl, .inl (.inl (S2 _ _ ha)), rfl, _, _, rfl, _, _, rfl, rfl, ?_⟩
    refine ⟨_, rfl, p1, _, d1, f1, _, _, rfl, h1, n1.h, T.clsC kv.2, T.mHolds kv.2, (ok_holds T kv.2).mono (hok.h kv hin), _, rfl, .ref p1, sv, s, rfl, hx.mono (toI S2), hs.mono S2, fun H3 S3 => ⟨_, rfl, ?_⟩⟩
    have hlab2 : labS s R = if hold s kv.2 = true then kv.1 else labS s (R.drop (i + 1)) := hlab
    cases eh : hold s kv.2 with
    | true =>
      rw [eh, if_pos rfl] at hlab2
      refine iteP rfl ⟨_, rfl, ?_⟩
      show Q (.str kv.1) H3
      rw [← hlab2]
      exact q H3 (S2.trans S3)
    | false =>
      rw [eh, if_neg Bool.false_ne_true] at hlab2
      exact iteN rfl ⟨_, _, rfl, S2.trans S3, hlab2⟩
  · rintro σ H2 ⟨v2, v3, rfl, S2, hlab⟩
    rw [hpr.length, List.drop_length] at hlab
    have q2 := q H2 S2
    rw [hlab] at q2
    exact q2
/-! look -/
def LabIn (R : Rules) (c : Cond) : Prop := ∀ l ∈ labOf c, l ∈ nms R
def spLook (K : PySem.W.Frag) : Sp := fun vs H Q _ => ∃ (lv cv : V) (R : Rules) (c : Cond), vs = [lv, cv] ∧ LabAt K H lv R ∧ CondAt K H cv c ∧ hl c ≤ 10 ∧ cnt c ≤ 50 ∧ LabIn R c ∧ ∀ H', Same H H' → Q .non H'
abbrev nLook : List PySem.Str := ["self", "condition", "label"]
theorem scLook : FnScope nLook ["self", "condition"] (defScope s_Labels_look) := ⟨rfl, rfl, rfl, by decide +kernel, rfl, by decide +kernel, by decide +kernel⟩
theorem nm_cond : ∀ c : Cond, condN.contains (nmC c) = true
  | .both _ _ => (by decide +kernel : condN.contains "Both" = true)
  | .either _ _ => (by decide +kernel : condN.contains "Either" = true)
  | .inverse _ => (by decide +kernel : condN.contains "Inverse" = true)
  | .kind _ => (by decide +kernel : condN.contains "Kind" = true)
  | .equals _ => (by decide +kernel : condN.contains "Equals" = true)
  | .size _ => (by decide +kernel : condN.contains "Size" = true)
  | .has _ => (by decide +kernel : condN.contains "Has" = true)
  | .item _ _ => (by decide +kernel : condN.contains "Item" = true)
  | .before _ _ => (by decide +kernel : condN.contains "Before" = true)
  | .first _ => (by decide +kernel : condN.contains "First" = true)
  | .every _ => (by decide +kernel : condN.contains "Every" = true)
  | .some_ _ => (by decide +kernel : condN.contains "Some" = true)
theorem ok_lab (T : Tx K mg) (c : Cond) : FnR P w K mg base CX0 (hl c + 1) (He.ma K (He.ga K (nmC c)) "label_list") (spLab K c) := by
  rw [inhLab T (nm_cond c)]
  exact ok_lab0 T c
theorem ok_look (T : Tx K mg) : FnR P w K mg base CX0 12 (He.ma K (He.ga K "Labels") "look") (spLook K) := by
  obtain ⟨fd, F⟩ := F_Labels_look T
  refine okR F scLook (fun _ _ _ _ _ _ us hl => match us, hl with | [_, _], _ => rfl) (fun vs H Q E h => ?_) fun cdv A outer s H vs Q E hr h => ?_
  · obtain ⟨lv, cv, R, c, rfl, _⟩ := h
    rfl
  obtain ⟨lv, cv, R, c, rfl, ⟨p, dx, nt, rr, rs, rfl, hp, hn, hrr, hpr, hok⟩, hc, h10, h50, hin, q⟩ := h
  have nd := scLook.nd
  refine ⟨_, pss_one (ps_for PassesOwn.never rfl (pi_list (pe_dyn0 (pv 1) hr)) (pg_name (i := 2) nd rfl (.inl rfl))
      (pss_one (ps_if (pt_cmpR op_notIn_seq (pv 2) (pe_fld (pv 0) (by rfl)) rfl) (pss_one ps_never) pss_nil))), ?_⟩
  obtain ⟨p1, d1, f1, rfl, h1, n1⟩ := hc.ins
  refine ⟨_, rfl, p1, _, d1, f1, _, _, rfl, h1, n1.b, T.clsC c, T.mList c, (ok_lab T c).mono (by omega), .ref p1, rfl, hc, h50, fun l ls H1 S1 hls l100 lin => ⟨l, rfl, ⟨_, SqL.of hls⟩, ?_⟩⟩
  refine for_list (K := K) (a := l) (xs := ls.map V.str) (fun i σ H2 => ∃ (v2 : Option V), σ = [some (.ref p), some (.ref p1), v2] ∧ H2 = H1) ⟨none, rfl, rfl⟩ (fun i σ H2 _ ⟨_, _, e⟩ => by rw [e]; exact SqL.of hls) ?_ ?_
  · rintro i v σ H2 hi ⟨v2, rfl, rfl⟩
    rw [List.getElem?_map] at hi
    obtain ⟨z, hz, rfl⟩ := Option.map_eq_some_iff.mp hi
    refine ⟨_, rfl, _, rfl, p, _, dx, _, .ref nt, rfl, S1 _ _ hp, T.cls "Labels", T.noat "Labels" "names", lk_hd, nt, _, rfl, .inr (.inl (.inl (S1 _ _ hn))), rfl, flat_strs _, _, rfl, ?_⟩
    have hz2 : inV (.str z) ((nms R).map V.str) = true := by
      rw [inV_str]
      exact decide_eq_true (hin z (lin z (List.mem_of_getElem? hz)))
    refine iteN ?_ ⟨_, rfl, rfl⟩
    show (!inV (.str z) ((nms R).map V.str)) = false
    rw [hz2]
    rfl
  · rintro σ H2 ⟨v2, rfl, rfl⟩
    exact q H2 S1
end
/-! ### Labels.seen, __call__, fits -/
section
variable {P : Program} {w : World} {K : PySem.W.Frag} {mg : PySem.Str → Option Value} {base : Heap}
/-- a list or a tuple -/
def iSeq (K : PySem.W.Frag) (tl : TE) : TI := fun σ H R => iList K tl σ H R ∨ iTup K tl σ H R
theorem pi_seq {X : Cx} {tg l : Expr} {tl : TE} (hl : PE X l tl) : PI X tg l (iSeq X.K tl) := by
  refine ⟨fun pins s σ H R I h => ?_⟩
  rcases h with h | h
  · exact (pi_list hl).run pins s σ H R I h
  · exact (pi_tup hl).run pins s σ H R I h
def tCallL (C : Addr) (sp : Sp) (tf : TE) (t : TA) : TE := fun σ H Q => tf σ H fun y H1 => ∃ a, y = V.ref a ∧ t σ H1 fun vs H2 => ((∃ dx vs, SlX.Slt H2 a C dx vs) ∨ ∃ dx fs, H2 a = some (.ins C dx fs)) ∧ sp (V.ref a :: vs) H2 Q E0
theorem pe_callL {X : Cx} {k : Nat} {C g : Addr} {sp : Sp} {fe e : Expr} {es : List Expr} {tf : TE} {t : TA} {pos : Pos} (hf : PE X fe tf) (c : StX.CallO X.K C g) (F : FnR X.prog X.w X.K X.mg X.base CX0 k g sp) (hr : Room k X.A) (ha : PA X (e :: es) t)
    (ht : eval (.Call fe (e :: es) [] pos) X.env = (do callWith pos (← eval fe X.env) [] (backTo pos (starEach (e :: es) X.env)) (backToKw pos (keywordEach [] X.env))) := by rfl)
    (he : starEach (e :: es) X.env = (false, eval e X.env) :: starEach es X.env := by rfl) (hpl : (backTo pos (starEach es X.env)).any (·.1) = false := by rfl) : PE X (.Call fe (e :: es) [] pos) (tCallL C sp tf t) := StX.pe_callO hf c F hr pass0 ha ht he hpl
def isRow2 (m : PV) : Bool := isL m || isT m
theorem kit_LT (T : Tx K mg) (m : PV) : PySem.W.kitAny K (tyOf K m) [.type "list", .type "tuple"] = some (isRow2 m) := by
  unfold PySem.W.kitAny
  rw [kit_L T m]
  unfold isRow2
  cases hL : isL m with
  | true => rfl
  | false =>
    show PySem.W.kitAny K (tyOf K m) [.type "tuple"] = some (false || isT m)
    unfold PySem.W.kitAny
    rw [kit_T T m]
    cases isT m <;> rfl
def spCallL (K : PySem.W.Frag) : Nat → Sp
  | 0 => fun _ _ _ _ => False
  | n + 1 => fun vs H Q _ => ∃ (lv v : V) (R : Rules) (m : PV), vs = [lv, v] ∧ LabAt K H lv R ∧ VAt (CTof K) n H v m ∧ ∀ H', Same H H' → Q (.str (lab R n m)) H'
def spSeen (K : PySem.W.Frag) (n : Nat) : Sp := fun vs H Q _ => ∃ (lv v : V) (R : Rules) (m : PV), vs = [lv, v] ∧ LabAt K H lv R ∧ VAt (CTof K) n H v m ∧ ∀ (sv : V) (H' : Hp), Same H H' → SeenAt K H' sv (snN R n m) → Q sv H'
theorem keys_paired {G : V → PV → Prop} : ∀ {ws : List (L2.Key × V)} {kvs : List (L2.Key × PV)}, Paired (fun (u : L2.Key × V) (kv : L2.Key × PV) => u.1 = kv.1 ∧ G u.2 kv.2) ws kvs → (ws.map fun kv => kV kv.1) = (kvs.map (·.1)).map kV
  | _, _, .nil => rfl
  | _, _, .cons r t => by
    rw [List.map_cons, List.map_cons, List.map_cons, keys_paired t, r.1]
theorem sn_atom {R : Rules} {v : V} {m : PV} (h : VAtom v m) : ∀ n, snN R n m = ⟨sortOf m, v, none, none⟩ := by
  have g : ∀ L : PV → PySem.Str, seenOf L m = ⟨sortOf m, v, none, none⟩ := fun L => by
    cases m with
    | non => cases (show v = .non from h); rfl
    | bl b => cases (show v = .bl b from h); cases b <;> rfl
    | int i => cases (show v = .int i from h); rfl
    | str z => cases (show v = .str z from h); rfl
    | _ => exact (show False from h).elim
  intro n
  cases n <;> exact g _
theorem ok_atomS {v : V} {m : PV} (h : VAtom v m) : SnOk ⟨sortOf m, v, none, none⟩ := by
  refine ⟨fun e => ?_, fun e => ?_, (fun ks e => by cases e), (fun ls e => by cases e)⟩
  · cases m with
    | str z => exact ⟨z, h⟩
    | bl b =>
      cases b with
      | true => exact absurd e (show ¬ ("true" : PySem.Str) = "text" by decide +kernel)
      | false => exact absurd e (show ¬ ("false" : PySem.Str) = "text" by decide +kernel)
    | non => exact absurd e (show ¬ ("null" : PySem.Str) = "text" by decide +kernel)
    | int i => exact absurd e (show ¬ ("integer" : PySem.Str) = "text" by decide +kernel)
    | _ => exact (show False from h).elim
  · cases m with
    | int z => exact ⟨z, h⟩
    | bl b =>
      cases b with
      | true => exact absurd e (show ¬ ("true" : PySem.Str) = "integer" by decide +kernel)
      | false => exact absurd e (show ¬ ("false" : PySem.Str) = "integer" by decide +kernel)
    | non => exact absurd e (show ¬ ("null" : PySem.Str) = "integer" by decide +kernel)
    | str i => exact absurd e (show ¬ ("text" : PySem.Str) = "integer" by decide +kernel)
    | _ => exact (show False from h).elim
abbrev nSeen : List PySem.Str := ["self", "value", "sort", "item"]
theorem scSeen : FnScope nSeen ["self", "value"] (defScope s_Labels_seen) := ⟨rfl, rfl, rfl, by decide +kernel, rfl, by decide +kernel, by decide +kernel⟩
theorem callO_L (T : Tx K mg) : StX.CallO K (He.ga K "Labels") (He.ma K (He.ga K "Labels") "__call__") := by
  obtain ⟨a, b⟩ := He.ba T.e7
  obtain ⟨b, c⟩ := He.ba b
  exact ⟨He.eqO_ok a, b, c⟩
theorem ok_seen (T : Tx K mg) (n : Nat) (hc : FnR P w K mg base CX0 (2 * n + 12) (He.ma K (He.ga K "Labels") "__call__") (spCallL K n)) : FnR P w K mg base CX0 (2 * n + 13) (He.ma K (He.ga K "Labels") "seen") (spSeen K n) := by
  obtain ⟨fd, F⟩ := F_Labels_seen T
  refine okR F scSeen (fun _ _ _ _ _ _ us hl => match us, hl with | [_, _], _ => rfl) (fun vs H Q E h => ?_) fun cdv A outer s H vs Q E hr h => ?_
  · obtain ⟨lv, v, R, m, rfl, _⟩ := h
    rfl
  obtain ⟨lv, v, R, m, rfl, hL, hv, q⟩ := h
  have nd := scSeen.nd
  have hr1 : Room 1 _ := hr.mono (by omega)
  have hr2 : Room (1 + 1) _ := hr.mono (by omega)
  have GK := cl_kind (P := P) (w := w) (base := base) T
  have GS : Mkr P w K mg base 1 "Seen" (spMkSeen K) := T.mkr "Seen" (ok_mkseen T)
  have ti := T.free "isinstance"
  have bl : bootBuiltins "list" = some (.type "list") := by decide +kernel
  have bt : bootBuiltins "tuple" = some (.type "tuple") := by decide +kernel
  refine ⟨_, pss_cons (ps_set (i := 2) nd rfl (.inl rfl) (pe_f GK hr1 (pa_cons (pv 1) pa_nil)))
    (pss_cons (ps_if (pt_val (pe_callB call_isi rfl ti boot_isinstance (pa_cons (pv 1) (pa_cons (pe_glob (v := .ref (CTof K)) (by rfl) (T.glo "Table") rfl) pa_nil))))
      (pss_one (ps_ret (pe_new GS hr2 (pa_cons (pv 2) (pa_cons pe_non (pa_cons (pe_callTy (call_list_dK rfl) rfl (T.free "list") bl (pa_cons (pe_fld (pv 1) (by rfl)) pa_nil)) (pa_cons (pe_lock (pe_lc (own := [("item", 3)]) (g := gName 3) (tt := tYes) (te := tCallL (He.ga K "Labels") (spCallL K n) (tVar 0) (tCons (tVar 3) tNil)) rfl nd (pi_values (pe_fld (pv 1) (by rfl)))
          (blkOk_by (own := [("item", 3)]) (N := nSeen) (sc := defScope s_Labels_seen) (by decide +kernel)) (fun _ _ _ _ _ => pg_name (i := 3) nd rfl (Or.inl rfl)) (fun _ _ _ _ _ => pts_nil) (fun _ _ _ _ _ => pe_callL (pv 0) (callO_L T) hc hr (pa_cons (pv 3) pa_nil)))) pa_nil))))))) pss_nil)
    (pss_cons (ps_if (pt_val (pe_callB call_isiT rfl ti boot_isinstance (pa_cons (pv 1) (pa_cons (pe_tup (pa_cons (pe_bltn (v := .ty "list") (by rfl) (T.free "list") bl rfl) (pa_cons (pe_bltn (v := .ty "tuple") (by rfl) (T.free "tuple") bt rfl) pa_nil))) pa_nil))))
      (pss_one (ps_ret (pe_new GS hr2 (pa_cons (pv 2) (pa_cons pe_non (pa_cons pe_non (pa_cons (pe_lc (own := [("item", 3)]) (g := gName 3) (tt := tYes) (te := tCallL (He.ga K "Labels") (spCallL K n) (tVar 0) (tCons (tVar 3) tNil)) rfl nd (pi_seq (pv 1))
          (blkOk_by (own := [("item", 3)]) (N := nSeen) (sc := defScope s_Labels_seen) (by decide +kernel)) (fun _ _ _ _ _ => pg_name (i := 3) nd rfl (Or.inl rfl)) (fun _ _ _ _ _ => pts_nil) (fun _ _ _ _ _ => pe_callL (pv 0) (callO_L T) hc hr (pa_cons (pv 3) pa_nil))) pa_nil))))))) pss_nil)
    (pss_one (ps_ret (pe_new GS hr2 (pa_cons (pv 2) (pa_cons (pv 1) (pa_cons pe_non (pa_cons pe_non pa_nil))))))))), ?_⟩
  -- Seen(..)
  have mk : ∀ (H4 : Hp), Same H H4 → ∀ (a kr lr : V) (s : Sn), snN R n m = s → s.sort = sortOf m → s.atom = a → OptL K H4 kr (s.keys.map (List.map kV)) → OptL K H4 lr (s.labs.map (List.map V.str)) → SnOk s → ∀ x dx : Addr, H4 x = none → H4 dx = none → dx ≠ x →
      spMkSeen K [.ref x, .str (sortOf m), a, kr, lr] (upd (upd H4 dx (.own x)) x (.ins (He.ga K "Seen") dx [])) (fun r H' => r = .non ∧ Q (.ref x) H') E0 := by
    intro H4 S4 a kr lr s es e1 e2 hk hl ok x dx hx hdx nx
    refine ⟨x, dx, _, _, _, _, rfl, upd_same, rfl, ?_⟩
    rw [upd_upd]
    have S5 : Same H4 (upd (upd H4 dx (.own x)) x (.ins (He.ga K "Seen") dx [("shape", .str (sortOf m)), ("atom", a), ("key_rows", kr), ("labels", lr)])) := (same_new hdx _).trans (same_new ((upd_ne nx.symm).trans hx) _)
    refine q _ _ (S4.trans S5) ?_
    rw [es]
    refine ⟨⟨x, dx, kr, lr, rfl, ?_, hk.mono S5, hl.mono S5⟩, ok⟩
    rw [upd_same, e1, e2]
  have turn : ∀ (k : Nat), n = k + 1 → ∀ (x : V) (m' : PV) (s2 : V) (HL : Hp), LabAt K HL lv R → VAt (CTof K) k HL x m' → ∀ (D' : Addr) (H6 : Hp) (acc acc2 : List PySem.Str), acc2 = acc ++ [lab R k m'] → HL D' = none → Same HL H6 → H6 D' = some (.lst (acc.map V.str)) → acc.length ≤ 100 →
      tCallL (He.ga K "Labels") (spCallL K n) (tVar 0) (tCons (tVar 3) tNil) [some lv, some v, some s2, some x] H6 fun y H4 => ∃ acc', H4 D' = some (.lst acc') ∧ acc'.length < sizeLine ∧ Same HL (upd H4 D' (.lst (acc' ++ [y]))) ∧ (upd H4 D' (.lst (acc' ++ [y]))) D' = some (.lst (acc2.map V.str)) := by
    rintro k rfl x m' s2 HL hLL hx D' H6 acc acc2 rfl hD S6 hacc hlen
    obtain ⟨p, dx, nt, rr, rs, rfl, hp, _⟩ := id hLL
    refine ⟨_, rfl, p, rfl, _, rfl, .inr ⟨dx, _, S6 _ _ hp⟩, .ref p, x, R, m', rfl, hLL.mono (toX S6), hx.mono S6, fun H7 S7 => ⟨acc.map V.str, S7 _ _ hacc, ?_, same_set (S6.trans S7) hD, ?_⟩⟩
    · rw [List.length_map, sizeLine_eq]
      omega
    · rw [List.map_append]
      exact upd_same
  refine ⟨_, rfl, v, n, m, rfl, hv, fun H1 S1 => ?_⟩
  have hv1 := hv.mono S1
  have hL1 := hL.mono (toX S1)
  refine ⟨_, rfl, v, .ref (CTof K), _, _, isTab m, rfl, .own _, ty_V T hv1, kit_Tab T m, _, rfl, ?_⟩
  -- an atom
  have hat : VAtom v m → ∀ H4, Same H H4 → ∀ x dx : Addr, H4 x = none → H4 dx = none → dx ≠ x → spMkSeen K [.ref x, .str (sortOf m), v, .non, .non] (upd (upd H4 dx (.own x)) x (.ins (He.ga K "Seen") dx [])) (fun r H' => r = .non ∧ Q (.ref x) H') E0 := fun h H4 S4 x dx hx hdx nx =>
    mk H4 S4 v .non .non _ (sn_atom h n) rfl rfl rfl rfl (ok_atomS h) x dx hx hdx nx
  have S1t : ∀ {t : Addr} (ht : H1 t = none), Same H (upd H1 t (.tup [.ty "list", .ty "tuple"])) := fun ht => S1.trans (same_new ht _)
  have pt2 : Paired ClsV [V.ty "list", V.ty "tuple"] [.type "list", .type "tuple"] := .cons (.ty "list") (.cons (.ty "tuple") .nil)
  cases m with
  | non =>
    have hA : VAtom v .non := by cases n <;> exact hv
    exact iteN rfl ⟨_, rfl, by show 2 ≤ sizeLine; decide, fun t ht => ⟨v, t, _, _, _, _, rfl, upd_same, pt2, ty_V T (hv.mono (S1t ht)), kit_LT T _, _, rfl, iteN rfl ⟨_, rfl, _, rfl, hat hA _ (S1t ht)⟩⟩⟩
  | bl b =>
    have hA : VAtom v (.bl b) := by cases n <;> exact hv
    exact iteN rfl ⟨_, rfl, by show 2 ≤ sizeLine; decide, fun t ht => ⟨v, t, _, _, _, _, rfl, upd_same, pt2, ty_V T (hv.mono (S1t ht)), kit_LT T _, _, rfl, iteN rfl ⟨_, rfl, _, rfl, hat hA _ (S1t ht)⟩⟩⟩
  | int i =>
    have hA : VAtom v (.int i) := by cases n <;> exact hv
    exact iteN rfl ⟨_, rfl, by show 2 ≤ sizeLine; decide, fun t ht => ⟨v, t, _, _, _, _, rfl, upd_same, pt2, ty_V T (hv.mono (S1t ht)), kit_LT T _, _, rfl, iteN rfl ⟨_, rfl, _, rfl, hat hA _ (S1t ht)⟩⟩⟩
  | str z =>
    have hA : VAtom v (.str z) := by cases n <;> exact hv
    exact iteN rfl ⟨_, rfl, by show 2 ≤ sizeLine; decide, fun t ht => ⟨v, t, _, _, _, _, rfl, upd_same, pt2, ty_V T (hv.mono (S1t ht)), kit_LT T _, _, rfl, iteN rfl ⟨_, rfl, _, rfl, hat hA _ (S1t ht)⟩⟩⟩
  | lst ms =>
    cases n with
    | zero => exact (show False from hv).elim
    | succ k =>
      obtain ⟨p, xs, rfl, hp, hlen, pr⟩ := (show VLst _ H v ms from hv)
      refine iteN rfl ⟨_, rfl, by show 2 ≤ sizeLine; decide, fun t ht => ⟨_, t, _, _, _, _, rfl, upd_same, pt2, ty_V T (hv.mono (S1t ht)), kit_LT T _, _, rfl, iteP rfl ?_⟩⟩
      have St := S1t ht
      generalize upd H1 t (.tup [.ty "list", .ty "tuple"]) = HL at St ⊢
      refine ⟨_, rfl, .inl ⟨_, rfl, p, rfl, ⟨_, SqL.of (St _ _ hp)⟩, fun D' hD => ?_⟩⟩
      refine lc_list (K := K) (a := p) (xs := xs) (fun i H6 => Same HL H6 ∧ H6 D' = some (.lst (((ms.take i).map (lab R k)).map V.str))) ⟨same_new hD _, upd_same⟩ (fun i H6 _ ⟨S6, _⟩ => SqL.of (S6 _ _ (St _ _ hp))) ?_ ?_
      · rintro i x H6 hx ⟨S6, hacc⟩
        obtain ⟨m', hm', hxm⟩ := paired_get pr hx
        refine ⟨rfl, ?_⟩
        refine turn k rfl x m' (.str (sortOf (.lst ms))) HL (hL.mono (toX St)) (hxm.mono St) D' H6 _ _ (take_map_succ hm') hD S6 hacc ?_
        have l3 := pr.length
        rw [List.length_map, List.length_take]
        omega
      · rintro H6 ⟨S6, hacc⟩ x dx hx hdx nx
        rw [pr.length, List.take_length] at hacc
        refine mk H6 (St.trans S6) .non .non (.ref D') ⟨"list", .non, none, some (ms.map (lab R k))⟩ rfl rfl rfl rfl ⟨D', rfl, SqL.of hacc⟩ ⟨fun e => absurd e (show ¬ ("list" : PySem.Str) = "text" by decide +kernel), fun e => absurd e (show ¬ ("list" : PySem.Str) = "integer" by decide +kernel), (fun ks e => by cases e), fun ls e => ?_⟩ x dx hx hdx nx
        cases e
        rw [List.length_map, ← pr.length]
        exact hlen
  | tup ms =>
    cases n with
    | zero => exact (show False from hv).elim
    | succ k =>
      obtain ⟨p, xs, rfl, hp, hlen, pr⟩ := (show VTup _ H v ms from hv)
      refine iteN rfl ⟨_, rfl, by show 2 ≤ sizeLine; decide, fun t ht => ⟨_, t, _, _, _, _, rfl, upd_same, pt2, ty_V T (hv.mono (S1t ht)), kit_LT T _, _, rfl, iteP rfl ?_⟩⟩
      have St := S1t ht
      generalize upd H1 t (.tup [.ty "list", .ty "tuple"]) = HL at St ⊢
      refine ⟨_, rfl, .inr ⟨_, rfl, p, rfl, ⟨_, SqT.of (St _ _ hp)⟩, fun D' hD => ?_⟩⟩
      refine lc_tup (K := K) (a := p) (xs := xs) (fun i H6 => Same HL H6 ∧ H6 D' = some (.lst (((ms.take i).map (lab R k)).map V.str))) ⟨same_new hD _, upd_same⟩ (fun i H6 _ ⟨S6, _⟩ => SqT.of (S6 _ _ (St _ _ hp))) ?_ ?_
      · rintro i x H6 hx ⟨S6, hacc⟩
        obtain ⟨m', hm', hxm⟩ := paired_get pr hx
        refine ⟨rfl, ?_⟩
        refine turn k rfl x m' (.str (sortOf (.tup ms))) HL (hL.mono (toX St)) (hxm.mono St) D' H6 _ _ (take_map_succ hm') hD S6 hacc ?_
        have l3 := pr.length
        rw [List.length_map, List.length_take]
        omega
      · rintro H6 ⟨S6, hacc⟩ x dx hx hdx nx
        rw [pr.length, List.take_length] at hacc
        refine mk H6 (St.trans S6) .non .non (.ref D') ⟨"tuple", .non, none, some (ms.map (lab R k))⟩ rfl rfl rfl rfl ⟨D', rfl, SqL.of hacc⟩ ⟨fun e => absurd e (show ¬ ("tuple" : PySem.Str) = "text" by decide +kernel), fun e => absurd e (show ¬ ("tuple" : PySem.Str) = "integer" by decide +kernel), (fun ks e => by cases e), fun ls e => ?_⟩ x dx hx hdx nx
        cases e
        rw [List.length_map, ← pr.length]
        exact hlen
  | tab kvs =>
    cases n with
    | zero => exact (show False from hv).elim
    | succ k =>
      obtain ⟨p, dx0, h, ws, rfl, hp, hh, hlen, pr⟩ := (show VTab _ _ H v kvs from hv)
      have c := T.cls "Table"
      have na := T.noat "Table" "held"
      refine iteP rfl ⟨_, rfl, _, rfl, p, _, dx0, _, .ref h, rfl, S1 _ _ hp, c, na, lk_hd, h, ws, rfl, S1 _ _ hh, fun lk hlk => ?_⟩
      have S2 : Same H1 (upd H1 lk (.lst (ws.map fun kv => kV kv.1))) := same_new hlk _
      have hlk2 : (upd H1 lk (.lst (ws.map fun kv => kV kv.1))) lk = some (.lst (ws.map fun kv => kV kv.1)) := upd_same
      have nlk : lk ≠ h := fun e => by
        rw [e, S1 _ _ hh] at hlk
        cases hlk
      have S12 := S1.trans S2
      generalize upd H1 lk (.lst (ws.map fun kv => kV kv.1)) = H2 at S2 hlk2 S12 ⊢
      have hh2 := S12 _ _ hh
      refine ⟨h, .dK ws, hh2, trivial, fun od => ?_⟩
      have phn : p ≠ h := fun e => by
        rw [e, hh] at hp
        cases hp
      have SX : SameX H2 (upd H2 h (.frz od (.dK ws))) := fun b o n e => by
        by_cases q : b = h
        · rw [q, hh2] at e
          cases e
          exact absurd rfl (n ws)
        · rw [upd_ne q]
          exact e
      have SW : Same (Wo h H2) (upd H2 h (.frz od (.dK ws))) := fun b o e => by
        by_cases q : b = h
        · rw [q, wo_eq] at e
          cases e
        · rw [wo_ne q] at e
          rw [upd_ne q]
          exact e
      have hF : (upd H2 h (.frz od (.dK ws))) h = some (.frz od (.dK ws)) := upd_same
      have hpF : (upd H2 h (.frz od (.dK ws))) p = some (.ins (CTof K) dx0 [("held", .ref h)]) := (upd_ne phn).trans (S12 _ _ hp)
      have back : ∀ H6, Same (upd H2 h (.frz od (.dK ws))) H6 → Same H2 (upd H6 h (.dK ws)) := fun H6 S6 b o e => by
        by_cases q : b = h
        · rw [q, upd_same, ← hh2, ← q]
          exact e
        · rw [upd_ne q]
          exact S6 _ _ ((upd_ne q).trans e)
      generalize upd H2 h (.frz od (.dK ws)) = HF at SX SW hF hpF back ⊢
      refine ⟨_, rfl, p, _, dx0, _, .ref h, rfl, hpF, c, na, lk_hd, h, od, ws, rfl, hF, fun D' hD => ?_⟩
      refine lc_it (walk_values (d := h) (o := od) (kvs := ws)) (fun i H6 => Same HF H6 ∧ H6 D' = some (.lst (((kvs.take i).map fun p => lab R k p.2).map V.str))) ⟨same_new hD _, upd_same⟩ (fun i H6 _ ⟨S6, _⟩ => S6 _ _ hF) ?_ ?_
      · rintro i x H6 H6' hi ⟨S6, hacc⟩ ⟨rfl, key, hk⟩
        obtain ⟨kv, hkv, e1, hx⟩ := paired_get pr hk
        refine ⟨rfl, ?_⟩
        refine turn k rfl x kv.2 (.str (sortOf (.tab kvs))) HF (hL.mono ((toX S12).trans SX)) (hx.mono ((wo_same S12).trans SW)) D' H6' _ _ (take_map_succ hkv) hD S6 hacc ?_
        have l3 := pr.length
        have l4 := List.length_take_le i kvs
        rw [List.length_map]
        omega
      · rintro H6 ⟨S6, hacc⟩
        rw [pr.length, List.take_length] at hacc
        refine ⟨S6 _ _ hF, fun x dx hx hdx nx => ?_⟩
        have SB := back H6 S6
        have nD : D' ≠ h := fun e => by
          rw [e, hF] at hD
          cases hD
        refine mk (upd H6 h (.dK ws)) (S12.trans SB) .non (.ref lk) (.ref D') ⟨"table", .non, some (kvs.map (·.1)), some (kvs.map fun p => lab R k p.2)⟩ rfl rfl rfl ⟨lk, rfl, ?_⟩ ⟨D', rfl, SqL.of ((upd_ne nD).trans hacc)⟩
          ⟨fun e => absurd e (show ¬ ("table" : PySem.Str) = "text" by decide +kernel), fun e => absurd e (show ¬ ("table" : PySem.Str) = "integer" by decide +kernel), (fun ks e => ?_), fun ls e => ?_⟩ x dx hx hdx nx
        · rw [← keys_paired pr]
          exact SqL.of (SB _ _ hlk2)
        · cases e
          exact ⟨_, rfl, by rw [List.length_map, List.length_map]⟩
        · cases e
          rw [List.length_map, ← pr.length]
          exact hlen
end
section
variable {P : Program} {w : World} {K : PySem.W.Frag} {mg : PySem.Str → Option Value} {base : Heap}
structure NoL (fs : List (PySem.Str × V)) : Prop where
  lo : fs.lookup ("label_of" : PySem.Str) = none
  se : fs.lookup ("seen" : PySem.Str) = none
  fi : fs.lookup ("fits" : PySem.Str) = none
  lk : fs.lookup ("look" : PySem.Str) = none
theorem LabAt.ins {H : Hp} {v : V} {R : Rules} (h : LabAt K H v R) : ∃ p dx fs, v = .ref p ∧ H p = some (.ins (He.ga K "Labels") dx fs) ∧ NoL fs := by
  obtain ⟨p, dx, nt, rr, rs, e, h1, _⟩ := h
  refine ⟨p, dx, _, e, h1, ?_, ?_, ?_, ?_⟩ <;> rw [lk_tl (by decide), lk_tl (by decide), lk_nil]
theorem ok_call (T : Tx K mg) : ∀ n, FnR P w K mg base CX0 (2 * n + 12) (He.ma K (He.ga K "Labels") "__call__") (spCallL K n)
  | 0 => fnR_false
  | n + 1 => by
    obtain ⟨fd, F⟩ := F_Labels_call T
    have S : FnScope ["self", "value"] ["self", "value"] (defScope s_Labels_call) := ⟨rfl, rfl, rfl, by decide +kernel, rfl, by decide +kernel, by decide +kernel⟩
    have hc := ok_seen T n (ok_call T n)
    refine okR F S (k := 2 * n + 13) (fun _ _ _ _ _ _ us hl => match us, hl with | [_, _], _ => rfl) (fun vs H Q E h => ?_) fun cdv A outer s H vs Q E hr h => ?_
    · obtain ⟨lv, v, R, m, rfl, _⟩ := h
      rfl
    obtain ⟨lv, v, R, m, rfl, hL, hv, q⟩ := h
    refine ⟨_, pss_one (ps_ret (pe_dyn (pv 0) hr (pa_cons (pe_dyn (pv 0) hr (pa_cons (pv 1) pa_nil)) pa_nil))), ?_⟩
    obtain ⟨p, dx, fs, rfl, hp, nl⟩ := hL.ins
    refine ⟨_, rfl, p, _, dx, fs, _, _, rfl, hp, nl.lo, T.cls "Labels", T.meth "Labels" "label_of", (ok_lof T).mono (by omega), _, rfl, p, _, dx, fs, _, _, rfl, hp, nl.se, T.cls "Labels", T.meth "Labels" "seen", hc, _, rfl, .ref p, v, R, m, rfl, hL, hv, fun sv H1 S1 hs => ?_⟩
    refine ⟨.ref p, sv, R, snN R n m, rfl, hL.mono (toX S1), hs, fun H2 S2 => ?_⟩
    rw [← lab_snN]
    exact q H2 (S1.trans S2)
def spFits (K : PySem.W.Frag) (n : Nat) : Sp := fun vs H Q _ => ∃ (lv v cv : V) (R : Rules) (m : PV) (c : Cond), vs = [lv, v, cv] ∧ LabAt K H lv R ∧ VAt (CTof K) n H v m ∧ CondAt K H cv c ∧ hl c ≤ 10 ∧ cnt c ≤ 50 ∧ LabIn R c ∧ ∀ H', Same H H' → Q (.bl (hold (snN R n m) c)) H'
theorem ok_fits (T : Tx K mg) (n : Nat) : FnR P w K mg base CX0 (2 * n + 14) (He.ma K (He.ga K "Labels") "fits") (spFits K n) := by
  obtain ⟨fd, F⟩ := F_Labels_fits T
  have S : FnScope ["self", "value", "condition"] ["self", "value", "condition"] (defScope s_Labels_fits) := ⟨rfl, rfl, rfl, by decide +kernel, rfl, by decide +kernel, by decide +kernel⟩
  have hc := ok_seen (P := P) (w := w) (base := base) T n (ok_call T n)
  refine okR F S (k := 2 * n + 13) (fun _ _ _ _ _ _ us hl => match us, hl with | [_, _, _], _ => rfl) (fun vs H Q E h => ?_) fun cdv A outer s H vs Q E hr h => ?_
  · obtain ⟨lv, v, cv, R, m, c, rfl, _⟩ := h
    rfl
  obtain ⟨lv, v, cv, R, m, c, rfl, hL, hv, hcv, h10, h50, hin, q⟩ := h
  refine ⟨_, pss_cons (ps_expr (pe_dyn (pv 0) hr (pa_cons (pv 2) pa_nil))) (pss_one (ps_ret (pe_dyn (pv 2) hr (pa_cons (pe_dyn (pv 0) hr (pa_cons (pv 1) pa_nil)) pa_nil)))), ?_⟩
  obtain ⟨p, dx, fs, rfl, hp, nl⟩ := hL.ins
  refine ⟨_, rfl, p, _, dx, fs, _, _, rfl, hp, nl.lk, T.cls "Labels", T.meth "Labels" "look", (ok_look T).mono (by omega), _, rfl, .ref p, cv, R, c, rfl, hL, hcv, h10, h50, hin, fun H1 S1 => ?_⟩
  have hcv1 := hcv.mono (toI S1)
  obtain ⟨p1, d1, f1, rfl, h1, n1⟩ := hcv1.ins
  refine ⟨_, rfl, p1, _, d1, f1, _, _, rfl, h1, n1.h, T.clsC c, T.mHolds c, (ok_holds T c).mono (by omega), _, rfl, p, _, dx, fs, _, _, rfl, S1 _ _ hp, nl.se, T.cls "Labels", T.meth "Labels" "seen", hc, _, rfl, .ref p, v, R, m, rfl, hL.mono (toX S1), hv.mono S1, fun sv H2 S2 hs => ?_⟩
  exact ⟨.ref p1, sv, snN R n m, rfl, hcv1.mono (toI S2), hs, fun H3 S3 => q H3 ((S1.trans S2).trans S3)⟩
/-! is_word -/
def spIsWord : Sp := fun vs H Q _ => ∃ z : PySem.Str, vs = [.str z] ∧ WordOk z ∧ ∀ H', Same H H' → Q (.bl true) H'
abbrev nIsWord : List PySem.Str := ["text", "sign"]
theorem scIsWord : FnScope nIsWord ["text"] (defScope s_is_word) := ⟨rfl, rfl, rfl, by decide +kernel, rfl, by decide +kernel, by decide +kernel⟩
theorem all_true : ∀ n : Nat, (List.replicate n true).all id = true
  | 0 => rfl
  | n + 1 => by rw [List.replicate_succ, List.all_cons, all_true n]; rfl
theorem ok_is_word (T : Tx K mg) : FnR P w K mg base CX0 1 (He.ga K "is_word") spIsWord := by
  obtain ⟨fd, F⟩ := F_is_word T
  refine okR F scIsWord (fun _ _ _ _ _ _ us hl => match us, hl with | [_], _ => rfl) (fun vs H Q E h => ?_) fun cdv A outer s H vs Q E hr h => ?_
  · obtain ⟨z, rfl, _⟩ := h
    rfl
  obtain ⟨z, rfl, hz, q⟩ := h
  have nd := scIsWord.nd
  obtain ⟨tl, hL⟩ := T.ltr
  refine ⟨_, pss_cons (ps_if (PW.pt (pw_or (pt_cmpR op_lt (pe_callB call_len rfl (T.free "len") boot_len (pa_cons (pv 0) pa_nil)) pe_int (nomark _)) (pw_or1 (pt_cmpR op_gt (pe_callB call_len rfl (T.free "len") boot_len (pa_cons (pv 0) pa_nil)) pe_int (nomark _))))) (pss_one (ps_ret pe_bl)) pss_nil)
    (pss_one (ps_ret (pe_callB (cr_all rfl) rfl (T.free "all") boot_all (pa_cons (pe_lc (own := [("sign", 1)]) (g := gName 1) (tt := tYes) (te := tOp (fun x y H Q => ∃ (c : Nat) (z : PySem.Str), x = .str ⟨#[c]⟩ ∧ y = .str z ∧ Q (.bl (decide (c ∈ z.cps.toList))) H) (tVar 1) (tC (.str alph))) rfl nd (pi_str (pv 0))
      (blkOk_by (own := [("sign", 1)]) (N := nIsWord) (sc := defScope s_is_word) (by decide +kernel)) (fun _ _ _ _ _ => pg_name (i := 1) nd rfl (Or.inl rfl)) (fun _ _ _ _ _ => pts_nil) (fun _ _ _ _ _ => pe_cmpR op_in_sign (pv 1) (pe_glob (v := .str alph) (by rfl) hL ⟨_, rfl⟩) rfl)) pa_nil)))), ?_⟩
  have l1 := hz.lo
  have l8 := hz.hi
  have hs : z.length ≤ sizeLine := by
    rw [sizeLine_eq]
    omega
  refine ⟨_, rfl, .str z, z.length, rfl, ⟨hs, rfl⟩, _, _, rfl, rfl, _, rfl, iteN (decide_eq_false (by omega)) ⟨_, rfl, .str z, z.length, rfl, ⟨hs, rfl⟩, _, _, rfl, rfl, _, rfl, iteN (decide_eq_false (by omega)) ?_⟩⟩
  refine ⟨_, rfl, z, rfl, fun D' hD => ?_⟩
  refine lc_it (walk_str (z := z)) (fun i H6 => Same H H6 ∧ H6 D' = some (.lst ((List.replicate i true).map V.bl))) ⟨same_new hD _, upd_same⟩ (fun i H6 _ _ => trivial) ?_ ?_
  · rintro i x H6 H6' hi ⟨S6, hacc⟩ ⟨rfl, c, hc, rfl⟩
    have hin : c ∈ alph.cps.toList := hz.let_ c (by
      rw [Array.mem_toList_iff]
      exact Array.mem_of_getElem? hc)
    refine ⟨rfl, _, rfl, c, alph, rfl, rfl, _, hacc, ?_, same_set S6 hD, ?_⟩
    · rw [List.length_map, List.length_replicate, sizeLine_eq]
      have : i < z.length := hi
      omega
    · rw [List.replicate_succ', List.map_append, decide_eq_true hin]
      exact upd_same
  · rintro H6 ⟨S6, hacc⟩
    refine ⟨D', _, rfl, SqL.of hacc, ?_⟩
    rw [all_true]
    exact q H6 S6
theorem cl_is_word (T : Tx K mg) : Cl P w K mg base 1 "is_word" spIsWord := ⟨T.glo _, (let ⟨_, F⟩ := F_is_word T; F.kp), ok_is_word T⟩
end
/-! ### Labels(..) -/
section
variable {P : Program} {w : World} {K : PySem.W.Frag} {mg : PySem.Str → Option Value} {base : Heap}
theorem nodup_take {α : Type} {xs : List α} {i : Nat} {x : α} (h : xs.Nodup) (hx : xs[i]? = some x) : x ∉ xs.take i := by
  intro z
  obtain ⟨j, hj, ej⟩ := List.mem_iff_getElem.mp z
  rw [List.length_take] at hj
  obtain ⟨hi, ei⟩ := List.getElem?_eq_some_iff.mp hx
  rw [List.getElem_take] at ej
  exact (List.pairwise_iff_getElem.mp h) j i (by omega) hi (by omega) (ej.trans ei.symm)
def spMkLab (K : PySem.W.Frag) : Sp := fun vs H Q _ => ∃ (p dx l : Addr) (rs : List V) (R : Rules), vs = [.ref p, .ref l] ∧ H p = some (.ins (He.ga K "Labels") dx []) ∧ SqL K (Wo p H) l rs ∧ Paired (RowAt K (Wo p H)) rs R ∧ ROk R ∧ (R.map (·.1)).Nodup ∧ (∀ q ∈ R, WordOk q.1 ∧ LabIn R q.2) ∧
  ∀ H' : Hp, Sm p H H' → LabAt K H' (.ref p) R → Q .non H'
abbrev nMkLab : List PySem.Str := ["self", "rules", "names", "name", "condition", "label"]
theorem scMkLab : FnScope nMkLab ["self", "rules"] (defScope s_Labels_init) := ⟨rfl, rfl, rfl, by decide +kernel, rfl, by decide +kernel, by decide +kernel⟩
theorem ok_mklab (T : Tx K mg) : FnR P w K mg base CX0 12 (He.ma K (He.ga K "Labels") "__init__") (spMkLab K) := by
  obtain ⟨fd, F⟩ := F_Labels_init T
  refine okR F scMkLab (fun _ _ _ _ _ _ us hl => match us, hl with | [_, _], _ => rfl) (fun vs H Q E h => ?_) fun cdv A outer s H vs Q E hr h => ?_
  · obtain ⟨p, dx, l, rs, R, rfl, _⟩ := h
    rfl
  obtain ⟨p, dx, l, rs, R, rfl, hp, hl, pr, ok, hn, hR, q⟩ := h
  have nd := scMkLab.nd
  have hr1 : Room 1 _ := hr.mono (by decide)
  have GI := cl_is_word (P := P) (w := w) (base := base) T
  have tl := T.free "len"
  have bt : bootBuiltins "tuple" = some (.type "tuple") := by decide +kernel
  obtain ⟨to, ho⟩ := T.oth
  obtain ⟨tr, hrf⟩ := T.rfd
  obtain ⟨tm, hmr⟩ := T.mr
  refine ⟨_, pss_cons (ps_set (i := 2) nd rfl (.inl rfl) (pe_lst pa_nil))
    (pss_cons (ps_for PassesOwn.never rfl (pi_list (pv 1)) (pg_tup (by rfl) (pgs_cons (pg_name (i := 3) nd rfl (.inl rfl)) (pgs_cons (pg_name (i := 4) nd rfl (.inl rfl)) pgs_nil)))
      (pss_cons (ps_if (PW.pt (pw_or (pt_not (pt_val (pe_f GI hr1 (pa_cons (pv 3) pa_nil)))) (pw_or (pt_cmpR op_in_seq (pv 3) (pe_tup (pa_cons (pe_glob (v := .str "other") (by rfl) ho ⟨_, rfl⟩) (pa_cons (pe_glob (v := .str "refused") (by rfl) hrf ⟨_, rfl⟩) pa_nil))) rfl) (pw_or1 (pt_cmpR op_in_seq (pv 3) (pv 2) rfl))))) (pss_one ps_never) pss_nil)
      (pss_one (ps_expr (pe_bm PySem.F.plainAttrs_list PySem.F.slot_list_append PySem.F.type_list_append mt_append (pv 2) (pa_cons (pv 3) pa_nil))))))
    (pss_cons (ps_for PassesOwn.never rfl (pi_list (pv 1)) (pg_tup (by rfl) (pgs_cons (pg_name (i := 3) nd rfl (.inl rfl)) (pgs_cons (pg_name (i := 4) nd rfl (.inl rfl)) pgs_nil)))
      (pss_one (ps_for PassesOwn.never rfl (pi_list (pe_dyn0 (pv 4) hr)) (pg_name (i := 5) nd rfl (.inl rfl))
        (pss_one (ps_if (PW.pt (pw_and (pt_cmpR op_ne (pv 5) (pe_glob (v := .str "other") (by rfl) ho ⟨_, rfl⟩) (nomark _)) (pw_and1 (pt_cmpR op_notIn_seq (pv 5) (pv 2) rfl)))) (pss_one ps_never) pss_nil)))))
    (pss_cons (ps_if (pt_cmpR op_gt (pe_callB call_len_seq rfl tl boot_len (pa_cons (pv 2) pa_nil)) (pe_glob (v := .int 3) (by rfl) hmr ⟨_, rfl⟩) (nomark _)) (pss_one ps_never) pss_nil)
    (pss_cons (ps_fld (pv 0) (pe_callTy call_tuple_of rfl (T.free "tuple") bt (pa_cons (pe_op op_cat (pv 2) (pe_lst (pa_cons (pe_glob (v := .str "other") (by rfl) ho ⟨_, rfl⟩) pa_nil))) pa_nil)) rfl)
    (pss_one (ps_fld (pv 0) (pe_lc (own := [("name", 3), ("condition", 4)]) (g := gTup K 2 (gCons (gName 3) (gCons (gName 4) gNil))) (tt := tYes) (te := tTup (tCons (tVar 3) (tCons (tVar 4) tNil))) rfl nd (pi_list (pv 1))
      (blkOk_by (own := [("name", 3), ("condition", 4)]) (N := nMkLab) (sc := defScope s_Labels_init) (by decide +kernel)) (fun _ _ _ _ _ => pg_tup (by rfl) (pgs_cons (pg_name (i := 3) nd rfl (.inl rfl)) (pgs_cons (pg_name (i := 4) nd rfl (.inl rfl)) pgs_nil))) (fun _ _ _ _ _ => pts_nil)
      (fun _ _ _ _ _ => pe_tup (pa_cons (pv 3) (pa_cons (pv 4) pa_nil)))) rfl)))))), ?_⟩
  have len3 : rs.length ≤ 3 := by
    rw [pr.length]
    exact ok.len
  refine ⟨Nat.zero_le _, fun n hn0 => ?_⟩
  have np : n ≠ p := fun e => by
    rw [e, hp] at hn0
    cases hn0
  have hlH : SqL K H l rs := seq_mono wo_sub hl
  -- the first walk
  refine ⟨_, rfl, l, rfl, ⟨_, seq_mono (same_new hn0 _) hlH⟩, for_list (K := K) (a := l) (xs := rs) (fun i σ H2 => ∃ (v3 v4 : Option V), σ = [some (.ref p), some (.ref l), some (.ref n), v3, v4, none] ∧ H2 n = some (.lst (((R.take i).map (·.1)).map V.str)) ∧ Same H H2)
    ⟨none, none, rfl, upd_same, same_new hn0 _⟩ (fun i σ H2 _ ⟨_, _, _, _, S2⟩ => seq_mono S2 hlH) ?_ ?_⟩
  · rintro i r σ H2 hi ⟨v3, v4, rfl, hnm, S2⟩
    obtain ⟨kv, hkv, a, x, rfl, ha, hx⟩ := paired_get pr hi
    have hin := List.mem_of_getElem? hkv
    have il : i < R.length := (List.getElem?_eq_some_iff.mp hkv).1
    have l3 := ok.len
    have w := (hR kv hin).1
    refine ⟨a, _, rfl, .inl (.inl (S2 _ _ (wo_sub _ _ ha))), rfl, _, _, rfl, _, _, rfl, rfl, ?_⟩
    refine ⟨_, rfl, kv.1, rfl, w, fun H3 S3 => ⟨_, rfl, iteN rfl ?_⟩⟩
    refine ⟨_, rfl, by show 2 ≤ sizeLine; decide, fun t ht => ⟨t, _, rfl, .inr (.inl (.inl upd_same)), rfl, rfl, _, rfl, iteN ?_ ?_⟩⟩
    · have e : inV (.str kv.1) ((["other", "refused"] : List PySem.Str).map V.str) = false := by
        rw [inV_str]
        refine decide_eq_false fun z => ?_
        rcases List.mem_cons.mp z with z | z
        · exact w.no z
        · exact w.nr (List.mem_singleton.mp z)
      exact e
    have S4 : Same H2 (upd H3 t (.tup [.str "other", .str "refused"])) := S3.trans (same_new ht _)
    have hn4 := S4 _ _ hnm
    generalize upd H3 t (.tup [.str "other", .str "refused"]) = H4 at S4 hn4 ⊢
    refine ⟨_, rfl, _, rfl, n, _, rfl, .inl (SqL.of hn4), rfl, flat_strs _, _, rfl, iteN ?_ ?_⟩
    · have e : inV (.str kv.1) (((R.take i).map (·.1)).map V.str) = false := by
        rw [inV_str]
        refine decide_eq_false fun z => ?_
        rw [List.map_take] at z
        exact nodup_take hn (by rw [List.getElem?_map, hkv]; rfl) z
      exact e
    refine ⟨_, rfl, .inl ⟨rfl, _, SqL.of hn4⟩, _, rfl, n, _, _, rfl, rfl, hn4, ?_, _, _, rfl, ?_, same_set (S2.trans S4) hn0⟩
    · rw [List.length_map, List.length_map, List.length_take, sizeLine_eq]
      omega
    · rw [take_map_succ hkv, List.map_append]
      exact upd_same
  rintro σ H2 ⟨v3, v4, rfl, hnm, S2⟩
  rw [pr.length, List.take_length] at hnm
  -- the second walk
  refine ⟨_, rfl, l, rfl, ⟨_, seq_mono S2 hlH⟩, for_list (K := K) (a := l) (xs := rs) (fun i σ H3 => ∃ (v3 v4 v5 : Option V), σ = [some (.ref p), some (.ref l), some (.ref n), v3, v4, v5] ∧ Same H2 H3)
    ⟨_, _, _, rfl, Same.refl H2⟩ (fun i σ H3 _ ⟨_, _, _, _, S3⟩ => seq_mono (S2.trans S3) hlH) ?_ ?_⟩
  · rintro i r σ H3 hi ⟨v3, v4, v5, rfl, S3⟩
    obtain ⟨kv, hkv, a, x, rfl, ha, hx⟩ := paired_get pr hi
    have hin := List.mem_of_getElem? hkv
    have S23 := S2.trans S3
    have hx3 : CondAt K H3 x kv.2 := hx.mono (toI ((wo_sub : Same (Wo p H) H).trans S23))
    obtain ⟨p1, d1, f1, rfl, h1, n1⟩ := hx3.ins
    have h10 := ok.h kv hin
    refine ⟨a, _, rfl, .inl (.inl (S23 _ _ (wo_sub _ _ ha))), rfl, _, _, rfl, _, _, rfl, rfl, ?_⟩
    refine ⟨_, rfl, p1, _, d1, f1, _, _, rfl, h1, n1.b, T.clsC kv.2, T.mList kv.2, (ok_lab T kv.2).mono (by omega), .ref p1, rfl, hx3, ok.c kv hin, fun ll ls H4 S4 hls l100 lin => ⟨ll, rfl, ⟨_, SqL.of hls⟩, ?_⟩⟩
    refine for_list (K := K) (a := ll) (xs := ls.map V.str) (fun j σ H5 => ∃ (v5 : Option V), σ = [some (.ref p), some (.ref l), some (.ref n), some (.str kv.1), some (.ref p1), v5] ∧ H5 = H4) ⟨_, rfl, rfl⟩ (fun j σ H5 _ ⟨_, _, e⟩ => by rw [e]; exact SqL.of hls) ?_ ?_
    · rintro j v σ H5 hj ⟨v5, rfl, rfl⟩
      rw [List.getElem?_map] at hj
      obtain ⟨z, hz, rfl⟩ := Option.map_eq_some_iff.mp hj
      have hz2 := (hR kv hin).2 z (lin z (List.mem_of_getElem? hz))
      refine ⟨_, rfl, rfl, _, rfl, ?_⟩
      by_cases e : z = "other"
      · subst e
        exact iteN (by decide +kernel) (iteN rfl ⟨_, rfl, rfl⟩)
      · have hd : (!decide (V.str z = V.str "other")) = true := by
          have : ¬ (V.str z = V.str "other") := fun q => e (V.str.inj q)
          rw [decide_eq_false this]
          rfl
        have hm : z ∈ R.map (·.1) := by
          rcases List.mem_append.mp hz2 with h | h
          · exact h
          · exact absurd (List.mem_singleton.mp h) e
        refine iteP hd ⟨_, rfl, _, rfl, n, _, rfl, .inl (SqL.of (S4 _ _ (S3 _ _ hnm))), rfl, flat_strs _, _, rfl, iteN ?_ ⟨_, rfl, rfl⟩⟩
        have e2 : inV (.str z) ((R.map (·.1)).map V.str) = true := by
          rw [inV_str]
          exact decide_eq_true hm
        show (!inV (.str z) ((R.map (·.1)).map V.str)) = false
        rw [e2]
        rfl
    · rintro σ H5 ⟨v5, rfl, rfl⟩
      exact ⟨_, _, _, rfl, S3.trans S4⟩
  rintro σ H3 ⟨v3, v4, v5, rfl, S3⟩
  have hn3 := S3 _ _ hnm
  have S23 := S2.trans S3
  have l3 := ok.len
  refine ⟨_, rfl, n, _, rfl, .inl (SqL.of hn3), _, _, rfl, rfl, _, rfl, iteN (decide_eq_false (by rw [List.length_map, List.length_map]; omega)) ?_⟩
  -- self.names
  refine ⟨_, rfl, by show 1 ≤ sizeLine; decide, fun o ho => ?_⟩
  have So := same_new ho (.lst [.str "other"])
  refine ⟨n, o, _, _, rfl, rfl, So _ _ hn3, upd_same, by rw [List.length_map, List.length_map, List.length_singleton, sizeLine_eq]; omega, fun c hc => ?_⟩
  have Sc := same_new hc (.lst ((R.map (·.1)).map V.str ++ [.str "other"]))
  refine ⟨c, _, rfl, .inl ⟨SqL.of upd_same, fun t ht => ?_⟩⟩
  have St := same_new ht (.tup ((R.map (·.1)).map V.str ++ [.str "other"]))
  have S4 := ((S23.trans So).trans Sc).trans St
  have ht4 : (upd (upd (upd H3 o (.lst [.str "other"])) c (.lst ((R.map (·.1)).map V.str ++ [.str "other"]))) t (.tup ((R.map (·.1)).map V.str ++ [.str "other"]))) t = some (.tup ((R.map (·.1)).map V.str ++ [.str "other"])) := upd_same
  generalize upd (upd (upd H3 o (.lst [.str "other"])) c (.lst ((R.map (·.1)).map V.str ++ [.str "other"]))) t (.tup ((R.map (·.1)).map V.str ++ [.str "other"])) = H4 at S4 ht4 ⊢
  have tp : t ≠ p := fun e => by
    rw [e, S4 _ _ hp] at ht4
    cases ht4
  refine ⟨_, rfl, p, _, dx, _, rfl, S4 _ _ hp, T.cls "Labels", T.noat "Labels" "names", by show 0 < 1000; decide, ?_⟩
  have S5 : Sm p H (upd H4 p (.ins (He.ga K "Labels") dx (putF "names" (.ref t) []))) := (Sm.of S4).trans sm_upd
  have hp5 : (upd H4 p (.ins (He.ga K "Labels") dx (putF "names" (.ref t) []))) p = some (.ins (He.ga K "Labels") dx [("names", .ref t)]) := upd_same
  have ht5 : (upd H4 p (.ins (He.ga K "Labels") dx (putF "names" (.ref t) []))) t = some (.tup ((R.map (·.1)).map V.str ++ [.str "other"])) := (upd_ne tp).trans ht4
  generalize upd H4 p (.ins (He.ga K "Labels") dx (putF "names" (.ref t) [])) = H5 at S5 hp5 ht5 ⊢
  have hl5 : SqL K H5 l rs := seq_mono (S5.trans wo_sub) hl
  -- self.rule_rows
  refine ⟨_, rfl, l, rfl, ⟨_, hl5⟩, fun D' hD => ?_⟩
  refine lc_list (K := K) (a := l) (xs := rs) (fun i H6 => ∃ acc, H6 D' = some (.lst acc) ∧ Paired (RowAt K (Hd [D', p] H6)) acc (R.take i) ∧ Same H5 H6) ⟨[], upd_same, .nil, same_new hD _⟩ (fun i H6 _ ⟨_, _, _, S6⟩ => seq_mono S6 hl5) ?_ ?_
  · rintro i r H6 hi ⟨acc, hacc, hpa, S6⟩
    obtain ⟨kv, hkv, a, x, rfl, ha, hx⟩ := paired_get pr hi
    have il : i < R.length := (List.getElem?_eq_some_iff.mp hkv).1
    have ha5 := S5 _ _ ha
    have ha6 := S6 _ _ (wo_sub _ _ ha5)
    refine ⟨a, _, rfl, .inl (.inl ha6), rfl, _, _, rfl, _, _, rfl, rfl, rfl, ?_⟩
    refine ⟨_, rfl, _, rfl, by show 2 ≤ sizeLine; decide, fun b hb => ?_⟩
    have Sb := same_new hb (.tup [.str kv.1, x])
    have nbD : b ∉ [D', p] := by
      intro z
      rcases List.mem_cons.mp z with z | z
      · rw [z, hacc] at hb
        cases hb
      · rw [List.mem_singleton.mp z, S6 _ _ hp5] at hb
        cases hb
    have e : ∀ o, Hd [D', p] (upd (upd H6 b (.tup [.str kv.1, x])) D' o) = Hd [D', p] (upd H6 b (.tup [.str kv.1, x])) := fun o => hd_upd_in (List.mem_cons_self ..)
    refine ⟨acc, Sb _ _ hacc, ?_, acc ++ [.ref b], upd_same, ?_, same_set (S6.trans Sb) hD⟩
    · have l1 := hpa.length
      rw [List.length_take] at l1
      rw [sizeLine_eq]
      omega
    · rw [e, take_succ_of hkv]
      refine (hpa.mono fun _ _ z => z.mono (toX (hd_same _ Sb))).snoc ⟨b, x, rfl, (hd_out nbD).trans upd_same, hx.mono (toI (S5.trans ?_))⟩
      exact Same.trans (hd_old (D := [p]) S6 hD) (hd_same [D', p] Sb)
  · rintro H6 ⟨acc, hacc, hpa, S6⟩
    rw [pr.length, List.take_length] at hpa
    refine ⟨_, rfl, p, _, dx, _, rfl, S6 _ _ hp5, T.cls "Labels", T.noat "Labels" "rule_rows", by show 1 < 1000; decide, ?_⟩
    have S7 : Sm p H6 (upd H6 p (.ins (He.ga K "Labels") dx (putF "rule_rows" (.ref D') [("names", .ref t)]))) := sm_upd
    refine q _ ((S5.trans (Sm.of S6)).trans S7) ⟨p, dx, t, D', acc, rfl, upd_same, ?_, ?_, hpa.mono fun _ _ z => z.mono (toX ?_), ok⟩
    · refine (upd_ne tp).trans ((S6 _ _ ht5).trans ?_)
      unfold nms
      rw [List.map_append]
      rfl
    · refine (upd_ne fun e => ?_).trans hacc
      rw [e, hp5] at hD
      cases hD
    · exact Same.trans (wo_sub : Same (Hd [D', p] H6) (Wo p H6)) (S7.trans wo_sub)
theorem mk_lab (T : Tx K mg) : Mkr P w K mg base 12 "Labels" (spMkLab K) := T.mkr "Labels" (ok_mklab T)
end
/-! ### Kind(..), Size(..), the operators -/
section
variable {P : Program} {w : World} {K : PySem.W.Frag} {mg : PySem.Str → Option Value} {base : Heap}
abbrev kinds : List PySem.Str := ["null", "true", "false", "integer", "text", "list", "tuple", "table"]
theorem kinds_at (T : Tx K mg) (H : Hp) : SqT K H (He.ga K "KINDS") (kinds.map V.str) := He.tupB_ok T.e4 H
def spMkKind (K : PySem.W.Frag) : Sp := fun vs H Q _ => ∃ (p dx : Addr) (z : PySem.Str), vs = [.ref p, .str z] ∧ z ∈ kinds ∧ H p = some (.ins (He.ga K "Kind") dx []) ∧ Q .non (upd H p (.ins (He.ga K "Kind") dx [("name", .str z)]))
theorem ok_mkKind (T : Tx K mg) : FnR P w K mg base CX0 1 (He.ma K (He.ga K "Kind") "__init__") (spMkKind K) := by
  obtain ⟨fd, F⟩ := F_Kind_init T
  have S : FnScope ["self", "name"] ["self", "name"] (defScope s_Kind_init) := ⟨rfl, rfl, rfl, by decide +kernel, rfl, by decide +kernel, by decide +kernel⟩
  refine okR F S (fun _ _ _ _ _ _ us hl => match us, hl with | [_, _], _ => rfl) (fun vs H Q E h => ?_) fun cdv A outer s H vs Q E hr h => ?_
  · obtain ⟨p, dx, a, rfl, _⟩ := h
    rfl
  obtain ⟨p, dx, z, rfl, hz, hp, q⟩ := h
  refine ⟨_, pss_cons (ps_if (pt_cmpR op_notIn_seq (pv 1) (pe_glob (v := .ref (He.ga K "KINDS")) (by rfl) T.knd rfl) rfl) (pss_one ps_never) pss_nil) (pss_one (ps_fld (pv 0) (pv 1) rfl)), ?_⟩
  refine ⟨_, rfl, He.ga K "KINDS", _, rfl, .inr (kinds_at T H), rfl, flat_strs _, _, rfl, iteN ?_ ?_⟩
  · have e : inV (.str z) (kinds.map V.str) = true := by
      rw [inV_str]
      exact decide_eq_true hz
    show (!inV (.str z) (kinds.map V.str)) = false
    rw [e]
    rfl
  · exact ⟨_, rfl, _, rfl, p, _, dx, _, rfl, hp, T.cls "Kind", T.noat "Kind" "name", by show 0 < 1000; decide, q⟩
def spMkSize (K : PySem.W.Frag) : Sp := fun vs H Q _ => ∃ (p dx : Addr) (z : Int), vs = [.ref p, .int z] ∧ 0 ≤ z ∧ z ≤ 4 ∧ H p = some (.ins (He.ga K "Size") dx []) ∧ Q .non (upd H p (.ins (He.ga K "Size") dx [("count", .int z)]))
theorem ok_mkSize (T : Tx K mg) : FnR P w K mg base CX0 1 (He.ma K (He.ga K "Size") "__init__") (spMkSize K) := by
  obtain ⟨fd, F⟩ := F_Size_init T
  have S : FnScope ["self", "count"] ["self", "count"] (defScope s_Size_init) := ⟨rfl, rfl, rfl, by decide +kernel, rfl, by decide +kernel, by decide +kernel⟩
  refine okR F S (fun _ _ _ _ _ _ us hl => match us, hl with | [_, _], _ => rfl) (fun vs H Q E h => ?_) fun cdv A outer s H vs Q E hr h => ?_
  · obtain ⟨p, dx, a, rfl, _⟩ := h
    rfl
  obtain ⟨p, dx, z, rfl, z0, z4, hp, q⟩ := h
  obtain ⟨tm, hmc⟩ := T.mc
  refine ⟨_, pss_cons (ps_if (PW.pt (pw_or (pt_cmpR op_lt (pv 1) pe_int (nomark _)) (pw_or1 (pt_cmpR op_gt (pv 1) (pe_glob (v := .int 4) (by rfl) hmc ⟨_, rfl⟩) (nomark _))))) (pss_one ps_never) pss_nil) (pss_one (ps_fld (pv 0) (pv 1) rfl)), ?_⟩
  refine ⟨_, rfl, _, _, rfl, rfl, _, rfl, iteN (decide_eq_false (by omega)) ⟨_, rfl, _, _, rfl, rfl, _, rfl, iteN (decide_eq_false (by omega)) ?_⟩⟩
  exact ⟨_, rfl, _, rfl, p, _, dx, _, rfl, hp, T.cls "Size", T.noat "Size" "count", by show 0 < 1000; decide, q⟩
def spBin (K : PySem.W.Frag) (f : Cond → Cond → Cond) : Sp := fun vs H Q _ => ∃ (x y : V) (a b : Cond), vs = [x, y] ∧ CondAt K H x a ∧ CondAt K H y b ∧ ∀ (v : V) (H' : Hp), Same H H' → CondAt K H' v (f a b) → Q v H'
def spUn (K : PySem.W.Frag) : Sp := fun vs H Q _ => ∃ (x : V) (a : Cond), vs = [x] ∧ CondAt K H x a ∧ ∀ (v : V) (H' : Hp), Same H H' → CondAt K H' v (.inverse a) → Q v H'
theorem new_ins {H : Hp} {x dx C : Addr} {fs : List (PySem.Str × V)} (hx : H x = none) (hdx : H dx = none) (nx : dx ≠ x) : Same H (upd (upd (upd H dx (.own x)) x (.ins C dx [])) x (.ins C dx fs)) := by
  rw [upd_upd]
  exact (same_new hdx _).trans (same_new ((upd_ne nx.symm).trans hx) _)
theorem ok_and (T : Tx K mg) : FnR P w K mg base CX0 3 (He.ma K (He.ga K "Condition") "__and__") (spBin K .both) := by
  obtain ⟨fd, F⟩ := F_Condition_and T
  have S : FnScope ["self", "other"] ["self", "other"] (defScope s_Condition_and) := ⟨rfl, rfl, rfl, by decide +kernel, rfl, by decide +kernel, by decide +kernel⟩
  have GM : Mkr P w K mg base 1 "Both" (spMk2 K "Both" "left" "right") := T.mkr "Both" (ok_mkBoth T)
  refine okR F S (fun _ _ _ _ _ _ us hl => match us, hl with | [_, _], _ => rfl) (fun vs H Q E h => ?_) fun cdv A outer s H vs Q E hr h => ?_
  · obtain ⟨x, y, a, b, rfl, _⟩ := h
    rfl
  obtain ⟨x, y, a, b, rfl, hx, hy, q⟩ := h
  refine ⟨_, pss_one (ps_ret (pe_new GM hr (pa_cons (pv 0) (pa_cons (pv 1) pa_nil)))), ?_⟩
  refine ⟨_, rfl, _, rfl, fun p dx hp hdx nx => ⟨p, dx, x, y, rfl, upd_same, rfl, ?_⟩⟩
  have Sn := new_ins (C := He.ga K "Both") (fs := [("left", x), ("right", y)]) hp hdx nx
  exact q _ _ Sn ⟨x, y, ⟨p, dx, rfl, upd_same⟩, hx.mono (toI Sn), hy.mono (toI Sn)⟩
theorem ok_or (T : Tx K mg) : FnR P w K mg base CX0 3 (He.ma K (He.ga K "Condition") "__or__") (spBin K .either) := by
  obtain ⟨fd, F⟩ := F_Condition_or T
  have S : FnScope ["self", "other"] ["self", "other"] (defScope s_Condition_or) := ⟨rfl, rfl, rfl, by decide +kernel, rfl, by decide +kernel, by decide +kernel⟩
  have GM : Mkr P w K mg base 1 "Either" (spMk2 K "Either" "left" "right") := T.mkr "Either" (ok_mkEither T)
  refine okR F S (fun _ _ _ _ _ _ us hl => match us, hl with | [_, _], _ => rfl) (fun vs H Q E h => ?_) fun cdv A outer s H vs Q E hr h => ?_
  · obtain ⟨x, y, a, b, rfl, _⟩ := h
    rfl
  obtain ⟨x, y, a, b, rfl, hx, hy, q⟩ := h
  refine ⟨_, pss_one (ps_ret (pe_new GM hr (pa_cons (pv 0) (pa_cons (pv 1) pa_nil)))), ?_⟩
  refine ⟨_, rfl, _, rfl, fun p dx hp hdx nx => ⟨p, dx, x, y, rfl, upd_same, rfl, ?_⟩⟩
  have Sn := new_ins (C := He.ga K "Either") (fs := [("left", x), ("right", y)]) hp hdx nx
  exact q _ _ Sn ⟨x, y, ⟨p, dx, rfl, upd_same⟩, hx.mono (toI Sn), hy.mono (toI Sn)⟩
theorem ok_inv (T : Tx K mg) : FnR P w K mg base CX0 3 (He.ma K (He.ga K "Condition") "__invert__") (spUn K) := by
  obtain ⟨fd, F⟩ := F_Condition_invert T
  have S : FnScope ["self"] ["self"] (defScope s_Condition_invert) := ⟨rfl, rfl, rfl, by decide +kernel, rfl, by decide +kernel, by decide +kernel⟩
  have GM : Mkr P w K mg base 1 "Inverse" (spMk1 K "Inverse" "inner") := T.mkr "Inverse" (ok_mkInverse T)
  refine okR F S (fun _ _ _ _ _ _ us hl => match us, hl with | [_], _ => rfl) (fun vs H Q E h => ?_) fun cdv A outer s H vs Q E hr h => ?_
  · obtain ⟨x, a, rfl, _⟩ := h
    rfl
  obtain ⟨x, a, rfl, hx, q⟩ := h
  refine ⟨_, pss_one (ps_ret (pe_new GM hr (pa_cons (pv 0) pa_nil))), ?_⟩
  refine ⟨_, rfl, fun p dx hp hdx nx => ⟨p, dx, x, rfl, upd_same, rfl, ?_⟩⟩
  have Sn := new_ins (C := He.ga K "Inverse") (fs := [("inner", x)]) hp hdx nx
  exact q _ _ Sn ⟨x, ⟨p, dx, rfl, upd_same⟩, hx.mono (toI Sn)⟩
theorem opb_of {c m r : PySem.Str} (h : opB K c m r = true) : PySem.W.findIn K (.ref (He.ga K c)) m = some (some (.ref (He.ma K (He.ga K "Condition") m))) ∧ PySem.W.isFn K (.ref (He.ma K (He.ga K "Condition") m)) = true ∧ PySem.W.findIn K (.ref (He.ga K c)) r = some none := by
  obtain ⟨a, h⟩ := He.ba h
  obtain ⟨b, h⟩ := He.ba h
  obtain ⟨_, h⟩ := He.ba h
  obtain ⟨i, d⟩ := He.ba h
  have e : He.ma K (He.ga K c) m = He.ma K (He.ga K "Condition") m := of_decide_eq_true i
  rw [e] at b
  have a2 := He.eqO_ok a
  rw [e] at a2
  exact ⟨a2, b, He.eqO_ok d⟩
theorem ops (T : Tx K mg) (c : Cond) : PySem.W.selfFirst K (He.ga K (nmC c)) = true ∧ opB K (nmC c) "__and__" "__rand__" = true ∧ opB K (nmC c) "__or__" "__ror__" = true ∧ opB K (nmC c) "__invert__" "__rinvert__" = true := by
  have := List.all_eq_true.mp T.e2 (nmC c) (memL (nm_cond c))
  obtain ⟨a, h⟩ := He.ba this
  obtain ⟨b, h⟩ := He.ba h
  exact ⟨a, b, He.ba h⟩
theorem subC (T : Tx K mg) (c d : Cond) : He.ga K (nmC c) = He.ga K (nmC d) ∨ PySem.W.subIn K (.ref (He.ga K (nmC d))) (.ref (He.ga K (nmC c))) = some false := by
  have := List.all_eq_true.mp (List.all_eq_true.mp T.e1 (nmC c) (memL (nm_cond c))) (nmC d) (memL (nm_cond d))
  rcases Bool.or_eq_true_iff.mp this with h | h
  · exact .inl (by rw [of_decide_eq_true h])
  · exact .inr (of_decide_eq_true h)
theorem bin_and (T : Tx K mg) (c d : Cond) : BinOk K (He.ga K (nmC c)) (He.ga K (nmC d)) "__and__" "__rand__" (He.ma K (He.ga K "Condition") "__and__") := by
  obtain ⟨a1, a2, _⟩ := ops T c
  obtain ⟨b1, b2, _⟩ := ops T d
  obtain ⟨x1, x2, x3⟩ := opb_of a2
  obtain ⟨y1, y2, y3⟩ := opb_of b2
  exact ⟨a1, b1, x1, y1, x3, y3, x2, subC T c d⟩
theorem bin_or (T : Tx K mg) (c d : Cond) : BinOk K (He.ga K (nmC c)) (He.ga K (nmC d)) "__or__" "__ror__" (He.ma K (He.ga K "Condition") "__or__") := by
  obtain ⟨a1, _, a2, _⟩ := ops T c
  obtain ⟨b1, _, b2, _⟩ := ops T d
  obtain ⟨x1, x2, x3⟩ := opb_of a2
  obtain ⟨y1, y2, y3⟩ := opb_of b2
  exact ⟨a1, b1, x1, y1, x3, y3, x2, subC T c d⟩
end
/-! ### from an asking to a condition -/
section
variable {P : Program} {w : World} {K : PySem.W.Frag} {mg : PySem.Str → Option Value} {base : Heap}
def TupAt (H : Hp) (v : V) (xs : List V) : Prop := ∃ p, v = .ref p ∧ H p = some (.tup xs)
theorem TupAt.mono {H H' : Hp} (S : Same H H') {v : V} {xs : List V} (h : TupAt H v xs) : TupAt H' v xs := by
  obtain ⟨p, e, h⟩ := h
  exact ⟨p, e, S _ _ h⟩
def AskAt (H : Hp) : V → Cond → Prop
  | v, .both a b => ∃ x y, TupAt H v [.str "and", x, y] ∧ AskAt H x a ∧ AskAt H y b
  | v, .either a b => ∃ x y, TupAt H v [.str "or", x, y] ∧ AskAt H x a ∧ AskAt H y b
  | v, .inverse a => ∃ x, TupAt H v [.str "not", x] ∧ AskAt H x a
  | v, .kind s => TupAt H v [.str "kind", .str s] ∧ s ∈ kinds
  | v, .equals k => TupAt H v [.str "equals", kV k]
  | v, .size n => TupAt H v [.str "size", .int n] ∧ 0 ≤ n ∧ n ≤ 4
  | v, .has k => TupAt H v [.str "has", kV k]
  | v, .item k l => TupAt H v [.str "item", kV k, .str l]
  | v, .before j k => TupAt H v [.str "before", kV j, kV k]
  | v, .first l => TupAt H v [.str "first", .str l]
  | v, .every l => TupAt H v [.str "every", .str l]
  | v, .some_ l => TupAt H v [.str "some", .str l]
theorem AskAt.mono {H H' : Hp} (S : Same H H') : ∀ {c : Cond} {v : V}, AskAt H v c → AskAt H' v c
  | .both a b, v, h => by
    obtain ⟨x, y, h1, h2, h3⟩ := h
    exact ⟨x, y, h1.mono S, AskAt.mono S h2, AskAt.mono S h3⟩
  | .either a b, v, h => by
    obtain ⟨x, y, h1, h2, h3⟩ := h
    exact ⟨x, y, h1.mono S, AskAt.mono S h2, AskAt.mono S h3⟩
  | .inverse a, v, h => by
    obtain ⟨x, h1, h2⟩ := h
    exact ⟨x, h1.mono S, AskAt.mono S h2⟩
  | .kind _, v, h => ⟨TupAt.mono S h.1, h.2⟩
  | .equals _, v, h => TupAt.mono S h
  | .size _, v, h => ⟨TupAt.mono S h.1, h.2⟩
  | .has _, v, h => TupAt.mono S h
  | .item _ _, v, h => TupAt.mono S h
  | .before _ _, v, h => TupAt.mono S h
  | .first _, v, h => TupAt.mono S h
  | .every _, v, h => TupAt.mono S h
  | .some_ _, v, h => TupAt.mono S h
def spMade (K : PySem.W.Frag) (n : Nat) : Sp := fun vs H Q _ => ∃ (v : V) (c : Cond), vs = [v] ∧ AskAt H v c ∧ hl c ≤ n ∧ ∀ (v' : V) (H' : Hp), Same H H' → CondAt K H' v' c → Q v' H'
abbrev nMade : List PySem.Str := ["_law_ask_here", "_law_word", "_law_one", "_law_two"]
theorem scMade : FnScope nMade ["_law_ask_here"] (defScope s_Lmade) := ⟨rfl, rfl, rfl, by decide +kernel, rfl, by decide +kernel, by decide +kernel⟩
theorem at0 {H : Hp} {p : Addr} {x : V} {xs : List V} (_ : H p = some (.tup (x :: xs))) : atI (x :: xs) 0 = some x := atI_zero x xs
theorem at1 {x y : V} {xs : List V} : atI (x :: y :: xs) 1 = some y := (atI_pos (xs := x :: y :: xs) (r := 1) (by decide) (by show 1 < _; simp)).trans rfl
theorem at2 {x y z : V} {xs : List V} : atI (x :: y :: z :: xs) 2 = some z := (atI_pos (xs := x :: y :: z :: xs) (r := 2) (by decide) (by show 2 < _; simp)).trans rfl
theorem ok_made (T : Tx K mg) : ∀ n, FnR P w K mg base CX0 (n + 3) (He.ga K "_law_made") (spMade K n)
  | 0 => fnR_false.imp fun vs H Q E ⟨v, c, _, _, h, _⟩ => absurd h (by have := hl_pos c; omega)
  | n + 1 => by
    obtain ⟨fd, F⟩ := F_Lmade T
    have GM : Cl P w K mg base (n + 3) "_law_made" (spMade K n) := ⟨T.glo _, F.kp, ok_made T n⟩
    refine okR F scMade (k := n + 3) (fun _ _ _ _ _ _ us hl => match us, hl with | [_], _ => rfl) (fun vs H Q E h => ?_) fun cdv A outer s H vs Q E hr h => ?_
    · obtain ⟨v, c, rfl, _⟩ := h
      rfl
    obtain ⟨v, c, rfl, hv, hn, q⟩ := h
    have nd := scMade.nd
    have hr3 : Room 3 _ := hr.mono (by omega)
    have hr2 : Room (1 + 1) _ := hr.mono (by omega)
    have GKind : Mkr P w K mg base 1 "Kind" (spMkKind K) := T.mkr "Kind" (ok_mkKind T)
    have GEquals : Mkr P w K mg base 1 "Equals" (spMk1 K "Equals" "atom") := T.mkr "Equals" (ok_mkEquals T)
    have GSize : Mkr P w K mg base 1 "Size" (spMkSize K) := T.mkr "Size" (ok_mkSize T)
    have GHas : Mkr P w K mg base 1 "Has" (spMk1 K "Has" "key") := T.mkr "Has" (ok_mkHas T)
    have GItem : Mkr P w K mg base 1 "Item" (spMk2 K "Item" "key" "label") := T.mkr "Item" (ok_mkItem T)
    have GBefore : Mkr P w K mg base 1 "Before" (spMk2 K "Before" "first" "second") := T.mkr "Before" (ok_mkBefore T)
    have GFirst : Mkr P w K mg base 1 "First" (spMk1 K "First" "label") := T.mkr "First" (ok_mkFirst T)
    have GEvery : Mkr P w K mg base 1 "Every" (spMk1 K "Every" "label") := T.mkr "Every" (ok_mkEvery T)
    have GSome : Mkr P w K mg base 1 "Some" (spMk1 K "Some" "label") := T.mkr "Some" (ok_mkSome T)
    refine ⟨_, pss_cons (ps_set (i := 1) nd rfl (.inl rfl) (pe_ix ix_tup (pv 0) pe_int (fun _ _ => rfl)))
      (pss_cons (ps_if (pt_cmpR op_in_seq (pv 1) (pe_tup (pa_cons pe_str (pa_cons pe_str pa_nil))) rfl)
        (pss_cons (ps_par (i := 2) (j := 3) (by rfl) nd rfl rfl (by decide) rfl rfl (pa_cons (pe_f GM hr (pa_cons (pe_ix ix_tup (pv 0) pe_int (fun _ _ => rfl)) pa_nil)) (pa_cons (pe_f GM hr (pa_cons (pe_ix ix_tup (pv 0) pe_int (fun _ _ => rfl)) pa_nil)) pa_nil)) (by rfl))
        (pss_one (ps_ret (pe_ifExp (pt_cmpR op_eq (pv 1) pe_str (nomark _)) (pe_op (op_own2 (nm := "__and__") (rm := "__rand__") hr3 (by decide +kernel) (by decide +kernel)) (pv 2) (pv 3)) (pe_op (op_own2 (nm := "__or__") (rm := "__ror__") hr3 (by decide +kernel) (by decide +kernel)) (pv 2) (pv 3)))))) pss_nil)
      (pss_cons (ps_if (pt_cmpR op_eq (pv 1) pe_str (nomark _)) (pss_one (ps_ret (pe_un (un_own hr3) (pe_f GM hr (pa_cons (pe_ix ix_tup (pv 0) pe_int (fun _ _ => rfl)) pa_nil))))) pss_nil)
      (pss_cons (ps_if (pt_cmpR op_in_seq (pv 1) (pe_tup (pa_cons pe_str (pa_cons pe_str pa_nil))) rfl)
        (pss_one (ps_ret (pe_ifExp (pt_cmpR op_eq (pv 1) pe_str (nomark _)) (pe_new GKind hr2 (pa_cons (pe_ix ix_tup (pv 0) pe_int (fun _ _ => rfl)) pa_nil)) (pe_new GEquals hr2 (pa_cons (pe_ix ix_tup (pv 0) pe_int (fun _ _ => rfl)) pa_nil))))) pss_nil)
      (pss_cons (ps_if (pt_cmpR op_in_seq (pv 1) (pe_tup (pa_cons pe_str (pa_cons pe_str pa_nil))) rfl)
        (pss_one (ps_ret (pe_ifExp (pt_cmpR op_eq (pv 1) pe_str (nomark _)) (pe_new GSize hr2 (pa_cons (pe_ix ix_tup (pv 0) pe_int (fun _ _ => rfl)) pa_nil)) (pe_new GHas hr2 (pa_cons (pe_ix ix_tup (pv 0) pe_int (fun _ _ => rfl)) pa_nil))))) pss_nil)
      (pss_cons (ps_if (pt_cmpR op_in_seq (pv 1) (pe_tup (pa_cons pe_str (pa_cons pe_str pa_nil))) rfl)
        (pss_one (ps_ret (pe_ifExp (pt_cmpR op_eq (pv 1) pe_str (nomark _)) (pe_new GItem hr2 (pa_cons (pe_ix ix_tup (pv 0) pe_int (fun _ _ => rfl)) (pa_cons (pe_ix ix_tup (pv 0) pe_int (fun _ _ => rfl)) pa_nil))) (pe_new GBefore hr2 (pa_cons (pe_ix ix_tup (pv 0) pe_int (fun _ _ => rfl)) (pa_cons (pe_ix ix_tup (pv 0) pe_int (fun _ _ => rfl)) pa_nil)))))) pss_nil)
      (pss_cons (ps_if (pt_cmpR op_eq (pv 1) pe_str (nomark _)) (pss_one (ps_ret (pe_new GFirst hr2 (pa_cons (pe_ix ix_tup (pv 0) pe_int (fun _ _ => rfl)) pa_nil)))) pss_nil)
      (pss_one (ps_ret (pe_ifExp (pt_cmpR op_eq (pv 1) pe_str (nomark _)) (pe_new GEvery hr2 (pa_cons (pe_ix ix_tup (pv 0) pe_int (fun _ _ => rfl)) pa_nil)) (pe_new GSome hr2 (pa_cons (pe_ix ix_tup (pv 0) pe_int (fun _ _ => rfl)) pa_nil))))))))))), ?_⟩
    cases c with
    | both a b =>
      obtain ⟨x, y, ⟨p, rfl, hp⟩, hx, hy⟩ := hv
      have hn2 : max (hl a) (hl b) + 1 ≤ n + 1 := hn
      refine ⟨_, rfl, p, _, 0, _, rfl, rfl, .inl (.inl hp), at0 hp, ?_⟩
      refine ⟨_, rfl, by show 2 ≤ sizeLine; decide, fun t ht => ⟨t, _, rfl, .inr (.inl (.inl upd_same)), rfl, rfl, _, rfl, iteP (by decide +kernel) ?_⟩⟩
      have S1 := same_new ht (.tup [.str "and", .str "or"])
      generalize upd H t (.tup [.str "and", .str "or"]) = H1 at S1 ⊢
      refine ⟨_, rfl, p, _, 1, _, rfl, rfl, .inl (.inl (S1 _ _ hp)), at1, x, a, rfl, hx.mono S1, by omega, fun v1 H2 S2 h1 => ?_⟩
      refine ⟨_, rfl, p, _, 2, _, rfl, rfl, .inl (.inl (S2 _ _ (S1 _ _ hp))), at2, y, b, rfl, hy.mono (S1.trans S2), by omega, fun v2 H3 S3 h2 => ⟨_, _, rfl, ?_⟩⟩
      have h13 := h1.mono (toI S3)
      obtain ⟨p1, d1, f1, rfl, i1, _⟩ := h13.ins
      obtain ⟨p2, d2, f2, rfl, i2, _⟩ := h2.ins
      exact ⟨_, rfl, rfl, _, rfl, iteP (by decide +kernel) ⟨_, rfl, _, rfl, p1, p2, _, _, d1, d2, f1, f2, _, _, rfl, rfl, i1, i2, bin_and T a b, ok_and T, .ref p1, .ref p2, a, b, rfl, h13, h2, fun v' H4 S4 h4 => q v' H4 (((S1.trans S2).trans S3).trans S4) h4⟩⟩
    | either a b =>
      obtain ⟨x, y, ⟨p, rfl, hp⟩, hx, hy⟩ := hv
      have hn2 : max (hl a) (hl b) + 1 ≤ n + 1 := hn
      refine ⟨_, rfl, p, _, 0, _, rfl, rfl, .inl (.inl hp), at0 hp, ?_⟩
      refine ⟨_, rfl, by show 2 ≤ sizeLine; decide, fun t ht => ⟨t, _, rfl, .inr (.inl (.inl upd_same)), rfl, rfl, _, rfl, iteP (by decide +kernel) ?_⟩⟩
      have S1 := same_new ht (.tup [.str "and", .str "or"])
      generalize upd H t (.tup [.str "and", .str "or"]) = H1 at S1 ⊢
      refine ⟨_, rfl, p, _, 1, _, rfl, rfl, .inl (.inl (S1 _ _ hp)), at1, x, a, rfl, hx.mono S1, by omega, fun v1 H2 S2 h1 => ?_⟩
      refine ⟨_, rfl, p, _, 2, _, rfl, rfl, .inl (.inl (S2 _ _ (S1 _ _ hp))), at2, y, b, rfl, hy.mono (S1.trans S2), by omega, fun v2 H3 S3 h2 => ⟨_, _, rfl, ?_⟩⟩
      have h13 := h1.mono (toI S3)
      obtain ⟨p1, d1, f1, rfl, i1, _⟩ := h13.ins
      obtain ⟨p2, d2, f2, rfl, i2, _⟩ := h2.ins
      exact ⟨_, rfl, rfl, _, rfl, iteN (by decide +kernel) ⟨_, rfl, _, rfl, p1, p2, _, _, d1, d2, f1, f2, _, _, rfl, rfl, i1, i2, bin_or T a b, ok_or T, .ref p1, .ref p2, a, b, rfl, h13, h2, fun v' H4 S4 h4 => q v' H4 (((S1.trans S2).trans S3).trans S4) h4⟩⟩
    | inverse a =>
      obtain ⟨x, ⟨p, rfl, hp⟩, hx⟩ := hv
      have hn2 : hl a + 1 ≤ n + 1 := hn
      refine ⟨_, rfl, p, _, 0, _, rfl, rfl, .inl (.inl hp), at0 hp, ?_⟩
      refine ⟨_, rfl, by show 2 ≤ sizeLine; decide, fun t ht => ⟨t, _, rfl, .inr (.inl (.inl upd_same)), rfl, rfl, _, rfl, iteN (by decide +kernel) ?_⟩⟩
      have S1 := same_new ht (.tup [.str "and", .str "or"])
      generalize upd H t (.tup [.str "and", .str "or"]) = H1 at S1 ⊢
      refine ⟨_, rfl, rfl, _, rfl, iteP (by decide +kernel) ⟨_, rfl, p, _, 1, _, rfl, rfl, .inl (.inl (S1 _ _ hp)), at1, x, a, rfl, hx.mono S1, by omega, fun v1 H2 S2 h1 => ?_⟩⟩
      obtain ⟨p1, d1, f1, rfl, i1, _⟩ := h1.ins
      obtain ⟨o1, o2, o3, o4⟩ := ops T a
      obtain ⟨b1, b2, b3⟩ := opb_of o4
      exact ⟨p1, _, d1, f1, _, _, rfl, i1, b1, b2, ok_inv T, .ref p1, a, rfl, h1, fun v' H3 S3 h3 => q v' H3 ((S1.trans S2).trans S3) h3⟩
    | kind z =>
      obtain ⟨⟨p, rfl, hp⟩, hz⟩ := hv
      refine ⟨_, rfl, p, _, 0, _, rfl, rfl, .inl (.inl hp), at0 hp, ?_⟩
      have S0 : Same H H := Same.refl H
      refine ⟨_, rfl, by show 2 ≤ sizeLine; decide, fun t ht => ⟨t, _, rfl, .inr (.inl (.inl upd_same)), rfl, rfl, _, rfl, iteN (by decide +kernel) ?_⟩⟩
      have S1 := S0.trans (same_new ht (.tup [.str "and", .str "or"]))
      generalize upd H t (.tup [.str "and", .str "or"]) = H1 at S1 ⊢
      refine ⟨_, rfl, rfl, _, rfl, iteN (by decide +kernel) ?_⟩
      refine ⟨_, rfl, by show 2 ≤ sizeLine; decide, fun t ht => ⟨t, _, rfl, .inr (.inl (.inl upd_same)), rfl, rfl, _, rfl, iteP (by decide +kernel) ?_⟩⟩
      have S2 := S1.trans (same_new ht (.tup [.str "kind", .str "equals"]))
      generalize upd H1 t (.tup [.str "kind", .str "equals"]) = H2 at S2 ⊢
      refine ⟨_, rfl, rfl, _, rfl, iteP (by decide +kernel) ?_⟩
      refine ⟨_, rfl, p, _, 1, _, rfl, rfl, .inl (.inl (S2 _ _ hp)), at1, fun x dx hx hdx nx => ⟨x, dx, z, rfl, hz, upd_same, rfl, ?_⟩⟩
      have Sn := new_ins (C := He.ga K "Kind") (fs := [("name", .str z)]) hx hdx nx
      exact q _ _ (S2.trans Sn) ⟨x, dx, rfl, upd_same⟩
    | equals k =>
      obtain ⟨p, rfl, hp⟩ := hv
      refine ⟨_, rfl, p, _, 0, _, rfl, rfl, .inl (.inl hp), at0 hp, ?_⟩
      have S0 : Same H H := Same.refl H
      refine ⟨_, rfl, by show 2 ≤ sizeLine; decide, fun t ht => ⟨t, _, rfl, .inr (.inl (.inl upd_same)), rfl, rfl, _, rfl, iteN (by decide +kernel) ?_⟩⟩
      have S1 := S0.trans (same_new ht (.tup [.str "and", .str "or"]))
      generalize upd H t (.tup [.str "and", .str "or"]) = H1 at S1 ⊢
      refine ⟨_, rfl, rfl, _, rfl, iteN (by decide +kernel) ?_⟩
      refine ⟨_, rfl, by show 2 ≤ sizeLine; decide, fun t ht => ⟨t, _, rfl, .inr (.inl (.inl upd_same)), rfl, rfl, _, rfl, iteP (by decide +kernel) ?_⟩⟩
      have S2 := S1.trans (same_new ht (.tup [.str "kind", .str "equals"]))
      generalize upd H1 t (.tup [.str "kind", .str "equals"]) = H2 at S2 ⊢
      refine ⟨_, rfl, rfl, _, rfl, iteN (by decide +kernel) ?_⟩
      refine ⟨_, rfl, p, _, 1, _, rfl, rfl, .inl (.inl (S2 _ _ hp)), at1, fun x dx hx hdx nx => ⟨x, dx, _, rfl, upd_same, rfl, ?_⟩⟩
      have Sn := new_ins (C := He.ga K "Equals") (fs := [("atom", kV k)]) hx hdx nx
      exact q _ _ (S2.trans Sn) ⟨x, dx, rfl, upd_same⟩
    | size i =>
      obtain ⟨⟨p, rfl, hp⟩, z0, z4⟩ := hv
      refine ⟨_, rfl, p, _, 0, _, rfl, rfl, .inl (.inl hp), at0 hp, ?_⟩
      have S0 : Same H H := Same.refl H
      refine ⟨_, rfl, by show 2 ≤ sizeLine; decide, fun t ht => ⟨t, _, rfl, .inr (.inl (.inl upd_same)), rfl, rfl, _, rfl, iteN (by decide +kernel) ?_⟩⟩
      have S1 := S0.trans (same_new ht (.tup [.str "and", .str "or"]))
      generalize upd H t (.tup [.str "and", .str "or"]) = H1 at S1 ⊢
      refine ⟨_, rfl, rfl, _, rfl, iteN (by decide +kernel) ?_⟩
      refine ⟨_, rfl, by show 2 ≤ sizeLine; decide, fun t ht => ⟨t, _, rfl, .inr (.inl (.inl upd_same)), rfl, rfl, _, rfl, iteN (by decide +kernel) ?_⟩⟩
      have S2 := S1.trans (same_new ht (.tup [.str "kind", .str "equals"]))
      generalize upd H1 t (.tup [.str "kind", .str "equals"]) = H2 at S2 ⊢
      refine ⟨_, rfl, by show 2 ≤ sizeLine; decide, fun t ht => ⟨t, _, rfl, .inr (.inl (.inl upd_same)), rfl, rfl, _, rfl, iteP (by decide +kernel) ?_⟩⟩
      have S3 := S2.trans (same_new ht (.tup [.str "size", .str "has"]))
      generalize upd H2 t (.tup [.str "size", .str "has"]) = H3 at S3 ⊢
      refine ⟨_, rfl, rfl, _, rfl, iteP (by decide +kernel) ?_⟩
      refine ⟨_, rfl, p, _, 1, _, rfl, rfl, .inl (.inl (S3 _ _ hp)), at1, fun x dx hx hdx nx => ⟨x, dx, i, rfl, z0, z4, upd_same, rfl, ?_⟩⟩
      have Sn := new_ins (C := He.ga K "Size") (fs := [("count", .int i)]) hx hdx nx
      exact q _ _ (S3.trans Sn) ⟨x, dx, rfl, upd_same⟩
    | has k =>
      obtain ⟨p, rfl, hp⟩ := hv
      refine ⟨_, rfl, p, _, 0, _, rfl, rfl, .inl (.inl hp), at0 hp, ?_⟩
      have S0 : Same H H := Same.refl H
      refine ⟨_, rfl, by show 2 ≤ sizeLine; decide, fun t ht => ⟨t, _, rfl, .inr (.inl (.inl upd_same)), rfl, rfl, _, rfl, iteN (by decide +kernel) ?_⟩⟩
      have S1 := S0.trans (same_new ht (.tup [.str "and", .str "or"]))
      generalize upd H t (.tup [.str "and", .str "or"]) = H1 at S1 ⊢
      refine ⟨_, rfl, rfl, _, rfl, iteN (by decide +kernel) ?_⟩
      refine ⟨_, rfl, by show 2 ≤ sizeLine; decide, fun t ht => ⟨t, _, rfl, .inr (.inl (.inl upd_same)), rfl, rfl, _, rfl, iteN (by decide +kernel) ?_⟩⟩
      have S2 := S1.trans (same_new ht (.tup [.str "kind", .str "equals"]))
      generalize upd H1 t (.tup [.str "kind", .str "equals"]) = H2 at S2 ⊢
      refine ⟨_, rfl, by show 2 ≤ sizeLine; decide, fun t ht => ⟨t, _, rfl, .inr (.inl (.inl upd_same)), rfl, rfl, _, rfl, iteP (by decide +kernel) ?_⟩⟩
      have S3 := S2.trans (same_new ht (.tup [.str "size", .str "has"]))
      generalize upd H2 t (.tup [.str "size", .str "has"]) = H3 at S3 ⊢
      refine ⟨_, rfl, rfl, _, rfl, iteN (by decide +kernel) ?_⟩
      refine ⟨_, rfl, p, _, 1, _, rfl, rfl, .inl (.inl (S3 _ _ hp)), at1, fun x dx hx hdx nx => ⟨x, dx, _, rfl, upd_same, rfl, ?_⟩⟩
      have Sn := new_ins (C := He.ga K "Has") (fs := [("key", kV k)]) hx hdx nx
      exact q _ _ (S3.trans Sn) ⟨x, dx, rfl, upd_same⟩
    | item k l =>
      obtain ⟨p, rfl, hp⟩ := hv
      refine ⟨_, rfl, p, _, 0, _, rfl, rfl, .inl (.inl hp), at0 hp, ?_⟩
      have S0 : Same H H := Same.refl H
      refine ⟨_, rfl, by show 2 ≤ sizeLine; decide, fun t ht => ⟨t, _, rfl, .inr (.inl (.inl upd_same)), rfl, rfl, _, rfl, iteN (by decide +kernel) ?_⟩⟩
      have S1 := S0.trans (same_new ht (.tup [.str "and", .str "or"]))
      generalize upd H t (.tup [.str "and", .str "or"]) = H1 at S1 ⊢
      refine ⟨_, rfl, rfl, _, rfl, iteN (by decide +kernel) ?_⟩
      refine ⟨_, rfl, by show 2 ≤ sizeLine; decide, fun t ht => ⟨t, _, rfl, .inr (.inl (.inl upd_same)), rfl, rfl, _, rfl, iteN (by decide +kernel) ?_⟩⟩
      have S2 := S1.trans (same_new ht (.tup [.str "kind", .str "equals"]))
      generalize upd H1 t (.tup [.str "kind", .str "equals"]) = H2 at S2 ⊢
      refine ⟨_, rfl, by show 2 ≤ sizeLine; decide, fun t ht => ⟨t, _, rfl, .inr (.inl (.inl upd_same)), rfl, rfl, _, rfl, iteN (by decide +kernel) ?_⟩⟩
      have S3 := S2.trans (same_new ht (.tup [.str "size", .str "has"]))
      generalize upd H2 t (.tup [.str "size", .str "has"]) = H3 at S3 ⊢
      refine ⟨_, rfl, by show 2 ≤ sizeLine; decide, fun t ht => ⟨t, _, rfl, .inr (.inl (.inl upd_same)), rfl, rfl, _, rfl, iteP (by decide +kernel) ?_⟩⟩
      have S4 := S3.trans (same_new ht (.tup [.str "item", .str "before"]))
      generalize upd H3 t (.tup [.str "item", .str "before"]) = H4 at S4 ⊢
      refine ⟨_, rfl, rfl, _, rfl, iteP (by decide +kernel) ?_⟩
      refine ⟨_, rfl, p, _, 1, _, rfl, rfl, .inl (.inl (S4 _ _ hp)), at1, _, rfl, p, _, 2, _, rfl, rfl, .inl (.inl (S4 _ _ hp)), at2, fun x dx hx hdx nx => ⟨x, dx, _, _, rfl, upd_same, rfl, ?_⟩⟩
      have Sn := new_ins (C := He.ga K "Item") (fs := [("key", kV k), ("label", .str l)]) hx hdx nx
      exact q _ _ (S4.trans Sn) ⟨x, dx, rfl, upd_same⟩
    | before j k =>
      obtain ⟨p, rfl, hp⟩ := hv
      refine ⟨_, rfl, p, _, 0, _, rfl, rfl, .inl (.inl hp), at0 hp, ?_⟩
      have S0 : Same H H := Same.refl H
      refine ⟨_, rfl, by show 2 ≤ sizeLine; decide, fun t ht => ⟨t, _, rfl, .inr (.inl (.inl upd_same)), rfl, rfl, _, rfl, iteN (by decide +kernel) ?_⟩⟩
      have S1 := S0.trans (same_new ht (.tup [.str "and", .str "or"]))
      generalize upd H t (.tup [.str "and", .str "or"]) = H1 at S1 ⊢
      refine ⟨_, rfl, rfl, _, rfl, iteN (by decide +kernel) ?_⟩
      refine ⟨_, rfl, by show 2 ≤ sizeLine; decide, fun t ht => ⟨t, _, rfl, .inr (.inl (.inl upd_same)), rfl, rfl, _, rfl, iteN (by decide +kernel) ?_⟩⟩
      have S2 := S1.trans (same_new ht (.tup [.str "kind", .str "equals"]))
      generalize upd H1 t (.tup [.str "kind", .str "equals"]) = H2 at S2 ⊢
      refine ⟨_, rfl, by show 2 ≤ sizeLine; decide, fun t ht => ⟨t, _, rfl, .inr (.inl (.inl upd_same)), rfl, rfl, _, rfl, iteN (by decide +kernel) ?_⟩⟩
      have S3 := S2.trans (same_new ht (.tup [.str "size", .str "has"]))
      generalize upd H2 t (.tup [.str "size", .str "has"]) = H3 at S3 ⊢
      refine ⟨_, rfl, by show 2 ≤ sizeLine; decide, fun t ht => ⟨t, _, rfl, .inr (.inl (.inl upd_same)), rfl, rfl, _, rfl, iteP (by decide +kernel) ?_⟩⟩
      have S4 := S3.trans (same_new ht (.tup [.str "item", .str "before"]))
      generalize upd H3 t (.tup [.str "item", .str "before"]) = H4 at S4 ⊢
      refine ⟨_, rfl, rfl, _, rfl, iteN (by decide +kernel) ?_⟩
      refine ⟨_, rfl, p, _, 1, _, rfl, rfl, .inl (.inl (S4 _ _ hp)), at1, _, rfl, p, _, 2, _, rfl, rfl, .inl (.inl (S4 _ _ hp)), at2, fun x dx hx hdx nx => ⟨x, dx, _, _, rfl, upd_same, rfl, ?_⟩⟩
      have Sn := new_ins (C := He.ga K "Before") (fs := [("first", kV j), ("second", kV k)]) hx hdx nx
      exact q _ _ (S4.trans Sn) ⟨x, dx, rfl, upd_same⟩
    | first l =>
      obtain ⟨p, rfl, hp⟩ := hv
      refine ⟨_, rfl, p, _, 0, _, rfl, rfl, .inl (.inl hp), at0 hp, ?_⟩
      have S0 : Same H H := Same.refl H
      refine ⟨_, rfl, by show 2 ≤ sizeLine; decide, fun t ht => ⟨t, _, rfl, .inr (.inl (.inl upd_same)), rfl, rfl, _, rfl, iteN (by decide +kernel) ?_⟩⟩
      have S1 := S0.trans (same_new ht (.tup [.str "and", .str "or"]))
      generalize upd H t (.tup [.str "and", .str "or"]) = H1 at S1 ⊢
      refine ⟨_, rfl, rfl, _, rfl, iteN (by decide +kernel) ?_⟩
      refine ⟨_, rfl, by show 2 ≤ sizeLine; decide, fun t ht => ⟨t, _, rfl, .inr (.inl (.inl upd_same)), rfl, rfl, _, rfl, iteN (by decide +kernel) ?_⟩⟩
      have S2 := S1.trans (same_new ht (.tup [.str "kind", .str "equals"]))
      generalize upd H1 t (.tup [.str "kind", .str "equals"]) = H2 at S2 ⊢
      refine ⟨_, rfl, by show 2 ≤ sizeLine; decide, fun t ht => ⟨t, _, rfl, .inr (.inl (.inl upd_same)), rfl, rfl, _, rfl, iteN (by decide +kernel) ?_⟩⟩
      have S3 := S2.trans (same_new ht (.tup [.str "size", .str "has"]))
      generalize upd H2 t (.tup [.str "size", .str "has"]) = H3 at S3 ⊢
      refine ⟨_, rfl, by show 2 ≤ sizeLine; decide, fun t ht => ⟨t, _, rfl, .inr (.inl (.inl upd_same)), rfl, rfl, _, rfl, iteN (by decide +kernel) ?_⟩⟩
      have S4 := S3.trans (same_new ht (.tup [.str "item", .str "before"]))
      generalize upd H3 t (.tup [.str "item", .str "before"]) = H4 at S4 ⊢
      refine ⟨_, rfl, rfl, _, rfl, iteP (by decide +kernel) ?_⟩
      refine ⟨_, rfl, p, _, 1, _, rfl, rfl, .inl (.inl (S4 _ _ hp)), at1, fun x dx hx hdx nx => ⟨x, dx, _, rfl, upd_same, rfl, ?_⟩⟩
      have Sn := new_ins (C := He.ga K "First") (fs := [("label", .str l)]) hx hdx nx
      exact q _ _ (S4.trans Sn) ⟨x, dx, rfl, upd_same⟩
    | every l =>
      obtain ⟨p, rfl, hp⟩ := hv
      refine ⟨_, rfl, p, _, 0, _, rfl, rfl, .inl (.inl hp), at0 hp, ?_⟩
      have S0 : Same H H := Same.refl H
      refine ⟨_, rfl, by show 2 ≤ sizeLine; decide, fun t ht => ⟨t, _, rfl, .inr (.inl (.inl upd_same)), rfl, rfl, _, rfl, iteN (by decide +kernel) ?_⟩⟩
      have S1 := S0.trans (same_new ht (.tup [.str "and", .str "or"]))
      generalize upd H t (.tup [.str "and", .str "or"]) = H1 at S1 ⊢
      refine ⟨_, rfl, rfl, _, rfl, iteN (by decide +kernel) ?_⟩
      refine ⟨_, rfl, by show 2 ≤ sizeLine; decide, fun t ht => ⟨t, _, rfl, .inr (.inl (.inl upd_same)), rfl, rfl, _, rfl, iteN (by decide +kernel) ?_⟩⟩
      have S2 := S1.trans (same_new ht (.tup [.str "kind", .str "equals"]))
      generalize upd H1 t (.tup [.str "kind", .str "equals"]) = H2 at S2 ⊢
      refine ⟨_, rfl, by show 2 ≤ sizeLine; decide, fun t ht => ⟨t, _, rfl, .inr (.inl (.inl upd_same)), rfl, rfl, _, rfl, iteN (by decide +kernel) ?_⟩⟩
      have S3 := S2.trans (same_new ht (.tup [.str "size", .str "has"]))
      generalize upd H2 t (.tup [.str "size", .str "has"]) = H3 at S3 ⊢
      refine ⟨_, rfl, by show 2 ≤ sizeLine; decide, fun t ht => ⟨t, _, rfl, .inr (.inl (.inl upd_same)), rfl, rfl, _, rfl, iteN (by decide +kernel) ?_⟩⟩
      have S4 := S3.trans (same_new ht (.tup [.str "item", .str "before"]))
      generalize upd H3 t (.tup [.str "item", .str "before"]) = H4 at S4 ⊢
      refine ⟨_, rfl, rfl, _, rfl, iteN (by decide +kernel) ?_⟩
      refine ⟨_, rfl, rfl, _, rfl, iteP (by decide +kernel) ?_⟩
      refine ⟨_, rfl, p, _, 1, _, rfl, rfl, .inl (.inl (S4 _ _ hp)), at1, fun x dx hx hdx nx => ⟨x, dx, _, rfl, upd_same, rfl, ?_⟩⟩
      have Sn := new_ins (C := He.ga K "Every") (fs := [("label", .str l)]) hx hdx nx
      exact q _ _ (S4.trans Sn) ⟨x, dx, rfl, upd_same⟩
    | some_ l =>
      obtain ⟨p, rfl, hp⟩ := hv
      refine ⟨_, rfl, p, _, 0, _, rfl, rfl, .inl (.inl hp), at0 hp, ?_⟩
      have S0 : Same H H := Same.refl H
      refine ⟨_, rfl, by show 2 ≤ sizeLine; decide, fun t ht => ⟨t, _, rfl, .inr (.inl (.inl upd_same)), rfl, rfl, _, rfl, iteN (by decide +kernel) ?_⟩⟩
      have S1 := S0.trans (same_new ht (.tup [.str "and", .str "or"]))
      generalize upd H t (.tup [.str "and", .str "or"]) = H1 at S1 ⊢
      refine ⟨_, rfl, rfl, _, rfl, iteN (by decide +kernel) ?_⟩
      refine ⟨_, rfl, by show 2 ≤ sizeLine; decide, fun t ht => ⟨t, _, rfl, .inr (.inl (.inl upd_same)), rfl, rfl, _, rfl, iteN (by decide +kernel) ?_⟩⟩
      have S2 := S1.trans (same_new ht (.tup [.str "kind", .str "equals"]))
      generalize upd H1 t (.tup [.str "kind", .str "equals"]) = H2 at S2 ⊢
      refine ⟨_, rfl, by show 2 ≤ sizeLine; decide, fun t ht => ⟨t, _, rfl, .inr (.inl (.inl upd_same)), rfl, rfl, _, rfl, iteN (by decide +kernel) ?_⟩⟩
      have S3 := S2.trans (same_new ht (.tup [.str "size", .str "has"]))
      generalize upd H2 t (.tup [.str "size", .str "has"]) = H3 at S3 ⊢
      refine ⟨_, rfl, by show 2 ≤ sizeLine; decide, fun t ht => ⟨t, _, rfl, .inr (.inl (.inl upd_same)), rfl, rfl, _, rfl, iteN (by decide +kernel) ?_⟩⟩
      have S4 := S3.trans (same_new ht (.tup [.str "item", .str "before"]))
      generalize upd H3 t (.tup [.str "item", .str "before"]) = H4 at S4 ⊢
      refine ⟨_, rfl, rfl, _, rfl, iteN (by decide +kernel) ?_⟩
      refine ⟨_, rfl, rfl, _, rfl, iteN (by decide +kernel) ?_⟩
      refine ⟨_, rfl, p, _, 1, _, rfl, rfl, .inl (.inl (S4 _ _ hp)), at1, fun x dx hx hdx nx => ⟨x, dx, _, rfl, upd_same, rfl, ?_⟩⟩
      have Sn := new_ins (C := He.ga K "Some") (fs := [("label", .str l)]) hx hdx nx
      exact q _ _ (S4.trans Sn) ⟨x, dx, rfl, upd_same⟩
theorem cl_made (T : Tx K mg) (n : Nat) : Cl P w K mg base (n + 3) "_law_made" (spMade K n) := ⟨T.glo _, (let ⟨_, F⟩ := F_Lmade T; F.kp), ok_made T n⟩
end
/-! ### askings -/
section
variable {P : Program} {w : World} {K : PySem.W.Frag} {mg : PySem.Str → Option Value} {base : Heap}
/-- the lists that an asking is drawn from -/
structure Src (K : PySem.W.Frag) (d : Addr) (H : Hp) (kl nl al : Addr) (ks : List L2.Key) (ns : List PySem.Str) (as : List L2.Key) : Prop where
  k : SqL K (Wo d H) kl (ks.map kV)
  n : SqL K (Wo d H) nl (ns.map V.str)
  a : SqL K (Wo d H) al (as.map kV)
  k0 : 0 < ks.length
  k1 : ks.length ≤ 100
  n0 : 0 < ns.length
  n1 : ns.length ≤ 100
  a0 : 0 < as.length
  a1 : as.length ≤ 100
theorem Src.move {d : Addr} {H H' : Hp} {kl nl al : Addr} {ks : List L2.Key} {ns : List PySem.Str} {as : List L2.Key} (R : Src K d H kl nl al ks ns as) (S : Sm d H H') : Src K d H' kl nl al ks ns as :=
  ⟨seq_mono S R.k, seq_mono S R.n, seq_mono S R.a, R.k0, R.k1, R.n0, R.n1, R.a0, R.a1⟩
/-- a condition within the keys and names -/
structure CIn (ks : List L2.Key) (ns : List PySem.Str) (c : Cond) : Prop where
  m : ment ks c
  l : ∀ l ∈ labOf c, l ∈ ns
def spAsk (K : PySem.W.Frag) : Sp := fun vs H Q _ => ∃ (d kl nl al : Addr) (ks : List L2.Key) (ns : List PySem.Str) (as : List L2.Key), vs = [.ref d, .ref kl, .ref nl, .ref al] ∧ DrAt H d ∧ Src K d H kl nl al ks ns as ∧
  ∀ (v : V) (c : Cond) (H' : Hp), Sm d H H' → DrAt H' d → AskAt (Wo d H') v c → isLf c = true → CIn ks ns c → Q v H'
abbrev nAsk : List PySem.Str := ["_law_draws_here", "_law_keys_here", "_law_names", "_law_atoms", "_law_form"]
theorem scAsk : FnScope nAsk ["_law_draws_here", "_law_keys_here", "_law_names", "_law_atoms"] (defScope s_Lask) := ⟨rfl, rfl, rfl, by decide +kernel, rfl, by decide +kernel, by decide +kernel⟩
theorem cut_neg2 (xs : List V) (h : 0 < xs.length) : 0 < (cutV xs (some (-2)) none).length := by
  unfold cutV
  rw [List.length_take, List.length_drop]
  have e : HT.sIx xs.length 0 (some (-2)) = xs.length - 2 := by
    show (if (-2 : Int) < 0 then ((-2 : Int) + (xs.length : Int)).toNat else min (-2 : Int).toNat xs.length) = _
    rw [if_pos (by decide)]
    omega
  rw [e, HT.sIx_none]
  omega
theorem some_at {H : Hp} (d : Addr) {a : Addr} {xs : List V} (h : SqL K (Wo d H) a xs) (h0 : 0 < xs.length) (h1 : xs.length ≤ 1000) : Pick K (Wo d H) (.ref a) (fun x => x ∈ xs) := .inl ⟨a, xs, rfl, h, h0, h1, fun x hx => hx⟩
theorem ok_ask (T : Tx K mg) : FnR P w K mg base CX0 3 (He.ga K "_law_ask") (spAsk K) := by
  obtain ⟨fd, F⟩ := F_Lask T
  refine okR F scAsk (fun _ _ _ _ _ _ us hl => match us, hl with | [_, _, _, _], _ => rfl) (fun vs H Q E h => ?_) fun cdv A outer s H vs Q E hr h => ?_
  · obtain ⟨d, kl, nl, al, ks, ns, as, rfl, _⟩ := h
    rfl
  obtain ⟨d, kl, nl, al, ks, ns, as, rfl, D, R, q⟩ := h
  have hr1 : Room 1 _ := hr.mono (by decide)
  have GD := cl_draw (P := P) (w := w) (base := base) T
  have GS := cl_some (P := P) (w := w) (base := base) T
  have nd := scAsk.nd
  refine ⟨_, pss_cons (ps_set (i := 4) nd rfl (.inl rfl) (pe_f GD hr1 (pa_cons (pv 0) (pa_cons pe_int pa_nil))))
    (pss_cons (ps_if (pt_cmpR op_eq (pv 4) pe_int (nomark _)) (pss_one (ps_ret (pe_tup (pa_cons pe_str (pa_cons (pe_f GS hr (pa_cons (pv 0) (pa_cons (pe_lst (pa_cons pe_str (pa_cons pe_str (pa_cons pe_str (pa_cons pe_str (pa_cons pe_str (pa_cons pe_str (pa_cons pe_str (pa_cons pe_str pa_nil))))))))) pa_nil))) pa_nil))))) pss_nil)
    (pss_cons (ps_if (pt_cmpR op_eq (pv 4) pe_int (nomark _)) (pss_one (ps_ret (pe_tup (pa_cons pe_str (pa_cons (pe_f GS hr (pa_cons (pv 0) (pa_cons (pv 3) pa_nil))) pa_nil))))) pss_nil)
    (pss_cons (ps_if (pt_cmpR op_eq (pv 4) pe_int (nomark _)) (pss_one (ps_ret (pe_tup (pa_cons pe_str (pa_cons (pe_f GD hr1 (pa_cons (pv 0) (pa_cons pe_int pa_nil))) pa_nil))))) pss_nil)
    (pss_cons (ps_if (pt_cmpR op_eq (pv 4) pe_int (nomark _)) (pss_one (ps_ret (pe_tup (pa_cons pe_str (pa_cons (pe_f GS hr (pa_cons (pv 0) (pa_cons (pe_slice sl_list (pv 1) po_none (po_some pe_int)) pa_nil))) (pa_cons (pe_f GS hr (pa_cons (pv 0) (pa_cons (pe_slice sl_list (pv 1) po_none (po_some pe_int)) pa_nil))) pa_nil)))))) pss_nil)
    (pss_cons (ps_if (pt_cmpR op_lt (pv 4) pe_int (nomark _)) (pss_one (ps_ret (pe_tup (pa_cons (pe_ix ix_list (pe_lst (pa_cons pe_str (pa_cons pe_str pa_nil))) (pe_op op_sub (pv 4) pe_int) (fun _ _ => rfl)) (pa_cons (pe_f GS hr (pa_cons (pv 0) (pa_cons (pe_slice sl_list (pv 2) (po_some (pe_un un_neg pe_int)) po_none) pa_nil))) pa_nil))))) pss_nil)
    (pss_cons (ps_if (pt_cmpR op_eq (pv 4) pe_int (nomark _)) (pss_one (ps_ret (pe_tup (pa_cons pe_str (pa_cons (pe_f GS hr (pa_cons (pv 0) (pa_cons (pv 2) pa_nil))) pa_nil))))) pss_nil)
    (pss_cons (ps_if (pt_cmpR op_eq (pv 4) pe_int (nomark _)) (pss_one (ps_ret (pe_tup (pa_cons pe_str (pa_cons (pe_f GS hr (pa_cons (pv 0) (pa_cons (pv 1) pa_nil))) pa_nil))))) pss_nil)
    (pss_one (ps_ret (pe_tup (pa_cons pe_str (pa_cons (pe_f GS hr (pa_cons (pv 0) (pa_cons (pv 1) pa_nil))) (pa_cons (pe_f GS hr (pa_cons (pv 0) (pa_cons (pv 2) pa_nil))) pa_nil))))))))))))), ?_⟩
  have fin : ∀ (c : Cond) (xs : List V) (H2 : Hp), Sm d H H2 → DrAt H2 d → (∀ (G : Hp) (p : Addr), G p = some (.tup xs) → AskAt G (.ref p) c) → isLf c = true → CIn ks ns c → ∀ p, H2 p = none → Q (.ref p) (upd H2 p (.tup xs)) := by
    intro c xs H2 S2 D2 hA hf hc p hp
    have np := D2.ne hp
    exact q _ c _ (S2.trans (Sm.of (same_new hp _))) (D2.set np) (hA _ _ ((wo_ne np).trans upd_same)) hf hc
  have kM : ∀ {x : V}, x ∈ ks.map kV → ∃ k ∈ ks, x = kV k := fun hx => by
    obtain ⟨k, hk, e⟩ := List.mem_map.mp hx
    exact ⟨k, hk, e.symm⟩
  have nM : ∀ {x : V}, x ∈ ns.map V.str → ∃ l ∈ ns, x = .str l := fun hx => by
    obtain ⟨k, hk, e⟩ := List.mem_map.mp hx
    exact ⟨k, hk, e.symm⟩
  have kl0 : 0 < (ks.map kV).length := by rw [List.length_map]; exact R.k0
  have kl1 : (ks.map kV).length ≤ 1000 := by rw [List.length_map]; exact Nat.le_trans R.k1 (by decide)
  have nl0 : 0 < (ns.map V.str).length := by rw [List.length_map]; exact R.n0
  have nl1 : (ns.map V.str).length ≤ 1000 := by rw [List.length_map]; exact Nat.le_trans R.n1 (by decide)
  refine ⟨_, rfl, d, 10, rfl, D, by decide, by decide, fun f H1 f0 f1 S1 D1 => ?_⟩
  have R1 := R.move S1
  -- kind
  refine ⟨_, rfl, rfl, _, rfl, ite2 (fun _ => ?_) (fun c0 => ?_)⟩
  · refine ⟨_, rfl, by show 8 ≤ sizeLine; decide, fun l hl => ?_⟩
    have nl := D1.ne hl
    refine ⟨d, _, _, rfl, D1.set nl, some_at d (SqL.of ((wo_ne nl).trans upd_same)) (by show 0 < 8; decide) (by show 8 ≤ 1000; decide), fun x H2 hx S2 D2 => ⟨by show 2 ≤ sizeLine; decide, fun p hp => ?_⟩⟩
    obtain ⟨z, hz, rfl⟩ := List.mem_map.mp (show x ∈ kinds.map V.str from hx)
    exact fin (.kind z) _ H2 ((S1.trans (Sm.of (same_new hl _))).trans S2) D2 (fun G p h => ⟨⟨p, rfl, h⟩, hz⟩) rfl ⟨trivial, fun l h => by cases h⟩ p hp
  -- equals
  refine ⟨_, rfl, rfl, _, rfl, ite2 (fun _ => ?_) (fun c1 => ?_)⟩
  · refine ⟨_, rfl, _, rfl, d, _, _, rfl, D1, some_at d R1.a (by rw [List.length_map]; exact R.a0) (by rw [List.length_map]; exact Nat.le_trans R.a1 (by decide)), fun x H2 hx S2 D2 => ⟨by show 2 ≤ sizeLine; decide, fun p hp => ?_⟩⟩
    obtain ⟨k, hk, rfl⟩ := List.mem_map.mp hx
    exact fin (.equals k) _ H2 (S1.trans S2) D2 (fun G p h => ⟨p, rfl, h⟩) rfl ⟨trivial, fun l h => by cases h⟩ p hp
  -- size
  refine ⟨_, rfl, rfl, _, rfl, ite2 (fun _ => ?_) (fun c2 => ?_)⟩
  · refine ⟨_, rfl, d, 5, rfl, D1, by decide, by decide, fun z H2 z0 z1 S2 D2 => ⟨by show 2 ≤ sizeLine; decide, fun p hp => ?_⟩⟩
    exact fin (.size z) _ H2 (S1.trans S2) D2 (fun G p h => ⟨⟨p, rfl, h⟩, z0, by omega⟩) rfl ⟨trivial, fun l h => by cases h⟩ p hp
  -- before
  have cut2 : ∀ H2, Sm d H H2 → DrAt H2 d → ∀ C : VK, (∀ (k : L2.Key) (H3 : Hp), k ∈ ks → Sm d H2 H3 → DrAt H3 d → C (kV k) H3) → ∀ p, H2 p = none → spSome K [.ref d, .ref p] (upd H2 p (.lst (cutV (ks.map kV) none (some 2)))) C E0 := by
    intro H2 S2 D2 C hC p hp
    have np := D2.ne hp
    have e : cutV (ks.map kV) none (some 2) = (ks.map kV).take 2 := cut_hi (ks.map kV) 2
    refine ⟨d, _, _, rfl, D2.set np, some_at d (SqL.of ((wo_ne np).trans upd_same)) ?_ (Nat.le_trans (cutV_length _ _ _) kl1), fun x H3 hx S3 D3 => ?_⟩
    · rw [e, List.length_take]
      omega
    · obtain ⟨k, hk, rfl⟩ := kM (mem_cutV hx)
      exact hC k H3 hk ((Sm.of (same_new hp _)).trans S3) D3
  refine ⟨_, rfl, rfl, _, rfl, ite2 (fun _ => ?_) (fun c3 => ?_)⟩
  · refine ⟨_, rfl, _, rfl, 2, rfl, kl, _, rfl, seq_mono wo_sub R1.k, fun p1 hp1 => cut2 H1 S1 D1 _ (fun j H2 hj S2 D2 => ?_) p1 hp1⟩
    have S12 := S1.trans S2
    refine ⟨_, rfl, _, rfl, 2, rfl, kl, _, rfl, seq_mono wo_sub (R.move S12).k, fun p2 hp2 => cut2 H2 S12 D2 _ (fun k H3 hk S3 D3 => ⟨by show 3 ≤ sizeLine; decide, fun p hp => ?_⟩) p2 hp2⟩
    exact fin (.before j k) _ H3 (S12.trans S3) D3 (fun G p h => ⟨p, rfl, h⟩) rfl ⟨⟨hj, hk⟩, fun l h => by cases h⟩ p hp
  -- every, some
  refine ⟨_, rfl, _, _, rfl, rfl, _, rfl, ite2 (fun c4 => ?_) (fun _ => ?_)⟩
  · refine ⟨by show 2 ≤ sizeLine; decide, fun p1 hp1 => ?_⟩
    have n1 := D1.ne hp1
    have S2 : Sm d H (upd H1 p1 (.lst [.str "every", .str "some"])) := S1.trans (Sm.of (same_new hp1 _))
    have D2 : DrAt (upd H1 p1 (.lst [.str "every", .str "some"])) d := D1.set n1
    have h1 : (upd H1 p1 (.lst [.str "every", .str "some"])) p1 = some (.lst [.str "every", .str "some"]) := upd_same
    generalize upd H1 p1 (.lst [.str "every", .str "some"]) = H2 at S2 D2 h1 ⊢
    have go : ∀ (z : PySem.Str) (g : PySem.Str → Cond), (∀ l (G : Hp) p, G p = some (.tup [.str z, .str l]) → AskAt G (.ref p) (g l)) → (∀ l, isLf (g l) = true) → (∀ l ∈ ns, CIn ks ns (g l)) →
        ∀ p, H2 p = none → spSome K [.ref d, .ref p] (upd H2 p (.lst (cutV (ns.map V.str) (some (-2)) none))) (fun x H3 => 2 ≤ sizeLine ∧ ∀ t, H3 t = none → Q (.ref t) (upd H3 t (.tup [.str z, x]))) E0 := by
      intro z g h1 h2 h3 p hp
      have np := D2.ne hp
      refine ⟨d, _, _, rfl, D2.set np, some_at d (SqL.of ((wo_ne np).trans upd_same)) (cut_neg2 _ nl0) (Nat.le_trans (cutV_length _ _ _) nl1), fun x H3 hx S3 D3 => ⟨by decide, fun t ht => ?_⟩⟩
      obtain ⟨l, hl, rfl⟩ := nM (mem_cutV hx)
      exact fin (g l) _ H3 ((S2.trans (Sm.of (same_new hp _))).trans S3) D3 (h1 l) (h2 l) (h3 l hl) t ht
    have nls : SqL K H2 nl (ns.map V.str) := seq_mono wo_sub (R.move S2).n
    have e0 : f ≠ 0 := fun e => absurd c0 (by rw [e]; decide)
    have e1 : f ≠ 1 := fun e => absurd c1 (by rw [e]; decide)
    have e2 : f ≠ 2 := fun e => absurd c2 (by rw [e]; decide)
    have e3 : f ≠ 3 := fun e => absurd c3 (by rw [e]; decide)
    have e4 : f < 6 := of_decide_eq_true c4
    have ff : f = 4 ∨ f = 5 := by omega
    rcases ff with rfl | rfl
    · refine ⟨_, rfl, _, _, rfl, rfl, p1, _, _, .str "every", rfl, rfl, SqL.of h1, rfl, _, rfl, _, rfl, _, rfl, _, rfl, nl, _, rfl, nls, go "every" .every (fun l G p h => ⟨p, rfl, h⟩) (fun l => rfl) fun l hl => ⟨trivial, fun x hx => ?_⟩⟩
      rw [List.mem_singleton.mp hx]
      exact hl
    · refine ⟨_, rfl, _, _, rfl, rfl, p1, _, _, .str "some", rfl, rfl, SqL.of h1, rfl, _, rfl, _, rfl, _, rfl, _, rfl, nl, _, rfl, nls, go "some" .some_ (fun l G p h => ⟨p, rfl, h⟩) (fun l => rfl) fun l hl => ⟨trivial, fun x hx => ?_⟩⟩
      rw [List.mem_singleton.mp hx]
      exact hl
  -- first
  refine ⟨_, rfl, rfl, _, rfl, ite2 (fun _ => ?_) (fun _ => ?_)⟩
  · refine ⟨_, rfl, _, rfl, d, _, _, rfl, D1, some_at d R1.n nl0 nl1, fun x H2 hx S2 D2 => ⟨by show 2 ≤ sizeLine; decide, fun p hp => ?_⟩⟩
    obtain ⟨l, hl, rfl⟩ := nM hx
    refine fin (.first l) _ H2 (S1.trans S2) D2 (fun G p h => ⟨p, rfl, h⟩) rfl ⟨trivial, fun x hx => ?_⟩ p hp
    rw [List.mem_singleton.mp hx]
    exact hl
  -- has
  refine ⟨_, rfl, rfl, _, rfl, ite2 (fun _ => ?_) (fun _ => ?_)⟩
  · refine ⟨_, rfl, _, rfl, d, _, _, rfl, D1, some_at d R1.k kl0 kl1, fun x H2 hx S2 D2 => ⟨by show 2 ≤ sizeLine; decide, fun p hp => ?_⟩⟩
    obtain ⟨k, hk, rfl⟩ := kM hx
    exact fin (.has k) _ H2 (S1.trans S2) D2 (fun G p h => ⟨p, rfl, h⟩) rfl ⟨hk, fun l h => by cases h⟩ p hp
  -- item
  refine ⟨_, rfl, _, rfl, d, _, _, rfl, D1, some_at d R1.k kl0 kl1, fun x H2 hx S2 D2 => ?_⟩
  obtain ⟨k, hk, rfl⟩ := kM hx
  refine ⟨_, rfl, _, rfl, d, _, _, rfl, D2, some_at d (R1.move S2).n nl0 nl1, fun y H3 hy S3 D3 => ⟨by show 3 ≤ sizeLine; decide, fun p hp => ?_⟩⟩
  obtain ⟨l, hl, rfl⟩ := nM hy
  refine fin (.item k l) _ H3 ((S1.trans S2).trans S3) D3 (fun G p h => ⟨p, rfl, h⟩) rfl ⟨hk, fun x hx => ?_⟩ p hp
  rw [List.mem_singleton.mp hx]
  exact hl
theorem cl_ask (T : Tx K mg) : Cl P w K mg base 3 "_law_ask" (spAsk K) := ⟨T.glo _, (let ⟨_, F⟩ := F_Lask T; F.kp), ok_ask T⟩
end
/-! ### joined askings -/
section
variable {P : Program} {w : World} {K : PySem.W.Frag} {mg : PySem.Str → Option Value} {base : Heap}
theorem CIn.both {ks : List L2.Key} {ns : List PySem.Str} {a b : Cond} (x : CIn ks ns a) (y : CIn ks ns b) : CIn ks ns (.both a b) :=
  ⟨⟨x.m, y.m⟩, fun l h => (List.mem_append.mp (show l ∈ labOf a ++ labOf b from h)).elim (x.l l) (y.l l)⟩
theorem CIn.either {ks : List L2.Key} {ns : List PySem.Str} {a b : Cond} (x : CIn ks ns a) (y : CIn ks ns b) : CIn ks ns (.either a b) :=
  ⟨⟨x.m, y.m⟩, fun l h => (List.mem_append.mp (show l ∈ labOf a ++ labOf b from h)).elim (x.l l) (y.l l)⟩
theorem CIn.inv {ks : List L2.Key} {ns : List PySem.Str} {a : Cond} (x : CIn ks ns a) : CIn ks ns (.inverse a) := ⟨x.m, x.l⟩
theorem leaf_hl {c : Cond} (h : isLf c = true) : hl c = 2 ∧ cnt c = 1 := by
  cases c with
  | both _ _ => cases h
  | either _ _ => cases h
  | inverse _ => cases h
  | _ => exact ⟨rfl, rfl⟩
def spJoined (K : PySem.W.Frag) : Sp := fun vs H Q _ => ∃ (d kl nl al : Addr) (ks : List L2.Key) (ns : List PySem.Str) (as : List L2.Key) (m : Int), vs = [.ref d, .ref kl, .ref nl, .ref al, .int m] ∧ 1 ≤ m ∧ m ≤ 4 ∧ DrAt H d ∧ Src K d H kl nl al ks ns as ∧
  ∀ (v : V) (c : Cond) (H' : Hp), Sm d H H' → DrAt H' d → AskAt (Wo d H') v c → CIn ks ns c → hl c ≤ 10 → cnt c ≤ 50 → Q v H'
abbrev nJoined : List PySem.Str := ["_law_draws_here", "_law_keys_here", "_law_names", "_law_atoms", "_law_most", "_law_ask_here", "_law_turn", "_law_other", "_law_word"]
theorem scJoined : FnScope nJoined ["_law_draws_here", "_law_keys_here", "_law_names", "_law_atoms", "_law_most"] (defScope s_Ljoined) := ⟨rfl, rfl, rfl, by decide +kernel, rfl, by decide +kernel, by decide +kernel⟩
theorem ok_joined (T : Tx K mg) : FnR P w K mg base CX0 4 (He.ga K "_law_joined") (spJoined K) := by
  obtain ⟨fd, F⟩ := F_Ljoined T
  refine okR F scJoined (fun _ _ _ _ _ _ us hl => match us, hl with | [_, _, _, _, _], _ => rfl) (fun vs H Q E h => ?_) fun cdv A outer s H vs Q E hr h => ?_
  · obtain ⟨d, kl, nl, al, ks, ns, as, m, rfl, _⟩ := h
    rfl
  obtain ⟨d, kl, nl, al, ks, ns, as, m, rfl, m1, m4, D, R, q⟩ := h
  have hr1 : Room 1 _ := hr.mono (by decide)
  have hr2 : Room 2 _ := hr.mono (by decide)
  have GD := cl_draw (P := P) (w := w) (base := base) T
  have GS := cl_some (P := P) (w := w) (base := base) T
  have GA := cl_ask (P := P) (w := w) (base := base) T
  have nd := scJoined.nd
  refine ⟨_, pss_cons (ps_set (i := 5) nd rfl (.inl rfl) (pe_f GA hr (pa_cons (pv 0) (pa_cons (pv 1) (pa_cons (pv 2) (pa_cons (pv 3) pa_nil))))))
    (pss_cons (ps_for PassesOwn.never rfl (pi_range1 (by rfl) (T.free "range") (pa_cons (pe_f GD hr1 (pa_cons (pv 0) (pa_cons (pv 4) pa_nil))) pa_nil)) (pg_name (i := 6) nd rfl (.inl rfl))
      (pss_cons (ps_set (i := 7) nd rfl (.inl rfl) (pe_f GA hr (pa_cons (pv 0) (pa_cons (pv 1) (pa_cons (pv 2) (pa_cons (pv 3) pa_nil))))))
      (C8.pss_cut (ps_if (pt_cmpR op_eq (pe_f GD hr1 (pa_cons (pv 0) (pa_cons pe_int pa_nil))) pe_int (nomark _)) (pss_one (ps_set (i := 7) nd rfl (.inl rfl) (pe_tup (pa_cons pe_str (pa_cons (pv 7) pa_nil))))) pss_nil)
      (pss_cons (ps_set (i := 8) nd rfl (.inl rfl) (pe_f GS hr2 (pa_cons (pv 0) (pa_cons (pe_lst (pa_cons pe_str (pa_cons pe_str pa_nil))) pa_nil))))
      (pss_cons (ps_set (i := 5) nd rfl (.inl rfl) (pe_j (pe_ifExp (pt_cmpR op_eq (pe_f GD hr1 (pa_cons (pv 0) (pa_cons pe_int pa_nil))) pe_int (nomark _)) (pe_tup (pa_cons (pv 8) (pa_cons (pv 5) (pa_cons (pv 7) pa_nil)))) (pe_tup (pa_cons (pv 8) (pa_cons (pv 7) (pa_cons (pv 5) pa_nil)))))))
      (pss_one (ps_if (pt_cmpR op_eq (pe_f GD hr1 (pa_cons (pv 0) (pa_cons pe_int pa_nil))) pe_int (nomark _)) (pss_one (ps_set (i := 5) nd rfl (.inl rfl) (pe_tup (pa_cons pe_str (pa_cons (pv 5) pa_nil))))) pss_nil)))))))
    (pss_one (ps_ret (pv 5)))), ?_⟩
  refine ⟨_, rfl, _, rfl, _, rfl, _, rfl, d, kl, nl, al, ks, ns, as, rfl, D, R, fun v0 c0 H0 S0 D0 a0 l0 i0 => ?_⟩
  refine ⟨_, rfl, _, rfl, d, m, rfl, D0, by omega, by omega, fun r H1 r0 r1 S1 D1 => ⟨r, rfl, by omega, by omega, ?_⟩⟩
  refine for_range (lo := 0) (n := r.toNat) (fun i σ H2 => ∃ (v : V) (c : Cond) (o6 o7 o8 : Option V), σ = [some (.ref d), some (.ref kl), some (.ref nl), some (.ref al), some (.int m), some v, o6, o7, o8] ∧ Sm d H H2 ∧ DrAt H2 d ∧ AskAt (Wo d H2) v c ∧ CIn ks ns c ∧ hl c ≤ 2 * i + 3 ∧ cnt c ≤ i + 1)
    ⟨v0, c0, none, none, none, rfl, S0.trans S1, D1, a0.mono S1, i0, by rw [(leaf_hl l0).1]; omega, by rw [(leaf_hl l0).2]; omega⟩ ?_ ?_
  · rintro i σ H2 hi ⟨v, c, o6, o7, o8, rfl, S2, D2, a2, i2, h2, n2⟩
    refine ⟨_, rfl, _, rfl, _, rfl, _, rfl, d, kl, nl, al, ks, ns, as, rfl, D2, R.move S2, fun w0 e0 H3 S3 D3 b0 lb j0 => ?_⟩
    have S23 := S2.trans S3
    have a3 := a2.mono S3
    refine ⟨fun σ' H' => ∃ (u : V) (e : Cond), σ' = [some (.ref d), some (.ref kl), some (.ref nl), some (.ref al), some (.int m), some v, some (.int (0 + i)), some u, o8] ∧ Sm d H H' ∧ DrAt H' d ∧ AskAt (Wo d H') v c ∧ AskAt (Wo d H') u e ∧ CIn ks ns e ∧ hl e ≤ 3 ∧ cnt e ≤ 1, ?_, ?_⟩
    · refine ⟨_, rfl, d, 3, rfl, D3, by decide, by decide, fun y H4 _ _ S4 D4 => ⟨rfl, _, rfl, ?_⟩⟩
      have l1 := leaf_hl lb
      refine ite2 (fun _ => ?_) (fun _ => ?_)
      · refine ⟨_, rfl, by show 2 ≤ sizeLine; decide, fun p hp => ?_⟩
        have np := D4.ne hp
        have S5 : Sm d H4 (upd H4 p (.tup [.str "not", w0])) := Sm.of (same_new hp _)
        refine ⟨.ref p, .inverse e0, rfl, (S23.trans S4).trans S5, D4.set np, (a3.mono S4).mono S5, ⟨w0, ⟨p, rfl, (wo_ne np).trans upd_same⟩, (b0.mono S4).mono S5⟩, j0.inv, ?_, ?_⟩
        · show hl e0 + 1 ≤ 3
          omega
        · show cnt e0 ≤ 1
          omega
      · exact ⟨w0, e0, rfl, S23.trans S4, D4, a3.mono S4, b0.mono S4, j0, by omega, by omega⟩
    rintro σ' H4 ⟨u, e, rfl, S4, D4, a4, b4, j4, he, ne⟩
    refine ⟨_, rfl, by show 2 ≤ sizeLine; decide, fun p hp => ?_⟩
    have np := D4.ne hp
    have S5 : Sm d H4 (upd H4 p (.lst [.str "and", .str "or"])) := Sm.of (same_new hp _)
    refine ⟨d, _, _, rfl, D4.set np, some_at d (SqL.of ((wo_ne np).trans upd_same)) (by show 0 < 2; decide) (by show 2 ≤ 1000; decide), fun x H6 hx S6 D6 => ?_⟩
    have S46 := S5.trans S6
    have a6 := a4.mono S46
    have b6 := b4.mono S46
    have S06 := S4.trans S46
    have jn : ∀ (H7 : Hp) (v1 v2 : V) (c1 c2 : Cond), AskAt (Wo d H7) v1 c1 → AskAt (Wo d H7) v2 c2 → CIn ks ns c1 → CIn ks ns c2 → DrAt H7 d → ∀ t, H7 t = none → ∃ c', AskAt (Wo d (upd H7 t (.tup [x, v1, v2]))) (.ref t) c' ∧ CIn ks ns c' ∧ hl c' = max (hl c1) (hl c2) + 1 ∧ cnt c' = cnt c1 + cnt c2 := by
      intro H7 v1 v2 c1 c2 g1 g2 k1 k2 D7 t ht
      have nt := D7.ne ht
      have S7 : Sm d H7 (upd H7 t (.tup [x, v1, v2])) := Sm.of (same_new ht _)
      have ht7 : Wo d (upd H7 t (.tup [x, v1, v2])) t = some (.tup [x, v1, v2]) := (wo_ne nt).trans upd_same
      rcases List.mem_cons.mp hx with rfl | hx
      · exact ⟨.both c1 c2, ⟨v1, v2, ⟨t, rfl, ht7⟩, g1.mono S7, g2.mono S7⟩, k1.both k2, rfl, rfl⟩
      · obtain rfl := List.mem_singleton.mp hx
        exact ⟨.either c1 c2, ⟨v1, v2, ⟨t, rfl, ht7⟩, g1.mono S7, g2.mono S7⟩, k1.either k2, rfl, rfl⟩
    refine ⟨fun z H7 => ∃ c', Sm d H H7 ∧ DrAt H7 d ∧ AskAt (Wo d H7) z c' ∧ CIn ks ns c' ∧ hl c' ≤ 2 * i + 4 ∧ cnt c' ≤ i + 2, ?_, ?_⟩
    · refine ⟨_, rfl, d, 2, rfl, D6, by decide, by decide, fun y H7 _ _ S7 D7 => ⟨rfl, _, rfl, ?_⟩⟩
      refine ite2 (fun _ => ?_) (fun _ => ?_)
      · refine ⟨_, rfl, _, rfl, _, rfl, by show 3 ≤ sizeLine; decide, fun t ht => ?_⟩
        obtain ⟨c', g1, g2, g3, g4⟩ := jn H7 v u c e (a6.mono S7) (b6.mono S7) i2 j4 D7 t ht
        exact ⟨c', (S06.trans S7).trans (Sm.of (same_new ht _)), D7.set (D7.ne ht), g1, g2, by omega, by omega⟩
      · refine ⟨_, rfl, _, rfl, _, rfl, by show 3 ≤ sizeLine; decide, fun t ht => ?_⟩
        obtain ⟨c', g1, g2, g3, g4⟩ := jn H7 u v e c (b6.mono S7) (a6.mono S7) j4 i2 D7 t ht
        exact ⟨c', (S06.trans S7).trans (Sm.of (same_new ht _)), D7.set (D7.ne ht), g1, g2, by omega, by omega⟩
    rintro z H7 ⟨c', S7, D7, a7, j7, h7, n7⟩
    refine ⟨_, rfl, d, 4, rfl, D7, by decide, by decide, fun y H8 _ _ S8 D8 => ⟨rfl, _, rfl, ?_⟩⟩
    refine ite2 (fun _ => ?_) (fun _ => ?_)
    · refine ⟨_, rfl, by show 2 ≤ sizeLine; decide, fun t ht => ?_⟩
      have nt := D8.ne ht
      have S9 : Sm d H8 (upd H8 t (.tup [.str "not", z])) := Sm.of (same_new ht _)
      refine ⟨.ref t, .inverse c', _, _, _, rfl, (S7.trans S8).trans S9, D8.set nt, ⟨z, ⟨t, rfl, (wo_ne nt).trans upd_same⟩, (a7.mono S8).mono S9⟩, j7.inv, ?_, ?_⟩
      · show hl c' + 1 ≤ _
        omega
      · show cnt c' ≤ _
        omega
    · exact ⟨z, c', _, _, _, rfl, S7.trans S8, D8, a7.mono S8, j7, by omega, by omega⟩
  · rintro σ H2 ⟨v, c, o6, o7, o8, rfl, S2, D2, a2, i2, h2, n2⟩
    exact ⟨_, rfl, q v c H2 S2 D2 a2 i2 (by omega) (by omega)⟩
theorem cl_joined (T : Tx K mg) : Cl P w K mg base 4 "_law_joined" (spJoined K) := ⟨T.glo _, (let ⟨_, F⟩ := F_Ljoined T; F.kp), ok_joined T⟩
end
/-! ### other keys -/
structure Turned (ks : List L2.Key) (kn : Nat) (os : List L2.Key) : Prop where
  len : os.length = ks.length
  nd : os.Nodup
  same : os.take kn = ks.take kn
  new : ∀ j x, kn ≤ j → os[j]? = some x → x ∉ ks
theorem Turned.fix {ks os : List L2.Key} {kn : Nat} (T : Turned ks kn os) (hk : ks.Nodup) : Fix (fmap ks os) (ks.take kn) := by
  have lo : ∀ k ∈ ks, ks.idxOf k < kn → fmap ks os k = k := by
    intro k hk h
    have e := fmap_at T.len hk
    have hi := List.idxOf_lt_length_of_mem hk
    have e2 : (os.take kn)[ks.idxOf k]? = some (fmap ks os k) := by
      rw [List.getElem?_take, if_pos h]
      exact e
    rw [T.same, List.getElem?_take, if_pos h, List.getElem?_eq_getElem hi, List.getElem_idxOf] at e2
    exact (Option.some.inj e2).symm
  refine ⟨fun k h => ?_, fun k h => ?_⟩
  · obtain ⟨j, hj, ej⟩ := List.mem_iff_getElem.mp h
    rw [List.length_take] at hj
    rw [List.getElem_take] at ej
    have hin : k ∈ ks := List.mem_of_mem_take h
    refine lo k hin ?_
    have e : ks.idxOf k = j := by
      have h1 : ks.idxOf k < ks.length := List.idxOf_lt_length_of_mem hin
      have h2 : ks[ks.idxOf k]'h1 = k := List.getElem_idxOf _
      by_cases c : ks.idxOf k < j
      · exact absurd (h2.trans ej.symm) ((List.pairwise_iff_getElem.mp hk) _ _ h1 (by omega) c)
      · by_cases c2 : j < ks.idxOf k
        · exact absurd (ej.trans h2.symm) ((List.pairwise_iff_getElem.mp hk) _ _ (by omega) h1 c2)
        · omega
    omega
  · by_cases hin : k ∈ ks
    · by_cases c : ks.idxOf k < kn
      · exact lo k hin c
      · exact absurd (List.mem_of_mem_take h) (T.new _ _ (by omega) (fmap_at T.len hin))
    · unfold fmap
      rw [if_neg hin]
def NewAt (mx : Int) (k : Nat) : L2.Key → Prop
  | .inl n => n = 10 ^ 29 + 10 ^ 28 * (k : Int)
  | .inr z => (z.length : Int) = mx + 1 + (k : Int)
/-- the keys at hand: ints under 10^28, texts no longer than mx -/
def Und (mx : Int) (ks : List L2.Key) : Prop := ∀ k ∈ ks, match k with
  | .inl n => -(10 ^ 28) < n ∧ n < 10 ^ 28
  | .inr z => (z.length : Int) ≤ mx
theorem newAt_out {mx : Int} {ks : List L2.Key} (h : Und mx ks) {k : Nat} {x : L2.Key} (hx : NewAt mx k x) : x ∉ ks := by
  intro z
  have := h x z
  cases x with
  | inl n =>
    have e : n = 10 ^ 29 + 10 ^ 28 * (k : Int) := hx
    have u : n < 10 ^ 28 := this.2
    omega
  | inr y =>
    have e : (y.length : Int) = mx + 1 + (k : Int) := hx
    have u : (y.length : Int) ≤ mx := this
    omega
theorem newAt_inj {mx : Int} {j k : Nat} {x : L2.Key} (h1 : NewAt mx j x) (h2 : NewAt mx k x) : j = k := by
  cases x with
  | inl n =>
    have e1 : n = 10 ^ 29 + 10 ^ 28 * (j : Int) := h1
    have e2 : n = 10 ^ 29 + 10 ^ 28 * (k : Int) := h2
    omega
  | inr y =>
    have e1 : (y.length : Int) = mx + 1 + (j : Int) := h1
    have e2 : (y.length : Int) = mx + 1 + (k : Int) := h2
    omega
theorem turned_of {mx : Int} {ks ns : List L2.Key} {kn : Nat} (hk : ks.Nodup) (hu : Und mx ks) (hkn : kn ≤ ks.length) (hl : ns.length = ks.length - kn) (hn : ∀ j x, ns[j]? = some x → NewAt mx (kn + j) x) : Turned ks kn (ks.take kn ++ ns) := by
  have lt : (ks.take kn).length = kn := by
    rw [List.length_take]
    omega
  refine ⟨by rw [List.length_append, lt, hl]; omega, ?_, ?_, fun j x hj hx => ?_⟩
  · refine List.nodup_append.mpr ⟨hk.sublist (List.take_sublist _ _), ?_, fun a ha b hb e => ?_⟩
    · refine List.pairwise_iff_getElem.mpr fun i j hi hj hij e => ?_
      have a := hn i _ (List.getElem?_eq_getElem hi)
      have b := hn j _ (List.getElem?_eq_getElem hj)
      rw [← e] at b
      have := newAt_inj a b
      omega
    · obtain ⟨j, hj, ej⟩ := List.mem_iff_getElem.mp hb
      have b2 := hn j _ (List.getElem?_eq_getElem hj)
      rw [ej, ← e] at b2
      exact newAt_out hu b2 (List.mem_of_mem_take ha)
  · rw [List.take_append_of_le_length (by omega), List.take_of_length_le (by omega)]
  · rw [List.getElem?_append_right (by omega), lt] at hx
    exact newAt_out hu (hn _ _ hx)
section
variable {P : Program} {w : World} {K : PySem.W.Frag} {mg : PySem.Str → Option Value} {base : Heap}
def K28 : L2.Key → Prop
  | .inl n => -(10 ^ 28) < n ∧ n < 10 ^ 28
  | .inr z => z.length ≤ 2000
theorem K28.ok {k : L2.Key} (h : K28 k) : KOk k := by
  cases k with
  | inl n =>
    have h2 : -(10 ^ 28) < n ∧ n < 10 ^ 28 := h
    show -(10 ^ 30) < n ∧ n < 10 ^ 30
    omega
  | inr z => exact h
def spTurned (K : PySem.W.Frag) : Sp := fun vs H Q _ => ∃ (d kl : Addr) (ks : List L2.Key) (kn : Nat), vs = [.ref d, .ref kl, .int (kn : Int)] ∧ DrAt H d ∧ SqL K (Wo d H) kl (ks.map kV) ∧ (∀ k ∈ ks, K28 k) ∧ ks.Nodup ∧ 1 ≤ kn ∧ kn ≤ ks.length ∧ ks.length ≤ 100 ∧
  ∀ (r : Addr) (os : List L2.Key) (H' : Hp), Sm d H H' → DrAt H' d → r ≠ d → H' r = some (.lst (os.map kV)) → Turned ks kn os → Q (.ref r) H'
abbrev nTurned : List PySem.Str := ["_law_draws_here", "_law_keys_here", "_law_known", "_law_found", "_law_longest", "_law_k", "_law_key"]
theorem scTurned : FnScope nTurned ["_law_draws_here", "_law_keys_here", "_law_known"] (defScope s_Lturned) := ⟨rfl, rfl, rfl, by decide +kernel, rfl, by decide +kernel, by decide +kernel⟩
theorem ok_turned (T : Tx K mg) : FnR P w K mg base CX0 2 (He.ga K "_law_turned") (spTurned K) := by
  obtain ⟨fd, F⟩ := F_Lturned T
  refine okR F scTurned (fun _ _ _ _ _ _ us hl => match us, hl with | [_, _, _], _ => rfl) (fun vs H Q E h => ?_) fun cdv A outer s H vs Q E hr h => ?_
  · obtain ⟨d, kl, ks, kn, rfl, _⟩ := h
    rfl
  obtain ⟨d, kl, ks, kn, rfl, D, hk, h28, hnd, kn1, knl, l100, q⟩ := h
  have GD := cl_draw (P := P) (w := w) (base := base) T
  have nd := scTurned.nd
  have tl := T.free "list"
  have bl : bootBuiltins "list" = some (.type "list") := by decide +kernel
  refine ⟨_, pss_cons (ps_set (i := 3) nd rfl (.inl rfl) (pe_callTy call_list_of rfl tl bl (pa_cons (pe_slice sl_list (pv 1) po_none (po_some (pv 2))) pa_nil)))
    (pss_cons (ps_set (i := 4) nd rfl (.inl rfl) (pe_callB (cr_max rfl) rfl (T.free "max") boot_max (pa_cons (pe_lc (own := [("_law_key", 6)]) (g := gName 6) (tt := tYes) (te := tCB (fun xs H Q => ∃ x n, xs = [x] ∧ LenV K x H n ∧ Q (.int n) H) (tCons (tCB rStr (tCons (tVar 6) tNil)) tNil)) rfl nd (pi_list (pv 1))
        (blkOk_by (own := [("_law_key", 6)]) (N := nTurned) (sc := defScope s_Lturned) (by decide +kernel)) (fun _ _ _ _ _ => pg_name (i := 6) nd rfl (Or.inl rfl)) (fun _ _ _ _ _ => pts_nil)
        (fun _ _ _ _ _ => pe_callB call_len rfl (T.free "len") boot_len (pa_cons (pe_callTy call_strK rfl (T.free "str") boot_str (pa_cons (pv 6) pa_nil)) pa_nil))) pa_nil)))
    (pss_cons (ps_for PassesOwn.never rfl (pi_range2 (by rfl) (T.free "range") (pa_cons (pv 2) (pa_cons (pe_callB call_len_seq rfl (T.free "len") boot_len (pa_cons (pv 1) pa_nil)) pa_nil))) (pg_name (i := 5) nd rfl (.inl rfl))
      (pss_one (ps_if (pt_cmpR op_eq (pe_f GD hr (pa_cons (pv 0) (pa_cons pe_int pa_nil))) pe_int (nomark _))
        (pss_one (ps_expr (pe_bm PySem.F.plainAttrs_list PySem.F.slot_list_append PySem.F.type_list_append mt_append (pv 3) (pa_cons (pe_op op_add (pe_op op_pow pe_int pe_int) (pe_op op_mul (pe_op op_pow pe_int pe_int) (pv 5))) pa_nil))))
        (pss_one (ps_expr (pe_bm PySem.F.plainAttrs_list PySem.F.slot_list_append PySem.F.type_list_append mt_append (pv 3) (pa_cons (pe_op op_mul_str pe_str (pe_op op_add (pe_op op_add (pv 4) pe_int) (pv 5))) pa_nil)))))))
    (pss_one (ps_ret (pv 3))))), ?_⟩
  have hkH : SqL K H kl (ks.map kV) := seq_mono wo_sub hk
  refine ⟨_, rfl, _, rfl, _, rfl, kl, _, rfl, hkH, fun p hp => ?_⟩
  have ec : cutV (ks.map kV) none (some (kn : Int)) = (ks.take kn).map kV := by
    rw [cut_hi, List.map_take]
  have S1 := same_new hp (.lst (cutV (ks.map kV) none (some (kn : Int))))
  refine ⟨p, _, rfl, .inl (SqL.of upd_same), fun f hf => ?_⟩
  have hfH : H f = none := S1.free hf
  rw [ec] at hf S1 ⊢
  have S2 := S1.trans (same_new hf (.lst ((ks.take kn).map kV)))
  have hf2 : (upd (upd H p (.lst ((ks.take kn).map kV))) f (.lst ((ks.take kn).map kV))) f = some (.lst ((ks.take kn).map kV)) := upd_same
  have nfd : f ≠ d := (D.mono S1).ne hf
  generalize upd (upd H p (.lst ((ks.take kn).map kV))) f (.lst ((ks.take kn).map kV)) = H2 at S2 hf2 ⊢
  -- the longest
  refine ⟨_, rfl, kl, rfl, ⟨_, seq_mono S2 hkH⟩, fun D' hD => ?_⟩
  refine lc_list (K := K) (a := kl) (xs := ks.map kV) (fun i H6 => ∃ ls : List Int, H6 D' = some (.lst (ls.map V.int)) ∧ ls.length = i ∧ (∀ n ∈ ls, 0 ≤ n ∧ n ≤ 2000) ∧ (∀ k ∈ ks.take i, ∀ y, k = .inr y → ∃ n ∈ ls, (y.length : Int) ≤ n) ∧ Same H2 H6) ⟨[], upd_same, rfl, (fun n h => by cases h), (fun k h => by cases h), same_new hD _⟩ (fun i H6 _ ⟨_, _, _, _, _, S6⟩ => seq_mono (S2.trans S6) hkH) ?_ ?_
  · rintro i x H6 hx ⟨ls, hls, ll, lb, lk, S6⟩
    rw [List.getElem?_map] at hx
    obtain ⟨k, hki, rfl⟩ := Option.map_eq_some_iff.mp hx
    have hin := List.mem_of_getElem? hki
    have il : i < ks.length := (List.getElem?_eq_some_iff.mp hki).1
    refine ⟨rfl, _, rfl, k, rfl, (h28 k hin).ok, fun z hz hzy => ⟨_, z.length, rfl, ⟨by rw [sizeLine_eq]; omega, rfl⟩, _, hls, ?_, ls ++ [(z.length : Int)], ?_, ?_, ?_, ?_, same_set S6 hD⟩⟩
    · rw [List.length_map, sizeLine_eq]
      omega
    · rw [List.map_append]
      exact upd_same
    · rw [List.length_append, ll]
      rfl
    · intro n hn
      rcases List.mem_append.mp hn with hn | hn
      · exact lb n hn
      · rw [List.mem_singleton.mp hn]
        omega
    · intro k2 hk2 y ey
      rw [take_succ_of hki] at hk2
      rcases List.mem_append.mp hk2 with hk2 | hk2
      · obtain ⟨n, hn, h⟩ := lk k2 hk2 y ey
        exact ⟨n, List.mem_append_left _ hn, h⟩
      · have e2 : k = .inr y := by rw [← List.mem_singleton.mp hk2, ey]
        refine ⟨_, List.mem_append_right _ (List.mem_singleton.mpr rfl), ?_⟩
        rw [hzy y e2]
        exact Int.le_refl _
  rintro H6 ⟨ls, hls, ll, lb, lk, S6⟩
  rw [List.length_map] at ll lk
  rw [List.take_length] at lk
  refine ⟨D', ls, rfl, SqL.of hls, by omega, fun mx hmem hle => ?_⟩
  have mxb := lb mx hmem
  have und : Und mx ks := by
    intro k hk2
    cases k with
    | inl n => exact h28 _ hk2
    | inr z =>
      obtain ⟨n, hn, h⟩ := lk _ hk2 z rfl
      exact Int.le_trans h (hle n hn)
  -- the others
  have S26 := S2.trans S6
  have D6 := D.mono S26
  have lenI : ((ks.map kV).length : Int) = (ks.length : Int) := by rw [List.length_map]
  refine ⟨_, rfl, _, rfl, kl, _, rfl, .inl (seq_mono S26 hkH), (kn : Int), (ks.length : Int), ?_, ⟨by omega, by omega, by omega, by omega⟩, ?_⟩
  · rw [lenI]
  refine for_range (lo := (kn : Int)) (n := ((ks.length : Int) - (kn : Int)).toNat) (fun i σ H7 => ∃ (v5 : Option V) (ns : List L2.Key), σ = [some (.ref d), some (.ref kl), some (.int kn), some (.ref f), some (.int mx), v5, none] ∧ H7 f = some (.lst ((ks.take kn ++ ns).map kV)) ∧ ns.length = i ∧ (∀ j x, ns[j]? = some x → NewAt mx (kn + j) x) ∧ Sm d H H7 ∧ DrAt H7 d)
    ⟨none, [], rfl, by rw [List.append_nil]; exact S6 _ _ hf2, rfl, (fun j x h => by simp at h), Sm.of S26, D6⟩ ?_ ?_
  · rintro i σ H7 hi ⟨v5, ns, rfl, hf7, hl7, hn7, S7, D7⟩
    have step : ∀ (x : L2.Key) (v : V) (H8 : Hp), v = kV x → NewAt mx (kn + i) x → Sm d H7 H8 → DrAt H8 d → H8 f = some (.lst ((ks.take kn ++ ns).map kV)) ∧ ((ks.take kn ++ ns).map kV).length < sizeLine ∧
        (upd H8 f (.lst ((ks.take kn ++ ns).map kV ++ [v]))) f = some (.lst ((ks.take kn ++ (ns ++ [x])).map kV)) ∧ (ns ++ [x]).length = i + 1 ∧ (∀ j y, (ns ++ [x])[j]? = some y → NewAt mx (kn + j) y) ∧ Sm d H (upd H8 f (.lst ((ks.take kn ++ ns).map kV ++ [v]))) ∧ DrAt (upd H8 f (.lst ((ks.take kn ++ ns).map kV ++ [v]))) d := by
      rintro x v H8 rfl hx S8 D8
      have hf8 := S8.at hf7 nfd
      refine ⟨hf8, ?_, ?_, by rw [List.length_append, hl7]; rfl, ?_, ?_, D8.set nfd⟩
      · rw [List.length_map, List.length_append, List.length_take, sizeLine_eq]
        omega
      · rw [upd_same, ← List.append_assoc, List.map_append (l₁ := ks.take kn ++ ns)]
        rfl
      · intro j y hy
        by_cases c : j < ns.length
        · rw [List.getElem?_append_left c] at hy
          exact hn7 j y hy
        · rw [List.getElem?_append_right (by omega)] at hy
          have ej : j = i := by
            by_cases c2 : j - ns.length = 0
            · omega
            · rw [List.getElem?_eq_none (by show 1 ≤ _; omega)] at hy
              cases hy
          rw [ej, hl7, Nat.sub_self] at hy
          rw [ej, ← Option.some.inj hy]
          exact hx
      · exact sm_set (S7.trans S8) hfH
    refine ⟨_, rfl, d, 2, rfl, D7, by decide, by decide, fun r H8 r0 r1 S8 D8 => ⟨rfl, _, rfl, ?_⟩⟩
    refine ite2 (fun _ => ?_) (fun _ => ?_)
    · have f8 := S8.at hf7 nfd
      refine ⟨_, rfl, .inl ⟨rfl, _, SqL.of f8⟩, _, _, rfl, rfl, ⟨by decide, by decide, by decide⟩, _, _, rfl, rfl, ⟨by decide, by decide, by decide⟩, _, rfl, _, _, rfl, rfl, .inr ⟨by omega, by omega⟩, _, _, rfl, rfl, ?_⟩
      have ev : V.int (10 ^ (29 : Int).toNat + 10 ^ (28 : Int).toNat * ((kn : Int) + (i : Nat))) = kV (.inl (10 ^ 29 + 10 ^ 28 * ((kn + i : Nat) : Int))) := rfl
      obtain ⟨g1, g2, g3, g4, g5, g6, g7⟩ := step _ _ H8 ev rfl S8 D8
      exact ⟨f, _, _, rfl, rfl, g1, g2, _, _, rfl, g3, g4, g5, g6, g7⟩
    · have f8 := S8.at hf7 nfd
      refine ⟨_, rfl, .inl ⟨rfl, _, SqL.of f8⟩, _, rfl, _, _, rfl, rfl, _, rfl, _, _, rfl, rfl, "1", (mx + 1 + ((kn : Int) + (i : Nat))).toNat, rfl, congrArg V.int (by omega), by omega, by omega, by decide, fun z' hz' => ?_⟩
      have hz2 : (z'.length : Int) = mx + 1 + ((kn + i : Nat) : Int) := by
        have e1 : ("1" : PySem.Str).length = 1 := by decide
        rw [e1] at hz'
        omega
      obtain ⟨g1, g2, g3, g4, g5, g6, g7⟩ := step (.inr z') _ H8 rfl hz2 S8 D8
      exact ⟨f, _, _, rfl, rfl, g1, g2, _, _, rfl, g3, g4, g5, g6, g7⟩
  · rintro σ H7 ⟨v5, ns, rfl, hf7, hl7, hn7, S7, D7⟩
    exact ⟨_, rfl, q f (ks.take kn ++ ns) H7 S7 D7 nfd hf7 (turned_of hnd und knl (by omega) hn7)⟩
theorem cl_turned (T : Tx K mg) : Cl P w K mg base 2 "_law_turned" (spTurned K) := ⟨T.glo _, (let ⟨_, F⟩ := F_Lturned T; F.kp), ok_turned T⟩
end
/-! ### the law -/
section
variable {P : Program} {w : World} {K : PySem.W.Frag} {mg : PySem.Str → Option Value} {base : Heap}
theorem sm_same {d : Addr} {H H' : Hp} (hd : H d = none) (S : Sm d H H') : Same H H' := fun b o h => S.at h fun e => by
  rw [e, hd] at h
  cases h
theorem trans_sm {d : Addr} {H H2 H' : Hp} (S : Same H H2) (hd : H d = none) (S' : Sm d H2 H') : Same H H' := fun b o h => S'.at (S b o h) fun e => by
  rw [e, hd] at h
  cases h
theorem toI_sm {d : Addr} {H H' : Hp} (D : DrAt H d) (S : Sm d H H') : SameI H H' := fun b C dx fs h => S.at h fun e => by
  obtain ⟨g, x, y, hd, _⟩ := D
  rw [e, hd] at h
  cases h
theorem LabAt.wo {d : Addr} {H : Hp} {v : V} {R : Rules} (D : DrAt H d) (h : LabAt K H v R) : LabAt K (Wo d H) v R := by
  obtain ⟨g, x, y, hd, _⟩ := D
  obtain ⟨p, dx, nt, rr, rs, e, h1, h2, h3, h4, h5⟩ := h
  have ne : ∀ {b : Addr} {o : HO}, H b = some o → o ≠ .lst [.int g, .int x, .int y] → Wo d H b = some o := fun {b o} hb n => by
    refine (wo_ne fun e => ?_).trans hb
    rw [e, hd] at hb
    exact n (Option.some.inj hb).symm
  refine ⟨p, dx, nt, rr, rs, e, ne h1 (fun e => by cases e), ne h2 (fun e => by cases e), ne h3 (fun e => ?_), h4.mono fun r q z => ?_, h5⟩
  · have e2 : rs = [.int g, .int x, .int y] := HO.lst.inj e
    rw [e2] at h4
    cases h4 with
    | cons r t =>
      obtain ⟨a, z, q, _⟩ := r
      cases q
  · obtain ⟨a, z2, q, h6, h7⟩ := z
    exact ⟨a, z2, q, ne h6 (fun e => by cases e), h7.mono fun b C dx fs hb => ne hb (fun e => by cases e)⟩
/-- tuples stay -/
def SameT (H H' : Hp) : Prop := ∀ b xs, H b = some (.tup xs) → H' b = some (.tup xs)
theorem TupAt.monoT {H H' : Hp} (S : SameT H H') {v : V} {xs : List V} (h : TupAt H v xs) : TupAt H' v xs := by
  obtain ⟨p, e, h⟩ := h
  exact ⟨p, e, S _ _ h⟩
theorem AskAt.monoT {H H' : Hp} (S : SameT H H') : ∀ {c : Cond} {v : V}, AskAt H v c → AskAt H' v c
  | .both a b, v, h => by
    obtain ⟨x, y, h1, h2, h3⟩ := h
    exact ⟨x, y, h1.monoT S, AskAt.monoT S h2, AskAt.monoT S h3⟩
  | .either a b, v, h => by
    obtain ⟨x, y, h1, h2, h3⟩ := h
    exact ⟨x, y, h1.monoT S, AskAt.monoT S h2, AskAt.monoT S h3⟩
  | .inverse a, v, h => by
    obtain ⟨x, h1, h2⟩ := h
    exact ⟨x, h1.monoT S, AskAt.monoT S h2⟩
  | .kind _, v, h => ⟨TupAt.monoT S h.1, h.2⟩
  | .equals _, v, h => TupAt.monoT S h
  | .size _, v, h => ⟨TupAt.monoT S h.1, h.2⟩
  | .has _, v, h => TupAt.monoT S h
  | .item _ _, v, h => TupAt.monoT S h
  | .before _ _, v, h => TupAt.monoT S h
  | .first _, v, h => TupAt.monoT S h
  | .every _, v, h => TupAt.monoT S h
  | .some_ _, v, h => TupAt.monoT S h
def p28 : L2.Key → Bool
  | .inl n => decide ((if n < 0 then -n else n) < 10 ^ 28)
  | .inr _ => true
theorem filt_succ {α : Type} {p : α → Bool} {xs : List α} {i : Nat} {x : α} (h : xs[i]? = some x) : (xs.take (i + 1)).filter p = (xs.take i).filter p ++ (if p x = true then [x] else []) := by
  rw [take_succ_of h, List.filter_append]
  by_cases c : p x = true
  · rw [if_pos c, List.filter_cons_of_pos c]
    rfl
  · rw [if_neg c, List.filter_cons_of_neg c]
    rfl
theorem p28_ok {k : L2.Key} (h : KOk k) (hp : p28 k = true) : K28 k := by
  cases k with
  | inl n =>
    have h2 : (if n < 0 then -n else n) < 10 ^ 28 := of_decide_eq_true hp
    show -(10 ^ 28) < n ∧ n < 10 ^ 28
    split at h2 <;> omega
  | inr z => exact h
theorem cut_last (xs : List V) (x : V) : cutV (xs ++ [x]) none (some (-1)) = xs := by
  unfold cutV
  rw [HT.sIx_none, List.drop_zero, Nat.sub_zero]
  have e : HT.sIx (xs ++ [x]).length (xs ++ [x]).length (some (-1)) = xs.length := by
    show (if (-1 : Int) < 0 then ((-1 : Int) + ((xs ++ [x]).length : Int)).toNat else min (-1 : Int).toNat (xs ++ [x]).length) = _
    rw [if_pos (by decide), List.length_append, List.length_singleton]
    omega
  rw [e, List.take_left]
def nmW (ws : List PySem.Str) : List PySem.Str := ws ++ [("other" : PySem.Str)]
theorem nmW_map (ws : List PySem.Str) : (nmW ws).map V.str = ws.map V.str ++ [.str "other"] := by
  unfold nmW
  rw [List.map_append]
  rfl
theorem nmW_len (ws : List PySem.Str) : (nmW ws).length = ws.length + 1 := by
  unfold nmW
  rw [List.length_append]
  rfl
theorem Src.cut {d p : Addr} {H : Hp} {kl nl al : Addr} {ks : List L2.Key} {ns : List PySem.Str} {as : List L2.Key} {kn : Nat} (R : Src K d H kl nl al ks ns as) (hp : H p = none) (np : p ≠ d) (h1 : 1 ≤ kn) (h2 : kn ≤ ks.length) :
    Src K d (upd H p (.lst (cutV (ks.map kV) none (some (kn : Int))))) p nl al (ks.take kn) ns as := by
  have S : Sm d H (upd H p (.lst (cutV (ks.map kV) none (some (kn : Int))))) := Sm.of (same_new hp _)
  have R2 := R.move S
  have ec : cutV (ks.map kV) none (some (kn : Int)) = (ks.take kn).map kV := by
    rw [cut_hi, List.map_take]
  have k1 := R.k1
  have hl : (ks.take kn).length = kn := by
    rw [List.length_take]
    omega
  refine ⟨SqL.of ((wo_ne np).trans (upd_same.trans ?_)), R2.n, R2.a, by omega, by omega, R.n0, R.n1, R.a0, R.a1⟩
  rw [ec]
def spLaw (K : PySem.W.Frag) : Sp := fun vs H Q _ => ∃ (a : Addr) (ns : List Int), vs = [.ref a] ∧ SqL K H a (ns.map V.int) ∧ ns.length ≤ 63 ∧ ∀ H' : Hp, Q (.bl true) H'
abbrev nLaw : List PySem.Str := ["_law_script", "_law_at", "_law_draws_here", "_law_keys_here", "_law_known", "_law_names", "_law_atoms", "_law_asks", "_law_labels", "_law_others", "_law_turn", "_law_model_here", "_law_one", "_law_two", "_law_made_here", "_law_key", "_law_name", "_law_k"]
theorem scLaw : FnScope nLaw ["_law_script"] (defScope s_law) := ⟨rfl, rfl, rfl, by decide +kernel, rfl, by decide +kernel, by decide +kernel⟩
theorem ok_law (T : Tx K mg) {fd : FuncData} (F : FunD K "law" "law" (defArgs s_law) (defBody s_law) (defScope s_law) [] [] (He.fAd K ("law", none)) fd) : FnOk P w K mg base CX0 38 (He.fAd K ("law", none)) fd ["_law_script"] (spLaw K) := by
  refine F.ok scLaw (fun vs H Q E h => ?_) fun cdv A outer s H vs Q E hr h => ?_
  · obtain ⟨a, ns, rfl, _⟩ := h
    rfl
  obtain ⟨a, ns, rfl, ha, h63, q⟩ := h
  have nd := scLaw.nd
  have hr1 : Room 1 _ := hr.mono (by decide)
  have hr2 : Room 2 _ := hr.mono (by decide)
  have hr3 : Room 3 _ := hr.mono (by decide)
  have hr4 : Room 4 _ := hr.mono (by decide)
  have hr5 : Room 5 _ := hr.mono (by decide)
  have hr12 : Room 12 _ := hr.mono (by decide)
  have hr13 : Room (12 + 1) _ := hr.mono (by decide)
  have hr27 : Room 27 _ := hr.mono (by decide)
  have hr36 : Room 36 _ := hr.mono (by decide)
  have hu := hu_of hr
  have GDraws : Cl P w K mg base 1 "_law_draws" (spDraws K) := cl_draws T
  have GD : Cl P w K mg base 1 "_law_draw" spDraw := cl_draw T
  have GKeys : Cl P w K mg base 4 "_law_keys" spKeys := cl_keys T
  have GWords : Cl P w K mg base 3 "_law_words" spWords := cl_words T
  have GT : Cl P w K mg base 3 "_law_text" spText := cl_text T
  have GI : Cl P w K mg base 3 "_law_integer" spInteger := cl_integer T
  have GJ : Cl P w K mg base 4 "_law_joined" (spJoined K) := cl_joined T
  have GM : Cl P w K mg base 13 "_law_made" (spMade K 10) := cl_made T 10
  have GL : Mkr P w K mg base 12 "Labels" (spMkLab K) := mk_lab T
  have GTu : Cl P w K mg base 2 "_law_turned" (spTurned K) := cl_turned T
  have GMo : Cl P w K mg base 5 "_law_model" (spModel K) := ⟨T.glo _, (let ⟨_, F⟩ := F_Lmodel T; F.kp), ok_model T⟩
  have GR : Cl P w K mg base 27 "_law_real" (spReal K 12) := ⟨T.glo _, (let ⟨_, F⟩ := F_Lreal T; F.kp), ok_real T 12⟩
  have GE : Cl P w K mg base 12 "_law_exchanged" (spExch K 12) := ⟨T.glo _, (let ⟨_, F⟩ := F_Lexchanged T; F.kp), ok_exch T 12⟩
  have hC : FnR P w K mg base CX0 36 (He.ma K (He.ga K "Labels") "__call__") (spCallL K 12) := ok_call T 12
  have hF : FnR P w K mg base CX0 36 (He.ma K (He.ga K "Labels") "fits") (spFits K 11) := ok_fits T 11
  have bs : bootBuiltins "str" = some (.type "str") := by decide +kernel
  refine ⟨_, PSs.nox (pss_cons (ps_for PassesOwn.never rfl (pi_range1 (by rfl) (T.free "range") (pa_cons (pe_callB (call_max2 rfl) rfl (T.free "max") boot_max (pa_cons pe_int (pa_cons (pe_callB (call_min2 rfl) rfl (T.free "min") boot_min (pa_cons pe_int (pa_cons (pe_callB call_len_seq rfl (T.free "len") boot_len (pa_cons (pv 0) pa_nil)) pa_nil))) pa_nil))) pa_nil)) (pg_name (i := 1) nd rfl (.inl rfl))
    (pss_cons (ps_set (i := 2) nd rfl (.inr rfl) (pe_f GDraws hr1 (pa_cons (pv 0) (pa_cons (pv 1) pa_nil))))
    (pss_cons (ps_set (i := 3) nd rfl (.inr rfl) (pe_lc (own := [("_law_key", 15)]) (g := gName 15) (tt := tOr (tB (tCB (rIsi K) (tCons (tVar 15) (tCons (tC (.ty "str")) tNil)))) (tTest (tOp (rI0 fun i j => .bl (decide (i < j))) (tCB (fun xs H Q => ∃ i, xs = [.int i] ∧ Q (.int (if i < 0 then -i else i)) H) (tCons (tVar 15) tNil)) (tOp (rI CPow fun i j => .int (i ^ j.toNat)) (tC (.int 10)) (tC (.int 28))))))
      (te := tVar 15) rfl nd (pi_list (pe_f GKeys hr4 (pa_cons (pv 2) (pa_cons pe_int pa_nil)))) (blkOk_by (own := [("_law_key", 15)]) (N := nLaw) (sc := defScope s_law) (by decide +kernel)) (fun _ _ _ _ _ => pg_name (i := 15) nd rfl (Or.inl rfl))
      (fun _ _ _ _ _ => pts_one (PW.pt (pw_or (pt_val (pe_callB call_isi rfl (T.free "isinstance") boot_isinstance (pa_cons (pv 15) (pa_cons (pe_bltn (v := .ty "str") (by rfl) (T.free "str") bs rfl) pa_nil)))) (pw_or1 (pt_cmpR op_lt (pe_callB call_abs rfl (T.free "abs") boot_abs (pa_cons (pv 15) pa_nil)) (pe_op op_pow pe_int pe_int) (nomark _)))))) (fun _ _ _ _ _ => pv 15)))
    (pss_cons (ps_set (i := 3) nd rfl (.inr rfl) (pe_j (pe_ifExp (pt_cmpR (op_neF (Nat.lt_of_succ_lt hu)) (pv 3) (pe_lst pa_nil) (nomark _)) (pv 3) (pe_lst (pa_cons pe_str (pa_cons pe_int pa_nil))))))
    (pss_cons (ps_set (i := 4) nd rfl (.inr rfl) (pe_callB (call_min2 rfl) rfl (T.free "min") boot_min (pa_cons (pe_callB call_len_seq rfl (T.free "len") boot_len (pa_cons (pv 3) pa_nil)) (pa_cons (pe_op op_add pe_int (pe_f GD hr1 (pa_cons (pv 2) (pa_cons pe_int pa_nil)))) pa_nil))))
    (pss_cons (ps_asg (pe_tup (pa_cons (pe_op op_cat (pe_f GWords hr3 (pa_cons (pv 2) (pa_cons (pe_f GD hr1 (pa_cons (pv 2) (pa_cons pe_int pa_nil))) pa_nil))) (pe_lst (pa_cons pe_str pa_nil))) (pa_cons (pe_lst (pa_cons (pe_f GI hr3 (pa_cons (pv 2) pa_nil)) (pa_cons (pe_f GT hr3 (pa_cons (pv 2) pa_nil)) (pa_cons pe_int pa_nil)))) pa_nil))) (pg_tup (by rfl) (pgs_cons (pg_name (i := 5) nd rfl (.inr rfl)) (pgs_cons (pg_name (i := 6) nd rfl (.inr rfl)) pgs_nil))))
    (pss_cons (ps_set (i := 7) nd rfl (.inr rfl) (pe_lc (own := [("_law_name", 16)]) (g := gName 16) (tt := tYes) (te := tCl (spJoined K) (tCons (tVar 2) (tCons (tSl (rSlL K) (tVar 3) tNoPart (tPart (tVar 4))) (tCons (tVar 5) (tCons (tVar 6) (tCons (tC (.int 4)) tNil)))))) rfl nd (pi_list (pe_slice sl_list (pv 5) po_none (po_some (pe_un un_neg pe_int)))) (blkOk_by (own := [("_law_name", 16)]) (N := nLaw) (sc := defScope s_law) (by decide +kernel)) (fun _ _ _ _ _ => pg_name (i := 16) nd rfl (Or.inl rfl)) (fun _ _ _ _ _ => pts_nil)
      (fun _ _ _ _ _ => pe_f GJ hr4 (pa_cons (pv 2) (pa_cons (pe_slice sl_list (pv 3) po_none (po_some (pv 4))) (pa_cons (pv 5) (pa_cons (pv 6) (pa_cons pe_int pa_nil))))))))
    (pss_cons (ps_set (i := 8) nd rfl (.inl rfl) (pe_new GL hr13 (pa_cons (pe_lc (own := [("_law_k", 17)]) (g := gName 17) (tt := tYes) (te := tTup (tCons (tOp (rIxL K) (tVar 5) (tVar 17)) (tCons (tCl (spMade K 10) (tCons (tOp (rIxL K) (tVar 7) (tVar 17)) tNil)) tNil))) rfl nd (pi_range1 (by rfl) (T.free "range") (pa_cons (pe_callB call_len_seq rfl (T.free "len") boot_len (pa_cons (pv 7) pa_nil)) pa_nil)) (blkOk_by (own := [("_law_k", 17)]) (N := nLaw) (sc := defScope s_law) (by decide +kernel)) (fun _ _ _ _ _ => pg_name (i := 17) nd rfl (Or.inl rfl)) (fun _ _ _ _ _ => pts_nil)
      (fun _ _ _ _ _ => pe_tup (pa_cons (pe_ix ix_list (pv 5) (pv 17) (fun _ _ => rfl)) (pa_cons (pe_f GM (hr.mono (by decide)) (pa_cons (pe_ix ix_list (pv 7) (pv 17) (fun _ _ => rfl)) pa_nil)) pa_nil)))) pa_nil)))
    (pss_cons (ps_set (i := 9) nd rfl (.inl rfl) (pe_f GTu hr2 (pa_cons (pv 2) (pa_cons (pv 3) (pa_cons (pv 4) pa_nil)))))
    (pss_one (ps_for PassesOwn.never rfl (pi_range1 (by rfl) (T.free "range") (pa_cons pe_int pa_nil)) (pg_name (i := 10) nd rfl (.inl rfl))
      (pss_cons (ps_set (i := 11) nd rfl (.inl rfl) (pe_f GMo hr5 (pa_cons (pv 2) (pa_cons (pv 3) (pa_cons (pv 6) (pa_cons pe_int pa_nil))))))
      (pss_cons (ps_par (i := 12) (j := 13) (by rfl) nd rfl rfl (by decide) rfl rfl (pa_cons (pe_f GR hr27 (pa_cons (pv 11) pa_nil)) (pa_cons (pe_f GR hr27 (pa_cons (pe_f GE hr12 (pa_cons (pv 11) (pa_cons (pv 3) (pa_cons (pv 9) pa_nil)))) pa_nil)) pa_nil)) (by rfl))
      (pss_cons (ps_set (i := 14) nd rfl (.inl rfl) (pe_f GM (hr.mono (by decide)) (pa_cons (pe_f GJ hr4 (pa_cons (pv 2) (pa_cons (pe_slice sl_list (pv 3) po_none (po_some (pv 4))) (pa_cons (pv 5) (pa_cons (pv 6) (pa_cons pe_int pa_nil)))))) pa_nil)))
      (pss_one (ps_if (PW.pt (pw_or (pt_cmpR op_ne (pe_callL (pv 8) (callO_L T) hC hr36 (pa_cons (pv 12) pa_nil)) (pe_callL (pv 8) (callO_L T) hC hr36 (pa_cons (pv 13) pa_nil)) (nomark _))
          (pw_or1 (pt_cmpR op_ne (pe_dyn (pv 8) hr36 (pa_cons (pv 12) (pa_cons (pv 14) pa_nil))) (pe_dyn (pv 8) hr36 (pa_cons (pv 13) (pa_cons (pv 14) pa_nil))) (nomark _)))))
        (pss_one (ps_ret pe_bl)) pss_nil)))))))))))))))) (pss_one (ps_ret pe_bl))), ?_⟩
  refine ⟨_, rfl, a, _, rfl, .inl ha, _, _, rfl, _, _, rfl, _, rfl, ?_, ?_, ?_⟩
  · split <;> split <;> omega
  · split <;> split <;> omega
  rw [List.length_map]
  refine for_range (lo := 0) (n := ((if (if ((ns.length : Nat) : Int) < 6 then ((ns.length : Nat) : Int) else 6) > 1 then (if ((ns.length : Nat) : Int) < 6 then ((ns.length : Nat) : Int) else 6) else 1) : Int).toNat)
    (fun i σ H2 => ∃ (v1 v2 v3 v4 v5 v6 v7 v8 v9 v10 v11 v12 v13 v14 : Option V), σ = [some (.ref a), v1, v2, v3, v4, v5, v6, v7, v8, v9, v10, v11, v12, v13, v14, none, none, none] ∧ Same H H2)
    ⟨none, none, none, none, none, none, none, none, none, none, none, none, none, none, rfl, Same.refl H⟩ ?_ (fun σ H2 _ => q H2)
  rintro i σ H2 hi ⟨v1, v2, v3, v4, v5, v6, v7, v8, v9, v10, v11, v12, v13, v14, rfl, S2⟩
  have i6 : i < 6 := by
    revert hi
    split <;> split <;> intro hi <;> omega
  refine ⟨_, rfl, _, rfl, a, ns, (0 + i : Int), rfl, seq_mono S2 ha, h63, by omega, by omega, fun d H3 hd S3 D3 => ?_⟩
  have S23 := S2.trans S3
  have hdH := S2.free hd
  -- the keys
  refine ⟨_, rfl, d, 7, rfl, D3, by decide, by decide, fun ks0 r H4 nd0 k0 l0 hr0 nrd S4 D4 hr4 => ⟨r, rfl, ⟨_, SqL.of hr4⟩, fun D' hD => ?_⟩⟩
  refine lc_list (K := K) (a := r) (xs := ks0.map kV) (fun j H6 => H6 D' = some (.lst (((ks0.take j).filter p28).map kV)) ∧ Same H4 H6) ⟨upd_same, same_new hD _⟩ (fun j H6 _ ⟨_, S6⟩ => SqL.of (S6 _ _ hr4)) ?_ ?_
  · rintro j x H6 hx ⟨hacc, S6⟩
    rw [List.getElem?_map] at hx
    obtain ⟨k, hk, rfl⟩ := Option.map_eq_some_iff.mp hx
    refine ⟨rfl, ?_⟩
    have al : (((ks0.take j).filter p28).map kV).length < sizeLine := by
      have := List.length_filter_le p28 (ks0.take j)
      rw [List.length_take] at this
      rw [List.length_map, sizeLine_eq]
      omega
    have put : p28 k = true → ∃ acc, H6 D' = some (.lst acc) ∧ acc.length < sizeLine ∧ (upd H6 D' (.lst (acc ++ [kV k]))) D' = some (.lst (((ks0.take (j + 1)).filter p28).map kV)) ∧ Same H4 (upd H6 D' (.lst (acc ++ [kV k]))) := fun h => by
      refine ⟨_, hacc, al, ?_, same_set S6 hD⟩
      rw [filt_succ hk, if_pos h, List.map_append, upd_same]
      rfl
    cases k with
    | inr z => exact ⟨_, rfl, .str z, .ty "str", _, _, true, rfl, .ty "str", .base (.str z), kit_ty (by decide +kernel), _, rfl, iteP rfl (iteP rfl ⟨_, rfl, put rfl⟩)⟩
    | inl n =>
      refine ⟨_, rfl, .int n, .ty "str", .type "int", _, false, rfl, .ty "str", .base (.int n), kit_ty (by decide +kernel), _, rfl, iteN rfl ?_⟩
      refine ⟨_, rfl, n, rfl, _, _, rfl, rfl, ⟨by decide, by decide, by decide⟩, _, _, rfl, rfl, _, rfl, ?_⟩
      cases hp : p28 (.inl n) with
      | true => exact iteP hp ⟨_, rfl, put hp⟩
      | false =>
        refine iteN hp ⟨?_, S6⟩
        rw [filt_succ hk, hp, if_neg Bool.false_ne_true, List.append_nil]
        exact hacc
  rintro H6 ⟨hacc, S6⟩
  rw [List.length_map, List.take_length] at hacc
  have ndD : D' ≠ d := D4.ne hD
  have S36 : Sm d H3 H6 := S4.trans (Sm.of S6)
  have D6 := D4.mono S6
  have nd1 : (ks0.filter p28).Nodup := nd0.sublist List.filter_sublist
  have k1 : ∀ k ∈ ks0.filter p28, K28 k := fun k hk => p28_ok (k0 k (List.mem_filter.mp hk).1) (List.mem_filter.mp hk).2
  have l1 : (ks0.filter p28).length ≤ 7 := by
    have := List.length_filter_le p28 ks0
    omega
  generalize ks0.filter p28 = ks1 at hacc nd1 k1 l1
  -- never none
  refine ⟨fun x H' => ∃ (kl : Addr) (ks : List L2.Key), x = .ref kl ∧ kl ≠ d ∧ H' kl = some (.lst (ks.map kV)) ∧ ks.Nodup ∧ (∀ k ∈ ks, K28 k) ∧ 1 ≤ ks.length ∧ ks.length ≤ 7 ∧ Sm d H3 H' ∧ DrAt H' d, ?_, ?_⟩
  · refine ⟨_, rfl, Nat.zero_le _, fun e he => ⟨D', e, ks1.map kV, [], rfl, rfl, SqL.of (same_new he _ _ _ hacc), SqL.of upd_same, flat_kVs _, rfl, _, rfl, ?_⟩⟩
    have Se := same_new he (.lst [])
    have De := D6.mono Se
    show (if (!eqL (ks1.map kV) []) = true then _ else _)
    rw [eqL_nil]
    by_cases c : ks1 = []
    · subst c
      refine iteN rfl ⟨by show 2 ≤ sizeLine; decide, fun l hl => ⟨l, [.inr "", .inl 7], rfl, De.ne hl, upd_same, by decide +kernel, ?_, by decide, by decide, S36.trans (Sm.of (Se.trans (same_new hl _))), De.set (De.ne hl)⟩⟩
      intro k hk
      rcases List.mem_cons.mp hk with rfl | hk
      · show ("" : PySem.Str).length ≤ 2000
        decide
      · rw [List.mem_singleton.mp hk]
        show -(10 ^ 28) < (7 : Int) ∧ (7 : Int) < 10 ^ 28
        decide
    · have c2 : (!decide (ks1.map kV = [])) = true := by
        have : ¬ (ks1.map kV = []) := fun e => c (List.map_eq_nil_iff.mp e)
        rw [decide_eq_false this]
        rfl
      refine iteP c2 ⟨_, rfl, D', ks1, rfl, ndD, Se _ _ hacc, nd1, k1, ?_, l1, S36.trans (Sm.of Se), De⟩
      cases ks1 with
      | nil => exact absurd rfl c
      | cons x r => exact Nat.succ_pos _
  rintro x H7 ⟨kl, ks, rfl, nkl, hkl, ndk, kk, k_1, k_7, S7, D7⟩
  -- how many are known
  refine ⟨_, rfl, kl, _, rfl, .inl (SqL.of hkl), _, rfl, d, 3, rfl, D7, by decide, by decide, fun r0 H8 a0 a1 S8 D8 => ⟨_, _, rfl, rfl, _, _, rfl, ?_⟩⟩
  obtain ⟨kn, hkn, n_1, n_k⟩ : ∃ kn : Nat, (if 1 + r0 < (((ks.map kV).length : Nat) : Int) then 1 + r0 else (((ks.map kV).length : Nat) : Int)) = (kn : Int) ∧ 1 ≤ kn ∧ kn ≤ ks.length := by
    rw [List.length_map]
    refine ⟨(if 1 + r0 < ((ks.length : Nat) : Int) then 1 + r0 else ((ks.length : Nat) : Int)).toNat, ?_, ?_, ?_⟩ <;> split <;> omega
  rw [hkn]
  -- names, atoms
  refine ⟨_, rfl, _, rfl, d, 4, rfl, D8, by decide, by decide, fun m H9 m0 m1 S9 D9 => ⟨d, m, rfl, D9, m0, by omega, fun ws wr H10 ndw okw lw hw nwr S10 D10 hwr => ?_⟩⟩
  refine ⟨by show 1 ≤ sizeLine; decide, fun o ho => ?_⟩
  have So := same_new ho (.lst [.str "other"])
  have ws3 : ws.length ≤ 3 := by omega
  refine ⟨wr, o, _, _, rfl, rfl, So _ _ hwr, upd_same, by rw [List.length_map, List.length_singleton, sizeLine_eq]; omega, fun nl hnl => ?_⟩
  have Snl := same_new hnl (.lst (ws.map V.str ++ [.str "other"]))
  have S11 : Sm d H8 (upd (upd H10 o (.lst [.str "other"])) nl (.lst (ws.map V.str ++ [.str "other"]))) := (S9.trans S10).trans (Sm.of (So.trans Snl))
  have D11 : DrAt (upd (upd H10 o (.lst [.str "other"])) nl (.lst (ws.map V.str ++ [.str "other"]))) d := (D10.mono So).mono Snl
  have nnl : nl ≠ d := (D10.mono So).ne hnl
  have hn11 : (upd (upd H10 o (.lst [.str "other"])) nl (.lst (ws.map V.str ++ [.str "other"]))) nl = some (.lst (ws.map V.str ++ [.str "other"])) := upd_same
  generalize upd (upd H10 o (.lst [.str "other"])) nl (.lst (ws.map V.str ++ [.str "other"])) = H11 at S11 D11 hn11 ⊢
  refine ⟨_, rfl, d, rfl, D11, fun n0 H12 _ _ S12 D12 => ⟨_, rfl, d, rfl, D12, fun z0 H13 _ S13 D13 => ⟨by show 3 ≤ sizeLine; decide, fun al hal => ⟨by show 2 ≤ sizeLine; decide, fun t ht => ⟨t, _, rfl, .inl (.inl upd_same), rfl, _, _, rfl, _, _, rfl, rfl, ?_⟩⟩⟩⟩⟩
  have nal : al ≠ d := D13.ne hal
  have Sal := same_new hal (.lst [.int n0, .str z0, .int 0])
  have St := same_new ht (.tup [.ref nl, .ref al])
  have S15 : Sm d H8 (upd (upd H13 al (.lst [.int n0, .str z0, .int 0])) t (.tup [.ref nl, .ref al])) := ((S11.trans S12).trans S13).trans (Sm.of (Sal.trans St))
  have D15 : DrAt (upd (upd H13 al (.lst [.int n0, .str z0, .int 0])) t (.tup [.ref nl, .ref al])) d := (D13.mono Sal).mono St
  have hn15 : (upd (upd H13 al (.lst [.int n0, .str z0, .int 0])) t (.tup [.ref nl, .ref al])) nl = some (.lst (ws.map V.str ++ [.str "other"])) := (Sal.trans St) _ _ (S13.at (S12.at hn11 nnl) nnl)
  have ha15 : (upd (upd H13 al (.lst [.int n0, .str z0, .int 0])) t (.tup [.ref nl, .ref al])) al = some (.lst [.int n0, .str z0, .int 0]) := St _ _ upd_same
  generalize upd (upd H13 al (.lst [.int n0, .str z0, .int 0])) t (.tup [.ref nl, .ref al]) = H15 at S15 D15 hn15 ha15 ⊢
  have hk15 : H15 kl = some (.lst (ks.map kV)) := S15.at (S8.at hkl nkl) nkl
  have S3F : Sm d H3 H15 := (S7.trans S8).trans S15
  have R15 : Src K d H15 kl nl al ks (nmW ws) [.inl n0, .inr z0, .inl 0] :=
    ⟨SqL.of ((wo_ne nkl).trans hk15), SqL.of ((wo_ne nnl).trans (hn15.trans (by rw [nmW_map]))), SqL.of ((wo_ne nal).trans ha15), by omega, by omega, by rw [nmW_len]; exact Nat.succ_pos _, by rw [nmW_len]; omega, by show 0 < 3; decide, by show 3 ≤ 100; decide⟩
  -- the askings
  refine ⟨_, rfl, _, rfl, _, rfl, nl, _, rfl, SqL.of hn15, fun p1 hp1 => ⟨p1, rfl, ⟨_, SqL.of upd_same⟩, fun D2 hD2 => ?_⟩⟩
  rw [cut_last] at hD2 ⊢
  have np1 : p1 ≠ d := D15.ne hp1
  have S16 : Sm d H15 (upd H15 p1 (.lst (ws.map V.str))) := Sm.of (same_new hp1 _)
  have D16 : DrAt (upd H15 p1 (.lst (ws.map V.str))) d := D15.set np1
  have h16 : (upd H15 p1 (.lst (ws.map V.str))) p1 = some (.lst (ws.map V.str)) := upd_same
  generalize upd H15 p1 (.lst (ws.map V.str)) = H16 at hD2 S16 D16 h16 ⊢
  have nD2 : D2 ≠ d := D16.ne hD2
  refine lc_list (K := K) (a := p1) (xs := ws.map V.str) (fun j H6 => ∃ (acc : List V) (cs : List Cond), H6 D2 = some (.lst acc) ∧ cs.length = j ∧ Paired (fun v c => AskAt (Wo d H6) v c ∧ CIn (ks.take kn) (nmW ws) c ∧ hl c ≤ 10 ∧ cnt c ≤ 50) acc cs ∧ Sm d H16 H6 ∧ DrAt H6 d) ⟨[], [], upd_same, rfl, .nil, Sm.of (same_new hD2 _), D16.set nD2⟩ (fun j H6 _ ⟨_, _, _, _, _, S6, _⟩ => SqL.of (S6.at h16 np1)) ?_ ?_
  · rintro j x H6 hx ⟨acc, cs, hacc, hj, hpa, S6, D6⟩
    have jl : j < ws.length := by
      have := (List.getElem?_eq_some_iff.mp hx).1
      rw [List.length_map] at this
      exact this
    have R6 := R15.move (S16.trans S6)
    refine ⟨rfl, _, rfl, _, rfl, _, rfl, _, rfl, kl, _, rfl, seq_mono wo_sub R6.k, fun p2 hp2 => ?_⟩
    have np2 := D6.ne hp2
    have S7 : Sm d H6 (upd H6 p2 (.lst (cutV (ks.map kV) none (some (kn : Int))))) := Sm.of (same_new hp2 _)
    refine ⟨_, rfl, _, rfl, d, p2, nl, al, ks.take kn, nmW ws, _, 4, rfl, by decide, by decide, D6.set np2, R6.cut hp2 np2 n_1 n_k, fun v c H8 S8 D8 hA hc h10 h50 => ?_⟩
    have S68 : Sm d H6 H8 := S7.trans S8
    refine ⟨acc, S68.at hacc nD2, ?_, acc ++ [v], cs ++ [c], upd_same, by rw [List.length_append, hj]; rfl, ?_, ?_, D8.set nD2⟩
    · have := hpa.length
      rw [sizeLine_eq]
      omega
    · have ST : SameT (Wo d H8) (Wo d (upd H8 D2 (.lst (acc ++ [v])))) := fun b xs h => by
        have hb : b ≠ d := fun e => by
          rw [e, wo_eq] at h
          cases h
        rw [wo_ne hb] at h ⊢
        refine (upd_ne fun e => ?_).trans h
        rw [e, S68.at hacc nD2] at h
        cases h
      exact (hpa.mono fun _ _ z => ⟨(z.1.mono S68).monoT ST, z.2⟩).snoc ⟨hA.monoT ST, hc, h10, h50⟩
    · exact sm_set (S6.trans S68) hD2
  rintro H17 ⟨acc, cs, hacc, hcl, hpa, S17, D17⟩
  rw [List.length_map] at hcl
  have accl : acc.length = ws.length := hpa.length.trans hcl
  have csOk : ∀ c ∈ cs, CIn (ks.take kn) (nmW ws) c ∧ hl c ≤ 10 ∧ cnt c ≤ 50 := fun c hc => by
    obtain ⟨j, hj, ej⟩ := List.mem_iff_getElem.mp hc
    have hj2 : j < acc.length := by omega
    obtain ⟨c', h1, h2⟩ := paired_get hpa (List.getElem?_eq_getElem hj2)
    rw [List.getElem?_eq_getElem hj] at h1
    rw [← ej, Option.some.inj h1]
    exact h2.2
  -- the labels
  refine ⟨_, rfl, D2, _, rfl, .inl (SqL.of hacc), _, rfl, by omega, by rw [accl]; omega, fun D3 hD3 => ?_⟩
  have h17n : H17 nl = some (.lst (ws.map V.str ++ [.str "other"])) := S17.at (S16.at hn15 nnl) nnl
  refine lc_it (walk_range (lo := 0) (n := ((acc.length : Nat) : Int).toNat)) (fun j H6 => ∃ acc3, H6 D3 = some (.lst acc3) ∧ Paired (RowAt K (Wo D3 H6)) acc3 ((ws.zip cs).take j) ∧ Same H17 H6) ⟨[], upd_same, .nil, same_new hD3 _⟩ (fun _ _ _ _ => trivial) ?_ ?_
  · rintro j x H6 H6' hj ⟨acc3, hacc3, hpa3, S6⟩ ⟨rfl, rfl⟩
    have jl : j < acc.length := by omega
    have jw : j < ws.length := by omega
    have jc : j < cs.length := by omega
    obtain ⟨c, hc1, hc2⟩ := paired_get hpa (List.getElem?_eq_getElem jl)
    have hz : (ws.zip cs)[j]? = some (ws[j], c) := by
      rw [List.getElem?_zip_eq_some]
      exact ⟨List.getElem?_eq_getElem jw, hc1⟩
    refine ⟨rfl, _, rfl, _, rfl, nl, _, _, .str ws[j], rfl, rfl, SqL.of (S6 _ _ h17n), ?_, ?_⟩
    · rw [Int.zero_add]
      refine atI_nat ?_
      rw [List.getElem?_append_left (by rw [List.length_map]; exact jw), List.getElem?_map, List.getElem?_eq_getElem jw]
      rfl
    refine ⟨_, rfl, _, rfl, D2, _, _, acc[j], rfl, rfl, SqL.of (S6 _ _ hacc), ?_, acc[j], c, rfl, (hc2.1.mono wo_sub).mono S6, hc2.2.2.1, fun v H7 S7 hcv => ⟨by show 2 ≤ sizeLine; decide, fun t ht => ?_⟩⟩
    · rw [Int.zero_add]
      exact atI_nat (List.getElem?_eq_getElem jl)
    have hacc7 := S7 _ _ hacc3
    have St := same_new ht (.tup [.str ws[j], v])
    have nt3 : t ≠ D3 := fun e => by
      rw [e, hacc7] at ht
      cases ht
    have e3 : ∀ o, Wo D3 (upd (upd H7 t (.tup [.str ws[j], v])) D3 o) = Wo D3 (upd H7 t (.tup [.str ws[j], v])) := fun o => hd_upd_in (D := [D3]) (List.mem_cons_self ..)
    refine ⟨acc3, St _ _ hacc7, ?_, acc3 ++ [.ref t], upd_same, ?_, same_set ((S6.trans S7).trans St) hD3⟩
    · have l1 := hpa3.length
      rw [List.length_take, List.length_zip] at l1
      rw [sizeLine_eq]
      omega
    · rw [e3, take_succ_of hz]
      refine (hpa3.mono fun _ _ z => z.mono (toX (wo_same (S7.trans St)))).snoc ⟨t, v, rfl, (wo_ne nt3).trans upd_same, hcv.mono fun b C dx fs hb => ?_⟩
      refine (wo_ne fun e => ?_).trans (St _ _ hb)
      rw [e, hacc7] at hb
      cases hb
  rintro H18 ⟨acc3, hacc3, hpa3, S18⟩
  have hzl : (ws.zip cs).length = ws.length := by
    rw [List.length_zip]
    omega
  rw [List.take_of_length_le (by omega)] at hpa3
  intro p dx hp hdx np
  have Sn : Same H18 (upd (upd H18 dx (.own p)) p (.ins (He.ga K "Labels") dx [])) := (same_new hdx _).trans (same_new ((upd_ne np.symm).trans hp) _)
  have hpn : (upd (upd H18 dx (.own p)) p (.ins (He.ga K "Labels") dx [])) p = some (.ins (He.ga K "Labels") dx []) := upd_same
  have Sno : Same H18 (Wo p (upd (upd H18 dx (.own p)) p (.ins (He.ga K "Labels") dx []))) := fun b o h => by
    have nb : b ≠ p := ne_of_none h hp
    exact (wo_ne nb).trans (Sn _ _ h)
  have hfst : (ws.zip cs).map (·.1) = ws := List.map_fst_zip (by omega)
  have enm : nms (ws.zip cs) = nmW ws := by
    show (ws.zip cs).map (fun q => q.1) ++ _ = _
    rw [show (ws.zip cs).map (fun q => q.1) = ws from hfst]
    rfl
  have hR : ∀ q ∈ ws.zip cs, q.1 ∈ ws ∧ q.2 ∈ cs := fun q hq => List.of_mem_zip (a := q.1) (b := q.2) hq
  refine ⟨p, dx, D3, acc3, ws.zip cs, rfl, hpn, SqL.of (Sno _ _ hacc3), hpa3.mono fun _ _ z => z.mono (toX ((wo_sub : Same (Wo D3 H18) H18).trans Sno)), ⟨fun q hq => (csOk _ (hR q hq).2).2.1, fun q hq => (csOk _ (hR q hq).2).2.2, by omega⟩, by rw [hfst]; exact ndw, fun q hq => ⟨okw _ (hR q hq).1, fun l hl => ?_⟩, fun H20 S20 hL => ⟨rfl, ?_⟩⟩
  · rw [enm]
    exact (csOk _ (hR q hq).2).1.l l hl
  have S1820 : Same H18 H20 := (Sno.trans S20).trans wo_sub
  have S1720 : Same H17 H20 := S18.trans S1820
  have D20 : DrAt H20 d := D17.mono S1720
  have hL20 : LabAt K (Wo d H20) (.ref p) (ws.zip cs) := hL.wo D20
  have rment : ∀ q ∈ ws.zip cs, ment (ks.take kn) q.2 := fun q hq => (csOk _ (hR q hq).2).1.m
  have S1520 : Sm d H15 H20 := (S16.trans S17).trans (Sm.of S1720)
  have R20 := R15.move S1520
  have hcOk : ROk (ws.zip cs) := ⟨fun q hq => (csOk _ (hR q hq).2).2.1, fun q hq => (csOk _ (hR q hq).2).2.2, by omega⟩
  generalize ws.zip cs = R at hL20 rment enm
  -- the others
  refine ⟨_, rfl, _, rfl, _, rfl, d, kl, ks, kn, rfl, D20, R20.k, kk, ndk, n_1, n_k, by omega, fun ol os H21 S21 D21 nol hol tu => ?_⟩
  have R21 := R20.move S21
  have hL21 : LabAt K (Wo d H21) (.ref p) R := hL20.mono (toX S21)
  have F := tu.fix ndk
  have S3_21 : Sm d H3 H21 := (S3F.trans S1520).trans S21
  have hol2 : SqL K (Wo d H21) ol (os.map kV) := SqL.of ((wo_ne nol).trans hol)
  refine ⟨4, rfl, by decide, by decide, ?_⟩
  refine for_range (lo := 0) (n := 4) (fun j σ H7 => ∃ (v10 v11 v12 v13 v14 : Option V), σ = [some (.ref a), some (.int (0 + i)), some (.ref d), some (.ref kl), some (.int kn), some (.ref nl), some (.ref al), some (.ref D2), some (.ref p), some (.ref ol), v10, v11, v12, v13, v14, none, none, none] ∧ Sm d H21 H7 ∧ DrAt H7 d)
    ⟨_, _, _, _, _, rfl, Same.refl _, D21⟩ ?_ (fun σ H7 ⟨v10, v11, v12, v13, v14, e, S7, D7⟩ => ⟨_, _, _, _, _, _, _, _, _, _, _, _, _, _, e, trans_sm S23 hdH (S3_21.trans S7)⟩)
  rintro j σ H22 hj ⟨v10, v11, v12, v13, v14, rfl, S22, D22⟩
  have R22 := R21.move S22
  refine ⟨_, rfl, _, rfl, _, rfl, d, kl, al, ks, _, 18, rfl, D22, R22.k, ndk, by omega, R22.a, R22.a0, Nat.le_trans R22.a1 (by decide), by decide, by decide, fun mv m0' H23 S23' D23 hm => ?_⟩
  have tk23 : Tkn [d] H23 := fun b hb => by
    rw [List.mem_singleton.mp hb]
    obtain ⟨o, ho⟩ := D23.some
    rw [ho]
    exact fun z => by cases z
  have R23 := R22.move S23'
  have hol23 : SqL K (Wo d H23) ol (os.map kV) := seq_mono (S22.trans S23') hol2
  refine ⟨_, rfl, mv, [d], ks, m0', rfl, tk23, hm, fun v1 H24 S24 hv1 => ?_⟩
  have tk24 := tk23.mono S24
  refine ⟨_, rfl, _, rfl, _, rfl, mv, kl, ol, [d], ks, os, m0', rfl, tk24, seq_mono (wo_same S24) R23.k, seq_mono (wo_same S24) hol23, tu.len, tu.nd, hm.mono (wo_same S24), fun v2m H25 S25 hm2 => ?_⟩
  refine ⟨v2m, [d], os, _, rfl, tk24.mono S25, hm2, fun v2 H26 S26 hv2 => ⟨_, _, rfl, ?_⟩⟩
  have S2326 : Same H23 H26 := (S24.trans S25).trans S26
  have D26 := D23.mono S2326
  have S2126 : Sm d H21 H26 := (S22.trans S23').trans (Sm.of S2326)
  have R26 := R21.move S2126
  have hv1' : VAt (CTof K) 11 (Wo d H26) v1 m0' := hv1.mono (wo_same (S25.trans S26))
  -- the condition
  refine ⟨_, rfl, _, rfl, _, rfl, _, rfl, kl, _, rfl, seq_mono wo_sub R26.k, fun p2 hp2 => ?_⟩
  have np2 := D26.ne hp2
  have S27 : Sm d H26 (upd H26 p2 (.lst (cutV (ks.map kV) none (some (kn : Int))))) := Sm.of (same_new hp2 _)
  refine ⟨_, rfl, _, rfl, d, p2, nl, al, ks.take kn, nmW ws, _, 4, rfl, by decide, by decide, D26.set np2, R26.cut hp2 np2 n_1 n_k, fun ask c H28 S28 D28 hA hc h10 h50 => ⟨ask, c, rfl, hA.mono wo_sub, h10, fun cv H29 S29 hcv => ?_⟩⟩
  have S2629 : Sm d H26 H29 := (S27.trans S28).trans (Sm.of S29)
  have D29 := D28.mono S29
  have S2129 := S2126.trans S2629
  have hL29 : LabAt K H29 (.ref p) R := hL21.mono ((toX S2129).trans (toX wo_sub))
  have hw1 : VAt (CTof K) 11 H29 v1 m0' := hv1'.mono (S2629.trans wo_sub)
  have hw2 : VAt (CTof K) 11 H29 v2 (exch (fmap ks os) 11 m0') := hv2.mono (S2629.trans wo_sub)
  have cin : LabIn R c := fun l hl => by
    rw [enm]
    exact hc.l l hl
  -- the test
  obtain ⟨p', dxL, fsL, eP, hpL, nl'⟩ := hL29.ins
  cases eP
  refine ⟨_, rfl, p, rfl, _, rfl, .inr ⟨dxL, fsL, hpL⟩, .ref p, v1, R, m0', rfl, hL29, hw1, fun H30 S30 => ?_⟩
  refine ⟨_, rfl, p, rfl, _, rfl, .inr ⟨dxL, fsL, S30 _ _ hpL⟩, .ref p, v2, R, _, rfl, hL29.mono (toX S30), hw2.mono S30, fun H31 S31 => ⟨rfl, _, rfl, ?_⟩⟩
  have S3031 := S30.trans S31
  refine iteN ?_ ?_
  · rw [lab_ex F rment 11 m0', decide_eq_true rfl]
    rfl
  have hL31 := hL29.mono (toX S3031)
  refine ⟨_, rfl, p, _, dxL, fsL, _, _, rfl, S3031 _ _ hpL, nl'.fi, T.cls "Labels", T.meth "Labels" "fits", hF, _, rfl, _, rfl, .ref p, v1, cv, R, m0', c, rfl, hL31, hw1.mono S3031, hcv.mono (toI S3031), h10, h50, cin, fun H32 S32 => ?_⟩
  have S3032 := S3031.trans S32
  refine ⟨_, rfl, p, _, dxL, fsL, _, _, rfl, S3032 _ _ hpL, nl'.fi, T.cls "Labels", T.meth "Labels" "fits", hF, _, rfl, _, rfl, .ref p, v2, cv, R, _, c, rfl, hL29.mono (toX S3032), hw2.mono S3032, hcv.mono (toI S3032), h10, h50, cin, fun H33 S33 => ⟨rfl, _, rfl, ?_⟩⟩
  refine iteN ?_ ?_
  · rw [fits_ex F rment hc.m 10 m0', decide_eq_true rfl]
    rfl
  have S2933 := S3032.trans S33
  exact ⟨_, _, _, _, _, rfl, (S22.trans S23').trans ((Sm.of S2326).trans (S2629.trans (Sm.of S2933))), D29.mono S2933⟩
end
/-! ### the facts, the end -/
section
variable {K : PySem.W.Frag} {mg : PySem.Str → Option Value} {h : Heap} {w : World}
theorem tx_of (X : K.In h) (G : h.Ns mainGlobals mg) (c : He.SaysX fa fn [] [] exB w h K) : Tx K mg := by
  have d : He.SaysD fa fn K := c.t.d
  have mem : ∀ {f : He.Fa}, f ∈ faX → f ∈ fa := fun hf => List.mem_append_right _ (List.mem_append_right _ (List.mem_append_right _ (List.mem_append_right _ (List.mem_append_right _ (List.mem_append_right _ hf)))))
  exact ⟨d, c.more, fun x hx => He.glo_ok X G (d.facts hx), fun x hx => He.free_ok X G (d.facts hx),
    He.int_ok X G (d.facts (f := .int "MOST_COUNT" 4) (mem (.head _))),
    He.int_ok X G (d.facts (f := .int "MOST_RULES" 3) (mem (.tail _ (.head _)))),
    He.str_ok X G (d.facts (f := .str "OTHER" "other") (mem (.tail _ (.tail _ (.head _))))),
    He.str_ok X G (d.facts (f := .str "REFUSED" "refused") (mem (.tail _ (.tail _ (.tail _ (.head _)))))),
    He.str_ok X G (d.facts (f := .str "LETTERS" "abcdefghijklmnopqrstuvwxyz") (mem (.tail _ (.tail _ (.tail _ (.tail _ (.head _))))))),
    He.glo_ok X G (d.facts (f := .glo "KINDS") (mem (.tail _ (.tail _ (.tail _ (.tail _ (.tail _ (.head _))))))))⟩
theorem law_facts {P : Program} {f : Addr} (X : K.In h) (G : h.Ns mainGlobals mg) (hfa : mg ("law" : PySem.Str) = some (.ref f)) (c : He.SaysX fa fn [] [] exB w h K) :
    ∃ fd : FuncData, (∀ (s : Shared) (v : Value), BindsTo s fd ⟨[v], []⟩ [("_law_script", v)]) ∧ ∀ base : Heap, FnOk P w K mg base CX0 38 f fd ["_law_script"] (spLaw K) := by
  have T := tx_of X G c
  obtain ⟨fd, F⟩ := F_law T
  have e := hfa.symm.trans (T.glo "law")
  cases e
  have b := FunD.bindsA (ps := ["_law_script"]) F fun _ _ _ _ _ _ us hl => match us, hl with | [_], _ => rfl
  exact ⟨fd, fun s v => b s [v] rfl, fun base => ok_law T F⟩
end
end Kt
open PySem PySem.W PySem.Calls PyProof.Rows
theorem PySem.Challenge.cw_keysthroughtext_k45_whole_keys_not_menti_holds : PySem.Challenge.rw_keysthroughtext_k45_whole_keys_not_menti.Holds := by
  w_on; o_law
  refine HandSHeadRun.head_any (r := OpenLaw.row PySem.Challenge.rw_keysthroughtext_k45_whole_keys_not_menti) (q := view (OpenLaw.row PySem.Challenge.rw_keysthroughtext_k45_whole_keys_not_menti).prog [60]) (H := Kt.hk) (ob := Kt.ob) (M := 20000) (loose := Kt.loose)
    (d := HandSHeadRun.topDef (OpenLaw.row PySem.Challenge.rw_keysthroughtext_k45_whole_keys_not_menti).prog 60) (kwd := []) Kt.ob_eq (by kernel_rfl) (fun s => by kernel_rfl) Kt.run (by kernel_rfl) (by kernel_rfl) (by kernel_rfl) (by rfl) (by first | assumption | decide +kernel) (by decide +kernel) ⟨rfl, rfl, rfl, rfl, rfl, by decide +kernel⟩ ?hw ?hc
  case hw => w_witness2
  case hc =>
    refine L2.walk_ofE (l := PySem.Challenge.rw_keysthroughtext_k45_whole_keys_not_menti) (n := 63) (k := 38) (x := "_law_script") (CX := L2.CX0) rfl (by decide) (by kernel_rfl) ⟨rfl, by decide, by decide⟩ ?F (fun _ _ _ _ z => z)
    intro w mg f h Y G hmg0
    obtain ⟨K, KX, c⟩ := Y
    have hmg : mg ("law" : PySem.Str) = some (.ref f) := by
      have e : (HandSHeadRun.topDef (OpenLaw.row PySem.Challenge.rw_keysthroughtext_k45_whole_keys_not_menti).prog 60).name = ("law" : PySem.Str) := by kernel_rfl
      rw [← e]
      exact hmg0
    obtain ⟨fd, hb, hF⟩ := Kt.law_facts (P := (PySem.Challenge.rw_keysthroughtext_k45_whole_keys_not_menti).prog) (w := w) KX G hmg c
    exact ⟨K, fd, Kt.spLaw K, KX, hb, fun H a ns hl _ hS => ⟨a, ns, rfl, hS, hl, fun _ => rfl⟩, fun base _ _ => hF base⟩

import PyProof.Rows.All
import Wide.All
import OpenK.AllK
import Wide.FinOn
import KE.KStateDown
import HandS.ForMost
import HandS.Codes
import HandS.Property
import HandS.Head0
import HandS.Head1
import HandS.Head2
import HandS.HeadEnd
import HandS.HeadHook1
import HandS.HeadHook2
import HandS.HeadHook3
import HandS.HeadHook4
import HandS.HeadWalk
import HandS.IsInst
import HandS.DictComp
import HandS.TupAny
import HandS.WideBits
import HandS.EndTab
import HandS.Style
import HandS.Conv
import HandS.Strs
import HandS.SetFor
import HandS.Deep
import HandS.TupLe
import HandS.RaiseMore
import HandS.More
import KE.KDictKeyed
import KE.KDictDisplayH
import KE.SortKeyHeap
import KE.GoesEnum
import KE.GoesDict
import HandS.Walk
import KE.LtSeq
import KE.LtData
import PyProof.CallFns
import PyProof.ReprHeads
import PyProof.ReprHeadsEmpty
import PyProof.NeKinds
import HandS.Nested
import HandS.Lambda
import KE.KSortKeyAny
import KE.KDictCopyH
import KE.KDictSum
import PyProof.ReprRoads
import PyProof.ReprLen
import KE.KEqSeq
import PyProof.P3Eq
import PySem.Challenge.RW_settlesfirst_k57_whole_full_weavings
set_option Elab.async false
set_option linter.all false
set_option autoImplicit false
set_option maxRecDepth 100000
set_option maxHeartbeats 0
/-! K57A: the text, the head's run: facts of the objects at given places. -/
namespace K57
open PySem PySem.Spec PyProof.Rows L2
def top (i : Nat) : Stmt := PySem.Challenge.pw_settlesfirst_k57_whole_full_weavings.main.body.getD i (.Pass ⟨0, 0, 0, 0⟩)
def mt (i j : Nat) : Stmt := (C8.clsBody (top i)).getD j (.Pass ⟨0, 0, 0, 0⟩)
def dT24 : He.DefD := ⟨("is_integer", none), "is_integer", "is_integer", C8.fnArgs (top 24), C8.fnBody (top 24), C8.fnScope (top 24), [], []⟩
def dT25 : He.DefD := ⟨("is_count", none), "is_count", "is_count", C8.fnArgs (top 25), C8.fnBody (top 25), C8.fnScope (top 25), [], []⟩
def dT26 : He.DefD := ⟨("is_below", none), "is_below", "is_below", C8.fnArgs (top 26), C8.fnBody (top 26), C8.fnScope (top 26), [], []⟩
def dT27 : He.DefD := ⟨("is_answer", none), "is_answer", "is_answer", C8.fnArgs (top 27), C8.fnBody (top 27), C8.fnScope (top 27), [], []⟩
def dT28 : He.DefD := ⟨("is_name", none), "is_name", "is_name", C8.fnArgs (top 28), C8.fnBody (top 28), C8.fnScope (top 28), [], []⟩
def dT29 : He.DefD := ⟨("is_list", none), "is_list", "is_list", C8.fnArgs (top 29), C8.fnBody (top 29), C8.fnScope (top 29), [], []⟩
def dT30 : He.DefD := ⟨("is_entry", none), "is_entry", "is_entry", C8.fnArgs (top 30), C8.fnBody (top 30), C8.fnScope (top 30), [], []⟩
def dT31 : He.DefD := ⟨("is_row", none), "is_row", "is_row", C8.fnArgs (top 31), C8.fnBody (top 31), C8.fnScope (top 31), [], []⟩
def dT32 : He.DefD := ⟨("want_names_of_deeds", none), "want_names_of_deeds", "want_names_of_deeds", C8.fnArgs (top 32), C8.fnBody (top 32), C8.fnScope (top 32), [], []⟩
def dT33 : He.DefD := ⟨("want_few_deeds", none), "want_few_deeds", "want_few_deeds", C8.fnArgs (top 33), C8.fnBody (top 33), C8.fnScope (top 33), [], []⟩
def dT34 : He.DefD := ⟨("want_parts", none), "want_parts", "want_parts", C8.fnArgs (top 34), C8.fnBody (top 34), C8.fnScope (top 34), [], []⟩
def dT38 : He.DefD := ⟨("is_state", none), "is_state", "is_state", C8.fnArgs (top 38), C8.fnBody (top 38), C8.fnScope (top 38), [], []⟩
def dT39 : He.DefD := ⟨("is_deed", none), "is_deed", "is_deed", C8.fnArgs (top 39), C8.fnBody (top 39), C8.fnScope (top 39), [], []⟩
def dT42 : He.DefD := ⟨("place_of", none), "place_of", "place_of", C8.fnArgs (top 42), C8.fnBody (top 42), C8.fnScope (top 42), [], []⟩
def dT43 : He.DefD := ⟨("step_at", none), "step_at", "step_at", C8.fnArgs (top 43), C8.fnBody (top 43), C8.fnScope (top 43), [], []⟩
def dT52 : He.DefD := ⟨("is_begun_thing", none), "is_begun_thing", "is_begun_thing", C8.fnArgs (top 52), C8.fnBody (top 52), C8.fnScope (top 52), [], []⟩
def dT53 : He.DefD := ⟨("are_branches", none), "are_branches", "are_branches", C8.fnArgs (top 53), C8.fnBody (top 53), C8.fnScope (top 53), [], []⟩
def dT54 : He.DefD := ⟨("is_thing_number", none), "is_thing_number", "is_thing_number", C8.fnArgs (top 54), C8.fnBody (top 54), C8.fnScope (top 54), [], []⟩
def dT55 : He.DefD := ⟨("is_do", none), "is_do", "is_do", C8.fnArgs (top 55), C8.fnBody (top 55), C8.fnScope (top 55), [], []⟩
def dT56 : He.DefD := ⟨("is_look", none), "is_look", "is_look", C8.fnArgs (top 56), C8.fnBody (top 56), C8.fnScope (top 56), [], []⟩
def dT57 : He.DefD := ⟨("is_node", none), "is_node", "is_node", C8.fnArgs (top 57), C8.fnBody (top 57), C8.fnScope (top 57), [], []⟩
def dT58 : He.DefD := ⟨("is_script", none), "is_script", "is_script", C8.fnArgs (top 58), C8.fnBody (top 58), C8.fnScope (top 58), [], []⟩
def dT59 : He.DefD := ⟨("want_things", none), "want_things", "want_things", C8.fnArgs (top 59), C8.fnBody (top 59), C8.fnScope (top 59), [], []⟩
def dT60 : He.DefD := ⟨("want_scripts", none), "want_scripts", "want_scripts", C8.fnArgs (top 60), C8.fnBody (top 60), C8.fnScope (top 60), [], []⟩
def dT61 : He.DefD := ⟨("want_limits", none), "want_limits", "want_limits", C8.fnArgs (top 61), C8.fnBody (top 61), C8.fnScope (top 61), [], []⟩
def dT62 : He.DefD := ⟨("copied", none), "copied", "copied", C8.fnArgs (top 62), C8.fnBody (top 62), C8.fnScope (top 62), [], []⟩
def dT67 : He.DefD := ⟨("first_place", none), "first_place", "first_place", C8.fnArgs (top 67), C8.fnBody (top 67), C8.fnScope (top 67), [], []⟩
def dT68 : He.DefD := ⟨("node_at", none), "node_at", "node_at", C8.fnArgs (top 68), C8.fnBody (top 68), C8.fnScope (top 68), [], []⟩
def dT69 : He.DefD := ⟨("is_lost", none), "is_lost", "is_lost", C8.fnArgs (top 69), C8.fnBody (top 69), C8.fnScope (top 69), [], []⟩
def dT70 : He.DefD := ⟨("can_go", none), "can_go", "can_go", C8.fnArgs (top 70), C8.fnBody (top 70), C8.fnScope (top 70), [], []⟩
def dT71 : He.DefD := ⟨("steppers", none), "steppers", "steppers", C8.fnArgs (top 71), C8.fnBody (top 71), C8.fnScope (top 71), [], []⟩
def dT72 : He.DefD := ⟨("put_in", none), "put_in", "put_in", C8.fnArgs (top 72), C8.fnBody (top 72), C8.fnScope (top 72), [], []⟩
def dT73 : He.DefD := ⟨("place_behind", none), "place_behind", "place_behind", C8.fnArgs (top 73), C8.fnBody (top 73), C8.fnScope (top 73), [], []⟩
def dT74 : He.DefD := ⟨("is_stepping", none), "is_stepping", "is_stepping", C8.fnArgs (top 74), C8.fnBody (top 74), C8.fnScope (top 74), [], []⟩
def dT75 : He.DefD := ⟨("places_along", none), "places_along", "places_along", C8.fnArgs (top 75), C8.fnBody (top 75), C8.fnScope (top 75), [], []⟩
def dT76 : He.DefD := ⟨("want_weaving", none), "want_weaving", "want_weaving", C8.fnArgs (top 76), C8.fnBody (top 76), C8.fnScope (top 76), [], []⟩
def dT77 : He.DefD := ⟨("can_step", none), "can_step", "can_step", C8.fnArgs (top 77), C8.fnBody (top 77), C8.fnScope (top 77), [], []⟩
def dT78 : He.DefD := ⟨("all_steps", none), "all_steps", "all_steps", C8.fnArgs (top 78), C8.fnBody (top 78), C8.fnScope (top 78), [], []⟩
def dT79 : He.DefD := ⟨("height_of", none), "height_of", "height_of", C8.fnArgs (top 79), C8.fnBody (top 79), C8.fnScope (top 79), [], []⟩
def dT80 : He.DefD := ⟨("places_upward", none), "places_upward", "places_upward", C8.fnArgs (top 80), C8.fnBody (top 80), C8.fnScope (top 80), [], []⟩
def dT81 : He.DefD := ⟨("full_counts", none), "full_counts", "full_counts", C8.fnArgs (top 81), C8.fnBody (top 81), C8.fnScope (top 81), [], []⟩
def dT82 : He.DefD := ⟨("how_many_full", none), "how_many_full", "how_many_full", C8.fnArgs (top 82), C8.fnBody (top 82), C8.fnScope (top 82), [], []⟩
def dT83 : He.DefD := ⟨("full_at", none), "full_at", "full_at", C8.fnArgs (top 83), C8.fnBody (top 83), C8.fnScope (top 83), [], []⟩
def dT85 : He.DefD := ⟨("_law_pot", none), "_law_pot", "_law_pot", C8.fnArgs (top 85), C8.fnBody (top 85), C8.fnScope (top 85), [], []⟩
def dT86 : He.DefD := ⟨("_law_draw", none), "_law_draw", "_law_draw", C8.fnArgs (top 86), C8.fnBody (top 86), C8.fnScope (top 86), [], []⟩
def dT87 : He.DefD := ⟨("_law_pick", none), "_law_pick", "_law_pick", C8.fnArgs (top 87), C8.fnBody (top 87), C8.fnScope (top 87), [], []⟩
def dT88 : He.DefD := ⟨("_law_rows", none), "_law_rows", "_law_rows", C8.fnArgs (top 88), C8.fnBody (top 88), C8.fnScope (top 88), [], []⟩
def dT89 : He.DefD := ⟨("_law_model", none), "_law_model", "_law_model", C8.fnArgs (top 89), C8.fnBody (top 89), C8.fnScope (top 89), [], []⟩
def dT90 : He.DefD := ⟨("_law_node", none), "_law_node", "_law_node", C8.fnArgs (top 90), C8.fnBody (top 90), C8.fnScope (top 90), [], []⟩
def dT91 : He.DefD := ⟨("_law_script", none), "_law_script", "_law_script", C8.fnArgs (top 91), C8.fnBody (top 91), C8.fnScope (top 91), [], []⟩
def dT92 : He.DefD := ⟨("_law_plan", none), "_law_plan", "_law_plan", C8.fnArgs (top 92), C8.fnBody (top 92), C8.fnScope (top 92), [], []⟩
def dT93 : He.DefD := ⟨("_law_marks", none), "_law_marks", "_law_marks", C8.fnArgs (top 93), C8.fnBody (top 93), C8.fnScope (top 93), [], []⟩
def dT94 : He.DefD := ⟨("_law_right_plan", none), "_law_right_plan", "_law_right_plan", C8.fnArgs (top 94), C8.fnBody (top 94), C8.fnScope (top 94), [], []⟩
def dT95 : He.DefD := ⟨("_law_telling", none), "_law_telling", "_law_telling", C8.fnArgs (top 95), C8.fnBody (top 95), C8.fnScope (top 95), [], []⟩
def dT96 : He.DefD := ⟨("_law_bent", none), "_law_bent", "_law_bent", C8.fnArgs (top 96), C8.fnBody (top 96), C8.fnScope (top 96), [], []⟩
def dT97 : He.DefD := ⟨("_law_any_plan", none), "_law_any_plan", "_law_any_plan", C8.fnArgs (top 97), C8.fnBody (top 97), C8.fnScope (top 97), [], []⟩
def dT98 : He.DefD := ⟨("_law_begin", none), "_law_begin", "_law_begin", C8.fnArgs (top 98), C8.fnBody (top 98), C8.fnScope (top 98), [], []⟩
def dT99 : He.DefD := ⟨("_law_can", none), "_law_can", "_law_can", C8.fnArgs (top 99), C8.fnBody (top 99), C8.fnScope (top 99), [], []⟩
def dT100 : He.DefD := ⟨("_law_step", none), "_law_step", "_law_step", C8.fnArgs (top 100), C8.fnBody (top 100), C8.fnScope (top 100), [], []⟩
def dT103 : He.DefD := ⟨("_law_levels", none), "_law_levels", "_law_levels", C8.fnArgs (top 103), C8.fnBody (top 103), C8.fnScope (top 103), [], []⟩
def dT104 : He.DefD := ⟨("_law_made", none), "_law_made", "_law_made", C8.fnArgs (top 104), C8.fnBody (top 104), C8.fnScope (top 104), [], []⟩
def dT105 : He.DefD := ⟨("_law_many", none), "_law_many", "_law_many", C8.fnArgs (top 105), C8.fnBody (top 105), C8.fnScope (top 105), [], []⟩
def dT106 : He.DefD := ⟨("_law_first_ones", none), "_law_first_ones", "_law_first_ones", C8.fnArgs (top 106), C8.fnBody (top 106), C8.fnScope (top 106), [], []⟩
def dT107 : He.DefD := ⟨("_law_last", none), "_law_last", "_law_last", C8.fnArgs (top 107), C8.fnBody (top 107), C8.fnScope (top 107), [], []⟩
def dT108 : He.DefD := ⟨("_law_plan_right", none), "_law_plan_right", "_law_plan_right", C8.fnArgs (top 108), C8.fnBody (top 108), C8.fnScope (top 108), [], []⟩
def dT109 : He.DefD := ⟨("_law_right", none), "_law_right", "_law_right", C8.fnArgs (top 109), C8.fnBody (top 109), C8.fnScope (top 109), [], []⟩
def dT110 : He.DefD := ⟨("law", none), "law", "law", C8.fnArgs (top 110), C8.fnBody (top 110), C8.fnScope (top 110), [], []⟩
def dI35 : He.DefD := ⟨("Parts", some "__init__"), "__init__", "Parts.__init__", C8.fnArgs (mt 35 0), C8.fnBody (mt 35 0), C8.fnScope (mt 35 0), [], []⟩
def dI36 : He.DefD := ⟨("Thing", some "__init__"), "__init__", "Thing.__init__", C8.fnArgs (mt 36 0), C8.fnBody (mt 36 0), C8.fnScope (mt 36 0), [], []⟩
def dI63 : He.DefD := ⟨("Sheets", some "__init__"), "__init__", "Sheets.__init__", C8.fnArgs (mt 63 0), C8.fnBody (mt 63 0), C8.fnScope (mt 63 0), [], []⟩
def dI64 : He.DefD := ⟨("Program", some "__init__"), "__init__", "Program.__init__", C8.fnArgs (mt 64 0), C8.fnBody (mt 64 0), C8.fnScope (mt 64 0), [], []⟩
def defL0 : List He.DefD := [dT24, dT25, dT26, dT27, dT28, dT29, dT30, dT31, dT32, dT33, dT34, dT38, dT39, dT42, dT43, dT52, dT53, dT54, dT55, dT56, dT57, dT58, dT59, dT60, dT61, dT62, dT67, dT68, dT69, dT70]
def defL1 : List He.DefD := [dT71, dT72, dT73, dT74, dT75, dT76, dT77, dT78, dT79, dT80, dT81, dT82, dT83, dT85, dT86, dT87, dT88, dT89, dT90, dT91, dT92, dT93, dT94, dT95, dT96, dT97, dT98, dT99, dT100, dT103]
def defL2 : List He.DefD := [dT104, dT105, dT106, dT107, dT108, dT109, dT110, dI35, dI36, dI63, dI64]
def defL : List He.DefD := defL0 ++ defL1 ++ defL2
def facL0 : List He.Fa := [.free "isinstance", .free "int", .free "bool", .free "str", .free "list", .free "tuple", .free "dict", .free "set", .free "len", .free "all", .free "any", .free "sum", .free "max", .free "min", .free "abs", .free "divmod", .free "range", .free "enumerate", .free "sorted", .free "repr", .str "LETTERS" "abcdefghijklmnopqrstuvwxyz", .str "DO" "do", .str "LOOK" "look", .str "END" "end", .int "LONGEST_NAME" 8, .int "GREATEST_ANSWER" 9, .int "MOST_DEEDS" 4, .int "MOST_STATES" 8, .int "MOST_THINGS" 12, .int "MOST_HANDS" 4]
def facL1 : List He.Fa := [.int "MOST_NODES" 200, .glo "Parts", .cls "Parts", .mkr "Parts", .glo "Thing", .cls "Thing", .mkr "Thing", .glo "Sheets", .cls "Sheets", .mkr "Sheets", .glo "Program", .cls "Program", .mkr "Program", .noat "Parts" "own_deeds", .noat "Parts" "own_rows", .noat "Thing" "own_deeds", .noat "Thing" "own_rows", .noat "Sheets" "own_things", .noat "Sheets" "own_scripts", .noat "Sheets" "own_nodes", .noat "Program" "own_things", .noat "Program" "own_scripts", .noat "Program" "own_nodes", .glo "is_integer", .glo "is_count", .glo "is_below", .glo "is_answer", .glo "is_name", .glo "is_list", .glo "is_entry"]
def facL2 : List He.Fa := [.glo "is_row", .glo "want_names_of_deeds", .glo "want_few_deeds", .glo "want_parts", .glo "is_state", .glo "is_deed", .glo "place_of", .glo "step_at", .glo "is_begun_thing", .glo "are_branches", .glo "is_thing_number", .glo "is_do", .glo "is_look", .glo "is_node", .glo "is_script", .glo "want_things", .glo "want_scripts", .glo "want_limits", .glo "copied", .glo "first_place", .glo "node_at", .glo "is_lost", .glo "can_go", .glo "steppers", .glo "put_in", .glo "place_behind", .glo "is_stepping", .glo "places_along", .glo "want_weaving", .glo "can_step"]
def facL3 : List He.Fa := [.glo "all_steps", .glo "height_of", .glo "places_upward", .glo "full_counts", .glo "how_many_full", .glo "full_at", .glo "_law_pot", .glo "_law_draw", .glo "_law_pick", .glo "_law_rows", .glo "_law_model", .glo "_law_node", .glo "_law_script", .glo "_law_plan", .glo "_law_marks", .glo "_law_right_plan", .glo "_law_telling", .glo "_law_bent", .glo "_law_any_plan", .glo "_law_begin", .glo "_law_can", .glo "_law_step", .glo "_law_levels", .glo "_law_made", .glo "_law_many", .glo "_law_first_ones", .glo "_law_last", .glo "_law_plan_right", .glo "_law_right", .glo "law"]
def facL : List He.Fa := facL0 ++ facL1 ++ facL2 ++ facL3
def adrL0 : List Addr := [mainGlobals, 389, 388, 386, 385, 387, 390, 391, 515, 514, 407, 406, 415, 423, 428, 427, 435, 434, 442, 441, 449, 448, 456, 455, 463, 462, 470, 469, 477, 476, 484, 483, 491, 490, 498, 497, 505, 504, 512, 511]
def adrL1 : List Addr := [513, 516, 517, 657, 656, 654, 653, 655, 658, 659, 713, 712, 675, 674, 683, 691, 696, 695, 703, 702, 710, 709, 711, 714, 715, 399, 400, 401, 402, 403, 404, 405, 408, 409, 410, 411, 412, 413, 414, 416]
def adrL2 : List Addr := [417, 418, 419, 420, 421, 422, 308, 307, 315, 314, 322, 321, 329, 328, 334, 333, 341, 340, 348, 347, 353, 352, 360, 359, 367, 366, 374, 373, 533, 532, 540, 539, 561, 560, 568, 567, 580, 579, 585, 584]
def adrL3 : List Addr := [592, 591, 599, 598, 606, 605, 613, 612, 618, 617, 625, 624, 632, 631, 637, 636, 642, 641, 729, 728, 736, 735, 743, 742, 750, 749, 755, 754, 762, 761, 769, 768, 776, 775, 783, 782, 790, 789, 797, 796]
def adrL4 : List Addr := [802, 801, 807, 806, 814, 813, 819, 818, 826, 825, 833, 832, 840, 839, 847, 846, 854, 853, 859, 858, 866, 865, 871, 870, 876, 875, 881, 880, 888, 887, 893, 892, 898, 897, 903, 902, 910, 909, 915, 914]
def adrL5 : List Addr := [922, 921, 929, 928, 948, 947, 953, 952, 960, 959, 965, 964, 972, 971, 979, 978, 986, 985, 991, 990]
def adrL : List Addr := adrL0 ++ adrL1 ++ adrL2 ++ adrL3 ++ adrL4 ++ adrL5
/-- the property's object, its getter -/
def prA (K : PySem.W.Frag) : Addr := match PySem.W.findIn K (.ref (He.ga K "Thing")) "states" with
  | some (some (.ref p)) => p
  | _ => 0
def gtL (K : PySem.W.Frag) : List Value := match PySem.W.recIn K (prA K) "property" with
  | some l => l
  | none => []
def gtA (K : PySem.W.Frag) : Addr := match gtL K with
  | .ref g :: _ => g
  | _ => 0
def isSome1 (o : Option (List Value)) : Bool := match o with
  | some (.ref _ :: _) => true
  | _ => false
def eqB (a b : Option Bool) : Bool := match a, b with
  | some true, some true => true
  | some false, some false => true
  | _, _ => false
theorem eqB_ok {a b : Option Bool} (h : eqB a b = true) : a = b := by
  cases a with
  | none => cases h
  | some x => cases b with
    | none => cases x <;> cases h
    | some y => cases x <;> cases y <;> first | rfl | cases h
/-- a function at an address -/
def fnAt (K : PySem.W.Frag) (a : Addr) : He.FnW := match K.lookup a with
  | some ⟨_, _, .func fd, _⟩ => some (fd.name, fd.qualname, fd.params, fd.body, fd.scope, fd.globals, fd.closure, fd.builtins)
  | _ => none
def cdAt (K : PySem.W.Frag) (a : Addr) (q : Str) : Bool := match K.lookup a with
  | some ⟨_, _, .func fd, _⟩ => PySem.W.codeIn K fd.code q && (match fd.defaults with
    | .none => true
    | _ => false)
  | _ => false
def dGet : He.DefD := ⟨("states", none), "states", "Thing.states", C8.fnArgs (mt 36 2), C8.fnBody (mt 36 2), C8.fnScope (mt 36 2), [], []⟩
/-- what else is asked -/
def exB (K : PySem.W.Frag) : Bool :=
  He.eqO (PySem.W.findIn K (.ref (He.ga K "Thing")) "states") (some (some (.ref (prA K)))) && (He.eqO (PySem.W.specialIn K (.ref (prA K)) "__get__") (some (some (.builtin "property.__get__"))) && (eqB (PySem.W.takesIn K (.ref (prA K))) (some true) && (isSome1 (PySem.W.recIn K (prA K) "property") && (cdAt K (gtA K) "Thing.states" &&
  (He.eqO (PySem.W.findIn K (.ref (He.ga K "Thing")) "__class__") (some (some (.builtin "object.__class__"))) && (He.eqO (PySem.W.specialIn K (.builtin "object.__class__") "__get__") (some (some (.builtin "getset_descriptor.__get__"))) && (eqB (PySem.W.takesIn K (.builtin "object.__class__")) (some true) && (eqB (PySem.W.mroIn K (He.ga K "Thing") (.type "object")) (some true) &&
  (eqB (PySem.W.kitOne K (.ref (He.ga K "Thing")) (.ref (He.ga K "Thing"))) (some true) && (eqB (PySem.W.kitOne K (.type "list") (.ref (He.ga K "Parts"))) (some false) && eqB (PySem.W.kitOne K (.type "list") (.ref (He.ga K "Sheets"))) (some false)))))))))))
def tabD : List He.Defn := [("places_upward", none)]
/-- the Hook -/
abbrev AlL : Type := Bool × List He.FnW
def obsK (g : Addr → Option Obj) (K : PySem.W.Frag) : AlL := ((facL.all fun f => f.ok K) && ((defL.all fun d => d.ok K) && (exB K && He.tabsB g tabD K)), fnAt K (gtA K) :: defL.map fun d => He.fnW K d.at_)
def obsL (g : Addr → Option Obj) : AlL := obsK g (He.frT g adrL)
def valL : AlL := (true, dGet.val :: defL.map He.DefD.val)
/-- what the end leans on -/
structure Says (K : PySem.W.Frag) (h : Heap) : Prop where
  fac : ∀ f ∈ facL, f.ok K = true
  dok : ∀ d ∈ defL, d.ok K = true ∧ He.fnW K d.at_ = d.val
  more : exB K = true
  get : fnAt K (gtA K) = dGet.val
  hd : ∀ p ∈ tabD, PySem.W.codeHdIn K (He.cT K p).1 (He.cT K p).2 = true
  out : ∀ p ∈ tabD, K.lookup (He.cT K p).2 = none
  empty : ∀ p ∈ tabD, h.get? (He.cT K p).2 = some { cls := .none, data := .fields #[] }
theorem map_eq_mem {α β : Type} {f g : α → β} : ∀ {l : List α}, l.map f = l.map g → ∀ x ∈ l, f x = g x
  | [], _, x, h => by simp at h
  | a :: r, e, x, h => by
    have e' : f a :: r.map f = g a :: r.map g := e
    injection e' with e1 e2
    rcases List.mem_cons.mp h with z | z
    · rw [z]; exact e1
    · exact map_eq_mem e2 x z
theorem says_of {h : Heap} (e : obsL h.get? = valL) : Says (He.frT h.get? adrL) h := by
  have e1 : ((facL.all fun f => f.ok (He.frT h.get? adrL)) && ((defL.all fun d => d.ok (He.frT h.get? adrL)) && (exB (He.frT h.get? adrL) && He.tabsB h.get? tabD (He.frT h.get? adrL)))) = true := congrArg Prod.fst e
  have e2 : (fnAt (He.frT h.get? adrL) (gtA (He.frT h.get? adrL)) :: defL.map fun d => He.fnW (He.frT h.get? adrL) d.at_) = dGet.val :: defL.map He.DefD.val := congrArg Prod.snd e
  generalize hK : He.frT h.get? adrL = K at e1 e2 ⊢
  obtain ⟨a1, e1⟩ := He.ba e1
  obtain ⟨a2, e1⟩ := He.ba e1
  obtain ⟨a3, a4⟩ := He.ba e1
  injection e2 with b1 b2
  have tabs : ∀ p ∈ tabD, PySem.W.codeHdIn K (He.cT K p).1 (He.cT K p).2 = true ∧ ∃ o, h.get? (He.cT K p).2 = some o ∧ He.emptyTab o = true := fun p hp => by
    obtain ⟨c1, c2⟩ := He.ba (List.all_eq_true.mp a4 p hp)
    refine ⟨c1, ?_⟩
    cases q : h.get? (He.cT K p).2 with
    | none => rw [q] at c2; cases c2
    | some o => rw [q] at c2; exact ⟨o, rfl, c2⟩
  refine ⟨List.all_eq_true.mp a1, fun d hd => ⟨List.all_eq_true.mp a2 d hd, map_eq_mem b2 d hd⟩, a3, b1, fun p hp => (tabs p hp).1, fun p hp => ?_, fun p hp => ?_⟩
  · obtain ⟨_, o, q, z⟩ := tabs p hp
    rw [← hK] at q ⊢
    exact He.frT_none q z
  · obtain ⟨_, o, q, z⟩ := tabs p hp
    rw [q, He.emptyTab_eq z]
def hkL : PySem.W.Hook where
  α := AlL
  obs := fun s => obsL s.heap.get?
  val := fun _ => valL
  says := fun _ h => ∃ K : PySem.W.Frag, K.In h ∧ Says K h
  of := fun _ _ e => ⟨_, He.frT_in, says_of e⟩
  keeps := fun _ _ _ ⟨K, hK, c⟩ k => ⟨K, PySem.W.Frag.In.keeps hK k, c.fac, c.dok, c.more, c.get, c.hd, c.out, fun p hp => k _ _ (c.empty p hp)⟩
def obL (s : PySem.W.SharedT) : AlL := obsL (HandSHeadRun.getT s)
theorem obL_eq (s : PySem.W.SharedT) : obL s = hkL.obs s.abs := by
  show obsL (HandSHeadRun.getT s) = obsL s.abs.heap.get?
  rw [show HandSHeadRun.getT s = s.abs.heap.get? from funext (HandSHeadRun.getT_eq s)]
abbrev RowL : PySem.W.OpenRow := PySem.W.OpenLaw.row PySem.Challenge.rw_settlesfirst_k57_whole_full_weavings
def nmA : List PySem.Str := (["_wall", "SettleError", "InvalidDeeds", "InvalidRows", "InvalidState", "InvalidDeed", "InvalidHand", "InvalidThings", "InvalidScripts", "InvalidWeaving", "InvalidPlace", "MissingError", "NoSuch", "StateError", "SharedDeed", "LimitError", "TooMany", "LETTERS", "LONGEST_NAME", "GREATEST_ANSWER", "MOST_DEEDS", "MOST_STATES", "is_integer", "is_count", "is_below", "is_answer", "is_name", "is_list", "is_entry", "is_row", "want_names_of_deeds", "want_few_deeds", "want_parts", "Parts", "Thing"] : List String).map PySem.Str.ofString
def nmB : List PySem.Str := (["made_thing", "is_state", "is_deed", "want_state", "want_deed", "place_of", "step_at", "beside", "DO", "LOOK", "END", "MOST_THINGS", "MOST_HANDS", "MOST_NODES", "is_begun_thing", "are_branches", "is_thing_number", "is_do", "is_look", "is_node", "is_script", "want_things", "want_scripts", "want_limits", "copied", "Sheets", "Program", "want_program_hand", "first_place", "node_at", "is_lost", "can_go", "steppers", "put_in", "place_behind"] : List String).map PySem.Str.ofString
def nmC : List PySem.Str := (["is_stepping", "places_along", "want_weaving", "can_step", "all_steps", "height_of", "places_upward", "full_counts", "how_many_full", "full_at", "_law_pot", "_law_draw", "_law_pick", "_law_rows", "_law_model", "_law_node", "_law_script", "_law_plan", "_law_marks", "_law_right_plan", "_law_telling", "_law_bent", "_law_any_plan", "_law_begin", "_law_can", "_law_step", "_law_names", "_law_is_sore", "_law_levels", "_law_made", "_law_many", "_law_first_ones", "_law_last", "_law_plan_right", "_law_right"] : List String).map PySem.Str.ofString
def nmAll : List PySem.Str := nmA ++ nmB ++ nmC
theorem run_head (w : World) : HandSHeadRun.RunEq RowL (PySem.W.view RowL.prog [110]) hkL obL 20000 nmAll w := by
  intro os
  kernel_rfl
end K57
set_option linter.all false
set_option autoImplicit false
/-! K57M: the plain law: nodes, spots, steps, full weavings. No program in sight. -/
namespace K57

inductive Nd where
  | look (t : Nat) (br : List (Nat × Nat))
  | act (t : Nat) (j : Nat) (br : List (Nat × Nat))
  | fin (h : Nat)
  deriving DecidableEq

structure Md where
  many : Nat
  rows : List (List (Nat × Nat))

structure Pl where
  ths : List (Md × Nat)
  scs : List (List Nd)

abbrev Spot := List (Option Nat) × List Nat

def Md.ent (m : Md) (s j : Nat) : Nat × Nat := (m.rows.getD s []).getD j (0, 0)
def Pl.md (P : Pl) (t : Nat) : Md := (P.ths.getD t (⟨0, []⟩, 0)).1
def Nd.inner : Nd → Bool
  | .fin _ => false
  | _ => true
def nodeAt (P : Pl) (h n : Nat) : Nd := (P.scs.getD h []).getD n (.fin 0)
def canGo (P : Pl) (s : Spot) (h : Nat) : Bool :=
  match s.1.getD h none with
  | none => false
  | some n => (nodeAt P h n).inner
def can (P : Pl) (s : Spot) : List Nat := (List.range s.1.length).filter (canGo P s)
def step (P : Pl) (s : Spot) (h : Nat) : Spot :=
  match s.1.getD h none with
  | none => s
  | some n => match nodeAt P h n with
    | .look t br => (s.1.set h (br.lookup (s.2.getD t 0)), s.2)
    | .act t j br => (s.1.set h (br.lookup ((P.md t).ent (s.2.getD t 0) j).1), s.2.set t ((P.md t).ent (s.2.getD t 0) j).2)
    | .fin _ => s
def begin (P : Pl) : Spot := (P.scs.map fun _ => some 0, P.ths.map (·.2))

/-! ### what is right -/
structure MdOk (m : Md) : Prop where
  m1 : 1 ≤ m.many
  m2 : m.many ≤ 2
  r1 : 1 ≤ m.rows.length
  r8 : m.rows.length ≤ 8
  row : ∀ r ∈ m.rows, r.length = m.many ∧ ∀ e ∈ r, e.1 ≤ 9 ∧ e.2 < m.rows.length
structure BrOk (br : List (Nat × Nat)) (keys at_ n : Nat) : Prop where
  ne : br ≠ []
  nd : (br.map (·.1)).Nodup
  ok : ∀ e ∈ br, e.1 < keys ∧ at_ < e.2 ∧ e.2 < n
def NdOk (ths : List (Md × Nat)) (hands at_ n : Nat) : Nd → Prop
  | .look t br => ∃ m s, ths[t]? = some (m, s) ∧ BrOk br m.rows.length at_ n
  | .act t j br => ∃ m s, ths[t]? = some (m, s) ∧ j < m.many ∧ BrOk br 10 at_ n
  | .fin h => h < hands
/-- a script whose nodes ahead of place k are inner, the others ends -/
structure ScOk (ths : List (Md × Nat)) (hands : Nat) (sc : List Nd) (k : Nat) : Prop where
  k1 : 1 ≤ k
  kl : k < sc.length
  l : sc.length ≤ 7
  nd : ∀ (i : Nat) (nd : Nd), sc[i]? = some nd → NdOk ths hands i sc.length nd ∧ (nd.inner = true ↔ i < k)
structure PlOk (P : Pl) : Prop where
  t1 : 1 ≤ P.ths.length
  t4 : P.ths.length ≤ 4
  th : ∀ x ∈ P.ths, MdOk x.1 ∧ x.2 < x.1.rows.length
  s2 : 2 ≤ P.scs.length
  s4 : P.scs.length ≤ 4
  sc : ∃ M, P.scs.length * M ≤ 9 ∧ ∀ sc ∈ P.scs, ∃ k, k ≤ M ∧ ScOk P.ths P.scs.length sc k

structure Good (P : Pl) (s : Spot) : Prop where
  l1 : s.1.length = P.scs.length
  l2 : s.2.length = P.ths.length
  nd : ∀ (h n : Nat), s.1[h]? = some (some n) → ∃ sc : List Nd, P.scs[h]? = some sc ∧ n < sc.length
  st : ∀ (t x : Nat), s.2[t]? = some x → ∃ (m : Md) (b : Nat), P.ths[t]? = some (m, b) ∧ x < m.rows.length

theorem getD_some {α : Type} {l : List α} {i : Nat} {d x : α} (h : l[i]? = some x) : l.getD i d = x := by
  rw [List.getD_eq_getElem?_getD, h] <;> rfl
theorem mem_of_get {α : Type} {l : List α} {i : Nat} {x : α} (h : l[i]? = some x) : x ∈ l := List.mem_of_getElem? h
theorem lt_of_get {α : Type} {l : List α} {i : Nat} {x : α} (h : l[i]? = some x) : i < l.length := (List.getElem?_eq_some_iff.mp h).1
theorem get_of_lt {α : Type} {l : List α} {i : Nat} (h : i < l.length) : ∃ x, l[i]? = some x := ⟨_, List.getElem?_eq_getElem h⟩

theorem lookup_mem : ∀ {br : List (Nat × Nat)} {k v : Nat}, br.lookup k = some v → (k, v) ∈ br
  | [], _, _, h => by simp at h
  | (a, b) :: r, k, v, h => by
    rw [List.lookup_cons] at h
    by_cases e : k = a
    · subst e
      simp at h
      subst h
      exact List.mem_cons_self
    · have : (k == a) = false := by simpa using e
      rw [this] at h
      exact List.mem_cons_of_mem _ (lookup_mem h)

/-- what is known where a hand can go -/
structure At (P : Pl) (s : Spot) (h : Nat) (n : Nat) (sc : List Nd) (nd : Nd) (k : Nat) : Prop where
  hn : s.1[h]? = some (some n)
  hs : P.scs[h]? = some sc
  hd : sc[n]? = some nd
  ok : NdOk P.ths P.scs.length n sc.length nd
  sc : ScOk P.ths P.scs.length sc k
  inn : nd.inner = true
  lt : n < k

theorem at_of {P : Pl} {s : Spot} {h : Nat} (W : PlOk P) (G : Good P s) (c : canGo P s h = true) : ∃ n sc nd k, At P s h n sc nd k := by
  unfold canGo at c
  cases q : s.1[h]? with
  | none =>
    rw [List.getD_eq_getElem?_getD, q] at c
    simp at c
  | some o =>
    rw [getD_some q] at c
    cases o with
    | none => simp at c
    | some n =>
      obtain ⟨sc, hs, hlt⟩ := G.nd h n q
      obtain ⟨nd, hd⟩ := get_of_lt hlt
      obtain ⟨M, _, hM⟩ := W.sc
      obtain ⟨k, _, S⟩ := hM sc (mem_of_get hs)
      have e : nodeAt P h n = nd := by unfold nodeAt; rw [getD_some hs, getD_some hd]
      have c' : (nodeAt P h n).inner = true := c
      rw [e] at c'
      exact ⟨n, sc, nd, k, q, hs, hd, (S.nd n nd hd).1, S, c', (S.nd n nd hd).2.mp c'⟩
theorem mem_can {P : Pl} {s : Spot} {h : Nat} : h ∈ can P s ↔ h < s.1.length ∧ canGo P s h = true := by
  unfold can
  rw [List.mem_filter, List.mem_range]
theorem At.node {P : Pl} {s : Spot} {h n k : Nat} {sc : List Nd} {nd : Nd} (a : At P s h n sc nd k) : nodeAt P h n = nd := by
  unfold nodeAt
  rw [getD_some a.hs, getD_some a.hd]

/-- a step's spot, by the node -/
theorem step_look {P : Pl} {s : Spot} {h n k t : Nat} {sc : List Nd} {br : List (Nat × Nat)} (a : At P s h n sc (.look t br) k) : step P s h = (s.1.set h (br.lookup (s.2.getD t 0)), s.2) := by
  unfold step
  rw [getD_some a.hn]
  show (match nodeAt P h n with | .look t br => _ | .act t j br => _ | .fin _ => _) = _
  rw [a.node]
theorem step_act {P : Pl} {s : Spot} {h n k t j : Nat} {sc : List Nd} {br : List (Nat × Nat)} (a : At P s h n sc (.act t j br) k) :
    step P s h = (s.1.set h (br.lookup ((P.md t).ent (s.2.getD t 0) j).1), s.2.set t ((P.md t).ent (s.2.getD t 0) j).2) := by
  unfold step
  rw [getD_some a.hn]
  show (match nodeAt P h n with | .look t br => _ | .act t j br => _ | .fin _ => _) = _
  rw [a.node]

theorem ent_ok {m : Md} {s j : Nat} (W : MdOk m) (hs : s < m.rows.length) (hj : j < m.many) : (∃ r, m.rows[s]? = some r ∧ r[j]? = some (m.ent s j)) ∧ (m.ent s j).1 ≤ 9 ∧ (m.ent s j).2 < m.rows.length := by
  obtain ⟨r, hr⟩ := get_of_lt hs
  obtain ⟨h1, h2⟩ := W.row r (mem_of_get hr)
  obtain ⟨e, he⟩ := get_of_lt (l := r) (i := j) (by omega)
  have q : m.ent s j = e := by unfold Md.ent; rw [getD_some hr, getD_some he]
  rw [q]
  exact ⟨⟨r, hr, he⟩, h2 e (mem_of_get he)⟩
theorem md_of {P : Pl} {t : Nat} {m : Md} {b : Nat} (h : P.ths[t]? = some (m, b)) : P.md t = m := by
  unfold Pl.md
  rw [getD_some h]

theorem set_get {α : Type} {l : List α} {i j : Nat} {x y : α} (h : (l.set i x)[j]? = some y) : (j = i ∧ y = x) ∨ (j ≠ i ∧ l[j]? = some y) := by
  by_cases e : j = i
  · subst e
    have hl := lt_of_get h
    rw [List.length_set] at hl
    rw [List.getElem?_set_self hl] at h
    exact .inl ⟨rfl, (Option.some.inj h).symm⟩
  · rw [List.getElem?_set_ne (Ne.symm e)] at h
    exact .inr ⟨e, h⟩

theorem good_set {P : Pl} {s : Spot} {h n k : Nat} {sc : List Nd} {nd : Nd} {o : Option Nat} {l2 : List Nat} (G : Good P s) (a : At P s h n sc nd k) (ho : ∀ v, o = some v → v < sc.length)
    (h2 : l2.length = P.ths.length) (h3 : ∀ (t x : Nat), l2[t]? = some x → ∃ (m : Md) (b : Nat), P.ths[t]? = some (m, b) ∧ x < m.rows.length) : Good P (s.1.set h o, l2) := by
  refine ⟨?_, h2, fun h' n' e => ?_, h3⟩
  · show (s.1.set h o).length = _
    rw [List.length_set]
    exact G.l1
  · rcases set_get e with ⟨e1, e2⟩ | ⟨_, e2⟩
    · rw [e1]
      exact ⟨sc, a.hs, ho n' e2.symm⟩
    · exact G.nd h' n' e2
theorem look_lt {br : List (Nat × Nat)} {keys at_ n x v : Nat} (B : BrOk br keys at_ n) (h : br.lookup x = some v) : at_ < v ∧ v < n := (B.ok _ (lookup_mem h)).2
theorem good_step {P : Pl} {s : Spot} {h : Nat} (W : PlOk P) (G : Good P s) (c : canGo P s h = true) : Good P (step P s h) := by
  obtain ⟨n, sc, nd, k, a⟩ := at_of W G c
  cases nd with
  | look t br =>
    rw [step_look a]
    obtain ⟨m, b, hm, B⟩ := a.ok
    exact good_set G a (fun v e => (look_lt B e).2) G.l2 G.st
  | act t j br =>
    rw [step_act a]
    obtain ⟨m, b, hm, hj, B⟩ := a.ok
    refine good_set G a (fun v e => (look_lt B e).2) (by rw [List.length_set]; exact G.l2) fun t' x e => ?_
    rcases set_get e with ⟨e1, e2⟩ | ⟨_, e2⟩
    · rw [e1, e2, md_of hm]
      refine ⟨m, b, hm, (ent_ok (W.th _ (mem_of_get hm)).1 ?_ hj).2.2⟩
      obtain ⟨x', hx⟩ := get_of_lt (l := s.2) (i := t) (by rw [G.l2]; exact lt_of_get hm)
      obtain ⟨m', b', hm', lt⟩ := G.st t x' hx
      rw [hm] at hm'
      cases hm'
      rw [getD_some hx]
      exact lt
    · exact G.st t' x e2
  | fin _ => exact absurd a.inn (by simp [Nd.inner])
theorem good_begin {P : Pl} (W : PlOk P) : Good P (begin P) := by
  refine ⟨by simp [begin], by simp [begin], fun h n e => ?_, fun t x e => ?_⟩
  · simp only [begin, List.getElem?_map] at e
    cases q : P.scs[h]? with
    | none => rw [q] at e; simp at e
    | some sc =>
      rw [q] at e
      simp at e
      subst e
      obtain ⟨M, _, hM⟩ := W.sc
      obtain ⟨k, _, S⟩ := hM sc (mem_of_get q)
      exact ⟨sc, rfl, by have := S.kl; omega⟩
  · simp only [begin, List.getElem?_map] at e
    cases q : P.ths[t]? with
    | none => rw [q] at e; simp at e
    | some y =>
      rw [q] at e
      simp at e
      subst e
      exact ⟨y.1, y.2, rfl, (W.th y (mem_of_get q)).2⟩

/-! ### a measure -/
/-- how many nodes ahead of the first end -/
def inn (sc : List Nd) : Nat := (sc.takeWhile Nd.inner).length
def wt (sc : List Nd) : Option Nat → Nat
  | none => 0
  | some n => inn sc - n
def mu : List (List Nd) → List (Option Nat) → Nat
  | sc :: r, o :: os => wt sc o + mu r os
  | _, _ => 0
theorem inn_of {ths : List (Md × Nat)} {hands : Nat} {sc : List Nd} {k : Nat} (S : ScOk ths hands sc k) : inn sc = k := by
  have key : ∀ (sc : List Nd) (k : Nat), k ≤ sc.length → (∀ (i : Nat) (nd : Nd), sc[i]? = some nd → (nd.inner = true ↔ i < k)) → inn sc = k := by
    intro sc
    induction sc with
    | nil => intro k hk _; simp at hk; subst hk; rfl
    | cons nd r ih =>
      intro k hk h
      have h0 := h 0 nd rfl
      cases k with
      | zero =>
        have : nd.inner = false := by
          cases q : nd.inner with
          | false => rfl
          | true => exact absurd (h0.mp q) (by omega)
        unfold inn
        rw [List.takeWhile_cons, this]
        rfl
      | succ k =>
        have : nd.inner = true := h0.mpr (by omega)
        have := ih k (by simpa using hk) (fun i nd' e => by
          have := h (i + 1) nd' (by simpa using e)
          rw [this]
          omega)
        unfold inn at this ⊢
        rw [List.takeWhile_cons, ‹nd.inner = true›]
        simp [this]
  exact key sc k (Nat.le_of_lt S.kl) fun i nd e => (S.nd i nd e).2
theorem mu_set : ∀ {scs : List (List Nd)} {os : List (Option Nat)} {h : Nat} {sc : List Nd} {o v : Option Nat}, scs[h]? = some sc → os[h]? = some o → mu scs (os.set h v) + wt sc o = mu scs os + wt sc v
  | [], _, _, _, _, _, h1, _ => by simp at h1
  | _ :: _, [], _, _, _, _, _, h2 => by simp at h2
  | sc' :: r, o' :: os, 0, sc, o, v, h1, h2 => by
    simp at h1 h2
    subst h1 h2
    simp only [List.set_cons_zero, mu]
    omega
  | sc' :: r, o' :: os, h + 1, sc, o, v, h1, h2 => by
    have := mu_set (scs := r) (os := os) (h := h) (sc := sc) (o := o) (v := v) (by simpa using h1) (by simpa using h2)
    simp only [List.set_cons_succ, mu]
    omega
def Mu (P : Pl) (s : Spot) : Nat := mu P.scs s.1
theorem step_wt {P : Pl} {s : Spot} {h : Nat} (W : PlOk P) (G : Good P s) (c : canGo P s h = true) : Mu P (step P s h) < Mu P s := by
  obtain ⟨n, sc, nd, k, a⟩ := at_of W G c
  have hk := inn_of a.sc
  have hlt := a.lt
  have key : ∀ (br : List (Nat × Nat)) (keys x : Nat) (l2 : List Nat), BrOk br keys n sc.length → Mu P (s.1.set h (br.lookup x), l2) < Mu P s := by
    intro br keys x l2 B
    have e := mu_set (v := br.lookup x) a.hs a.hn
    unfold Mu
    show mu P.scs (s.1.set h (br.lookup x)) < mu P.scs s.1
    have w1 : wt sc (some n) = k - n := by simp [wt, hk]
    cases q : br.lookup x with
    | none =>
      rw [q] at e
      have w2 : wt sc none = 0 := rfl
      omega
    | some v =>
      rw [q] at e
      have w2 : wt sc (some v) = k - v := by simp [wt, hk]
      have := (look_lt B q).1
      omega
  cases nd with
  | look t br =>
    rw [step_look a]
    obtain ⟨m, b, hm, B⟩ := a.ok
    exact key br _ _ _ B
  | act t j br =>
    rw [step_act a]
    obtain ⟨m, b, hm, hj, B⟩ := a.ok
    exact key br _ _ _ B
  | fin _ => exact absurd a.inn (by simp [Nd.inner])
theorem mu_bound {M : Nat} : ∀ {scs : List (List Nd)} {os : List (Option Nat)}, (∀ sc ∈ scs, inn sc ≤ M) → mu scs os ≤ scs.length * M
  | [], _, _ => by simp [mu]
  | sc :: r, [], _ => by simp [mu]
  | sc :: r, o :: os, h => by
    have h1 := mu_bound (scs := r) (os := os) fun x hx => h x (List.mem_cons_of_mem _ hx)
    have h2 := h sc List.mem_cons_self
    have h3 : wt sc o ≤ inn sc := by
      cases o with
      | none => exact Nat.zero_le _
      | some n => exact Nat.sub_le _ _
    simp only [mu, List.length_cons, Nat.succ_mul]
    omega
theorem mu9 {P : Pl} (W : PlOk P) (s : Spot) : Mu P s ≤ 9 := by
  obtain ⟨M, hM, hs⟩ := W.sc
  refine Nat.le_trans (mu_bound (M := M) fun sc h => ?_) hM
  obtain ⟨k, hk, S⟩ := hs sc h
  rw [inn_of S]
  exact hk

/-! ### full weavings -/
def fullF (P : Pl) : Nat → Spot → List (List Nat)
  | 0, _ => [[]]
  | n + 1, s => if can P s = [] then [[]] else (can P s).flatMap fun h => (fullF P n (step P s h)).map (h :: ·)
theorem can_nil {P : Pl} {s : Spot} (W : PlOk P) (G : Good P s) (h : Mu P s = 0) : can P s = [] := by
  cases q : can P s with
  | nil => rfl
  | cons x r =>
    have hx : x ∈ can P s := by rw [q]; exact List.mem_cons_self
    have := step_wt W G (mem_can.mp hx).2
    omega
theorem fullF_stable {P : Pl} (W : PlOk P) : ∀ (n : Nat) (s : Spot), Good P s → Mu P s ≤ n → fullF P n s = fullF P (n + 1) s
  | 0, s, G, h => by
    have := can_nil W G (by omega)
    simp [fullF, this]
  | n + 1, s, G, h => by
    show (if can P s = [] then [[]] else (can P s).flatMap fun h => (fullF P n (step P s h)).map (h :: ·)) = (if can P s = [] then [[]] else (can P s).flatMap fun h => (fullF P (n + 1) (step P s h)).map (h :: ·))
    by_cases e : can P s = []
    · rw [if_pos e, if_pos e]
    · rw [if_neg e, if_neg e]
      have key : ∀ l : List Nat, (∀ x ∈ l, x ∈ can P s) → (l.flatMap fun h => (fullF P n (step P s h)).map (h :: ·)) = l.flatMap fun h => (fullF P (n + 1) (step P s h)).map (h :: ·) := by
        intro l
        induction l with
        | nil => intro _; rfl
        | cons x r ih =>
          intro hl
          rw [List.flatMap_cons, List.flatMap_cons, ih fun y hy => hl y (List.mem_cons_of_mem _ hy)]
          have c := (mem_can.mp (hl x List.mem_cons_self)).2
          rw [fullF_stable W n (step P s x) (good_step W G c) (by have := step_wt W G c; omega)]
      exact key _ fun _ h => h
def full (P : Pl) (s : Spot) : List (List Nat) := fullF P 9 s
theorem full_eq {P : Pl} {s : Spot} (W : PlOk P) (G : Good P s) : full P s = if can P s = [] then [[]] else (can P s).flatMap fun h => (full P (step P s h)).map (h :: ·) := by
  unfold full
  rw [fullF_stable W 9 s G (mu9 W s)]
  rfl
def cnt (P : Pl) (s : Spot) : Nat := (full P s).length
theorem cnt_end {P : Pl} {s : Spot} (W : PlOk P) (G : Good P s) (h : can P s = []) : cnt P s = 1 := by
  unfold cnt
  rw [full_eq W G, if_pos h]
  rfl
def sumOf (f : Nat → Nat) : List Nat → Nat
  | [] => 0
  | x :: r => f x + sumOf f r
theorem sumOf_eq (f : Nat → Nat) : ∀ l : List Nat, sumOf f l = (l.map f).sum
  | [] => rfl
  | x :: r => by simp [sumOf, sumOf_eq f r]
theorem flatMap_length {f : Nat → List (List Nat)} : ∀ l : List Nat, (l.flatMap f).length = (l.map fun x => (f x).length).sum
  | [] => rfl
  | x :: r => by rw [List.flatMap_cons, List.length_append, flatMap_length r]; simp
theorem cnt_step {P : Pl} {s : Spot} (W : PlOk P) (G : Good P s) (h : can P s ≠ []) : cnt P s = ((can P s).map fun x => cnt P (step P s x)).sum := by
  unfold cnt
  rw [full_eq W G, if_neg h, flatMap_length]
  simp
theorem cnt_pos {P : Pl} (W : PlOk P) : ∀ (n : Nat) (s : Spot), Good P s → Mu P s ≤ n → 1 ≤ cnt P s
  | 0, s, G, h => by rw [cnt_end W G (can_nil W G (by omega))]; exact Nat.le_refl _
  | n + 1, s, G, h => by
    by_cases e : can P s = []
    · rw [cnt_end W G e]; exact Nat.le_refl _
    · rw [cnt_step W G e]
      cases q : can P s with
      | nil => exact absurd q e
      | cons x r =>
        have hx : x ∈ can P s := by rw [q]; exact List.mem_cons_self
        have c := (mem_can.mp hx).2
        have := cnt_pos W n (step P s x) (good_step W G c) (by have := step_wt W G c; omega)
        simp only [List.map_cons, List.sum_cons]
        omega
theorem cnt1 {P : Pl} {s : Spot} (W : PlOk P) (G : Good P s) : 1 ≤ cnt P s := cnt_pos W _ s G (Nat.le_refl _)

/-- behind any full weaving no hand can step: runs -/
def run (P : Pl) (s : Spot) : List Nat → Spot
  | [] => s
  | h :: r => run P (step P s h) r
def okRun (P : Pl) (s : Spot) : List Nat → Prop
  | [] => True
  | h :: r => h ∈ can P s ∧ okRun P (step P s h) r
theorem full_run {P : Pl} (W : PlOk P) : ∀ (n : Nat) (s : Spot) (w : List Nat), Good P s → Mu P s ≤ n → w ∈ full P s → okRun P s w ∧ can P (run P s w) = [] ∧ w.length ≤ n
  | 0, s, w, G, h, hw => by
    have e := can_nil W G (by omega)
    rw [full_eq W G, if_pos e] at hw
    simp at hw
    subst hw
    exact ⟨trivial, e, Nat.le_refl _⟩
  | n + 1, s, w, G, h, hw => by
    rw [full_eq W G] at hw
    by_cases e : can P s = []
    · rw [if_pos e] at hw
      simp at hw
      subst hw
      exact ⟨trivial, e, Nat.zero_le _⟩
    · rw [if_neg e] at hw
      obtain ⟨x, hx, hw⟩ := List.mem_flatMap.mp hw
      obtain ⟨w', hw', rfl⟩ := List.mem_map.mp hw
      have c := (mem_can.mp hx).2
      obtain ⟨h1, h2, h3⟩ := full_run W n (step P s x) w' (good_step W G c) (by have := step_wt W G c; omega) hw'
      exact ⟨⟨hx, h1⟩, h2, by simp; omega⟩

end K57
set_option linter.all false
set_option autoImplicit false
/-! K57N: the plain law, part 2: tables, levels, places met, counts, weavings by their places. -/
namespace K57

/-! ### tables -/
section
variable {κ β : Type} [DecidableEq κ]
def getA (l : List (κ × β)) (k : κ) : Option β := (l.find? fun p => decide (p.1 = k)).map (·.2)
def putA (l : List (κ × β)) (k : κ) (v : β) : List (κ × β) :=
  if (l.any fun p => decide (p.1 = k)) = true then l.map (fun p => if p.1 = k then (p.1, v) else p) else l ++ [(k, v)]
theorem getA_nil {k : κ} : getA ([] : List (κ × β)) k = none := rfl
theorem getA_pos {p : κ × β} {r : List (κ × β)} {k : κ} (e : p.1 = k) : getA (p :: r) k = some p.2 := by simp [getA, List.find?_cons, e]
theorem getA_neg {p : κ × β} {r : List (κ × β)} {k : κ} (e : ¬ p.1 = k) : getA (p :: r) k = getA r k := by simp [getA, List.find?_cons, e]
theorem getA_none {k : κ} : ∀ {l : List (κ × β)}, getA l k = none ↔ k ∉ l.map (·.1)
  | [] => by simp [getA_nil]
  | p :: r => by
    by_cases e : p.1 = k
    · rw [getA_pos e]
      simp [e]
    · rw [getA_neg e, getA_none (l := r)]
      simp only [List.map_cons, List.mem_cons, not_or]
      exact ⟨fun h => ⟨fun q => e q.symm, h⟩, fun h => h.2⟩
theorem any_getA (k : κ) : ∀ l : List (κ × β), (l.any fun p => decide (p.1 = k)) = (getA l k).isSome
  | [] => rfl
  | p :: r => by
    rw [List.any_cons]
    by_cases e : p.1 = k
    · simp only [getA_pos e, decide_eq_true e, Bool.true_or, Option.isSome_some]
    · rw [getA_neg e, decide_eq_false e, Bool.false_or]
      exact any_getA k r
theorem getA_mem {k : κ} {v : β} : ∀ {l : List (κ × β)}, getA l k = some v → (k, v) ∈ l
  | [], h => by simp [getA_nil] at h
  | p :: r, h => by
    by_cases e : p.1 = k
    · rw [getA_pos e] at h
      have : p.2 = v := Option.some.inj h
      rw [← e, ← this]
      exact List.mem_cons_self
    · rw [getA_neg e] at h
      exact List.mem_cons_of_mem _ (getA_mem h)
theorem getA_of {k : κ} {v : β} : ∀ {l : List (κ × β)}, (l.map (·.1)).Nodup → (k, v) ∈ l → getA l k = some v
  | [], _, h => by simp at h
  | p :: r, hn, h => by
    rw [List.map_cons, List.nodup_cons] at hn
    rcases List.mem_cons.mp h with e | h
    · rw [← e]
      exact getA_pos rfl
    · have : ¬ p.1 = k := fun q => hn.1 (by rw [q]; exact List.mem_map.mpr ⟨_, h, rfl⟩)
      rw [getA_neg this]
      exact getA_of hn.2 h
theorem putA_new {l : List (κ × β)} {k : κ} (v : β) (h : getA l k = none) : putA l k v = l ++ [(k, v)] := by
  unfold putA
  rw [any_getA, h]
  exact if_neg (by simp)
theorem putA_old {l : List (κ × β)} {k : κ} {x : β} (v : β) (h : getA l k = some x) : putA l k v = l.map (fun p => if p.1 = k then (p.1, v) else p) := by
  unfold putA
  rw [any_getA, h]
  exact if_pos rfl
theorem keys_putA (l : List (κ × β)) (k : κ) (v : β) : (putA l k v).map (·.1) = if k ∈ l.map (·.1) then l.map (·.1) else l.map (·.1) ++ [k] := by
  cases h : getA l k with
  | none =>
    rw [putA_new v h, if_neg (getA_none.mp h)]
    simp
  | some x =>
    rw [putA_old v h, if_pos (List.mem_map.mpr ⟨_, getA_mem h, rfl⟩), List.map_map]
    apply List.map_congr_left
    intro p _
    simp only [Function.comp]
    split <;> rfl
theorem nodup_putA {l : List (κ × β)} {k : κ} {v : β} (hn : (l.map (·.1)).Nodup) : ((putA l k v).map (·.1)).Nodup := by
  rw [keys_putA]
  split
  · exact hn
  · rename_i h
    rw [List.nodup_append]
    refine ⟨hn, by simp, fun a ha b hb e => ?_⟩
    simp at hb
    rw [e, hb] at ha
    exact h ha
theorem length_putA (l : List (κ × β)) (k : κ) (v : β) : (putA l k v).length ≤ l.length + 1 := by
  unfold putA
  split
  · rw [List.length_map]; omega
  · rw [List.length_append]; simp
end

/-! ### sums over a level -/
def wsum (f : Spot → Nat) (l : List (Spot × Nat)) : Nat := (l.map fun p => p.2 * f p.1).sum
theorem wsum_nil (f : Spot → Nat) : wsum f [] = 0 := rfl
theorem wsum_cons (f : Spot → Nat) (p : Spot × Nat) (l : List (Spot × Nat)) : wsum f (p :: l) = p.2 * f p.1 + wsum f l := by simp [wsum]
theorem wsum_append (f : Spot → Nat) (l m : List (Spot × Nat)) : wsum f (l ++ m) = wsum f l + wsum f m := by simp [wsum]
theorem wsum_bump (f : Spot → Nat) (k : Spot) (c : Nat) : ∀ {l : List (Spot × Nat)}, (l.map (·.1)).Nodup → wsum f (putA l k ((getA l k).getD 0 + c)) = wsum f l + c * f k := by
  intro l hn
  cases h : getA l k with
  | none =>
    rw [putA_new _ h, wsum_append]
    simp [wsum]
  | some x =>
    rw [putA_old _ h]
    show wsum f (l.map fun p => if p.1 = k then (p.1, x + c) else p) = _
    induction l with
    | nil => simp [getA_nil] at h
    | cons p r ih =>
      rw [List.map_cons, List.nodup_cons] at hn
      rw [List.map_cons, wsum_cons, wsum_cons]
      by_cases e : p.1 = k
      · rw [if_pos e]
        have hx : p.2 = x := by rw [getA_pos e] at h; exact Option.some.inj h
        have same : (r.map fun p => if p.1 = k then (p.1, x + c) else p) = r := by
          rw [List.map_congr_left (g := id)]
          · simp
          · intro q hq
            have : ¬ q.1 = k := fun z => hn.1 (by rw [e, ← z]; exact List.mem_map.mpr ⟨q, hq, rfl⟩)
            rw [if_neg this]
            rfl
        rw [same]
        show (x + c) * f p.1 + _ = _
        rw [e, hx, Nat.add_mul]
        omega
      · rw [if_neg e]
        rw [getA_neg e] at h
        rw [ih hn.2 h]
        omega
/-- what of a level is full -/
def doneL (P : Pl) (l : List (Spot × Nat)) : Nat := (l.map fun p => if can P p.1 = [] then p.2 else 0).sum
/-- what of a level goes on -/
def goL (P : Pl) (l : List (Spot × Nat)) : Nat := (l.map fun p => if can P p.1 = [] then 0 else p.2 * cnt P p.1).sum
theorem done_go {P : Pl} (W : PlOk P) : ∀ {l : List (Spot × Nat)}, (∀ p ∈ l, Good P p.1) → wsum (cnt P) l = doneL P l + goL P l
  | [], _ => rfl
  | p :: r, h => by
    have ih := done_go W (l := r) fun q hq => h q (List.mem_cons_of_mem _ hq)
    rw [wsum_cons, ih]
    simp only [doneL, goL, List.map_cons, List.sum_cons]
    by_cases e : can P p.1 = []
    · rw [if_pos e, if_pos e, cnt_end W (h p List.mem_cons_self) e]
      omega
    · rw [if_neg e, if_neg e]
      omega
theorem go_item {P : Pl} (W : PlOk P) {s : Spot} {c : Nat} (G : Good P s) : (if can P s = [] then 0 else c * cnt P s) = c * ((can P s).map fun h => cnt P (step P s h)).sum := by
  by_cases e : can P s = []
  · rw [if_pos e, e]
    simp
  · rw [if_neg e, cnt_step W G e]
theorem goL_cons {P : Pl} (W : PlOk P) {p : Spot × Nat} {r : List (Spot × Nat)} (G : Good P p.1) : goL P (p :: r) = p.2 * ((can P p.1).map fun h => cnt P (step P p.1 h)).sum + goL P r := by
  rw [← go_item W G]
  simp [goL]
theorem goL_take {P : Pl} (W : PlOk P) {l : List (Spot × Nat)} {i : Nat} {p : Spot × Nat} (G : Good P p.1) (h : l[i]? = some p) : goL P (l.take (i + 1)) = goL P (l.take i) + p.2 * ((can P p.1).map fun h => cnt P (step P p.1 h)).sum := by
  rw [List.take_add_one, h]
  simp only [goL, Option.toList_some, List.map_append, List.sum_append, List.map_cons, List.map_nil, List.sum_cons, List.sum_nil, Nat.add_zero]
  rw [go_item W G]
theorem sum_take {f : Nat → Nat} {l : List Nat} {i x : Nat} (h : l[i]? = some x) : ((l.take (i + 1)).map f).sum = ((l.take i).map f).sum + f x := by
  rw [List.take_add_one, h]
  simp
theorem doneL_take {P : Pl} {l : List (Spot × Nat)} {i : Nat} {p : Spot × Nat} (h : l[i]? = some p) : doneL P (l.take (i + 1)) = doneL P (l.take i) + (if can P p.1 = [] then p.2 else 0) := by
  rw [List.take_add_one, h]
  simp [doneL]

/-! ### heights -/
def hgt : List (List Nd) → List (Option Nat) → Nat
  | sc :: r, o :: os => (match o with | none => sc.length | some n => n) + hgt r os
  | _, _ => 0
def Hgt (P : Pl) (s : Spot) : Nat := hgt P.scs s.1
def hv (sc : List Nd) : Option Nat → Nat
  | none => sc.length
  | some n => n
theorem hgt_cons (sc : List Nd) (r : List (List Nd)) (o : Option Nat) (os : List (Option Nat)) : hgt (sc :: r) (o :: os) = hv sc o + hgt r os := by cases o <;> rfl
theorem hgt_set : ∀ {scs : List (List Nd)} {os : List (Option Nat)} {h : Nat} {sc : List Nd} {o v : Option Nat}, scs[h]? = some sc → os[h]? = some o → hgt scs (os.set h v) + hv sc o = hgt scs os + hv sc v
  | [], _, _, _, _, _, h1, _ => by simp at h1
  | _ :: _, [], _, _, _, _, _, h2 => by simp at h2
  | sc' :: r, o' :: os, 0, sc, o, v, h1, h2 => by
    simp at h1 h2
    subst h1 h2
    simp only [List.set_cons_zero, hgt_cons]
    omega
  | sc' :: r, o' :: os, h + 1, sc, o, v, h1, h2 => by
    have := hgt_set (scs := r) (os := os) (h := h) (sc := sc) (o := o) (v := v) (by simpa using h1) (by simpa using h2)
    simp only [List.set_cons_succ, hgt_cons]
    omega
theorem step_hgt {P : Pl} {s : Spot} {h : Nat} (W : PlOk P) (G : Good P s) (c : canGo P s h = true) : Hgt P s < Hgt P (step P s h) := by
  obtain ⟨n, sc, nd, k, a⟩ := at_of W G c
  have hlt : n < sc.length := lt_of_get a.hd
  have key : ∀ (br : List (Nat × Nat)) (keys x : Nat) (l2 : List Nat), BrOk br keys n sc.length → Hgt P s < Hgt P (s.1.set h (br.lookup x), l2) := by
    intro br keys x l2 B
    have e := hgt_set (v := br.lookup x) a.hs a.hn
    show hgt P.scs s.1 < hgt P.scs (s.1.set h (br.lookup x))
    have w1 : hv sc (some n) = n := rfl
    cases q : br.lookup x with
    | none =>
      rw [q] at e
      have w2 : hv sc none = sc.length := rfl
      omega
    | some v =>
      rw [q] at e
      have w2 : hv sc (some v) = v := rfl
      have := (look_lt B q).1
      omega
  cases nd with
  | look t br =>
    rw [step_look a]
    obtain ⟨m, b, hm, B⟩ := a.ok
    exact key br _ _ _ B
  | act t j br =>
    rw [step_act a]
    obtain ⟨m, b, hm, hj, B⟩ := a.ok
    exact key br _ _ _ B
  | fin _ => exact absurd a.inn (by simp [Nd.inner])

/-! ### all places that are come to -/
def stepsOf (P : Pl) (s : Spot) : List (Nat × Spot) := (can P s).map fun h => (h, step P s h)
/-- F: all places, closed under steps -/
structure Closed (P : Pl) (F : List Spot) : Prop where
  nd : F.Nodup
  good : ∀ p ∈ F, Good P p
  beg : begin P ∈ F
  cl : ∀ p ∈ F, ∀ h ∈ can P p, step P p h ∈ F
  sz : F.length ≤ 1000000
theorem can_le4 {P : Pl} (W : PlOk P) {s : Spot} (G : Good P s) : (can P s).length ≤ 4 := by
  unfold can
  refine Nat.le_trans (List.length_filter_le _ _) ?_
  rw [List.length_range, G.l1]
  exact W.s4

/-! ### counts in the sequence of heights -/
theorem earlier {P : Pl} (W : PlOk P) {F L : List Spot} (C : Closed P F) (hp : L.Perm F) (hs : L.Pairwise fun a b => Hgt P b ≤ Hgt P a) {i h : Nat} {p : Spot} (hi : L[i]? = some p) (hh : h ∈ can P p) : ∃ j : Nat, j < i ∧ L[j]? = some (step P p h) := by
  have hpF : p ∈ F := hp.mem_iff.mp (mem_of_get hi)
  have hl : step P p h ∈ L := hp.mem_iff.mpr (C.cl p hpF h hh)
  obtain ⟨j, hj⟩ := List.getElem?_of_mem hl
  refine ⟨j, ?_, hj⟩
  have lt := step_hgt W (C.good p hpF) (mem_can.mp hh).2
  rcases Nat.lt_or_ge j i with q | q
  · exact q
  · exfalso
    have hi' := List.getElem?_eq_some_iff.mp hi
    have hj' := List.getElem?_eq_some_iff.mp hj
    obtain ⟨hi1, hi2⟩ := hi'
    obtain ⟨hj1, hj2⟩ := hj'
    rcases Nat.lt_or_eq_of_le q with q | q
    · have := (List.pairwise_iff_getElem.mp hs) i j hi1 hj1 q
      rw [hi2, hj2] at this
      omega
    · subst q
      rw [hi2] at hj2
      rw [← hj2] at lt
      omega

/-! ### the weaving at a place -/
def fl (P : Pl) (s : Spot) (l : List Nat) : List (List Nat) := l.flatMap fun h => (full P (step P s h)).map (h :: ·)
theorem full_fl {P : Pl} {s : Spot} (W : PlOk P) (G : Good P s) (h : can P s ≠ []) : full P s = fl P s (can P s) := by
  rw [full_eq W G, if_neg h]
  rfl
theorem fl_cons (P : Pl) (s : Spot) (h : Nat) (r : List Nat) : fl P s (h :: r) = (full P (step P s h)).map (h :: ·) ++ fl P s r := by
  unfold fl
  rw [List.flatMap_cons]
theorem fl_len (P : Pl) (s : Spot) (h : Nat) (r : List Nat) : (fl P s (h :: r)).length = cnt P (step P s h) + (fl P s r).length := by
  rw [fl_cons, List.length_append, List.length_map]
  rfl
theorem fl_ge {P : Pl} {s : Spot} {h i : Nat} {r : List Nat} (g : cnt P (step P s h) ≤ i) : (fl P s (h :: r))[i]? = (fl P s r)[i - cnt P (step P s h)]? := by
  have e : ((full P (step P s h)).map (h :: ·)).length = cnt P (step P s h) := by rw [List.length_map]; rfl
  rw [fl_cons, List.getElem?_append_right (by rw [e]; exact g), e]
theorem fl_lt {P : Pl} {s : Spot} {h i : Nat} {r : List Nat} (g : i < cnt P (step P s h)) : (fl P s (h :: r))[i]? = ((full P (step P s h))[i]?).map (h :: ·) := by
  have e : ((full P (step P s h)).map (h :: ·)).length = cnt P (step P s h) := by rw [List.length_map]; rfl
  rw [fl_cons, List.getElem?_append_left (by rw [e]; exact g), List.getElem?_map]

/-! ### the first ones -/
def pend (P : Pl) (st : List (List Nat × Spot)) : List (List Nat) := st.reverse.flatMap fun x => (full P x.2).map (x.1 ++ ·)
theorem pend_nil (P : Pl) : pend P [] = [] := rfl
theorem pend_snoc (P : Pl) (st : List (List Nat × Spot)) (x : List Nat × Spot) : pend P (st ++ [x]) = (full P x.2).map (x.1 ++ ·) ++ pend P st := by
  unfold pend
  rw [List.reverse_append]
  simp
theorem pend_app (P : Pl) (st more : List (List Nat × Spot)) : pend P (st ++ more) = pend P more ++ pend P st := by
  unfold pend
  rw [List.reverse_append, List.flatMap_append]
/-- what is pushed for a place that goes on -/
def pushed (P : Pl) (w : List Nat) (s : Spot) : List (List Nat × Spot) := (can P s).reverse.map fun h => (w ++ [h], step P s h)
theorem pend_pushed {P : Pl} {s : Spot} (W : PlOk P) (G : Good P s) (h : can P s ≠ []) (w : List Nat) : pend P (pushed P w s) = (full P s).map (w ++ ·) := by
  rw [full_fl W G h]
  unfold pend pushed fl
  rw [← List.map_reverse, List.reverse_reverse]
  generalize can P s = l
  induction l with
  | nil => rfl
  | cons x r ih =>
    rw [List.map_cons, List.flatMap_cons, List.flatMap_cons, List.map_append, ih, List.map_map]
    congr 1
    apply List.map_congr_left
    intro y _
    simp
/-- how many places a tree has at the most -/
def T4 : Nat → Nat
  | 0 => 1
  | n + 1 => 1 + 4 * T4 n
theorem T4_pos : ∀ n, 1 ≤ T4 n
  | 0 => Nat.le_refl _
  | n + 1 => by simp [T4]
theorem T4_mono : ∀ {a b : Nat}, a ≤ b → T4 a ≤ T4 b
  | 0, b, _ => T4_pos b
  | a + 1, 0, h => absurd h (by omega)
  | a + 1, b + 1, h => by
    have := T4_mono (a := a) (b := b) (by omega)
    simp only [T4]
    omega
def stw (P : Pl) (st : List (List Nat × Spot)) : Nat := (st.map fun x => T4 (Mu P x.2)).sum
theorem stw_len (P : Pl) : ∀ st : List (List Nat × Spot), st.length ≤ stw P st
  | [] => Nat.le_refl _
  | x :: r => by
    have := stw_len P r
    have := T4_pos (Mu P x.2)
    simp only [stw, List.map_cons, List.sum_cons, List.length_cons] at *
    omega
theorem stw_snoc (P : Pl) (st : List (List Nat × Spot)) (x : List Nat × Spot) : stw P (st ++ [x]) = stw P st + T4 (Mu P x.2) := by simp [stw]
theorem stw_app (P : Pl) (st more : List (List Nat × Spot)) : stw P (st ++ more) = stw P st + stw P more := by simp [stw]
theorem stw_pushed {P : Pl} {s : Spot} (W : PlOk P) (G : Good P s) (w : List Nat) : stw P (pushed P w s) < T4 (Mu P s) := by
  have h4 := can_le4 W G
  by_cases e : can P s = []
  · unfold pushed
    rw [e]
    exact T4_pos _
  · have hm : 1 ≤ Mu P s := by
      rcases Nat.eq_zero_or_pos (Mu P s) with q | q
      · exact absurd (can_nil W G q) e
      · exact q
    obtain ⟨k, hk⟩ : ∃ k, Mu P s = k + 1 := ⟨Mu P s - 1, by omega⟩
    have key : ∀ l : List Nat, (∀ x ∈ l, x ∈ can P s) → stw P (l.map fun h => (w ++ [h], step P s h)) ≤ l.length * T4 k := by
      intro l
      induction l with
      | nil => intro _; simp [stw]
      | cons x r ih =>
        intro hl
        have h1 := ih fun y hy => hl y (List.mem_cons_of_mem _ hy)
        have h2 := step_wt W G (mem_can.mp (hl x List.mem_cons_self)).2
        have h3 : T4 (Mu P (step P s x)) ≤ T4 k := T4_mono (by omega)
        have h4 : stw P ((x :: r).map fun h => (w ++ [h], step P s h)) = T4 (Mu P (step P s x)) + stw P (r.map fun h => (w ++ [h], step P s h)) := by simp [stw]
        rw [h4, List.length_cons, Nat.succ_mul]
        omega
    have h5 := key (can P s).reverse fun x hx => List.mem_reverse.mp hx
    rw [List.length_reverse] at h5
    have h6 : (can P s).length * T4 k ≤ 4 * T4 k := Nat.mul_le_mul_right _ h4
    rw [hk]
    simp only [T4]
    unfold pushed
    omega

/-! ### the last one -/
theorem fl_last {P : Pl} {s : Spot} (hp : ∀ h, full P (step P s h) ≠ [] ) : ∀ {l : List Nat} {h : Nat}, l.getLast? = some h → (fl P s l).getLast? = ((full P (step P s h)).getLast?).map (h :: ·)
  | [], _, e => by simp at e
  | [x], h, e => by
    have e : x = h := by simpa using e
    subst e
    have : fl P s [x] = (full P (step P s x)).map (x :: ·) := by rw [fl_cons]; simp [fl]
    rw [this, List.getLast?_map]
  | x :: y :: r, h, e => by
    have e' : (y :: r).getLast? = some h := by rw [List.getLast?_cons_cons] at e; exact e
    have ih := fl_last hp e'
    rw [fl_cons, List.getLast?_append, ih]
    cases q : (full P (step P s h)).getLast? with
    | none => exact absurd (List.getLast?_eq_none_iff.mp q) (hp h)
    | some z => rfl
theorem full_ne {P : Pl} (s : Spot) : full P s ≠ [] := by
  have key : ∀ (n : Nat) (s : Spot), fullF P n s ≠ [] := by
    intro n
    induction n with
    | zero => intro s; simp [fullF]
    | succ n ih =>
      intro s
      unfold fullF
      by_cases e : can P s = []
      · rw [if_pos e]
        simp
      · rw [if_neg e]
        cases q : can P s with
        | nil => exact absurd q e
        | cons x r =>
          rw [List.flatMap_cons]
          have := ih (step P s x)
          cases z : fullF P n (step P s x) with
          | nil => exact absurd z this
          | cons a b => simp
  exact key 9 s
theorem last_step {P : Pl} {s : Spot} {h : Nat} (W : PlOk P) (G : Good P s) (e : (can P s).getLast? = some h) : (full P s).getLast? = ((full P (step P s h)).getLast?).map (h :: ·) := by
  have ne : can P s ≠ [] := fun z => by rw [z] at e; simp at e
  rw [full_fl W G ne]
  exact fl_last (fun h => full_ne _) e

/-! ### sorted -/
def lexL : List Nat → List Nat → Bool
  | [], [] => false
  | [], _ :: _ => true
  | _ :: _, [] => false
  | x :: xs, y :: ys => if x = y then lexL xs ys else decide (x < y)
theorem range_sorted (n : Nat) : (List.range n).Pairwise (· < ·) := List.pairwise_lt_range
theorem can_sorted (P : Pl) (s : Spot) : (can P s).Pairwise (· < ·) := (range_sorted _).filter _
theorem full_sorted {P : Pl} : ∀ (n : Nat) (s : Spot), (fullF P n s).Pairwise fun a b => lexL a b = true
  | 0, s => by simp [fullF]
  | n + 1, s => by
    unfold fullF
    by_cases e : can P s = []
    · rw [if_pos e]
      simp
    · rw [if_neg e]
      have hs := can_sorted P s
      generalize can P s = l at hs
      induction l with
      | nil => simp
      | cons x r ih =>
        rw [List.flatMap_cons, List.pairwise_append]
        rw [List.pairwise_cons] at hs
        refine ⟨?_, ih hs.2, ?_⟩
        · rw [List.pairwise_map]
          refine (full_sorted n (step P s x)).imp fun {a b} h => ?_
          show (if x = x then lexL a b else decide (x < x)) = true
          rw [if_pos rfl]
          exact h
        · intro a ha b hb
          obtain ⟨a', _, rfl⟩ := List.mem_map.mp ha
          obtain ⟨y, hy, hb⟩ := List.mem_flatMap.mp hb
          obtain ⟨b', _, rfl⟩ := List.mem_map.mp hb
          have lt := hs.1 y hy
          show (if x = y then lexL a' b' else decide (x < y)) = true
          rw [if_neg (Nat.ne_of_lt lt), decide_eq_true lt]
theorem full_lt {P : Pl} {s : Spot} {i j : Nat} {a b : List Nat} (h : i < j) (ha : (full P s)[i]? = some a) (hb : (full P s)[j]? = some b) : lexL a b = true := by
  obtain ⟨h1, e1⟩ := List.getElem?_eq_some_iff.mp ha
  obtain ⟨h2, e2⟩ := List.getElem?_eq_some_iff.mp hb
  have := (List.pairwise_iff_getElem.mp (full_sorted (P := P) 9 s)) i j h1 h2 h
  have e1' : (fullF P 9 s)[i] = a := e1
  have e2' : (fullF P 9 s)[j] = b := e2
  rw [e1', e2'] at this
  exact this
end K57
set_option Elab.async false
set_option linter.all false
set_option autoImplicit false
set_option maxRecDepth 100000
set_option maxHeartbeats 2000000
/-! K57D: dicts whose keys are places: tuples of two tuples, of ints and None. -/
namespace K57
open PySem PySem.Spec PyProof.Rows L2

def oV : Option Nat → V
  | none => .non
  | some n => .int ((n : Nat) : Int)
def nV (n : Nat) : V := .int ((n : Nat) : Int)
/-- a place stands at b -/
def SpotAt (H : Hp) (b : Addr) (s : Spot) : Prop := ∃ t1 t2 : Addr, H b = some (.tup [.ref t1, .ref t2]) ∧ H t1 = some (.tup (s.1.map oV)) ∧ H t2 = some (.tup (s.2.map nV))
def nkO : Option Nat → NestedKey
  | none => .none
  | some n => .num ((n : Nat) : Int)
def nkN (n : Nat) : NestedKey := .num ((n : Nat) : Int)
def nk (s : Spot) : NestedKey := .tup [.tup (s.1.map nkO), .tup (s.2.map nkN)]
theorem map_inj {α β : Type} {f : α → β} (hf : ∀ a b, f a = f b → a = b) : ∀ {l m : List α}, l.map f = m.map f → l = m
  | [], [], _ => rfl
  | [], _ :: _, e => by simp at e
  | _ :: _, [], e => by simp at e
  | a :: l, b :: m, e => by
    simp only [List.map_cons, List.cons.injEq] at e
    rw [hf a b e.1, map_inj hf e.2]
theorem nkO_inj (a b : Option Nat) (e : nkO a = nkO b) : a = b := by
  cases a with
  | none => cases b with
    | none => rfl
    | some m => exact nomatch (show NestedKey.none = NestedKey.num _ from e)
  | some n => cases b with
    | none => exact nomatch (show NestedKey.num _ = NestedKey.none from e)
    | some m =>
      have e' : NestedKey.num ((n : Nat) : Int) = NestedKey.num ((m : Nat) : Int) := e
      injection e' with e'
      rw [Int.ofNat_inj.mp e']
theorem nkN_inj (a b : Nat) (e : nkN a = nkN b) : a = b := by
  have e' : NestedKey.num ((a : Nat) : Int) = NestedKey.num ((b : Nat) : Int) := e
  injection e' with e'
  exact Int.ofNat_inj.mp e'
theorem nk_inj {a b : Spot} (e : nk a = nk b) : a = b := by
  unfold nk at e
  injection e with e
  simp only [List.cons.injEq, NestedKey.tup.injEq] at e
  obtain ⟨e1, e2, _⟩ := e
  exact Prod.ext (map_inj nkO_inj e1) (map_inj nkN_inj e2)
theorem nk_depth (s : Spot) : (nk s).depth ≤ 8 := by
  have h1 : ∀ l : List (Option Nat), NestedKey.depthAll (l.map nkO) = 0 := by
    intro l
    induction l with
    | nil => rfl
    | cons a r ih =>
      rw [List.map_cons, NestedKey.depthAll, ih]
      cases a <;> rfl
  have h2 : ∀ l : List Nat, NestedKey.depthAll (l.map nkN) = 0 := by
    intro l
    induction l with
    | nil => rfl
    | cons a r ih =>
      rw [List.map_cons, NestedKey.depthAll, ih]
      rfl
  unfold nk
  simp [NestedKey.depth, NestedKey.depthAll, h1, h2]
theorem nested_o {h : Heap} : ∀ {l : List (Option Nat)} {us : List Value}, Vals (l.map oV) us → NestedAll h (l.map nkO) us
  | [], _, r => by rw [List.map_nil] at r; cases r; exact .nil
  | none :: l, _, r => by
    rw [List.map_cons] at r
    cases r with
    | cons h t =>
      obtain rfl := (show _ = Value.none from h)
      exact .cons .none (nested_o t)
  | some n :: l, _, r => by
    rw [List.map_cons] at r
    cases r with
    | cons h t =>
      obtain ⟨t', rfl⟩ := (show ∃ t, _ = Value.int _ t from h)
      exact .cons (.int _ _) (nested_o t)
theorem nested_n {h : Heap} : ∀ {l : List Nat} {us : List Value}, Vals (l.map nV) us → NestedAll h (l.map nkN) us
  | [], _, r => by rw [List.map_nil] at r; cases r; exact .nil
  | n :: l, _, r => by
    rw [List.map_cons] at r
    cases r with
    | cons h t =>
      obtain ⟨t', rfl⟩ := (show ∃ t, _ = Value.int _ t from h)
      exact .cons (.int _ _) (nested_n t)
theorem spot_is {P : Program} {w : World} {H : Hp} {h : Heap} {b : Addr} {s : Spot} (ok : HOk P w H h) (e : SpotAt H b s) : (nestedKind P w).is h (nk s) b := by
  obtain ⟨t1, t2, e0, e1, e2⟩ := e
  obtain ⟨_, its, r, o, h1, h2, n, h3⟩ := (show ObjOk P w H h b (.tup _) from ok b _ e0)
  obtain ⟨_, its1, r1, o1, h11, h12, n1, h13⟩ := (show ObjOk P w H h t1 (.tup _) from ok t1 _ e1)
  obtain ⟨_, its2, r2, o2, h21, h22, n2, h23⟩ := (show ObjOk P w H h t2 (.tup _) from ok t2 _ e2)
  refine ⟨NestedIs.tup h1 h2 h3 ?_, nk_depth s⟩
  cases r with
  | cons ra rr =>
    cases rr with
    | cons rb rr =>
      cases rr
      obtain rfl := (show _ = Value.ref t1 from ra)
      obtain rfl := (show _ = Value.ref t2 from rb)
      exact .cons (.tup h11 h12 h13 (by simpa using nested_o r1)) (.cons (.tup h21 h22 h23 (by simpa using nested_n r2)) .nil)

/-! ### the dict -/
abbrev PXs := List (Spot × Addr × V)
abbrev KP : PXs → List (NestedKey × Addr × Value) → Prop := Paired fun p q => q.1 = nk p.1 ∧ q.2.1 = p.2.1 ∧ RelV p.2.2 q.2.2
def PD (P : Program) (w : World) (a : Addr) (xs : PXs) : HO := .ext fun h => xs.length ≤ sizeLine ∧ (a == sysModules) = false ∧ ∃ ys, KP xs ys ∧
  ∃ o es ep, h.get? a = some o ∧ o.ExactDict ∧ o.data = .dict es ep ∧ es.toList = ys.map (entryOfKey (nestedKind P w)) ∧ (ys.map (·.1)).Nodup
def AllAt (H : Hp) (xs : PXs) : Prop := ∀ x ∈ xs, SpotAt H x.2.1 x.1
/-- what stands at a key -/
def getP (xs : PXs) (s : Spot) : Option V := (xs.find? fun x => decide (x.1 = s)).map (·.2.2)
def putP (xs : PXs) (s : Spot) (b : Addr) (v : V) : PXs := if (getP xs s).isSome then xs.map (fun x => if x.1 = s then (x.1, x.2.1, v) else x) else xs ++ [(s, b, v)]
theorem getP_nil {s : Spot} : getP [] s = none := rfl
theorem getP_pos {x : Spot × Addr × V} {r : PXs} {s : Spot} (e : x.1 = s) : getP (x :: r) s = some x.2.2 := by simp [getP, List.find?_cons, e]
theorem getP_neg {x : Spot × Addr × V} {r : PXs} {s : Spot} (e : ¬ x.1 = s) : getP (x :: r) s = getP r s := by simp [getP, List.find?_cons, e]
theorem KP.val {xs : PXs} {ys : List (NestedKey × Addr × Value)} (r : KP xs ys) (s : Spot) : RelO (getP xs s) ((atKey ys (nk s)).map (·.2)) := by
  induction r with
  | nil => exact True.intro
  | @cons p q ps qs h t ih =>
    obtain ⟨h1, _, h2⟩ := h
    by_cases e : p.1 = s
    · have e' : q.1 = nk s := by rw [h1, e]
      have b : atKey (q :: qs) (nk s) = some q.2 := by simp [atKey, List.find?_cons, e']
      rw [getP_pos e, b]
      exact h2
    · have e' : ¬ q.1 = nk s := fun z => e (nk_inj (h1.symm.trans z))
      have b : atKey (q :: qs) (nk s) = atKey qs (nk s) := by simp [atKey, List.find?_cons, e']
      rw [getP_neg e, b]
      exact ih
theorem KP.put {xs : PXs} {ys : List (NestedKey × Addr × Value)} (r : KP xs ys) (s : Spot) (b : Addr) {v : V} {u : Value} (rv : RelV v u) : KP (putP xs s b v) (storedH ys (nk s) b u) := by
  have e : (getP xs s).isSome = (atKey ys (nk s)).isSome := by rw [(r.val s).isSome_eq, Option.isSome_map]
  unfold putP storedH
  rw [e]
  by_cases q : (atKey ys (nk s)).isSome = true
  · rw [if_pos q, if_pos q]
    clear e q
    induction r with
    | nil => exact .nil
    | @cons p q ps qs h t ih =>
      rw [List.map_cons, List.map_cons]
      refine .cons ?_ ih
      obtain ⟨h1, h2, h3⟩ := h
      unfold putAt
      by_cases e : p.1 = s
      · rw [if_pos e, if_pos (by rw [h1, e])]
        exact ⟨h1, h2, rv⟩
      · rw [if_neg e, if_neg (fun z => e (nk_inj (h1.symm.trans z)))]
        exact ⟨h1, h2, h3⟩
  · rw [if_neg q, if_neg q]
    exact Paired.snoc r ⟨rfl, rfl, rv⟩
theorem KP.keys {xs : PXs} {ys : List (NestedKey × Addr × Value)} (r : KP xs ys) : ys.map (·.1) = xs.map fun x => nk x.1 := by
  induction r with
  | nil => rfl
  | cons h t ih => rw [List.map_cons, List.map_cons, ih, h.1]
theorem length_putP (xs : PXs) (s : Spot) (b : Addr) (v : V) : (putP xs s b v).length ≤ xs.length + 1 := by
  unfold putP
  split
  · rw [List.length_map]; omega
  · rw [List.length_append]; simp
theorem getP_any (s : Spot) : ∀ xs : PXs, (getP xs s).isSome = xs.any fun x => decide (x.1 = s)
  | [] => rfl
  | x :: r => by
    rw [List.any_cons]
    by_cases e : x.1 = s
    · simp [getP_pos e, e]
    · rw [getP_neg e, getP_any s r]
      simp [e]
theorem getP_isSome {xs : PXs} {s : Spot} : (getP xs s).isSome = true ↔ s ∈ xs.map (·.1) := by
  rw [getP_any]
  simp only [List.any_eq_true, decide_eq_true_eq, List.mem_map]
theorem getP_none {xs : PXs} {s : Spot} : getP xs s = none ↔ s ∉ xs.map (·.1) := by
  rw [← getP_isSome]
  cases getP xs s <;> simp
theorem putP_new {xs : PXs} {s : Spot} {b : Addr} {v : V} (h : s ∉ xs.map (·.1)) : putP xs s b v = xs ++ [(s, b, v)] := by
  unfold putP
  rw [getP_none.mpr h]
  exact if_neg (by simp)
/-- the table without where the keys stand -/
def kvP (xs : PXs) : List (Spot × V) := xs.map fun x => (x.1, x.2.2)
theorem getP_eq (s : Spot) : ∀ xs : PXs, getP xs s = getA (kvP xs) s
  | [] => rfl
  | x :: r => by
    by_cases e : x.1 = s
    · rw [getP_pos e]
      exact (getA_pos (p := (x.1, x.2.2)) (r := kvP r) e).symm
    · rw [getP_neg e, getP_eq s r]
      exact (getA_neg (p := (x.1, x.2.2)) (r := kvP r) e).symm
theorem putP_eq (xs : PXs) (s : Spot) (b : Addr) (v : V) : kvP (putP xs s b v) = putA (kvP xs) s v := by
  unfold putP putA
  rw [any_getA, ← getP_eq]
  by_cases q : (getP xs s).isSome = true
  · rw [if_pos q, if_pos q]
    unfold kvP
    rw [List.map_map, List.map_map]
    apply List.map_congr_left
    intro x _
    simp only [Function.comp]
    split <;> rfl
  · rw [if_neg q, if_neg q]
    simp [kvP]
theorem AllAt.put {H : Hp} {xs : PXs} {s : Spot} {b : Addr} {v : V} (h : AllAt H xs) (hb : SpotAt H b s) : AllAt H (putP xs s b v) := by
  intro x hx
  unfold putP at hx
  split at hx
  · obtain ⟨y, hy, rfl⟩ := List.mem_map.mp hx
    by_cases e : y.1 = s
    · rw [if_pos e]
      exact h y hy
    · rw [if_neg e]
      exact h y hy
  · rcases List.mem_append.mp hx with hx | hx
    · exact h x hx
    · simp at hx
      rw [hx]
      exact hb

section
variable {P : Program} {w : World} {H : Hp} {h : Heap} {a : Addr} {xs : PXs}
theorem kp_all {ys : List (NestedKey × Addr × Value)} (ok : HOk P w H h) (r : KP xs ys) (al : AllAt H xs) : ∀ y ∈ ys, (nestedKind P w).is h y.1 y.2.1 := by
  induction r with
  | nil => intro y hy; exact nomatch hy
  | @cons p q ps qs hq t ih =>
    intro y hy
    rcases List.mem_cons.mp hy with e | hy
    · subst e
      rw [hq.1, hq.2.1]
      exact spot_is ok (al p List.mem_cons_self)
    · exact ih (fun x hx => al x (List.mem_cons_of_mem _ hx)) y hy
theorem pd_rd (ok : HOk P w H h) (e : Rd H a (PD P w a xs)) (al : AllAt H xs) : xs.length ≤ sizeLine ∧ (a == sysModules) = false ∧ ∃ ys, KP xs ys ∧ h.DictOfH (nestedKind P w) a ys := by
  obtain ⟨⟨z, hd, ys, r, o, es, ep, h1, h2, h3, h4, h5⟩, _, _⟩ := (show ObjOk P w H h a (PD P w a xs) from e.ok ok)
  exact ⟨z, hd, ys, r, o, es, ep, h1, h2, h3, h4, kp_all ok r al, h5⟩
theorem pd_ok {H' : Hp} {h' : Heap} {ys : List (NestedKey × Addr × Value)} (z : xs.length ≤ sizeLine) (hd : (a == sysModules) = false) (r : KP xs ys) (dd : h'.DictOfH (nestedKind P w) a ys) : ObjOk P w H' h' a (PD P w a xs) := by
  obtain ⟨o, es, ep, h1, h2, h3, h4, _, h5⟩ := dd
  refine ⟨⟨z, hd, ys, r, o, es, ep, h1, h2, h3, h4, h5⟩, ⟨o, h1⟩, fun g1 g2 q k => ?_⟩
  obtain ⟨z, hd, ys, r, o, es, ep, h1, h⟩ := q
  exact ⟨z, hd, ys, r, o, es, ep, k _ h1, h⟩
theorem pd_nodup (ok : HOk P w H h) (e : Rd H a (PD P w a xs)) : (xs.map (·.1)).Nodup := by
  obtain ⟨⟨z, hd, ys, r, o, es, ep, h1, h2, h3, h4, h5⟩, _, _⟩ := (show ObjOk P w H h a (PD P w a xs) from e.ok ok)
  rw [r.keys] at h5
  have : (xs.map fun x => nk x.1) = (xs.map (·.1)).map nk := by rw [List.map_map]; rfl
  rw [this] at h5
  exact (List.pairwise_map.mp h5).imp fun {a b} q e => q (by rw [e])
end

section
variable {X : Cx} {pins : List (Addr × Obj)} {σ : L2.St} {H : Hp} {s : Shared} {a b : Addr} {xs : PXs} {p : Spot} {v : V} {u r : Value} {A : Around} {E : Value → Shared → Prop}
abbrev RoomP (A : Around) : Prop := A.units + 64 < cLine
theorem room_p (hu : RoomP A) : (nestedKind X.prog X.w).room A.in1 := by
  show A.units + 1 + 8 < cLine
  have : A.units + 64 < cLine := hu
  omega
/-- d[place] -/
theorem p_getItem {Q : Value → Shared → Prop} (hu : RoomP A) (I : Inv X pins σ H s) (e : Rd H a (PD X.prog X.w a xs)) (al : AllAt H xs) (eb : SpotAt H b p) (l : getP xs p = some v) (h : ∀ w' s', Inv X pins σ H s' → RelV v w' → Q w' s') :
    wpAny (model X.prog X.w) A (getItem (.ref a) (.ref b)) Q E s := by
  obtain ⟨z, hd, ys, rel, dd⟩ := pd_rd I.hok e al
  obtain ⟨w', hw, rw'⟩ := RelO.some_of (v := v) (o := (atKey ys (nk p)).map (·.2)) (by rw [← l]; exact rel.val p)
  obtain ⟨q, hq, hq2⟩ := Option.map_eq_some_iff.mp hw
  refine wpAny_getItem_heap (room_p (X := X) hu) (spot_is I.hok eb) dd hq ?_
  rw [hq2]
  exact h w' _ (I.tok _) rw'
theorem p_notIn {Q : Value → Shared → Prop} (hu : RoomP A) (I : Inv X pins σ H s) (e : Rd H a (PD X.prog X.w a xs)) (al : AllAt H xs) (eb : SpotAt H b p) (h : ∀ s', Inv X pins σ H s' → Q (.bool (!(getP xs p).isSome)) s') :
    wpAny (model X.prog X.w) A (compareOp .NotIn (.ref b) (.ref a)) Q E s := by
  obtain ⟨z, hd, ys, rel, dd⟩ := pd_rd I.hok e al
  refine wpAny_notIn_heap (room_p (X := X) hu) (spot_is I.hok eb) hd dd ?_
  have q := (rel.val p).isSome_eq
  rw [Option.isSome_map] at q
  rw [← q]
  exact h _ (I.tok _)
theorem p_get2 {Q : Value → Shared → Prop} {d : V} {du : Value} (hu : RoomP A) (I : Inv X pins σ H s) (e : Rd H a (PD X.prog X.w a xs)) (al : AllAt H xs) (eb : SpotAt H b p) (rd : RelV d du)
    (h : ∀ w' s', Inv X pins σ H s' → RelV ((getP xs p).getD d) w' → Q w' s') : wpAny (model X.prog X.w) A (call (.builtin "dict.get") [.ref a, .ref b, du]) Q E s := by
  obtain ⟨z, hd, ys, rel, dd⟩ := pd_rd I.hok e al
  refine call_meetsIn F.slot_dict_get dd.typeIs F.entry_dict_get (F.args_dict_get_3 _ _ _) (meetsH_dict_get_default (nestedKind X.prog X.w) a b hd du) ⟨room_p (X := X) hu, nk p, ys, spot_is I.hok eb, dd, ?_⟩
  exact h _ _ (I.tok _) ((rel.val p).getD rd)
theorem p_setItem {Q : Unit → Shared → Prop} (hu : RoomP A) (I : Inv X pins σ H s) (e : H a = some (PD X.prog X.w a xs)) (al : AllAt H xs) (eb : SpotAt H b p) (hl : xs.length < sizeLine) (rv : RelV v r)
    (h : ∀ s', Inv X pins σ (upd H a (PD X.prog X.w a (putP xs p b v))) s' → Q () s') : wpAny (model X.prog X.w) A (setItem (.ref a) (.ref b) r) Q E s := by
  obtain ⟨z, hd, ys, rel, dd⟩ := pd_rd I.hok (.inl e) al
  have hz : ys.length ≤ sizeLine := by rw [← Paired.length rel]; exact z
  have hl2 : (putP xs p b v).length ≤ sizeLine := by have := length_putP xs p b v; omega
  refine wpAny_setItem_heap (hsz := hz) (room_p (X := X) hu) (spot_is I.hok eb) dd fun h' dd' hs => h _ ?_
  have he : ∃ q, h'.get? a = some q := let ⟨q, _, _, hq, _⟩ := dd'; ⟨q, hq⟩
  exact d_write I (by rw [e]; exact True.intro) hs he (pd_ok hl2 hd (rel.put p b rv) dd')
theorem pd_typeIs (I : Inv X pins σ H s) (e : Rd H a (PD X.prog X.w a xs)) : s.TypeIs (.ref a) "dict" := by
  obtain ⟨⟨z, hd, ys, r, o, es, ep, h1, h2, h3, h4, h5⟩, _, _⟩ := (show ObjOk X.prog X.w H s.heap a (PD X.prog X.w a xs) from e.ok I.hok)
  exact ⟨o, h1, h2.1⟩
theorem pd_noDict (I : Inv X pins σ H s) (e : Rd H a (PD X.prog X.w a xs)) : ∀ b, Value.ref a = .ref b → ∃ ob, s.heap.get? b = some ob ∧ ob.dict = none := fun b q => by
  cases q
  obtain ⟨⟨z, hd, ys, r, o, es, ep, h1, h2, h3, h4, h5⟩, _, _⟩ := (show ObjOk X.prog X.w H s.heap a (PD X.prog X.w a xs) from e.ok I.hok)
  exact ⟨o, h1, h2.2.1⟩
end

/-! ### readings and rules -/
def tPGet (P : Program) (w : World) (td ty : TE) : TE := fun σ H Q => td σ H fun x H1 => ty σ H1 fun y H2 => ∃ a xs b p v, x = .ref a ∧ y = .ref b ∧ Rd H2 a (PD P w a xs) ∧ AllAt H2 xs ∧ SpotAt H2 b p ∧ getP xs p = some v ∧ Q v H2
def tPNotIn (P : Program) (w : World) (ty td : TE) : TE := fun σ H Q => ty σ H fun y H1 => td σ H1 fun x H2 => ∃ a xs b p, x = .ref a ∧ y = .ref b ∧ Rd H2 a (PD P w a xs) ∧ AllAt H2 xs ∧ SpotAt H2 b p ∧ Q (.bl (!(getP xs p).isSome)) H2
def tPGet2 (P : Program) (w : World) (td ty tx : TE) : TE := fun σ H Q => td σ H fun x H1 => ∃ a xs, x = .ref a ∧ Rd H1 a (PD P w a xs) ∧ ty σ H1 fun y H2 => tx σ H2 fun d H3 => ∃ xs b p, y = .ref b ∧ Rd H3 a (PD P w a xs) ∧ AllAt H3 xs ∧ SpotAt H3 b p ∧ Q ((getP xs p).getD d) H3
def sPPut (P : Program) (w : World) (td ty tv : TE) : TS := fun D σ H => tv σ H fun v H1 => td σ H1 fun x H2 => ty σ H2 fun y H3 => ∃ a xs b p, x = .ref a ∧ y = .ref b ∧ H3 a = some (PD P w a xs) ∧ AllAt H3 xs ∧ SpotAt H3 b p ∧ xs.length < sizeLine ∧ D.nx σ (upd H3 a (PD P w a (putP xs p b v)))
def tPNew (P : Program) (w : World) : TE := fun _ H Q => ∀ p, H p = none → Q (.ref p) (upd H p (PD P w p []))
/-- {place: v} -/
def tPOne (P : Program) (w : World) (tk tv : TE) : TE := fun σ H Q => ∀ a, H a = none → tk σ (upd H a (PD P w a [])) fun y H1 => tv σ H1 fun v H2 => ∃ b p, y = .ref b ∧ H2 a = some (PD P w a []) ∧ SpotAt H2 b p ∧ Q (.ref a) (upd H2 a (PD P w a [(p, b, v)]))
section
variable {X : Cx} {o i e f value : Expr} {pos pos' tpos apos cpos : Pos} {td ty tv tx tk : TE}
theorem pe_pget (hu : RoomP X.A) (ho : PE X o td) (hi : PE X i ty) (hs : NoSl i) : PE X (.Subscript o i pos) (tPGet X.prog X.w td ty) := by
  refine ⟨fun pins s σ H Q I h => ?_⟩
  refine subD_of PySem.F.slot_dict_getitem.lookup hs (thn (ho.run pins s σ H _ I h) fun u s1 ⟨x, H1, I1, rx, q1⟩ => thn (hi.run pins s1 σ H1 _ I1 q1) fun iv s2 ⟨y, H2, I2, ry, a, xs, b, p, v, ex, ey, g, al, eb, l, q2⟩ => ?_)
  subst ex ey
  obtain rfl : u = Value.ref a := rx
  obtain rfl : iv = Value.ref b := ry
  exact ⟨pd_typeIs I2 g, p_getItem hu I2 g al eb l fun w' s3 I3 rw' => ⟨v, H2, I3, rw', q2⟩⟩
theorem pc_pnotin (hu : RoomP X.A) (hi : PE X i ty) (ho : PE X o td) : PC X .NotIn i o (tPNotIn X.prog X.w ty td) := by
  refine ⟨fun pins s σ H Q I h => ?_⟩
  refine thn (hi.run pins s σ H _ I h) fun iv s1 ⟨y, H1, I1, ry, q1⟩ => thn (ho.run pins s1 σ H1 _ I1 q1) fun u s2 ⟨x, H2, I2, rx, a, xs, b, p, ex, ey, g, al, eb, q2⟩ => ?_
  subst ex ey
  obtain rfl : u = Value.ref a := rx
  obtain rfl : iv = Value.ref b := ry
  exact p_notIn hu I2 g al eb fun s3 I3 => ⟨.bl (!(getP xs p).isSome), H2, I3, rfl, q2⟩
theorem ps_pput (hu : RoomP X.A) (ho : PE X o td) (hi : PE X i ty) (hv : PE X value tv) (hs : swapsWith value (some (.Subscript o i pos')) pos.line X.env = pure false := by rfl) :
    PS X (.Assign [.Subscript o i pos'] value pos) (sPPut X.prog X.w td ty tv) := by
  refine ⟨fun pins s σ H D I h => ?_⟩
  refine wpAny_Assign_Subscript (thn (hv.run pins s σ H _ I h) fun r s1 ⟨v, H1, I1, rv, q1⟩ => thn (ho.run pins s1 σ H1 _ I1 q1) fun u s2 ⟨x, H2, I2, rx, q2⟩ => thn (hi.run pins s2 σ H2 _ I2 q2) fun iv s3 ⟨y, H3, I3, ry, a, xs, b, p, ex, ey, g, al, eb, hl, q3⟩ => ?_) hs
  subst ex ey
  obtain rfl : u = Value.ref a := rx
  obtain rfl : iv = Value.ref b := ry
  exact p_setItem hu I3 g al eb hl rv fun s4 I4 => ⟨σ, _, I4, q3⟩
theorem pe_pget2 (hu : RoomP X.A) (ho : PE X o td) (he : PE X e ty) (hf : PE X f tx) (m : M2 X o "get" apos e f cpos) : PE X (.Call (.Attribute o "get" apos) [e, f] [] cpos) (tPGet2 X.prog X.w td ty tx) := by
  refine ⟨fun pins s σ H Q I h => ?_⟩
  refine wpAny_Call_method m.base m.few m.line PySem.F.plainAttrs_dict PySem.F.slot_dict_get PySem.F.type_dict_get (thn (ho.run pins s σ H _ I h) fun u s1 ⟨x, H1, I1, rx, a, xs, ex, d, q1⟩ => ?_)
  subst ex
  obtain rfl : u = Value.ref a := rx
  refine ⟨pd_typeIs I1 d, pd_noDict I1 d, ?_⟩
  rw [m.trees]
  refine Calls.callWith_builtin rfl (Calls.evalArgs_plain (Calls.spliced_cons (thn (he.run pins s1 σ H1 _ I1 q1) fun iv s2 ⟨y, H2, I2, ry, q2⟩ =>
    Calls.spliced_cons (thn (hf.run pins s2 σ H2 _ I2 q2) fun fv s3 ⟨z, H3, I3, rz, xs, b, p, ey, g, al, eb, q3⟩ => Calls.spliced_nil ?_))))
  subst ey
  obtain rfl : iv = Value.ref b := ry
  exact p_get2 hu I3 g al eb rz fun w' s4 I4 rw' => ⟨_, H3, I4, rw', q3⟩
theorem pd_empty {P : Program} {w : World} {H : Hp} (h : Heap) (hb : sysModules < h.objs.size) : ObjOk P w H (h.push { cls := .type "dict", data := .dict #[] }) h.objs.size (PD P w h.objs.size []) :=
  pd_ok (Nat.zero_le _) (beq_eq_false_iff_ne.mpr (Ne.symm (Nat.ne_of_lt hb))) .nil (Heap.DictOfH.new h)
theorem pe_pnew : PE X (.Dict [] [] pos) (tPNew X.prog X.w) := ⟨fun pins s σ H Q I h =>
  wpAny_Dict_empty ⟨.ref s.heap.objs.size, _, I.laid (a := s.heap.objs.size) (o := PD X.prog X.w s.heap.objs.size []) (t' := s.toks) (fun _ _ q => Heap.get?_push_of_some _ q) (Nat.le_refl _) (pd_empty s.heap I.big), rfl, h _ (I.hok.fresh (Nat.le_refl _))⟩⟩
end
end K57
set_option Elab.async false
set_option linter.all false
set_option autoImplicit false
set_option maxRecDepth 100000
set_option maxHeartbeats 2000000
/-! K57E: place dicts: one written pair, != {}, a walk over items. -/
namespace K57
open PySem PySem.Spec PyProof.Rows L2

section
variable {X : Cx} {k v e : Expr} {pos apos cpos : Pos} {tk tv td : TE}
/-- {place: v} -/
theorem pe_pone (hu : RoomP X.A) (hk : PE X k tk) (hv : PE X v tv) : PE X (.Dict [some k] [v] pos) (tPOne X.prog X.w tk tv) := by
  refine ⟨fun pins s σ H Q I q => ?_⟩
  have hn := I.hok.fresh (Nat.le_refl s.heap.objs.size)
  have I1 := I.laid (a := s.heap.objs.size) (o := PD X.prog X.w s.heap.objs.size []) (h' := s.heap.push { cls := .type "dict", data := .dict #[] }) (t' := s.toks) (fun _ _ q => Heap.get?_push_of_some _ q) (Nat.le_refl _) (pd_empty s.heap I.big)
  rw [arm_eval_Dict, zip_pairTrees [some k] [v] X.env pos rfl rfl, dictDisplay_pairs _ (by intro z; cases z) (by show 1 < 17; decide)]
  refine wpAny_bind (wpAny_standAt (wpAny_bind (wpAny_subDictH (knd := nestedKind X.prog X.w) (by show X.A.units + 8 < cLine; have : X.A.units + 64 < cLine := hu; omega) (by show 1 ≤ 15; decide) ?_)))
  refine pairTrees_cons_walk (thn (hk.run pins _ σ _ _ I1 (q _ hn)) fun u s1 ⟨y, H1, I2, ry, q1⟩ => thn (hv.run pins s1 σ H1 _ I2 q1) fun uv s2 ⟨x, H2, I3, rx, b, p, ey, ea, eb, q2⟩ => pairTrees_nil_walk ?_)
  subst ey
  obtain rfl : u = Value.ref b := ry
  obtain ⟨z, hd, ys, r0, dd⟩ := pd_rd I3.hok (.inl ea) (fun _ h => nomatch h)
  cases r0
  refine ⟨[(nk p, b, uv)], ⟨rfl, rfl, spot_is I3.hok eb, trivial⟩, dd, fun h' tk dd' hs => wpAny_pure ⟨.ref s.heap.objs.size, _, ?_, rfl, q2⟩⟩
  have he : ∃ q, h'.get? s.heap.objs.size = some q := let ⟨q, _, _, hq, _⟩ := dd'; ⟨q, hq⟩
  refine d_write I3 (by rw [ea]; exact True.intro) hs he (pd_ok (by show 1 ≤ sizeLine; decide) hd (ys := storedAllH [] [(nk p, b, uv)]) ?_ dd')
  have e1 : storedAllH ([] : List (NestedKey × Addr × Value)) [(nk p, b, uv)] = [(nk p, b, uv)] := rfl
  rw [e1]
  exact .cons ⟨rfl, rfl, rx⟩ .nil

/-- d != {} : two place dicts, the second one empty -/
def rPNeE (P : Program) (w : World) : R2 := fun x y H Q => ∃ a b xs, x = .ref a ∧ y = .ref b ∧ H a = some (PD P w a xs) ∧ H b = some (PD P w b []) ∧ Q (.bl (!xs.isEmpty)) H
theorem samePairs_len {prog : Program} {w : World} {A : Around} {E : Value → Shared → Prop} {s : Shared} {nm : String} {a b : Addr} {es : Array DictEntry} {ep ep' : Nat} {Q : Bool → Shared → Prop} (ha : (a == sysModules) = false) (hb : (b == sysModules) = false)
    (da : s.heap.DictRaw a es ep) (db : s.heap.DictRaw b #[] ep') (h : Q (es.size == 0) s) : wpAny (model prog w) A (Builtin.Dict.samePairs nm a b) Q E s := by
  obtain ⟨oa, hoa, _, hda⟩ := da
  obtain ⟨ob, hob, _, hdb⟩ := db
  unfold Builtin.Dict.samePairs Builtin.Dict.showsAll
  rw [if_neg (show ¬ (a == sysModules) = true by rw [ha]; exact Bool.false_ne_true), if_neg (show ¬ (b == sysModules) = true by rw [hb]; exact Bool.false_ne_true)]
  refine wpAny_bind (wpAny_pure (wpAny_bind (wpAny_pure ?_)))
  refine wpAny_bind (wpAny_dictEntries hoa hda ?_)
  dsimp only
  refine wpAny_bind (wpAny_dictEntries hob hdb ?_)
  by_cases hsz : es.size = 0
  case neg =>
    rw [if_pos (by simpa using hsz)]
    have hbf : (es.size == 0) = false := by simpa using hsz
    rw [hbf] at h
    exact wpAny_bind (wpAny_rule (wpAny_pure h))
  case pos =>
    have h' : Q true s := by simpa [hsz] using h
    rw [if_neg (by rw [hsz]; simp)]
    refine wpAny_bind (wpAny_dictEpoch hoa hda ?_)
    refine wpAny_bind ?_
    rw [Std.Legacy.Range.forIn_eq_forIn_range']
    simp only [Std.Legacy.Range.size, Nat.sub_zero, Nat.add_sub_cancel, Nat.div_one]
    rw [hsz]
    simp only [List.range'_zero, List.forIn_nil]
    first
      | exact wpAny_pure (wpAny_pure h')
      | exact wpAny_pure (wpAny_bind (wpAny_pure h'))
      | exact wpAny_pure h'
theorem pd_raw {pins : List (Addr × Obj)} {σ : L2.St} {H : Hp} {s : Shared} {a : Addr} {xs : PXs} (I : Inv X pins σ H s) (e : Rd H a (PD X.prog X.w a xs)) : (a == sysModules) = false ∧ ∃ es ep, s.heap.DictRaw a es ep ∧ es.size = xs.length := by
  obtain ⟨⟨z, hd, ys, r, o, es, ep, h1, h2, h3, h4, h5⟩, _, _⟩ := (show ObjOk X.prog X.w H s.heap a (PD X.prog X.w a xs) from e.ok I.hok)
  refine ⟨hd, es, ep, ⟨o, h1, h2, h3⟩, ?_⟩
  rw [← Array.length_toList, h4, List.length_map]
  exact (Paired.length r).symm
theorem op_pneE (hu : X.A.units < cLine) : OpR X (compareOp .NotEq) (rPNeE X.prog X.w) := by
  intro pins s σ H x y v u Q I rx ry h
  obtain ⟨a, b, xs, rfl, rfl, ea, eb, q⟩ := h
  obtain rfl : v = Value.ref a := rx
  obtain rfl : u = Value.ref b := ry
  obtain ⟨ha, es, ep, da, hs⟩ := pd_raw I (.inl ea)
  obtain ⟨hb, es', ep', db, hs'⟩ := pd_raw I (.inl eb)
  have e0 : es' = #[] := Array.eq_empty_of_size_eq_zero hs'
  subst e0
  refine wpAny_richCompare_same_room (op := .NotEq) da.typeIs db.typeIs PySem.F.slot_dict_ne (wpAny_call_entry PySem.F.slot_dict_ne da.typeIs PySem.F.entry_dict_ne ?_ (PySem.F.args_dict_ne_2 _ _)) hu
  show wpAny _ _ (Builtin.Dict.dictSlotArgs "__ne__" ⟨[.ref a, .ref b], []⟩ >>= _) _ _ s
  refine wpAny_bind ?_
  unfold Builtin.Dict.dictSlotArgs
  refine wpAny_bind (wpAny_notOrdered_dict da.typeIs ?_)
  show wpAny _ _ (pure (Value.ref a, Value.ref b)) _ _ s
  refine wpAny_pure ?_
  refine wpAny_bind (wpAny_isInstance (T := "dict") db.typeIs PySem.F.sub_dict_dict ?_)
  simp only [Bool.not_true, Bool.false_eq_true, if_false]
  refine wpAny_bind (wpAny_pure (wpAny_bind (wpAny_pure ?_)))
  refine wpAny_bind (samePairs_len ha hb da db ?_)
  refine wpAny_pure ⟨_, rfl, ?_, ?_⟩
  · exact fun x => nomatch x
  · have e : (!(es.size == 0)) = !xs.isEmpty := by
      rw [hs]
      cases xs <;> rfl
    have fin : EP X pins σ Q (.bool (!(es.size == 0))) s := by
      rw [e]
      exact ⟨.bl _, H, I, rfl, q⟩
    simpa using fin

/-! ### for place, v in d.items() -/
def ItP (P : Program) (w : World) (d : Addr) (o : Obj) (xs : PXs) : It :=
  ⟨fun i H => H d = some (.frz o (PD P w d xs)) ∧ i < xs.length, fun i H x H' => ∃ T s b v, xs[i]? = some (s, b, v) ∧ x = .ref T ∧ H T = none ∧ H' = upd H T (.tup [.ref b, v]), fun i H => H d = some (.frz o (PD P w d xs)) ∧ xs.length ≤ i⟩
theorem pd_frz {pins : List (Addr × Obj)} {σ : L2.St} {H : Hp} {s : Shared} {d : Addr} {o : Obj} {xs : PXs} (I : Inv X pins σ H s) (e : H d = some (.frz o (PD X.prog X.w d xs))) :
    (d == sysModules) = false ∧ ∃ es ep ys, o.data = .dict es ep ∧ s.heap.DictRaw d es ep ∧ es.size = xs.length ∧ KP xs ys ∧ es.toList = ys.map (entryOfKey (nestedKind X.prog X.w)) := by
  obtain ⟨eo, ⟨z, hd, ys, r, o', es, ep, h1, h2, h3, h4, h5⟩, _, _⟩ := (show ObjOk X.prog X.w H s.heap d (.frz o (PD X.prog X.w d xs)) from I.hok d _ e)
  have e1 : o' = o := Option.some.inj (h1.symm.trans eo)
  subst e1
  refine ⟨hd, es, ep, ys, h3, ⟨o', h1, h2, h3⟩, ?_, r, h4⟩
  rw [← Array.length_toList, h4, List.length_map]
  exact (Paired.length r).symm
theorem kp_get {xs : PXs} {ys : List (NestedKey × Addr × Value)} (r : KP xs ys) : ∀ {i : Nat} {x : Spot × Addr × V}, xs[i]? = some x → ∃ y, ys[i]? = some y ∧ y.2.1 = x.2.1 ∧ RelV x.2.2 y.2.2 := by
  induction r with
  | nil => intro i x h; simp at h
  | @cons p q ps qs h t ih =>
    intro i x hx
    cases i with
    | zero =>
      simp at hx
      subst hx
      exact ⟨q, rfl, h.2.1, h.2.2⟩
    | succ i => exact ih (by simpa using hx)
theorem turn_itemsP {P : Program} {w : World} {K : PySem.W.Frag} {d : Addr} {o : Obj} {es : Array DictEntry} {ep : Nat} {xs : PXs} {elts : List Expr} {kk : Nat} {tpos : Pos} (it : Addr) (hod : o.data = .dict es ep) :
    Turn P w K (.Tuple elts kk tpos) (ItP P w d o xs) [it] it (fun i h => ∃ ok ov, IsItemIter h it d i xs.length ep ok ov) where
  mem := by simp
  obj := fun i h st b hb => by
    have e : b = it := by simpa using hb
    subst e
    obtain ⟨ok, ov, e⟩ := st
    exact ⟨_, e, fun v z => nomatch z⟩
  keep := fun i h h' st k => let ⟨ok, ov, e⟩ := st; ⟨ok, ov, k it (by simp) _ e⟩
  item := by
    intro X hP hw hK hc i pins s σ H E I hf st hg
    subst hP hw hK
    obtain ⟨hd, hi⟩ := hg
    obtain ⟨hs, es', ep', ys, hdt, hraw, hsz, kp, hes⟩ := pd_frz I hd
    obtain ⟨rfl, rfl⟩ := dict_ep hod hdt
    obtain ⟨⟨s0, b, v⟩, hkv⟩ : ∃ p, xs[i]? = some p := ⟨xs[i], List.getElem?_eq_getElem hi⟩
    obtain ⟨⟨k, b', u⟩, hy, eb, ru⟩ := kp_get kp hkv
    have hi' : i < es'.size := by rw [hsz]; exact hi
    have hen := entry_at hes i
    rw [hy, Array.getElem?_eq_getElem hi'] at hen
    have hen' : es'[i] = entryOfKey (nestedKind X.prog X.w) (k, b', u) := Option.some.inj hen
    have ekey : es'[i].key = .ref b := by rw [hen', ← show b' = b from eb]; rfl
    have eval : es'[i].val = u := by rw [hen']; rfl
    obtain ⟨ok, ov, he⟩ := st
    rw [← hsz] at he
    have hlt : it < s.heap.objs.size := Heap.lt_size he
    refine wpAny_pyNext_items_item_raw he hraw hi' fun h' ho hT hz hk => ?_
    refine ⟨_, rfl, wpAny_letOwnedTupleGo_items (s := { s with heap := h' }) ho fun h'' he' sb => ?_⟩
    have hT2 : h''.get? s.heap.objs.size = some { cls := .type "tuple", data := .seq #[.ref b, u] } := by
      rw [← ekey, ← eval]
      exact (sb.2 _ (Nat.ne_of_gt hlt)).trans hT
    have new : ObjOk X.prog X.w (upd H s.heap.objs.size (.tup [.ref b, v])) h'' s.heap.objs.size (.tup [.ref b, v]) :=
      ⟨by show 2 ≤ sizeLine; decide, [.ref b, u], .cons rfl (.cons ru .nil), ⟨_, hT2, rfl, _, rfl⟩⟩
    have I1 : Inv X pins σ (upd H s.heap.objs.size (.tup [.ref b, v])) { s with heap := h'' } :=
      I.turnedNew (t' := s.toks) (ch := [it]) (fun b ob hb e => (sb.2 b (by simpa using hb)).trans (hk b ob (by simpa using hb) e)) hf (Nat.le_refl _) new
    refine ⟨.ref s.heap.objs.size, _, I1, rfl, ⟨_, s0, b, v, hkv, rfl, I.hok.fresh (Nat.le_refl _), rfl⟩, ⟨es'[i].key, es'[i].val, ?_⟩, fun b hb => ?_⟩
    · rw [← hsz]
      exact he'
    · have e : b = it := by simpa using hb
      rw [e, upd_ne (Nat.ne_of_lt hlt)]
      exact (hf it (by simp)).1
  done := by
    intro X hP hw hK hc i pins s σ H E I hf st hg
    subst hP hw hK
    obtain ⟨hd, hi⟩ := hg
    obtain ⟨f0, f1, f2, f3, f4, f5⟩ := hf it (by simp)
    obtain ⟨hs, es', ep', ys, hdt, hraw, hsz, kp, hes⟩ := pd_frz I hd
    obtain ⟨rfl, rfl⟩ := dict_ep hod hdt
    obtain ⟨ok, ov, he⟩ := st
    rw [← hsz] at he
    exact wpAny_pyNext_items_end_raw (I.ok.hd hc) he hraw (by rw [hsz]; exact hi) fun h' eb => ⟨rfl, I.turned (t' := s.toks) (fun b ob hb e => eb b ob hb e) f0 f1 f3 f4 f5⟩
  self := fun A i s Q E st h => let ⟨_, _, e⟩ := st; PySem.W.kcp_self e h
def iPItems (P : Program) (w : World) (td : TE) : TI := fun σ H R => td σ H fun x H1 => ∃ d o xs, x = .ref d ∧ H1 d = some (.frz o (PD P w d xs)) ∧ R (ItP P w d o xs) H1
theorem pi_pitems {elts : List Expr} {kk : Nat} {tpos : Pos} (he : PE X e td) (hbase : attributeBase e "items" X.env (eval e X.env) = eval e X.env := by rfl) (hline : (apos.endLine == cpos.line) = true := by rfl) :
    PI X (.Tuple elts kk tpos) (.Call (.Attribute e "items" apos) [] [] cpos) (iPItems X.prog X.w td) := by
  refine ⟨fun pins s σ H R I h => ?_⟩
  refine wpAny_Call_method (T := "dict") (id := "dict.items") hbase rfl hline F.plainAttrs_dict F.slot_dict_items F.type_dict_items (thn (he.run pins s σ H _ I h) fun u s1 ⟨x, H1, I1, rx, d, o, xs, ex, hd, q⟩ => ?_)
  subst ex
  obtain rfl : u = Value.ref d := rx
  obtain ⟨hs, es, ep, ys, hdt, hraw, hsz, kp, hes⟩ := pd_frz I1 hd
  have hnd : ∀ b, Value.ref d = .ref b → ∃ ob, s1.heap.get? b = some ob ∧ ob.dict = none := pd_noDict I1 (.inr ⟨o, hd⟩)
  refine ⟨hraw.typeIs, hnd, ?_⟩
  have I2 : Inv X pins σ H1 { s1 with heap := s1.heap.push { cls := .type "dict_items", data := .fields #[.ref d] } } := I1.kept (t' := s1.toks) fun b ob q => Heap.get?_push_of_some _ q
  have fin : wpAny (model X.prog X.w) X.A (pyIter (.ref s1.heap.objs.size)) (PIE X pins σ (.Tuple elts kk tpos) R) X.xe { s1 with heap := s1.heap.push { cls := .type "dict_items", data := .fields #[.ref d] } } := by
    refine wpAny_pyIter_items_raw (d := d) ⟨_, Heap.get?_push_size _ rfl, rfl, rfl⟩ (hraw.at fun ob q => Heap.get?_push_of_some _ q) (pi_one (tk := s1.toks) I2 _ (turn_itemsP _ hdt) ⟨.none, .none, ?_⟩ q)
    rw [← hsz]
    exact Heap.get?_push_size _ rfl
  show wpAny _ _ (callWith cpos (.builtin "dict.items") [.ref d] [] []) _ X.xe s1
  exact method_meetsIn F.slot_dict_items F.entry_dict_items rfl (PySem.evalArgs_none ⟨rfl, hraw.typeIs, F.args_dict_items_1 _, _, meets_dict_items_raw d hs, ⟨⟨es, ep, hraw⟩, fin⟩⟩)
end
end K57
set_option Elab.async false
set_option linter.all false
set_option autoImplicit false
set_option maxRecDepth 100000
set_option maxHeartbeats 2000000
/-! K57F: enumerate of a tuple. -/
namespace K57
open PySem PySem.Spec PyProof.Rows L2
section
open AutoSeq1 (wpAny_loadPart')
theorem meets_enumerate_newT (l : Addr) (items : Array Value) (n : Nat) (dct : Option Addr) (sl : Array (Option Value)) :
    Meets (Builtin.«enumerate.__new__» ⟨[.type "enumerate", .ref l], []⟩) (fun _ R s => s.heap.get? l = some { cls := .type "tuple", dict := dct, data := .seq items n, slots := sl } ∧
      R (.ok (.ret (.ref (s.heap.push { cls := .type "tuple_iterator", data := .fields #[.ref l, .int 0 0] }).objs.size)))
        { s with heap := (s.heap.push { cls := .type "tuple_iterator", data := .fields #[.ref l, .int 0 0] }).push { cls := .type "enumerate", data := .fields #[.none, .bool false, .ref s.heap.objs.size, rawInt 0, .none, .none] } }) :=
  .of_wp fun prog w A R s h => by
    obtain ⟨hp, g, d, tk, os⟩ := s; obtain ⟨hl, h⟩ := h
    have hsub := sub_enumerate
    have hL : Heap.IsTuple (Shared.heap ⟨hp, g, d, tk, os⟩) l items := ⟨_, hl, rfl, n, rfl⟩
    wp_walk using wpAny_loadPart' hl
    refine wpAny_stack_any fun st => wpAny_pure ?_
    split
    · rename_i c _ _ _ _ _
      cases (c == Value.type "enumerate")
      · wp_walk using wpAny_loadPart' hl, wpAny_pyIter_tuple hL
        exact ⟨_, rfl, h⟩
      · wp_walk using wpAny_loadPart' hl, wpAny_pyIter_tuple hL
        exact ⟨_, rfl, h⟩
    · wp_walk using wpAny_loadPart' hl, wpAny_pyIter_tuple hL
      exact ⟨_, rfl, h⟩
theorem call_enumerate_tuple {prog : Program} {w : World} {A : Around} {E : Value → Shared → Prop} {s : Shared} {l : Addr} {items : Array Value} {Q : Value → Shared → Prop} (hL : s.heap.IsTuple l items)
    (h : ∀ h', IsEnum h' (s.heap.objs.size + 1) s.heap.objs.size 0 .none → h'.IsTupleIter s.heap.objs.size l 0 → h'.objs.size = s.heap.objs.size + 2 →
      (∀ b o, s.heap.get? b = some o → h'.get? b = some o) → Q (.ref (s.heap.objs.size + 1)) { s with heap := h' }) :
    wpAny (model prog w) A (call (.type "enumerate") [.ref l]) Q E s := by
  obtain ⟨⟨c, dct, dt, sl⟩, hl, hc, n, hd⟩ := hL
  replace hc : c = .type "tuple" := hc
  replace hd : dt = .seq items n := hd
  subst hc hd
  refine callType_new F.called_enumerate (by decide) (F.typeCall_enumerate_1 _) (F.newCall_enumerate_1 _) (fun obj => F.args_object_init_2 obj _) F.entry_enumerate_new
    (meets_enumerate_newT l items n dct sl) ⟨hl, ?_⟩
  have hz : (s.heap.push { cls := .type "tuple_iterator", data := .fields #[.ref l, .int 0 0] }).objs.size = s.heap.objs.size + 1 := Heap.size_push ..
  show _ ∧ _
  rw [hz]
  have he : IsEnum ((s.heap.push { cls := .type "tuple_iterator", data := .fields #[.ref l, .int 0 0] }).push
      { cls := .type "enumerate", data := .fields #[.none, .bool false, .ref s.heap.objs.size, rawInt 0, .none, .none] }) (s.heap.objs.size + 1) s.heap.objs.size 0 .none := by
    have := Heap.get?_push_size (s.heap.push { cls := .type "tuple_iterator", data := .fields #[.ref l, .int 0 0] })
      (o := { cls := .type "enumerate", data := .fields #[.none, .bool false, .ref s.heap.objs.size, rawInt 0, .none, .none] }) rfl
    rw [hz] at this; exact this
  refine ⟨⟨_, he, rfl⟩, h _ he ⟨_, Heap.get?_push_of_some _ (Heap.get?_push_size _ rfl), rfl, rfl⟩ (by rw [Heap.size_push, hz]) fun b o x => Heap.get?_push_of_some _ (Heap.get?_push_of_some _ x)⟩
end
/-- the tuple at a, each item in a new pair -/
def IteT (K : PySem.W.Frag) (a : Addr) : It :=
  ⟨fun i H => ∃ (xs : List V) (x : V), SqT K H a xs ∧ xs[i]? = some x, fun i H v H' => ∃ T x, v = .ref T ∧ H T = none ∧ H' = upd H T (.tup [.int (i : Nat), x]) ∧ ∀ xs, SqT K H a xs → xs[i]? = some x, fun i H => ∃ xs : List V, SqT K H a xs ∧ xs.length = i⟩
theorem turn_enumT {P : Program} {w : World} {K : PySem.W.Frag} {elts : List Expr} {kk : Nat} {tpos : Pos} (a e it : Addr) :
    Turn P w K (.Tuple elts kk tpos) (IteT K a) [e, it] e (fun i h => (∃ old, IsEnum h e it ((i : Nat) : Int) old) ∧ h.IsTupleIter it a i ∧ e ≠ it ∧ a ≠ it ∧ e ≠ a) where
  mem := by simp
  obj := fun i h st b hb => by
    obtain ⟨⟨old, he⟩, ⟨o, ho, hc, hd⟩, _⟩ := st
    have e' : b = e ∨ b = it := by simpa using hb
    rcases e' with z | z
    · rw [z]; exact ⟨_, he, fun v q => nomatch q⟩
    · rw [z]; exact ⟨o, ho, fun v q => by rw [hd] at q; cases q⟩
  keep := fun i h h' st k => let ⟨⟨old, he⟩, hi, hne⟩ := st; ⟨⟨old, k e (by simp) _ he⟩, hi.at fun o q => k it (by simp) o q, hne⟩
  item := by
    intro X hP hw hK hc i pins s σ H E I hf st hg
    subst hP hw hK
    obtain ⟨⟨old, he⟩, hit, hne, hai, hea⟩ := st
    obtain ⟨xs, x, hq, hx⟩ := hg
    obtain ⟨its, rv, p, hz⟩ := I.tuple hq
    obtain ⟨u, hu, ru⟩ := rv.get hx
    have hel : e < s.heap.objs.size := Heap.lt_size he
    have hil : it < s.heap.objs.size := by obtain ⟨_, q, _⟩ := hit; exact Heap.lt_size q
    have hil2 : i < its.toArray.size := by have := (List.getElem?_eq_some_iff.mp hu).1; simpa using this
    have D := Draws.tuple (prog := X.prog) (w := X.w) (A := X.A.in1) (I.ok.hd hc) it a hai its.toArray
    refine wpAny_pyNext_enum_itemD D he ⟨hit, p⟩ hil2 hne (by simp [hne, hea]) fun u' h' tk hu' ho hst' hT hsz hk => ?_
    have eu : u' = u := by
      have h1 : its.toArray[i]? = some u := by simpa using hu
      rw [h1] at hu'
      exact (Option.some.inj hu').symm
    subst eu
    obtain ⟨hit', p'⟩ := hst'
    refine ⟨_, rfl, wpAny_letOwnedTupleGo_enum (s := { s with heap := h', toks := tk + 1 }) ho fun h'' he' sb => ?_⟩
    have hT2 : h''.get? s.heap.objs.size = some { cls := .type "tuple", data := .seq #[.int i tk, u'] } := (sb.2 _ (Nat.ne_of_gt hel)).trans hT
    have new : ObjOk X.prog X.w (upd H s.heap.objs.size (.tup [.int (i : Nat), x])) h'' s.heap.objs.size (.tup [.int (i : Nat), x]) :=
      ⟨by show 2 ≤ sizeLine; decide, [.int i tk, u'], .cons ⟨_, rfl⟩ (.cons ru .nil), ⟨_, hT2, rfl, _, rfl⟩⟩
    have I1 : Inv X pins σ (upd H s.heap.objs.size (.tup [.int (i : Nat), x])) { s with heap := h'', toks := tk + 1 } :=
      I.turnedNew (ch := [e, it]) (fun b ob hb q => (sb.2 b (fun z => hb (by simp [z]))).trans (hk b ob (fun z => hb (by simp [z])) (fun z => hb (by simp [z])) q)) hf (Nat.le_refl _) new
    refine ⟨.ref s.heap.objs.size, _, I1, rfl, ⟨_, x, rfl, I.hok.fresh (Nat.le_refl _), rfl, fun ys hy => by rw [I.tuple_inj hy hq]; exact hx⟩, ⟨⟨u', ?_⟩, hit'.at fun o q => (sb.2 it (Ne.symm hne)).trans q, hne, hai, hea⟩, fun b hb => ?_⟩
    · have e1 : ((i + 1 : Nat) : Int) = (i : Int) + 1 := by omega
      rw [e1]; exact he'
    · have hb' : b < s.heap.objs.size := by
        have e' : b = e ∨ b = it := by simpa using hb
        rcases e' with z | z
        · rw [z]; exact hel
        · rw [z]; exact hil
      rw [upd_ne (Nat.ne_of_lt hb')]
      exact (hf b hb).1
  done := by
    intro X hP hw hK hc i pins s σ H E I hf st hg
    subst hP hw hK
    obtain ⟨⟨old, he⟩, hit, hne, hai, hea⟩ := st
    obtain ⟨xs, hq, hx⟩ := hg
    obtain ⟨its, rv, p, hz⟩ := I.tuple hq
    obtain ⟨f0, f1, f2, f3, f4, f5⟩ := hf it (by simp)
    have hl := rv.length
    have D := Draws.tuple (prog := X.prog) (w := X.w) (A := X.A.in1) (I.ok.hd hc) it a hai its.toArray
    have en : its.toArray.size = i := by simp; omega
    exact wpAny_pyNext_enum_endD D he (by rw [en]; exact ⟨hit, p⟩) fun h' eb => ⟨rfl, I.turned (t' := s.toks) (fun b o hb q => eb b o hb q) f0 f1 f3 f4 f5⟩
  self := fun A i s Q E st h => let ⟨⟨_, he⟩, _⟩ := st; wpAny_pyIter_enum he h
def iEnumT (K : PySem.W.Frag) (ta : TA) : TI := fun σ H R => ta σ H fun vs H1 => ∃ a xs, vs = [.ref a] ∧ SqT K H1 a xs ∧ R (IteT K a) H1
theorem pi_enumT {X : Cx} {e : Expr} {ta : TA} {p pos tpos : Pos} {elts : List Expr} {kk : Nat} (hg : Gl X "enumerate") (hm : X.mg "enumerate" = none) (ha : PA X [e] ta) (hs : starEach [e] X.env = [(false, eval e X.env)] := by rfl) :
    PI X (.Tuple elts kk tpos) (.Call (.Name "enumerate" p) [e] [] pos) (iEnumT X.K ta) := by
  refine ⟨fun pins s σ H R I h => ?_⟩
  refine Call_ (ld_blt I hg hm boot_enumerate (PyProof.Rows.callWith_type1 (thn (ha.run pos pins s σ H _ I h) fun us s1 ⟨vs, H1, I1, r1, q1⟩ => ?_) hs rfl))
  obtain ⟨a, xs, ex, hq, q⟩ := q1
  subst ex
  cases r1 with
  | cons r rr =>
    cases rr
    cases r
    obtain ⟨its, rv, p', hz⟩ := I1.tuple hq
    have hal : a < s1.heap.objs.size := p'.lt
    refine call_enumerate_tuple p' fun h' he hit hsz hk => wpAny_pyIter_enum he ?_
    have I2 : Inv X pins σ H1 { s1 with heap := h' } := I1.kept (t' := s1.toks) hk
    refine ⟨s1.heap.objs.size + 1, [s1.heap.objs.size + 1, s1.heap.objs.size], _, _, H1, rfl, I2, turn_enumT a (s1.heap.objs.size + 1) s1.heap.objs.size, ⟨⟨.none, he⟩, hit, Nat.succ_ne_self _, Nat.ne_of_lt hal, Ne.symm (Nat.ne_of_lt (Nat.lt_succ_of_lt hal))⟩, fun b hb => ?_, q⟩
    have e' : b = s1.heap.objs.size + 1 ∨ b = s1.heap.objs.size := by simpa using hb
    have hle : s1.heap.objs.size ≤ b := by
      rcases e' with z | z
      · rw [z]; exact Nat.le_add_right _ _
      · rw [z]; exact Nat.le_refl _
    exact I1.fpOk hle (I1.hok.fresh hle)
end K57
set_option Elab.async false
set_option linter.all false
set_option autoImplicit false
set_option maxRecDepth 100000
set_option maxHeartbeats 2000000
/-! K57P: frames: data stands in a part G of the heap H; what it looks like. -/
namespace K57
open PySem PySem.Spec PyProof.Rows L2

def Live (H : Hp) (b : Addr) : Prop := ∃ o, H b = some o ∧ ∀ ps, o ≠ .tbl ps
/-- from (G, H) to (G', H'): what stood stays but at X and the tables; G' is G and new things -/
structure Fr (T : List (Addr × Str)) (X : Addr → Prop) (G H G' H' : Hp) : Prop where
  e : ∀ b o, ¬ X b → H b = some o → (∀ ps, o ≠ .tbl ps) → H' b = some o
  d : ∀ b, Live H b → Live H' b
  g : Same G G'
  s : Same G' H'
  n : ∀ b, G' b ≠ none → G b = none → ¬ Live H b
  t : LamX.Tabs T H → LamX.Tabs T H'
def X0 : Addr → Prop := fun _ => False
section
variable {T : List (Addr × Str)} {X : Addr → Prop} {G H G' H' G1 H1 : Hp} {b : Addr} {o : HO}
theorem Fr.refl (h : Same G H) : Fr T X G H G H := ⟨fun _ _ _ h _ => h, fun _ h => h, .refl _, h, fun _ h1 h2 => absurd h2 h1, fun h => h⟩
theorem Fr.trans (a : Fr T X G H G1 H1) (c : Fr T X G1 H1 G' H') : Fr T X G H G' H' :=
  ⟨fun b o x h n => c.e b o x (a.e b o x h n) n, fun b h => c.d b (a.d b h), a.g.trans c.g, c.s, fun b h1 h2 l => by
    cases q : G1 b with
    | none => exact c.n b h1 q (a.d b l)
    | some o => exact a.n b (by rw [q]; exact Option.some_ne_none _) h2 l, fun t => c.t (a.t t)⟩
theorem Fr.weaken {Y : Addr → Prop} (a : Fr T X G H G' H') (h : ∀ b, X b → Y b) : Fr T Y G H G' H' := ⟨fun b o x => a.e b o fun z => x (h b z), a.d, a.g, a.s, a.n, a.t⟩
theorem Fr.of0 {Y : Addr → Prop} (a : Fr T X0 G H G' H') : Fr T Y G H G' H' := a.weaken fun _ h => h.elim
theorem not_live (h : H b = none) : ¬ Live H b := fun ⟨o, e, _⟩ => by rw [h] at e; cases e
theorem same_upd (h : Same G H) (n : H b = none) : Same G (upd G b o) := fun c u e => by
  rw [upd_ne (fun z => by rw [z] at e; have := h b u e; rw [n] at this; cases this)]
  exact e
theorem same_upd2 (h : Same G H) : Same (upd G b o) (upd H b o) := fun c u e => by
  by_cases z : c = b
  · subst z
    rw [upd_same] at e ⊢
    exact e
  · rw [upd_ne z] at e ⊢
    exact h c u e
theorem upd_keep (n : H b = none) : Same H (upd H b o) := same_upd (.refl H) n
theorem live_upd {c : Addr} (no : ∀ ps, o ≠ .tbl ps) (h : Live H c) : Live (upd H b o) c := by
  by_cases z : c = b
  · subst z
    exact ⟨o, upd_same, no⟩
  · obtain ⟨u, hu, nu⟩ := h
    exact ⟨u, by rw [upd_ne z]; exact hu, nu⟩
/-- a new thing, taken into G -/
theorem Fr.alloc (h : Same G H) (n : H b = none) (no : ∀ ps, o ≠ .tbl ps := by intro _ z; cases z) : Fr T X G H (upd G b o) (upd H b o) :=
  ⟨fun c u _ hc _ => upd_keep n c u hc, fun c l => live_upd no l, same_upd h n, same_upd2 h, fun c h1 h2 l => by
    by_cases z : c = b
    · subst z
      exact not_live n l
    · rw [upd_ne z] at h1
      exact h1 h2, fun t => t.ext (upd_keep n)⟩
/-- a new thing, kept out of G -/
theorem Fr.alloc' (h : Same G H) (n : H b = none) (no : ∀ ps, o ≠ .tbl ps := by intro _ z; cases z) : Fr T X G H G (upd H b o) :=
  ⟨fun c u _ hc _ => upd_keep n c u hc, fun c l => live_upd no l, .refl _, fun c u e => upd_keep n c u (h c u e), fun c h1 h2 => absurd h2 h1, fun t => t.ext (upd_keep n)⟩
/-- Tabs, when something that was not there is stored -/
theorem tabs_upd (t : LamX.Tabs T H) (t' : LamX.Tabs T H') (n : H b = none) (c : ∀ P q, (P, q) ∈ T → ∀ d, H' d = some (LamX.CodeO d q) → d ≠ b) : LamX.Tabs T (upd H' b o) := by
  intro p hp
  obtain ⟨ps, h1, _, _⟩ := t p hp
  obtain ⟨ps', h1', h2', h3'⟩ := t' p hp
  have nb : p.1 ≠ b := fun z => by rw [z, n] at h1; cases h1
  refine ⟨ps', by rw [upd_ne nb]; exact h1', h2', fun pos cv hc => ?_⟩
  obtain ⟨d, e1, e2⟩ := h3' pos cv hc
  exact ⟨d, e1, by rw [upd_ne (c p.1 p.2 hp d e2)]; exact e2⟩
/-- a store at a thing of one's own -/
theorem Fr.mut {u : HO} (a : Fr T X G H G' H') (n : H b = none) (ng : G' b = none) (hb : H' b = some u) (nu : ∀ q, u ≠ LamX.CodeO b q) (no : ∀ ps, o ≠ .tbl ps := by intro _ z; cases z) : Fr T X G H G' (upd H' b o) :=
  ⟨fun c w x hc nw => by
    rw [upd_ne (fun z => by rw [z, n] at hc; cases hc)]
    exact a.e c w x hc nw, fun c l => live_upd no (a.d c l), a.g, fun c w e => by
    rw [upd_ne (fun z => by rw [z, ng] at e; cases e)]
    exact a.s c w e, a.n, fun t => tabs_upd t (a.t t) n fun P q hp d hd z => by
      subst z
      rw [hb] at hd
      exact nu q (Option.some.inj hd)⟩
/-- a store at X -/
theorem Fr.mutX {u : HO} (h : Same G H) (x : X b) (ng : G b = none) (hb : H b = some u) (nu : ∀ q, u ≠ LamX.CodeO b q) (nt : ∀ ps, u ≠ .tbl ps) (no : ∀ ps, o ≠ .tbl ps := by intro _ z; cases z) : Fr T X G H G (upd H b o) :=
  ⟨fun c w nx hc nw => by
    rw [upd_ne (fun z => nx (by rw [z]; exact x))]
    exact hc, fun c l => live_upd no l, .refl _, fun c w e => by
    rw [upd_ne (fun z => by rw [z, ng] at e; cases e)]
    exact h c w e, fun _ h1 h2 => absurd h2 h1, fun t p hp => by
      obtain ⟨ps', h1', h2', h3'⟩ := t p hp
      have nb : p.1 ≠ b := fun z => by rw [z, hb] at h1'; exact nt _ (Option.some.inj h1')
      refine ⟨ps', by rw [upd_ne nb]; exact h1', h2', fun pos cv hc => ?_⟩
      obtain ⟨d, e1, e2⟩ := h3' pos cv hc
      refine ⟨d, e1, ?_⟩
      rw [upd_ne (fun z => by subst z; rw [hb] at e2; exact nu _ (Option.some.inj e2))]
      exact e2⟩
/-- what is one's own comes into G -/
theorem Fr.adopt (a : Fr T X G H G' H') (n : H b = none) (ng : G' b = none) (hb : H' b = some o) : Fr T X G H (upd G' b o) H' :=
  ⟨a.e, a.d, fun c u e => by
    rw [upd_ne (fun z => by rw [z] at e; have := a.g b u e; rw [ng] at this; cases this)]
    exact a.g c u e, fun c u e => by
    by_cases z : c = b
    · subst z
      rw [upd_same] at e
      rw [← Option.some.inj e]
      exact hb
    · rw [upd_ne z] at e
      exact a.s c u e, fun c h1 h2 => by
    by_cases z : c = b
    · subst z
      exact not_live n
    · rw [upd_ne z] at h1
      exact a.n c h1 h2, a.t⟩
/-- what does not stand in G does not come to it -/
theorem Fr.keep (a : Fr T X G H G' H') (hb : H b = some o) (ng : G b = none) (no : ∀ ps, o ≠ .tbl ps := by intro _ z; cases z) : G' b = none := by
  cases q : G' b with
  | none => rfl
  | some u => exact absurd ⟨o, hb, no⟩ (a.n b (by rw [q]; exact Option.some_ne_none _) ng)
theorem Fr.at (a : Fr T X G H G' H') (x : ¬ X b) (hb : H b = some o) (no : ∀ ps, o ≠ .tbl ps := by intro _ z; cases z) : H' b = some o := a.e b o x hb no
theorem none_of_same (h : Same G H) (n : H b = none) : G b = none := by
  cases q : G b with
  | none => rfl
  | some u => have := h b u q; rw [n] at this; cases this
/-- from the very beginning, by what it says of less -/
theorem Fr.same (a : Fr T X G H G' H') : Same G G' := a.g
end

/-! ### lists of things -/
def All2 {α : Type} (R : V → α → Prop) (vs : List V) (xs : List α) : Prop := vs.length = xs.length ∧ ∀ (i : Nat) (v : V) (x : α), vs[i]? = some v → xs[i]? = some x → R v x
section
variable {α β : Type} {R S : V → α → Prop} {vs : List V} {xs : List α}
theorem All2.nil : All2 R [] [] := ⟨rfl, fun i v x h => by simp at h⟩
theorem All2.imp (a : All2 R vs xs) (h : ∀ v x, R v x → S v x) : All2 S vs xs := ⟨a.1, fun i v x e1 e2 => h v x (a.2 i v x e1 e2)⟩
theorem All2.imp' (a : All2 R vs xs) (h : ∀ v x, x ∈ xs → R v x → S v x) : All2 S vs xs := ⟨a.1, fun i v x e1 e2 => h v x (mem_of_get e2) (a.2 i v x e1 e2)⟩
theorem All2.get (a : All2 R vs xs) {i : Nat} {x : α} (h : xs[i]? = some x) : ∃ v, vs[i]? = some v ∧ R v x := by
  obtain ⟨v, hv⟩ := get_of_lt (l := vs) (i := i) (by rw [a.1]; exact lt_of_get h)
  exact ⟨v, hv, a.2 i v x hv h⟩
theorem All2.get' (a : All2 R vs xs) {i : Nat} {v : V} (h : vs[i]? = some v) : ∃ x, xs[i]? = some x ∧ R v x := by
  obtain ⟨x, hx⟩ := get_of_lt (l := xs) (i := i) (by rw [← a.1]; exact lt_of_get h)
  exact ⟨x, hx, a.2 i v x h hx⟩
theorem All2.snoc (a : All2 R vs xs) {v : V} {x : α} (h : R v x) : All2 R (vs ++ [v]) (xs ++ [x]) := by
  refine ⟨by simp [a.1], fun i w y e1 e2 => ?_⟩
  rcases Nat.lt_or_ge i vs.length with q | q
  · rw [List.getElem?_append_left q] at e1
    rw [List.getElem?_append_left (by rw [← a.1]; exact q)] at e2
    exact a.2 i w y e1 e2
  · rw [List.getElem?_append_right q] at e1
    rw [List.getElem?_append_right (by rw [← a.1]; exact q), ← a.1] at e2
    have l := lt_of_get e1
    simp at l
    rw [l] at e1 e2
    simp at e1 e2
    rw [← e1, ← e2]
    exact h
theorem All2.append {ws : List V} {ys : List α} (a : All2 R vs xs) (b : All2 R ws ys) : All2 R (vs ++ ws) (xs ++ ys) := by
  refine ⟨by simp [a.1, b.1], fun i w y e1 e2 => ?_⟩
  rcases Nat.lt_or_ge i vs.length with q | q
  · rw [List.getElem?_append_left q] at e1
    rw [List.getElem?_append_left (by rw [← a.1]; exact q)] at e2
    exact a.2 i w y e1 e2
  · rw [List.getElem?_append_right q] at e1
    rw [List.getElem?_append_right (by rw [← a.1]; exact q), ← a.1] at e2
    exact b.2 _ w y e1 e2
theorem All2.cons {v : V} {x : α} (h : R v x) (a : All2 R vs xs) : All2 R (v :: vs) (x :: xs) := All2.append (vs := [v]) (xs := [x]) ⟨rfl, fun i w y e1 e2 => by
  have l := lt_of_get e1
  simp at l
  subst l
  simp at e1 e2
  rw [← e1, ← e2]
  exact h⟩ a
theorem All2.drop (a : All2 R vs xs) (n : Nat) : All2 R (vs.drop n) (xs.drop n) := ⟨by simp [a.1], fun i v x e1 e2 => by
  rw [List.getElem?_drop] at e1 e2
  exact a.2 _ v x e1 e2⟩
theorem All2.take (a : All2 R vs xs) (n : Nat) : All2 R (vs.take n) (xs.take n) := ⟨by simp [a.1], fun i v x e1 e2 => by
  have l := lt_of_get e1
  simp at l
  rw [List.getElem?_take_of_lt (by omega : i < n)] at e1 e2
  exact a.2 _ v x e1 e2⟩
theorem All2.set (a : All2 R vs xs) {i : Nat} {v : V} {x : α} (h : R v x) : All2 R (vs.set i v) (xs.set i x) := ⟨by simp [a.1], fun j w y e1 e2 => by
  rcases set_get e1 with ⟨z, e⟩ | ⟨z, e⟩
  · rcases set_get e2 with ⟨_, e'⟩ | ⟨z', _⟩
    · rw [e, e']; exact h
    · exact absurd z z'
  · rcases set_get e2 with ⟨z', _⟩ | ⟨_, e'⟩
    · exact absurd z' z
    · exact a.2 j w y e e'⟩
theorem All2.reverse (a : All2 R vs xs) : All2 R vs.reverse xs.reverse := ⟨by simp [a.1], fun i v x e1 e2 => by
  have l := lt_of_get e1
  simp at l
  rw [List.getElem?_reverse l] at e1
  rw [List.getElem?_reverse (by rw [← a.1]; exact l), ← a.1] at e2
  exact a.2 _ v x e1 e2⟩
theorem All2.of_map {f : α → V} (h : ∀ x ∈ xs, R (f x) x) : All2 R (xs.map f) xs := ⟨by simp, fun i v x e1 e2 => by
  rw [List.getElem?_map, e2] at e1
  simp at e1
  rw [← e1]
  exact h x (mem_of_get e2)⟩
theorem All2.map_r {γ : Type} {R : V → γ → Prop} {f : α → γ} (a : All2 (fun v x => R v (f x)) vs xs) : All2 R vs (xs.map f) := ⟨by simp [a.1], fun i v x e1 e2 => by
  rw [List.getElem?_map] at e2
  cases q : xs[i]? with
  | none => rw [q] at e2; simp at e2
  | some y =>
    rw [q] at e2
    simp at e2
    rw [← e2]
    exact a.2 i v y e1 q⟩
theorem All2.unmap_r {γ : Type} {R : V → γ → Prop} {f : α → γ} (a : All2 R vs (xs.map f)) : All2 (fun v x => R v (f x)) vs xs := ⟨by simpa using a.1, fun i v x e1 e2 => a.2 i v (f x) e1 (by rw [List.getElem?_map, e2]; rfl)⟩
theorem all2_eq {f : α → V} (a : All2 (fun v x => v = f x) vs xs) : vs = xs.map f := by
  apply List.ext_getElem?
  intro i
  rw [List.getElem?_map]
  cases q : vs[i]? with
  | none =>
    have : xs[i]? = none := by rw [List.getElem?_eq_none_iff] at q ⊢; rw [← a.1]; exact q
    rw [this]
    rfl
  | some v =>
    obtain ⟨x, hx, e⟩ := a.get' q
    rw [hx, e]
    rfl
end

/-! ### data -/
def nm : List Str := ["set", "put", "x", "abcdefgh"]
def nmAt (j : Nat) : Str := nm.getD j ""
def names (many : Nat) : List V := (nm.take many).map V.str
/-- a tuple just laid by tuple(..): its object in full -/
abbrev NT (a : Addr) (xs : List V) : HO := .ext fun h => xs.length ≤ sizeLine ∧ ∃ its : List Value, Vals xs its ∧ h.get? a = some { cls := .type "tuple", data := .seq its.toArray }
/-- an entry: a tuple of two ints -/
def VEnt (G : Hp) (v : V) (e : Nat × Nat) : Prop := ∃ a, v = .ref a ∧ G a = some (.tup [nV e.1, nV e.2])
/-- a row as a list -/
def VRow (G : Hp) (v : V) (r : List (Nat × Nat)) : Prop := ∃ a vs, v = .ref a ∧ G a = some (.lst vs) ∧ All2 (VEnt G) vs r
def VRows (G : Hp) (v : V) (rs : List (List (Nat × Nat))) : Prop := ∃ a vs, v = .ref a ∧ G a = some (.lst vs) ∧ All2 (VRow G) vs rs
def VMd (G : Hp) (v : V) (m : Md) : Prop := ∃ a n r, v = .ref a ∧ G a = some (.tup [.ref n, r]) ∧ G n = some (.lst (names m.many)) ∧ VRows G r m.rows
def VBeg (G : Hp) (v : V) (x : Md × Nat) : Prop := ∃ a u, v = .ref a ∧ G a = some (.tup [u, nV x.2]) ∧ VMd G u x.1
def brK (br : List (Nat × Nat)) : List (Key × V) := br.map fun e => (Sum.inl ((e.1 : Nat) : Int), nV e.2)
def VNd (G : Hp) (v : V) : Nd → Prop
  | .look t br => ∃ a d, v = .ref a ∧ G a = some (.tup [.str "look", nV t, .ref d]) ∧ G d = some (.dK (brK br))
  | .act t j br => ∃ a d, v = .ref a ∧ G a = some (.tup [.str "do", nV t, .str (nmAt j), .ref d]) ∧ G d = some (.dK (brK br))
  | .fin h => ∃ a, v = .ref a ∧ G a = some (.tup [.str "end", nV h])
def VSc (G : Hp) (v : V) (sc : List Nd) : Prop := ∃ a vs, v = .ref a ∧ G a = some (.lst vs) ∧ All2 (VNd G) vs sc
def VPl (G : Hp) (v : V) (P : Pl) : Prop := ∃ a b c vs ws, v = .ref a ∧ G a = some (.tup [.ref b, .ref c]) ∧ G b = some (.lst vs) ∧ All2 (VBeg G) vs P.ths ∧ G c = some (.lst ws) ∧ All2 (VSc G) ws P.scs

/-! the program's own -/
structure Cs where
  thing : Addr
  prog : Addr
  parts : Addr
  sheets : Addr
def VRowT (G : Hp) (v : V) (r : List (Nat × Nat)) : Prop := ∃ a vs, v = .ref a ∧ G a = some (.tup vs) ∧ All2 (VEnt G) vs r
def VThing (C : Cs) (G : Hp) (v : V) (m : Md) : Prop := ∃ a dx d r vs, v = .ref a ∧ G a = some (.ins C.thing dx [("own_deeds", .ref d), ("own_rows", .ref r)]) ∧ G d = some (NT d (names m.many)) ∧ G r = some (.tup vs) ∧ All2 (VRowT G) vs m.rows
def VBegP (C : Cs) (G : Hp) (v : V) (x : Md × Nat) : Prop := ∃ a u, v = .ref a ∧ G a = some (.tup [u, nV x.2]) ∧ VThing C G u x.1
def BrV (kvs : List (Key × V)) (br : List (Nat × Nat)) : Prop := ∀ k : Nat, valV kvs (Sum.inl ((k : Nat) : Int)) = (br.lookup k).map nV
def VNdP (G : Hp) (v : V) : Nd → Prop
  | .look t br => ∃ a d kvs, v = .ref a ∧ G a = some (.tup [.str "look", nV t, .ref d]) ∧ G d = some (.dK kvs) ∧ BrV kvs br
  | .act t j br => ∃ a d kvs, v = .ref a ∧ G a = some (.tup [.str "do", nV t, .str (nmAt j), .ref d]) ∧ G d = some (.dK kvs) ∧ BrV kvs br
  | .fin h => ∃ a, v = .ref a ∧ G a = some (.tup [.str "end", nV h])
def VScP (G : Hp) (v : V) (sc : List Nd) : Prop := ∃ a vs, v = .ref a ∧ G a = some (.tup vs) ∧ All2 (VNdP G) vs sc
def VProg (C : Cs) (G : Hp) (v : V) (P : Pl) : Prop := ∃ a dx t s n vs ws, v = .ref a ∧ G a = some (.ins C.prog dx [("own_things", .ref t), ("own_scripts", .ref s), ("own_nodes", n)]) ∧
  G t = some (.tup vs) ∧ All2 (VBegP C G) vs P.ths ∧ G s = some (.tup ws) ∧ All2 (VScP G) ws P.scs
/-- a list of hands -/
def VW (G : Hp) (v : V) (w : List Nat) : Prop := ∃ a, v = .ref a ∧ G a = some (.lst (w.map nV))
def VSpot (G : Hp) (v : V) (s : Spot) : Prop := ∃ a, v = .ref a ∧ SpotAt G a s
/-- the pot -/
structure Pot (p : Addr) (H : Hp) : Prop where
  ex : ∃ a b : Int, H p = some (.lst [.int a, .int b]) ∧ 0 ≤ a ∧ a.natAbs < 2 ^ 1048577 ∧ 0 ≤ b ∧ b < 2147483648
section
variable {G G' : Hp} {v : V} (e : Same G G')
include e
theorem VEnt.mono {x} (h : VEnt G v x) : VEnt G' v x := let ⟨a, h1, h2⟩ := h; ⟨a, h1, e _ _ h2⟩
theorem VRow.mono {x} (h : VRow G v x) : VRow G' v x := let ⟨a, vs, h1, h2, h3⟩ := h; ⟨a, vs, h1, e _ _ h2, h3.imp fun _ _ z => VEnt.mono e z⟩
theorem VRows.mono {x} (h : VRows G v x) : VRows G' v x := let ⟨a, vs, h1, h2, h3⟩ := h; ⟨a, vs, h1, e _ _ h2, h3.imp fun _ _ z => VRow.mono e z⟩
theorem VMd.mono {x} (h : VMd G v x) : VMd G' v x := let ⟨a, n, r, h1, h2, h3, h4⟩ := h; ⟨a, n, r, h1, e _ _ h2, e _ _ h3, VRows.mono e h4⟩
theorem VBeg.mono {x} (h : VBeg G v x) : VBeg G' v x := let ⟨a, u, h1, h2, h3⟩ := h; ⟨a, u, h1, e _ _ h2, VMd.mono e h3⟩
theorem VNd.mono {x} (h : VNd G v x) : VNd G' v x := by
  cases x with
  | look t br => obtain ⟨a, d, h1, h2, h3⟩ := h; exact ⟨a, d, h1, e _ _ h2, e _ _ h3⟩
  | act t j br => obtain ⟨a, d, h1, h2, h3⟩ := h; exact ⟨a, d, h1, e _ _ h2, e _ _ h3⟩
  | fin t => obtain ⟨a, h1, h2⟩ := h; exact ⟨a, h1, e _ _ h2⟩
theorem VSc.mono {x} (h : VSc G v x) : VSc G' v x := let ⟨a, vs, h1, h2, h3⟩ := h; ⟨a, vs, h1, e _ _ h2, h3.imp fun _ _ z => VNd.mono e z⟩
theorem VPl.mono {x} (h : VPl G v x) : VPl G' v x := let ⟨a, b, c, vs, ws, h1, h2, h3, h4, h5, h6⟩ := h; ⟨a, b, c, vs, ws, h1, e _ _ h2, e _ _ h3, h4.imp fun _ _ z => VBeg.mono e z, e _ _ h5, h6.imp fun _ _ z => VSc.mono e z⟩
theorem VRowT.mono {x} (h : VRowT G v x) : VRowT G' v x := let ⟨a, vs, h1, h2, h3⟩ := h; ⟨a, vs, h1, e _ _ h2, h3.imp fun _ _ z => VEnt.mono e z⟩
theorem VThing.mono {C x} (h : VThing C G v x) : VThing C G' v x := let ⟨a, dx, d, r, vs, h1, h2, h3, h4, h5⟩ := h; ⟨a, dx, d, r, vs, h1, e _ _ h2, e _ _ h3, e _ _ h4, h5.imp fun _ _ z => VRowT.mono e z⟩
theorem VBegP.mono {C x} (h : VBegP C G v x) : VBegP C G' v x := let ⟨a, u, h1, h2, h3⟩ := h; ⟨a, u, h1, e _ _ h2, VThing.mono e h3⟩
theorem VNdP.mono {x} (h : VNdP G v x) : VNdP G' v x := by
  cases x with
  | look t br => obtain ⟨a, d, k, h1, h2, h3, h4⟩ := h; exact ⟨a, d, k, h1, e _ _ h2, e _ _ h3, h4⟩
  | act t j br => obtain ⟨a, d, k, h1, h2, h3, h4⟩ := h; exact ⟨a, d, k, h1, e _ _ h2, e _ _ h3, h4⟩
  | fin t => obtain ⟨a, h1, h2⟩ := h; exact ⟨a, h1, e _ _ h2⟩
theorem VScP.mono {x} (h : VScP G v x) : VScP G' v x := let ⟨a, vs, h1, h2, h3⟩ := h; ⟨a, vs, h1, e _ _ h2, h3.imp fun _ _ z => VNdP.mono e z⟩
theorem VProg.mono {C x} (h : VProg C G v x) : VProg C G' v x := let ⟨a, dx, t, s, n, vs, ws, h1, h2, h3, h4, h5, h6⟩ := h; ⟨a, dx, t, s, n, vs, ws, h1, e _ _ h2, e _ _ h3, h4.imp fun _ _ z => VBegP.mono e z, e _ _ h5, h6.imp fun _ _ z => VScP.mono e z⟩
theorem VW.mono {x} (h : VW G v x) : VW G' v x := let ⟨a, h1, h2⟩ := h; ⟨a, h1, e _ _ h2⟩
theorem SpotAt.mono {a : Addr} {x} (h : SpotAt G a x) : SpotAt G' a x := let ⟨t1, t2, h1, h2, h3⟩ := h; ⟨t1, t2, e _ _ h1, e _ _ h2, e _ _ h3⟩
theorem VSpot.mono {x} (h : VSpot G v x) : VSpot G' v x := let ⟨a, h1, h2⟩ := h; ⟨a, h1, SpotAt.mono e h2⟩
end

/-! ### comprehensions -/
section
variable {T : List (Addr × Str)} {X : Addr → Prop}
theorem lc_fr {J : It} {n : Nat} {Gd : Hp → Prop} {Y : Nat → Hp → V → Hp → Prop} (w : Walk J n Gd Y) {g : TG} {tt : TT} {te : TE} {vs : List Nat} {σ : L2.St} {H1 : Hp} {D : Addr} {Qd : Hp → Prop} (G0 : Hp) (I : Nat → Hp → List V → Prop)
    (h0 : Same G0 H1) (nD : H1 D = none) (nX : ¬ X D) (hl : n ≤ sizeLine) (gd : ∀ H, Same G0 H → Gd H) (I0 : I 0 G0 []) (mono : ∀ i G G' acc, Same G G' → I i G acc → I i G' acc) (len : ∀ i G acc, I i G acc → acc.length ≤ i)
    (hs : ∀ i x G H H' acc (N : V → Hp → Prop) (M : Hp → Prop), i < n → I i G acc → Fr T X G0 H1 G H → H D = some (.lst acc) → G D = none → Y i H x H' → (∀ y G' H'', Fr T X G H G' H'' → I (i + 1) G' (acc ++ [y]) → N y H'') → (∀ G' H'', Fr T X G H G' H'' → I (i + 1) G' acc → M H'') →
      g x (wipe σ vs) H' fun σ2 H2 => wipe σ2 vs = wipe σ vs ∧ tt σ2 H2 fun b H3 => if b = true then te σ2 H3 N else M H3)
    (hd : ∀ G H acc, I n G acc → Fr T X G0 H1 (upd G D (.lst acc)) H → Same G (upd G D (.lst acc)) → H D = some (.lst acc) → Qd H) :
    ∃ W : Nat → Nat → Hp → Prop, (∃ m, W 0 m (upd H1 D (.lst []))) ∧ ∀ i m H, W i m H →
      (J.stop i H ∧ Qd H) ∨ (J.go i H ∧ ∃ Nx : Hp → Prop, (∀ H', Nx H' → ∃ m', m' < m ∧ W (i + 1) m' H') ∧ ∀ x H', J.yld i H x H' → g x (wipe σ vs) H' fun σ2 H2 => wipe σ2 vs = wipe σ vs ∧ tt σ2 H2 fun b H3 =>
        if b = true then te σ2 H3 fun y H4 => ∃ acc, H4 D = some (.lst acc) ∧ acc.length < sizeLine ∧ Nx (upd H4 D (.lst (acc ++ [y]))) else Nx H3) := by
  refine lc_it w (fun i H => ∃ G acc, H D = some (.lst acc) ∧ G D = none ∧ Fr T X G0 H1 G H ∧ I i G acc) ⟨G0, [], upd_same, none_of_same h0 nD, Fr.alloc' h0 nD, I0⟩
    (fun i H _ ⟨G, acc, _, _, fr, _⟩ => gd H (fr.g.trans fr.s)) (fun i x H H' hi ⟨G, acc, hD, gD, fr, hI⟩ y => ?_) (fun H ⟨G, acc, hD, gD, fr, hI⟩ => hd G H acc hI (fr.adopt nD gD hD) (same_upd (.refl G) gD) hD)
  refine hs i x G H H' acc _ _ hi hI fr hD gD y (fun z G' H'' fr' hI' => ?_) (fun G' H'' fr' hI' => ⟨G', acc, fr'.at nX hD, fr'.keep hD gD, fr.trans fr', hI'⟩)
  have hD' := fr'.at nX hD
  have gD' := fr'.keep hD gD
  exact ⟨acc, hD', by have := len i G acc hI; omega, G', acc ++ [z], upd_same, gD', (fr.trans fr').mut nD gD' hD' (fun q z => by cases z), hI'⟩
theorem lc_frY {J : It} {n : Nat} {Gd : Hp → Prop} {Y : Nat → Hp → V → Hp → Prop} (w : Walk J n Gd Y) {g : TG} {te : TE} {vs : List Nat} {σ : L2.St} {H1 : Hp} {D : Addr} {Qd : Hp → Prop} (G0 : Hp) (I : Nat → Hp → List V → Prop)
    (h0 : Same G0 H1) (nD : H1 D = none) (nX : ¬ X D) (hl : n ≤ sizeLine) (gd : ∀ H, Same G0 H → Gd H) (I0 : I 0 G0 []) (mono : ∀ i G G' acc, Same G G' → I i G acc → I i G' acc) (len : ∀ i G acc, I i G acc → acc.length ≤ i)
    (hs : ∀ i x G H H' acc (N : V → Hp → Prop), i < n → I i G acc → Fr T X G0 H1 G H → H D = some (.lst acc) → G D = none → Y i H x H' → (∀ y G' H'', Fr T X G H G' H'' → I (i + 1) G' (acc ++ [y]) → N y H'') →
      g x (wipe σ vs) H' fun σ2 H2 => wipe σ2 vs = wipe σ vs ∧ te σ2 H2 N)
    (hd : ∀ G H acc, I n G acc → Fr T X G0 H1 (upd G D (.lst acc)) H → Same G (upd G D (.lst acc)) → H D = some (.lst acc) → Qd H) :
    ∃ W : Nat → Nat → Hp → Prop, (∃ m, W 0 m (upd H1 D (.lst []))) ∧ ∀ i m H, W i m H →
      (J.stop i H ∧ Qd H) ∨ (J.go i H ∧ ∃ Nx : Hp → Prop, (∀ H', Nx H' → ∃ m', m' < m ∧ W (i + 1) m' H') ∧ ∀ x H', J.yld i H x H' → g x (wipe σ vs) H' fun σ2 H2 => wipe σ2 vs = wipe σ vs ∧ tYes σ2 H2 fun b H3 =>
        if b = true then te σ2 H3 fun y H4 => ∃ acc, H4 D = some (.lst acc) ∧ acc.length < sizeLine ∧ Nx (upd H4 D (.lst (acc ++ [y]))) else Nx H3) := by
  refine lc_fr (T := T) (X := X) w G0 I h0 nD nX hl gd I0 mono len (fun i x G H H' acc N M hi hI fr hD gD y k _ => ?_) hd
  have kk : ∀ y G' H'', Fr T X G H G' H'' → I (i + 1) G' (acc ++ [y]) → N y H'' := k
  exact hs i x G H H' acc N hi hI fr hD gD y kk
theorem walk_enumT {K : PySem.W.Frag} {a : Addr} {xs : List V} : Walk (IteT K a) xs.length (fun H => SqT K H a xs) (YPair (fun i => some (.int (i : Nat))) (fun i => xs[i]?)) := by
  refine ⟨fun i _ hi q => ⟨xs, xs[i], q, by simp [hi]⟩, fun _ q => ⟨xs, q, rfl⟩, fun i H v H' _ q y => ?_⟩
  obtain ⟨T, x, h1, h2, h3, h4⟩ := y
  exact ⟨T, .int (i : Nat), x, h1, h2, h3, rfl, h4 xs q⟩
/-- one of each: the accumulated ones stand for the first items -/
def IAll {α : Type} (R : Hp → V → α → Prop) (xs : List α) : Nat → Hp → List V → Prop := fun i G acc => All2 (R G) acc (xs.take i)
theorem IAll.nil {α : Type} {R : Hp → V → α → Prop} {xs : List α} {G : Hp} : IAll R xs 0 G [] := All2.nil
theorem IAll.mono {α : Type} {R : Hp → V → α → Prop} {xs : List α} (m : ∀ G G' v x, Same G G' → R G v x → R G' v x) (i : Nat) (G G' : Hp) (acc : List V) (e : Same G G') (h : IAll R xs i G acc) : IAll R xs i G' acc := All2.imp h fun v x z => m G G' v x e z
theorem IAll.len {α : Type} {R : Hp → V → α → Prop} {xs : List α} (i : Nat) (G : Hp) (acc : List V) (h : IAll R xs i G acc) : acc.length ≤ i := by rw [h.1, List.length_take]; omega
theorem IAll.step {α : Type} {R : Hp → V → α → Prop} {xs : List α} {i : Nat} {G G' : Hp} {acc : List V} {x : α} {v : V} (m : ∀ G G' v x, Same G G' → R G v x → R G' v x) (h : IAll R xs i G acc) (e : Same G G') (hx : xs[i]? = some x) (hv : R G' v x) : IAll R xs (i + 1) G' (acc ++ [v]) := by
  unfold IAll
  rw [List.take_add_one, hx]
  exact (IAll.mono m i G G' acc e h).snoc hv
theorem IAll.all {α : Type} {R : Hp → V → α → Prop} {xs : List α} {n : Nat} {G : Hp} {acc : List V} (h : IAll R xs n G acc) (e : xs.length = n) : All2 (R G) acc xs := by
  unfold IAll at h
  rw [List.take_of_length_le (by omega)] at h
  exact h
/-- as many trues -/
def ITrue : Nat → Hp → List V → Prop := fun i _ acc => acc = List.replicate i (.bl true)
theorem ITrue.step {i : Nat} {G G' : Hp} {acc : List V} (h : ITrue i G acc) : ITrue (i + 1) G' (acc ++ [.bl true]) := by
  show acc ++ [.bl true] = List.replicate (i + 1) (V.bl true)
  rw [show acc = List.replicate i (.bl true) from h, List.replicate_succ']
theorem ITrue.len (i : Nat) (G : Hp) (acc : List V) (h : ITrue i G acc) : acc.length ≤ i := by rw [show acc = List.replicate i (.bl true) from h, List.length_replicate]; exact Nat.le_refl _
theorem all_true (n : Nat) : (List.replicate n true).all id = true := by simp
theorem map_true (n : Nat) : (List.replicate n true).map V.bl = List.replicate n (V.bl true) := by simp
/-- all([..]): each true -/
theorem lc_true {K : PySem.W.Frag} {J : It} {n : Nat} {Gd : Hp → Prop} {Y : Nat → Hp → V → Hp → Prop} (w : Walk J n Gd Y) {g : TG} {te : TE} {vs : List Nat} {σ : L2.St} {H1 : Hp} {D : Addr} {Q : VK} (G0 : Hp)
    (h0 : Same G0 H1) (nD : H1 D = none) (nX : ¬ X D) (hl : n ≤ sizeLine) (gd : ∀ H, Same G0 H → Gd H)
    (hs : ∀ i x G H H' (N : V → Hp → Prop), i < n → Fr T X G0 H1 G H → Y i H x H' → (∀ G' H'', Fr T X G H G' H'' → N (.bl true) H'') → g x (wipe σ vs) H' fun σ2 H2 => wipe σ2 vs = wipe σ vs ∧ te σ2 H2 N)
    (hd : ∀ G H, Fr T X G0 H1 G H → Q (.bl true) H) :
    ∃ W : Nat → Nat → Hp → Prop, (∃ m, W 0 m (upd H1 D (.lst []))) ∧ ∀ i m H, W i m H →
      (J.stop i H ∧ rAll K [.ref D] H Q) ∨ (J.go i H ∧ ∃ Nx : Hp → Prop, (∀ H', Nx H' → ∃ m', m' < m ∧ W (i + 1) m' H') ∧ ∀ x H', J.yld i H x H' → g x (wipe σ vs) H' fun σ2 H2 => wipe σ2 vs = wipe σ vs ∧ tYes σ2 H2 fun b H3 =>
        if b = true then te σ2 H3 fun y H4 => ∃ acc, H4 D = some (.lst acc) ∧ acc.length < sizeLine ∧ Nx (upd H4 D (.lst (acc ++ [y]))) else Nx H3) := by
  refine lc_fr (T := T) (X := X) w G0 ITrue h0 nD nX hl gd rfl (fun _ _ _ _ _ h => h) ITrue.len (fun i x G H H' acc N M hi hI fr hD gD y k _ => ?_) (fun G H acc hI fr _ hD => ?_)
  · have kk : ∀ G' H'', Fr T X G H G' H'' → N (.bl true) H'' := fun G' H'' f => k _ G' H'' f hI.step
    exact hs i x G H H' N hi fr y kk
  · refine ⟨D, List.replicate n true, rfl, .of (by rw [map_true, hD, show acc = List.replicate n (.bl true) from hI]), ?_⟩
    rw [all_true]
    exact hd _ H fr
end

/-! ### rules within comprehensions: K is told -/
section
variable {X : Cx} {e o i l a : Expr} {te to ti tl : TE} {pos : Pos}
theorem ix_tupK (K : PySem.W.Frag) (h : X.K = K := by rfl) : IxR X (rIxT K) := h ▸ ix_tup
theorem ix_listK (K : PySem.W.Frag) (h : X.K = K := by rfl) : IxR X (rIxL K) := h ▸ ix_list
theorem ix_seqK (K : PySem.W.Frag) (h : X.K = K := by rfl) : IxR X (rIx K) := h ▸ ix_seq
theorem pi_listK (K : PySem.W.Frag) {tg : Expr} (hl : PE X l tl) (h : X.K = K := by rfl) : PI X tg l (iList K tl) := h ▸ pi_list hl
theorem pi_tupK (K : PySem.W.Frag) {tg : Expr} (hl : PE X l tl) (h : X.K = K := by rfl) : PI X tg l (iTup K tl) := h ▸ pi_tup hl
def rTupOf (K : PySem.W.Frag) : List V → Hp → VK → Prop := fun xs H Q => ∃ p ys, xs = [.ref p] ∧ ((SqL K H p ys ∧ ∀ l, H l = none → Q (.ref l) (upd H l (.tup ys))) ∨ (SqT K H p ys ∧ Q (.ref p) H))
def rListOf (K : PySem.W.Frag) : List V → Hp → VK → Prop := fun xs H Q => ∃ p ys, xs = [.ref p] ∧ (SqL K H p ys ∨ SqT K H p ys) ∧ ∀ l, H l = none → Q (.ref l) (upd H l (.lst ys))
def rLenOf (K : PySem.W.Frag) : List V → Hp → VK → Prop := fun xs H Q => ∃ p ys, xs = [.ref p] ∧ (SqL K H p ys ∨ SqT K H p ys) ∧ Q (.int ys.length) H
theorem call_tuple_ofK (K : PySem.W.Frag) (h : X.K = K := by rfl) : CallR X (.type "tuple") (rTupOf K) := h ▸ call_tuple_of
theorem call_list_ofK (K : PySem.W.Frag) (h : X.K = K := by rfl) : CallR X (.type "list") (rListOf K) := h ▸ call_list_of
theorem call_len_seqK (K : PySem.W.Frag) (h : X.K = K := by rfl) : CallR X (.builtin "len") (rLenOf K) := h ▸ call_len_seq
theorem pe_fldK (K : PySem.W.Frag) {f : Str} (he : PE X e te) (hb : attributeBase e f X.env (eval e X.env) = eval e X.env) (h : X.K = K := by rfl) : PE X (.Attribute e f pos) (tFld K te f) := h ▸ pe_fld he hb
theorem pg_tupK (K : PySem.W.Frag) {es : List Expr} {k : Nat} {t : TGs} {n : Nat} (hc : X.calm = true) (h : PGs X es t)
    (hn : (assignEach es X.env).length = n := by rfl) (hst : (assignEach es X.env).findIdx? (·.1) = none := by rfl) (hK : X.K = K := by rfl) : PG X (.Tuple es k pos) (gTup K n t) := hK ▸ pg_tup hc h hn hst
theorem op_notInDK (K : PySem.W.Frag) (hu : X.A.units + 65 < cLine) (h : X.K = K := by rfl) : OpR X (compareOp .NotIn) (rNotInD K) := h ▸ op_notInD hu
theorem pe_pgetK (P : Program) (w : World) (hu : RoomP X.A) (ho : PE X o to) (hi : PE X i ti) (hs : NoSl i) (h1 : X.prog = P := by rfl) (h2 : X.w = w := by rfl) : PE X (.Subscript o i pos) (tPGet P w to ti) := by
  subst h1 h2
  exact pe_pget hu ho hi hs
end

section
variable {X : Cx}
theorem nt_is {pins : List (Addr × Obj)} {σ : L2.St} {H : Hp} {s : Shared} {p : Addr} {xs : List V} (I : Inv X pins σ H s) (e : H p = some (NT p xs)) : xs.length ≤ sizeLine ∧ ∃ its : List Value, Vals xs its ∧ s.heap.get? p = some { cls := .type "tuple", data := .seq its.toArray } := (I.hok p _ e).1
theorem nt_ok {P : Program} {w : World} {H' : Hp} {h' : Heap} {p : Addr} {xs : List V} {its : List Value} (z : xs.length ≤ sizeLine) (r : Vals xs its) (e : h'.get? p = some { cls := .type "tuple", data := .seq its.toArray }) : ObjOk P w H' h' p (NT p xs) :=
  ⟨⟨z, its, r, e⟩, ⟨_, e⟩, fun _ _ q k => let ⟨z, its, r, e⟩ := q; ⟨z, its, r, k _ e⟩⟩
theorem call_tupleN : CallR X (.type "tuple") (fun xs H Q => ∃ p ys, xs = [.ref p] ∧ SqL X.K H p ys ∧ ∀ l, H l = none → Q (.ref l) (upd H l (NT l ys))) := by
  intro pins s σ H xs us Q I r h
  obtain ⟨p, ys, rfl, hq, q⟩ := h
  obtain ⟨u, rfl, rx⟩ := vals1 r
  cases rx
  obtain ⟨its, r', pl, hz⟩ := I.list hq
  have hlen := r'.length
  have hn := line63
  refine call_tuple_list pl.isList (fun h' kp => ?_) (by simp only [List.size_toArray] <;> omega)
  have I1 : Inv X pins σ H { s with heap := h' } := I.kept (t' := s.toks) kp
  have I2 : Inv X pins σ (upd H h'.objs.size (NT h'.objs.size ys)) { s with heap := h'.push { cls := .type "tuple", data := .seq its.toArray } } :=
    I1.laid (t' := s.toks) (fun b o e => Heap.get?_push_of_some _ e) (Nat.le_refl _) (nt_ok hz r' (Heap.get?_push_size _ rfl))
  exact ⟨.ref h'.objs.size, _, I2, rfl, q _ (I1.hok.fresh (Nat.le_refl _))⟩
theorem op_inN : OpR X (compareOp .In) (fun x y H Q => ∃ p xs, y = .ref p ∧ H p = some (NT p xs) ∧ flatV x = true ∧ xs.all flatV = true ∧ Q (.bl (inV x xs)) H) := by
  intro pins s σ H x y v u Q I rx ry h
  obtain ⟨p, xs, rfl, hq, fx, fs, q⟩ := h
  cases ry
  obtain ⟨hz, its, r, e⟩ := nt_is I hq
  refine SeqAt.in_tupleAt (eqU x) (show IsTup s.heap p its.toArray from ⟨_, e, rfl, _, rfl⟩) (fun w hw => mem_eqAt rx fx r fs w (by simpa using hw)) ⟨.bl _, H, I, rfl, ?_⟩
  rw [show its.toArray.any (eqU x) = its.any (eqU x) by simp, any_eqU r fs]
  exact q
theorem mt_tup_indexN : MtR X "tuple.index" (fun x xs H Q => ∃ p, ∃ ys : List Str, ∃ z j, x = .ref p ∧ xs = [.str z] ∧ H p = some (NT p (ys.map V.str)) ∧ ys[j]? = some z ∧ (∀ m, m < j → ys[m]? ≠ some z) ∧ Q (.int (j : Nat)) H) := by
  intro pins s σ H x xs v us Q I rx rs h
  obtain ⟨p, ys, z, j, rfl, rfl, hq, hy, hno, q⟩ := h
  cases rx
  obtain ⟨u, rfl, t, rfl⟩ := vals1 rs
  obtain ⟨hz, its, r, ho⟩ := nt_is I hq
  have hl : its.toArray.size = ys.length := by rw [List.size_toArray, ← r.length, List.length_map]
  have hj : j < its.toArray.size := by rw [hl]; exact (List.getElem?_eq_some_iff.mp hy).1
  have at' : ∀ (m : Nat) (hm : m < its.toArray.size), ∃ y t', ys[m]? = some y ∧ its.toArray[m] = Value.str y t' := fun m hm => by
    have hm' : m < ys.length := by rw [← hl]; exact hm
    obtain ⟨w, hw, t', hw'⟩ := r.get (i := m) (x := .str ys[m]) (by simp [hm'])
    refine ⟨ys[m], t', List.getElem?_eq_getElem hm', ?_⟩
    have e := (List.getElem?_eq_some_iff.mp hw).2
    rw [← hw', ← e]
    simp
  refine call_meets PySem.F.slot_tuple_index ⟨_, ho, rfl⟩ PySem.F.entry_tuple_index (PySem.F.args_tuple_index_2 _ _) (TI.tuple_indexAt p its.toArray _ _ _ (.str z t) (eqU (.str z)) j hj ?_ ?_)
    ⟨ho, fun w hw => mem_eqAt (x := .str z) ⟨t, rfl⟩ rfl r (flat_strs ys) w (by simpa using hw), ⟨.int (j : Nat), H, I.tok _, ⟨_, rfl⟩, q⟩⟩
  · obtain ⟨y, t', h1, h2⟩ := at' j hj
    rw [hy] at h1
    cases h1
    rw [h2]
    show (z == z) = true
    exact beq_self_eq_true z
  · intro m hm hmj
    obtain ⟨y, t', h1, h2⟩ := at' m hm
    rw [h2]
    show (y == z) = false
    exact beq_eq_false_iff_ne.mpr fun e => hno m hmj (e ▸ h1)
def tBMN (r : V → List V → Hp → VK → Prop) (to : TE) (t : TA) : TE := fun σ H Q => to σ H fun x H1 => (∃ p xs, x = .ref p ∧ H1 p = some (NT p xs)) ∧ t σ H1 fun xs H2 => r x xs H2 Q
theorem pe_bmN {o e : Expr} {es : List Expr} {to : TE} {t : TA} {name : Str} {apos cpos : Pos} {id : String} {r : V → List V → Hp → VK → Prop} (slot : Slot "tuple" name id) (hty : typeOf (.builtin id) = pure (.type "method_descriptor")) (hm : MtR X id r) (ho : PE X o to) (ha : PA X (e :: es) t)
    (hbase : attributeBase o name X.env (eval o X.env) = eval o X.env := by rfl)
    (hfew : ((backTo cpos (starEach (e :: es) X.env)).all (fun x => !x.1) && (backToKw cpos (keywordEach [] X.env)).all (fun x => x.1.isSome)
      && decide ((e :: es).length + ([] : List Keyword).length + (if ([] : List Keyword).isEmpty then 0 else 1) < 30)) = true := by rfl)
    (hline : (apos.endLine == cpos.line) = true := by rfl) (hs : starEach (e :: es) X.env = (false, eval e X.env) :: starEach es X.env := by rfl) (hplain : (backTo cpos (starEach es X.env)).any (·.1) = false := by rfl) :
    PE X (.Call (.Attribute o name apos) (e :: es) [] cpos) (tBMN r to t) := by
  refine ⟨fun pins s σ H Q I h => ?_⟩
  refine wpAny_Call_method_late hbase hfew hline rfl (thn (ho.run pins s σ H _ I h) fun v s1 ⟨x, H1, I1, r1, ty, q1⟩ => ?_)
  obtain ⟨p, xs, rfl, hp⟩ := ty
  cases r1
  obtain ⟨_, its, _, e1⟩ := nt_is I1 hp
  refine ⟨"tuple", id, PySem.F.plainAttrs_tuple, slot, hty, ⟨_, e1, rfl⟩, fun a e => by cases e; exact ⟨_, e1, rfl⟩, ?_⟩
  have hA := ha.run cpos pins s1 σ H1 _ I1 q1
  rw [hs] at hA ⊢
  refine Calls.callWith_builtin (by show (false || (backTo cpos (starEach es X.env)).any (·.1)) = false; rw [hplain] <;> rfl) (Calls.evalArgs_plain ?_)
  exact thn hA fun us s2 ⟨vs, H2, I2, r2, q2⟩ => hm pins s2 σ H2 (.ref p) vs _ us Q I2 rfl r2 q2
end
end K57
set_option Elab.async false
set_option linter.all false
set_option autoImplicit false
set_option maxRecDepth 100000
set_option maxHeartbeats 2000000
/-! K57G: set(list of ints) with what sorted asks of it (the library's rule for a tuple, turned to a list). -/
namespace K57
open PySem PySem.Spec PyProof.Rows L2
section
variable {P : Program} {w : World} {A : Around} {E : Value → Shared → Prop} {s : Shared}
set_option maxRecDepth 100000 in
set_option maxHeartbeats 3200000 in
theorem set_ofInts {l : Addr} {items : Array Value} (ns : List Int) {Q : Value → Shared → Prop} (hh : A.handled = none) (hl : s.heap.IsList l items) (hit : IntsAre items.toList ns) (hb : ns.length + 1 < scanBound)
    (h : ∀ (h' : Heap) (tk c : Nat), SetR w h' s.heap.objs.size (fun j => decide (j ∈ ns)) c → c ≤ ns.length → (∀ b o, s.heap.get? b = some o → h'.get? b = some o) → Q (.ref s.heap.objs.size) { s with heap := h', toks := tk }) :
    wpAny (model P w) A (call (.type "set") [.ref l]) Q E s := by
  have hisz : items.size = ns.length := by
    have q := IntsAre.length hit
    rw [Array.length_toList] at q
    exact q
  obtain ⟨c, tl, hmro⟩ := F.called_set.mro
  have hmade := F.called_set.made
  have hsub := F.called_set.sub
  refine wpAny_call (codeAny_of_tree ?_)
  show wpAny _ _ (callAny (.type "set") _) _ _ _
  refine wpAny_pure ⟨Code.quiet_builtin _ (by decide +kernel), codeAny_builtin F.entry_type_call ?_⟩
  rw [Around.under_plain (weight_type_call_type "set" [.ref l] []) rfl]
  have h1 := F.called_set.notType
  have h2 := F.called_set.canCreate
  have hct := F.typeCall_set_1 (.ref l)
  repeat (any_goals (first | assumption | wp_step))

  refine codeAny_mono (code_set_led1 (.ref l) (E := E) (Q₁ := fun obj s₁ => obj = .ref s.heap.objs.size ∧ s₁ = { s with heap := s.heap.push { cls := .type "set", dict := none, data := .set #[] 0 (.fresh 0 0 (!w.params.followText "set-order")) } }) ⟨rfl, rfl⟩) fun r s₁ hr => ?_
  cases r with
  | error e => exact hr
  | ok fl =>
    cases fl with
    | ret obj =>
      obtain ⟨rfl, rfl⟩ := hr
      have hS : (s.heap.push { cls := .type "set", dict := none, data := .set #[] 0 (.fresh 0 0 (!w.params.followText "set-order")) }).get? s.heap.objs.size = some { cls := .type "set", dict := none, data := .set #[] 0 (.fresh 0 0 (!w.params.followText "set-order")) } := Heap.get?_push_size _ rfl
      have hT : Shared.TypeIs { s with heap := s.heap.push { cls := .type "set", dict := none, data := .set #[] 0 (.fresh 0 0 (!w.params.followText "set-order")) } } (.ref s.heap.objs.size) "set" := ⟨_, hS, rfl⟩
      have hli := F.called_set.init.lookup
      have hbi := F.called_set.init.bind (.ref s.heap.objs.size)
      repeat (any_goals (first | assumption | wp_step))

      refine codeAny_mono (codeAny_call_builtin (R := wants (fun r s₂ => r = .none ∧ ∃ h' tk c, s₂ = { s with heap := h', toks := tk } ∧ SetR w h' s.heap.objs.size (fun j => decide (j ∈ ns)) c ∧ c ≤ ns.length ∧
          (∀ b o, s.heap.get? b = some o → h'.get? b = some o)) E) F.called_set.init.plain F.entry_set_init (check_set_init_1 hT ?_)) fun r₂ s₂ hr₂ => ?_
      · obtain ⟨ol, hol, hcl, nl, hdl⟩ := hl
        obtain ⟨ocls, odict, odata, oslots⟩ := ol
        simp only at hcl hdl
        subst hcl; subst hdl
        have hol' : (s.heap.push { cls := .type "set", dict := none, data := .set #[] 0 (.fresh 0 0 (!w.params.followText "set-order")) }).get? l = some { cls := .type "list", dict := odict, data := .seq items nl, slots := oslots } := Heap.get?_push_of_some _ hol
        have hsls := F.sub_list_set
        have hslf := F.sub_list_frozenset
        have hne : (Value.type "list" == Value.type "dict") = false := by decide
        have hl1 : (s.heap.push { cls := .type "set", dict := none, data := .set #[] 0 (.fresh 0 0 (!w.params.followText "set-order")) }).IsList l items := ⟨_, hol', rfl, nl, rfl⟩
        unfold Builtin.«set.__init__» noKeywords Builtin.Frozenset.updateFrom
        generalize hPI : pyIter = PI
        wp_walk
        subst hPI

        refine wpAny_pyIter_list hl1 ?_
        refine wpAny_bind (wpAny_runValue ?_)
        have hlS : l < s.heap.objs.size := Heap.lt_size hol
        have hh3 : A.in1.in1.in1.handled = none := by simp [hh]
        have hz1 : (s.heap.push { cls := .type "set", dict := none, data := .set #[] 0 (.fresh 0 0 (!w.params.followText "set-order")) }).objs.size = s.heap.objs.size + 1 := Heap.size_push ..
        have hneI : l ≠ (s.heap.push { cls := .type "set", dict := none, data := .set #[] 0 (.fresh 0 0 (!w.params.followText "set-order")) }).objs.size := by
          rw [Heap.size_push]; exact Nat.ne_of_lt (Nat.lt_succ_of_lt hlS)
        have hSf : s.heap.objs.size ∉ [(s.heap.push { cls := .type "set", dict := none, data := .set #[] 0 (.fresh 0 0 (!w.params.followText "set-order")) }).objs.size, l] := by
          rw [Heap.size_push]; simp only [List.mem_cons, List.mem_singleton, List.not_mem_nil, or_false, not_or]
          exact ⟨Nat.ne_of_lt (Nat.lt_succ_self _), Nat.ne_of_gt hlS⟩
        have hval : ∀ (i : Nat) (v : Value), items[i]? = some v → ∃ k t, ns[i]? = some k ∧ v = .int k t := fun i v hv => by
          have hi : i < ns.length := by rw [← hisz]; exact (Array.getElem?_eq_some_iff.mp hv).1
          obtain ⟨t, e⟩ := PyProof.Rows.IntsAre.int_at hit i v (by rw [Array.getElem?_toList]; exact hv)
          refine ⟨ns[i], t, List.getElem?_eq_getElem hi, ?_⟩
          rw [e, List.getD_eq_getElem?_getD, List.getElem?_eq_getElem hi] <;> rfl
        refine set_update_ints ((Walks.list hh3 _ l hneI items).toS) s.heap.objs.size
          hSf ns hisz hb hval (items.size - 0) 0 _ (by omega) (Nat.zero_le _)
          ⟨⟨_, Heap.get?_push_size _ rfl, rfl, rfl⟩, (hl1.push _)⟩ ?hS0 ?hR
        case hS0 =>
          have hget : ((s.heap.push { cls := .type "set", dict := none, data := .set #[] 0 (.fresh 0 0 (!w.params.followText "set-order")) }).push { cls := .type "list_iterator", data := .fields #[.ref l, .int 0 0] }).get? s.heap.objs.size
              = some { cls := .type "set", dict := none, data := .set #[] 0 (.fresh 0 0 (!w.params.followText "set-order")) } := Heap.get?_push_of_some _ hS
          exact ⟨0, Nat.le_refl 0, setR_new_at hget⟩
        case hR =>
          intro s' c' hm hc' hS'
          obtain ⟨h', g2, d', tk', os'⟩ := s'
          have eg : g2 = s.gens := hm.gens
          have ed : d' = s.drawn := hm.drawn
          have eo : os' = s.os := hm.os
          subst eg; subst ed; subst eo
          show wpAny _ _ _ _ _ _
          refine wpAny_pure ?_
          show wpAny _ _ (ret Value.none) _ _ _
          rw [hisz] at hc'
          refine wpAny_pure ⟨rfl, h', tk', c', rfl, hS', hc', fun b o e => ?_⟩
          have hb0 : b < s.heap.objs.size := Heap.lt_size e
          have hb1 : b ≠ s.heap.objs.size := Nat.ne_of_lt hb0
          have hb2 : b ≠ (s.heap.push { cls := .type "set", dict := none, data := .set #[] 0 (.fresh 0 0 (!w.params.followText "set-order")) }).objs.size := by
            rw [Heap.size_push]; exact Nat.ne_of_lt (Nat.lt_succ_of_lt hb0)
          exact hm.heap b o (by simp only [List.mem_cons, List.mem_singleton, List.not_mem_nil, or_false, not_or]; exact ⟨hb1, hb2⟩) (Heap.get?_push_of_some _ (Heap.get?_push_of_some _ e))

      · cases r₂ with
        | error e => exact hr₂
        | ok fl₂ =>
          cases fl₂ with
          | ret r =>
            obtain ⟨rfl, h', tk, c', rfl, hS', hc', hk'⟩ := hr₂
            repeat (any_goals (first | assumption | wp_step))
            exact h _ _ _ hS' hc' hk'
          | _ => exact hr₂.elim
    | _ => exact hr.elim

end
/-- set(xs), xs a list of ints -/
def rSetInts (K : PySem.W.Frag) (w : World) : List V → Hp → VK → Prop := fun vs H Q => ∃ (l : Addr) (ns : List Int), vs = [V.ref l] ∧ SqL K H l (ns.map V.int) ∧ ns.length ≤ 1000 ∧
  ∀ a c, H a = none → c ≤ ns.length → Q (.ref a) (upd H a (SetO w a (fun j => decide (j ∈ ns)) c))
theorem cr_setInts {X : Cx} (hc : X.calm = true) : CallR X (.type "set") (rSetInts X.K X.w) := by
  intro pins s σ H vs us Q I r h
  obtain ⟨l, ns, rfl, hq, hl, q⟩ := h
  rw [Vals.ref1 r]
  obtain ⟨its, rv, pl, hz⟩ := I.list hq
  refine set_ofInts ns (I.ok.hd hc) pl.isList (ints_of_vals rv) (by unfold scanBound; omega) fun h' tk c R hcn k => ?_
  have hn : H s.heap.objs.size = none := I.hok.fresh (Nat.le_refl _)
  exact ⟨.ref s.heap.objs.size, _, I.laid (t' := tk) k (Nat.le_refl _) (setO_new R), rfl, q _ _ hn hcn⟩
end K57
set_option Elab.async false
set_option linter.all false
set_option autoImplicit false
set_option maxRecDepth 100000
set_option maxHeartbeats 2000000
/-! K57H: a < b of lists of counts; repr of a list of ints; defs whose promise knows the guards. -/
namespace K57
open PySem PySem.Spec PyProof.Rows L2

/-! ### xs < ys -/
theorem firstLt_lex : ∀ (ns ms : List Nat), SeqAt.firstLt (fun j => decide (ns.getD j 0 = ms.getD j 0)) (fun j => decide (ns.getD j 0 < ms.getD j 0)) (decide (ns.length < ms.length)) (List.range (min ns.length ms.length)) = lexL ns ms
  | [], [] => rfl
  | [], _ :: _ => by simp [SeqAt.firstLt, lexL]
  | _ :: _, [] => by simp [SeqAt.firstLt, lexL]
  | x :: xs, y :: ys => by
    have ih := firstLt_lex xs ys
    have e1 : min (x :: xs).length (y :: ys).length = min xs.length ys.length + 1 := by simp only [List.length_cons]; omega
    rw [e1, List.range_succ_eq_map]
    show (if decide (x = y) = true then _ else decide (x < y)) = lexL (x :: xs) (y :: ys)
    by_cases e : x = y
    · rw [decide_eq_true e, if_pos rfl]
      show _ = (if x = y then lexL xs ys else decide (x < y))
      rw [if_pos e, ← ih, PySem.W.firstLt_map]
      have e2 : decide ((x :: xs).length < (y :: ys).length) = decide (xs.length < ys.length) := by simp
      rw [e2]
      rfl
    · rw [decide_eq_false e]
      show (if false = true then _ else decide (x < y)) = (if x = y then lexL xs ys else decide (x < y))
      rw [if_neg (by simp), if_neg e]
def rLtL (K : PySem.W.Frag) : R2 := fun x y H Q => ∃ (a b : Addr) (ns ms : List Nat), x = .ref a ∧ y = .ref b ∧ SqL K H a (ns.map nV) ∧ SqL K H b (ms.map nV) ∧ Q (.bl (lexL ns ms)) H
theorem op_ltL {X : Cx} (hu : X.A.units < cLine) : OpR X (compareOp .Lt) (rLtL X.K) := by
  intro pins s σ H x y v u Q I rx ry h
  obtain ⟨a, b, ns, ms, rfl, rfl, ha, hb, q⟩ := h
  cases rx
  cases ry
  obtain ⟨its, r1, p1, _⟩ := I.list ha
  obtain ⟨its2, r2, p2, _⟩ := I.list hb
  have at_ : ∀ {l : List Nat} {us : List Value}, Vals (l.map nV) us → ∀ j (h1 : j < us.toArray.size), ∃ t, us.toArray[j] = .int ((l.getD j 0 : Nat) : Int) t := fun {l us} r j h1 => by
    have h1' : j < us.length := by simpa using h1
    have hl : j < l.length := by have := r.length; rw [List.length_map] at this; omega
    obtain ⟨u, hu, ru⟩ := r.get (i := j) (x := nV l[j]) (by rw [List.getElem?_map, List.getElem?_eq_getElem hl]; rfl)
    obtain ⟨t, et⟩ := (show ∃ t, u = Value.int _ t from ru)
    refine ⟨t, ?_⟩
    have e0 : us.toArray[j] = u := by
      have := List.getElem?_eq_some_iff.mp hu
      obtain ⟨_, e⟩ := this
      simpa using e
    rw [e0, et, List.getD_eq_getElem?_getD, List.getElem?_eq_getElem hl]
    rfl
  have s1 : its.toArray.size = ns.length := by rw [List.size_toArray, ← r1.length, List.length_map]
  have s2 : its2.toArray.size = ms.length := by rw [List.size_toArray, ← r2.length, List.length_map]
  have R := SeqAt.RcLt.lists (A := X.A) (s := s) (e := fun j => decide (ns.getD j 0 = ms.getD j 0)) (r := fun j => decide (ns.getD j 0 < ms.getD j 0)) p1.isList p2.isList hu (fun j h1 h2 => by
    obtain ⟨t, et⟩ := at_ r1 j h1
    obtain ⟨t', et'⟩ := at_ r2 j h2
    rw [et, et']
    have z : (((ns.getD j 0 : Nat) : Int) == ((ms.getD j 0 : Nat) : Int)) = decide (ns.getD j 0 = ms.getD j 0) := by
      by_cases q : ns.getD j 0 = ms.getD j 0
      · rw [decide_eq_true q, q]; exact beq_self_eq_true _
      · rw [decide_eq_false q]; exact beq_eq_false_iff_ne.mpr fun z => q (Int.ofNat_inj.mp z)
    rw [← z]
    exact SeqAt.EqAt.int_int _ _ _ _) (fun j h1 h2 _ => by
    obtain ⟨t, et⟩ := at_ r1 j h1
    obtain ⟨t', et'⟩ := at_ r2 j h2
    rw [et, et']
    intro prog w E Q hq
    have z : decide (((ns.getD j 0 : Nat) : Int) < ((ms.getD j 0 : Nat) : Int)) = decide (ns.getD j 0 < ms.getD j 0) := by
      by_cases q : ns.getD j 0 < ms.getD j 0
      · rw [decide_eq_true q]; exact decide_eq_true (by omega)
      · rw [decide_eq_false q]; exact decide_eq_false (by omega)
    rw [← z] at hq
    exact PyProof.Rows.lt_int hq)
  rw [s1, s2, firstLt_lex] at R
  have z : wpAny (model X.prog X.w) X.A (compareOp .Lt (.ref a) (.ref b)) (EP X pins σ Q) X.xe s := R X.prog X.w X.xe (EP X pins σ Q) ⟨.bl _, H, I, rfl, q⟩
  exact z

end K57
set_option Elab.async false
set_option linter.all false
set_option autoImplicit false
set_option maxRecDepth 100000
set_option maxHeartbeats 2000000
/-! K57Q: the text, and the things' defs. -/
namespace K57
open PySem PySem.Spec PyProof.Rows L2
abbrev Cl := C8.Cal
/-- what the top has left of names -/
structure Txt (K : PySem.W.Frag) (mg : Str → Option Value) (C : Cs) : Prop where
  b_isinstance : mg "isinstance" = none
  b_int : mg "int" = none
  b_bool : mg "bool" = none
  b_str : mg "str" = none
  b_list : mg "list" = none
  b_tuple : mg "tuple" = none
  b_dict : mg "dict" = none
  b_set : mg "set" = none
  b_len : mg "len" = none
  b_all : mg "all" = none
  b_any : mg "any" = none
  b_sum : mg "sum" = none
  b_max : mg "max" = none
  b_min : mg "min" = none
  b_abs : mg "abs" = none
  b_divmod : mg "divmod" = none
  b_range : mg "range" = none
  b_enumerate : mg "enumerate" = none
  b_sorted : mg "sorted" = none
  b_repr : mg "repr" = none
  c_LETTERS : ∃ u, mg "LETTERS" = some u ∧ RelV (.str "abcdefghijklmnopqrstuvwxyz") u
  c_LONGEST_NAME : ∃ u, mg "LONGEST_NAME" = some u ∧ RelV (.int 8) u
  c_GREATEST_ANSWER : ∃ u, mg "GREATEST_ANSWER" = some u ∧ RelV (.int 9) u
  c_MOST_DEEDS : ∃ u, mg "MOST_DEEDS" = some u ∧ RelV (.int 4) u
  c_MOST_STATES : ∃ u, mg "MOST_STATES" = some u ∧ RelV (.int 8) u
  c_DO : ∃ u, mg "DO" = some u ∧ RelV (.str "do") u
  c_LOOK : ∃ u, mg "LOOK" = some u ∧ RelV (.str "look") u
  c_END : ∃ u, mg "END" = some u ∧ RelV (.str "end") u
  c_MOST_THINGS : ∃ u, mg "MOST_THINGS" = some u ∧ RelV (.int 12) u
  c_MOST_HANDS : ∃ u, mg "MOST_HANDS" = some u ∧ RelV (.int 4) u
  c_MOST_NODES : ∃ u, mg "MOST_NODES" = some u ∧ RelV (.int 200) u
  c_Parts : ∃ u, mg "Parts" = some u ∧ RelV (.ref C.parts) u
  c_Thing : ∃ u, mg "Thing" = some u ∧ RelV (.ref C.thing) u
  c_Sheets : ∃ u, mg "Sheets" = some u ∧ RelV (.ref C.sheets) u
  k_Parts : Cls K C.parts
  k_Thing : Cls K C.thing
  k_Sheets : Cls K C.sheets
  k_Program : Cls K C.prog
  i_Thing : C8.InsC K C.thing
  n_Parts : PySem.W.kitOne K (.type "list") (.ref C.parts) = some false
  n_Sheets : PySem.W.kitOne K (.type "list") (.ref C.sheets) = some false
  f_Parts1 : NoAttr K C.parts "own_deeds"
  f_Parts2 : NoAttr K C.parts "own_rows"
  f_Thing1 : NoAttr K C.thing "own_deeds"
  f_Thing2 : NoAttr K C.thing "own_rows"
  f_Sheets1 : NoAttr K C.sheets "own_things"
  f_Sheets2 : NoAttr K C.sheets "own_scripts"
  f_Sheets3 : NoAttr K C.sheets "own_nodes"
  f_Prog1 : NoAttr K C.prog "own_things"
  f_Prog2 : NoAttr K C.prog "own_scripts"
  f_Prog3 : NoAttr K C.prog "own_nodes"

section
variable {P : Program} {w : World} {K : PySem.W.Frag} {mg : Str → Option Value} {base : Heap} {C : Cs} {Tb : List (Addr × Str)}

def spInt : Sp := fun vs H Q _ => ∃ i : Int, vs = [.int i] ∧ Q (.bl true) H
theorem sc24 : FnScope ["value"] ["value"] (C8.fnScope (top 24)) := C8.fnScope_by (by decide +kernel)
theorem ok_is_integer (T : Txt K mg C) {f : Addr} {fd : FuncData} (F : C8.Def K mg "is_integer" (top 24) f fd) (b : Binds K fd ["value"] []) : Cl P w K mg base 1 "is_integer" spInt [] := by
  refine C8.cal0 F b .nil sc24 (fun vs H Q E h => ?_) (fun cdv A outer s H vs Q E hr h => ?_)
  · obtain ⟨i, rfl, _⟩ := h
    rfl
  · obtain ⟨i, rfl, k⟩ := h
    refine ⟨_, ((pss_one (ps_ret (pe_and (pe_callB call_isi (by rfl) T.b_isinstance (by decide +kernel) (pa_cons (pv 0) (pa_cons (pe_bltn (v := .ty "int") (by rfl) T.b_int (by decide +kernel) rfl) pa_nil))) (pe_one (pe_not (pe_callB call_isi (by rfl) T.b_isinstance (by decide +kernel) (pa_cons (pv 0) (pa_cons (pe_bltn (v := .ty "bool") (by rfl) T.b_bool (by decide +kernel) rfl) pa_nil))))))))), ?_⟩
    exact ⟨_, rfl, _, _, _, _, true, rfl, .ty _, .base (.int i), kit_ty (by decide +kernel), true, rfl, iteT ⟨_, rfl, _, _, _, _, false, rfl, .ty _, .base (.int i), kit_ty (by decide +kernel), false, rfl, k⟩⟩
def spCount : Sp := fun vs H Q _ => ∃ i : Int, vs = [.int i] ∧ Q (.bl (decide (0 ≤ i))) H
theorem sc25 : FnScope ["value"] ["value"] (C8.fnScope (top 25)) := C8.fnScope_by (by decide +kernel)
theorem ok_is_count (T : Txt K mg C) {f : Addr} {fd : FuncData} (F : C8.Def K mg "is_count" (top 25) f fd) (b : Binds K fd ["value"] []) (c_is_integer : Cl P w K mg base 1 "is_integer" spInt []) : Cl P w K mg base 2 "is_count" spCount [] := by
  refine C8.cal0 F b .nil sc25 (fun vs H Q E h => ?_) (fun cdv A outer s H vs Q E hr h => ?_)
  · obtain ⟨i, rfl, _⟩ := h
    rfl
  · obtain ⟨i, rfl, k⟩ := h
    refine ⟨_, ((pss_one (ps_ret (pe_and (C8.pe_c c_is_integer hr (by decide) (by rfl) (pa_cons (pv 0) pa_nil)) (pe_one (pe_cmpR op_ge (pv 0) pe_int (nomark _))))))), ?_⟩
    exact ⟨_, rfl, i, rfl, true, rfl, iteT ⟨_, rfl, _, _, rfl, rfl, k⟩⟩
def spBelow : Sp := fun vs H Q _ => ∃ i n : Int, vs = [.int i, .int n] ∧ Q (.bl (decide (0 ≤ i ∧ i < n))) H
theorem sc26 : FnScope ["value", "limit"] ["value", "limit"] (C8.fnScope (top 26)) := C8.fnScope_by (by decide +kernel)
theorem ok_is_below (T : Txt K mg C) {f : Addr} {fd : FuncData} (F : C8.Def K mg "is_below" (top 26) f fd) (b : Binds K fd ["value", "limit"] []) (c_is_count : Cl P w K mg base 2 "is_count" spCount []) : Cl P w K mg base 3 "is_below" spBelow [] := by
  refine C8.cal0 F b .nil sc26 (fun vs H Q E h => ?_) (fun cdv A outer s H vs Q E hr h => ?_)
  · obtain ⟨i, n, rfl, _⟩ := h
    rfl
  · obtain ⟨i, n, rfl, k⟩ := h
    refine ⟨_, ((pss_one (ps_ret (pe_and (C8.pe_c c_is_count hr (by decide) (by rfl) (pa_cons (pv 0) pa_nil)) (pe_one (pe_cmpR op_lt (pv 0) (pv 1) (nomark _))))))), ?_⟩
    refine ⟨_, rfl, i, rfl, _, rfl, ?_⟩
    by_cases h : 0 ≤ i
    · rw [if_pos (decide_eq_true h)]
      refine ⟨_, rfl, _, rfl, _, _, rfl, rfl, ?_⟩
      have e : decide (i < n) = decide (0 ≤ i ∧ i < n) := by simp [h]
      show Q (.bl (decide (i < n))) H
      rw [e]
      exact k
    · rw [if_neg (by simpa using h)]
      have e : false = decide (0 ≤ i ∧ i < n) := by simp [h]
      show Q (.bl false) H
      rw [e]
      exact k
def spAnswer : Sp := fun vs H Q _ => ∃ i : Int, vs = [.int i] ∧ Q (.bl (decide (0 ≤ i ∧ i < 10))) H
theorem sc27 : FnScope ["value"] ["value"] (C8.fnScope (top 27)) := C8.fnScope_by (by decide +kernel)
theorem ok_is_answer (T : Txt K mg C) {f : Addr} {fd : FuncData} (F : C8.Def K mg "is_answer" (top 27) f fd) (b : Binds K fd ["value"] []) (c_is_below : Cl P w K mg base 3 "is_below" spBelow []) : Cl P w K mg base 4 "is_answer" spAnswer [] := by
  refine C8.cal0 F b .nil sc27 (fun vs H Q E h => ?_) (fun cdv A outer s H vs Q E hr h => ?_)
  · obtain ⟨i, rfl, _⟩ := h
    rfl
  · obtain ⟨i, rfl, k⟩ := h
    refine ⟨_, ((pss_one (ps_ret (C8.pe_c c_is_below hr (by decide) (by rfl) (pa_cons (pv 0) (pa_cons (pe_op op_add (C8.pe_gc (by rfl) T.c_GREATEST_ANSWER) pe_int) pa_nil)))))), ?_⟩
    exact ⟨_, rfl, _, _, rfl, rfl, i, 10, rfl, k⟩
/-- one of the names -/
def spName (Tb : List (Addr × Str)) : Sp := fun vs H Q _ => ∃ (G : Hp) (j : Nat), vs = [.str (nmAt j)] ∧ j < 4 ∧ Same G H ∧ ∀ G' H', Fr Tb X0 G H G' H' → Q (.bl true) H'
theorem sc28 : FnScope ["value", "sign"] ["value"] (C8.fnScope (top 28)) := C8.fnScope_by (by decide +kernel)
theorem nm_len {j : Nat} (h : j < 4) : (nmAt j).length ≤ sizeLine ∧ decide ((1 : Int) ≤ ((nmAt j).length : Nat)) = true ∧ decide ((((nmAt j).length : Nat) : Int) ≤ 8) = true ∧ (nmAt j).cps.size ≤ sizeLine := by
  have : j = 0 ∨ j = 1 ∨ j = 2 ∨ j = 3 := by omega
  rcases this with rfl | rfl | rfl | rfl <;> decide +kernel
theorem nm_sign {j i : Nat} {c : Nat} (h : j < 4) (e : (nmAt j).cps[i]? = some c) : (!(Builtin.Str.occurrences ("abcdefghijklmnopqrstuvwxyz" : Str) ⟨#[c]⟩ 0 ("abcdefghijklmnopqrstuvwxyz" : Str).length 1).isEmpty) = true := by
  have key : ∀ j : Fin 4, ∀ i : Fin 8, ∀ c ∈ (nmAt j.val).cps[i.val]?, (!(Builtin.Str.occurrences ("abcdefghijklmnopqrstuvwxyz" : Str) ⟨#[c]⟩ 0 ("abcdefghijklmnopqrstuvwxyz" : Str).length 1).isEmpty) = true := by decide +kernel
  have hi : i < 8 := by
    have h8 : ∀ j : Fin 4, (nmAt j.val).cps.size ≤ 8 := by decide +kernel
    have := h8 ⟨j, h⟩
    have := (Array.getElem?_eq_some_iff.mp e).1
    simp only at *
    omega
  exact key ⟨j, h⟩ ⟨i, hi⟩ c e
theorem ok_is_name (T : Txt K mg C) {f : Addr} {fd : FuncData} (F : C8.Def K mg "is_name" (top 28) f fd) (b : Binds K fd ["value"] []) : Cl P w K mg base 1 "is_name" (spName Tb) [] := by
  refine C8.cal0 F b .nil sc28 (fun vs H Q E h => ?_) (fun cdv A outer s H vs Q E hr h => ?_)
  · obtain ⟨G, j, rfl, _⟩ := h
    rfl
  · obtain ⟨G, j, rfl, hj, hs, k⟩ := h
    obtain ⟨h1, h2, h3, h4⟩ := nm_len hj
    refine ⟨_, ((pss_cons (ps_if (PW.pt (pw_or (pt_not (pt_val (pe_callB call_isi (by rfl) T.b_isinstance (by decide +kernel) (pa_cons (pv 0) (pa_cons (pe_bltn (v := .ty "str") (by rfl) T.b_str (by decide +kernel) rfl) pa_nil))))) (pw_or1 (pt_not (pt_chain op_le op_le pe_int (pe_callB call_len_str (by rfl) T.b_len (by decide +kernel) (pa_cons (pv 0) pa_nil)) (C8.pe_gc (by rfl) T.c_LONGEST_NAME)))))) (pss_one (ps_ret pe_bl)) pss_nil)
      (pss_one (ps_ret (pe_callB (cr_all rfl) (by rfl) T.b_all (by decide +kernel) (pa_cons (pe_lc (own := [("sign", 1)]) (tt := tYes) rfl sc28.nd (pi_str (pv 0)) (blkOk_by (N := ["value", "sign"]) (sc := C8.fnScope (top 28)) (by decide +kernel)) (fun _ _ _ _ _ => (pg_name (i := 1) sc28.nd rfl (Or.inl rfl))) (fun _ _ _ _ _ => pts_nil) (fun _ _ _ _ _ => (pe_cmpR op_in_str (pv 1) (C8.pe_gc (by rfl) T.c_LETTERS) rfl))) pa_nil)))))), ?_⟩
    refine ⟨_, rfl, _, _, _, _, true, rfl, .ty _, .base (.str _), kit_ty (by decide +kernel), true, rfl, iteF ?_⟩
    refine ⟨_, rfl, _, rfl, h1, _, _, rfl, rfl, true, congrArg V.bl h2, iteT ⟨_, _, rfl, rfl, true, congrArg V.bl h3, ?_⟩⟩
    refine iteF ⟨_, rfl, _, rfl, fun D hD => ?_⟩
    refine lc_true (T := Tb) (X := X0) walk_str G hs hD (fun h => h.elim) h4 (fun _ _ => trivial) (fun i x G1 H1 H2 N hi fr y k' => ?_) (fun G1 H1 fr => k G1 H1 fr)
    obtain ⟨rfl, c, hc, rfl⟩ := y
    refine ⟨rfl, _, rfl, _, _, rfl, rfl, ?_⟩
    rw [nm_sign hj hc]
    exact k' _ _ (.refl fr.s)
/-- a list or a tuple -/
def spList (Tb : List (Addr × Str)) : Sp := fun vs H Q _ => ∃ (G : Hp) (a : Addr) (xs : List V), vs = [.ref a] ∧ (G a = some (.lst xs) ∨ G a = some (.tup xs)) ∧ Same G H ∧ ∀ G' H', Fr Tb X0 G H G' H' → Q (.bl true) H'
theorem sc29 : FnScope ["value"] ["value"] (C8.fnScope (top 29)) := C8.fnScope_by (by decide +kernel)
theorem ok_is_list (T : Txt K mg C) {f : Addr} {fd : FuncData} (F : C8.Def K mg "is_list" (top 29) f fd) (b : Binds K fd ["value"] []) : Cl P w K mg base 1 "is_list" (spList Tb) [] := by
  refine C8.cal0 F b .nil sc29 (fun vs H Q E h => ?_) (fun cdv A outer s H vs Q E hr h => ?_)
  · obtain ⟨G, a, xs, rfl, _⟩ := h
    rfl
  · obtain ⟨G, a, xs, rfl, ha, hs, k⟩ := h
    refine ⟨_, ((pss_one (ps_ret (pe_callB call_isiT (by rfl) T.b_isinstance (by decide +kernel) (pa_cons (pv 0) (pa_cons (pe_tup (pa_cons (pe_bltn (v := .ty "list") (by rfl) T.b_list (by decide +kernel) rfl) (pa_cons (pe_bltn (v := .ty "tuple") (by rfl) T.b_tuple (by decide +kernel) rfl) pa_nil))) pa_nil)))))), ?_⟩
    refine ⟨_, rfl, by decide, fun p np => ?_⟩
    have fr : Fr Tb X0 G H (upd G p (.tup [.ty "list", .ty "tuple"])) (upd H p (.tup [.ty "list", .ty "tuple"])) := Fr.alloc hs np
    rcases ha with ha | ha
    · exact ⟨_, p, _, _, _, true, rfl, upd_same, .cons (.ty _) (.cons (.ty _) .nil), .base (.lst (fr.s _ _ (fr.g _ _ ha))), kitAny_cons (b := true) (kit_ty (by decide +kernel)) (fun h => by cases h) (fun _ => rfl), k _ _ fr⟩
    · exact ⟨_, p, _, _, _, true, rfl, upd_same, .cons (.ty _) (.cons (.ty _) .nil), .base (.tup (fr.s _ _ (fr.g _ _ ha))), kitAny_cons (b := false) (kit_ty (by decide +kernel)) (fun _ => kitAny_cons (b := true) (kit_ty (by decide +kernel)) (fun h => by cases h) (fun _ => rfl)) (fun _ => rfl), k _ _ fr⟩
/-- an entry -/
def spEntry : Sp := fun vs H Q _ => ∃ (n : Nat) (v : V) (e : Nat × Nat), vs = [.int (n : Nat), v] ∧ VEnt H v e ∧ e.1 ≤ 9 ∧ e.2 < n ∧ Q (.bl true) H
theorem sc30 : FnScope ["states", "value"] ["states", "value"] (C8.fnScope (top 30)) := C8.fnScope_by (by decide +kernel)
theorem ok_is_entry (T : Txt K mg C) {f : Addr} {fd : FuncData} (F : C8.Def K mg "is_entry" (top 30) f fd) (b : Binds K fd ["states", "value"] []) (c_is_answer : Cl P w K mg base 4 "is_answer" spAnswer []) (c_is_below : Cl P w K mg base 3 "is_below" spBelow []) : Cl P w K mg base 5 "is_entry" spEntry [] := by
  refine C8.cal0 F b .nil sc30 (fun vs H Q E h => ?_) (fun cdv A outer s H vs Q E hr h => ?_)
  · obtain ⟨n, v, e, rfl, _⟩ := h
    rfl
  · obtain ⟨n, v, e, rfl, ⟨a, rfl, ha⟩, h1, h2, k⟩ := h
    refine ⟨_, ((pss_one (ps_ret (pe_and (pe_callB call_isi (by rfl) T.b_isinstance (by decide +kernel) (pa_cons (pv 1) (pa_cons (pe_bltn (v := .ty "tuple") (by rfl) T.b_tuple (by decide +kernel) rfl) pa_nil))) (pe_and (pe_cmpR op_eq (pe_callB call_len_seq (by rfl) T.b_len (by decide +kernel) (pa_cons (pv 1) pa_nil)) pe_int (nomark _)) (pe_and (C8.pe_c c_is_answer hr (by decide) (by rfl) (pa_cons (pe_ix ix_tup (pv 1) pe_int (fun _ _ => rfl)) pa_nil)) (pe_one (C8.pe_c c_is_below hr (by decide) (by rfl) (pa_cons (pe_ix ix_tup (pv 1) pe_int (fun _ _ => rfl)) (pa_cons (pv 0) pa_nil)))))))))), ?_⟩
    refine ⟨_, rfl, _, _, _, _, true, rfl, .ty _, .base (.tup ha), kit_ty (by decide +kernel), true, rfl, iteT ?_⟩
    refine ⟨_, rfl, _, _, rfl, .inr (.of ha), rfl, true, rfl, iteT ?_⟩
    refine ⟨_, rfl, _, _, _, _, rfl, rfl, .of ha, atI_nat (j := 0) rfl, _, rfl, true, ?_, iteT ?_⟩
    · rw [decide_eq_true (by omega)]
    refine ⟨_, rfl, _, _, _, _, rfl, rfl, .of ha, atI_nat (j := 1) rfl, _, rfl, _, _, rfl, ?_⟩
    rw [decide_eq_true (by omega)]
    exact k
end
end K57
set_option Elab.async false
set_option linter.all false
set_option autoImplicit false
set_option maxRecDepth 100000
set_option maxHeartbeats 2000000
/-! K57R: the things' defs, part 2. -/
namespace K57
open PySem PySem.Spec PyProof.Rows L2
section
variable {P : Program} {w : World} {K : PySem.W.Frag} {mg : Str → Option Value} {base : Heap} {C : Cs} {Tb : List (Addr × Str)}
theorem Fr.get {T : List (Addr × Str)} {X : Addr → Prop} {G H G' H' : Hp} {b : Addr} {o : HO} (f : Fr T X G H G' H') (h : G b = some o) : H' b = some o := f.s _ _ (f.g _ _ h)
theorem Fr.drop {T : List (Addr × Str)} {X : Addr → Prop} {G H G1 H1 G' H' : Hp} {x : Addr} (a : Fr T X G H G1 H1) (c : Fr T (fun b => b = x) G1 H1 G' H') (n : H x = none) : Fr T X G H G' H' :=
  ⟨fun b o nx h no => c.e b o (fun z => by rw [z, n] at h; cases h) (a.e b o nx h no) no, fun b h => c.d b (a.d b h), a.g.trans c.g, c.s, fun b h1 h2 l => by
    cases q : G1 b with
    | none => exact c.n b h1 q (a.d b l)
    | some o => exact a.n b (by rw [q]; exact Option.some_ne_none _) h2 l, fun t => c.t (a.t t)⟩
theorem names_len {m : Nat} (h : m ≤ 4) : (names m).length = m := by
  unfold names
  rw [List.length_map, List.length_take]
  show min m 4 = m
  omega
theorem names_get {m i : Nat} {v : V} (h : (names m)[i]? = some v) : i < 4 ∧ i < m ∧ v = .str (nmAt i) := by
  unfold names at h
  rw [List.getElem?_map] at h
  have hi : i < min m 4 := by
    cases q : (nm.take m)[i]? with
    | none => rw [q] at h; simp at h
    | some z => have := lt_of_get q; rw [List.length_take] at this; exact this
  rw [List.getElem?_take_of_lt (by omega)] at h
  refine ⟨by omega, by omega, ?_⟩
  cases q : nm[i]? with
  | none => rw [q] at h; simp at h
  | some z =>
    rw [q] at h
    unfold nmAt
    rw [getD_some q]
    simpa using h.symm
theorem names_at {m j : Nat} (hm : m ≤ 4) (h : j < m) : (names m)[j]? = some (.str (nmAt j)) := by
  obtain ⟨v, hv⟩ := get_of_lt (l := names m) (i := j) (by rw [names_len hm]; exact h)
  rw [hv, (names_get hv).2.2]

/-- a row -/
def spRow (Tb : List (Addr × Str)) : Sp := fun vs H Q _ => ∃ (G : Hp) (d : Addr) (m n : Nat) (v : V) (r : List (Nat × Nat)), vs = [.ref d, .int (n : Nat), v] ∧ G d = some (.lst (names m)) ∧ m ≤ 4 ∧ VRow G v r ∧ r.length = m ∧ (∀ e ∈ r, e.1 ≤ 9 ∧ e.2 < n) ∧ Same G H ∧
  ∀ G' H', Fr Tb X0 G H G' H' → Q (.bl true) H'
theorem sc31 : FnScope ["deeds", "states", "value", "entry"] ["deeds", "states", "value"] (C8.fnScope (top 31)) := C8.fnScope_by (by decide +kernel)
theorem ok_is_row (T : Txt K mg C) {f : Addr} {fd : FuncData} (F : C8.Def K mg "is_row" (top 31) f fd) (b : Binds K fd ["deeds", "states", "value"] []) (c_is_list : Cl P w K mg base 1 "is_list" (spList Tb) []) (c_is_entry : Cl P w K mg base 5 "is_entry" spEntry []) : Cl P w K mg base 6 "is_row" (spRow Tb) [] := by
  refine C8.cal0 F b .nil sc31 (fun vs H Q E h => ?_) (fun cdv A outer s H vs Q E hr h => ?_)
  · obtain ⟨G, d, m, n, v, r, rfl, _⟩ := h
    rfl
  · obtain ⟨G, d, m, n, v, r, rfl, hd, hm, ⟨a, us, rfl, ha, hA⟩, hl, he, hs, k⟩ := h
    refine ⟨_, ((pss_one (ps_ret (pe_and (C8.pe_c c_is_list hr (by decide) (by rfl) (pa_cons (pv 2) pa_nil)) (pe_and (pe_cmpR op_eq (pe_callB call_len_seq (by rfl) T.b_len (by decide +kernel) (pa_cons (pv 2) pa_nil)) (pe_callB call_len_seq (by rfl) T.b_len (by decide +kernel) (pa_cons (pv 0) pa_nil)) (nomark _)) (pe_one (pe_callB (cr_all rfl) (by rfl) T.b_all (by decide +kernel) (pa_cons (pe_lc (own := [("entry", 3)]) (tt := tYes) rfl sc31.nd (pi_list (pv 2)) (blkOk_by (N := ["deeds", "states", "value", "entry"]) (sc := C8.fnScope (top 31)) (by decide +kernel)) (fun _ _ _ _ _ => (pg_name (i := 3) sc31.nd rfl (Or.inl rfl))) (fun _ _ _ _ _ => pts_nil) (fun _ _ _ _ _ => (C8.pe_c c_is_entry hr (by decide) (by rfl) (pa_cons (pv 1) (pa_cons (pv 3) pa_nil))))) pa_nil)))))))), ?_⟩
    refine ⟨_, rfl, G, a, us, rfl, .inl ha, hs, fun G1 H1 f1 => ⟨true, rfl, iteT ?_⟩⟩
    refine ⟨_, rfl, _, _, rfl, .inl (.of (f1.get ha)), _, rfl, _, _, rfl, .inl (.of (f1.get hd)), rfl, true, congrArg V.bl (decide_eq_true (by rw [hA.1, names_len hm, hl])), iteT ?_⟩
    refine ⟨_, rfl, a, rfl, ⟨_, .of (f1.get ha)⟩, fun D hD => ?_⟩
    refine lc_true (T := Tb) (X := X0) (walk_list (a := a) (xs := us)) G1 f1.s hD (fun h => h.elim) (by rw [hA.1, hl]; exact Nat.le_trans hm (by decide)) (fun H2 e => .of (e _ _ (f1.g _ _ ha))) (fun i x G2 H2 H3 N hi fr y k' => ?_) (fun G2 H2 fr => k G2 H2 (f1.trans fr))
    obtain ⟨rfl, hx⟩ := y
    obtain ⟨e, hxe, hve⟩ := hA.get' hx
    exact ⟨rfl, _, rfl, _, rfl, n, x, e, rfl, VEnt.mono fr.s (VEnt.mono fr.g (VEnt.mono f1.g hve)), (he e (mem_of_get hxe)).1, (he e (mem_of_get hxe)).2, k' G2 _ (.refl fr.s)⟩

theorem names_in : ∀ m : Fin 5, ∀ i : Fin 5, (flatV (.str (nmAt i.val)) && (cutV (names m.val) none (some (i.val : Int))).all flatV && !inV (.str (nmAt i.val)) (cutV (names m.val) none (some (i.val : Int)))) = true ∨ m.val ≤ i.val := by decide +kernel
def spDeeds (Tb : List (Addr × Str)) : Sp := fun vs H Q _ => ∃ (G : Hp) (d : Addr) (m : Nat), vs = [.ref d] ∧ G d = some (.lst (names m)) ∧ 1 ≤ m ∧ m ≤ 4 ∧ Same G H ∧ ∀ G' H', Fr Tb X0 G H G' H' → Q .non H'
theorem sc32 : FnScope ["deeds", "position", "deed"] ["deeds"] (C8.fnScope (top 32)) := C8.fnScope_by (by decide +kernel)
theorem ok_want_names (T : Txt K mg C) {f : Addr} {fd : FuncData} (F : C8.Def K mg "want_names_of_deeds" (top 32) f fd) (b : Binds K fd ["deeds"] []) (c_is_list : Cl P w K mg base 1 "is_list" (spList Tb) []) (c_is_name : Cl P w K mg base 1 "is_name" (spName Tb) []) : Cl P w K mg base 2 "want_names_of_deeds" (spDeeds Tb) [] := by
  refine C8.cal0 F b .nil sc32 (fun vs H Q E h => ?_) (fun cdv A outer s H vs Q E hr h => ?_)
  · obtain ⟨G, d, m, rfl, _⟩ := h
    rfl
  · obtain ⟨G, d, m, rfl, hd, m1, m4, hs, k⟩ := h
    refine ⟨_, ((pss_cons (ps_if (PW.pt (pw_or (pt_not (pt_val (C8.pe_c c_is_list hr (by decide) (by rfl) (pa_cons (pv 0) pa_nil)))) (pw_or1 (pt_cmpR op_eq (pe_callB call_len_seq (by rfl) T.b_len (by decide +kernel) (pa_cons (pv 0) pa_nil)) pe_int (nomark _))))) (pss_one ps_never) pss_nil)
      (pss_one (ps_for PassesOwn.never rfl (pi_enum (by rfl) T.b_enumerate (pa_cons (pv 0) pa_nil)) (pg_tup rfl (pgs_cons (pg_name (i := 1) sc32.nd rfl (Or.inl rfl)) (pgs_cons (pg_name (i := 2) sc32.nd rfl (Or.inl rfl)) pgs_nil))) (pss_one (ps_if (PW.pt (pw_or (pt_not (pt_val (C8.pe_c c_is_name hr (by decide) (by rfl) (pa_cons (pv 2) pa_nil)))) (pw_or1 (pt_cmpR op_in_seq (pv 2) (pe_slice sl_list (pv 0) po_none (po_some (pv 1))) rfl)))) (pss_one ps_never) pss_nil)))))), ?_⟩
    refine ⟨_, rfl, G, d, _, rfl, .inl hd, hs, fun G1 H1 f1 => ⟨true, rfl, iteF ?_⟩⟩
    refine ⟨_, rfl, _, _, rfl, .inl (.of (f1.get hd)), rfl, false, congrArg V.bl (decide_eq_false (by rw [names_len m4]; intro z; have := V.int.inj z; omega)), iteF ?_⟩
    refine ⟨_, rfl, d, _, rfl, .of (f1.get hd), ?_⟩
    refine for_it (walk_enum (a := d) (xs := names m)) (fun i σ H => ∃ u v G', σ = [some (.ref d), u, v] ∧ Fr Tb X0 G1 H1 G' H) ⟨_, _, G1, rfl, .refl f1.s⟩ (fun i σ H hi ⟨u, v, G', _, fr⟩ => .of ((f1.trans fr).get hd)) (fun i x σ H2 H3 hi ⟨u, v, G', e, fr⟩ y => ?_) (fun σ H2 ⟨u, v, G', e, fr⟩ => k _ _ (f1.trans fr))
    subst e
    obtain ⟨t, x1, x2, rfl, nt, rfl, e1, e2⟩ := y
    cases e1
    obtain ⟨i4, im, rfl⟩ := names_get e2
    have f2 : Fr Tb X0 G' H2 (upd G' t (.tup [.int (i : Nat), .str (nmAt i)])) (upd H2 t (.tup [.int (i : Nat), .str (nmAt i)])) := Fr.alloc fr.s nt
    refine ⟨t, _, rfl, .of upd_same, rfl, _, _, rfl, _, _, rfl, rfl, ?_⟩
    refine ⟨_, rfl, _, i, rfl, i4, f2.s, fun G3 H3 f3 => ⟨true, rfl, iteF ?_⟩⟩
    refine ⟨_, rfl, _, rfl, _, rfl, _, rfl, _, _, rfl, .of ((((f1.trans fr).trans f2).trans f3).get hd), fun q nq => ?_⟩
    have key := names_in ⟨m, by omega⟩ ⟨i, by omega⟩
    rcases key with key | key
    · simp only [Bool.and_eq_true, Bool.not_eq_true'] at key
      refine ⟨_, _, rfl, .inl (.of upd_same), key.1.1, key.1.2, false, congrArg V.bl key.2, iteF ?_⟩
      exact ⟨_, _, _, rfl, ((fr.trans f2).trans f3).trans (Fr.alloc f3.s nq)⟩
    · exact absurd key (by simp only; omega)
theorem sc33 : FnScope ["deeds"] ["deeds"] (C8.fnScope (top 33)) := C8.fnScope_by (by decide +kernel)
theorem ok_want_few (T : Txt K mg C) {f : Addr} {fd : FuncData} (F : C8.Def K mg "want_few_deeds" (top 33) f fd) (b : Binds K fd ["deeds"] []) : Cl P w K mg base 1 "want_few_deeds" (spDeeds Tb) [] := by
  refine C8.cal0 F b .nil sc33 (fun vs H Q E h => ?_) (fun cdv A outer s H vs Q E hr h => ?_)
  · obtain ⟨G, d, m, rfl, _⟩ := h
    rfl
  · obtain ⟨G, d, m, rfl, hd, m1, m4, hs, k⟩ := h
    refine ⟨_, ((pss_one (ps_if (pt_cmpR op_gt (pe_callB call_len_seq (by rfl) T.b_len (by decide +kernel) (pa_cons (pv 0) pa_nil)) (C8.pe_gc (by rfl) T.c_MOST_DEEDS) (nomark _)) (pss_one ps_never) pss_nil))), ?_⟩
    refine ⟨_, rfl, _, _, rfl, .inl (.of (hs _ _ hd)), _, _, rfl, rfl, false, congrArg V.bl (decide_eq_false (by rw [names_len m4]; omega)), iteF ?_⟩
    exact k G H (.refl hs)
def spParts (Tb : List (Addr × Str)) : Sp := fun vs H Q _ => ∃ (G : Hp) (d : Addr) (v : V) (m : Md), vs = [.ref d, v] ∧ G d = some (.lst (names m.many)) ∧ VRows G v m.rows ∧ MdOk m ∧ Same G H ∧ ∀ G' H', Fr Tb X0 G H G' H' → Q .non H'
theorem sc34 : FnScope ["deeds", "rows", "position", "row"] ["deeds", "rows"] (C8.fnScope (top 34)) := C8.fnScope_by (by decide +kernel)
theorem ok_want_parts (T : Txt K mg C) {f : Addr} {fd : FuncData} (F : C8.Def K mg "want_parts" (top 34) f fd) (b : Binds K fd ["deeds", "rows"] []) (c_is_list : Cl P w K mg base 1 "is_list" (spList Tb) []) (c_want_names_of_deeds : Cl P w K mg base 2 "want_names_of_deeds" (spDeeds Tb) [])
    (c_is_row : Cl P w K mg base 6 "is_row" (spRow Tb) []) (c_want_few_deeds : Cl P w K mg base 1 "want_few_deeds" (spDeeds Tb) []) : Cl P w K mg base 7 "want_parts" (spParts Tb) [] := by
  refine C8.cal0 F b .nil sc34 (fun vs H Q E h => ?_) (fun cdv A outer s H vs Q E hr h => ?_)
  · obtain ⟨G, d, v, m, rfl, _⟩ := h
    rfl
  · obtain ⟨G, d, v, m, rfl, hd, ⟨a, us, rfl, ha, hA⟩, ok, hs, k⟩ := h
    refine ⟨_, ((pss_cons (ps_expr (C8.pe_c c_want_names_of_deeds hr (by decide) (by rfl) (pa_cons (pv 0) pa_nil)))
      (pss_cons (ps_if (PW.pt (pw_or (pt_not (pt_val (C8.pe_c c_is_list hr (by decide) (by rfl) (pa_cons (pv 1) pa_nil)))) (pw_or1 (pt_cmpR op_eq (pe_callB call_len_seq (by rfl) T.b_len (by decide +kernel) (pa_cons (pv 1) pa_nil)) pe_int (nomark _))))) (pss_one ps_never) pss_nil)
      (pss_cons (ps_for PassesOwn.never rfl (pi_enum (by rfl) T.b_enumerate (pa_cons (pv 1) pa_nil)) (pg_tup rfl (pgs_cons (pg_name (i := 2) sc34.nd rfl (Or.inl rfl)) (pgs_cons (pg_name (i := 3) sc34.nd rfl (Or.inl rfl)) pgs_nil))) (pss_one (ps_if (pt_not (pt_val (C8.pe_c c_is_row hr (by decide) (by rfl) (pa_cons (pv 0) (pa_cons (pe_callB call_len_seq (by rfl) T.b_len (by decide +kernel) (pa_cons (pv 1) pa_nil)) (pa_cons (pv 3) pa_nil)))))) (pss_one ps_never) pss_nil)))
      (pss_cons (ps_expr (C8.pe_c c_want_few_deeds hr (by decide) (by rfl) (pa_cons (pv 0) pa_nil)))
      (pss_one (ps_if (pt_cmpR op_gt (pe_callB call_len_seq (by rfl) T.b_len (by decide +kernel) (pa_cons (pv 1) pa_nil)) (C8.pe_gc (by rfl) T.c_MOST_STATES) (nomark _)) (pss_one ps_never) pss_nil))))))), ?_⟩
    have m4 : m.many ≤ 4 := by have := ok.m2; omega
    refine ⟨_, rfl, G, d, m.many, rfl, hd, ok.m1, m4, hs, fun G1 H1 f1 => ?_⟩
    refine ⟨_, rfl, G1, a, us, rfl, .inl (f1.g _ _ ha), f1.s, fun G2 H2 f2 => ⟨true, rfl, iteF ?_⟩⟩
    have f12 := f1.trans f2
    refine ⟨_, rfl, _, _, rfl, .inl (.of (f12.get ha)), rfl, false, congrArg V.bl (decide_eq_false (by rw [hA.1]; intro z; have := V.int.inj z; have := ok.r1; omega)), iteF ?_⟩
    refine ⟨_, rfl, a, _, rfl, .of (f12.get ha), ?_⟩
    refine for_it (walk_enum (a := a) (xs := us)) (fun i σ H => ∃ u v G', σ = [some (.ref d), some (.ref a), u, v] ∧ Fr Tb X0 G2 H2 G' H) ⟨_, _, G2, rfl, .refl f2.s⟩ (fun i σ H hi ⟨u, v, G', _, fr⟩ => .of ((f12.trans fr).get ha)) (fun i x σ H3 H4 hi ⟨u, v, G', e, fr⟩ y => ?_) (fun σ H3 ⟨u, v, G', e, fr⟩ => ?_)
    · subst e
      obtain ⟨t, x1, x2, rfl, nt, rfl, e1, e2⟩ := y
      cases e1
      obtain ⟨r, hr', hvr⟩ := hA.get' e2
      have f3 : Fr Tb X0 G' H3 (upd G' t (.tup [.int (i : Nat), x2])) (upd H3 t (.tup [.int (i : Nat), x2])) := Fr.alloc fr.s nt
      have fA := (f12.trans fr).trans f3
      refine ⟨t, _, rfl, .of upd_same, rfl, _, _, rfl, _, _, rfl, rfl, ?_⟩
      refine ⟨_, rfl, _, rfl, _, _, rfl, .inl (.of (fA.get ha)), _, rfl, _, d, m.many, m.rows.length, x2, r, by rw [hA.1]; rfl, fA.g _ _ hd, m4, VRow.mono fA.g hvr, (ok.row r (mem_of_get hr')).1, (ok.row r (mem_of_get hr')).2, fA.s, fun G4 H4 f4 => ⟨true, rfl, iteF ?_⟩⟩
      exact ⟨_, _, _, rfl, (fr.trans f3).trans f4⟩
    · subst e
      have fA := f12.trans fr
      refine ⟨_, rfl, G', d, m.many, rfl, fA.g _ _ hd, ok.m1, m4, fA.s, fun G4 H4 f4 => ?_⟩
      have fB := fA.trans f4
      refine ⟨_, rfl, _, _, rfl, .inl (.of (fB.get ha)), _, _, rfl, rfl, false, congrArg V.bl (decide_eq_false (by rw [hA.1]; have := ok.r8; omega)), iteF ?_⟩
      exact k _ _ fB
end
end K57
set_option Elab.async false
set_option linter.all false
set_option autoImplicit false
set_option maxRecDepth 100000
set_option maxHeartbeats 2000000
/-! K57S: the things' classes. -/
namespace K57
open PySem PySem.Spec PyProof.Rows L2
section
variable {P : Program} {w : World} {K : PySem.W.Frag} {mg : Str → Option Value} {base : Heap} {C : Cs} {Tb : List (Addr × Str)}
theorem mEnt (G G' : Hp) (v : V) (x : Nat × Nat) (e : Same G G') (h : VEnt G v x) : VEnt G' v x := VEnt.mono e h
theorem mRowT (G G' : Hp) (v : V) (x : List (Nat × Nat)) (e : Same G G') (h : VRowT G v x) : VRowT G' v x := VRowT.mono e h
theorem Fr.ne {T : List (Addr × Str)} {X : Addr → Prop} {G H G' H' : Hp} {x y : Addr} {o : HO} (f : Fr T X G H G' H') (hx : H x = some o) (hy : H' y = none) (no : ∀ ps, o ≠ .tbl ps := by intro _ z; cases z) : y ≠ x := fun z => by
  obtain ⟨u, hu, _⟩ := f.d x ⟨o, hx, no⟩
  rw [← z, hy] at hu
  cases hu
theorem len1 : 1 ≤ sizeLine := by decide
theorem len2 : 2 ≤ sizeLine := by decide
theorem len3 : 3 ≤ sizeLine := by decide
theorem len4 : 4 ≤ sizeLine := by decide
def fParts (d r : Addr) : List (Str × V) := [("own_deeds", .ref d), ("own_rows", .ref r)]
/-- what a table of entries is made of -/
structure MdSz (m : Md) : Prop where
  r : m.rows.length ≤ sizeLine
  e : ∀ r ∈ m.rows, r.length ≤ sizeLine
theorem MdOk.sz {m : Md} (ok : MdOk m) : MdSz m := ⟨by have := ok.r8; exact Nat.le_trans this (by decide), fun r h => by rw [(ok.row r h).1]; exact Nat.le_trans ok.m2 (by decide)⟩
def spPartsI (C : Cs) (Tb : List (Addr × Str)) : Sp := fun vs H Q _ => ∃ (G : Hp) (x dx d : Addr) (v : V) (m : Md), vs = [.ref x, .ref d, v] ∧ H x = some (.ins C.parts dx []) ∧ G x = none ∧ G d = some (.lst (names m.many)) ∧ VRows G v m.rows ∧ MdOk m ∧ Same G H ∧
  ∀ G' H' td tr ws, Fr Tb (fun b => b = x) G H G' H' → H' x = some (.ins C.parts dx (fParts td tr)) → G' td = some (NT td (names m.many)) → G' tr = some (.tup ws) → All2 (VRowT G') ws m.rows → Q .non H'
theorem sc35_init : FnScope ["self", "deeds", "rows", "row", "answer", "later"] ["self", "deeds", "rows"] (C8.fnScope (mt 35 0)) := C8.fnScope_by (by decide +kernel)
theorem ok_Parts (T : Txt K mg C) {f : Addr} {fd : FuncData} (M : Mk K C.parts f) (hm : mg "Parts" = some (.ref C.parts)) (F : C8.Fun K "__init__" "Parts.__init__" (mt 35 0) f fd) (b : Binds K fd ["self", "deeds", "rows"] []) :
    C8.Mak P w K mg base 1 "Parts" C.parts (spPartsI C Tb) [] := by
  refine C8.mak0 M hm F b .nil sc35_init (fun vs H Q E h => ?_) (fun cdv A outer s H vs Q E hr h => ?_)
  · obtain ⟨G, x, dx, d, v, m, rfl, _⟩ := h
    rfl
  · obtain ⟨G, x, dx, d, v, m, rfl, hx, gx, hd, ⟨a, us, rfl, ha, hA⟩, ok, hs, k⟩ := h
    have sz := ok.sz
    refine ⟨_, ((pss_cons (ps_fld (pv 0) (pe_callTy call_tupleN (by rfl) T.b_tuple (by decide +kernel) (pa_cons (pv 1) pa_nil)) rfl)
      (pss_one (ps_fld (pv 0) (pe_callTy call_tuple_of (by rfl) T.b_tuple (by decide +kernel) (pa_cons (pe_lc (own := [("row", 3)]) (tt := tYes) rfl sc35_init.nd (pi_list (pv 2)) (blkOk_by (N := ["self", "deeds", "rows", "row", "answer", "later"]) (sc := C8.fnScope (mt 35 0)) (by decide +kernel)) (fun _ _ _ _ _ => (pg_name (i := 3) sc35_init.nd rfl (Or.inl rfl))) (fun _ _ _ _ _ => pts_nil) (fun _ _ _ _ _ => (pe_callTy (call_tuple_ofK K) (by rfl) T.b_tuple (by decide +kernel) (pa_cons (pe_lc (own := [("answer", 4), ("later", 5)]) (tt := tYes) rfl sc35_init.nd (pi_listK K (pv 3)) (blkOk_by (N := ["self", "deeds", "rows", "row", "answer", "later"]) (sc := (⟨ScopeKind.function, [(".0", NameKind.local), ("row", NameKind.local), ("tuple", NameKind.globalImplicit)], false, false, []⟩ : Scope)) (by decide +kernel)) (fun _ _ _ _ _ => (pg_tupK K (n := 2) rfl (pgs_cons (pg_name (i := 4) sc35_init.nd rfl (Or.inl rfl)) (pgs_cons (pg_name (i := 5) sc35_init.nd rfl (Or.inl rfl)) pgs_nil)))) (fun _ _ _ _ _ => pts_nil) (fun _ _ _ _ _ => (pe_tup (pa_cons (pv 4) (pa_cons (pv 5) pa_nil))))) pa_nil)))) pa_nil)) rfl)))), ?_⟩
    refine ⟨_, rfl, d, _, rfl, .of (hs _ _ hd), fun td ntd => ?_⟩
    have f1 : Fr Tb (fun b => b = x) G H (upd G td (NT td (names m.many))) (upd H td (NT td (names m.many))) := Fr.alloc hs ntd
    have hx1 : upd H td (NT td (names m.many)) x = some (.ins C.parts dx []) := by rw [upd_ne (ne_of_none hx ntd)]; exact hx
    have gx1 := f1.keep hx gx
    refine ⟨_, rfl, x, _, dx, _, rfl, hx1, T.k_Parts, T.f_Parts1, by decide, ?_⟩
    have f2 := f1.trans (Fr.mutX (o := .ins C.parts dx [("own_deeds", .ref td)]) f1.s rfl gx1 hx1 (fun q z => by cases z) (fun q z => by cases z))
    have hx2 : upd (upd H td (NT td (names m.many))) x (.ins C.parts dx [("own_deeds", .ref td)]) x = some (.ins C.parts dx [("own_deeds", .ref td)]) := upd_same
    refine ⟨_, rfl, a, rfl, ⟨_, .of (f2.get ha)⟩, fun D hD => ?_⟩
    have xD : x ≠ D := ne_of_none hx2 hD
    refine lc_frY (T := Tb) (X := X0) (walk_list (a := a) (xs := us)) _ (IAll VRowT m.rows) f2.s hD (fun h => h.elim) (by rw [hA.1]; exact sz.r) (fun H2 e => .of (e _ _ (f2.g _ _ ha))) IAll.nil (IAll.mono mRowT) IAll.len (fun i y G2 H2 H3 acc N hi hI fr hDD gD y' k' => ?_) (fun G2 H2 acc hI fr sg hDD => ?_)
    · obtain ⟨rfl, hy⟩ := y'
      obtain ⟨r, hr', vr⟩ := hA.get' hy
      obtain ⟨ra, rs, rfl, hra, hrA⟩ := VRow.mono fr.g (VRow.mono f2.g vr)
      refine ⟨rfl, ?_⟩
      refine ⟨_, rfl, ra, rfl, ⟨_, .of (fr.s _ _ hra)⟩, fun E' hE => ?_⟩
      refine lc_frY (T := Tb) (X := X0) (walk_list (a := ra) (xs := rs)) G2 (IAll VEnt r) fr.s hE (fun h => h.elim) (by rw [hrA.1]; exact sz.e _ (mem_of_get hr')) (fun H2 e => .of (e _ _ hra)) IAll.nil (IAll.mono mEnt) IAll.len (fun j z G3 H4 H5 acc3 N3 hj hI3 fr3 hEE gE z' k3 => ?_) (fun G3 H4 acc3 hI3 fr3 sg3 hEE => ?_)
      · obtain ⟨rfl, hz⟩ := z'
        obtain ⟨en, hen, q, rfl, hq⟩ := hrA.get' hz
        have hq3 := fr3.get hq
        refine ⟨q, _, rfl, .of hq3, rfl, _, _, rfl, _, _, rfl, rfl, rfl, ?_⟩
        refine ⟨_, rfl, _, rfl, len2, fun u nu => ?_⟩
        exact k3 _ _ _ (Fr.alloc fr3.s nu) (hI3.step mEnt (same_upd fr3.s nu) hen ⟨u, rfl, upd_same⟩)
      · have f4 := fr3
        refine ⟨E', acc3, rfl, .inl ⟨.of hEE, fun u nu => ?_⟩⟩
        have f5 := fr3.trans (Fr.alloc (o := .tup acc3) fr3.s nu)
        exact k' _ _ _ f5 (hI.step mRowT f5.g hr' ⟨u, acc3, rfl, upd_same, (hI3.all hrA.1.symm).imp fun v e h => VEnt.mono (same_upd fr3.s nu) (VEnt.mono sg3 h)⟩)
    · refine ⟨D, acc, rfl, .inl ⟨.of hDD, fun u nu => ?_⟩⟩
      have f5 := fr.trans (Fr.alloc (o := .tup acc) fr.s nu)
      have hx5 := f5.at (fun h => h) hx2
      have f6 := f2.trans f5.of0
      have gx6 := f6.keep hx gx
      refine ⟨_, rfl, x, _, dx, _, rfl, hx5, T.k_Parts, T.f_Parts2, (by show (1:Nat) < 1000; decide), ?_⟩
      have f7 := f6.trans (Fr.mutX (o := .ins C.parts dx (fParts td u)) f6.s rfl gx6 hx5 (fun q z => by cases z) (fun q z => by cases z))
      refine k _ _ td u acc f7 upd_same (f5.g _ _ upd_same) upd_same ((hI.all hA.1.symm).imp fun v e h => VRowT.mono (same_upd fr.s nu) (VRowT.mono sg h))
def spThingI (C : Cs) (Tb : List (Addr × Str)) : Sp := fun vs H Q _ => ∃ (G : Hp) (x dx d : Addr) (v : V) (m : Md), vs = [.ref x, .ref d, v] ∧ H x = some (.ins C.thing dx []) ∧ G x = none ∧ G d = some (.lst (names m.many)) ∧ VRows G v m.rows ∧ MdOk m ∧ Same G H ∧
  ∀ G' H' td tr ws, Fr Tb (fun b => b = x) G H G' H' → H' x = some (.ins C.thing dx (fParts td tr)) → G' td = some (NT td (names m.many)) → G' tr = some (.tup ws) → All2 (VRowT G') ws m.rows → Q .non H'
theorem sc36_init : FnScope ["self", "deeds", "rows", "parts"] ["self", "deeds", "rows"] (C8.fnScope (mt 36 0)) := C8.fnScope_by (by decide +kernel)
theorem ok_ThingI (T : Txt K mg C) {f : Addr} {fd : FuncData} (M : Mk K C.thing f) (hm : mg "Thing" = some (.ref C.thing)) (F : C8.Fun K "__init__" "Thing.__init__" (mt 36 0) f fd) (b : Binds K fd ["self", "deeds", "rows"] [])
    (c_want_parts : Cl P w K mg base 7 "want_parts" (spParts Tb) []) (c_Parts : C8.Mak P w K mg base 1 "Parts" C.parts (spPartsI C Tb) []) : C8.Mak P w K mg base 8 "Thing" C.thing (spThingI C Tb) [] := by
  refine C8.mak0 M hm F b .nil sc36_init (fun vs H Q E h => ?_) (fun cdv A outer s H vs Q E hr h => ?_)
  · obtain ⟨G, x, dx, d, v, m, rfl, _⟩ := h
    rfl
  · obtain ⟨G, x, dx, d, v, m, rfl, hx, gx, hd, hV, ok, hs, k⟩ := h
    refine ⟨_, ((pss_cons (ps_if (pt_not (pt_val (pe_callB call_isi (by rfl) T.b_isinstance (by decide +kernel) (pa_cons (pv 1) (pa_cons (C8.pe_gc (by rfl) T.c_Parts) pa_nil))))) (pss_one (ps_expr (C8.pe_c c_want_parts hr (by decide) (by rfl) (pa_cons (pv 1) (pa_cons (pv 2) pa_nil))))) pss_nil)
      (pss_cons (ps_set (i := 3) sc36_init.nd rfl (Or.inl rfl) (pe_ifExp (pt_val (pe_callB call_isi (by rfl) T.b_isinstance (by decide +kernel) (pa_cons (pv 1) (pa_cons (C8.pe_gc (by rfl) T.c_Parts) pa_nil)))) (pv 1) (C8.pe_mk c_Parts hr (by decide) (by rfl) (pa_cons (pv 1) (pa_cons (pv 2) pa_nil)))))
      (pss_cons (ps_fld (pv 0) (pe_fld (pv 3) rfl) rfl)
      (pss_one (ps_fld (pv 0) (pe_fld (pv 3) rfl) rfl)))))), ?_⟩
    refine ⟨_, rfl, _, _, _, _, false, rfl, .own _, .base (.lst (hs _ _ hd)), T.n_Parts, false, rfl, iteT ?_⟩
    refine ⟨_, rfl, _, rfl, G, d, v, m, rfl, hd, hV, ok, hs, fun G1 H1 f1 => ?_⟩
    refine ⟨_, rfl, _, _, _, _, false, rfl, .own _, .base (.lst (f1.get hd)), T.n_Parts, false, rfl, iteF ?_⟩
    refine ⟨_, rfl, _, rfl, fun y dy ny ndy ne => ?_⟩
    have f2 : Fr Tb X0 G1 H1 G1 (upd (upd H1 dy (.own y)) y (.ins C.parts dy [])) := (Fr.alloc' f1.s ndy).trans (Fr.alloc' (f1.s.trans (upd_keep ndy)) (by rw [upd_ne (Ne.symm ne)]; exact ny))
    have f12 := f1.trans f2
    refine ⟨G1, y, dy, d, v, m, rfl, upd_same, none_of_same f1.s ny, f1.g _ _ hd, VRows.mono f1.g hV, ok, f2.s, fun G2 H2 td tr ws f3 hy htd htr hA => ⟨rfl, ?_⟩⟩
    have f4 := f1.trans (Fr.drop f2 f3 ny)
    have hx4 := f4.at (fun h => h) hx
    refine ⟨_, rfl, y, _, dy, _, _, rfl, hy, T.k_Parts, T.f_Parts1, rfl, ?_⟩
    refine ⟨_, rfl, x, _, dx, _, rfl, hx4, T.k_Thing, T.f_Thing1, by decide, ?_⟩
    have nxy : y ≠ x := fun z => by subst z; have := f1.at (fun h => h) hx; rw [ny] at this; cases this
    have gx4 := f4.keep hx gx
    have f5 := (f4.of0 (Y := fun b => b = x)).trans (Fr.mutX (o := .ins C.thing dx [("own_deeds", .ref td)]) f4.s rfl gx4 hx4 (fun q z => by cases z) (fun q z => by cases z))
    refine ⟨_, rfl, y, _, dy, _, _, rfl, (upd_ne nxy).trans hy, T.k_Parts, T.f_Parts2, rfl, ?_⟩
    refine ⟨_, rfl, x, _, dx, _, rfl, upd_same, T.k_Thing, T.f_Thing2, (by show (1:Nat) < 1000; decide), ?_⟩
    have f6 := f5.trans (Fr.mutX (o := .ins C.thing dx (fParts td tr)) f5.s rfl gx4 upd_same (fun q z => by cases z) (fun q z => by cases z))
    exact k _ _ td tr ws f6 upd_same htd htr hA
end
end K57
set_option Elab.async false
set_option linter.all false
set_option autoImplicit false
set_option maxRecDepth 100000
set_option maxHeartbeats 2000000
/-! K57T: states and deeds of things; locks. -/
namespace K57
open PySem PySem.Spec PyProof.Rows L2
section
variable {P : Program} {w : World} {K : PySem.W.Frag} {mg : Str → Option Value} {base : Heap} {C : Cs} {Tb : List (Addr × Str)}
def spIsState (C : Cs) : Sp := fun vs H Q _ => ∃ (u : V) (m : Md) (n : Nat), vs = [u, nV n] ∧ VThing C H u m ∧ n < m.rows.length ∧ Q (.bl true) H
theorem sc38 : FnScope ["thing", "value"] ["thing", "value"] (C8.fnScope (top 38)) := C8.fnScope_by (by decide +kernel)
theorem ok_is_state (T : Txt K mg C) {f : Addr} {fd : FuncData} (F : C8.Def K mg "is_state" (top 38) f fd) (b : Binds K fd ["thing", "value"] []) (c_is_below : Cl P w K mg base 3 "is_below" spBelow []) : Cl P w K mg base 4 "is_state" (spIsState C) [] := by
  refine C8.cal0 F b .nil sc38 (fun vs H Q E h => ?_) (fun cdv A outer s H vs Q E hr h => ?_)
  · obtain ⟨u, m, n, rfl, _⟩ := h
    rfl
  · obtain ⟨u, m, n, rfl, ⟨a, dx, d, r, vs, rfl, ha, hd, hr', hA⟩, hn, k⟩ := h
    refine ⟨_, ((pss_one (ps_ret (C8.pe_c c_is_below hr (by decide) (by rfl) (pa_cons (pv 1) (pa_cons (pe_callB call_len_seq (by rfl) T.b_len (by decide +kernel) (pa_cons (pe_fld (pv 0) rfl) pa_nil)) pa_nil)))))), ?_⟩
    refine ⟨_, rfl, _, rfl, _, _, dx, _, _, rfl, ha, T.k_Thing, T.f_Thing2, rfl, _, _, rfl, .inr (.of hr'), _, _, rfl, ?_⟩
    have e : decide ((0 : Int) ≤ (n : Nat) ∧ ((n : Nat) : Int) < (vs.length : Nat)) = true := decide_eq_true (by rw [hA.1]; omega)
    rw [e]
    exact k
def spStates (C : Cs) : Sp := fun vs H Q _ => ∃ (u : V) (m : Md), vs = [u] ∧ VThing C H u m ∧ Q (nV m.rows.length) H
theorem sc36_states : FnScope ["self"] ["self"] (C8.fnScope (mt 36 2)) := C8.fnScope_by (by decide +kernel)
theorem ok_states (T : Txt K mg C) {f : Addr} {fd : FuncData} (F : C8.Fun K "states" "Thing.states" (mt 36 2) f fd) : FnOk P w K mg base C8.CX0 1 f fd ["self"] (spStates C) := by
  refine C8.fn0 F sc36_states (fun vs H Q E h => ?_) (fun cdv A outer s H vs Q E hr h => ?_)
  · obtain ⟨u, m, rfl, _⟩ := h
    rfl
  · obtain ⟨u, m, rfl, ⟨a, dx, d, r, vs, rfl, ha, hd, hr', hA⟩, k⟩ := h
    refine ⟨_, ((pss_one (ps_ret (pe_callB call_len_seq (by rfl) T.b_len (by decide +kernel) (pa_cons (pe_fld (pv 0) rfl) pa_nil))))), ?_⟩
    refine ⟨_, rfl, _, _, dx, _, _, rfl, ha, T.k_Thing, T.f_Thing2, rfl, _, _, rfl, .inr (.of hr'), ?_⟩
    rw [hA.1]
    exact k
theorem names_mem : ∀ m : Fin 5, ∀ j : Fin 5, (flatV (.str (nmAt j.val)) && (names m.val).all flatV && inV (.str (nmAt j.val)) (names m.val)) = true ∨ m.val ≤ j.val := by decide +kernel
theorem nm_idx : ∀ m : Fin 5, ∀ j : Fin 5, j.val < m.val → ((nm.take m.val)[j.val]? = some (nmAt j.val) ∧ ∀ i : Fin 5, i.val < j.val → (nm.take m.val)[i.val]? ≠ some (nmAt j.val)) := by decide +kernel
def spIsDeed (C : Cs) : Sp := fun vs H Q _ => ∃ (u : V) (m : Md) (j : Nat), vs = [u, .str (nmAt j)] ∧ VThing C H u m ∧ m.many ≤ 4 ∧ j < m.many ∧ Q (.bl true) H
theorem sc39 : FnScope ["thing", "value"] ["thing", "value"] (C8.fnScope (top 39)) := C8.fnScope_by (by decide +kernel)
theorem ok_is_deed (T : Txt K mg C) {f : Addr} {fd : FuncData} (F : C8.Def K mg "is_deed" (top 39) f fd) (b : Binds K fd ["thing", "value"] []) : Cl P w K mg base 1 "is_deed" (spIsDeed C) [] := by
  refine C8.cal0 F b .nil sc39 (fun vs H Q E h => ?_) (fun cdv A outer s H vs Q E hr h => ?_)
  · obtain ⟨u, m, n, rfl, _⟩ := h
    rfl
  · obtain ⟨u, m, j, rfl, ⟨a, dx, d, r, vs, rfl, ha, hd, hr', hA⟩, m4, hj, k⟩ := h
    refine ⟨_, ((pss_one (ps_ret (pe_and (pe_callB call_isi (by rfl) T.b_isinstance (by decide +kernel) (pa_cons (pv 1) (pa_cons (pe_bltn (v := .ty "str") (by rfl) T.b_str (by decide +kernel) rfl) pa_nil))) (pe_one (pe_cmpR op_inN (pv 1) (pe_fld (pv 0) rfl) rfl)))))), ?_⟩
    refine ⟨_, rfl, _, _, _, _, true, rfl, .ty _, .base (.str _), kit_ty (by decide +kernel), true, rfl, iteT ?_⟩
    rcases names_mem ⟨m.many, by omega⟩ ⟨j, by omega⟩ with h | h
    · simp only [Bool.and_eq_true] at h
      refine ⟨_, rfl, _, rfl, _, _, dx, _, _, rfl, ha, T.k_Thing, T.f_Thing1, rfl, d, _, rfl, hd, h.1.1, h.1.2, ?_⟩
      rw [h.2]
      exact k
    · exact absurd h (by simp only; omega)
def spPlaceOf (C : Cs) : Sp := fun vs H Q _ => ∃ (u : V) (m : Md) (j : Nat), vs = [u, .str (nmAt j)] ∧ VThing C H u m ∧ m.many ≤ 4 ∧ j < m.many ∧ Q (nV j) H
theorem sc42 : FnScope ["thing", "deed"] ["thing", "deed"] (C8.fnScope (top 42)) := C8.fnScope_by (by decide +kernel)
theorem ok_place_of (T : Txt K mg C) {f : Addr} {fd : FuncData} (F : C8.Def K mg "place_of" (top 42) f fd) (b : Binds K fd ["thing", "deed"] []) : Cl P w K mg base 1 "place_of" (spPlaceOf C) [] := by
  refine C8.cal0 F b .nil sc42 (fun vs H Q E h => ?_) (fun cdv A outer s H vs Q E hr h => ?_)
  · obtain ⟨u, m, n, rfl, _⟩ := h
    rfl
  · obtain ⟨u, m, j, rfl, ⟨a, dx, d, r, vs, rfl, ha, hd, hr', hA⟩, m4, hj, k⟩ := h
    refine ⟨_, ((pss_one (ps_ret (pe_bmN PySem.F.slot_tuple_index PySem.F.type_tuple_index mt_tup_indexN (pe_fld (pv 0) rfl) (pa_cons (pv 1) pa_nil))))), ?_⟩
    obtain ⟨h1, h2⟩ := nm_idx ⟨m.many, by omega⟩ ⟨j, by omega⟩ hj
    refine ⟨_, rfl, _, _, dx, _, _, rfl, ha, T.k_Thing, T.f_Thing1, rfl, ⟨d, _, rfl, hd⟩, _, rfl, d, nm.take m.many, nmAt j, j, rfl, rfl, hd, h1, fun i hi => h2 ⟨i, by omega⟩ hi, k⟩
def spStepAt (C : Cs) : Sp := fun vs H Q _ => ∃ (u : V) (m : Md) (n j : Nat), vs = [u, nV n, nV j] ∧ VThing C H u m ∧ MdOk m ∧ n < m.rows.length ∧ j < m.many ∧ ∀ v, VEnt H v (m.ent n j) → Q v H
theorem sc43 : FnScope ["thing", "state", "place"] ["thing", "state", "place"] (C8.fnScope (top 43)) := C8.fnScope_by (by decide +kernel)
theorem ok_step_at (T : Txt K mg C) {f : Addr} {fd : FuncData} (F : C8.Def K mg "step_at" (top 43) f fd) (b : Binds K fd ["thing", "state", "place"] []) : Cl P w K mg base 1 "step_at" (spStepAt C) [] := by
  refine C8.cal0 F b .nil sc43 (fun vs H Q E h => ?_) (fun cdv A outer s H vs Q E hr h => ?_)
  · obtain ⟨u, m, n, j, rfl, _⟩ := h
    rfl
  · obtain ⟨u, m, n, j, rfl, ⟨a, dx, d, r, vs, rfl, ha, hd, hr', hA⟩, ok, hn, hj, k⟩ := h
    obtain ⟨⟨row, e1, e2⟩, _⟩ := ent_ok ok hn hj
    obtain ⟨v, hv, ra, rs, rfl, hra, hrA⟩ := hA.get e1
    obtain ⟨v2, hv2, hE⟩ := hrA.get e2
    refine ⟨_, ((pss_one (ps_ret (pe_ix ix_tup (pe_ix ix_tup (pe_fld (pv 0) rfl) (pv 1) (fun _ _ => rfl)) (pv 2) (fun _ _ => rfl))))), ?_⟩
    exact ⟨_, rfl, _, _, dx, _, _, rfl, ha, T.k_Thing, T.f_Thing2, rfl, _, rfl, _, _, _, _, rfl, rfl, .of hr', atI_nat hv, _, rfl, _, _, _, _, rfl, rfl, .of hra, atI_nat hv2, k v2 hE⟩

/-! ### locks -/
end
section
variable {T : List (Addr × Str)} {G H G0 G' H' : Hp} {d : Addr} {u : HO} {od : Obj}
theorem same_one {o : HO} (h : H d = some o) : Same (upd (fun _ => none) d o) H := fun c q e => by
  by_cases z : c = d
  · subst z
    rw [upd_same] at e
    rw [← Option.some.inj e]
    exact h
  · rw [upd_ne z] at e
    cases e
theorem lc_tr {T : List (Addr × Str)} {X : Addr → Prop} {J : It} {n : Nat} {Gd : Hp → Prop} {Y : Nat → Hp → V → Hp → Prop} (w : Walk J n Gd Y) {g : TG} {te : TE} {vs : List Nat} {σ : L2.St} {H1 : Hp} {D : Addr} {Qd : Hp → Prop} (G0 : Hp)
    (h0 : Same G0 H1) (nD : H1 D = none) (nX : ¬ X D) (hl : n ≤ sizeLine) (gd : ∀ H, Same G0 H → Gd H)
    (hs : ∀ i x G H H' (N : V → Hp → Prop), i < n → Fr T X G0 H1 G H → Y i H x H' → (∀ G' H'', Fr T X G H G' H'' → N (.bl true) H'') → g x (wipe σ vs) H' fun σ2 H2 => wipe σ2 vs = wipe σ vs ∧ te σ2 H2 N)
    (hd : ∀ G H, Fr T X G0 H1 G H → H D = some (.lst ((List.replicate n true).map V.bl)) → Qd H) :
    ∃ W : Nat → Nat → Hp → Prop, (∃ m, W 0 m (upd H1 D (.lst []))) ∧ ∀ i m H, W i m H →
      (J.stop i H ∧ Qd H) ∨ (J.go i H ∧ ∃ Nx : Hp → Prop, (∀ H', Nx H' → ∃ m', m' < m ∧ W (i + 1) m' H') ∧ ∀ x H', J.yld i H x H' → g x (wipe σ vs) H' fun σ2 H2 => wipe σ2 vs = wipe σ vs ∧ tYes σ2 H2 fun b H3 =>
        if b = true then te σ2 H3 fun y H4 => ∃ acc, H4 D = some (.lst acc) ∧ acc.length < sizeLine ∧ Nx (upd H4 D (.lst (acc ++ [y]))) else Nx H3) := by
  refine lc_frY (T := T) (X := X) w G0 ITrue h0 nD nX hl gd rfl (fun _ _ _ _ _ h => h) ITrue.len (fun i x G H H' acc N hi hI fr hD gD y k => ?_) (fun G H acc hI fr _ hD => ?_)
  · have kk : ∀ G' H'', Fr T X G H G' H'' → N (.bl true) H'' := fun G' H'' f => k _ G' H'' f hI.step
    exact hs i x G H H' N hi fr y kk
  · exact hd _ H fr (by rw [map_true, hD, show acc = List.replicate n (.bl true) from hI])
theorem tabs_store {o : HO} (t : LamX.Tabs T H) (hb : H d = some u) (nt : ∀ ps, u ≠ .tbl ps) (nu : ∀ q, u ≠ LamX.CodeO d q) : LamX.Tabs T (upd H d o) := fun p hp => by
  obtain ⟨ps', h1', h2', h3'⟩ := t p hp
  have nb : p.1 ≠ d := fun z => by rw [z, hb] at h1'; exact nt _ (Option.some.inj h1')
  refine ⟨ps', by rw [upd_ne nb]; exact h1', h2', fun pos cv hc => ?_⟩
  obtain ⟨c, e1, e2⟩ := h3' pos cv hc
  refine ⟨c, e1, ?_⟩
  rw [upd_ne (fun z => by subst z; rw [hb] at e2; exact nu _ (Option.some.inj e2))]
  exact e2
theorem same_lock {o : HO} (h : Same G H) : Same (upd G d o) (upd H d o) := same_upd2 h
theorem Fr.unlock (f : Fr T X0 (upd G d (.frz od u)) (upd H d (.frz od u)) G' H') (h : Same G H) (hd : H d = some u) (gd : G d = some u) (nt : ∀ ps, u ≠ .tbl ps) (nu : ∀ q, u ≠ LamX.CodeO d q) :
    Fr T X0 G H (upd G' d u) (upd H' d u) ∧ H' d = some (.frz od u) := by
  have hl : H' d = some (.frz od u) := f.at (fun h => h) upd_same
  have key : ∀ b o, H b = some o → (∀ ps, o ≠ .tbl ps) → upd H' d u b = some o := fun b o hb no => by
    by_cases z : b = d
    · subst z
      rw [upd_same, ← hd, hb]
    · rw [upd_ne z]
      exact f.e b o (fun h => h) (by rw [upd_ne z]; exact hb) no
  refine ⟨⟨fun b o _ hb no => key b o hb no, fun b ⟨o, hb, no⟩ => ⟨o, key b o hb no, no⟩, fun c o e => ?_, same_upd2 f.s, fun c h1 h2 l => ?_, fun t => ?_⟩, hl⟩
  · by_cases z : c = d
    · subst z
      rw [upd_same, ← gd, e]
    · rw [upd_ne z]
      exact f.g c o (by rw [upd_ne z]; exact e)
  · by_cases z : c = d
    · subst z
      rw [gd] at h2
      cases h2
    · rw [upd_ne z] at h1
      obtain ⟨o, ho, no⟩ := l
      exact f.n c h1 (by rw [upd_ne z]; exact h2) ⟨o, by rw [upd_ne z]; exact ho, no⟩
  · exact tabs_store (f.t (tabs_store t hd nt nu)) hl (fun ps z => by cases z) (fun q z => by cases z)
end
section
variable {P : Program} {w : World} {K : PySem.W.Frag} {mg : Str → Option Value} {base : Heap} {C : Cs} {Tb : List (Addr × Str)}
def spBegun (C : Cs) : Sp := fun vs H Q _ => ∃ (v : V) (x : Md × Nat), vs = [v] ∧ VBegP C H v x ∧ x.2 < x.1.rows.length ∧ Q (.bl true) H
theorem sc52 : FnScope ["value"] ["value"] (C8.fnScope (top 52)) := C8.fnScope_by (by decide +kernel)
theorem ok_is_begun (T : Txt K mg C) {f : Addr} {fd : FuncData} (F : C8.Def K mg "is_begun_thing" (top 52) f fd) (b : Binds K fd ["value"] []) (c_is_state : Cl P w K mg base 4 "is_state" (spIsState C) []) : Cl P w K mg base 5 "is_begun_thing" (spBegun C) [] := by
  refine C8.cal0 F b .nil sc52 (fun vs H Q E h => ?_) (fun cdv A outer s H vs Q E hr h => ?_)
  · obtain ⟨v, x, rfl, _⟩ := h
    rfl
  · obtain ⟨v, x, rfl, ⟨a, u, rfl, ha, hu⟩, hx, k⟩ := h
    obtain ⟨i, dx, d, r, vs, e1, hi, _⟩ := id hu
    refine ⟨_, ((pss_cons (ps_if (PW.pt (pw_or (pt_not (pt_val (pe_callB call_isi (by rfl) T.b_isinstance (by decide +kernel) (pa_cons (pv 0) (pa_cons (pe_bltn (v := .ty "tuple") (by rfl) T.b_tuple (by decide +kernel) rfl) pa_nil))))) (pw_or (pt_cmpR op_ne (pe_callB call_len_seq (by rfl) T.b_len (by decide +kernel) (pa_cons (pv 0) pa_nil)) pe_int (nomark _)) (pw_or1 (pt_not (pt_val (pe_callB (C8.call_isC T.i_Thing) (by rfl) T.b_isinstance (by decide +kernel) (pa_cons (pe_ix ix_tup (pv 0) pe_int (fun _ _ => rfl)) (pa_cons (C8.pe_gc (by rfl) T.c_Thing) pa_nil))))))))) (pss_one (ps_ret pe_bl)) pss_nil)
      (pss_one (ps_ret (C8.pe_c c_is_state hr (by decide) (by rfl) (pa_cons (pe_ix ix_tup (pv 0) pe_int (fun _ _ => rfl)) (pa_cons (pe_ix ix_tup (pv 0) pe_int (fun _ _ => rfl)) pa_nil))))))), ?_⟩
    refine ⟨_, rfl, _, _, _, _, true, rfl, .ty _, .base (.tup ha), kit_ty (by decide +kernel), true, rfl, iteF ?_⟩
    refine ⟨_, rfl, _, _, rfl, .inr (.of ha), rfl, false, rfl, iteF ?_⟩
    refine ⟨_, rfl, _, _, _, _, rfl, rfl, .of ha, atI_nat (j := 0) rfl, i, dx, _, by rw [e1], hi, true, rfl, iteF ?_⟩
    exact ⟨_, rfl, _, _, _, _, rfl, rfl, .of ha, atI_nat (j := 0) rfl, _, rfl, _, _, _, _, rfl, rfl, .of ha, atI_nat (j := 1) rfl, u, x.1, x.2, rfl, hu, hx, k⟩
theorem brK_keys (br : List (Nat × Nat)) : (brK br).map (·.1) = (br.map fun e => ((e.1 : Nat) : Int)).map Sum.inl := by simp [brK]
/-- branches -/
def spBranches (Tb : List (Addr × Str)) : Sp := fun vs H Q _ => ∃ (G : Hp) (d : Addr) (br : List (Nat × Nat)) (keys number many : Nat), vs = [.ref d, nV keys, nV number, nV many] ∧ G d = some (.dK (brK br)) ∧ BrOk br keys number many ∧ br.length ≤ sizeLine ∧ Same G H ∧
  ∀ G' H', Fr Tb X0 G H G' H' → Q (.bl true) H'
theorem sc53 : FnScope ["value", "keys", "number", "many", "key", "node"] ["value", "keys", "number", "many"] (C8.fnScope (top 53)) := C8.fnScope_by (by decide +kernel)
theorem ok_are_branches (T : Txt K mg C) {f : Addr} {fd : FuncData} (F : C8.Def K mg "are_branches" (top 53) f fd) (b : Binds K fd ["value", "keys", "number", "many"] []) (c_is_below : Cl P w K mg base 3 "is_below" spBelow []) : Cl P w K mg base 4 "are_branches" (spBranches Tb) [] := by
  refine C8.cal0 F b .nil sc53 (fun vs H Q E h => ?_) (fun cdv A outer s H vs Q E hr h => ?_)
  · obtain ⟨G, d, br, k1, k2, k3, rfl, _⟩ := h
    rfl
  · obtain ⟨G, d, br, keys, number, many, rfl, hd, ok, hl, hs, k⟩ := h
    refine ⟨_, ((pss_cons (ps_if (PW.pt (pw_or (pt_not (pt_val (pe_callB call_isi (by rfl) T.b_isinstance (by decide +kernel) (pa_cons (pv 0) (pa_cons (pe_bltn (v := .ty "dict") (by rfl) T.b_dict (by decide +kernel) rfl) pa_nil))))) (pw_or1 (pt_cmpR op_eq (pe_callB call_lenD (by rfl) T.b_len (by decide +kernel) (pa_cons (pv 0) pa_nil)) pe_int (nomark _))))) (pss_one (ps_ret pe_bl)) pss_nil)
      (pss_cons (ps_lock (ps_if (pt_not (pt_val (pe_callB (cr_all rfl) (by rfl) T.b_all (by decide +kernel) (pa_cons (pe_lc (own := [("key", 4)]) (tt := tYes) rfl sc53.nd (pi_keys (pv 0)) (blkOk_by (N := ["value", "keys", "number", "many", "key", "node"]) (sc := C8.fnScope (top 53)) (by decide +kernel)) (fun _ _ _ _ _ => (pg_name (i := 4) sc53.nd rfl (Or.inl rfl))) (fun _ _ _ _ _ => pts_nil) (fun _ _ _ _ _ => (C8.pe_c c_is_below hr (by decide) (by rfl) (pa_cons (pv 4) (pa_cons (pv 1) pa_nil))))) pa_nil)))) (pss_one (ps_ret pe_bl)) pss_nil))
      (pss_one (ps_lock (ps_ret (pe_callB (cr_all rfl) (by rfl) T.b_all (by decide +kernel) (pa_cons (pe_lc (own := [("node", 5)]) (tt := tYes) rfl sc53.nd (pi_values (pv 0)) (blkOk_by (N := ["value", "keys", "number", "many", "key", "node"]) (sc := C8.fnScope (top 53)) (by decide +kernel)) (fun _ _ _ _ _ => (pg_name (i := 5) sc53.nd rfl (Or.inl rfl))) (fun _ _ _ _ _ => pts_nil) (fun _ _ _ _ _ => (pe_and (C8.pe_c c_is_below hr (by decide) (by rfl) (pa_cons (pv 5) (pa_cons (pv 3) pa_nil))) (pe_one (pe_cmpR op_gt (pv 5) (pv 2) (nomark _)))))) pa_nil)))))))), ?_⟩
    refine ⟨_, rfl, _, _, _, _, true, rfl, .ty _, .base (.dK (hs _ _ hd)), kit_ty (by decide +kernel), true, rfl, iteF ?_⟩
    have hne : br.length ≠ 0 := fun z => ok.ne (List.length_eq_zero_iff.mp z)
    refine ⟨_, rfl, d, _, rfl, hs _ _ hd, rfl, false, congrArg V.bl (decide_eq_false (by rw [show (brK br).length = br.length by simp [brK]]; intro z; have := V.int.inj z; omega)), iteF ?_⟩
    refine ⟨d, _, hs _ _ hd, trivial, fun od => ?_⟩
    have hlb : (brK br).length ≤ sizeLine := by rw [show (brK br).length = br.length by simp [brK]]; exact hl
    have at' : ∀ {i : Nat} {kk : Key} {vv : V}, (brK br)[i]? = some (kk, vv) → ∃ e ∈ br, kk = Sum.inl ((e.1 : Nat) : Int) ∧ vv = nV e.2 := fun {i kk vv} h => by
      unfold brK at h
      rw [List.getElem?_map] at h
      cases q : br[i]? with
      | none => rw [q] at h; simp at h
      | some e =>
        rw [q] at h
        simp at h
        exact ⟨e, mem_of_get q, h.1.symm, h.2.symm⟩
    refine ⟨_, rfl, d, od, rfl, .inl ⟨_, upd_same, fun D hD => ?_⟩⟩
    refine lc_tr (T := Tb) (X := X0) (walk_keys (d := d) (o := od) (kvs := brK br)) (upd G d (.frz od (.dK (brK br)))) (same_lock hs) hD (fun h => h) hlb (fun H e => e _ _ upd_same) (fun i x G1 H1 H2 N hi fr y k' => ?_) (fun G1 H1 fr hDD => ⟨D, _, rfl, .of hDD, true, congrArg V.bl (all_true _), ?_⟩)
    · obtain ⟨rfl, kk, vv, hkv, rfl⟩ := y
      obtain ⟨e, he, rfl, rfl⟩ := at' hkv
      refine ⟨rfl, _, rfl, _, rfl, ((e.1 : Nat) : Int), ((keys : Nat) : Int), rfl, ?_⟩
      rw [decide_eq_true (by have := (ok.ok e he).1; omega)]
      exact k' _ _ (.refl fr.s)
    · obtain ⟨f1, hl1⟩ := Fr.unlock fr hs (hs _ _ hd) hd (fun ps z => by cases z) (fun q z => by cases z)
      refine iteF ⟨hl1, ?_⟩
      have hd1 : upd G1 d (.dK (brK br)) d = some (.dK (brK br)) := upd_same
      refine ⟨d, _, upd_same, trivial, fun od2 => ?_⟩
      refine ⟨_, rfl, d, od2, _, rfl, upd_same, fun D2 hD2 => ?_⟩
      refine lc_tr (T := Tb) (X := X0) (walk_values (d := d) (o := od2) (kvs := brK br)) (upd (upd G1 d (.dK (brK br))) d (.frz od2 (.dK (brK br)))) (same_lock f1.s) hD2 (fun h => h) hlb (fun H e => e _ _ upd_same) (fun i x G2 H2 H3 N hi fr2 y k' => ?_) (fun G2 H2 fr2 hDD => ⟨D2, _, rfl, .of hDD, ?_⟩)
      · obtain ⟨rfl, kk, hkv⟩ := y
        obtain ⟨e, he, rfl, rfl⟩ := at' hkv
        refine ⟨rfl, _, rfl, _, rfl, ((e.2 : Nat) : Int), ((many : Nat) : Int), rfl, ?_⟩
        rw [decide_eq_true (by have := (ok.ok e he).2; omega)]
        refine ⟨true, rfl, iteT ⟨_, rfl, _, rfl, _, _, rfl, rfl, ?_⟩⟩
        show N (.bl (decide (((e.2 : Nat) : Int) > ((number : Nat) : Int)))) _
        rw [decide_eq_true (by have := (ok.ok e he).2; omega)]
        exact k' _ _ (.refl fr2.s)
      · obtain ⟨f2, hl2⟩ := Fr.unlock fr2 f1.s upd_same upd_same (fun ps z => by cases z) (fun q z => by cases z)
        refine ⟨hl2, ?_⟩
        rw [all_true]
        exact k _ _ (f1.trans f2)
end
end K57
set_option Elab.async false
set_option linter.all false
set_option autoImplicit false
set_option maxRecDepth 100000
set_option maxHeartbeats 2000000
/-! K57U: programs: what is asked of things and scripts. -/
namespace K57
open PySem PySem.Spec PyProof.Rows L2
/-- a property of the class at C -/
structure Prp (P : Program) (w : World) (K : PySem.W.Frag) (mg : Str → Option Value) (base : Heap) (k : Nat) (C : Addr) (f : Str) (sp : Sp) : Prop where
  ex : ∃ (p g : Addr) (fd : FuncData) (ps : List Str), Cls K C ∧ PropOf K C f p g ∧ FnOk P w K mg base C8.CX0 k g fd ps sp ∧ Binds K fd ps []
theorem pe_pr {X : Cx} {k j : Nat} {C : Addr} {f : Str} {sp : Sp} {e : Expr} {ta : TE} {pos : Pos} (c : Prp X.prog X.w X.K X.mg X.base k C f sp) (hr : Room j X.A) (hk : k + 1 ≤ j) (he : PE X e ta)
    (hab : attributeBase e f X.env (eval e X.env) = eval e X.env) : PE X (.Attribute e f pos) (tProp C sp [] C8.E0 ta) := by
  obtain ⟨p, g, fd, ps, hc, hp, F, b⟩ := c.ex
  exact pe_prop he hc hp F (hr.mono hk) b .nil C8.pass0 hab
theorem nodup_lt : ∀ (n : Nat) (l : List Nat), l.Nodup → (∀ x ∈ l, x < n) → l.length ≤ n
  | 0, l, _, h => by
    cases l with
    | nil => exact Nat.le_refl _
    | cons a r => exact absurd (h a List.mem_cons_self) (by omega)
  | n + 1, l, hn, h => by
    by_cases q : n ∈ l
    · have := nodup_lt n (l.erase n) (hn.erase n) fun x hx => by
        have h1 := h x (List.mem_of_mem_erase hx)
        have h2 := (hn.mem_erase_iff.mp hx).1
        omega
      rw [List.length_erase_of_mem q] at this
      omega
    · have := nodup_lt n l hn fun x hx => by
        have h1 := h x hx
        have : x ≠ n := fun z => q (z ▸ hx)
        omega
      omega
theorem BrOk.len {br : List (Nat × Nat)} {keys a n : Nat} (ok : BrOk br keys a n) : br.length ≤ keys := by
  have := nodup_lt keys (br.map (·.1)) ok.nd fun x hx => by
    obtain ⟨e, he, rfl⟩ := List.mem_map.mp hx
    exact (ok.ok e he).1
  simpa using this
theorem mBegP {C : Cs} (G G' : Hp) (v : V) (x : Md × Nat) (e : Same G G') (h : VBegP C G v x) : VBegP C G' v x := VBegP.mono e h
theorem mNd (G G' : Hp) (v : V) (x : Nd) (e : Same G G') (h : VNd G v x) : VNd G' v x := VNd.mono e h
theorem mNdP (G G' : Hp) (v : V) (x : Nd) (e : Same G G') (h : VNdP G v x) : VNdP G' v x := VNdP.mono e h
theorem mSc (G G' : Hp) (v : V) (x : List Nd) (e : Same G G') (h : VSc G v x) : VSc G' v x := VSc.mono e h
theorem mScP (G G' : Hp) (v : V) (x : List Nd) (e : Same G G') (h : VScP G v x) : VScP G' v x := VScP.mono e h
/-- a list of things stands at th -/
structure Ths (C : Cs) (G : Hp) (th : Addr) (vs : List V) (ths : List (Md × Nat)) : Prop where
  at_ : G th = some (.lst vs)
  all : All2 (VBegP C G) vs ths
  ok : ∀ x ∈ ths, MdOk x.1 ∧ x.2 < x.1.rows.length
  sz : ths.length ≤ 12
theorem Ths.mono {C : Cs} {G G' : Hp} {th : Addr} {vs : List V} {ths : List (Md × Nat)} (t : Ths C G th vs ths) (e : Same G G') : Ths C G' th vs ths := ⟨e _ _ t.at_, t.all.imp fun v x h => VBegP.mono e h, t.ok, t.sz⟩
section
variable {P : Program} {w : World} {K : PySem.W.Frag} {mg : Str → Option Value} {base : Heap} {C : Cs} {Tb : List (Addr × Str)}
def spThNum (C : Cs) : Sp := fun vs H Q _ => ∃ (th : Addr) (us : List V) (ths : List (Md × Nat)) (t : Nat), vs = [.ref th, nV t] ∧ Ths C H th us ths ∧ t < ths.length ∧ Q (.bl true) H
theorem sc54 : FnScope ["things", "value"] ["things", "value"] (C8.fnScope (top 54)) := C8.fnScope_by (by decide +kernel)
theorem ok_is_thing_number (T : Txt K mg C) {f : Addr} {fd : FuncData} (F : C8.Def K mg "is_thing_number" (top 54) f fd) (b : Binds K fd ["things", "value"] []) (c_is_below : Cl P w K mg base 3 "is_below" spBelow []) : Cl P w K mg base 4 "is_thing_number" (spThNum C) [] := by
  refine C8.cal0 F b .nil sc54 (fun vs H Q E h => ?_) (fun cdv A outer s H vs Q E hr h => ?_)
  · obtain ⟨th, us, ths, t, rfl, _⟩ := h
    rfl
  · obtain ⟨th, us, ths, t, rfl, ht, hl, k⟩ := h
    refine ⟨_, ((pss_one (ps_ret (C8.pe_c c_is_below hr (by decide) (by rfl) (pa_cons (pv 1) (pa_cons (pe_callB call_len_seq (by rfl) T.b_len (by decide +kernel) (pa_cons (pv 0) pa_nil)) pa_nil)))))), ?_⟩
    refine ⟨_, rfl, _, rfl, _, _, rfl, .inl (.of ht.at_), _, _, rfl, ?_⟩
    rw [decide_eq_true (by rw [ht.all.1]; omega)]
    exact k
def spDo (C : Cs) (Tb : List (Addr × Str)) : Sp := fun vs H Q _ => ∃ (G : Hp) (th : Addr) (us : List V) (ths : List (Md × Nat)) (hands number many : Nat) (v : V) (nd : Nd), vs = [.ref th, nV number, nV many, v] ∧ Ths C G th us ths ∧ VNd G v nd ∧ NdOk ths hands number many nd ∧ (∃ t j br, nd = .act t j br) ∧ Same G H ∧
  ∀ G' H', Fr Tb X0 G H G' H' → Q (.bl true) H'
theorem sc55 : FnScope ["things", "number", "many", "value"] ["things", "number", "many", "value"] (C8.fnScope (top 55)) := C8.fnScope_by (by decide +kernel)
theorem ok_is_do (T : Txt K mg C) {f : Addr} {fd : FuncData} (F : C8.Def K mg "is_do" (top 55) f fd) (b : Binds K fd ["things", "number", "many", "value"] []) (c_is_thing_number : Cl P w K mg base 4 "is_thing_number" (spThNum C) []) (c_is_deed : Cl P w K mg base 1 "is_deed" (spIsDeed C) []) (c_are_branches : Cl P w K mg base 4 "are_branches" (spBranches Tb) []) :
    Cl P w K mg base 5 "is_do" (spDo C Tb) [] := by
  refine C8.cal0 F b .nil sc55 (fun vs H Q E h => ?_) (fun cdv A outer s H vs Q E hr h => ?_)
  · obtain ⟨G, th, us, ths, hands, number, many, v, nd, rfl, _⟩ := h
    rfl
  · obtain ⟨G, th, us, ths, hands, number, many, v, nd, rfl, ht, hv, hok, ⟨t, j, br, rfl⟩, hs, k⟩ := h
    obtain ⟨a, d, rfl, ha, hd⟩ := hv
    obtain ⟨m, b0, hm, hj, ok⟩ := hok
    obtain ⟨uv, huv, x, u, rfl, hx, hu⟩ := ht.all.get hm
    have mok := (ht.ok _ (mem_of_get hm)).1
    refine ⟨_, ((pss_cons (ps_if (PW.pt (pw_or (pt_cmpR op_ne (pe_callB call_len_seq (by rfl) T.b_len (by decide +kernel) (pa_cons (pv 3) pa_nil)) pe_int (nomark _)) (pw_or (pt_not (pt_val (C8.pe_c c_is_thing_number hr (by decide) (by rfl) (pa_cons (pv 0) (pa_cons (pe_ix ix_tup (pv 3) pe_int (fun _ _ => rfl)) pa_nil))))) (pw_or1 (pt_not (pt_val (C8.pe_c c_is_deed hr (by decide) (by rfl) (pa_cons (pe_ix ix_tup (pe_ix ix_list (pv 0) (pe_ix ix_tup (pv 3) pe_int (fun _ _ => rfl)) (fun _ _ => rfl)) pe_int (fun _ _ => rfl)) (pa_cons (pe_ix ix_tup (pv 3) pe_int (fun _ _ => rfl)) pa_nil))))))))) (pss_one (ps_ret pe_bl)) pss_nil)
      (pss_one (ps_ret (C8.pe_c c_are_branches hr (by decide) (by rfl) (pa_cons (pe_ix ix_tup (pv 3) pe_int (fun _ _ => rfl)) (pa_cons pe_int (pa_cons (pv 1) (pa_cons (pv 2) pa_nil))))))))), ?_⟩
    have hA := hs _ _ ha
    refine ⟨_, rfl, _, _, rfl, .inr (.of hA), rfl, false, rfl, iteF ?_⟩
    refine ⟨_, rfl, _, rfl, _, _, _, _, rfl, rfl, .of hA, atI_nat (j := 1) rfl, th, us, ths, t, rfl, ht.mono hs, lt_of_get hm, true, rfl, iteF ?_⟩
    refine ⟨_, rfl, _, rfl, _, _, _, _, rfl, rfl, .of hA, atI_nat (j := 1) rfl, _, _, _, _, rfl, rfl, .of (hs _ _ ht.at_), atI_nat huv, _, _, _, _, rfl, rfl, .of (hs _ _ hx), atI_nat (j := 0) rfl, ?_⟩
    refine ⟨_, rfl, _, _, _, _, rfl, rfl, .of hA, atI_nat (j := 2) rfl, u, m, j, rfl, VThing.mono hs hu, Nat.le_trans mok.m2 (by decide), hj, true, rfl, iteF ?_⟩
    exact ⟨_, rfl, _, _, _, _, rfl, rfl, .of hA, atI_nat (j := 3) rfl, _, rfl, _, rfl, G, d, br, 10, number, many, rfl, hd, ok, Nat.le_trans ok.len (by decide), hs, k⟩
def spLook (C : Cs) (Tb : List (Addr × Str)) : Sp := fun vs H Q _ => ∃ (G : Hp) (th : Addr) (us : List V) (ths : List (Md × Nat)) (hands number many : Nat) (v : V) (nd : Nd), vs = [.ref th, nV number, nV many, v] ∧ Ths C G th us ths ∧ VNd G v nd ∧ NdOk ths hands number many nd ∧ (∃ t br, nd = .look t br) ∧ Same G H ∧
  ∀ G' H', Fr Tb X0 G H G' H' → Q (.bl true) H'
theorem sc56 : FnScope ["things", "number", "many", "value"] ["things", "number", "many", "value"] (C8.fnScope (top 56)) := C8.fnScope_by (by decide +kernel)
theorem ok_is_look (T : Txt K mg C) {f : Addr} {fd : FuncData} (F : C8.Def K mg "is_look" (top 56) f fd) (b : Binds K fd ["things", "number", "many", "value"] []) (c_is_thing_number : Cl P w K mg base 4 "is_thing_number" (spThNum C) []) (p_states : Prp P w K mg base 1 C.thing "states" (spStates C)) (c_are_branches : Cl P w K mg base 4 "are_branches" (spBranches Tb) []) :
    Cl P w K mg base 5 "is_look" (spLook C Tb) [] := by
  refine C8.cal0 F b .nil sc56 (fun vs H Q E h => ?_) (fun cdv A outer s H vs Q E hr h => ?_)
  · obtain ⟨G, th, us, ths, hands, number, many, v, nd, rfl, _⟩ := h
    rfl
  · obtain ⟨G, th, us, ths, hands, number, many, v, nd, rfl, ht, hv, hok, ⟨t, br, rfl⟩, hs, k⟩ := h
    obtain ⟨a, d, rfl, ha, hd⟩ := hv
    obtain ⟨m, b0, hm, ok⟩ := hok
    obtain ⟨uv, huv, x, u, rfl, hx, hu⟩ := ht.all.get hm
    have mok := (ht.ok _ (mem_of_get hm)).1
    obtain ⟨i, dx, dd, r, vs, e1, hi, _⟩ := id (VThing.mono hs hu)
    refine ⟨_, ((pss_cons (ps_if (PW.pt (pw_or (pt_cmpR op_ne (pe_callB call_len_seq (by rfl) T.b_len (by decide +kernel) (pa_cons (pv 3) pa_nil)) pe_int (nomark _)) (pw_or1 (pt_not (pt_val (C8.pe_c c_is_thing_number hr (by decide) (by rfl) (pa_cons (pv 0) (pa_cons (pe_ix ix_tup (pv 3) pe_int (fun _ _ => rfl)) pa_nil)))))))) (pss_one (ps_ret pe_bl)) pss_nil)
      (pss_one (ps_ret (C8.pe_c c_are_branches hr (by decide) (by rfl) (pa_cons (pe_ix ix_tup (pv 3) pe_int (fun _ _ => rfl)) (pa_cons (pe_pr p_states hr (by decide) (pe_ix ix_tup (pe_ix ix_list (pv 0) (pe_ix ix_tup (pv 3) pe_int (fun _ _ => rfl)) (fun _ _ => rfl)) pe_int (fun _ _ => rfl)) rfl) (pa_cons (pv 1) (pa_cons (pv 2) pa_nil))))))))), ?_⟩
    have hA := hs _ _ ha
    refine ⟨_, rfl, _, _, rfl, .inr (.of hA), rfl, false, rfl, iteF ?_⟩
    refine ⟨_, rfl, _, rfl, _, _, _, _, rfl, rfl, .of hA, atI_nat (j := 1) rfl, th, us, ths, t, rfl, ht.mono hs, lt_of_get hm, true, rfl, iteF ?_⟩
    refine ⟨_, rfl, _, _, _, _, rfl, rfl, .of hA, atI_nat (j := 2) rfl, _, rfl, _, rfl, _, _, _, _, rfl, rfl, .of hA, atI_nat (j := 1) rfl, _, _, _, _, rfl, rfl, .of (hs _ _ ht.at_), atI_nat huv, _, _, _, _, rfl, rfl, .of (hs _ _ hx), atI_nat (j := 0) rfl, ?_⟩
    refine ⟨i, dx, _, e1, hi, u, m, by rw [e1], VThing.mono hs hu, ?_⟩
    exact ⟨_, rfl, _, rfl, G, d, br, m.rows.length, number, many, rfl, hd, ok, Nat.le_trans ok.len (Nat.le_trans mok.r8 (by decide)), hs, k⟩
/-- a node that is right -/
def spNode (C : Cs) (Tb : List (Addr × Str)) : Sp := fun vs H Q _ => ∃ (G : Hp) (th : Addr) (us : List V) (ths : List (Md × Nat)) (hands number many : Nat) (v : V) (nd : Nd), vs = [.ref th, nV hands, nV number, nV many, v] ∧ Ths C G th us ths ∧ VNd G v nd ∧ NdOk ths hands number many nd ∧ (nd.inner = false → 0 < number) ∧ Same G H ∧
  ∀ G' H', Fr Tb X0 G H G' H' → Q (.bl true) H'
theorem sc57 : FnScope ["things", "hands", "number", "many", "value"] ["things", "hands", "number", "many", "value"] (C8.fnScope (top 57)) := C8.fnScope_by (by decide +kernel)
theorem ok_is_node (T : Txt K mg C) {f : Addr} {fd : FuncData} (F : C8.Def K mg "is_node" (top 57) f fd) (b : Binds K fd ["things", "hands", "number", "many", "value"] []) (c_is_do : Cl P w K mg base 5 "is_do" (spDo C Tb) []) (c_is_look : Cl P w K mg base 5 "is_look" (spLook C Tb) []) (c_is_below : Cl P w K mg base 3 "is_below" spBelow []) :
    Cl P w K mg base 6 "is_node" (spNode C Tb) [] := by
  refine C8.cal0 F b .nil sc57 (fun vs H Q E h => ?_) (fun cdv A outer s H vs Q E hr h => ?_)
  · obtain ⟨G, th, us, ths, hands, number, many, v, nd, rfl, _⟩ := h
    rfl
  · obtain ⟨G, th, us, ths, hands, number, many, v, nd, rfl, ht, hv, hok, hin, hs, k⟩ := h
    refine ⟨_, ((pss_cons (ps_if (PW.pt (pw_or (pt_not (pt_val (pe_callB call_isi (by rfl) T.b_isinstance (by decide +kernel) (pa_cons (pv 4) (pa_cons (pe_bltn (v := .ty "tuple") (by rfl) T.b_tuple (by decide +kernel) rfl) pa_nil))))) (pw_or (pt_cmpR op_eq (pe_callB call_len_seq (by rfl) T.b_len (by decide +kernel) (pa_cons (pv 4) pa_nil)) pe_int (nomark _)) (pw_or1 (pt_not (pt_val (pe_callB call_isi (by rfl) T.b_isinstance (by decide +kernel) (pa_cons (pe_ix ix_tup (pv 4) pe_int (fun _ _ => rfl)) (pa_cons (pe_bltn (v := .ty "str") (by rfl) T.b_str (by decide +kernel) rfl) pa_nil))))))))) (pss_one (ps_ret pe_bl)) pss_nil)
      (pss_cons (ps_if (pt_cmpR op_eq (pe_ix ix_tup (pv 4) pe_int (fun _ _ => rfl)) (C8.pe_gc (by rfl) T.c_DO) (nomark _)) (pss_one (ps_ret (C8.pe_c c_is_do hr (by decide) (by rfl) (pa_cons (pv 0) (pa_cons (pv 2) (pa_cons (pv 3) (pa_cons (pv 4) pa_nil))))))) pss_nil)
      (pss_cons (ps_if (pt_cmpR op_eq (pe_ix ix_tup (pv 4) pe_int (fun _ _ => rfl)) (C8.pe_gc (by rfl) T.c_LOOK) (nomark _)) (pss_one (ps_ret (C8.pe_c c_is_look hr (by decide) (by rfl) (pa_cons (pv 0) (pa_cons (pv 2) (pa_cons (pv 3) (pa_cons (pv 4) pa_nil))))))) pss_nil)
      (pss_one (ps_ret (pe_and (pe_cmpR op_eq (pe_ix ix_tup (pv 4) pe_int (fun _ _ => rfl)) (C8.pe_gc (by rfl) T.c_END) (nomark _)) (pe_and (pe_cmpR op_gt (pv 2) pe_int (nomark _)) (pe_and (pe_cmpR op_eq (pe_callB call_len_seq (by rfl) T.b_len (by decide +kernel) (pa_cons (pv 4) pa_nil)) pe_int (nomark _)) (pe_one (C8.pe_c c_is_below hr (by decide) (by rfl) (pa_cons (pe_ix ix_tup (pv 4) pe_int (fun _ _ => rfl)) (pa_cons (pv 1) pa_nil))))))))))))), ?_⟩
    cases nd with
    | look t br =>
      obtain ⟨a, d, rfl, ha, hd⟩ := id hv
      have hA := hs _ _ ha
      refine ⟨_, rfl, _, _, _, _, true, rfl, .ty _, .base (.tup hA), kit_ty (by decide +kernel), true, rfl, iteF ?_⟩
      refine ⟨_, rfl, _, _, rfl, .inr (.of hA), rfl, false, rfl, iteF ?_⟩
      refine ⟨_, rfl, _, _, _, _, rfl, rfl, .of hA, atI_nat (j := 0) rfl, _, _, _, _, true, rfl, .ty _, .base (.str _), kit_ty (by decide +kernel), true, rfl, iteF ?_⟩
      refine ⟨_, rfl, _, _, _, _, rfl, rfl, .of hA, atI_nat (j := 0) rfl, rfl, false, rfl, iteF ?_⟩
      refine ⟨_, rfl, _, _, _, _, rfl, rfl, .of hA, atI_nat (j := 0) rfl, rfl, true, rfl, iteT ?_⟩
      exact ⟨_, rfl, _, rfl, _, rfl, _, rfl, G, th, us, ths, hands, number, many, _, _, rfl, ht, hv, hok, ⟨t, br, rfl⟩, hs, k⟩
    | act t j br =>
      obtain ⟨a, d, rfl, ha, hd⟩ := id hv
      have hA := hs _ _ ha
      refine ⟨_, rfl, _, _, _, _, true, rfl, .ty _, .base (.tup hA), kit_ty (by decide +kernel), true, rfl, iteF ?_⟩
      refine ⟨_, rfl, _, _, rfl, .inr (.of hA), rfl, false, rfl, iteF ?_⟩
      refine ⟨_, rfl, _, _, _, _, rfl, rfl, .of hA, atI_nat (j := 0) rfl, _, _, _, _, true, rfl, .ty _, .base (.str _), kit_ty (by decide +kernel), true, rfl, iteF ?_⟩
      refine ⟨_, rfl, _, _, _, _, rfl, rfl, .of hA, atI_nat (j := 0) rfl, rfl, true, rfl, iteT ?_⟩
      exact ⟨_, rfl, _, rfl, _, rfl, _, rfl, G, th, us, ths, hands, number, many, _, _, rfl, ht, hv, hok, ⟨t, j, br, rfl⟩, hs, k⟩
    | fin t =>
      obtain ⟨a, rfl, ha⟩ := id hv
      have hA := hs _ _ ha
      refine ⟨_, rfl, _, _, _, _, true, rfl, .ty _, .base (.tup hA), kit_ty (by decide +kernel), true, rfl, iteF ?_⟩
      refine ⟨_, rfl, _, _, rfl, .inr (.of hA), rfl, false, rfl, iteF ?_⟩
      refine ⟨_, rfl, _, _, _, _, rfl, rfl, .of hA, atI_nat (j := 0) rfl, _, _, _, _, true, rfl, .ty _, .base (.str _), kit_ty (by decide +kernel), true, rfl, iteF ?_⟩
      refine ⟨_, rfl, _, _, _, _, rfl, rfl, .of hA, atI_nat (j := 0) rfl, rfl, false, rfl, iteF ?_⟩
      refine ⟨_, rfl, _, _, _, _, rfl, rfl, .of hA, atI_nat (j := 0) rfl, rfl, false, rfl, iteF ?_⟩
      refine ⟨_, rfl, _, _, _, _, rfl, rfl, .of hA, atI_nat (j := 0) rfl, rfl, true, rfl, iteT ?_⟩
      refine ⟨_, rfl, _, _, rfl, rfl, true, congrArg V.bl (decide_eq_true (by have := hin rfl; omega)), iteT ?_⟩
      refine ⟨_, rfl, _, _, rfl, .inr (.of hA), rfl, true, rfl, iteT ?_⟩
      refine ⟨_, rfl, _, _, _, _, rfl, rfl, .of hA, atI_nat (j := 1) rfl, _, rfl, _, _, rfl, ?_⟩
      rw [decide_eq_true (by have : t < hands := hok; omega)]
      exact k _ _ (.refl hs)
end
end K57
set_option Elab.async false
set_option linter.all false
set_option autoImplicit false
set_option maxRecDepth 100000
set_option maxHeartbeats 2000000
/-! K57V: programs: scripts, things, limits, copies. -/
namespace K57
open PySem PySem.Spec PyProof.Rows L2
section
variable {P : Program} {w : World} {K : PySem.W.Frag} {mg : Str → Option Value} {base : Heap} {C : Cs} {Tb : List (Addr × Str)}
/-- a script that is right stands at v -/
def spScript (C : Cs) (Tb : List (Addr × Str)) : Sp := fun vs H Q _ => ∃ (G : Hp) (th : Addr) (us : List V) (ths : List (Md × Nat)) (hands : Nat) (v : V) (sc : List Nd) (kk : Nat), vs = [.ref th, nV hands, v] ∧ Ths C G th us ths ∧ VSc G v sc ∧ ScOk ths hands sc kk ∧ Same G H ∧
  ∀ G' H', Fr Tb X0 G H G' H' → Q (.bl true) H'
theorem sc58 : FnScope ["things", "hands", "value", "number", "node"] ["things", "hands", "value"] (C8.fnScope (top 58)) := C8.fnScope_by (by decide +kernel)
theorem ok_is_script (T : Txt K mg C) {f : Addr} {fd : FuncData} (F : C8.Def K mg "is_script" (top 58) f fd) (b : Binds K fd ["things", "hands", "value"] []) (c_is_list : Cl P w K mg base 1 "is_list" (spList Tb) []) (c_is_node : Cl P w K mg base 6 "is_node" (spNode C Tb) []) :
    Cl P w K mg base 7 "is_script" (spScript C Tb) [] := by
  refine C8.cal0 F b .nil sc58 (fun vs H Q E h => ?_) (fun cdv A outer s H vs Q E hr h => ?_)
  · obtain ⟨G, th, us, ths, hands, v, sc, kk, rfl, _⟩ := h
    rfl
  · obtain ⟨G, th, us, ths, hands, v, sc, kk, rfl, ht, ⟨a, ws, rfl, ha, hA⟩, ok, hs, k⟩ := h
    refine ⟨_, ((pss_cons (ps_if (PW.pt (pw_or (pt_not (pt_val (C8.pe_c c_is_list hr (by decide) (by rfl) (pa_cons (pv 2) pa_nil)))) (pw_or1 (pt_cmpR op_eq (pe_callB call_len_seq (by rfl) T.b_len (by decide +kernel) (pa_cons (pv 2) pa_nil)) pe_int (nomark _))))) (pss_one (ps_ret pe_bl)) pss_nil)
      (pss_one (ps_ret (pe_callB (cr_all rfl) (by rfl) T.b_all (by decide +kernel) (pa_cons (pe_lc (own := [("number", 3), ("node", 4)]) (tt := tYes) rfl sc58.nd (pi_enum (by rfl) T.b_enumerate (pa_cons (pv 2) pa_nil)) (blkOk_by (N := ["things", "hands", "value", "number", "node"]) (sc := C8.fnScope (top 58)) (by decide +kernel)) (fun _ _ _ _ _ => (pg_tupK K (n := 2) rfl (pgs_cons (pg_name (i := 3) sc58.nd rfl (Or.inl rfl)) (pgs_cons (pg_name (i := 4) sc58.nd rfl (Or.inl rfl)) pgs_nil)))) (fun _ _ _ _ _ => pts_nil) (fun _ _ _ _ _ => (C8.pe_c c_is_node hr (by decide) (by rfl) (pa_cons (pv 0) (pa_cons (pv 1) (pa_cons (pv 3) (pa_cons (pe_callB (call_len_seqK K) (by rfl) T.b_len (by decide +kernel) (pa_cons (pv 2) pa_nil)) (pa_cons (pv 4) pa_nil)))))))) pa_nil)))))), ?_⟩
    have hl7 := ok.l
    have hk1 := ok.kl
    refine ⟨_, rfl, G, a, ws, rfl, .inl ha, hs, fun G1 H1 f1 => ⟨true, rfl, iteF ?_⟩⟩
    refine ⟨_, rfl, _, _, rfl, .inl (.of (f1.get ha)), rfl, false, congrArg V.bl (decide_eq_false (by rw [hA.1]; intro z; have := V.int.inj z; omega)), iteF ?_⟩
    refine ⟨_, rfl, a, _, rfl, .of (f1.get ha), fun D hD => ?_⟩
    refine lc_true (T := Tb) (X := X0) (walk_enum (a := a) (xs := ws)) G1 f1.s hD (fun h => h.elim) (by rw [hA.1]; exact Nat.le_trans hl7 (by decide)) (fun H2 e => .of (e _ _ (f1.g _ _ ha))) (fun i x G2 H2 H3 N hi fr y k' => ?_) (fun G2 H2 fr => k G2 H2 (f1.trans fr))
    obtain ⟨t, x1, x2, rfl, nt, rfl, e1, e2⟩ := y
    cases e1
    obtain ⟨nd, hnd, hv⟩ := hA.get' e2
    have f2 : Fr Tb X0 G2 H2 (upd G2 t (.tup [.int (i : Nat), x2])) (upd H2 t (.tup [.int (i : Nat), x2])) := Fr.alloc fr.s nt
    have fA := (f1.trans fr).trans f2
    refine ⟨t, _, rfl, .of upd_same, rfl, _, _, rfl, _, _, rfl, rfl, rfl, ?_⟩
    refine ⟨_, rfl, _, rfl, _, rfl, _, rfl, _, _, rfl, .inl (.of (fA.get ha)), _, rfl, _, th, us, ths, hands, i, sc.length, x2, nd, by rw [hA.1]; rfl, ht.mono fA.g, VNd.mono fA.g hv, (ok.nd i nd hnd).1, fun hn => ?_, fA.s, fun G4 H4 f4 => k' _ _ (f2.trans f4)⟩
    have h1 := (ok.nd i nd hnd).2
    have h2 := ok.k1
    rcases Nat.lt_or_ge i kk with q | q
    · rw [h1.mpr q] at hn
      cases hn
    · omega
def spThings (C : Cs) (Tb : List (Addr × Str)) : Sp := fun vs H Q _ => ∃ (G : Hp) (th : Addr) (us : List V) (ths : List (Md × Nat)), vs = [.ref th] ∧ Ths C G th us ths ∧ 1 ≤ ths.length ∧ Same G H ∧ ∀ G' H', Fr Tb X0 G H G' H' → Q .non H'
theorem sc59 : FnScope ["things", "position", "begun"] ["things"] (C8.fnScope (top 59)) := C8.fnScope_by (by decide +kernel)
theorem ok_want_things (T : Txt K mg C) {f : Addr} {fd : FuncData} (F : C8.Def K mg "want_things" (top 59) f fd) (b : Binds K fd ["things"] []) (c_is_list : Cl P w K mg base 1 "is_list" (spList Tb) []) (c_is_begun_thing : Cl P w K mg base 5 "is_begun_thing" (spBegun C) []) :
    Cl P w K mg base 6 "want_things" (spThings C Tb) [] := by
  refine C8.cal0 F b .nil sc59 (fun vs H Q E h => ?_) (fun cdv A outer s H vs Q E hr h => ?_)
  · obtain ⟨G, th, us, ths, rfl, _⟩ := h
    rfl
  · obtain ⟨G, th, us, ths, rfl, ht, h1, hs, k⟩ := h
    refine ⟨_, ((pss_cons (ps_if (PW.pt (pw_or (pt_not (pt_val (C8.pe_c c_is_list hr (by decide) (by rfl) (pa_cons (pv 0) pa_nil)))) (pw_or1 (pt_cmpR op_eq (pe_callB call_len_seq (by rfl) T.b_len (by decide +kernel) (pa_cons (pv 0) pa_nil)) pe_int (nomark _))))) (pss_one ps_never) pss_nil)
      (pss_one (ps_for PassesOwn.never rfl (pi_enum (by rfl) T.b_enumerate (pa_cons (pv 0) pa_nil)) (pg_tup rfl (pgs_cons (pg_name (i := 1) sc59.nd rfl (Or.inl rfl)) (pgs_cons (pg_name (i := 2) sc59.nd rfl (Or.inl rfl)) pgs_nil))) (pss_one (ps_if (pt_not (pt_val (C8.pe_c c_is_begun_thing hr (by decide) (by rfl) (pa_cons (pv 2) pa_nil)))) (pss_one ps_never) pss_nil)))))), ?_⟩
    have ha := ht.at_
    refine ⟨_, rfl, G, th, us, rfl, .inl ha, hs, fun G1 H1 f1 => ⟨true, rfl, iteF ?_⟩⟩
    refine ⟨_, rfl, _, _, rfl, .inl (.of (f1.get ha)), rfl, false, congrArg V.bl (decide_eq_false (by rw [ht.all.1]; intro z; have := V.int.inj z; omega)), iteF ?_⟩
    refine ⟨_, rfl, th, _, rfl, .of (f1.get ha), ?_⟩
    refine for_it (walk_enum (a := th) (xs := us)) (fun i σ H => ∃ u v G', σ = [some (.ref th), u, v] ∧ Fr Tb X0 G1 H1 G' H) ⟨_, _, G1, rfl, .refl f1.s⟩ (fun i σ H hi ⟨u, v, G', _, fr⟩ => .of ((f1.trans fr).get ha)) (fun i x σ H2 H3 hi ⟨u, v, G', e, fr⟩ y => ?_) (fun σ H2 ⟨u, v, G', e, fr⟩ => k _ _ (f1.trans fr))
    subst e
    obtain ⟨t, x1, x2, rfl, nt, rfl, e1, e2⟩ := y
    cases e1
    obtain ⟨b0, hb0, hv⟩ := ht.all.get' e2
    have f2 : Fr Tb X0 G' H2 (upd G' t (.tup [.int (i : Nat), x2])) (upd H2 t (.tup [.int (i : Nat), x2])) := Fr.alloc fr.s nt
    have fA := (f1.trans fr).trans f2
    refine ⟨t, _, rfl, .of upd_same, rfl, _, _, rfl, _, _, rfl, rfl, ?_⟩
    exact ⟨_, rfl, x2, b0, rfl, VBegP.mono fA.s (VBegP.mono fA.g hv), (ht.ok _ (mem_of_get hb0)).2, true, rfl, iteF ⟨_, _, _, rfl, fr.trans f2⟩⟩
/-- scripts that are right -/
structure Scs (G : Hp) (sa : Addr) (ws : List V) (ths : List (Md × Nat)) (scs : List (List Nd)) : Prop where
  at_ : G sa = some (.lst ws)
  all : All2 (VSc G) ws scs
  ok : ∀ sc ∈ scs, ∃ kk, ScOk ths scs.length sc kk
  s2 : 2 ≤ scs.length
  s4 : scs.length ≤ 4
theorem Scs.mono {G G' : Hp} {sa : Addr} {ws : List V} {ths : List (Md × Nat)} {scs : List (List Nd)} (t : Scs G sa ws ths scs) (e : Same G G') : Scs G' sa ws ths scs := ⟨e _ _ t.at_, t.all.imp fun v x h => VSc.mono e h, t.ok, t.s2, t.s4⟩
def spScripts (C : Cs) (Tb : List (Addr × Str)) : Sp := fun vs H Q _ => ∃ (G : Hp) (th : Addr) (us : List V) (ths : List (Md × Nat)) (sa : Addr) (ws : List V) (scs : List (List Nd)), vs = [.ref th, .ref sa] ∧ Ths C G th us ths ∧ Scs G sa ws ths scs ∧ Same G H ∧ ∀ G' H', Fr Tb X0 G H G' H' → Q .non H'
theorem sc60 : FnScope ["things", "scripts", "position", "script"] ["things", "scripts"] (C8.fnScope (top 60)) := C8.fnScope_by (by decide +kernel)
theorem ok_want_scripts (T : Txt K mg C) {f : Addr} {fd : FuncData} (F : C8.Def K mg "want_scripts" (top 60) f fd) (b : Binds K fd ["things", "scripts"] []) (c_is_list : Cl P w K mg base 1 "is_list" (spList Tb) []) (c_is_script : Cl P w K mg base 7 "is_script" (spScript C Tb) []) :
    Cl P w K mg base 8 "want_scripts" (spScripts C Tb) [] := by
  refine C8.cal0 F b .nil sc60 (fun vs H Q E h => ?_) (fun cdv A outer s H vs Q E hr h => ?_)
  · obtain ⟨G, th, us, ths, sa, ws, scs, rfl, _⟩ := h
    rfl
  · obtain ⟨G, th, us, ths, sa, ws, scs, rfl, ht, hsc, hs, k⟩ := h
    refine ⟨_, ((pss_cons (ps_if (PW.pt (pw_or (pt_not (pt_val (C8.pe_c c_is_list hr (by decide) (by rfl) (pa_cons (pv 1) pa_nil)))) (pw_or1 (pt_cmpR op_lt (pe_callB call_len_seq (by rfl) T.b_len (by decide +kernel) (pa_cons (pv 1) pa_nil)) pe_int (nomark _))))) (pss_one ps_never) pss_nil)
      (pss_one (ps_for PassesOwn.never rfl (pi_enum (by rfl) T.b_enumerate (pa_cons (pv 1) pa_nil)) (pg_tup rfl (pgs_cons (pg_name (i := 2) sc60.nd rfl (Or.inl rfl)) (pgs_cons (pg_name (i := 3) sc60.nd rfl (Or.inl rfl)) pgs_nil))) (pss_one (ps_if (pt_not (pt_val (C8.pe_c c_is_script hr (by decide) (by rfl) (pa_cons (pv 0) (pa_cons (pe_callB call_len_seq (by rfl) T.b_len (by decide +kernel) (pa_cons (pv 1) pa_nil)) (pa_cons (pv 3) pa_nil)))))) (pss_one ps_never) pss_nil)))))), ?_⟩
    have ha := hsc.at_
    have s2 := hsc.s2
    refine ⟨_, rfl, G, sa, ws, rfl, .inl ha, hs, fun G1 H1 f1 => ⟨true, rfl, iteF ?_⟩⟩
    refine ⟨_, rfl, _, _, rfl, .inl (.of (f1.get ha)), _, _, rfl, rfl, false, congrArg V.bl (decide_eq_false (by rw [hsc.all.1]; omega)), iteF ?_⟩
    refine ⟨_, rfl, sa, _, rfl, .of (f1.get ha), ?_⟩
    refine for_it (walk_enum (a := sa) (xs := ws)) (fun i σ H => ∃ u v G', σ = [some (.ref th), some (.ref sa), u, v] ∧ Fr Tb X0 G1 H1 G' H) ⟨_, _, G1, rfl, .refl f1.s⟩ (fun i σ H hi ⟨u, v, G', _, fr⟩ => .of ((f1.trans fr).get ha)) (fun i x σ H2 H3 hi ⟨u, v, G', e, fr⟩ y => ?_) (fun σ H2 ⟨u, v, G', e, fr⟩ => k _ _ (f1.trans fr))
    subst e
    obtain ⟨t, x1, x2, rfl, nt, rfl, e1, e2⟩ := y
    cases e1
    obtain ⟨sc, hsc0, hv⟩ := hsc.all.get' e2
    obtain ⟨kk, hkk⟩ := hsc.ok sc (mem_of_get hsc0)
    have f2 : Fr Tb X0 G' H2 (upd G' t (.tup [.int (i : Nat), x2])) (upd H2 t (.tup [.int (i : Nat), x2])) := Fr.alloc fr.s nt
    have fA := (f1.trans fr).trans f2
    refine ⟨t, _, rfl, .of upd_same, rfl, _, _, rfl, _, _, rfl, rfl, ?_⟩
    exact ⟨_, rfl, _, rfl, _, _, rfl, .inl (.of (fA.get ha)), _, rfl, _, th, us, ths, scs.length, x2, sc, kk, by rw [hsc.all.1]; rfl, ht.mono fA.g, VSc.mono fA.g hv, hkk, fA.s, fun G4 H4 f4 => ⟨true, rfl, iteF ⟨_, _, _, rfl, (fr.trans f2).trans f4⟩⟩⟩
theorem any_false (n : Nat) : (List.replicate n false).any id = false := by simp
theorem map_false (n : Nat) : (List.replicate n false).map V.bl = List.replicate n (V.bl false) := by simp
def IFalse : Nat → Hp → List V → Prop := fun i _ acc => acc = List.replicate i (.bl false)
theorem IFalse.step {i : Nat} {G G' : Hp} {acc : List V} (h : IFalse i G acc) : IFalse (i + 1) G' (acc ++ [.bl false]) := by
  show acc ++ [.bl false] = List.replicate (i + 1) (V.bl false)
  rw [show acc = List.replicate i (.bl false) from h, List.replicate_succ']
theorem IFalse.len (i : Nat) (G : Hp) (acc : List V) (h : IFalse i G acc) : acc.length ≤ i := by rw [show acc = List.replicate i (.bl false) from h, List.length_replicate]; exact Nat.le_refl _
theorem sc61 : FnScope ["things", "scripts", "script"] ["things", "scripts"] (C8.fnScope (top 61)) := C8.fnScope_by (by decide +kernel)
theorem ok_want_limits (T : Txt K mg C) {f : Addr} {fd : FuncData} (F : C8.Def K mg "want_limits" (top 61) f fd) (b : Binds K fd ["things", "scripts"] []) : Cl P w K mg base 1 "want_limits" (spScripts C Tb) [] := by
  refine C8.cal0 F b .nil sc61 (fun vs H Q E h => ?_) (fun cdv A outer s H vs Q E hr h => ?_)
  · obtain ⟨G, th, us, ths, sa, ws, scs, rfl, _⟩ := h
    rfl
  · obtain ⟨G, th, us, ths, sa, ws, scs, rfl, ht, hsc, hs, k⟩ := h
    refine ⟨_, ((pss_cons (ps_if (pt_cmpR op_gt (pe_callB call_len_seq (by rfl) T.b_len (by decide +kernel) (pa_cons (pv 0) pa_nil)) (C8.pe_gc (by rfl) T.c_MOST_THINGS) (nomark _)) (pss_one ps_never) pss_nil)
      (pss_cons (ps_if (pt_cmpR op_gt (pe_callB call_len_seq (by rfl) T.b_len (by decide +kernel) (pa_cons (pv 1) pa_nil)) (C8.pe_gc (by rfl) T.c_MOST_HANDS) (nomark _)) (pss_one ps_never) pss_nil)
      (pss_one (ps_if (pt_val (pe_callB (cr_any rfl) (by rfl) T.b_any (by decide +kernel) (pa_cons (pe_lc (own := [("script", 2)]) (tt := tYes) rfl sc61.nd (pi_list (pv 1)) (blkOk_by (N := ["things", "scripts", "script"]) (sc := C8.fnScope (top 61)) (by decide +kernel)) (fun _ _ _ _ _ => (pg_name (i := 2) sc61.nd rfl (Or.inl rfl))) (fun _ _ _ _ _ => pts_nil) (fun _ _ _ _ _ => (pe_cmpR op_gt (pe_callB (call_len_seqK K) (by rfl) T.b_len (by decide +kernel) (pa_cons (pv 2) pa_nil)) (C8.pe_gc (by rfl) T.c_MOST_NODES) (nomark _)))) pa_nil))) (pss_one ps_never) pss_nil))))), ?_⟩
    have s4 := hsc.s4
    have t12 := ht.sz
    refine ⟨_, rfl, _, _, rfl, .inl (.of (hs _ _ ht.at_)), _, _, rfl, rfl, false, congrArg V.bl (decide_eq_false (by rw [ht.all.1]; omega)), iteF ?_⟩
    refine ⟨_, rfl, _, _, rfl, .inl (.of (hs _ _ hsc.at_)), _, _, rfl, rfl, false, congrArg V.bl (decide_eq_false (by rw [hsc.all.1]; omega)), iteF ?_⟩
    refine ⟨_, rfl, sa, rfl, ⟨_, .of (hs _ _ hsc.at_)⟩, fun D hD => ?_⟩
    refine lc_frY (T := Tb) (X := X0) (walk_list (a := sa) (xs := ws)) G IFalse hs hD (fun h => h) (by rw [hsc.all.1]; exact Nat.le_trans s4 (by decide)) (fun H e => .of (e _ _ hsc.at_)) rfl (fun _ _ _ _ _ h => h) IFalse.len (fun i x G1 H1 H2 acc N hi hI fr hDD gD y k' => ?_) (fun G1 H1 acc hI fr sg hDD => ?_)
    · obtain ⟨rfl, hx⟩ := y
      obtain ⟨sc, hsc0, a, us', rfl, ha, hA⟩ := hsc.all.get' hx
      obtain ⟨kk, hkk⟩ := hsc.ok sc (mem_of_get hsc0)
      have l7 := hkk.l
      refine ⟨rfl, _, rfl, _, _, rfl, .inl (.of (fr.get ha)), _, _, rfl, rfl, ?_⟩
      show N (.bl (decide ((200 : Int) < ((us'.length : Nat) : Int)))) _
      rw [decide_eq_false (by rw [hA.1]; omega)]
      exact k' _ _ _ (.refl fr.s) hI.step
    · refine ⟨D, List.replicate ws.length false, rfl, .of (by rw [map_false, hDD, show acc = List.replicate ws.length (.bl false) from hI]), false, congrArg V.bl (any_false _), iteF ?_⟩
      exact k _ _ fr
end
end K57
set_option Elab.async false
set_option linter.all false
set_option autoImplicit false
set_option maxRecDepth 100000
set_option maxHeartbeats 2000000
/-! K57W: copies of nodes, sheets, programs. -/
namespace K57
open PySem PySem.Spec PyProof.Rows L2
theorem atI_last {l : List V} {x : V} : atI (l ++ [x]) (-1) = some x := by
  unfold atI ixN
  have e : (l ++ [x]).length = l.length + 1 := by simp
  rw [e, if_neg (by omega), if_pos (by omega)]
  show (l ++ [x])[((-1 : Int) + ((l.length + 1 : Nat) : Int)).toNat]? = some x
  rw [show ((-1 : Int) + ((l.length + 1 : Nat) : Int)).toNat = l.length by omega]
  simp
theorem cutV_last {l : List V} {x : V} : cutV (l ++ [x]) none (some (-1)) = l := by
  unfold cutV
  have e : (l ++ [x]).length = l.length + 1 := by simp
  have e1 : HT.sIx (l ++ [x]).length 0 none = 0 := rfl
  have e2 : HT.sIx (l ++ [x]).length (l ++ [x]).length (some (-1)) = l.length := by
    show (if (-1 : Int) < 0 then ((-1 : Int) + (((l ++ [x]).length : Nat) : Int)).toNat else min (-1 : Int).toNat (l ++ [x]).length) = l.length
    rw [if_pos (by omega), e]
    omega
  rw [e1, e2]
  simp
theorem sIx_last {l : List V} {x : V} : HT.sIx (l ++ [x]).length (l ++ [x]).length (some (-1)) ≠ (l ++ [x]).length := by
  show (if (-1 : Int) < 0 then ((-1 : Int) + (((l ++ [x]).length : Nat) : Int)).toNat else min (-1 : Int).toNat (l ++ [x]).length) ≠ (l ++ [x]).length
  have e : (l ++ [x]).length = l.length + 1 := by simp
  rw [if_pos (by omega), e]
  omega
theorem valV_brK : ∀ (br : List (Nat × Nat)) (n : Nat), valV (brK br) (Sum.inl ((n : Nat) : Int)) = (br.lookup n).map nV
  | [], n => rfl
  | (a, b) :: r, n => by
    show valV ((Sum.inl ((a : Nat) : Int), nV b) :: brK r) _ = _
    rw [List.lookup_cons]
    by_cases e : n = a
    · subst e
      rw [valV_pos rfl]
      simp
    · have h1 : (n == a) = false := by simpa using e
      rw [h1, valV_neg (by intro z; have := Sum.inl.inj z; omega)]
      exact valV_brK r n
theorem BrOk.valV {br : List (Nat × Nat)} {keys a n : Nat} (ok : BrOk br keys a n) : BrV (brK br) br := fun k => valV_brK br k
theorem nNd {br : List (Nat × Nat)} {e : Nat × Nat} (h : e ∈ br) : ∃ v, br.lookup e.1 = some v := by
  induction br with
  | nil => cases h
  | cons p r ih =>
    rw [List.lookup_cons]
    by_cases q : e.1 = p.1
    · rw [show (e.1 == p.1) = true by simpa using q]
      exact ⟨_, rfl⟩
    · rw [show (e.1 == p.1) = false by simpa using q]
      rcases List.mem_cons.mp h with z | z
      · exact absurd (congrArg Prod.fst z) q
      · exact ih z
section
variable {P : Program} {w : World} {K : PySem.W.Frag} {mg : Str → Option Value} {base : Heap} {C : Cs} {Tb : List (Addr × Str)}
/-- how many branches -/
def Nd.small : Nd → Prop
  | .look _ br => br.length < 64
  | .act _ _ br => br.length < 64
  | .fin _ => True
theorem NdOk.small {ths : List (Md × Nat)} {hands a n : Nat} {nd : Nd} (ok : NdOk ths hands a n nd) (mok : ∀ x ∈ ths, MdOk x.1 ∧ x.2 < x.1.rows.length) : nd.small := by
  cases nd with
  | look t br =>
    obtain ⟨m, s, hm, o⟩ := ok
    have h1 : m.rows.length ≤ 8 := (mok _ (mem_of_get hm)).1.r8
    exact Nat.lt_of_le_of_lt o.len (by omega)
  | act t j br =>
    obtain ⟨m, s, hm, hj, o⟩ := ok
    exact Nat.lt_of_le_of_lt o.len (by decide)
  | fin h => trivial
def spCopied (Tb : List (Addr × Str)) : Sp := fun vs H Q _ => ∃ (G : Hp) (v : V) (nd : Nd), vs = [v] ∧ VNd G v nd ∧ nd.small ∧ Same G H ∧ ∀ v' G' H', Fr Tb X0 G H G' H' → VNdP G' v' nd → Q v' H'
theorem sc62 : FnScope ["node", "branches", "key"] ["node"] (C8.fnScope (top 62)) := C8.fnScope_by (by decide +kernel)
theorem ok_copied (T : Txt K mg C) {f : Addr} {fd : FuncData} (F : C8.Def K mg "copied" (top 62) f fd) (b : Binds K fd ["node"] []) : Cl P w K mg base 1 "copied" (spCopied Tb) [] := by
  refine C8.cal0 F b .nil sc62 (fun vs H Q E h => ?_) (fun cdv A outer s H vs Q E hr h => ?_)
  · obtain ⟨G, v, nd, rfl, _⟩ := h
    rfl
  · obtain ⟨G, v, nd, rfl, hv, hsm, hs, k⟩ := h
    have hu := hu_of hr
    have hc : (∃ a h, v = .ref a ∧ G a = some (.tup [.str "end", nV h]) ∧ VNdP G v nd) ∨ (∃ (a d : Addr) (z : Str) (rest : List V) (br : List (Nat × Nat)), v = .ref a ∧ z ≠ "end" ∧ rest.length ≤ 3 ∧ br.length < 64 ∧ G a = some (.tup (.str z :: rest ++ [.ref d])) ∧ G d = some (.dK (brK br)) ∧
        ∀ (a' d' : Addr) (kvs : List (Key × V)) (G' : Hp), G' a' = some (.tup (.str z :: rest ++ [.ref d'])) → G' d' = some (.dK kvs) → BrV kvs br → VNdP G' (.ref a') nd) := by
      cases nd with
      | fin h =>
        obtain ⟨a, rfl, ha⟩ := hv
        exact .inl ⟨a, h, rfl, ha, a, rfl, ha⟩
      | look t br =>
        obtain ⟨a, d, rfl, ha, hd⟩ := hv
        exact .inr ⟨a, d, "look", [nV t], br, rfl, by decide, by show 1 ≤ 3; decide, hsm, ha, hd, fun a' d' kvs G' h1 h2 h3 => ⟨a', d', kvs, rfl, h1, h2, h3⟩⟩
      | act t j br =>
        obtain ⟨a, d, rfl, ha, hd⟩ := hv
        exact .inr ⟨a, d, "do", [nV t, .str (nmAt j)], br, rfl, by decide, by show 2 ≤ 3; decide, hsm, ha, hd, fun a' d' kvs G' h1 h2 h3 => ⟨a', d', kvs, rfl, h1, h2, h3⟩⟩
    refine ⟨_, ((pss_cons (ps_if (pt_cmpR op_eq (pe_ix ix_tup (pv 0) pe_int (fun _ _ => rfl)) (C8.pe_gc (by rfl) T.c_END) (nomark _)) (pss_one (ps_ret (pv 0))) pss_nil)
      (pss_cons (ps_set (i := 1) sc62.nd rfl (Or.inr rfl) (pe_ix ix_tup (pv 0) (pe_un un_neg pe_int) (fun _ _ => rfl)))
      (pss_one (ps_ret (pe_op op_catA (pe_slice sl_tupA (pv 0) po_none (po_some (pe_un un_neg pe_int))) (pe_tup (pa_cons (pe_dc (own := [("key", 2)]) (tt := tYes) rfl sc62.nd (pi_list (pe_callB (call_sortedDI rfl) (by rfl) T.b_sorted (by decide +kernel) (pa_cons (pv 1) pa_nil))) (blkOk_by (N := ["node", "branches", "key"]) (sc := C8.fnScope (top 62)) (by decide +kernel)) (fun _ _ _ _ _ => (pg_name (i := 2) sc62.nd rfl (Or.inl rfl))) (fun _ _ _ _ _ => pts_nil) (fun _ _ _ _ _ => (pv 2)) (fun _ _ _ _ _ => (pe_dget hu (pv 1) (pv 2) (fun _ _ => rfl)))) pa_nil)))))))), ?_⟩
    rcases hc with ⟨a, h, rfl, ha, hvP⟩ | ⟨a, d, z, rest, br, rfl, hz, hr3, hb, ha, hd, k0⟩
    · have hA := hs _ _ ha
      refine ⟨_, rfl, _, _, _, _, rfl, rfl, .of hA, atI_nat (j := 0) rfl, rfl, true, rfl, iteT ?_⟩
      exact ⟨_, rfl, k _ _ _ (.refl hs) hvP⟩
    · have hA := hs _ _ ha
      refine ⟨_, rfl, _, _, _, _, rfl, rfl, .of hA, atI_nat (j := 0) rfl, rfl, false, congrArg V.bl (decide_eq_false fun e => hz (V.str.inj e)), iteF ?_⟩
      refine ⟨_, rfl, _, rfl, _, _, _, _, rfl, rfl, .of hA, atI_last, ?_⟩
      refine ⟨_, rfl, _, rfl, _, rfl, a, _, rfl, .of hA, fun h => absurd h.2 sIx_last, fun _ p np => ?_⟩
      rw [cutV_last]
      have f1 : Fr Tb X0 G H (upd G p (.tup (.str z :: rest))) (upd H p (.tup (.str z :: rest))) := Fr.alloc hs np
      refine ⟨_, rfl, d, brK br, br.map fun e => ((e.1 : Nat) : Int), rfl, .inl (f1.get hd), brK_keys br, by simpa using hb, fun ys q hperm hord nq => ?_⟩
      have f2 := f1.trans (Fr.alloc (o := .lst (ys.map V.int)) f1.s nq)
      refine ⟨q, rfl, ⟨_, .of upd_same⟩, fun D hD => ?_⟩
      have hlen : (ys.map V.int).length < 64 := by rw [List.length_map, hperm.length_eq]; simpa using hb
      have gq : upd (upd G p (.tup (.str z :: rest))) q (.lst (ys.map V.int)) q = some (.lst (ys.map V.int)) := upd_same
      generalize hG2 : upd (upd G p (.tup (.str z :: rest))) q (.lst (ys.map V.int)) = G2 at f2 gq
      generalize hH2 : upd (upd H p (.tup (.str z :: rest))) q (.lst (ys.map V.int)) = H2 at f2 hD
      have gD : G2 D = none := none_of_same f2.s hD
      refine ⟨fun i m H => m = ys.length - i ∧ i ≤ ys.length ∧ ∃ kvs, Fr Tb X0 G2 H2 G2 H ∧ H D = some (.dK kvs) ∧ kvs.length ≤ i ∧ ∀ k : Int, valV kvs (Sum.inl k) = if k ∈ ys.take i then valV (brK br) (Sum.inl k) else none,
        ⟨ys.length, by simp, Nat.zero_le _, [], Fr.alloc' f2.s hD, upd_same, Nat.le_refl _, fun k => by simp [valV_nil]⟩, ?_⟩
      rintro i m H3 ⟨rfl, hi, kvs, fr, hDD, hkl, hk⟩
      have hq3 : H3 q = some (.lst (ys.map V.int)) := fr.s _ _ gq
      by_cases hlt : i < ys.length
      · obtain ⟨y0, hy0⟩ := get_of_lt hlt
        refine .inr ⟨⟨_, .int y0, .of hq3, by rw [List.getElem?_map, hy0]; rfl⟩, fun H' => (i + 1 ≤ ys.length) ∧ ∃ kvs, Fr Tb X0 G2 H2 G2 H' ∧ H' D = some (.dK kvs) ∧ kvs.length ≤ i + 1 ∧ ∀ k : Int, valV kvs (Sum.inl k) = if k ∈ ys.take (i + 1) then valV (brK br) (Sum.inl k) else none,
          fun H' p' => ⟨ys.length - (i + 1), by omega, rfl, p'⟩, fun x H' y => ?_⟩
        obtain ⟨rfl, hy⟩ := y
        have e2 := hy _ (.of hq3)
        rw [List.getElem?_map] at e2
        rw [hy0] at e2
        have e2 : V.int y0 = x := Option.some.inj e2
        subst e2
        have hin : y0 ∈ br.map fun e => ((e.1 : Nat) : Int) := hperm.mem_iff.mp (mem_of_get hy0)
        obtain ⟨e, he, rfl⟩ := List.mem_map.mp hin
        obtain ⟨v0, hv0⟩ := nNd he
        refine ⟨rfl, _, rfl, _, rfl, _, rfl, d, nV v0, rfl, .inl ⟨brK br, Sum.inl ((e.1 : Nat) : Int), .inl (fr.get ((f1.g.trans ?_) _ _ hd)), rfl, by rw [valV_brK, hv0]; rfl⟩, kvs, Sum.inl ((e.1 : Nat) : Int), rfl, hDD, ?_, by omega, putK kvs (Sum.inl ((e.1 : Nat) : Int)) (nV v0), fr.mut hD gD hDD (fun q z => by cases z), upd_same, ?_, fun k => ?_⟩
        · rw [← hG2]
          exact same_upd f1.s nq
        · exact Nat.lt_of_le_of_lt hkl (Nat.lt_of_lt_of_le hlt (by rw [List.length_map] at hlen; exact Nat.le_trans (Nat.le_of_lt hlen) (by decide)))
        · unfold putK
          split
          · rw [List.length_map]; omega
          · rw [List.length_append]; simp; omega
        · rw [valV_put, List.take_add_one, hy0]
          by_cases ek : k = ((e.1 : Nat) : Int)
          · subst ek
            rw [if_pos rfl, if_pos (by simp), valV_brK, hv0]
            rfl
          · rw [if_neg (by intro z; exact ek (Sum.inl.inj z)), hk k]
            simp [ek]
      · have ei : i = ys.length := by omega
        subst ei
        refine .inl ⟨⟨_, .of hq3, by simp⟩, ?_⟩
        have f3 := fr.adopt hD gD hDD
        refine ⟨len1, fun t nt => ?_⟩
        have f4 := (f2.trans f3).trans (Fr.alloc (o := .tup [.ref D]) f3.s nt)
        have hp4 : (upd (upd G2 D (.dK kvs)) t (.tup [.ref D])) p = some (.tup (.str z :: rest)) := by
          have h1 : G2 p = some (.tup (.str z :: rest)) := by
            rw [← hG2]
            exact same_upd f1.s nq _ _ upd_same
          exact same_upd f3.s nt _ _ (same_upd (.refl G2) gD _ _ h1)
        refine ⟨p, t, _, _, rfl, rfl, .of (f4.s _ _ hp4), .of (f4.s _ _ upd_same), ?_, fun h => (by cases h), fun _ h => (by cases h), fun _ _ a' na => ?_⟩
        · have : (V.str z :: rest).length + 1 ≤ 5 := by simp; omega
          exact Nat.le_trans this (by decide)
        · have f5 := f4.trans (Fr.alloc (o := .tup (.str z :: rest ++ [.ref D])) f4.s na)
          refine k _ _ _ f5 (k0 a' D kvs _ upd_same (same_upd f4.s na _ _ (same_upd f3.s nt _ _ upd_same)) fun n => ?_)
          rw [hk, List.take_length]
          split
          · exact valV_brK br n
          · rename_i hno
            cases q0 : br.lookup n with
            | none => rfl
            | some v0 => exact absurd (hperm.mem_iff.mpr (List.mem_map.mpr ⟨(n, v0), lookup_mem q0, rfl⟩)) hno
def fSheets (t s n : Addr) : List (Str × V) := [("own_things", .ref t), ("own_scripts", .ref s), ("own_nodes", .ref n)]
/-- what an instance of Sheets or Program holds -/
structure Shts (C : Cs) (G : Hp) (t s : Addr) (ths : List (Md × Nat)) (scs : List (List Nd)) : Prop where
  ex : ∃ vs ws, G t = some (.tup vs) ∧ All2 (VBegP C G) vs ths ∧ G s = some (.tup ws) ∧ All2 (VScP G) ws scs
theorem Shts.mono {C : Cs} {G G' : Hp} {t s : Addr} {ths : List (Md × Nat)} {scs : List (List Nd)} (h : Shts C G t s ths scs) (e : Same G G') : Shts C G' t s ths scs :=
  let ⟨vs, ws, h1, h2, h3, h4⟩ := h.ex; ⟨vs, ws, e _ _ h1, h2.imp fun v x z => VBegP.mono e z, e _ _ h3, h4.imp fun v x z => VScP.mono e z⟩
def spSheetsI (C : Cs) (Tb : List (Addr × Str)) : Sp := fun vs H Q _ => ∃ (G : Hp) (x dx th : Addr) (us : List V) (ths : List (Md × Nat)) (sa : Addr) (ws : List V) (scs : List (List Nd)), vs = [.ref x, .ref th, .ref sa] ∧ H x = some (.ins C.sheets dx []) ∧ G x = none ∧ Ths C G th us ths ∧ Scs G sa ws ths scs ∧ Same G H ∧
  ∀ G' H' t s n, Fr Tb (fun b => b = x) G H G' H' → H' x = some (.ins C.sheets dx (fSheets t s n)) → Shts C G' t s ths scs → Q .non H'
theorem sc63_init : FnScope ["self", "things", "scripts", "thing", "state", "script", "node"] ["self", "things", "scripts"] (C8.fnScope (mt 63 0)) := C8.fnScope_by (by decide +kernel)
theorem ok_Sheets (T : Txt K mg C) {f : Addr} {fd : FuncData} (M : Mk K C.sheets f) (hm : mg "Sheets" = some (.ref C.sheets)) (F : C8.Fun K "__init__" "Sheets.__init__" (mt 63 0) f fd) (b : Binds K fd ["self", "things", "scripts"] [])
    (c_copied : Cl P w K mg base 1 "copied" (spCopied Tb) []) : C8.Mak P w K mg base 2 "Sheets" C.sheets (spSheetsI C Tb) [] := by
  refine C8.mak0 M hm F b .nil sc63_init (fun vs H Q E h => ?_) (fun cdv A outer s H vs Q E hr h => ?_)
  · obtain ⟨G, x, dx, th, us, ths, sa, ws, scs, rfl, _⟩ := h
    rfl
  · obtain ⟨G, x, dx, th, us, ths, sa, ws, scs, rfl, hx, gx, ht, hsc, hs, k⟩ := h
    refine ⟨_, ((pss_cons (ps_fld (pv 0) (pe_callTy call_tuple_of (by rfl) T.b_tuple (by decide +kernel) (pa_cons (pe_lc (own := [("thing", 3), ("state", 4)]) (tt := tYes) rfl sc63_init.nd (pi_list (pv 1)) (blkOk_by (N := ["self", "things", "scripts", "thing", "state", "script", "node"]) (sc := C8.fnScope (mt 63 0)) (by decide +kernel)) (fun _ _ _ _ _ => (pg_tupK K (n := 2) rfl (pgs_cons (pg_name (i := 3) sc63_init.nd rfl (Or.inl rfl)) (pgs_cons (pg_name (i := 4) sc63_init.nd rfl (Or.inl rfl)) pgs_nil)))) (fun _ _ _ _ _ => pts_nil) (fun _ _ _ _ _ => (pe_tup (pa_cons (pv 3) (pa_cons (pv 4) pa_nil))))) pa_nil)) rfl)
      (pss_cons (ps_fld (pv 0) (pe_callTy call_tuple_of (by rfl) T.b_tuple (by decide +kernel) (pa_cons (pe_lc (own := [("script", 5)]) (tt := tYes) rfl sc63_init.nd (pi_list (pv 2)) (blkOk_by (N := ["self", "things", "scripts", "thing", "state", "script", "node"]) (sc := C8.fnScope (mt 63 0)) (by decide +kernel)) (fun _ _ _ _ _ => (pg_name (i := 5) sc63_init.nd rfl (Or.inl rfl))) (fun _ _ _ _ _ => pts_nil) (fun _ _ _ _ _ => (pe_callTy (call_tuple_ofK K) (by rfl) T.b_tuple (by decide +kernel) (pa_cons (pe_lc (own := [("node", 6)]) (tt := tYes) rfl sc63_init.nd (pi_listK K (pv 5)) (blkOk_by (N := ["self", "things", "scripts", "thing", "state", "script", "node"]) (sc := (⟨ScopeKind.function, [(".0", NameKind.local), ("script", NameKind.local), ("tuple", NameKind.globalImplicit)], false, false, []⟩ : Scope)) (by decide +kernel)) (fun _ _ _ _ _ => (pg_name (i := 6) sc63_init.nd rfl (Or.inl rfl))) (fun _ _ _ _ _ => pts_nil) (fun _ _ _ _ _ => (C8.pe_c c_copied hr (by decide) (by rfl) (pa_cons (pv 6) pa_nil)))) pa_nil)))) pa_nil)) rfl)
      (pss_one (ps_fld (pv 0) (pe_callTy call_tuple_of (by rfl) T.b_tuple (by decide +kernel) (pa_cons (pe_lc2 (own := [("script", 5), ("node", 6)]) (tt := tYes) (vs1 := [6]) (tt1 := tYes) rfl sc63_init.nd (pi_tup (pe_fld (pv 0) rfl)) (blkOk_by (N := ["self", "things", "scripts", "thing", "state", "script", "node"]) (sc := C8.fnScope (mt 63 0)) (by decide +kernel)) (by decide) (fun _ _ _ _ _ => (pg_name (i := 5) sc63_init.nd rfl (Or.inl rfl))) (fun _ _ _ _ _ => pts_nil) (fun _ _ _ _ _ => (pi_tupK K (pv 5))) (fun _ _ _ _ _ => (pg_name (i := 6) sc63_init.nd rfl (Or.inl rfl))) (fun _ _ _ _ _ => pts_nil) (fun _ _ _ _ _ => (pv 6))) pa_nil)) rfl))))), ?_⟩
    have t12 := ht.sz
    have s4 := hsc.s4
    refine ⟨_, rfl, th, rfl, ⟨_, .of (hs _ _ ht.at_)⟩, fun D hD => ?_⟩
    refine lc_frY (T := Tb) (X := X0) (walk_list (a := th) (xs := us)) G (IAll (VBegP C) ths) hs hD (fun h => h) (by rw [ht.all.1]; exact Nat.le_trans t12 (by decide)) (fun H2 e => .of (e _ _ ht.at_)) IAll.nil (IAll.mono mBegP) IAll.len (fun i y G2 H2 H3 acc N hi hI fr hDD gD y' k' => ?_) (fun G2 H2 acc hI fr sg hDD => ?_)
    · obtain ⟨rfl, hy⟩ := y'
      obtain ⟨b0, hb0, q, u, rfl, hq, hu⟩ := ht.all.get' hy
      have hq3 := fr.get hq
      refine ⟨q, _, rfl, .of hq3, rfl, _, _, rfl, _, _, rfl, rfl, rfl, ?_⟩
      refine ⟨_, rfl, _, rfl, len2, fun t nt => ?_⟩
      exact k' _ _ _ (Fr.alloc fr.s nt) (hI.step mBegP (same_upd fr.s nt) hb0 ⟨t, u, rfl, upd_same, VThing.mono (same_upd fr.s nt) (VThing.mono fr.g hu)⟩)
    · refine ⟨D, acc, rfl, .inl ⟨.of hDD, fun t nt => ?_⟩⟩
      have f5 := fr.trans (Fr.alloc (o := .tup acc) fr.s nt)
      have hx5 := f5.at (fun h => h) hx
      have gx5 := f5.keep hx gx
      have hallT : All2 (VBegP C (upd (upd G2 D (.lst acc)) t (.tup acc))) acc ths := (hI.all ht.all.1.symm).imp fun v e h => VBegP.mono (same_upd fr.s nt) (VBegP.mono sg h)
      refine ⟨_, rfl, x, _, dx, _, rfl, hx5, T.k_Sheets, T.f_Sheets1, (by show (0:Nat) < 1000; decide), ?_⟩
      have f6 := (f5.of0 (Y := fun b => b = x)).trans (Fr.mutX (o := .ins C.sheets dx [("own_things", .ref t)]) f5.s rfl gx5 hx5 (fun q z => by cases z) (fun q z => by cases z))
      have hx6 : upd (upd H2 t (.tup acc)) x (.ins C.sheets dx [("own_things", .ref t)]) x = some (.ins C.sheets dx [("own_things", .ref t)]) := upd_same
      have hgt : (upd (upd G2 D (.lst acc)) t (.tup acc)) t = some (.tup acc) := upd_same
      generalize upd (upd G2 D (.lst acc)) t (.tup acc) = G6 at f6 hallT gx5 hgt f5
      refine ⟨_, rfl, sa, rfl, ⟨_, .of (f6.get hsc.at_)⟩, fun D2 hD2 => ?_⟩
      refine lc_frY (T := Tb) (X := X0) (walk_list (a := sa) (xs := ws)) G6 (IAll VScP scs) f6.s hD2 (fun h => h) (by rw [hsc.all.1]; exact Nat.le_trans s4 (by decide)) (fun H2 e => .of (e _ _ (f6.g _ _ hsc.at_))) IAll.nil (IAll.mono mScP) IAll.len (fun i y G7 H7 H8 acc2 N hi hI2 fr2 hDD2 gD2 y' k' => ?_) (fun G7 H7 acc2 hI2 fr2 sg2 hDD2 => ?_)
      · obtain ⟨rfl, hy⟩ := y'
        obtain ⟨sc, hsc0, a, ns, rfl, ha, hA⟩ := hsc.all.get' hy
        obtain ⟨kk, hkk⟩ := hsc.ok sc (mem_of_get hsc0)
        have l7 := hkk.l
        have eg : Same G G7 := f6.g.trans fr2.g
        refine ⟨rfl, _, rfl, a, rfl, ⟨_, .of (fr2.s _ _ (eg _ _ ha))⟩, fun D3 hD3 => ?_⟩
        refine lc_frY (T := Tb) (X := X0) (walk_list (a := a) (xs := ns)) G7 (IAll VNdP sc) fr2.s hD3 (fun h => h) (by rw [hA.1]; exact Nat.le_trans l7 (by decide)) (fun H2 e => .of (e _ _ (eg _ _ ha))) IAll.nil (IAll.mono mNdP) IAll.len (fun j z G8 H9 H10 acc3 N3 hj hI3 fr3 hDD3 gD3 z' k3 => ?_) (fun G8 H9 acc3 hI3 fr3 sg3 hDD3 => ?_)
        · obtain ⟨rfl, hz⟩ := z'
          obtain ⟨nd, hnd, hv⟩ := hA.get' hz
          refine ⟨rfl, _, rfl, G8, z, nd, rfl, VNd.mono (eg.trans fr3.g) hv, (hkk.nd j nd hnd).1.small ht.ok, fr3.s, fun v' G' H' f' hv' => ?_⟩
          exact k3 _ _ _ f' (hI3.step mNdP f'.g hnd hv')
        · refine ⟨D3, acc3, rfl, .inl ⟨.of hDD3, fun u nu => ?_⟩⟩
          have f7 := fr3.trans (Fr.alloc (o := .tup acc3) fr3.s nu)
          exact k' _ _ _ f7 (hI2.step mScP f7.g hsc0 ⟨u, acc3, rfl, upd_same, (hI3.all hA.1.symm).imp fun v e h => VNdP.mono (same_upd fr3.s nu) (VNdP.mono sg3 h)⟩)
      · refine ⟨D2, acc2, rfl, .inl ⟨.of hDD2, fun t2 nt2 => ?_⟩⟩
        have f7 := fr2.trans (Fr.alloc (o := .tup acc2) fr2.s nt2)
        have hx7 := f7.at (fun h => h) hx6
        have f8 := f6.trans f7.of0
        have gx7 := f7.keep hx6 gx5
        have hallS : All2 (VScP (upd (upd G7 D2 (.lst acc2)) t2 (.tup acc2))) acc2 scs := (hI2.all hsc.all.1.symm).imp fun v e h => VScP.mono (same_upd fr2.s nt2) (VScP.mono sg2 h)
        refine ⟨_, rfl, x, _, dx, _, rfl, hx7, T.k_Sheets, T.f_Sheets2, (by show (1:Nat) < 1000; decide), ?_⟩
        have f9 := f8.trans (Fr.mutX (o := .ins C.sheets dx [("own_things", .ref t), ("own_scripts", .ref t2)]) f8.s rfl gx7 hx7 (fun q z => by cases z) (fun q z => by cases z))
        have hgt2 : (upd (upd G7 D2 (.lst acc2)) t2 (.tup acc2)) t2 = some (.tup acc2) := upd_same
        have hgt7 := f7.g _ _ hgt
        have hallT7 := hallT.imp fun v e h => VBegP.mono f7.g h
        generalize upd (upd G7 D2 (.lst acc2)) t2 (.tup acc2) = G9 at f9 hallS gx7 hgt2 f7 hgt7 hallT7
        refine ⟨_, rfl, x, _, dx, _, _, rfl, upd_same, T.k_Sheets, T.f_Sheets2, rfl, t2, rfl, ⟨acc2, .of (f9.s _ _ hgt2)⟩, fun D4 hD4 => ?_⟩
        have gD4 := none_of_same f9.s hD4
        have hn : acc2.length ≤ 4 := by rw [hallS.1]; exact s4
        have hs9 := f9.s
        generalize hH9 : upd (upd H7 t2 (.tup acc2)) x (.ins C.sheets dx [("own_things", .ref t), ("own_scripts", .ref t2)]) = H9 at hs9
        have hD4' : H9 D4 = none := by rw [← hH9]; exact hD4
        refine ⟨fun i m H => m = acc2.length - i ∧ i ≤ acc2.length ∧ ∃ ac, Fr Tb X0 G9 H9 G9 H ∧ H D4 = some (.lst ac) ∧ ac.length ≤ 7 * i, ⟨acc2.length, by simp, Nat.zero_le _, [], by have := Fr.alloc' (T := Tb) (X := X0) (o := .lst []) hs9 hD4'; rw [← hH9] at this ⊢; exact this, upd_same, by simp⟩, ?_⟩
        rintro i m H10 ⟨rfl, hi, ac, fr3, hDD, hl⟩
        by_cases hlt : i < acc2.length
        · obtain ⟨v0, hv0⟩ := get_of_lt hlt
          obtain ⟨sc, hsc0, a, ns, rfl, ha, hA⟩ := hallS.get' hv0
          obtain ⟨kk, hkk⟩ := hsc.ok sc (mem_of_get hsc0)
          have l7 := hkk.l
          refine .inr ⟨⟨_, _, .of (fr3.s _ _ hgt2), hv0⟩, fun H' => i + 1 ≤ acc2.length ∧ ∃ ac, Fr Tb X0 G9 H9 G9 H' ∧ H' D4 = some (.lst ac) ∧ ac.length ≤ 7 * (i + 1), fun H' p' => ⟨acc2.length - (i + 1), by omega, rfl, p'⟩, fun x' H' y => ?_⟩
          obtain ⟨rfl, hy⟩ := y
          have e2 := hy _ (.of (fr3.s _ _ hgt2))
          rw [hv0] at e2
          cases e2
          refine ⟨rfl, _, rfl, a, rfl, ⟨ns, .of (fr3.s _ _ ha)⟩, ?_⟩
          refine ⟨fun j k H => k = ns.length - j ∧ j ≤ ns.length ∧ ∃ ac, Fr Tb X0 G9 H9 G9 H ∧ H D4 = some (.lst ac) ∧ ac.length ≤ 7 * i + j, ⟨ns.length, by simp, Nat.zero_le _, ac, fr3, hDD, by omega⟩, ?_⟩
          rintro j k' H11 ⟨rfl, hj, ac2, fr4, hDD2, hl2⟩
          by_cases hjt : j < ns.length
          · obtain ⟨w0, hw0⟩ := get_of_lt hjt
            refine .inr ⟨⟨_, _, .of (fr4.s _ _ ha), hw0⟩, fun H' => j + 1 ≤ ns.length ∧ ∃ ac, Fr Tb X0 G9 H9 G9 H' ∧ H' D4 = some (.lst ac) ∧ ac.length ≤ 7 * i + (j + 1), fun H' p' => ⟨ns.length - (j + 1), by omega, rfl, p'⟩, fun x' H' y => ?_⟩
            obtain ⟨rfl, hy⟩ := y
            have hsmall : ac2.length < sizeLine := Nat.lt_of_le_of_lt (m := 100) (by rw [hA.1] at hjt; omega) (by decide)
            exact ⟨rfl, _, rfl, ac2, hDD2, hsmall, by omega, _, fr4.mut hD4' gD4 hDD2 (fun q z => by cases z), upd_same, by simp; omega⟩
          · exact .inl ⟨⟨_, .of (fr4.s _ _ ha), by omega⟩, by omega, ac2, fr4, hDD2, by rw [hA.1] at hj; omega⟩
        · refine .inl ⟨⟨_, .of (fr3.s _ _ hgt2), by omega⟩, D4, ac, rfl, .inl ⟨.of hDD, fun t3 nt3 => ?_⟩⟩
          have fB : Fr Tb X0 G9 H9 G9 (upd H10 t3 (.tup ac)) := fr3.trans (Fr.alloc' (o := .tup ac) fr3.s nt3)
          have hx9 : H9 x = some (.ins C.sheets dx [("own_things", .ref t), ("own_scripts", .ref t2)]) := by rw [← hH9]; exact upd_same
          have hxB := fB.at (fun h => h) hx9
          rw [hH9] at f9
          have fC := f9.trans fB.of0
          refine ⟨_, rfl, x, _, dx, _, rfl, hxB, T.k_Sheets, T.f_Sheets3, (by show (2:Nat) < 1000; decide), ?_⟩
          have fD := fC.trans (Fr.mutX (o := .ins C.sheets dx (fSheets t t2 t3)) fC.s rfl gx7 hxB (fun q z => by cases z) (fun q z => by cases z))
          exact k _ _ t t2 t3 fD upd_same ⟨acc, acc2, hgt7, hallT7, hgt2, hallS⟩
end
end K57
set_option Elab.async false
set_option linter.all false
set_option autoImplicit false
set_option maxRecDepth 100000
set_option maxHeartbeats 2000000
/-! K57X: programs are made. -/
namespace K57
open PySem PySem.Spec PyProof.Rows L2
section
variable {P : Program} {w : World} {K : PySem.W.Frag} {mg : Str → Option Value} {base : Heap} {C : Cs} {Tb : List (Addr × Str)}
def spProgI (C : Cs) (Tb : List (Addr × Str)) : Sp := fun vs H Q _ => ∃ (G : Hp) (x dx th : Addr) (us : List V) (ths : List (Md × Nat)) (sa : Addr) (ws : List V) (scs : List (List Nd)), vs = [.ref x, .ref th, .ref sa] ∧ H x = some (.ins C.prog dx []) ∧ G x = none ∧ Ths C G th us ths ∧ 1 ≤ ths.length ∧ Scs G sa ws ths scs ∧ Same G H ∧
  ∀ G' H' t s n, Fr Tb (fun b => b = x) G H G' H' → H' x = some (.ins C.prog dx (fSheets t s n)) → Shts C G' t s ths scs → Q .non H'
theorem sc64_init : FnScope ["self", "things", "scripts", "sheets"] ["self", "things", "scripts"] (C8.fnScope (mt 64 0)) := C8.fnScope_by (by decide +kernel)
theorem ok_ProgI (T : Txt K mg C) {f : Addr} {fd : FuncData} (M : Mk K C.prog f) (hm : mg "Program" = some (.ref C.prog)) (F : C8.Fun K "__init__" "Program.__init__" (mt 64 0) f fd) (b : Binds K fd ["self", "things", "scripts"] [])
    (c_want_things : Cl P w K mg base 6 "want_things" (spThings C Tb) []) (c_want_scripts : Cl P w K mg base 8 "want_scripts" (spScripts C Tb) []) (c_want_limits : Cl P w K mg base 1 "want_limits" (spScripts C Tb) [])
    (c_Sheets : C8.Mak P w K mg base 2 "Sheets" C.sheets (spSheetsI C Tb) []) : C8.Mak P w K mg base 9 "Program" C.prog (spProgI C Tb) [] := by
  refine C8.mak0 M hm F b .nil sc64_init (fun vs H Q E h => ?_) (fun cdv A outer s H vs Q E hr h => ?_)
  · obtain ⟨G, x, dx, th, us, ths, sa, ws, scs, rfl, _⟩ := h
    rfl
  · obtain ⟨G, x, dx, th, us, ths, sa, ws, scs, rfl, hx, gx, ht, t1, hsc, hs, k⟩ := h
    refine ⟨_, ((pss_cons (ps_if (pt_not (pt_val (pe_callB call_isi (by rfl) T.b_isinstance (by decide +kernel) (pa_cons (pv 1) (pa_cons (C8.pe_gc (by rfl) T.c_Sheets) pa_nil))))) (pss_cons (ps_expr (C8.pe_c c_want_things hr (by decide) (by rfl) (pa_cons (pv 1) pa_nil)))
      (pss_cons (ps_expr (C8.pe_c c_want_scripts hr (by decide) (by rfl) (pa_cons (pv 1) (pa_cons (pv 2) pa_nil))))
      (pss_one (ps_expr (C8.pe_c c_want_limits hr (by decide) (by rfl) (pa_cons (pv 1) (pa_cons (pv 2) pa_nil))))))) pss_nil)
      (pss_cons (ps_set (i := 3) sc64_init.nd rfl (Or.inl rfl) (pe_ifExp (pt_val (pe_callB call_isi (by rfl) T.b_isinstance (by decide +kernel) (pa_cons (pv 1) (pa_cons (C8.pe_gc (by rfl) T.c_Sheets) pa_nil)))) (pv 1) (C8.pe_mk c_Sheets hr (by decide) (by rfl) (pa_cons (pv 1) (pa_cons (pv 2) pa_nil)))))
      (pss_cons (ps_fld (pv 0) (pe_fld (pv 3) rfl) rfl)
      (pss_cons (ps_fld (pv 0) (pe_fld (pv 3) rfl) rfl)
      (pss_one (ps_fld (pv 0) (pe_fld (pv 3) rfl) rfl))))))), ?_⟩
    refine ⟨_, rfl, _, _, _, _, false, rfl, .own _, .base (.lst (hs _ _ ht.at_)), T.n_Sheets, false, rfl, iteT ?_⟩
    refine ⟨_, rfl, G, th, us, ths, rfl, ht, t1, hs, fun Ga Ha fa => ?_⟩
    refine ⟨_, rfl, _, rfl, Ga, th, us, ths, sa, ws, scs, rfl, ht.mono fa.g, hsc.mono fa.g, fa.s, fun Gb Hb fb => ?_⟩
    have fab := fa.trans fb
    refine ⟨_, rfl, _, rfl, Gb, th, us, ths, sa, ws, scs, rfl, ht.mono fab.g, hsc.mono fab.g, fab.s, fun G1 H1 fc => ?_⟩
    have f1 := fab.trans fc
    refine ⟨_, rfl, _, _, _, _, false, rfl, .own _, .base (.lst (f1.get ht.at_)), T.n_Sheets, false, rfl, iteF ?_⟩
    refine ⟨_, rfl, _, rfl, fun y dy ny ndy ne => ?_⟩
    have f2 : Fr Tb X0 G1 H1 G1 (upd (upd H1 dy (.own y)) y (.ins C.sheets dy [])) := (Fr.alloc' f1.s ndy).trans (Fr.alloc' (f1.s.trans (upd_keep ndy)) (by rw [upd_ne (Ne.symm ne)]; exact ny))
    refine ⟨G1, y, dy, th, us, ths, sa, ws, scs, rfl, upd_same, none_of_same f1.s ny, ht.mono f1.g, hsc.mono f1.g, f2.s, fun G2 H2 t s0 n f3 hy hsh => ⟨rfl, ?_⟩⟩
    have f4 := f1.trans (Fr.drop f2 f3 ny)
    have hx4 := f4.at (fun h => h) hx
    have nxy : y ≠ x := fun z => by subst z; have := f1.at (fun h => h) hx; rw [ny] at this; cases this
    have gx4 := f4.keep hx gx
    refine ⟨_, rfl, y, _, dy, _, _, rfl, hy, T.k_Sheets, T.f_Sheets1, rfl, ?_⟩
    refine ⟨_, rfl, x, _, dx, _, rfl, hx4, T.k_Program, T.f_Prog1, (by show (0:Nat) < 1000; decide), ?_⟩
    have f5 := (f4.of0 (Y := fun b => b = x)).trans (Fr.mutX (o := .ins C.prog dx [("own_things", .ref t)]) f4.s rfl gx4 hx4 (fun q z => by cases z) (fun q z => by cases z))
    refine ⟨_, rfl, y, _, dy, _, _, rfl, (upd_ne nxy).trans hy, T.k_Sheets, T.f_Sheets2, rfl, ?_⟩
    refine ⟨_, rfl, x, _, dx, _, rfl, upd_same, T.k_Program, T.f_Prog2, (by show (1:Nat) < 1000; decide), ?_⟩
    have f6 := f5.trans (Fr.mutX (o := .ins C.prog dx [("own_things", .ref t), ("own_scripts", .ref s0)]) f5.s rfl gx4 upd_same (fun q z => by cases z) (fun q z => by cases z))
    refine ⟨_, rfl, y, _, dy, _, _, rfl, (upd_ne nxy).trans ((upd_ne nxy).trans hy), T.k_Sheets, T.f_Sheets3, rfl, ?_⟩
    refine ⟨_, rfl, x, _, dx, _, rfl, upd_same, T.k_Program, T.f_Prog3, (by show (2:Nat) < 1000; decide), ?_⟩
    have f7 := f6.trans (Fr.mutX (o := .ins C.prog dx (fSheets t s0 n)) f6.s rfl gx4 upd_same (fun q z => by cases z) (fun q z => by cases z))
    exact k _ _ t s0 n f7 upd_same hsh
def spMade (C : Cs) (Tb : List (Addr × Str)) : Sp := fun vs H Q _ => ∃ (G : Hp) (v : V) (Pl : Pl), vs = [v] ∧ VPl G v Pl ∧ PlOk Pl ∧ Same G H ∧ ∀ v' G' H', Fr Tb X0 G H G' H' → VProg C G' v' Pl → Q v' H'
theorem mThing (G G' : Hp) (v : V) (x : Md) (e : Same G G') (h : VThing C G v x) : VThing C G' v x := VThing.mono e h
theorem sc104 : FnScope ["_law_plan_here", "_law_things_now", "_law_model_here", "_law_state"] ["_law_plan_here"] (C8.fnScope (top 104)) := C8.fnScope_by (by decide +kernel)
theorem ok_made (T : Txt K mg C) {f : Addr} {fd : FuncData} (F : C8.Def K mg "_law_made" (top 104) f fd) (b : Binds K fd ["_law_plan_here"] []) (c_Thing : C8.Mak P w K mg base 8 "Thing" C.thing (spThingI C Tb) []) (c_Program : C8.Mak P w K mg base 9 "Program" C.prog (spProgI C Tb) []) :
    Cl P w K mg base 11 "_law_made" (spMade C Tb) [] := by
  refine C8.cal0 F b .nil sc104 (fun vs H Q E h => ?_) (fun cdv A outer s H vs Q E hr h => ?_)
  · obtain ⟨G, v, Pl, rfl, _⟩ := h
    rfl
  · obtain ⟨G, v, Pl, rfl, ⟨a, b1, c1, vs, ws, rfl, ha, hb, hB, hc, hS⟩, ok, hs, k⟩ := h
    refine ⟨_, ((pss_cons (ps_setLc (i := 1) (own := [("_law_model_here", 2), ("_law_state", 3)]) (tt := tYes) rfl sc104.nd rfl rfl (sw_true rfl rfl rfl (by decide +kernel)) (pi_list (pe_ix ix_tup (pv 0) pe_int (fun _ _ => rfl))) (blkOk_by (N := ["_law_plan_here", "_law_things_now", "_law_model_here", "_law_state"]) (sc := C8.fnScope (top 104)) (by decide +kernel)) (fun _ _ _ _ _ => (pg_tupK K (n := 2) rfl (pgs_cons (pg_name (i := 2) sc104.nd rfl (Or.inl rfl)) (pgs_cons (pg_name (i := 3) sc104.nd rfl (Or.inl rfl)) pgs_nil)))) (fun _ _ _ _ _ => pts_nil) (fun _ _ _ _ _ => (pe_tup (pa_cons (C8.pe_mk c_Thing hr (by decide) (by rfl) (pa_cons (pe_ix (ix_tupK K) (pv 2) pe_int (fun _ _ => rfl)) (pa_cons (pe_ix (ix_tupK K) (pv 2) pe_int (fun _ _ => rfl)) pa_nil))) (pa_cons (pv 3) pa_nil)))))
      (pss_one (ps_ret (C8.pe_mk c_Program hr (by decide) (by rfl) (pa_cons (pv 1) (pa_cons (pe_ix ix_tup (pv 0) pe_int (fun _ _ => rfl)) pa_nil))))))), ?_⟩
    have t4 := ok.t4
    refine ⟨_, rfl, _, _, _, _, rfl, rfl, .of (hs _ _ ha), atI_nat (j := 0) rfl, b1, rfl, ⟨_, .of (hs _ _ hb)⟩, fun D hD => ?_⟩
    refine lc_frY (T := Tb) (X := X0) (walk_list (a := b1) (xs := vs)) G (IAll (VBegP C) Pl.ths) hs hD (fun h => h) (by rw [hB.1]; exact Nat.le_trans t4 (by decide)) (fun H2 e => .of (e _ _ hb)) IAll.nil (IAll.mono mBegP) IAll.len (fun i y G2 H2 H3 acc N hi hI fr hDD gD y' k' => ?_) (fun G2 H2 acc hI fr sg hDD => ?_)
    · obtain ⟨rfl, hy⟩ := y'
      obtain ⟨b0, hb0, q, u, rfl, hq, hu⟩ := hB.get' hy
      obtain ⟨ma, n, r, rfl, hma, hn, hr0⟩ := VMd.mono fr.g hu
      have mok := (ok.th _ (mem_of_get hb0)).1
      refine ⟨q, _, rfl, .of (fr.get hq), rfl, _, _, rfl, _, _, rfl, rfl, rfl, ?_⟩
      refine ⟨_, rfl, _, _, _, _, rfl, rfl, .of (fr.s _ _ hma), atI_nat (j := 0) rfl, _, rfl, _, _, _, _, rfl, rfl, .of (fr.s _ _ hma), atI_nat (j := 1) rfl, fun y dy ny ndy ne => ?_⟩
      have f2 : Fr Tb X0 G2 H3 G2 (upd (upd H3 dy (.own y)) y (.ins C.thing dy [])) := (Fr.alloc' fr.s ndy).trans (Fr.alloc' (fr.s.trans (upd_keep ndy)) (by rw [upd_ne (Ne.symm ne)]; exact ny))
      refine ⟨G2, y, dy, n, r, b0.1, rfl, upd_same, none_of_same fr.s ny, hn, hr0, mok, f2.s, fun G3 H3 td tr ws3 f3 hy3 htd htr hA3 => ⟨rfl, ?_⟩⟩
      have gy : G3 y = none := f3.keep upd_same (none_of_same fr.s ny)
      have f4 := (Fr.drop f2 f3 ny).adopt ny gy hy3
      have e3 : Same G3 (upd G3 y (.ins C.thing dy (fParts td tr))) := same_upd (.refl _) gy
      refine ⟨_, rfl, len2, fun t nt => ?_⟩
      have f5 := f4.trans (Fr.alloc (o := .tup [.ref y, nV b0.2]) f4.s nt)
      refine k' _ _ _ f5 (hI.step mBegP f5.g hb0 ⟨t, _, rfl, upd_same, VThing.mono (same_upd f4.s nt) ⟨y, dy, td, tr, ws3, rfl, upd_same, e3 _ _ htd, e3 _ _ htr, hA3.imp fun v e h => VRowT.mono e3 h⟩⟩)
    · refine ⟨_, rfl, _, rfl, _, _, _, _, rfl, rfl, .of (fr.get ha), atI_nat (j := 1) rfl, fun y dy ny ndy ne => ?_⟩
      have hall := (hI.all hB.1.symm).imp fun v e h => VBegP.mono sg h
      have hD1 : (upd G2 D (.lst acc)) D = some (.lst acc) := upd_same
      generalize upd G2 D (.lst acc) = G3 at fr sg hall hD1
      have f2 : Fr Tb X0 G3 H2 G3 (upd (upd H2 dy (.own y)) y (.ins C.prog dy [])) := (Fr.alloc' fr.s ndy).trans (Fr.alloc' (fr.s.trans (upd_keep ndy)) (by rw [upd_ne (Ne.symm ne)]; exact ny))
      refine ⟨G3, y, dy, D, acc, Pl.ths, c1, ws, Pl.scs, rfl, upd_same, none_of_same fr.s ny, ⟨hD1, hall, ok.th, by omega⟩, ok.t1, ⟨fr.g _ _ hc, hS.imp fun v e h => VSc.mono fr.g h, fun sc hsc => ?_, ok.s2, ok.s4⟩, f2.s, fun G4 H4 t s0 n f3 hy hsh => ⟨rfl, ?_⟩⟩
      · obtain ⟨M, _, hM⟩ := ok.sc
        obtain ⟨kk, _, S⟩ := hM sc hsc
        exact ⟨kk, S⟩
      · have gy : G4 y = none := f3.keep upd_same (none_of_same fr.s ny)
        have f4 := (Fr.drop f2 f3 ny).adopt ny gy hy
        have e3 : Same G4 (upd G4 y (.ins C.prog dy (fSheets t s0 n))) := same_upd (.refl _) gy
        obtain ⟨vs', ws', h1, h2, h3, h4⟩ := (hsh.mono e3).ex
        exact k _ _ _ (fr.trans f4) ⟨y, dy, t, s0, .ref n, vs', ws', rfl, upd_same, h1, h2, h3, h4⟩
end
end K57
set_option Elab.async false
set_option linter.all false
set_option autoImplicit false
set_option maxRecDepth 100000
set_option maxHeartbeats 2000000
/-! K57Y: weavings: places and steps. -/
namespace K57
open PySem PySem.Spec PyProof.Rows L2
section
variable {P : Program} {w : World} {K : PySem.W.Frag} {mg : Str → Option Value} {base : Heap} {C : Cs} {Tb : List (Addr × Str)}
def IEq (f : Nat → V) : Nat → Hp → List V → Prop := fun i _ acc => acc = (List.range i).map f
theorem IEq.step {f : Nat → V} {i : Nat} {G G' : Hp} {acc : List V} (h : IEq f i G acc) : IEq f (i + 1) G' (acc ++ [f i]) := by
  show acc ++ [f i] = (List.range (i + 1)).map f
  rw [show acc = (List.range i).map f from h, List.range_succ, List.map_append]
  rfl
theorem IEq.len {f : Nat → V} (i : Nat) (G : Hp) (acc : List V) (h : IEq f i G acc) : acc.length ≤ i := by rw [show acc = (List.range i).map f from h]; simp
theorem map_zero {α : Type} (l : List α) : (List.range l.length).map (fun _ => nV 0) = (l.map fun _ => some 0).map oV := by
  apply List.ext_getElem
  · simp
  · intro i h1 h2
    simp [oV, nV]
theorem range_eq {vs : List V} {l : List Nat} (h : ∀ i, i < l.length → vs[i]? = (l[i]?).map nV) (e : vs.length = l.length) : vs = l.map nV := by
  apply List.ext_getElem?
  intro i
  rw [List.getElem?_map]
  by_cases q : i < l.length
  · exact h i q
  · rw [List.getElem?_eq_none (by omega), List.getElem?_eq_none (by omega)]
    rfl
def spFirst (C : Cs) (Tb : List (Addr × Str)) : Sp := fun vs H Q _ => ∃ (G : Hp) (v : V) (Pl : Pl), vs = [v] ∧ VProg C G v Pl ∧ PlOk Pl ∧ Same G H ∧ ∀ v' G' H', Fr Tb X0 G H G' H' → VSpot G' v' (begin Pl) → Q v' H'
def INat (l : List Nat) : Nat → Hp → List V → Prop := fun i _ acc => acc = (l.take i).map nV
theorem INat.step {l : List Nat} {i x : Nat} {G G' : Hp} {acc : List V} (h : INat l i G acc) (hx : l[i]? = some x) : INat l (i + 1) G' (acc ++ [nV x]) := by
  show acc ++ [nV x] = (l.take (i + 1)).map nV
  rw [show acc = (l.take i).map nV from h, List.take_add_one, hx]
  simp
theorem INat.len {l : List Nat} (i : Nat) (G : Hp) (acc : List V) (h : INat l i G acc) : acc.length ≤ i := by rw [show acc = (l.take i).map nV from h]; simp; omega
theorem sc67 : FnScope ["program", "script", "thing", "state"] ["program"] (C8.fnScope (top 67)) := C8.fnScope_by (by decide +kernel)
theorem ok_first_place (T : Txt K mg C) {f : Addr} {fd : FuncData} (F : C8.Def K mg "first_place" (top 67) f fd) (b : Binds K fd ["program"] []) : Cl P w K mg base 1 "first_place" (spFirst C Tb) [] := by
  refine C8.cal0 F b .nil sc67 (fun vs H Q E h => ?_) (fun cdv A outer s H vs Q E hr h => ?_)
  · obtain ⟨G, v, Pl, rfl, _⟩ := h
    rfl
  · obtain ⟨G, v, Pl, rfl, ⟨a, dx, t, sa, n, vs, ws, rfl, ha, ht, hT, hsa, hS⟩, ok, hs, k⟩ := h
    refine ⟨_, ((pss_one (ps_ret (pe_tup (pa_cons (pe_callTy call_tuple_of (by rfl) T.b_tuple (by decide +kernel) (pa_cons (pe_lc (own := [("script", 1)]) (tt := tYes) rfl sc67.nd (pi_tup (pe_fld (pv 0) rfl)) (blkOk_by (N := ["program", "script", "thing", "state"]) (sc := C8.fnScope (top 67)) (by decide +kernel)) (fun _ _ _ _ _ => (pg_name (i := 1) sc67.nd rfl (Or.inl rfl))) (fun _ _ _ _ _ => pts_nil) (fun _ _ _ _ _ => pe_int)) pa_nil)) (pa_cons (pe_callTy call_tuple_of (by rfl) T.b_tuple (by decide +kernel) (pa_cons (pe_lc (own := [("thing", 2), ("state", 3)]) (tt := tYes) rfl sc67.nd (pi_tup (pe_fld (pv 0) rfl)) (blkOk_by (N := ["program", "script", "thing", "state"]) (sc := C8.fnScope (top 67)) (by decide +kernel)) (fun _ _ _ _ _ => (pg_tupK K (n := 2) rfl (pgs_cons (pg_name (i := 2) sc67.nd rfl (Or.inl rfl)) (pgs_cons (pg_name (i := 3) sc67.nd rfl (Or.inl rfl)) pgs_nil)))) (fun _ _ _ _ _ => pts_nil) (fun _ _ _ _ _ => (pv 3))) pa_nil)) pa_nil)))))), ?_⟩
    have t4 := ok.t4
    have s4 := ok.s4
    refine ⟨_, rfl, a, _, dx, _, _, rfl, hs _ _ ha, T.k_Program, T.f_Prog2, rfl, sa, rfl, ⟨_, .of (hs _ _ hsa)⟩, fun D hD => ?_⟩
    refine lc_frY (T := Tb) (X := X0) (walk_tup (a := sa) (xs := ws)) G (IEq fun _ => nV 0) hs hD (fun h => h) (by rw [hS.1]; exact Nat.le_trans s4 (by decide)) (fun H2 e => .of (e _ _ hsa)) rfl (fun _ _ _ _ _ h => h) IEq.len (fun i y G2 H2 H3 acc N hi hI fr hDD gD y' k' => ?_) (fun G2 H2 acc hI fr sg hDD => ?_)
    · obtain ⟨rfl, hy⟩ := y'
      exact ⟨rfl, k' _ _ _ (.refl fr.s) hI.step⟩
    · refine ⟨D, acc, rfl, .inl ⟨.of hDD, fun t1 nt1 => ?_⟩⟩
      have f2 := fr.trans (Fr.alloc (o := .tup acc) fr.s nt1)
      have ht1 : upd (upd G2 D (.lst acc)) t1 (.tup acc) t1 = some (.tup acc) := upd_same
      generalize upd (upd G2 D (.lst acc)) t1 (.tup acc) = G3 at f2 ht1
      refine ⟨_, rfl, a, _, dx, _, _, rfl, f2.get ha, T.k_Program, T.f_Prog1, rfl, t, rfl, ⟨_, .of (f2.get ht)⟩, fun D2 hD2 => ?_⟩
      refine lc_frY (T := Tb) (X := X0) (walk_tup (a := t) (xs := vs)) G3 (INat (Pl.ths.map (·.2))) f2.s hD2 (fun h => h) (by rw [hT.1]; exact Nat.le_trans t4 (by decide)) (fun H2 e => .of (e _ _ (f2.g _ _ ht))) rfl (fun _ _ _ _ _ h => h) INat.len (fun i y G4 H4 H5 acc2 N hi hI2 fr2 hDD2 gD2 y' k' => ?_) (fun G4 H4 acc2 hI2 fr2 sg2 hDD2 => ?_)
      · obtain ⟨rfl, hy⟩ := y'
        obtain ⟨b0, hb0, q, u, rfl, hq, hu⟩ := hT.get' hy
        refine ⟨q, _, rfl, .of ((f2.trans fr2).get hq), rfl, _, _, rfl, _, _, rfl, rfl, rfl, _, rfl, ?_⟩
        exact k' _ _ _ (.refl fr2.s) (hI2.step (x := b0.2) (by rw [List.getElem?_map, hb0]; rfl))
      · refine ⟨D2, acc2, rfl, .inl ⟨.of hDD2, fun t2 nt2 => ?_⟩⟩
        have f3 := f2.trans (fr2.trans (Fr.alloc (o := .tup acc2) fr2.s nt2))
        have h1 := (fr2.trans (Fr.alloc (o := .tup acc2) fr2.s nt2)).g _ _ ht1
        have ht2 : upd (upd G4 D2 (.lst acc2)) t2 (.tup acc2) t2 = some (.tup acc2) := upd_same
        generalize upd (upd G4 D2 (.lst acc2)) t2 (.tup acc2) = G5 at f3 h1 ht2
        refine ⟨len2, fun p np => k _ _ _ (f3.trans (Fr.alloc (o := .tup [.ref t1, .ref t2]) f3.s np)) ⟨p, rfl, t1, t2, upd_same, ?_, ?_⟩⟩
        · rw [same_upd f3.s np _ _ h1]
          congr 2
          rw [show acc = (List.range ws.length).map (fun _ => nV 0) from hI, hS.1, map_zero]
          rfl
        · rw [same_upd f3.s np _ _ ht2]
          congr 2
          rw [show acc2 = ((Pl.ths.map (·.2)).take vs.length).map nV from hI2, List.take_of_length_le (by rw [hT.1]; simp)]
          rfl
theorem SpotAt.n1 {G : Hp} {a : Addr} {s : Spot} (h : SpotAt G a s) : ∃ t1 t2, G a = some (.tup [.ref t1, .ref t2]) ∧ G t1 = some (.tup (s.1.map oV)) ∧ G t2 = some (.tup (s.2.map nV)) := h
theorem get_oV {l : List (Option Nat)} {h : Nat} {o : Option Nat} (e : l[h]? = some o) : (l.map oV)[h]? = some (oV o) := by rw [List.getElem?_map, e]; rfl
theorem get_nV {l : List Nat} {h n : Nat} (e : l[h]? = some n) : (l.map nV)[h]? = some (nV n) := by rw [List.getElem?_map, e]; rfl
def spNodeAt (C : Cs) : Sp := fun vs H Q _ => ∃ (v u : V) (Pl : Pl) (s : Spot) (h n : Nat) (sc : List Nd) (nd : Nd), vs = [v, u, nV h] ∧ VProg C H v Pl ∧ VSpot H u s ∧ s.1[h]? = some (some n) ∧ Pl.scs[h]? = some sc ∧ sc[n]? = some nd ∧ ∀ v', VNdP H v' nd → Q v' H
theorem sc68 : FnScope ["program", "place", "hand"] ["program", "place", "hand"] (C8.fnScope (top 68)) := C8.fnScope_by (by decide +kernel)
theorem ok_node_at (T : Txt K mg C) {f : Addr} {fd : FuncData} (F : C8.Def K mg "node_at" (top 68) f fd) (b : Binds K fd ["program", "place", "hand"] []) : Cl P w K mg base 1 "node_at" (spNodeAt C) [] := by
  refine C8.cal0 F b .nil sc68 (fun vs H Q E h => ?_) (fun cdv A outer s H vs Q E hr h => ?_)
  · obtain ⟨v, u, Pl, s, h, n, sc, nd, rfl, _⟩ := h
    rfl
  · obtain ⟨v, u, Pl, s, h, n, sc, nd, rfl, ⟨a, dx, t, sa, n0, vs, ws, rfl, ha, ht, hT, hsa, hS⟩, ⟨q, rfl, t1, t2, hq, ht1, ht2⟩, e1, e2, e3, k⟩ := h
    obtain ⟨v1, hv1, r, us, rfl, hr0, hR⟩ := hS.get e2
    obtain ⟨v2, hv2, hN⟩ := hR.get e3
    refine ⟨_, ((pss_one (ps_ret (pe_ix ix_tup (pe_ix ix_tup (pe_fld (pv 0) rfl) (pv 2) (fun _ _ => rfl)) (pe_ix ix_tup (pe_ix ix_tup (pv 1) pe_int (fun _ _ => rfl)) (pv 2) (fun _ _ => rfl)) (fun _ _ => rfl))))), ?_⟩
    exact ⟨_, rfl, a, _, dx, _, _, rfl, ha, T.k_Program, T.f_Prog2, rfl, _, rfl, _, _, _, _, rfl, rfl, .of hsa, atI_nat hv1, _, rfl, _, _, _, _, rfl, rfl, .of hq, atI_nat (j := 0) rfl, _, rfl, _, _, _, _, rfl, rfl, .of ht1, atI_nat (get_oV e1), _, _, _, _, rfl, rfl, .of hr0, atI_nat hv2, k v2 hN⟩
def spLost : Sp := fun vs H Q _ => ∃ (u : V) (s : Spot) (h : Nat) (o : Option Nat), vs = [u, nV h] ∧ VSpot H u s ∧ s.1[h]? = some o ∧ Q (.bl o.isNone) H
theorem sc69 : FnScope ["place", "hand"] ["place", "hand"] (C8.fnScope (top 69)) := C8.fnScope_by (by decide +kernel)
theorem ok_is_lost (T : Txt K mg C) {f : Addr} {fd : FuncData} (F : C8.Def K mg "is_lost" (top 69) f fd) (b : Binds K fd ["place", "hand"] []) : Cl P w K mg base 1 "is_lost" spLost [] := by
  refine C8.cal0 F b .nil sc69 (fun vs H Q E h => ?_) (fun cdv A outer s H vs Q E hr h => ?_)
  · obtain ⟨u, s, h, o, rfl, _⟩ := h
    rfl
  · obtain ⟨u, s, h, o, rfl, ⟨q, rfl, t1, t2, hq, ht1, ht2⟩, e1, k⟩ := h
    refine ⟨_, ((pss_one (ps_ret (pe_cmp (pc_isN (pe_ix ix_tup (pe_ix ix_tup (pv 0) pe_int (fun _ _ => rfl)) (pv 1) (fun _ _ => rfl))))))), ?_⟩
    refine ⟨_, rfl, _, _, _, _, rfl, rfl, .of hq, atI_nat (j := 0) rfl, _, rfl, _, _, _, _, rfl, rfl, .of ht1, atI_nat (get_oV e1), ?_⟩
    show Q (.bl (decide (oV o = .non))) H
    cases o with
    | none => exact k
    | some n => exact k
theorem nd_tag {G : Hp} {v : V} {nd : Nd} (h : VNdP G v nd) : ∃ a xs z, v = .ref a ∧ G a = some (.tup (.str z :: xs)) ∧ (!decide (V.str z = V.str "end")) = nd.inner := by
  cases nd with
  | look t br => obtain ⟨a, d, kvs, h1, h2, _⟩ := h; exact ⟨a, _, _, h1, h2, rfl⟩
  | act t j br => obtain ⟨a, d, kvs, h1, h2, _⟩ := h; exact ⟨a, _, _, h1, h2, rfl⟩
  | fin t => obtain ⟨a, h1, h2⟩ := h; exact ⟨a, _, _, h1, h2, rfl⟩
def spCanGo (C : Cs) : Sp := fun vs H Q _ => ∃ (v u : V) (Pl : Pl) (s : Spot) (h : Nat), vs = [v, u, nV h] ∧ VProg C H v Pl ∧ VSpot H u s ∧ Good Pl s ∧ h < s.1.length ∧ Q (.bl (canGo Pl s h)) H
theorem sc70 : FnScope ["program", "place", "hand"] ["program", "place", "hand"] (C8.fnScope (top 70)) := C8.fnScope_by (by decide +kernel)
theorem ok_can_go (T : Txt K mg C) {f : Addr} {fd : FuncData} (F : C8.Def K mg "can_go" (top 70) f fd) (b : Binds K fd ["program", "place", "hand"] []) (c_is_lost : Cl P w K mg base 1 "is_lost" spLost []) (c_node_at : Cl P w K mg base 1 "node_at" (spNodeAt C) []) : Cl P w K mg base 2 "can_go" (spCanGo C) [] := by
  refine C8.cal0 F b .nil sc70 (fun vs H Q E h => ?_) (fun cdv A outer s H vs Q E hr h => ?_)
  · obtain ⟨v, u, Pl, s, h, rfl, _⟩ := h
    rfl
  · obtain ⟨v, u, Pl, s, h, rfl, hv, hu, good, hl, k⟩ := h
    refine ⟨_, ((pss_one (ps_ret (pe_and (pe_not (C8.pe_c c_is_lost hr (by decide) (by rfl) (pa_cons (pv 1) (pa_cons (pv 2) pa_nil)))) (pe_one (pe_cmpR op_ne (pe_ix ix_tup (C8.pe_c c_node_at hr (by decide) (by rfl) (pa_cons (pv 0) (pa_cons (pv 1) (pa_cons (pv 2) pa_nil)))) pe_int (fun _ _ => rfl)) (C8.pe_gc (by rfl) T.c_END) (nomark _))))))), ?_⟩
    obtain ⟨o, ho⟩ := get_of_lt hl
    refine ⟨_, rfl, _, rfl, u, s, h, o, rfl, hu, ho, _, rfl, _, rfl, ?_⟩
    cases o with
    | none =>
      have e : canGo Pl s h = false := by unfold canGo; rw [getD_some ho]
      rw [e] at k
      exact k
    | some n =>
      obtain ⟨sc, hsc, hn⟩ := good.nd h n ho
      obtain ⟨nd, hnd⟩ := get_of_lt hn
      refine ⟨_, rfl, _, rfl, _, rfl, v, u, Pl, s, h, n, sc, nd, rfl, hv, hu, ho, hsc, hnd, fun v' hv' => ?_⟩
      obtain ⟨a, xs, z, rfl, ha, hz⟩ := nd_tag hv'
      have e : canGo Pl s h = nd.inner := by unfold canGo nodeAt; rw [getD_some ho, getD_some hsc]; show ((sc.getD n (.fin 0)).inner = _); rw [getD_some hnd]
      rw [e, ← hz] at k
      exact ⟨_, _, _, _, rfl, rfl, .of ha, atI_nat (j := 0) rfl, rfl, k⟩
def spSteppers (C : Cs) (Tb : List (Addr × Str)) : Sp := fun vs H Q _ => ∃ (G : Hp) (v u : V) (Pl : Pl) (s : Spot), vs = [v, u] ∧ VProg C G v Pl ∧ VSpot G u s ∧ Good Pl s ∧ PlOk Pl ∧ Same G H ∧ ∀ v' G' H', Fr Tb X0 G H G' H' → VW G' v' (can Pl s) → Q v' H'
def ICan (Pl : Pl) (s : Spot) : Nat → Hp → List V → Prop := fun i _ acc => acc = (((List.range i).filter (canGo Pl s)).map nV)
theorem ICan.len {Pl : Pl} {s : Spot} (i : Nat) (G : Hp) (acc : List V) (h : ICan Pl s i G acc) : acc.length ≤ i := by
  rw [show acc = _ from h, List.length_map]
  exact Nat.le_trans (List.length_filter_le _ _) (by simp)
theorem sc71 : FnScope ["program", "place", "hand"] ["program", "place"] (C8.fnScope (top 71)) := C8.fnScope_by (by decide +kernel)
theorem ok_steppers (T : Txt K mg C) {f : Addr} {fd : FuncData} (F : C8.Def K mg "steppers" (top 71) f fd) (b : Binds K fd ["program", "place"] []) (c_can_go : Cl P w K mg base 2 "can_go" (spCanGo C) []) : Cl P w K mg base 3 "steppers" (spSteppers C Tb) [] := by
  refine C8.cal0 F b .nil sc71 (fun vs H Q E h => ?_) (fun cdv A outer s H vs Q E hr h => ?_)
  · obtain ⟨G, v, u, Pl, s, rfl, _⟩ := h
    rfl
  · obtain ⟨G, v, u, Pl, s, rfl, hv, hu, good, ok, hs, k⟩ := h
    obtain ⟨q, rfl, t1, t2, hq, ht1, ht2⟩ := id hu
    have l4 : s.1.length ≤ 4 := by rw [good.l1]; exact ok.s4
    refine ⟨_, ((pss_one (ps_ret (pe_lc (own := [("hand", 2)]) rfl sc71.nd (pi_range1 (by rfl) T.b_range (pa_cons (pe_callB call_len_seq (by rfl) T.b_len (by decide +kernel) (pa_cons (pe_ix ix_tup (pv 1) pe_int (fun _ _ => rfl)) pa_nil)) pa_nil)) (blkOk_by (N := ["program", "place", "hand"]) (sc := C8.fnScope (top 71)) (by decide +kernel)) (fun _ _ _ _ _ => (pg_name (i := 2) sc71.nd rfl (Or.inl rfl))) (fun _ _ _ _ _ => pts_one (pt_val (C8.pe_c c_can_go hr (by decide) (by rfl) (pa_cons (pv 0) (pa_cons (pv 1) (pa_cons (pv 2) pa_nil)))))) (fun _ _ _ _ _ => (pv 2)))))), ?_⟩
    refine ⟨_, rfl, _, _, _, _, rfl, rfl, .of (hs _ _ hq), atI_nat (j := 0) rfl, _, _, rfl, .inr (.of (hs _ _ ht1)), _, rfl, ?_, ?_, fun D hD => ?_⟩
    · rw [List.length_map]; omega
    · rw [List.length_map]; omega
    refine lc_fr (T := Tb) (X := X0) walk_range G (ICan Pl s) hs hD (fun h => h) (by rw [List.length_map, Int.toNat_natCast]; exact Nat.le_trans l4 (by decide)) (fun H2 e => trivial) rfl (fun _ _ _ _ _ h => h) ICan.len (fun i y G2 H2 H3 acc N M hi hI fr hDD gD y' k1 k0 => ?_) (fun G2 H2 acc hI fr sg hDD => ?_)
    · obtain ⟨rfl, rfl⟩ := y'
      rw [List.length_map, Int.toNat_natCast] at hi
      refine ⟨rfl, _, rfl, _, rfl, _, rfl, v, .ref q, Pl, s, i, by show [v, V.ref q, V.int (0 + (i : Int))] = _; rw [Int.zero_add]; rfl, VProg.mono fr.s (VProg.mono fr.g hv), VSpot.mono fr.s (VSpot.mono fr.g hu), good, hi, _, rfl, ?_⟩
      have hI : acc = (((List.range i).filter (canGo Pl s)).map nV) := hI
      cases e : canGo Pl s i with
      | true =>
        refine ⟨_, rfl, k1 _ _ _ (.refl fr.s) ?_⟩
        show acc ++ [V.int (0 + (i : Int))] = (((List.range (i + 1)).filter (canGo Pl s)).map nV)
        rw [hI, List.range_succ, List.filter_append, List.map_append, Int.zero_add]
        simp [e, nV]
      | false =>
        refine k0 _ _ (.refl fr.s) ?_
        show acc = (((List.range (i + 1)).filter (canGo Pl s)).map nV)
        rw [hI, List.range_succ, List.filter_append, List.map_append]
        simp [e]
    · refine k _ _ _ fr ⟨D, rfl, ?_⟩
      rw [List.length_map, Int.toNat_natCast] at hI
      rw [upd_same, show acc = _ from hI]
      rfl
/-- another value in a tuple -/
def spPutIn (Tb : List (Addr × Str)) : Sp := fun vs H Q _ => ∃ (G : Hp) (a : Addr) (xs : List V) (i : Nat) (v : V), vs = [.ref a, nV i, v] ∧ G a = some (.tup xs) ∧ i < xs.length ∧ xs.length ≤ 100 ∧ Same G H ∧ ∀ a' G' H', Fr Tb X0 G H G' H' → G' a' = some (.tup (xs.set i v)) → Q (.ref a') H'
theorem sIx_to (n d k : Nat) : HT.sIx n d (some ((k : Nat) : Int)) = min k n := HT.sIx_nat n d k
theorem set_cut : ∀ {xs : List V} {i : Nat} {v : V}, i < xs.length → xs.set i v = xs.take i ++ v :: xs.drop (i + 1)
  | [], i, v, h => by simp at h
  | x :: r, 0, v, h => rfl
  | x :: r, i + 1, v, h => by
    simp only [List.set_cons_succ, List.take_succ_cons, List.drop_succ_cons, List.cons_append]
    rw [set_cut (by simpa using h)]
theorem sc72 : FnScope ["row", "position", "value"] ["row", "position", "value"] (C8.fnScope (top 72)) := C8.fnScope_by (by decide +kernel)
theorem ok_put_in (T : Txt K mg C) {f : Addr} {fd : FuncData} (F : C8.Def K mg "put_in" (top 72) f fd) (b : Binds K fd ["row", "position", "value"] []) : Cl P w K mg base 1 "put_in" (spPutIn Tb) [] := by
  refine C8.cal0 F b .nil sc72 (fun vs H Q E h => ?_) (fun cdv A outer s H vs Q E hr h => ?_)
  · obtain ⟨G, a, xs, i, v, rfl, _⟩ := h
    rfl
  · obtain ⟨G, a, xs, i, v, rfl, ha, hi, hl, hs, k⟩ := h
    refine ⟨_, ((pss_one (ps_ret (pe_op op_catA (pe_op op_catA (pe_slice sl_tupA (pv 0) po_none (po_some (pv 1))) (pe_tup (pa_cons (pv 2) pa_nil))) (pe_slice sl_tupA (pv 0) (po_some (pe_op op_add (pv 1) pe_int)) po_none))))), ?_⟩
    have hz : 100 ≤ sizeLine := by decide
    have e1 : HT.sIx xs.length 0 none = 0 := rfl
    have e2 : HT.sIx xs.length xs.length (some ((i : Nat) : Int)) = i := by rw [sIx_to]; omega
    have e3 : HT.sIx xs.length 0 (some (((i : Nat) : Int) + 1)) = i + 1 := by rw [show ((i : Nat) : Int) + 1 = ((i + 1 : Nat) : Int) from rfl, sIx_to]; omega
    have e4 : HT.sIx xs.length xs.length none = xs.length := rfl
    have c1 : cutV xs none (some ((i : Nat) : Int)) = xs.take i := by
      unfold cutV
      rw [e1, e2]
      simp
    have c2 : cutV xs (some (((i : Nat) : Int) + 1)) none = xs.drop (i + 1) := by
      unfold cutV
      rw [e3, e4, List.take_of_length_le (by simp)]
    refine ⟨_, rfl, _, rfl, _, rfl, a, xs, rfl, .of (hs _ _ ha), fun h => absurd h.2 (by show HT.sIx xs.length xs.length (some ((i : Nat) : Int)) ≠ _; rw [e2]; omega), fun _ p np => ?_⟩
    have f1 : Fr Tb X0 G H (upd G p (.tup (xs.take i))) (upd H p (.tup (xs.take i))) := Fr.alloc hs np
    have c1' : cutV xs none (some ((i : Nat) : Int)) = xs.take i := c1
    rw [show (HO.tup (cutV xs none (some ((i : Nat) : Int)))) = HO.tup (xs.take i) by rw [c1]]
    refine ⟨_, rfl, len1, fun q nq => ?_⟩
    have f2 := f1.trans (Fr.alloc (o := .tup [v]) f1.s nq)
    have hp2 : upd (upd H p (.tup (xs.take i))) q (.tup [v]) p = some (.tup (xs.take i)) := upd_keep nq _ _ upd_same
    have hq2 : upd (upd H p (.tup (xs.take i))) q (.tup [v]) q = some (.tup [v]) := upd_same
    have hgq : upd (upd G p (.tup (xs.take i))) q (.tup [v]) q = some (.tup [v]) := upd_same
    generalize upd (upd H p (.tup (xs.take i))) q (.tup [v]) = H2 at f2 hp2 hq2
    generalize upd (upd G p (.tup (xs.take i))) q (.tup [v]) = G2 at f2 hgq
    refine ⟨p, q, _, _, rfl, rfl, .of hp2, .of hq2, Nat.le_trans (m := 101) (by simp; omega) (by decide), fun h0 => ?_, fun _ h => (by cases h), fun h0 _ r nr => ?_⟩
    · have gr : G2 q = some (.tup (xs.take i ++ [v])) := by rw [h0]; exact hgq
      refine ⟨_, rfl, _, rfl, _, _, rfl, rfl, _, rfl, a, xs, rfl, .of (f2.get ha), fun h => absurd h.1 (by show HT.sIx xs.length 0 (some (((i : Nat) : Int) + 1)) ≠ _; rw [e3]; omega), fun _ t nt => ?_⟩
      have f3 := f2.trans (Fr.alloc (o := .tup (cutV xs (some (((i : Nat) : Int) + 1)) none)) f2.s nt)
      refine ⟨q, t, _, _, rfl, rfl, .of (f3.s _ _ (same_upd f2.s nt _ _ gr)), .of upd_same, Nat.le_trans (m := 101) (by rw [c2]; simp; omega) (by decide), fun h => absurd h (by simp), fun _ h1 => ?_, fun _ h1 u nu => ?_⟩
      · refine k q _ _ f3 ?_
        rw [same_upd f2.s nt _ _ gr, set_cut hi, show xs.drop (i + 1) = [] by rw [← c2]; exact h1]
      · refine k u _ _ (f3.trans (Fr.alloc (o := .tup _) f3.s nu)) ?_
        rw [upd_same, c2, set_cut hi]
        simp
    · have f2' := f2.trans (Fr.alloc (o := .tup (xs.take i ++ [v])) f2.s nr)
      have gr : (upd G2 r (.tup (xs.take i ++ [v]))) r = some (.tup (xs.take i ++ [v])) := upd_same
      refine ⟨_, rfl, _, rfl, _, _, rfl, rfl, _, rfl, a, xs, rfl, .of (f2'.get ha), fun h => absurd h.1 (by show HT.sIx xs.length 0 (some (((i : Nat) : Int) + 1)) ≠ _; rw [e3]; omega), fun _ t nt => ?_⟩
      have f3 := f2'.trans (Fr.alloc (o := .tup (cutV xs (some (((i : Nat) : Int) + 1)) none)) f2'.s nt)
      refine ⟨r, t, _, _, rfl, rfl, .of (f3.s _ _ (same_upd f2'.s nt _ _ gr)), .of upd_same, Nat.le_trans (m := 101) (by rw [c2]; simp; omega) (by decide), fun h => absurd h (by simp), fun _ h1 => ?_, fun _ h1 u nu => ?_⟩
      · refine k r _ _ f3 ?_
        rw [same_upd f2'.s nt _ _ gr, set_cut hi, show xs.drop (i + 1) = [] by rw [← c2]; exact h1]
      · refine k u _ _ (f3.trans (Fr.alloc (o := .tup _) f3.s nu)) ?_
        rw [upd_same, c2, set_cut hi]
        simp
end
end K57
set_option Elab.async false
set_option linter.all false
set_option autoImplicit false
set_option maxRecDepth 100000
set_option maxHeartbeats 2000000
/-! K57Z: steps and weavings. -/
namespace K57
open PySem PySem.Spec PyProof.Rows L2
theorem run_snoc (P : Pl) : ∀ (w : List Nat) (s : Spot) (h : Nat), run P s (w ++ [h]) = step P (run P s w) h
  | [], s, h => rfl
  | x :: r, s, h => run_snoc P r (step P s x) h
theorem okRun_at {P : Pl} : ∀ {w : List Nat} {s : Spot} {i h : Nat}, okRun P s w → w[i]? = some h → h ∈ can P (run P s (w.take i))
  | [], s, i, h, _, e => by simp at e
  | x :: r, s, 0, h, o, e => by simp at e; subst e; exact o.1
  | x :: r, s, i + 1, h, o, e => okRun_at (w := r) (s := step P s x) o.2 (by simpa using e)
theorem good_run {P : Pl} (W : PlOk P) : ∀ {w : List Nat} {s : Spot}, Good P s → okRun P s w → Good P (run P s w)
  | [], s, g, _ => g
  | x :: r, s, g, o => good_run W (w := r) (s := step P s x) (good_step W g (mem_can.mp o.1).2) o.2
theorem okRun_take {P : Pl} : ∀ {w : List Nat} {s : Spot} (i : Nat), okRun P s w → okRun P s (w.take i)
  | [], s, i, _ => by simp [okRun]
  | x :: r, s, 0, _ => trivial
  | x :: r, s, i + 1, o => ⟨o.1, okRun_take i o.2⟩
section
variable {P : Program} {w : World} {K : PySem.W.Frag} {mg : Str → Option Value} {base : Heap} {C : Cs} {Tb : List (Addr × Str)}
def spBehind (C : Cs) (Tb : List (Addr × Str)) : Sp := fun vs H Q _ => ∃ (G : Hp) (v u : V) (Pl : Pl) (s : Spot) (h : Nat), vs = [v, u, nV h] ∧ VProg C G v Pl ∧ VSpot G u s ∧ Good Pl s ∧ PlOk Pl ∧ canGo Pl s h = true ∧ Same G H ∧ ∀ v' G' H', Fr Tb X0 G H G' H' → VSpot G' v' (step Pl s h) → Q v' H'
theorem map_set_oV (l : List (Option Nat)) (i : Nat) (o : Option Nat) : (l.map oV).set i (oV o) = (l.set i o).map oV := by rw [List.map_set]
theorem map_set_nV (l : List Nat) (i n : Nat) : (l.map nV).set i (nV n) = (l.set i n).map nV := by rw [List.map_set]
theorem br_get {H : Hp} {d : Addr} {kvs : List (Key × V)} {br : List (Nat × Nat)} (hd : H d = some (.dK kvs)) (hb : BrV kvs br) (k : Nat) : DGet H d (nV k) ((br.lookup k).map nV) := by
  have := DGet.k (k := Sum.inl ((k : Nat) : Int)) hd
  rw [hb k] at this
  exact this
theorem getD_oV (o : Option Nat) : (o.map nV).getD .non = oV o := by cases o <;> rfl
theorem sc73 : FnScope ["program", "place", "hand", "nodes", "states", "node", "number", "thing", "heard", "later"] ["program", "place", "hand"] (C8.fnScope (top 73)) := C8.fnScope_by (by decide +kernel)
theorem ok_place_behind (T : Txt K mg C) {f : Addr} {fd : FuncData} (F : C8.Def K mg "place_behind" (top 73) f fd) (b : Binds K fd ["program", "place", "hand"] []) (c_node_at : Cl P w K mg base 1 "node_at" (spNodeAt C) []) (c_step_at : Cl P w K mg base 1 "step_at" (spStepAt C) []) (c_place_of : Cl P w K mg base 1 "place_of" (spPlaceOf C) [])
    (c_put_in : Cl P w K mg base 1 "put_in" (spPutIn Tb) []) : Cl P w K mg base 2 "place_behind" (spBehind C Tb) [] := by
  refine C8.cal0 F b .nil sc73 (fun vs H Q E h => ?_) (fun cdv A outer s H vs Q E hr h => ?_)
  · obtain ⟨G, v, u, Pl, s, h, rfl, _⟩ := h
    rfl
  · obtain ⟨G, v, u, Pl, s, h, rfl, hv, hu, good, ok, cg, hs, k⟩ := h
    obtain ⟨n, sc, nd, kk, at1⟩ := at_of ok good cg
    obtain ⟨q, rfl, t1, t2, hq, ht1, ht2⟩ := id hu
    have hu' := hu_of hr
    have hu := hu'
    have hl : h < s.1.length := lt_of_get at1.hn
    have l4 : s.1.length ≤ 4 := by rw [good.l1]; exact ok.s4
    have l4' : s.2.length ≤ 4 := by rw [good.l2]; exact ok.t4
    refine ⟨_, ((pss_cons (ps_asg (pv 1) (pg_tup rfl (pgs_cons (pg_name (i := 3) sc73.nd rfl (Or.inl rfl)) (pgs_cons (pg_name (i := 4) sc73.nd rfl (Or.inl rfl)) pgs_nil))))
      (pss_cons (ps_set (i := 5) sc73.nd rfl (Or.inl rfl) (C8.pe_c c_node_at hr (by decide) (by rfl) (pa_cons (pv 0) (pa_cons (pv 1) (pa_cons (pv 2) pa_nil)))))
      (pss_cons (ps_set (i := 6) sc73.nd rfl (Or.inl rfl) (pe_ix ix_tup (pv 5) pe_int (fun _ _ => rfl)))
      (pss_cons (ps_if (pt_cmpR op_eq (pe_ix ix_tup (pv 5) pe_int (fun _ _ => rfl)) (C8.pe_gc (by rfl) T.c_DO) (nomark _)) (pss_cons (ps_set (i := 7) sc73.nd rfl (Or.inl rfl) (pe_ix ix_tup (pe_ix ix_tup (pe_fld (pv 0) rfl) (pv 6) (fun _ _ => rfl)) pe_int (fun _ _ => rfl)))
      (pss_cons (ps_asg (C8.pe_c c_step_at hr (by decide) (by rfl) (pa_cons (pv 7) (pa_cons (pe_ix ix_tup (pv 4) (pv 6) (fun _ _ => rfl)) (pa_cons (C8.pe_c c_place_of hr (by decide) (by rfl) (pa_cons (pv 7) (pa_cons (pe_ix ix_tup (pv 5) pe_int (fun _ _ => rfl)) pa_nil))) pa_nil)))) (pg_tup rfl (pgs_cons (pg_name (i := 8) sc73.nd rfl (Or.inl rfl)) (pgs_cons (pg_name (i := 9) sc73.nd rfl (Or.inl rfl)) pgs_nil))))
      (pss_one (ps_ret (pe_tup (pa_cons (C8.pe_c c_put_in hr (by decide) (by rfl) (pa_cons (pv 3) (pa_cons (pv 2) (pa_cons (pe_dget1 hu (pe_ix ix_tup (pv 5) pe_int (fun _ _ => rfl)) (pv 8) ⟨rfl, rfl, rfl, rfl⟩) pa_nil)))) (pa_cons (C8.pe_c c_put_in hr (by decide) (by rfl) (pa_cons (pv 4) (pa_cons (pv 6) (pa_cons (pv 9) pa_nil)))) pa_nil))))))) pss_nil)
      (pss_one (ps_ret (pe_tup (pa_cons (C8.pe_c c_put_in hr (by decide) (by rfl) (pa_cons (pv 3) (pa_cons (pv 2) (pa_cons (pe_dget1 hu (pe_ix ix_tup (pv 5) pe_int (fun _ _ => rfl)) (pe_ix ix_tup (pv 4) (pv 6) (fun _ _ => rfl)) ⟨rfl, rfl, rfl, rfl⟩) pa_nil)))) (pa_cons (pv 4) pa_nil)))))))))), ?_⟩
    refine ⟨_, rfl, q, _, rfl, .of (hs _ _ hq), rfl, _, _, rfl, _, _, rfl, rfl, ?_⟩
    refine ⟨_, rfl, _, rfl, _, rfl, v, .ref q, Pl, s, h, n, sc, nd, rfl, VProg.mono hs hv, ⟨q, rfl, t1, t2, hs _ _ hq, hs _ _ ht1, hs _ _ ht2⟩, at1.hn, at1.hs, at1.hd, fun v' hv' => ?_⟩
    cases nd with
    | fin t => exact absurd at1.inn (by simp [Nd.inner])
    | look t br =>
      obtain ⟨a, d, kvs, rfl, hna, hnd, hb⟩ := hv'
      obtain ⟨m, b0, hm, hB⟩ := at1.ok
      obtain ⟨x, hx⟩ := get_of_lt (l := s.2) (i := t) (by rw [good.l2]; exact lt_of_get hm)
      refine ⟨_, rfl, _, _, _, _, rfl, rfl, .of hna, atI_nat (j := 1) rfl, ?_⟩
      refine ⟨_, rfl, _, _, _, _, rfl, rfl, .of hna, atI_nat (j := 0) rfl, rfl, false, rfl, iteF ?_⟩
      refine ⟨_, rfl, _, rfl, _, rfl, _, _, _, _, rfl, rfl, .of hna, atI_nat (j := 2) rfl, d, rfl, .inl ⟨_, .inl hnd⟩, _, rfl, _, rfl, _, _, _, _, rfl, rfl, .of (hs _ _ ht2), atI_nat (get_nV hx), (br.lookup x).map nV, br_get hnd hb x, ?_⟩
      rw [getD_oV]
      refine ⟨G, t1, s.1.map oV, h, oV (br.lookup x), rfl, ht1, by simpa using hl, by simp; omega, hs, fun a' G1 H1 f1 ha' => ?_⟩
      refine ⟨_, rfl, len2, fun p np => ?_⟩
      refine k _ _ _ (f1.trans (Fr.alloc (o := .tup [.ref a', .ref t2]) f1.s np)) ⟨p, rfl, a', t2, upd_same, ?_, ?_⟩
      · rw [same_upd f1.s np _ _ ha', map_set_oV, step_look at1, getD_some hx]
      · rw [same_upd f1.s np _ _ (f1.g _ _ ht2), step_look at1]
    | act t j br =>
      obtain ⟨a, d, kvs, rfl, hna, hnd, hb⟩ := hv'
      obtain ⟨m, b0, hm, hj, hB⟩ := at1.ok
      obtain ⟨x, hx⟩ := get_of_lt (l := s.2) (i := t) (by rw [good.l2]; exact lt_of_get hm)
      obtain ⟨m', b', hm', hxl⟩ := good.st t x hx
      rw [hm] at hm'
      cases hm'
      have mok := (ok.th _ (mem_of_get hm)).1
      obtain ⟨ap, dx, tt, sa, n0, vs, ws, rfl, hap, htt, hTT, hsa, hS⟩ := id hv
      obtain ⟨v1, hv1, y, u1, rfl, hy, hU⟩ := hTT.get hm
      have ejk := step_act at1
      rw [md_of hm, getD_some hx] at ejk
      refine ⟨_, rfl, _, _, _, _, rfl, rfl, .of hna, atI_nat (j := 1) rfl, ?_⟩
      refine ⟨_, rfl, _, _, _, _, rfl, rfl, .of hna, atI_nat (j := 0) rfl, rfl, true, rfl, iteT ?_⟩
      refine ⟨_, rfl, ap, _, dx, _, _, rfl, hs _ _ hap, T.k_Program, T.f_Prog1, rfl, _, rfl, _, _, _, _, rfl, rfl, .of (hs _ _ htt), atI_nat hv1, _, _, _, _, rfl, rfl, .of (hs _ _ hy), atI_nat (j := 0) rfl, ?_⟩
      refine ⟨_, rfl, _, rfl, _, rfl, _, _, _, _, rfl, rfl, .of (hs _ _ ht2), atI_nat (get_nV hx), _, rfl, _, rfl, _, _, _, _, rfl, rfl, .of hna, atI_nat (j := 2) rfl, u1, m, j, rfl, VThing.mono hs hU, Nat.le_trans mok.m2 (by decide), hj, ?_⟩
      refine ⟨u1, m, x, j, rfl, VThing.mono hs hU, mok, hxl, hj, fun v' ⟨e0, hv', he0⟩ => ?_⟩
      subst hv'
      refine ⟨e0, _, rfl, .of he0, rfl, _, _, rfl, _, _, rfl, rfl, ?_⟩
      refine ⟨_, rfl, _, rfl, _, rfl, _, _, _, _, rfl, rfl, .of hna, atI_nat (j := 3) rfl, d, rfl, .inl ⟨_, .inl hnd⟩, _, rfl, (br.lookup (m.ent x j).1).map nV, br_get hnd hb (m.ent x j).1, ?_⟩
      rw [getD_oV]
      refine ⟨G, t1, s.1.map oV, h, oV (br.lookup (m.ent x j).1), rfl, ht1, by simpa using hl, by simp; omega, hs, fun a' G1 H1 f1 ha' => ?_⟩
      refine ⟨_, rfl, _, rfl, _, rfl, G1, t2, s.2.map nV, t, nV (m.ent x j).2, rfl, f1.g _ _ ht2, by simp; exact lt_of_get hx, by simp; omega, f1.s, fun a2 G2 H2 f2 ha2 => ?_⟩
      refine ⟨len2, fun p np => ?_⟩
      refine k _ _ _ ((f1.trans f2).trans (Fr.alloc (o := .tup [.ref a', .ref a2]) f2.s np)) ⟨p, rfl, a', a2, upd_same, ?_, ?_⟩
      · rw [same_upd f2.s np _ _ (f2.g _ _ ha'), map_set_oV, ejk]
      · rw [same_upd f2.s np _ _ ha2, map_set_nV, ejk]
def spStepping (C : Cs) : Sp := fun vs H Q _ => ∃ (v u : V) (Pl : Pl) (s : Spot) (h : Nat), vs = [v, u, nV h] ∧ VProg C H v Pl ∧ VSpot H u s ∧ Good Pl s ∧ h < s.1.length ∧ canGo Pl s h = true ∧ Q (.bl true) H
theorem sc74 : FnScope ["program", "place", "value"] ["program", "place", "value"] (C8.fnScope (top 74)) := C8.fnScope_by (by decide +kernel)
theorem ok_is_stepping (T : Txt K mg C) {f : Addr} {fd : FuncData} (F : C8.Def K mg "is_stepping" (top 74) f fd) (b : Binds K fd ["program", "place", "value"] []) (c_is_below : Cl P w K mg base 3 "is_below" spBelow []) (c_can_go : Cl P w K mg base 2 "can_go" (spCanGo C) []) : Cl P w K mg base 4 "is_stepping" (spStepping C) [] := by
  refine C8.cal0 F b .nil sc74 (fun vs H Q E h => ?_) (fun cdv A outer s H vs Q E hr h => ?_)
  · obtain ⟨v, u, Pl, s, h, rfl, _⟩ := h
    rfl
  · obtain ⟨v, u, Pl, s, h, rfl, hv, hu, good, hl, cg, k⟩ := h
    obtain ⟨q, rfl, t1, t2, hq, ht1, ht2⟩ := id hu
    refine ⟨_, ((pss_one (ps_ret (pe_and (C8.pe_c c_is_below hr (by decide) (by rfl) (pa_cons (pv 2) (pa_cons (pe_callB call_len_seq (by rfl) T.b_len (by decide +kernel) (pa_cons (pe_ix ix_tup (pv 1) pe_int (fun _ _ => rfl)) pa_nil)) pa_nil))) (pe_one (C8.pe_c c_can_go hr (by decide) (by rfl) (pa_cons (pv 0) (pa_cons (pv 1) (pa_cons (pv 2) pa_nil))))))))), ?_⟩
    refine ⟨_, rfl, _, rfl, _, _, _, _, rfl, rfl, .of hq, atI_nat (j := 0) rfl, _, _, rfl, .inr (.of ht1), _, _, rfl, ?_⟩
    rw [decide_eq_true (by rw [List.length_map]; omega)]
    refine ⟨true, rfl, iteT ?_⟩
    refine ⟨_, rfl, _, rfl, _, rfl, v, .ref q, Pl, s, h, rfl, hv, hu, good, hl, ?_⟩
    rw [cg]
    exact k
def spAlong (C : Cs) (Tb : List (Addr × Str)) : Sp := fun vs H Q _ => ∃ (G : Hp) (v : V) (Pl : Pl) (u : V) (ww : List Nat), vs = [v, u] ∧ VProg C G v Pl ∧ PlOk Pl ∧ VW G u ww ∧ okRun Pl (begin Pl) ww ∧ ww.length ≤ 9 ∧ Same G H ∧
  ∀ l us v' G' H', Fr Tb X0 G H G' H' → G' l = some (.lst (us ++ [v'])) → VSpot G' v' (run Pl (begin Pl) ww) → Q (.ref l) H'
theorem sc75 : FnScope ["program", "weaving", "found", "position", "hand"] ["program", "weaving"] (C8.fnScope (top 75)) := C8.fnScope_by (by decide +kernel)
theorem ok_places_along (T : Txt K mg C) {f : Addr} {fd : FuncData} (F : C8.Def K mg "places_along" (top 75) f fd) (b : Binds K fd ["program", "weaving"] []) (c_is_list : Cl P w K mg base 1 "is_list" (spList Tb) []) (c_first_place : Cl P w K mg base 1 "first_place" (spFirst C Tb) []) (c_is_stepping : Cl P w K mg base 4 "is_stepping" (spStepping C) [])
    (c_place_behind : Cl P w K mg base 2 "place_behind" (spBehind C Tb) []) : Cl P w K mg base 5 "places_along" (spAlong C Tb) [] := by
  refine C8.cal0 F b .nil sc75 (fun vs H Q E h => ?_) (fun cdv A outer s H vs Q E hr h => ?_)
  · obtain ⟨G, v, Pl, u, ww, rfl, _⟩ := h
    rfl
  · obtain ⟨G, v, Pl, u, ww, rfl, hv, ok, ⟨a, rfl, ha⟩, ho, hl, hs, k⟩ := h
    refine ⟨_, ((pss_cons (ps_if (pt_not (pt_val (C8.pe_c c_is_list hr (by decide) (by rfl) (pa_cons (pv 1) pa_nil)))) (pss_one ps_never) pss_nil)
      (pss_cons (ps_set (i := 2) sc75.nd rfl (Or.inl rfl) (pe_lst (pa_cons (C8.pe_c c_first_place hr (by decide) (by rfl) (pa_cons (pv 0) pa_nil)) pa_nil)))
      (pss_cons (ps_for PassesOwn.never rfl (pi_enum (by rfl) T.b_enumerate (pa_cons (pv 1) pa_nil)) (pg_tup rfl (pgs_cons (pg_name (i := 3) sc75.nd rfl (Or.inl rfl)) (pgs_cons (pg_name (i := 4) sc75.nd rfl (Or.inl rfl)) pgs_nil))) (pss_cons (ps_if (pt_not (pt_val (C8.pe_c c_is_stepping hr (by decide) (by rfl) (pa_cons (pv 0) (pa_cons (pe_ix ix_list (pv 2) (pe_un un_neg pe_int) (fun _ _ => rfl)) (pa_cons (pv 4) pa_nil)))))) (pss_one ps_never) pss_nil)
      (pss_one (ps_expr (pe_bm PySem.F.plainAttrs_list PySem.F.slot_list_append PySem.F.type_list_append mt_append (pv 2) (pa_cons (C8.pe_c c_place_behind hr (by decide) (by rfl) (pa_cons (pv 0) (pa_cons (pe_ix ix_list (pv 2) (pe_un un_neg pe_int) (fun _ _ => rfl)) (pa_cons (pv 4) pa_nil)))) pa_nil))))))
      (pss_one (ps_ret (pv 2))))))), ?_⟩
    refine ⟨_, rfl, G, a, _, rfl, .inl ha, hs, fun G1 H1 f1 => ⟨true, rfl, iteF ?_⟩⟩
    refine ⟨_, rfl, G1, v, Pl, rfl, VProg.mono f1.g hv, ok, f1.s, fun v0 G2 H2 f2 hv0 => ?_⟩
    refine ⟨len1, fun l nl => ?_⟩
    have f12 := f1.trans f2
    have f3 : Fr Tb X0 G2 H2 G2 (upd H2 l (.lst [v0])) := Fr.alloc' f12.s nl
    have gl := none_of_same f12.s nl
    refine ⟨_, rfl, a, _, rfl, .of ((f12.trans f3).get ha), ?_⟩
    refine for_it (walk_enum (a := a) (xs := ww.map nV)) (fun i σ H' => ∃ x1 x2 G' us v', σ = [some v, some (.ref a), some (.ref l), x1, x2] ∧ Fr Tb X0 G2 H2 G' H' ∧ H' l = some (.lst (us ++ [v'])) ∧ us.length = i ∧ G' l = none ∧ VSpot G' v' (run Pl (begin Pl) (ww.take i)))
      ⟨_, _, G2, [], v0, rfl, f3, upd_same, rfl, gl, hv0⟩ (fun i σ H' hi ⟨x1, x2, G', us, v', _, fr, _⟩ => .of ((f12.trans fr).get ha)) (fun i x σ H3 H4 hi ⟨x1, x2, G', us, v', e, fr, hl3, hus, gl3, hv3⟩ y => ?_) (fun σ H3 ⟨x1, x2, G', us, v', e, fr, hl3, hus, gl3, hv3⟩ => ?_)
    · subst e
      obtain ⟨t, y1, y2, rfl, nt, rfl, e1, e2⟩ := y
      cases e1
      obtain ⟨h, hh⟩ := get_of_lt (l := ww) (i := i) (by simpa using hi)
      have e2 : some (nV h) = some y2 := (get_nV hh).symm.trans e2
      have e2 : nV h = y2 := Option.some.inj e2
      subst e2
      have hlt : l ≠ t := ne_of_none hl3 nt
      have f4 := fr.trans (Fr.alloc (o := .tup [.int (i : Nat), nV h]) fr.s nt)
      have hl4 : upd H3 t (.tup [.int (i : Nat), nV h]) l = some (.lst (us ++ [v'])) := by rw [upd_ne hlt]; exact hl3
      have gl4 : upd G' t (.tup [.int (i : Nat), nV h]) l = none := by rw [upd_ne hlt]; exact gl3
      have eg := same_upd (b := t) (o := .tup [.int (i : Nat), nV h]) fr.s nt
      have good := good_run ok (good_begin ok) (okRun_take i ho)
      have hin := okRun_at ho hh
      refine ⟨t, _, rfl, .of upd_same, rfl, _, _, rfl, _, _, rfl, rfl, ?_⟩
      have hsp := VSpot.mono eg hv3
      generalize upd H3 t (.tup [.int (i : Nat), nV h]) = H5 at f4 hl4
      generalize upd G' t (.tup [.int (i : Nat), nV h]) = G5 at f4 gl4 eg hsp
      refine ⟨_, rfl, _, rfl, _, rfl, _, _, _, _, rfl, rfl, .of hl4, atI_last, _, rfl, v, v', Pl, _, h, rfl, VProg.mono f4.s (VProg.mono f4.g (VProg.mono f12.g hv)), VSpot.mono f4.s hsp, good, (mem_can.mp hin).1, (mem_can.mp hin).2, true, rfl, iteF ?_⟩
      refine ⟨_, rfl, .inl ⟨rfl, _, .of hl4⟩, _, rfl, _, rfl, _, rfl, _, _, _, _, rfl, rfl, .of hl4, atI_last, _, rfl, G5, v, v', Pl, _, h, rfl, VProg.mono f4.g (VProg.mono f12.g hv), hsp, good, ok, (mem_can.mp hin).2, f4.s, fun v2 G6 H6 f6 hv6 => ?_⟩
      have hl6 := f6.at (fun h => h) hl4
      have gl6 := f6.keep hl4 gl4
      refine ⟨l, _, v2, rfl, rfl, hl6, Nat.lt_of_le_of_lt (m := 10) (by simp; have := lt_of_get hh; omega) (by decide), ?_⟩
      refine ⟨_, _, G6, us ++ [v'], v2, rfl, (f4.trans f6).mut nl gl6 hl6 (fun q z => by cases z), upd_same, by simp; omega, gl6, ?_⟩
      rw [List.take_add_one, hh]
      show VSpot G6 v2 (run Pl (begin Pl) (ww.take i ++ [h]))
      rw [run_snoc]
      exact hv6
    · subst e
      rw [show (ww.map nV).length = ww.length by simp, List.take_length] at hv3
      exact ⟨_, rfl, k l us v' _ _ (f12.trans (fr.adopt nl gl3 hl3)) upd_same (VSpot.mono (same_upd (.refl _) gl3) hv3)⟩
def spWantW (C : Cs) (Tb : List (Addr × Str)) : Sp := fun vs H Q _ => ∃ (G : Hp) (v : V) (Pl : Pl) (u : V) (ww : List Nat), vs = [v, u] ∧ VProg C G v Pl ∧ PlOk Pl ∧ VW G u ww ∧ okRun Pl (begin Pl) ww ∧ ww.length ≤ 9 ∧ Same G H ∧
  ∀ v' G' H', Fr Tb X0 G H G' H' → VSpot G' v' (run Pl (begin Pl) ww) → Q v' H'
theorem sc76 : FnScope ["program", "weaving"] ["program", "weaving"] (C8.fnScope (top 76)) := C8.fnScope_by (by decide +kernel)
theorem ok_want_weaving (T : Txt K mg C) {f : Addr} {fd : FuncData} (F : C8.Def K mg "want_weaving" (top 76) f fd) (b : Binds K fd ["program", "weaving"] []) (c_places_along : Cl P w K mg base 5 "places_along" (spAlong C Tb) []) : Cl P w K mg base 6 "want_weaving" (spWantW C Tb) [] := by
  refine C8.cal0 F b .nil sc76 (fun vs H Q E h => ?_) (fun cdv A outer s H vs Q E hr h => ?_)
  · obtain ⟨G, v, Pl, u, ww, rfl, _⟩ := h
    rfl
  · obtain ⟨G, v, Pl, u, ww, rfl, hv, ok, hu, ho, hl, hs, k⟩ := h
    refine ⟨_, ((pss_one (ps_ret (pe_ix ix_list (C8.pe_c c_places_along hr (by decide) (by rfl) (pa_cons (pv 0) (pa_cons (pv 1) pa_nil))) (pe_un un_neg pe_int) (fun _ _ => rfl))))), ?_⟩
    exact ⟨_, rfl, _, rfl, G, v, Pl, u, ww, rfl, hv, ok, hu, ho, hl, hs, fun l us v' G' H' f1 h1 h2 => ⟨_, rfl, _, _, _, _, rfl, rfl, .of (f1.s _ _ h1), atI_last, k _ _ _ f1 h2⟩⟩
def spCanStep (C : Cs) (Tb : List (Addr × Str)) : Sp := fun vs H Q _ => ∃ (G : Hp) (v : V) (Pl : Pl) (u : V) (ww : List Nat), vs = [v, u] ∧ VProg C G v Pl ∧ PlOk Pl ∧ VW G u ww ∧ okRun Pl (begin Pl) ww ∧ ww.length ≤ 9 ∧ Same G H ∧
  ∀ v' G' H', Fr Tb X0 G H G' H' → VW G' v' (can Pl (run Pl (begin Pl) ww)) → Q v' H'
theorem sc77 : FnScope ["program", "weaving"] ["program", "weaving"] (C8.fnScope (top 77)) := C8.fnScope_by (by decide +kernel)
theorem ok_can_step (T : Txt K mg C) {f : Addr} {fd : FuncData} (F : C8.Def K mg "can_step" (top 77) f fd) (b : Binds K fd ["program", "weaving"] []) (c_want_weaving : Cl P w K mg base 6 "want_weaving" (spWantW C Tb) []) (c_steppers : Cl P w K mg base 3 "steppers" (spSteppers C Tb) []) : Cl P w K mg base 7 "can_step" (spCanStep C Tb) [] := by
  refine C8.cal0 F b .nil sc77 (fun vs H Q E h => ?_) (fun cdv A outer s H vs Q E hr h => ?_)
  · obtain ⟨G, v, Pl, u, ww, rfl, _⟩ := h
    rfl
  · obtain ⟨G, v, Pl, u, ww, rfl, hv, ok, hu, ho, hl, hs, k⟩ := h
    refine ⟨_, ((pss_one (ps_ret (C8.pe_c c_steppers hr (by decide) (by rfl) (pa_cons (pv 0) (pa_cons (C8.pe_c c_want_weaving hr (by decide) (by rfl) (pa_cons (pv 0) (pa_cons (pv 1) pa_nil))) pa_nil)))))), ?_⟩
    exact ⟨_, rfl, _, rfl, _, rfl, G, v, Pl, u, ww, rfl, hv, ok, hu, ho, hl, hs, fun v' G' H' f1 h1 => ⟨G', v, v', Pl, _, rfl, VProg.mono f1.g hv, h1, good_run ok (good_begin ok) ho, ok, f1.s, fun v2 G2 H2 f2 h2 => k _ _ _ (f1.trans f2) h2⟩⟩
end
end K57
set_option Elab.async false
set_option linter.all false
set_option autoImplicit false
set_option maxRecDepth 100000
set_option maxHeartbeats 2000000
/-! K57I: lists against []; stores at things of one's own; place dicts are no code. -/
namespace K57
open PySem PySem.Spec PyProof.Rows L2
section
variable {X : Cx}
def rNeNil (K : PySem.W.Frag) : R2 := fun x y H Q => ∃ a b xs, x = .ref a ∧ y = .ref b ∧ SqL K H a xs ∧ SqL K H b [] ∧ Q (.bl (!xs.isEmpty)) H
def rEqNil (K : PySem.W.Frag) : R2 := fun x y H Q => ∃ a b xs, x = .ref a ∧ y = .ref b ∧ SqL K H a xs ∧ SqL K H b [] ∧ Q (.bl xs.isEmpty) H
theorem op_neNil (hu : X.A.units + 1 < cLine) : OpR X (compareOp .NotEq) (rNeNil X.K) := by
  intro pins s σ H x y v u Q I rx ry h
  obtain ⟨a, b, xs, rfl, rfl, ha, hb, q⟩ := h
  cases rx
  cases ry
  obtain ⟨its, r1, p1, _⟩ := I.list ha
  obtain ⟨its2, r2, p2, _⟩ := I.list hb
  cases r2
  have hl := r1.length
  cases xs with
  | nil =>
    cases r1
    exact SeqAt.RcNeAt.lists (e := fun _ => true) p1.isList p2.isList rfl (by omega) (fun j h1 => absurd h1 (by simp)) X.prog X.w X.xe (EP X pins σ Q) ⟨.bl _, H, I, rfl, q⟩
  | cons z r =>
    refine SeqAt.RcNeAt.lists_lengths p1.isList p2.isList ?_ (by omega) X.prog X.w X.xe (EP X pins σ Q) ⟨.bl _, H, I, rfl, q⟩
    simp at hl
    simp
    intro z
    rw [z] at hl
    simp at hl
theorem op_eqNil (hu : X.A.units + 1 < cLine) : OpR X (compareOp .Eq) (rEqNil X.K) := by
  intro pins s σ H x y v u Q I rx ry h
  obtain ⟨a, b, xs, rfl, rfl, ha, hb, q⟩ := h
  cases rx
  cases ry
  obtain ⟨its, r1, p1, _⟩ := I.list ha
  obtain ⟨its2, r2, p2, _⟩ := I.list hb
  cases r2
  have hl := r1.length
  cases xs with
  | nil =>
    cases r1
    exact SeqAt.RcAt.lists (e := fun _ => true) p1.isList p2.isList rfl (by omega) (fun j h1 => absurd h1 (by simp)) X.prog X.w X.xe (EP X pins σ Q) ⟨.bl _, H, I, rfl, q⟩
  | cons z r =>
    refine SeqAt.RcAt.lists_lengths p1.isList p2.isList ?_ (by omega) X.prog X.w X.xe (EP X pins σ Q) ⟨.bl _, H, I, rfl, q⟩
    simp at hl
    simp
    intro z
    rw [z] at hl
    simp at hl
end
section
variable {T : List (Addr × Str)} {X : Addr → Prop} {G H G' H' : Hp} {b : Addr} {o u : HO}
theorem Fr.nl (a : Fr T X G H G' H') (h : H' b = none) : ¬ Live H b := fun l => not_live h (a.d b l)
theorem tabs_set (t : LamX.Tabs T H) (hb : H b = some u) (nt : ∀ ps, u ≠ .tbl ps) (nu : ∀ q, u ≠ LamX.CodeO b q) : LamX.Tabs T (upd H b o) := fun p hp => by
  obtain ⟨ps', h1', h2', h3'⟩ := t p hp
  have nb : p.1 ≠ b := fun z => by rw [z, hb] at h1'; exact nt _ (Option.some.inj h1')
  refine ⟨ps', by rw [upd_ne nb]; exact h1', h2', fun pos cv hc => ?_⟩
  obtain ⟨c, e1, e2⟩ := h3' pos cv hc
  refine ⟨c, e1, ?_⟩
  rw [upd_ne (fun z => by subst z; rw [hb] at e2; exact nu _ (Option.some.inj e2))]
  exact e2
theorem Fr.mut' (a : Fr T X G H G' H') (n : ¬ Live H b) (ng : G' b = none) (hb : H' b = some u) (nt : ∀ ps, u ≠ .tbl ps) (nu : ∀ q, u ≠ LamX.CodeO b q) (no : ∀ ps, o ≠ .tbl ps) : Fr T X G H G' (upd H' b o) :=
  ⟨fun c w x hc nw => by
    rw [upd_ne (fun z => n (by rw [← z]; exact ⟨w, hc, nw⟩))]
    exact a.e c w x hc nw, fun c l => live_upd no (a.d c l), a.g, fun c w e => by
    rw [upd_ne (fun z => by rw [z, ng] at e; cases e)]
    exact a.s c w e, a.n, fun t => tabs_set (a.t t) hb nt nu⟩
theorem Fr.adopt' (a : Fr T X G H G' H') (n : ¬ Live H b) (ng : G' b = none) (hb : H' b = some o) : Fr T X G H (upd G' b o) H' :=
  ⟨a.e, a.d, fun c u e => by
    rw [upd_ne (fun z => by rw [z] at e; have := a.g b u e; rw [ng] at this; cases this)]
    exact a.g c u e, fun c u e => by
    by_cases z : c = b
    · subst z
      rw [upd_same] at e
      rw [← Option.some.inj e]
      exact hb
    · rw [upd_ne z] at e
      exact a.s c u e, fun c h1 h2 => by
    by_cases z : c = b
    · subst z
      exact n
    · rw [upd_ne z] at h1
      exact a.n c h1 h2, a.t⟩
def hpN : Nat → Heap
  | 0 => {}
  | n + 1 => (hpN n).push { cls := .none, data := .fields #[] }
theorem hpN_size : ∀ n, (hpN n).objs.size = n
  | 0 => rfl
  | n + 1 => by
    show ((hpN n).push _).objs.size = _
    rw [Heap.size_push, hpN_size n]
theorem pd_ne_code {P : Program} {w : World} {a : Addr} {xs : PXs} (q : Str) : PD P w a xs ≠ LamX.CodeO a q := fun z => by
  have z := HO.ext.inj z
  have hg : ((hpN a).push { cls := .none, data := .fields #[.none, .str q 0] }).get? a = some { cls := .none, data := .fields #[.none, .str q 0] } := by
    have := Heap.get?_push_size (hpN a) (o := { cls := .none, data := .fields #[.none, .str q 0] }) rfl
    rw [hpN_size] at this
    exact this
  have h := congrFun z ((hpN a).push { cls := .none, data := .fields #[.none, .str q 0] })
  have h2 := (iff_of_eq h).mpr ⟨_, _, 0, hg, rfl, rfl⟩
  obtain ⟨_, _, ys, _, o, es, ep, h1, _, h3, _⟩ := h2
  rw [hg] at h1
  cases h1
  cases h3
theorem pd_nt {P : Program} {w : World} {a : Addr} {xs : PXs} : ∀ ps, PD P w a xs ≠ .tbl ps := fun ps z => by
  unfold PD at z
  cases z
theorem lst_nt {xs : List V} : ∀ ps, HO.lst xs ≠ .tbl ps := fun ps z => by cases z
theorem lst_nc {xs : List V} {a : Addr} : ∀ q, HO.lst xs ≠ LamX.CodeO a q := fun ps z => by cases z
end
section
variable {X : Cx} {o i k v e f value : Expr} {td ty tk tv tx : TE} {pos pos' apos cpos : Pos}
theorem pc_pnotinK (P : Program) (w : World) (hu : RoomP X.A) (hi : PE X i ty) (ho : PE X o td) (h1 : X.prog = P := by rfl) (h2 : X.w = w := by rfl) : PC X .NotIn i o (tPNotIn P w ty td) := by
  subst h1 h2
  exact pc_pnotin hu hi ho
theorem ps_pputK (P : Program) (w : World) (hu : RoomP X.A) (ho : PE X o td) (hi : PE X i ty) (hv : PE X value tv) (hs : swapsWith value (some (.Subscript o i pos')) pos.line X.env = pure false := by rfl) (h1 : X.prog = P := by rfl) (h2 : X.w = w := by rfl) :
    PS X (.Assign [.Subscript o i pos'] value pos) (sPPut P w td ty tv) := by
  subst h1 h2
  exact ps_pput hu ho hi hv hs
theorem pe_pget2K (P : Program) (w : World) (hu : RoomP X.A) (ho : PE X o td) (he : PE X e ty) (hf : PE X f tx) (m : M2 X o "get" apos e f cpos) (h1 : X.prog = P := by rfl) (h2 : X.w = w := by rfl) : PE X (.Call (.Attribute o "get" apos) [e, f] [] cpos) (tPGet2 P w td ty tx) := by
  subst h1 h2
  exact pe_pget2 hu ho he hf m
theorem pe_pnewK (P : Program) (w : World) (h1 : X.prog = P := by rfl) (h2 : X.w = w := by rfl) : PE X (.Dict [] [] pos) (tPNew P w) := by
  subst h1 h2
  exact pe_pnew
theorem pe_poneK (P : Program) (w : World) (hu : RoomP X.A) (hk : PE X k tk) (hv : PE X v tv) (h1 : X.prog = P := by rfl) (h2 : X.w = w := by rfl) : PE X (.Dict [some k] [v] pos) (tPOne P w tk tv) := by
  subst h1 h2
  exact pe_pone hu hk hv
theorem op_pneEK (P : Program) (w : World) (hu : X.A.units < cLine) (h1 : X.prog = P := by rfl) (h2 : X.w = w := by rfl) : OpR X (compareOp .NotEq) (rPNeE P w) := by
  subst h1 h2
  exact op_pneE hu
theorem pi_pitemsK (P : Program) (w : World) {elts : List Expr} {kk : Nat} {tpos : Pos} (he : PE X e td) (hbase : attributeBase e "items" X.env (eval e X.env) = eval e X.env := by rfl) (hline : (apos.endLine == cpos.line) = true := by rfl) (h1 : X.prog = P := by rfl) (h2 : X.w = w := by rfl) :
    PI X (.Tuple elts kk tpos) (.Call (.Attribute e "items" apos) [] [] cpos) (iPItems P w td) := by
  subst h1 h2
  exact pi_pitems he hbase hline
end
end K57
set_option Elab.async false
set_option linter.all false
set_option autoImplicit false
set_option maxRecDepth 100000
set_option maxHeartbeats 4000000
/-! K58A: all places that are come to. -/
namespace K57
open PySem PySem.Spec PyProof.Rows L2
def VStep (G : Hp) (v : V) (x : Nat × Spot) : Prop := ∃ a b, v = .ref a ∧ G a = some (.tup [nV x.1, .ref b]) ∧ SpotAt G b x.2
def VSteps (Pl : Pl) (G : Hp) (v : V) (p : Spot) : Prop := ∃ a us, v = .ref a ∧ G a = some (.lst us) ∧ All2 (VStep G) us (stepsOf Pl p)
theorem VStep.mono {G G' : Hp} {v : V} {x : Nat × Spot} (e : Same G G') (h : VStep G v x) : VStep G' v x := let ⟨a, b, h1, h2, h3⟩ := h; ⟨a, b, h1, e _ _ h2, SpotAt.mono e h3⟩
theorem VSteps.mono {Pl : Pl} {G G' : Hp} {v : V} {x : Spot} (e : Same G G') (h : VSteps Pl G v x) : VSteps Pl G' v x := let ⟨a, us, h1, h2, h3⟩ := h; ⟨a, us, h1, e _ _ h2, h3.imp fun v x z => VStep.mono e z⟩
theorem mStep (G G' : Hp) (v : V) (x : Nat × Spot) (e : Same G G') (h : VStep G v x) : VStep G' v x := VStep.mono e h
theorem AllAt.mono {G G' : Hp} {xs : PXs} (e : Same G G') (h : AllAt G xs) : AllAt G' xs := fun x hx => SpotAt.mono e (h x hx)
theorem getP_snoc {s : Spot} {b : Addr} {v : V} : ∀ {xs : PXs}, s ∉ xs.map (·.1) → getP (xs ++ [(s, b, v)]) s = some v
  | [], _ => getP_pos rfl
  | x :: r, h => by
    simp only [List.map_cons, List.mem_cons, not_or] at h
    rw [List.cons_append, getP_neg (fun z => h.1 z.symm)]
    exact getP_snoc h.2
theorem sizeLine_eq : sizeLine = 16777216 := by decide
structure AI (P : Program) (w : World) (Tb : List (Addr × Str)) (Pl : Pl) (n : Nat) (G1 H1 : Hp) (fd md : Addr) (G H : Hp) (Fc F R N : List Spot) (xs ms : PXs) : Prop where
  fr : Fr Tb X0 G1 H1 G H
  hf : H fd = some (PD P w fd xs)
  gf : G fd = none
  hm : H md = some (PD P w md ms)
  gm : G md = none
  kf : xs.map (·.1) = F
  km : ms.map (·.1) = F ++ R ++ N
  nd : (F ++ R ++ N).Nodup
  av : ∀ x ∈ xs, SpotAt G x.2.1 x.1 ∧ VSteps Pl G x.2.2 x.1
  am : AllAt G ms
  gd : ∀ p ∈ F ++ R ++ N, Good Pl p
  bg : begin Pl ∈ F ++ R ++ N
  cl : ∀ p ∈ Fc, ∀ h ∈ can Pl p, step Pl p h ∈ F ++ R ++ N
  mr : ∀ p ∈ R, Mu Pl p + n ≤ 9
  mn : ∀ p ∈ N, Mu Pl p + (n + 1) ≤ 9
  fm : fd ≠ md
section
variable {P : Program} {w : World} {Tb : List (Addr × Str)} {Pl : Pl} {n : Nat} {G1 H1 : Hp} {fd md : Addr} {G H G' H' : Hp} {Fc F R N : List Spot} {xs ms : PXs}
theorem AI.ext (a : AI P w Tb Pl n G1 H1 fd md G H Fc F R N xs ms) (f : Fr Tb X0 G H G' H') : AI P w Tb Pl n G1 H1 fd md G' H' Fc F R N xs ms :=
  ⟨a.fr.trans f, f.at (fun h => h) a.hf pd_nt, f.keep a.hf a.gf pd_nt, f.at (fun h => h) a.hm pd_nt, f.keep a.hm a.gm pd_nt, a.kf, a.km, a.nd, fun x hx => ⟨SpotAt.mono f.g (a.av x hx).1, VSteps.mono f.g (a.av x hx).2⟩, AllAt.mono f.g a.am, a.gd, a.bg, a.cl, a.mr, a.mn, a.fm⟩
end
section
variable {P : Program} {w : World} {K : PySem.W.Frag} {mg : Str → Option Value} {base : Heap} {C : Cs} {Tb : List (Addr × Str)}
def spAll (P : Program) (w : World) (C : Cs) (Tb : List (Addr × Str)) : Sp := fun vs H Q _ => ∃ (G : Hp) (v : V) (Pl : Pl), vs = [v] ∧ VProg C G v Pl ∧ PlOk Pl ∧ Same G H ∧
  ∀ d xs G' H', Fr Tb X0 G H G' H' → G' d = some (PD P w d xs) → Closed Pl (xs.map (·.1)) → (∀ x ∈ xs, SpotAt G' x.2.1 x.1 ∧ VSteps Pl G' x.2.2 x.1) → Q (.ref d) H'
theorem sc78 : FnScope ["program", "begin", "found", "met", "waiting", "fresh", "place", "hand", "later"] ["program"] (C8.fnScope (top 78)) := C8.fnScope_by (by decide +kernel)
theorem ok_all_steps (T : Txt K mg C) {f : Addr} {fd : FuncData} (F : C8.Def K mg "all_steps" (top 78) f fd) (b : Binds K fd ["program"] []) (c_first_place : Cl P w K mg base 1 "first_place" (spFirst C Tb) []) (c_steppers : Cl P w K mg base 3 "steppers" (spSteppers C Tb) [])
    (c_place_behind : Cl P w K mg base 2 "place_behind" (spBehind C Tb) []) : Cl P w K mg base 4 "all_steps" (spAll P w C Tb) [] := by
  refine C8.cal0 F b .nil sc78 (fun vs H Q E h => ?_) (fun cdv A outer s H vs Q E hr h => ?_)
  · obtain ⟨G, v, Pl, rfl, _⟩ := h
    rfl
  · obtain ⟨G, v, Pl, rfl, hv, ok, hs, k⟩ := h
    have hu := hu_of hr
    have hp := hr.units
    refine ⟨_, ((pss_cons (ps_set (i := 1) sc78.nd rfl (Or.inl rfl) (C8.pe_c c_first_place hr (by decide) (by rfl) (pa_cons (pv 0) pa_nil)))
      (pss_cons (ps_set (i := 2) sc78.nd rfl (Or.inl rfl) (pe_pnewK P w))
      (pss_cons (ps_par (i := 3) (j := 4) rfl sc78.nd rfl rfl (by decide) rfl rfl (pa_cons (pe_poneK P w hp (pv 1) pe_bl) (pa_cons (pe_lst (pa_cons (pv 1) pa_nil)) pa_nil)) rfl)
      (pss_cons (ps_while PassesOwn.never (pt_cmpR (op_neNil hu) (pv 4) (pe_lst pa_nil) rfl) (pss_cons (ps_set (i := 5) sc78.nd rfl (Or.inl rfl) (pe_lst pa_nil))
      (pss_cons (ps_for PassesOwn.never rfl (pi_list (pv 4)) (pg_name (i := 6) sc78.nd rfl (Or.inr rfl)) (pss_cons (ps_pputK P w hp (pv 2) (pv 6) (pe_lc (own := [("hand", 7)]) (tt := tYes) rfl sc78.nd (pi_list (C8.pe_c c_steppers hr (by decide) (by rfl) (pa_cons (pv 0) (pa_cons (pv 6) pa_nil)))) (blkOk_by (N := ["program", "begin", "found", "met", "waiting", "fresh", "place", "hand", "later"]) (sc := C8.fnScope (top 78)) (by decide +kernel)) (fun _ _ _ _ _ => (pg_name (i := 7) sc78.nd rfl (Or.inl rfl))) (fun _ _ _ _ _ => pts_nil) (fun _ _ _ _ _ => (pe_tup (pa_cons (pv 7) (pa_cons (C8.pe_c c_place_behind hr (by decide) (by rfl) (pa_cons (pv 0) (pa_cons (pv 6) (pa_cons (pv 7) pa_nil)))) pa_nil))))))
      (pss_one (ps_for PassesOwn.never rfl (pi_list (pe_pgetK P w hp (pv 2) (pv 6) (fun _ _ => rfl))) (pg_tup rfl (pgs_cons (pg_name (i := 7) sc78.nd rfl (Or.inl rfl)) (pgs_cons (pg_name (i := 8) sc78.nd rfl (Or.inl rfl)) pgs_nil))) (pss_one (ps_if (pt_cmp (pc_pnotinK P w hp (pv 8) (pv 3))) (pss_cons (ps_pputK P w hp (pv 3) (pv 8) pe_bl)
      (pss_one (ps_expr (pe_bm PySem.F.plainAttrs_list PySem.F.slot_list_append PySem.F.type_list_append mt_append (pv 5) (pa_cons (pv 8) pa_nil))))) pss_nil))))))
      (pss_one (ps_set (i := 4) sc78.nd rfl (Or.inl rfl) (pv 5))))))
      (pss_one (ps_ret (pv 2)))))))), ?_⟩
    refine ⟨_, rfl, G, v, Pl, rfl, hv, ok, hs, fun vb G1 H1 f1 ⟨b0, eb, hb0⟩ => ?_⟩
    subst eb
    refine fun fd nfd => ?_
    refine fun md nmd => ⟨_, rfl, b0, begin Pl, rfl, upd_same, ?_, ?_⟩
    · exact SpotAt.mono ((f1.s.trans (upd_keep nfd)).trans (upd_keep nmd)) hb0
    refine ⟨_, rfl, len1, fun wl nwl => ?_⟩
    refine ⟨_, _, rfl, ?_⟩
    have gfd := none_of_same f1.s nfd
    have nmd1 : H1 md = none := by
      by_cases z : md = fd
      · subst z
        rw [upd_same] at nmd
        cases nmd
      · rw [upd_ne z] at nmd
        exact nmd
    have gmd := none_of_same f1.s nmd1
    have hfm : fd ≠ md := fun z => by subst z; rw [upd_same] at nmd; cases nmd
    have hA1 : Fr Tb X0 G1 H1 G1 (upd (upd H1 fd (PD P w fd [])) md (PD P w md [])) := (Fr.alloc' f1.s nfd pd_nt).trans (Fr.alloc' (f1.s.trans (upd_keep nfd)) nmd pd_nt)
    have hA2 : Fr Tb X0 G1 H1 G1 (upd (upd (upd H1 fd (PD P w fd [])) md (PD P w md [])) md (PD P w md [(begin Pl, b0, .bl true)])) := hA1.mut' (not_live nmd1) gmd upd_same pd_nt pd_ne_code pd_nt
    have hfd2 : (upd (upd (upd H1 fd (PD P w fd [])) md (PD P w md [])) md (PD P w md [(begin Pl, b0, .bl true)])) fd = some (PD P w fd []) := by rw [upd_ne hfm, upd_ne hfm]; exact upd_same
    have hmd2 : (upd (upd (upd H1 fd (PD P w fd [])) md (PD P w md [])) md (PD P w md [(begin Pl, b0, .bl true)])) md = some (PD P w md [(begin Pl, b0, .bl true)]) := upd_same
    have nwl' : (upd (upd (upd H1 fd (PD P w fd [])) md (PD P w md [])) md (PD P w md [(begin Pl, b0, .bl true)])) wl = none := nwl
    have hI : ∃ H2, H2 = (upd (upd (upd H1 fd (PD P w fd [])) md (PD P w md [])) md (PD P w md [(begin Pl, b0, .bl true)])) := ⟨_, rfl⟩
    obtain ⟨H2, hH2⟩ := hI
    rw [← hH2] at hA2 hfd2 hmd2 nwl'
    have nwl := nwl'
    have gwl := none_of_same hA2.s nwl
    have hA3 := hA2.trans (Fr.alloc (o := .lst [.ref b0]) hA2.s nwl)
    have nf : fd ≠ wl := ne_of_none hfd2 nwl
    have nm' : md ≠ wl := ne_of_none hmd2 nwl
    have I0 : AI P w Tb Pl 0 G1 H1 fd md (upd G1 wl (.lst [.ref b0])) (upd H2 wl (.lst [.ref b0])) [] [] [begin Pl] [] [] [(begin Pl, b0, .bl true)] :=
      ⟨hA3, by rw [upd_ne nf]; exact hfd2, by rw [upd_ne nf]; exact gfd, by rw [upd_ne nm']; exact hmd2, by rw [upd_ne nm']; exact gmd, rfl, rfl, by simp, by simp, fun x hx => by simp at hx; subst hx; exact SpotAt.mono (same_upd (.refl _) gwl) hb0, fun p hp => by simp at hp; subst hp; exact good_begin ok, by simp, by simp, fun p hp => by simp at hp; subst hp; have := mu9 ok (begin Pl); omega, by simp, hfm⟩
    have hw0 : (upd G1 wl (.lst [.ref b0])) wl = some (.lst [.ref b0]) := upd_same
    have hs0 : VSpot (upd G1 wl (.lst [.ref b0])) (.ref b0) (begin Pl) := ⟨b0, rfl, SpotAt.mono (same_upd (.refl _) gwl) hb0⟩
    generalize upd G1 wl (.lst [.ref b0]) = G2 at I0 hw0 hs0
    rw [hH2] at I0
    refine ⟨fun m σ H => ∃ n wl us W F xs ms G x5 x6 x7 x8, σ = [some v, some (.ref b0), some (.ref fd), some (.ref md), some (.ref wl), x5, x6, x7, x8] ∧ m = 10 - n ∧ AI P w Tb Pl n G1 H1 fd md G H F F W [] xs ms ∧ G wl = some (.lst us) ∧ All2 (VSpot G) us W ∧ W.length ≤ 4 ^ n ∧ 3 * F.length + 1 ≤ 4 ^ n ∧ n ≤ 10,
      ⟨10, 0, wl, [.ref b0], [begin Pl], [], [], _, G2, _, _, _, _, rfl, rfl, I0, hw0, All2.cons hs0 .nil, by simp, by simp, by omega⟩, ?_⟩
    rintro m σ H4 ⟨n, wl, us, W, F, xs, ms, G4, x5, x6, x7, x8, rfl, rfl, a, hwl, hus, hW, hF, hn⟩
    refine ⟨_, rfl, Nat.zero_le _, fun e ne => ?_⟩
    have fe := Fr.alloc' (T := Tb) (X := X0) (o := .lst []) a.fr.s ne
    refine ⟨wl, e, us, rfl, rfl, .of (fe.s _ _ hwl), .of upd_same, _, rfl, ?_⟩
    have a := a.ext fe
    generalize upd H4 e (.lst []) = H5 at a ⊢
    cases us with
    | nil =>
      have e0 : W = [] := by have := hus.1; cases W with | nil => rfl | cons x r => simp at this
      subst e0
      refine iteF ⟨_, rfl, ?_⟩
      have hx : xs.map (·.1) = F := a.kf
      refine k fd xs _ _ (f1.trans (a.fr.adopt' (not_live nfd) a.gf a.hf)) upd_same ⟨?_, ?_, ?_, ?_, ?_⟩ fun x hx => ?_
      · rw [hx]; simpa using a.nd
      · rw [hx]; simpa using a.gd
      · rw [hx]; simpa using a.bg
      · rw [hx]; simpa using a.cl
      · have h10 : (4 : Nat) ^ n ≤ 4 ^ 10 := Nat.pow_le_pow_right (by decide) hn
        rw [hx]
        have : (4 : Nat) ^ 10 = 1048576 := by decide
        omega
      · have e1 := same_upd (b := fd) (o := PD P w fd xs) (.refl G4) a.gf
        exact ⟨SpotAt.mono e1 (a.av x hx).1, VSteps.mono e1 (a.av x hx).2⟩
    | cons u0 ur =>
      have hn9 : n ≤ 9 := by
        cases W with
        | nil => have := hus.1; simp at this
        | cons p r => have := a.mr p List.mem_cons_self; omega
      have hp4 : (4 : Nat) ^ n ≤ 262144 := Nat.le_trans (Nat.pow_le_pow_right (by decide) hn9) (by decide)
      have hp4' : (4 : Nat) ^ (n + 1) = 4 * 4 ^ n := by rw [Nat.pow_succ, Nat.mul_comm]
      refine iteT ⟨fun σ' H' => ∃ wl us W F xs ms G x5 x6 x7 x8, σ' = [some v, some (.ref b0), some (.ref fd), some (.ref md), some (.ref wl), x5, x6, x7, x8] ∧ AI P w Tb Pl (n + 1) G1 H1 fd md G H' F F W [] xs ms ∧ G wl = some (.lst us) ∧ All2 (VSpot G) us W ∧ W.length ≤ 4 ^ (n + 1) ∧ 3 * F.length + 1 ≤ 4 ^ (n + 1),
        fun σ' H' ⟨wl, us, W, F, xs, ms, G, x5, x6, x7, x8, h1, h2, h3, h4, h5, h6⟩ => ⟨10 - (n + 1), by omega, n + 1, wl, us, W, F, xs, ms, G, x5, x6, x7, x8, h1, rfl, h2, h3, h4, h5, h6, by omega⟩, ?_⟩
      refine ⟨Nat.zero_le _, fun fl nfl => ?_⟩
      have ff := Fr.alloc' (T := Tb) (X := X0) (o := .lst []) a.fr.s nfl
      have hfl0 : upd H5 fl (.lst []) fl = some (.lst []) := upd_same
      have gfl0 := none_of_same a.fr.s nfl
      have nfl1 : ¬ Live H1 fl := a.fr.nl nfl
      have nff : fd ≠ fl := fun z => by rw [← z] at nfl; rw [a.hf] at nfl; cases nfl
      have nmf : md ≠ fl := fun z => by rw [← z] at nfl; rw [a.hm] at nfl; cases nfl
      have a := a.ext ff
      generalize upd H5 fl (.lst []) = H6 at a hfl0 ⊢
      generalize u0 :: ur = us at hwl hus
      refine ⟨_, rfl, wl, rfl, ⟨_, .of (a.fr.s _ _ hwl)⟩, ?_⟩
      have hFW := a.nd
      refine for_it (walk_list (a := wl) (xs := us)) (fun i σ' H' => ∃ x6 x7 x8 G xs ms N ns, σ' = [some v, some (.ref b0), some (.ref fd), some (.ref md), some (.ref wl), some (.ref fl), x6, x7, x8] ∧ AI P w Tb Pl n G1 H1 fd md G H' (F ++ W.take i) (F ++ W.take i) (W.drop i) N xs ms ∧ Same G4 G ∧ H' fl = some (.lst ns) ∧ G fl = none ∧ All2 (VSpot G) ns N ∧ N.length ≤ 4 * i)
        ⟨_, _, _, G4, xs, ms, [], [], rfl, by simpa using a, .refl _, hfl0, gfl0, .nil, by simp⟩ (fun i σ' H' hi ⟨x6, x7, x8, G, xs, ms, N, ns, _, a, e, _⟩ => .of (a.fr.s _ _ (e _ _ hwl))) (fun i x σ' H7 H8 hi ⟨x6, x7, x8, G7, xs, ms, N, ns, eσ, a, e4, hfl, gfl, hns, hN⟩ y => ?_) (fun σ' H7 ⟨x6, x7, x8, G7, xs, ms, N, ns, eσ, a, e4, hfl, gfl, hns, hN⟩ => ?_)
      · subst eσ
        obtain ⟨rfl, hx⟩ := y
        obtain ⟨p, hp0, hvp⟩ := hus.get' hx
        have hiW : i < W.length := lt_of_get hp0
        have hdrop : W.drop i = p :: W.drop (i + 1) := by
          rw [List.drop_eq_getElem_cons hiW]
          congr 1
          have := List.getElem?_eq_some_iff.mp hp0
          exact this.2
        have htake : W.take (i + 1) = W.take i ++ [p] := by rw [List.take_add_one, hp0]; rfl
        have hassoc : F ++ W.take i ++ W.drop i ++ N = F ++ W.take (i + 1) ++ W.drop (i + 1) ++ N := by rw [hdrop, htake]; simp
        have e1G : Same G1 G7 := a.fr.g
        have hvp7 : VSpot G7 x p := VSpot.mono e4 hvp
        have hmr : Mu Pl p + n ≤ 9 := a.mr p (by rw [hdrop]; exact List.mem_cons_self)
        have hgp : Good Pl p := a.gd p (by rw [hdrop]; simp)
        have hpn : p ∉ xs.map (·.1) := by
          rw [a.kf]
          intro hin
          have h1 := a.nd
          rw [hdrop] at h1
          rw [List.append_assoc] at h1
          exact (List.nodup_append.mp h1).2.2 p hin p (by simp) rfl
        refine ⟨_, rfl, _, rfl, G7, v, x, Pl, p, rfl, VProg.mono e1G (VProg.mono f1.g hv), hvp7, hgp, ok, a.fr.s, fun v' G8 H9 f8 ⟨ca, ec, hca⟩ => ⟨ca, ec, ⟨_, .of (f8.s _ _ hca)⟩, fun D hD => ?_⟩⟩
        have hst4 : (stepsOf Pl p).length ≤ 4 := by unfold stepsOf; rw [List.length_map]; exact can_le4 ok hgp
        refine lc_frY (T := Tb) (X := X0) (walk_list (a := ca) (xs := (can Pl p).map nV)) G8 (IAll VStep (stepsOf Pl p)) f8.s hD (fun h => h) (by rw [List.length_map]; exact Nat.le_trans (can_le4 ok hgp) (by decide)) (fun H2 e => .of (e _ _ hca)) IAll.nil (IAll.mono mStep) IAll.len (fun j y G9 H10 H11 acc N9 hj hI fr9 hDD gD y' k' => ?_) (fun G9 H10 acc hI fr9 sg hDD => ?_)
        · obtain ⟨rfl, hy⟩ := y'
          obtain ⟨h, hh⟩ := get_of_lt (l := can Pl p) (i := j) (by simpa using hj)
          have e2 : some (nV h) = some y := (get_nV hh).symm.trans hy
          cases e2
          have cg := (mem_can.mp (mem_of_get hh)).2
          have e79 : Same G7 G9 := f8.g.trans fr9.g
          refine ⟨rfl, _, rfl, _, rfl, _, rfl, _, rfl, G9, v, x, Pl, p, h, rfl, VProg.mono (e1G.trans e79) (VProg.mono f1.g hv), VSpot.mono e79 hvp7, hgp, ok, cg, fr9.s, fun v2 G10 H12 f10 ⟨q, eq, hq⟩ => ⟨len2, fun t nt => ?_⟩⟩
          subst eq
          have f11 := f10.trans (Fr.alloc (o := .tup [nV h, .ref q]) f10.s nt)
          exact k' _ _ _ f11 (hI.step mStep f11.g (x := (h, step Pl p h)) (by unfold stepsOf; rw [List.getElem?_map, hh]; rfl) ⟨t, q, rfl, upd_same, SpotAt.mono (same_upd f10.s nt) hq⟩)
        · have a9 := a.ext (f8.trans fr9)
          have hD9 : (upd G9 D (.lst acc)) D = some (.lst acc) := upd_same
          have hfl9 := (f8.trans fr9).at (fun h => h) hfl
          have gfl9 := (f8.trans fr9).keep hfl gfl
          have e79 := (f8.trans fr9).g
          have hall : All2 (VStep (upd G9 D (.lst acc))) acc (stepsOf Pl p) := (hI.all (by unfold stepsOf; simp)).imp fun v x h => VStep.mono sg h
          generalize upd G9 D (.lst acc) = G10 at a9 hD9 gfl9 e79 hall
          obtain ⟨pa, epa, hpa⟩ := VSpot.mono e79 hvp7
          subst epa
          have hxl : xs.length = F.length + i := by
            have := congrArg List.length a9.kf
            simp at this
            omega
          refine ⟨_, rfl, _, rfl, fd, xs, pa, p, rfl, rfl, a9.hf, fun x hx => SpotAt.mono a9.fr.s (a9.av x hx).1, SpotAt.mono a9.fr.s hpa, by rw [sizeLine_eq]; omega, ?_⟩
          rw [putP_new hpn]
          have bI : AI P w Tb Pl n G1 H1 fd md G10 (upd H10 fd (PD P w fd (xs ++ [(p, pa, .ref D)]))) (F ++ W.take i) (F ++ W.take (i + 1)) (W.drop (i + 1)) N (xs ++ [(p, pa, .ref D)]) ms :=
            ⟨a9.fr.mut' (not_live nfd) a9.gf a9.hf pd_nt pd_ne_code pd_nt, upd_same, a9.gf, by rw [upd_ne (Ne.symm hfm)]; exact a9.hm, a9.gm, by rw [List.map_append, a9.kf, htake]; simp, by rw [a9.km, hassoc], by rw [← hassoc]; exact a9.nd, fun x hx => by
              rcases List.mem_append.mp hx with hx | hx
              · exact a9.av x hx
              · simp at hx
                subst hx
                exact ⟨hpa, D, acc, rfl, hD9, hall⟩, a9.am, by rw [← hassoc]; exact a9.gd, by rw [← hassoc]; exact a9.bg, by rw [← hassoc]; exact a9.cl, fun q hq => a9.mr q (by rw [hdrop]; exact List.mem_cons_of_mem _ hq), a9.mn, hfm⟩
          have hflb : upd H10 fd (PD P w fd (xs ++ [(p, pa, .ref D)])) fl = some (.lst ns) := by rw [upd_ne (Ne.symm nff)]; exact hfl9
          have hnsb : All2 (VSpot G10) ns N := hns.imp fun v x h => VSpot.mono e79 h
          have hxI : getP (xs ++ [(p, pa, .ref D)]) p = some (.ref D) := getP_snoc hpn
          have hDI : upd H10 fd (PD P w fd (xs ++ [(p, pa, .ref D)])) D = some (.lst acc) := bI.fr.s _ _ hD9
          have hpI : SpotAt (upd H10 fd (PD P w fd (xs ++ [(p, pa, .ref D)]))) pa p := SpotAt.mono bI.fr.s hpa
          have haI : AllAt (upd H10 fd (PD P w fd (xs ++ [(p, pa, .ref D)]))) (xs ++ [(p, pa, .ref D)]) := fun x hx => SpotAt.mono bI.fr.s (bI.av x hx).1
          refine ⟨_, rfl, _, rfl, fd, xs ++ [(p, pa, .ref D)], pa, p, .ref D, rfl, rfl, .inl upd_same, haI, hpI, hxI, D, rfl, ⟨acc, .of hDI⟩, ?_⟩
          refine for_it (walk_list (a := D) (xs := acc)) (fun j σ' H' => ∃ x7 x8 G ms N ns, σ' = [some v, some (.ref b0), some (.ref fd), some (.ref md), some (.ref wl), some (.ref fl), some (.ref pa), x7, x8] ∧ AI P w Tb Pl n G1 H1 fd md G H' (F ++ W.take i) (F ++ W.take (i + 1)) (W.drop (i + 1)) N (xs ++ [(p, pa, .ref D)]) ms ∧ Same G10 G ∧ H' fl = some (.lst ns) ∧ G fl = none ∧ All2 (VSpot G) ns N ∧ N.length ≤ 4 * i + j ∧
              ∀ h ∈ (can Pl p).take j, step Pl p h ∈ F ++ W.take (i + 1) ++ W.drop (i + 1) ++ N)
            ⟨_, _, G10, ms, N, ns, rfl, bI, .refl _, hflb, gfl9, hnsb, by omega, by simp⟩ (fun j σ' H' hj ⟨x7, x8, G, ms, N, ns, _, a, e, _⟩ => .of (a.fr.s _ _ (e _ _ hD9))) (fun j y σ' H11 H12 hj ⟨x7, x8, G11, ms, N, ns, eσ, a, e10, hfl, gfl, hns, hN, hcl⟩ hy => ?_) (fun σ' H11 ⟨x7, x8, G11, ms, N, ns, eσ, a, e10, hfl, gfl, hns, hN, hcl⟩ => ?_)
          · subst eσ
            obtain ⟨eH, hyj⟩ := hy
            subst H12
            obtain ⟨x0, hx0, ta, qb, rfl, hta, hqb⟩ := (hall.imp fun v x h => VStep.mono e10 h).get' hyj
            obtain ⟨h, hh, rfl⟩ : ∃ h, (can Pl p)[j]? = some h ∧ x0 = (h, step Pl p h) := by
              unfold stepsOf at hx0
              rw [List.getElem?_map] at hx0
              cases q0 : (can Pl p)[j]? with
              | none => rw [q0] at hx0; simp at hx0
              | some h => rw [q0] at hx0; exact ⟨h, rfl, (Option.some.inj hx0).symm⟩
            have cg := (mem_can.mp (mem_of_get hh)).2
            have hin4 : j < 4 := Nat.lt_of_lt_of_le hj (by rw [hall.1]; exact hst4)
            have hqH : SpotAt H11 qb (step Pl p h) := SpotAt.mono a.fr.s hqb
            have hmsH : AllAt H11 ms := AllAt.mono a.fr.s a.am
            have hml : ms.length = (F ++ W.take (i + 1) ++ W.drop (i + 1) ++ N).length := by rw [← a.km, List.length_map]
            have hml2 : ms.length ≤ 2000000 := by
              rw [hml]
              simp only [List.length_append, List.length_take, List.length_drop]
              omega
            refine ⟨ta, _, rfl, .of (a.fr.s _ _ hta), rfl, _, _, rfl, _, _, rfl, rfl, ?_⟩
            refine ⟨_, rfl, _, rfl, md, ms, qb, step Pl p h, rfl, rfl, .inl a.hm, hmsH, hqH, _, rfl, ?_⟩
            have htk : (can Pl p).take (j + 1) = (can Pl p).take j ++ [h] := by rw [List.take_add_one, hh]; rfl
            cases hin : (getP ms (step Pl p h)).isSome with
            | true =>
              refine iteF ⟨_, _, G11, ms, N, ns, rfl, a, e10, hfl, gfl, hns, by omega, fun k hk => ?_⟩
              rw [htk] at hk
              rcases List.mem_append.mp hk with hk | hk
              · exact hcl k hk
              · simp at hk
                subst hk
                rw [← a.km]
                exact getP_isSome.mp hin
            | false =>
              have hnot : step Pl p h ∉ ms.map (·.1) := fun z => by rw [getP_isSome.mpr z] at hin; cases hin
              have hsz : ms.length < sizeLine := by rw [sizeLine_eq]; omega
              refine iteT ⟨_, rfl, _, rfl, md, ms, qb, step Pl p h, rfl, rfl, a.hm, hmsH, hqH, hsz, ?_⟩
              rw [putP_new hnot]
              have hfl' : upd H11 md (PD P w md (ms ++ [(step Pl p h, qb, .bl true)])) fl = some (.lst ns) := by rw [upd_ne (Ne.symm nmf)]; exact hfl
              have hnl : ns.length < sizeLine := by rw [hns.1, sizeLine_eq]; omega
              refine ⟨_, rfl, .inl ⟨rfl, _, .of hfl'⟩, _, rfl, fl, ns, .ref qb, rfl, rfl, hfl', hnl, ?_⟩
              have fr2 := (a.fr.mut' (o := PD P w md (ms ++ [(step Pl p h, qb, .bl true)])) (not_live nmd1) a.gm a.hm pd_nt pd_ne_code pd_nt).mut' (o := .lst (ns ++ [.ref qb])) nfl1 gfl hfl' lst_nt lst_nc lst_nt
              have hnew : step Pl p h ∉ F ++ W.take (i + 1) ++ W.drop (i + 1) ++ N := by rw [← a.km]; exact hnot
              refine ⟨_, _, G11, ms ++ [(step Pl p h, qb, .bl true)], N ++ [step Pl p h], ns ++ [.ref qb], rfl, ⟨fr2, by rw [upd_ne nff, upd_ne hfm]; exact a.hf, a.gf, by rw [upd_ne nmf]; exact upd_same, a.gm, a.kf, by rw [List.map_append, a.km]; simp, ?_, a.av, ?_, ?_, ?_, ?_, a.mr, ?_, hfm⟩, e10, upd_same, gfl, hns.snoc ⟨qb, rfl, hqb⟩, by simp; omega, ?_⟩
              · rw [← List.append_assoc, List.nodup_append]
                refine ⟨a.nd, by simp, fun x hx y hy z => ?_⟩
                simp at hy
                subst hy z
                exact hnew hx
              · intro x hx
                rcases List.mem_append.mp hx with hx | hx
                · exact a.am x hx
                · simp at hx
                  subst hx
                  exact hqb
              · intro x hx
                rw [← List.append_assoc] at hx
                rcases List.mem_append.mp hx with hx | hx
                · exact a.gd x hx
                · simp at hx
                  subst hx
                  exact good_step ok hgp cg
              · rw [← List.append_assoc]
                exact List.mem_append_left _ a.bg
              · intro q hq k hk
                rw [← List.append_assoc]
                exact List.mem_append_left _ (a.cl q hq k hk)
              · intro x hx
                rcases List.mem_append.mp hx with hx | hx
                · exact a.mn x hx
                · simp at hx
                  subst hx
                  have h1 := step_wt ok hgp cg
                  omega
              · intro k hk
                rw [← List.append_assoc]
                rw [htk] at hk
                rcases List.mem_append.mp hk with hk | hk
                · exact List.mem_append_left _ (hcl k hk)
                · simp at hk
                  subst hk
                  exact List.mem_append_right _ (by simp)
          · subst eσ
            have hca4 : acc.length ≤ 4 := by rw [hall.1]; exact hst4
            have hcl' : ∀ h ∈ can Pl p, step Pl p h ∈ F ++ W.take (i + 1) ++ W.drop (i + 1) ++ N := by
              rw [List.take_of_length_le (by rw [hall.1]; unfold stepsOf; simp)] at hcl
              exact hcl
            refine ⟨_, _, _, G11, _, ms, N, ns, rfl, ⟨a.fr, a.hf, a.gf, a.hm, a.gm, a.kf, a.km, a.nd, a.av, a.am, a.gd, a.bg, ?_, a.mr, a.mn, hfm⟩, e4.trans (e79.trans e10), hfl, gfl, hns, by omega⟩
            intro q hq
            rw [htake, ← List.append_assoc] at hq
            rcases List.mem_append.mp hq with hq | hq
            · exact a.cl q hq
            · simp at hq
              subst hq
              exact hcl'
      · subst eσ
        rw [List.take_of_length_le (by rw [hus.1]; exact Nat.le_refl _), List.drop_of_length_le (by rw [hus.1]; exact Nat.le_refl _)] at a
        have e9 := same_upd (b := fl) (o := .lst ns) (.refl G7) gfl
        refine ⟨_, rfl, fl, ns, N, F ++ W, xs, ms, upd G7 fl (.lst ns), _, _, _, _, rfl, ⟨a.fr.adopt' nfl1 gfl hfl, a.hf, by rw [upd_ne nff]; exact a.gf, a.hm, by rw [upd_ne nmf]; exact a.gm, a.kf, by simpa using a.km, by simpa using a.nd, fun x hx => ⟨SpotAt.mono e9 (a.av x hx).1, VSteps.mono e9 (a.av x hx).2⟩, AllAt.mono e9 a.am, by simpa using a.gd, by simpa using a.bg, by simpa using a.cl, a.mn, by simp, hfm⟩, upd_same, hns.imp fun v x h => VSpot.mono e9 h, ?_, ?_⟩
        · rw [hus.1] at hN
          omega
        · rw [List.length_append]
          omega
end
end K57
set_option Elab.async false
set_option linter.all false
set_option autoImplicit false
set_option maxRecDepth 100000
set_option maxHeartbeats 4000000
/-! K57L: a lambda of one parameter, called; sorted(d, key=lambda ..) over a place dict. -/
namespace K57
open PySem PySem.Spec PyProof.Rows L2 LamX NdefX
abbrev lamQ (X : Cx) : Str := X.env.qual ++ "<lambda>"
abbrev lamCl (X : Cx) (scope : Scope) : List (Str × Addr) := cloFrom X.env.cells scope.names []
def lamF (X : Cx) (params : Arguments) (scope : Scope) (c' : Addr) : NF := ⟨"<lambda>", lamQ X, params, [], scope, lamCl X scope, c'⟩
section
variable {X : Cx} {pins : List (Addr × Obj)} {σ : L2.St} {H : Hp} {s : Shared}
theorem lam_call1 {A : Around} {k : Nat} {f c' : Addr} {pm ctv u : Value} {x : V} {params : Arguments} {body : Expr} {scope : Scope} {N1 : List Str} {pn y0 : Str} {j0 : Nat} {tb : TE} {Q : VK} (I : Inv X pins σ H s) (hA : A.frames = some X.stack) (hr : Room (k + 1) A)
    (S : NScope N1 [pn] [y0] scope) (cp : Caps X (lamCl X scope) [y0] [j0]) (hf : s.heap.get? f = some (PySem.W.kla_obj "<lambda>" (lamQ X) params body scope (lamCl X scope) pm c' ctv)) (hfn : H f = none) (hfr : f ∉ frs X.stack) (hco : H c' = some (CodeO c' (lamQ X)))
    (hbind : ∀ u, bindArgs (PySem.W.kla_fn "<lambda>" (lamQ X) params body scope (lamCl X scope) pm (.ref c') ctv) ⟨[u], []⟩ = pure [(pn, u)]) (rx : RelV x u)
    (hbody : Room k (A.deeper (envF (lamF X params scope c') f s.heap.objs.size)) → PE (ncx C8.CX0 X.prog X.w X.K X.mg X.base N1 (lamF X params scope c') f A X.stack s H C8.E0) body tb) (ht : tb (startF N1 [x] [slotAt σ j0]) H Q) :
    wpAny (model X.prog X.w) A (call (.ref f) [u]) (fun u' s' => ∃ v H', Inv X pins σ H' s' ∧ RelV v u' ∧ Q v H' ∧ s'.heap.get? f = some (PySem.W.kla_obj "<lambda>" (lamQ X) params body scope (lamCl X scope) pm c' ctv) ∧ H' f = none) (fun _ _ => False) s := by
  obtain ⟨⟨oc, vs, t, hoc, hdc, hvc⟩, _, _⟩ := I.hok c' _ hco
  have e0 : Env0 X.prog X.w X.K X.mg X.base A X.stack s H := ⟨hA, I.env0.mod, I.env0.bs, I.env0.bsz, I.env0.funs, I.env0.frf, I.env0.hok, I.env0.bare⟩
  have rc : codeAny (model X.prog X.w) A (.call (.ref f) ⟨[u], []⟩) (CR C8.CX0 X.stack X.prog X.w H s Q C8.E0) s := by
    refine PySem.W.kla_callFunE hr.depth hf rfl S.co S.gen rfl ⟨c', oc, vs, t, rfl, hoc, hdc, hvc⟩ ?_
    rw [hbind]
    refine wpAny_pure (wpAny_newFunctionEnv S.nocell (fun y hy => by simp at hy; subst hy; exact S.par pn (by simp)) (fun h₁ hns hsb => ⟨I.nolimit.fresh _ hsb, ?_⟩) S.kind)
    show codeAny _ _ (.expr body (envF (lamF X params scope c') f s.heap.objs.size)) _ _
    have kp : ∀ b o, s.heap.get? b = some o → h₁.get? b = some o := fun b o e => hsb.extBut b o (Nat.ne_of_lt (Heap.lt_size e)) (Heap.get?_push_of_some _ e)
    have J : Inv (ncx C8.CX0 X.prog X.w X.K X.mg X.base N1 (lamF X params scope c') f A X.stack s H C8.E0) [] (startF N1 [x] [slotAt σ j0]) H { s with heap := h₁, toks := s.toks + 1 } :=
      inv_startN (F := lamF X params scope c') (ps := [pn]) (fr := [y0]) (us := [u]) S hr.hd e0 rfl (.cons rx .nil) (cells_of I cp) hns kp
    refine PySem.W.kla_codeExpr (wpAny_mono ((hbody (hr.deeper _)).run [] _ _ H Q J ht) (fun v s' hq => ?_) fun e s' hq => hq)
    obtain ⟨w', H', J', rv, q⟩ := hq
    exact ⟨w', H', J'.os, J'.bare, J'.base, J'.hok, rv, q⟩
  refine wpAny_call (codeAny_mono rc fun r s' hq => ?_)
  cases r with
  | error e => exact (show False from hq).elim
  | ok fl =>
    cases fl with
    | ret u' =>
      obtain ⟨v, H', os, bare, un, hok, rv, q⟩ := hq
      have hE : EP X pins σ (fun v2 H2 => Q v2 H2 ∧ s'.heap.get? f = some (PySem.W.kla_obj "<lambda>" (lamQ X) params body scope (lamCl X scope) pm c' ctv) ∧ H2 f = none) u' s' :=
        I.after ⟨v, H', os, bare, un, hok, rv, q, un.keep f _ hf hfn hfr (by simp), un.free f _ hf hfn (by simp)⟩
      obtain ⟨v2, H2, I2, r2, q2, g1, g2⟩ := hE
      exact ⟨v2, H2, I2, r2, q2, g1, g2⟩
    | next => exact (show False from hq).elim
    | brk => exact (show False from hq).elim
    | cont => exact (show False from hq).elim
end

/-- the list at a while its items are sorted: empty -/
theorem szL : sizeLine = 16777216 := by decide
def LO (a : Addr) (e1 : Nat) : HO := .ext fun h => h.get? a = some (seqObj "list" #[] e1)
theorem lo_nt {a : Addr} {e1 : Nat} : ∀ ps, LO a e1 ≠ .tbl ps := fun ps z => by unfold LO at z; cases z
theorem lo_ne_code {a : Addr} {e1 : Nat} (q : Str) : LO a e1 ≠ LamX.CodeO a q := fun z => by
  have z := HO.ext.inj z
  have hg : ((hpN a).push { cls := .none, data := .fields #[.none, .str q 0] }).get? a = some { cls := .none, data := .fields #[.none, .str q 0] } := by
    have := Heap.get?_push_size (hpN a) (o := { cls := .none, data := .fields #[.none, .str q 0] }) rfl
    rw [hpN_size] at this
    exact this
  have h := congrFun z ((hpN a).push { cls := .none, data := .fields #[.none, .str q 0] })
  have h2 := (iff_of_eq h).mpr ⟨_, _, 0, hg, rfl, rfl⟩
  rw [hg] at h2
  cases h2
section
variable {prog : Program} {w : World} {A : Around} {E : Value → Shared → Prop} {s : Shared} {a kS : Addr} {vs : List Value} {kz : List Int} {keys : Array Value} {e e1 : Nat} {P : PySem.Fin → Shared → Prop}
theorem srt_tail {st : SortSt} (nk : s.heap.get? kS = some (seqObj "list" keys e)) (na : s.heap.get? a = some (seqObj "list" #[] e1)) (hka : kS ≠ a) (hk : IntsAre keys.toList kz) (hlen : kz.length = vs.length) (hZ : vs.length ≤ sizeLine)
    (hp : (arrOf st).Perm (keys.zip vs.toArray)) (hs : SortedTo (arrOf st) (arrOf st).size) (hfl : failedOf st = none)
    (h : ∀ out : Array Value, KskOut false kz vs out.toList → out.size = vs.length → P (.done (.ret .none)) { s with heap := (s.heap.update kS (Obj.mapSeq fun _ => (#[] : Array Value))).update a (Obj.mapSeq fun _ => out) }) :
    wpAny (model prog w) A (ksk_tail a false e1 (.ref kS) st) P E s := by
  have hZ2 := hZ
  rw [szL] at hZ2
  have hsz : keys.size = vs.length := by
    have h1 := hk.length
    rw [Array.length_toList] at h1
    omega
  have hout : ((arrOf st).map (·.2)).size = vs.length := by rw [Array.size_map, hp.size_eq, Array.size_zip, hsz, List.size_toArray, Nat.min_self]
  have na1 : (s.heap.update kS (Obj.mapSeq fun _ => (#[] : Array Value))).get? a = some (seqObj "list" #[] e1) := ((Heap.SameBut.update s.heap kS (Obj.mapSeq fun _ => (#[] : Array Value))).2 a hka.symm).trans na
  unfold ksk_tail
  try dsimp only
  refine wpAny_bind (listUpdate_at nk rfl ?_ (by rw [hsz, szL]; omega) (Nat.zero_le _))
  refine wpAny_bind (wpAny_letGo ?_)
  refine wpAny_bind (seqEpoch_at na1 rfl ?_)
  simp only [Bool.false_eq_true, if_false]
  refine wpAny_bind (listUpdate_at na1 rfl ?_ (Nat.zero_le _) (Nat.le_trans (Nat.le_of_eq hout) (by rw [szL]; omega)))
  rw [hfl]
  simp only [bne_self_eq_false, Bool.false_eq_true, if_false]
  exact wpAny_pure (h _ (ksk_out (b := false) hk hp hs) hout)
theorem srt_end (nk : s.heap.get? kS = some (seqObj "list" keys e)) (na : s.heap.get? a = some (seqObj "list" #[] e1)) (hka : kS ≠ a) (hk : IntsAre keys.toList kz) (hlen : kz.length = vs.length) (hZ : vs.length ≤ sizeLine)
    (h : ∀ out : Array Value, KskOut false kz vs out.toList → out.size = vs.length → P (.done (.ret .none)) { s with heap := (s.heap.update kS (Obj.mapSeq fun _ => (#[] : Array Value))).update a (Obj.mapSeq fun _ => out) }) :
    wpAny (model prog w) A (ksk_end a false vs.toArray e1 (.ref kS) keys) P E s := by
  have hZ2 := hZ
  rw [szL] at hZ2
  have hsz : keys.size = vs.length := by
    have h1 := hk.length
    rw [Array.length_toList] at h1
    omega
  have hzs : (keys.zip vs.toArray).size = vs.length := by rw [Array.size_zip, hsz, List.size_toArray, Nat.min_self]
  unfold ksk_end
  simp only [Bool.false_eq_true, if_false]
  by_cases h2 : vs.toArray.size < 2
  · rw [if_pos h2, if_pos h2]
    refine wpAny_bind (wpAny_pure ?_)
    rw [StateT.run_pure]
    refine wpAny_bind (wpAny_pure ?_)
    refine srt_tail (st := SortSt.mk' general' (keys.zip vs.toArray) #[] 7 none) nk na hka hk hlen hZ (Array.Perm.refl _) ?_ rfl h
    intro i j hij hj
    have hj2 : j < (keys.zip vs.toArray).size := hj
    rw [hzs] at hj2
    rw [List.size_toArray] at h2
    have : i = j := by omega
    subst this
    exact Int.le_refl _
  · rw [if_neg h2, if_neg h2]
    rw [List.size_toArray] at h2
    rw [ksk_kind hk (by rw [hsz]; omega)]
    refine wpAny_bind (wpAny_pure ?_)
    refine wpAny_bind (wpAny_mono (wpS_sortRunsAny (κ := intKind) (a₀ := keys.zip vs.toArray) (st := SortSt.mk' oneType' (keys.zip vs.toArray) #[] 7 none)
      (Q := fun _ st' => (arrOf st').Perm (keys.zip vs.toArray) ∧ failedOf st' = none ∧ SortedTo (arrOf st') (keys.zip vs.toArray).size)
      intKind_oneLt (ksk_keysOfInt (ksk_intKeys hk)) ⟨Array.Perm.refl _, rfl, rfl⟩ rfl (by rw [hzs]; omega) fun st' a1 a2 a3 => ⟨a1, a2, sortedTo_of_int a3⟩) ?_ fun _ _ e => e)
    rintro ⟨⟨⟩, st'⟩ s' ⟨rfl, hp, hf, hs⟩
    exact srt_tail nk na hka hk hlen hZ hp (by rw [hp.size_eq]; exact hs) hf h
end
theorem zip_pairs : ∀ L : List (Int × Addr), (L.map (·.1)).zip (L.map fun p => Value.ref p.2) = L.map fun p => (p.1, Value.ref p.2)
  | [] => rfl
  | p :: r => by simp [zip_pairs r]
/-- items with their keys -/
theorem out_items {L : List (Int × Addr)} {out : List Value} (h : KskOut false (L.map (·.1)) (L.map fun p => Value.ref p.2) out) : ∃ L' : List (Int × Addr), L'.Perm L ∧ L'.Pairwise (fun p q => p.1 ≤ q.1) ∧ out = L'.map fun p => Value.ref p.2 := by
  obtain ⟨ps, hp, rfl, ho⟩ := h
  have hz : (L.map (·.1)).zip (L.map fun p => Value.ref p.2) = L.map fun p => (p.1, Value.ref p.2) := by
    exact zip_pairs L
  rw [hz] at hp
  refine ⟨ps.map fun p => (p.1, match p.2 with | .ref a => a | _ => 0), ?_, ?_, ?_⟩
  · have := hp.map fun p : Int × Value => (p.1, match p.2 with | .ref a => a | _ => (0 : Addr))
    rw [List.map_map] at this
    have e : (L.map ((fun p : Int × Value => (p.1, match p.2 with | .ref a => a | _ => (0 : Addr))) ∘ fun p : Int × Addr => (p.1, Value.ref p.2))) = L := by
      rw [List.map_congr_left (g := id)]
      · simp
      · intro x _
        rfl
    rw [e] at this
    exact this
  · rw [List.pairwise_map]
    exact ho.imp fun {a b} h => by simpa using h
  · rw [List.map_map]
    apply List.map_congr_left
    intro p hpm
    obtain ⟨q, _, rfl⟩ := List.mem_map.mp (hp.mem_iff.mp hpm)
    rfl
section
variable {X : Cx} {pins : List (Addr × Obj)} {σ : L2.St} {H : Hp} {s : Shared} {Tb : List (Addr × Str)}
theorem int_vals {ks : List Int} {its : List Value} (r : Vals (ks.map V.int) its) : IntsAre its ks := by
  induction ks generalizing its with
  | nil => cases r; exact .nil
  | cons k ks ih =>
    cases r with
    | cons r1 r2 =>
      obtain ⟨t, rfl⟩ := r1
      exact .cons k t (ih r2)
theorem vals_refs : ∀ L : List (Int × Addr), Vals (L.map fun p => V.ref p.2) (L.map fun p => Value.ref p.2)
  | [] => .nil
  | p :: r => .cons rfl (vals_refs r)
theorem srt_rest {A : Around} {fo : Obj} {f a kS : Addr} {e1 : Nat} {L : List (Int × Addr)} {P : PySem.Fin → Shared → Prop} {H0 : Hp} {E : Value → Shared → Prop} (I : Inv X pins σ H s) (hext : ∀ b o, H0 b = some o → (∀ ps, o ≠ .tbl ps) → H b = some o) (hT : LamX.Tabs Tb H) (hL : L.length ≤ sizeLine) (hka : kS ≠ a)
    (ha : H a = some (LO a e1)) (hk : H kS = some (.lst [])) (n0 : ¬ Live H0 kS) (n1 : ¬ Live H0 a) (hf : s.heap.get? f = some fo) (hfn : H f = none)
    (turn : ∀ (i : Nat) (p : Int × Addr), L[i]? = some p → ∀ (s' : Shared) (H' : Hp), Inv X pins σ H' s' → (∀ b o, H0 b = some o → (∀ ps, o ≠ .tbl ps) → H' b = some o) → LamX.Tabs Tb H' → s'.heap.get? f = some fo → H' f = none →
      wpAny (model X.prog X.w) A (call (.ref f) [.ref p.2]) (fun u' s'' => ∃ H'', Inv X pins σ H'' s'' ∧ (∃ t, u' = .int p.1 t) ∧ (∀ b o, H' b = some o → (∀ ps, o ≠ .tbl ps) → H'' b = some o) ∧ LamX.Tabs Tb H'' ∧ s''.heap.get? f = some fo ∧ H'' f = none) (fun _ _ => False) s')
    (fin : ∀ (H' : Hp) (s'' : Shared) (L' : List (Int × Addr)), L'.Perm L → L'.Pairwise (fun p q => p.1 ≤ q.1) → Inv X pins σ H' s'' → (∀ b o, H0 b = some o → (∀ ps, o ≠ .tbl ps) → H' b = some o) → LamX.Tabs Tb H' → H' a = some (.lst (L'.map fun p => V.ref p.2)) → P (.done (.ret .none)) s'') :
    wpAny (model X.prog X.w) A (ksk_rest a (.ref f) false (L.map fun p => Value.ref p.2).toArray e1 (.ref kS)) P E s := by
  unfold ksk_rest
  refine wpAny_bind (wpAny_rule ?_)
  first
    | rw [List.forIn_toArray]
    | (rw [← Array.forIn_toList]; simp only [List.toList_toArray])
    | rw [← Array.forIn_toList]
  refine wpAny_bind (ksk_fold (fun i s' => ∃ H', Inv X pins σ H' s' ∧ (∀ b o, H0 b = some o → (∀ ps, o ≠ .tbl ps) → H' b = some o) ∧ LamX.Tabs Tb H' ∧ H' a = some (LO a e1) ∧ H' kS = some (.lst (((L.take i).map (·.1)).map V.int)) ∧ s'.heap.get? f = some fo ∧ H' f = none) _ 0 s
    ⟨H, I, hext, hT, ha, by simpa using hk, hf, hfn⟩ ?step ?done)
  case step =>
    rintro j x s' hx ⟨H', I', x', t', a', k', f', n'⟩
    simp only [Nat.zero_add] at k' ⊢
    obtain ⟨p, hp⟩ : ∃ p, L[j]? = some p := by
      have := lt_of_get hx
      rw [List.length_map] at this
      exact get_of_lt this
    have ex : x = Value.ref p.2 := by
      rw [List.getElem?_map, hp] at hx
      exact (Option.some.inj hx).symm
    subst ex
    refine wpAny_bind (wpAny_attempt (wpAny_mono (turn j p hp s' H' I' x' t' f' n') (fun v s'' he => ?_) fun _ _ hF => hF.elim))
    obtain ⟨H'', I2, ⟨t, rfl⟩, x2, t2, f2, n2⟩ := he
    have a2 := x2 _ _ a' lo_nt
    have k2 := x2 _ _ k' lst_nt
    obtain ⟨hz, its, n, rv, hlen, e⟩ := I2.lstM k2
    have hjl : j < L.length := lt_of_get hp
    have hlj : its.length = j := by rw [← hlen]; simp; omega
    have hsz : its.toArray.size ≤ sizeLine := by simp; omega
    refine wpAny_bind (listUpdate_at e rfl ?_ hsz (by rw [Array.size_push]; simp; omega))
    have I3 := I2.lset (t' := s''.toks) (f := (·.push (Value.int p.1 t))) (its' := its ++ [Value.int p.1 t]) (ys := (((L.take (j + 1)).map (·.1)).map V.int)) k2 e (by simp) (by
      rw [List.take_add_one, hp]
      simp only [List.map_append, Option.toList_some, List.map_cons, List.map_nil]
      exact rv.append (.cons ⟨t, rfl⟩ .nil)) (by simp; omega)
    have ekS : kS ≠ f := fun z => by rw [z, n2] at k2; cases k2
    refine wpAny_pure ⟨rfl, _, I3, fun b o hb no => ?_, tabs_set t2 k2 lst_nt lst_nc, by rw [upd_ne (Ne.symm hka)]; exact a2, upd_same, ?_, by rw [upd_ne (Ne.symm ekS)]; exact n2⟩
    · rw [upd_ne (fun z => n0 (by rw [← z]; exact ⟨o, hb, no⟩))]
      exact x2 b o (x' b o hb no) no
    · exact ((Heap.SameBut.update s''.heap kS (Obj.mapSeq (·.push (Value.int p.1 t)))).2 f (Ne.symm ekS)).trans f2
  case done =>
    rintro s' ⟨H', I', x', t', a', k', f', n'⟩
    simp only [Nat.zero_add, List.length_map] at k'
    rw [List.take_length] at k'
    obtain ⟨hz, its, n, rv, hlen, e⟩ := I'.lstM k'
    refine wpAny_bind (listItems_at e rfl ?_)
    have hat : s'.heap.get? a = some (seqObj "list" #[] e1) := (I'.hok a _ a').1
    refine srt_end (vs := L.map fun p => Value.ref p.2) (kz := L.map (·.1)) e hat hka (by simpa using int_vals rv) (by simp) (by simpa using hL) fun out ho hs => ?_
    obtain ⟨L', p1, p2, p3⟩ := out_items ho
    have I3 := I'.lset (t' := s'.toks) (f := fun _ => (#[] : Array Value)) (its' := []) (ys := []) k' e rfl .nil (Nat.zero_le _)
    have hat2 : (s'.heap.update kS (Obj.mapSeq fun _ => (#[] : Array Value))).get? a = some (seqObj "list" #[] e1) := ((Heap.SameBut.update s'.heap kS (Obj.mapSeq fun _ => (#[] : Array Value))).2 a hka.symm).trans hat
    have a3 : upd H' kS (.lst []) a = some (LO a e1) := by rw [upd_ne (Ne.symm hka)]; exact a'
    have hsm := Heap.SameBut.update (s'.heap.update kS (Obj.mapSeq fun _ => (#[] : Array Value))) a (Obj.mapSeq fun _ => out)
    have hget := get?_update_seq hat2 fun _ => out
    have eo : out = (L'.map fun p => Value.ref p.2).toArray := by rw [← p3, Array.toArray_toList]
    have hlL : (L'.map fun p => V.ref p.2).length ≤ sizeLine := by rw [List.length_map, p1.length_eq]; exact hL
    have I4 := I3.write (t' := s'.toks) (x := a) (e := a) (o := .lst (L'.map fun p => V.ref p.2)) (h' := (s'.heap.update kS (Obj.mapSeq fun _ => (#[] : Array Value))).update a (Obj.mapSeq fun _ => out)) (by rw [a3]; trivial) (.inl rfl)
      (fun b u hb q => (hsm.2 b hb).trans q) ⟨_, hget⟩ ⟨hlL, L'.map fun p => Value.ref p.2, _, vals_refs L', by rw [← eo]; exact hget⟩
    refine fin _ _ L' p1 p2 I4 (fun b o hb no => ?_) (tabs_set (tabs_set t' k' lst_nt lst_nc) a3 lo_nt ?_) upd_same
    · rw [upd_ne (fun z => n1 (by rw [← z]; exact ⟨o, hb, no⟩)), upd_ne (fun z => n0 (by rw [← z]; exact ⟨o, hb, no⟩))]
      exact x' b o hb no
    · exact fun q => lo_ne_code q
end
def tSrt (P : Program) (w : World) (Tb : List (Addr × Str)) (N1 : List Str) (j0 : Nat) (t : TA) (tb : TE) : TE := fun σ H Q => t σ H fun vs H1 => ∃ (d : Addr) (xs : PXs), vs = [.ref d] ∧ Rd H1 d (PD P w d xs) ∧ LamX.Tabs Tb H1 ∧ ∃ key : Spot → Int,
  (∀ x ∈ xs, ∀ H2, LamX.ExtN H1 H2 → LamX.Tabs Tb H2 → tb (startF N1 [.ref x.2.1] [slotAt σ j0]) H2 fun v H3 => v = .int (key x.1) ∧ LamX.ExtN H2 H3 ∧ LamX.Tabs Tb H3) ∧
  ∀ (H3 : Hp) (a : Addr) (L' : List (Int × Addr)), LamX.ExtN H1 H3 → LamX.Tabs Tb H3 → ¬ Live H1 a → H3 a = some (.lst (L'.map fun p => V.ref p.2)) → L'.Perm (xs.map fun x => (key x.1, x.2.1)) → L'.Pairwise (fun p q => p.1 ≤ q.1) → Q (.ref a) H3
section
variable {X : Cx}
theorem raw_refs {P : Program} {w : World} {xs : PXs} {ys : List (NestedKey × Addr × Value)} (r : KP xs ys) {es : Array DictEntry} (hes : es.toList = ys.map (entryOfKey (nestedKind P w))) {i : Nat} (hi : i < es.size) {x : Spot × Addr × V} (hx : xs[i]? = some x) : es[i].key = Value.ref x.2.1 := by
  obtain ⟨y, hy, e, _⟩ := kp_get r hx
  have h1 : es.toList[i]? = some es[i] := by simp [hi]
  rw [hes, List.getElem?_map, hy] at h1
  have h2 : entryOfKey (nestedKind P w) y = es[i] := Option.some.inj h1
  rw [← h2, ← e]
  rfl
theorem pe_sortlam {Tb : List (Addr × Str)} {kk j0 : Nat} {c0 P0 : Addr} {e body : Expr} {params : Arguments} {scope : Scope} {N1 : List Str} {pn y0 : Str} {t : TA} {tb : TE} {p lpos kpos pos : Pos} (hg : Gl X "sorted") (hm : X.mg "sorted" = none) (hcalm : X.calm = true) (he : PA X [e] t) (hr : Room (kk + 3) X.A)
    (TB : LamX.TabB X.base X.mg c0 P0) (hcode : X.env.code = .ref c0) (hmT : (P0, lamQ X) ∈ Tb) (hu : ∀ p ∈ Tb, p.1 = P0 → p.2 = lamQ X) (hdef : defaultsOf params X.env = ([], []))
    (S : NScope N1 [pn] [y0] scope) (hfree : ∀ y ∈ scope.names, y.2 = .free → X.env.scope.names.lookup y.1 = some .cell ∨ X.env.scope.names.lookup y.1 = some .free) (hfr : (y0, NameKind.free) ∈ scope.names) (hj : X.N[j0]? = some y0)
    (hbind : ∀ (pm cv ctv u : Value), bindArgs (PySem.W.kla_fn "<lambda>" (lamQ X) params body scope (lamCl X scope) pm cv ctv) ⟨[u], []⟩ = pure [(pn, u)])
    (hbody : ∀ (A : Around) (s : Shared) (H : Hp) (f c' : Addr), Room kk (A.deeper (envF (lamF X params scope c') f s.heap.objs.size)) → PE (ncx C8.CX0 X.prog X.w X.K X.mg X.base N1 (lamF X params scope c') f A X.stack s H C8.E0) body tb)
    (hst : starEach [e] X.env = [(false, eval e X.env)] := by rfl)
    (hks : (backToKw pos (keywordEach [⟨some "key", .Lambda params body scope lpos, kpos⟩] X.env)).filterMap (·.1) = [("key" : Str)] := by rfl) :
    PE X (.Call (.Name "sorted" p) [e] [⟨some "key", .Lambda params body scope lpos, kpos⟩] pos) (tSrt X.prog X.w Tb N1 j0 t tb) := by
  refine ⟨fun pins s σ H Q I h => ?_⟩
  have hv : bootBuiltins ("sorted" : Str) = some (.builtin "sorted") := by decide +kernel
  refine wpAny_Call_Name_kw (ld_blt I hg hm hv ?_ (by decide) (by decide))
  refine PyProof.Rows.callWith_kw (thn (he.run pos pins s σ H _ I h) fun us s1 ⟨vs, H1, I1, r1, d, xs, ev, hd, hT, key, hbd, hQ⟩ => ?_) (by rw [hst]; rfl) (by rw [hst]; rfl) (by rfl) (by rfl)
  rw [hks]
  subst ev
  obtain ⟨u, eu, rx⟩ := vals1 r1
  subst eu
  obtain rfl : u = Value.ref d := rx
  have hcaps : Caps X (lamCl X scope) [y0] [j0] := Caps.made I.ok hfree (fun y hy => by simp at hy; subst hy; exact hfr) (by simp [hj])
  have hfree2 : ∀ y ∈ scope.names, y.2 = .free → ∃ c, X.env.cells.lookup y.1 = some c := fun y hy e => (hfree y hy e).elim (fun z => I.ok.has _ (.inl z)) fun z => I.ok.has _ (.inr z)
  show wpAny _ _ (evalAll ((do let v ← eval (.Lambda params body scope lpos) X.env; standAt pos; pure v) :: [])) _ _ s1
  refine wpAny_evalAll_cons (wpAny_bind (lam_make2 I1 TB hcode hmT hu hT hdef hfree2 fun f c' pm' ctv H2 s2 I2 eN T2 hf hfn hfr2 hco => wpAny_bind (wpAny_standAt (wpAny_pure ?_))))
  refine wpAny_evalAll_nil ?_
  show wpAny _ _ (call (.builtin "sorted") [.ref d] [(("key" : Str), .ref f)]) _ _ _
  have hz : xs.length ≤ sizeLine := by
    obtain ⟨⟨z, _⟩, _, _⟩ := (show ObjOk X.prog X.w H1 s1.heap d (PD X.prog X.w d xs) from hd.ok I1.hok)
    exact z
  have hd2 : ∃ (hdm : (d == sysModules) = false) (es : Array DictEntry) (ep : Nat) (ys : List (NestedKey × Addr × Value)), s2.heap.DictRaw d es ep ∧ es.size = xs.length ∧ KP xs ys ∧ es.toList = ys.map (entryOfKey (nestedKind X.prog X.w)) := by
    have hd' : Rd H2 d (PD X.prog X.w d xs) := by
      rcases hd with h | ⟨o, h⟩
      · exact .inl (eN _ _ h pd_nt)
      · exact .inr ⟨o, eN _ _ h (fun ps z => by cases z)⟩
    obtain ⟨⟨z, hdm, ys, r, o, es, ep, h1, h2, h3, h4, h5⟩, _, _⟩ := (show ObjOk X.prog X.w H2 s2.heap d (PD X.prog X.w d xs) from hd'.ok I2.hok)
    refine ⟨hdm, es, ep, ys, ⟨o, h1, h2, h3⟩, ?_, r, h4⟩
    rw [← Array.length_toList, h4, List.length_map]
    exact (Paired.length r).symm
  obtain ⟨hdm, es, ep, ys, hraw, hes, kp, het⟩ := hd2
  refine call_function_entry_kw kind_sorted plain_sorted entry_sorted (ksk_s1 _ _) ?_
  unfold Builtin.«sorted»
  refine wpAny_bind (m := checkCount "sorted" 1 1 _) (wpAny_pure ?_)
  refine wpAny_bind (PySem.W.kdu_collect (A := X.A.in1) (PySem.KdlSrc.rawDict (es := es) (ep := ep) hdm) (I.ok.hd hcalm) hraw (by rw [hes]; exact hz) fun h' tk acc hk hacc => ?_)
  have hal : acc.toList.length = xs.length := by rw [Array.length_toList, hacc.1, hes]
  let L : List (Int × Addr) := xs.map fun x => (key x.1, x.2.1)
  have hacc2 : acc.toList = L.map fun p => Value.ref p.2 := by
    apply List.ext_getElem?
    intro i
    by_cases hi : i < xs.length
    · obtain ⟨v, hv⟩ := get_of_lt (l := acc.toList) (i := i) (by rw [hal]; exact hi)
      obtain ⟨x, hx⟩ := get_of_lt hi
      obtain ⟨hi2, e2⟩ := hacc.2 i v (by rw [← Array.getElem?_toList]; exact hv)
      rw [hv, e2, raw_refs kp het hi2 hx, List.getElem?_map]
      show _ = Option.map _ ((xs.map fun x => (key x.1, x.2.1))[i]?)
      rw [List.getElem?_map, hx]
      rfl
    · rw [List.getElem?_eq_none (by omega), List.getElem?_eq_none (by rw [List.length_map]; show (xs.map fun x => (key x.1, x.2.1)).length ≤ i; rw [List.length_map]; omega)]
  rw [hacc2]
  have hLl : L.length = xs.length := by show (xs.map _).length = _; rw [List.length_map]
  have I3 : Inv X pins σ H2 { s2 with heap := h', toks := tk } := I2.kept hk
  refine wpAny_bind (wpAny_newList ?_ (by rw [List.length_map, hLl]; exact hz))
  show wpAny _ _ _ _ _ { s2 with heap := h'.push (seqObj "list" (L.map fun p => Value.ref p.2).toArray 0), toks := tk }
  have ho : (h'.push (seqObj "list" (L.map fun p => Value.ref p.2).toArray 0)).get? h'.objs.size = some (seqObj "list" (L.map fun p => Value.ref p.2).toArray 0) := Heap.get?_push_size _ rfl
  have nA : H2 h'.objs.size = none := I3.hok.fresh (Nat.le_refl _)
  have hLz : L.length ≤ sizeLine := by rw [hLl]; exact hz
  refine wpAny_bind (wpAny_holding (wpAny_call_entry_kw slot_list_sort ⟨_, ho, rfl⟩ entry_list_sort ?body (ksk_l1 _ _)))
  case body =>
    rw [show Builtin.«list.sort» ⟨[.ref h'.objs.size], [(("key" : Str), .ref f)]⟩ = ksk_tree h'.objs.size (.ref f) false from rfl]
    unfold ksk_tree
    refine wpAny_bind (listItems_at ho rfl ?_)
    refine wpAny_bind (listUpdate_at ho rfl ?_ (by rw [List.size_toArray, List.length_map]; exact hLz) (Nat.zero_le _))
    have ho1 := get?_update_seq ho fun _ => (#[] : Array Value)
    have hsm := Heap.SameBut.update (h'.push (seqObj "list" (L.map fun p => Value.ref p.2).toArray 0)) h'.objs.size (Obj.mapSeq fun _ => (#[] : Array Value))
    refine wpAny_bind (seqEpoch_at ho1 rfl ?_)
    refine wpAny_bind (wpAny_newTuple ?_ (by show ((L.map fun p => Value.ref p.2).toArray.toList).length ≤ _; simp; exact hLz))
    refine wpAny_bind (wpAny_newList ?_ (Nat.zero_le _))
    refine wpAny_holding ?_
    let h2 : Heap := (h'.push (seqObj "list" (L.map fun p => Value.ref p.2).toArray 0)).update h'.objs.size (Obj.mapSeq fun _ => (#[] : Array Value))
    generalize hge1 : (if ((#[] : Array Value).size == (L.map fun p => Value.ref p.2).toArray.size) = true then 0 else 0 + 1) = e1 at ho1
    have he1 : h2.get? h'.objs.size = some (seqObj "list" #[] e1) := ho1
    have hsz2 : h2.objs.size = h'.objs.size + 1 := by show (Heap.update _ _ _).objs.size = _; rw [Heap.size_update, size_push']
    have IA : Inv X pins σ (upd H2 h'.objs.size (LO h'.objs.size e1)) { s2 with heap := h2, toks := tk } := I3.laid (t' := tk) (h' := h2) (fun b u hb => (hsm.2 b (Nat.ne_of_lt (Heap.lt_size hb))).trans (Heap.get?_push_of_some _ hb)) (Nat.le_refl _) ⟨he1, ⟨_, he1⟩, fun _ _ q k => k _ q⟩
    have IB : Inv X pins σ (upd H2 h'.objs.size (LO h'.objs.size e1)) { s2 with heap := h2.push { cls := .type "tuple", data := .seq ((L.map fun p => Value.ref p.2).toArray.toList).toArray }, toks := tk } := IA.kept (t' := tk) fun b o e => Heap.get?_push_of_some _ e
    have hkS : (h2.push { cls := .type "tuple", data := .seq ((L.map fun p => Value.ref p.2).toArray.toList).toArray }).objs.size = h'.objs.size + 2 := by rw [size_push', hsz2]
    have hka : (h2.push { cls := .type "tuple", data := .seq ((L.map fun p => Value.ref p.2).toArray.toList).toArray }).objs.size ≠ h'.objs.size := by rw [hkS]; omega
    have IC := IB.laid (t' := tk) (a := (h2.push { cls := .type "tuple", data := .seq ((L.map fun p => Value.ref p.2).toArray.toList).toArray }).objs.size) (o := .lst []) (h' := (h2.push { cls := .type "tuple", data := .seq ((L.map fun p => Value.ref p.2).toArray.toList).toArray }).push { cls := .type "list", data := .seq ([] : List Value).toArray })
      (fun b o e => Heap.get?_push_of_some _ e) (Nat.le_refl _) ⟨Nat.zero_le _, [], 0, .nil, Heap.get?_push_size _ rfl⟩
    have nK0 := IB.hok.fresh (Nat.le_refl (h2.push { cls := .type "tuple", data := .seq ((L.map fun p => Value.ref p.2).toArray.toList).toArray }).objs.size)
    have nK : H2 (h2.push { cls := .type "tuple", data := .seq ((L.map fun p => Value.ref p.2).toArray.toList).toArray }).objs.size = none := by rw [upd_ne hka] at nK0; exact nK0
    have hf' : h'.get? f = some (PySem.W.kla_obj "<lambda>" (lamQ X) params body scope (lamCl X scope) pm' c' ctv) := hk _ _ hf
    have hflt := Heap.lt_size hf'
    have hfA : f ≠ h'.objs.size := Nat.ne_of_lt hflt
    have hfK : f ≠ (h2.push { cls := .type "tuple", data := .seq ((L.map fun p => Value.ref p.2).toArray.toList).toArray }).objs.size := by rw [hkS]; exact Nat.ne_of_lt (Nat.lt_of_lt_of_le hflt (by omega))
    have n0 : ¬ Live H2 (h2.push { cls := .type "tuple", data := .seq ((L.map fun p => Value.ref p.2).toArray.toList).toArray }).objs.size := not_live nK
    have n1 : ¬ Live H2 h'.objs.size := not_live nA
    refine srt_rest (Tb := Tb) (H0 := H2) (fo := PySem.W.kla_obj "<lambda>" (lamQ X) params body scope (lamCl X scope) pm' c' ctv) IC (fun b o hb no => ?_) (T2.ext fun b o hb => ?_) hLz hka (by rw [upd_ne (Ne.symm hka)]; exact upd_same) upd_same n0 n1 ?_ (by rw [upd_ne hfK, upd_ne hfA]; exact hfn) (fun i p hp s' H' I' x' t' f' n' => ?_) (fun H' s'' L' p1 p2 I' x' t' a' => ?_)
    · rw [upd_ne (fun z => n0 (by rw [← z]; exact ⟨o, hb, no⟩)), upd_ne (fun z => n1 (by rw [← z]; exact ⟨o, hb, no⟩))]
      exact hb
    · rw [upd_ne (fun z => by rw [z, nK] at hb; cases hb), upd_ne (fun z => by rw [z, nA] at hb; cases hb)]
      exact hb
    · exact Heap.get?_push_of_some _ (Heap.get?_push_of_some _ ((hsm.2 f hfA).trans (Heap.get?_push_of_some _ hf')))
    · have hx : ∃ x, xs[i]? = some x ∧ p = (key x.1, x.2.1) := by
        have hp : (xs.map fun x => (key x.1, x.2.1))[i]? = some p := hp
        rw [List.getElem?_map] at hp
        cases q : xs[i]? with
        | none => rw [q] at hp; simp at hp
        | some x => rw [q] at hp; exact ⟨x, rfl, (Option.some.inj hp).symm⟩
      obtain ⟨x, hx, rfl⟩ := hx
      have eX : LamX.ExtN H1 H' := fun b o hb no => x' b o (eN b o hb no) no
      refine wpAny_mono (lam_call1 (tb := tb) (x := .ref x.2.1) (Q := fun v H3 => v = .int (key x.1) ∧ LamX.ExtN H' H3 ∧ LamX.Tabs Tb H3) I' (show X.A.frames = some X.stack from I.ok.frames) hr.in1.in1 S hcaps f' n' hfr2 (x' _ _ hco codeO_ne) (fun u => hbind _ _ _ u) rfl (fun hr' => hbody _ _ _ _ _ hr') (hbd x (List.mem_of_getElem? hx) H' eX t')) (fun u' s3 ⟨v, H3, I4, rv, ⟨ev, ex, tt⟩, g1, g2⟩ => ?_) (fun _ _ hF => hF)
      subst ev
      exact ⟨H3, I4, rv, ex, tt, g1, g2⟩
    · refine ⟨.none, rfl, wpAny_pure ⟨_, rfl, .ref h'.objs.size, H', I', rfl, ?_⟩⟩
      refine hQ H' h'.objs.size L' (fun b o hb no => x' b o (eN b o hb no) no) t' (fun l => ?_) a' p1 p2
      obtain ⟨o, ho, no⟩ := l
      exact n1 ⟨o, eN _ _ ho no, no⟩
end
end K57
set_option Elab.async false
set_option linter.all false
set_option autoImplicit false
set_option maxRecDepth 100000
set_option maxHeartbeats 4000000
/-! K58B: heights, places upward. -/
namespace K57
open PySem PySem.Spec PyProof.Rows L2 LamX NdefX
theorem hgt_zip : ∀ (scs : List (List Nd)) (os : List (Option Nat)), hgt scs os = (List.zipWith hv scs os).sum
  | [], _ => by simp [hgt]
  | _ :: _, [] => by simp [hgt]
  | sc :: r, o :: os => by rw [hgt_cons, hgt_zip r os]; simp
theorem sum_cast : ∀ l : List Nat, (l.map fun n => ((n : Nat) : Int)).sum = ((l.sum : Nat) : Int)
  | [] => rfl
  | n :: r => by simp [sum_cast r]
theorem map_nV (l : List Nat) : l.map nV = (l.map fun n => ((n : Nat) : Int)).map V.int := by rw [List.map_map]; rfl
theorem perm_lift {α β : Type} {f : α → β} {m l' : List β} (h : m.Perm l') : ∀ l : List α, m = l.map f → ∃ l'' : List α, l.Perm l'' ∧ l' = l''.map f := by
  induction h with
  | nil => intro l e; exact ⟨l, .refl _, e⟩
  | @cons x m1 m2 _ ih =>
    intro l e
    cases l with
    | nil => simp at e
    | cons a t =>
      simp only [List.map_cons, List.cons.injEq] at e
      obtain ⟨l'', p, e2⟩ := ih t e.2
      exact ⟨a :: l'', p.cons a, by rw [List.map_cons, ← e2, e.1]⟩
  | swap x y l1 =>
    intro l e
    cases l with
    | nil => simp at e
    | cons a t =>
      cases t with
      | nil => simp at e
      | cons b t =>
        simp only [List.map_cons, List.cons.injEq] at e
        exact ⟨b :: a :: t, .swap b a t, by rw [List.map_cons, List.map_cons, e.1, e.2.1, e.2.2]⟩
  | trans _ _ ih1 ih2 =>
    intro l e
    obtain ⟨l1, p1, e1⟩ := ih1 l e
    obtain ⟨l2, p2, e2⟩ := ih2 l1 e1
    exact ⟨l2, p1.trans p2, e2⟩
theorem SpotAt.monoN {G G' : Hp} {a : Addr} {s : Spot} (e : ExtN G G') (h : SpotAt G a s) : SpotAt G' a s := let ⟨t1, t2, h1, h2, h3⟩ := h; ⟨t1, t2, e _ _ h1 (fun _ z => by cases z), e _ _ h2 (fun _ z => by cases z), e _ _ h3 (fun _ z => by cases z)⟩
theorem VStep.monoN {G G' : Hp} {v : V} {x : Nat × Spot} (e : ExtN G G') (h : VStep G v x) : VStep G' v x := let ⟨a, b, h1, h2, h3⟩ := h; ⟨a, b, h1, e _ _ h2 (fun _ z => by cases z), SpotAt.monoN e h3⟩
theorem VSteps.monoN {Pl : Pl} {G G' : Hp} {v : V} {x : Spot} (e : ExtN G G') (h : VSteps Pl G v x) : VSteps Pl G' v x := let ⟨a, us, h1, h2, h3⟩ := h; ⟨a, us, h1, e _ _ h2 (fun _ z => by cases z), h3.imp fun v x z => VStep.monoN e z⟩
theorem Fr.extN {T : List (Addr × Str)} {G H G' H' : Hp} (f : Fr T X0 G H G' H') : ExtN H H' := fun b o h no => f.e b o (fun h => h) h no
theorem VSpot.monoN {G G' : Hp} {v : V} {s : Spot} (e : ExtN G G') (h : VSpot G v s) : VSpot G' v s := let ⟨a, h1, h2⟩ := h; ⟨a, h1, SpotAt.monoN e h2⟩
section
variable {G G' : Hp} (e : ExtN G G')
include e
theorem VEnt.monoN {v x} (h : VEnt G v x) : VEnt G' v x := let ⟨a, h1, h2⟩ := h; ⟨a, h1, e _ _ h2 (fun _ z => by cases z)⟩
theorem VRowT.monoN {v x} (h : VRowT G v x) : VRowT G' v x := let ⟨a, vs, h1, h2, h3⟩ := h; ⟨a, vs, h1, e _ _ h2 (fun _ z => by cases z), h3.imp fun _ _ z => VEnt.monoN e z⟩
theorem VThing.monoN {C v x} (h : VThing C G v x) : VThing C G' v x := let ⟨a, dx, d, r, vs, h1, h2, h3, h4, h5⟩ := h; ⟨a, dx, d, r, vs, h1, e _ _ h2 (fun _ z => by cases z), e _ _ h3 (fun _ z => by cases z), e _ _ h4 (fun _ z => by cases z), h5.imp fun _ _ z => VRowT.monoN e z⟩
theorem VBegP.monoN {C v x} (h : VBegP C G v x) : VBegP C G' v x := let ⟨a, u, h1, h2, h3⟩ := h; ⟨a, u, h1, e _ _ h2 (fun _ z => by cases z), VThing.monoN e h3⟩
theorem VNdP.monoN {v x} (h : VNdP G v x) : VNdP G' v x := by
  cases x with
  | look t br => obtain ⟨a, d, k, h1, h2, h3, h4⟩ := h; exact ⟨a, d, k, h1, e _ _ h2 (fun _ z => by cases z), e _ _ h3 (fun _ z => by cases z), h4⟩
  | act t j br => obtain ⟨a, d, k, h1, h2, h3, h4⟩ := h; exact ⟨a, d, k, h1, e _ _ h2 (fun _ z => by cases z), e _ _ h3 (fun _ z => by cases z), h4⟩
  | fin t => obtain ⟨a, h1, h2⟩ := h; exact ⟨a, h1, e _ _ h2 (fun _ z => by cases z)⟩
theorem VScP.monoN {v x} (h : VScP G v x) : VScP G' v x := let ⟨a, vs, h1, h2, h3⟩ := h; ⟨a, vs, h1, e _ _ h2 (fun _ z => by cases z), h3.imp fun _ _ z => VNdP.monoN e z⟩
theorem VProg.monoN {C v x} (h : VProg C G v x) : VProg C G' v x := let ⟨a, dx, t, s, n, vs, ws, h1, h2, h3, h4, h5, h6⟩ := h; ⟨a, dx, t, s, n, vs, ws, h1, e _ _ h2 (fun _ z => by cases z), e _ _ h3 (fun _ z => by cases z), h4.imp fun _ _ z => VBegP.monoN e z, e _ _ h5 (fun _ z => by cases z), h6.imp fun _ _ z => VScP.monoN e z⟩
end
section
variable {P : Program} {w : World} {K : PySem.W.Frag} {mg : Str → Option Value} {base : Heap} {C : Cs} {Tb : List (Addr × Str)}
def spHeight (C : Cs) (Tb : List (Addr × Str)) : Sp := fun vs H Q _ => ∃ (G : Hp) (v u : V) (Pl : Pl) (s : Spot), vs = [v, u] ∧ VProg C G v Pl ∧ VSpot G u s ∧ Good Pl s ∧ PlOk Pl ∧ Same G H ∧ ∀ G' H', Fr Tb X0 G H G' H' → Q (.int ((Hgt Pl s : Nat) : Int)) H'
theorem sc79 : FnScope ["program", "place", "hand", "number"] ["program", "place"] (C8.fnScope (top 79)) := C8.fnScope_by (by decide +kernel)
theorem ok_height_of (T : Txt K mg C) {f : Addr} {fd : FuncData} (F : C8.Def K mg "height_of" (top 79) f fd) (b : Binds K fd ["program", "place"] []) : Cl P w K mg base 1 "height_of" (spHeight C Tb) [] := by
  refine C8.cal0 F b .nil sc79 (fun vs H Q E h => ?_) (fun cdv A outer s H vs Q E hr h => ?_)
  · obtain ⟨G, v, u, Pl, s, rfl, _⟩ := h
    rfl
  · obtain ⟨G, v, u, Pl, s, rfl, hv, hu, good, ok, hs, k⟩ := h
    obtain ⟨q, rfl, t1, t2, hq, ht1, ht2⟩ := id hu
    obtain ⟨ap, dx, tt, sa, n0, vs, ws, rfl, hap, htt, hTT, hsa, hS⟩ := id hv
    have l4 : s.1.length ≤ 4 := by rw [good.l1]; exact ok.s4
    refine ⟨_, ((pss_one (ps_ret (pe_callB (cr_sum rfl) (by rfl) T.b_sum (by decide +kernel) (pa_cons (pe_lc (own := [("hand", 2), ("number", 3)]) (tt := tYes) rfl sc79.nd (pi_enumT (by rfl) T.b_enumerate (pa_cons (pe_ix ix_tup (pv 1) pe_int (fun _ _ => rfl)) pa_nil)) (blkOk_by (N := ["program", "place", "hand", "number"]) (sc := C8.fnScope (top 79)) (by decide +kernel)) (fun _ _ _ _ _ => (pg_tupK K (n := 2) rfl (pgs_cons (pg_name (i := 2) sc79.nd rfl (Or.inl rfl)) (pgs_cons (pg_name (i := 3) sc79.nd rfl (Or.inl rfl)) pgs_nil)))) (fun _ _ _ _ _ => pts_nil) (fun _ _ _ _ _ => (pe_ifExp (pt_cmp (pc_isN (pv 3))) (pe_callB (call_len_seqK K) (by rfl) T.b_len (by decide +kernel) (pa_cons (pe_ix (ix_tupK K) (pe_fldK K (pv 0) rfl) (pv 2) (fun _ _ => rfl)) pa_nil)) (pv 3)))) pa_nil))))), ?_⟩
    refine ⟨_, rfl, _, _, _, _, rfl, rfl, .of (hs _ _ hq), atI_nat (j := 0) rfl, t1, _, rfl, .of (hs _ _ ht1), fun D hD => ?_⟩
    refine lc_frY (T := Tb) (X := X0) (walk_enumT (a := t1) (xs := s.1.map oV)) G (INat (List.zipWith K57.hv Pl.scs s.1)) hs hD (fun h => h) (by rw [List.length_map]; exact Nat.le_trans l4 (by decide)) (fun H2 e => .of (e _ _ ht1)) rfl (fun _ _ _ _ _ h => h) INat.len (fun i y G2 H2 H3 acc N hi hI fr hDD gD y' k' => ?_) (fun G2 H2 acc hI fr sg hDD => ?_)
    · obtain ⟨t, x1, x2, rfl, nt, rfl, e1, e2⟩ := y'
      cases e1
      obtain ⟨o, ho⟩ := get_of_lt (l := s.1) (i := i) (by simpa using hi)
      have e3 : some (oV o) = some x2 := (get_oV ho).symm.trans e2
      cases e3
      obtain ⟨sc, hsc⟩ := get_of_lt (l := Pl.scs) (i := i) (by rw [← good.l1]; exact lt_of_get ho)
      have f2 : Fr Tb X0 G2 H2 (upd G2 t (.tup [.int (i : Nat), oV o])) (upd H2 t (.tup [.int (i : Nat), oV o])) := Fr.alloc fr.s nt
      have hz : (List.zipWith K57.hv Pl.scs s.1)[i]? = some (K57.hv sc o) := by rw [List.getElem?_zipWith, hsc, ho]
      refine ⟨t, _, rfl, .of upd_same, rfl, _, _, rfl, _, _, rfl, rfl, rfl, _, rfl, ?_⟩
      cases o with
      | some n => exact ⟨false, rfl, iteF ⟨_, rfl, k' _ _ _ f2 (hI.step hz)⟩⟩
      | none =>
        obtain ⟨v1, hv1, r, us, rfl, hr0, hR⟩ := hS.get hsc
        have fA := fr.trans f2
        refine ⟨true, rfl, iteT ?_⟩
        refine ⟨_, rfl, ap, _, dx, _, _, rfl, fA.get hap, T.k_Program, T.f_Prog2, rfl, _, rfl, _, _, _, _, rfl, rfl, .of (fA.get hsa), atI_nat hv1, _, _, rfl, .inr (.of (fA.get hr0)), ?_⟩
        have e5 : V.int ((us.length : Nat) : Int) = nV (K57.hv sc none) := by rw [hR.1]; rfl
        rw [e5]
        exact k' _ _ _ f2 (hI.step hz)
    · refine ⟨D, (List.zipWith K57.hv Pl.scs s.1).map fun n => ((n : Nat) : Int), rfl, .of ?_, ?_⟩
      · rw [hDD, show acc = _ from hI, List.take_of_length_le (by simp; omega), map_nV]
      · rw [sum_cast, ← hgt_zip]
        exact k _ _ fr
def spUpward (P : Program) (w : World) (C : Cs) (Tb : List (Addr × Str)) : Sp := fun vs H Q _ => ∃ (G : Hp) (v : V) (Pl : Pl) (d : Addr) (xs : PXs), vs = [v, .ref d] ∧ VProg C G v Pl ∧ PlOk Pl ∧ H d = some (PD P w d xs) ∧ AllAt G xs ∧ (∀ x ∈ xs, Good Pl x.1) ∧ Same G H ∧ Tabs Tb H ∧
  ∀ (a : Addr) (L : List (Spot × Addr)) (H' : Hp), ExtN H H' → Tabs Tb H' → ¬ Live H a → H' a = some (.lst (L.map fun p => V.ref p.2)) → (xs.map fun x => (x.1, x.2.1)).Perm L → L.Pairwise (fun p q => Hgt Pl q.1 ≤ Hgt Pl p.1) → Q (.ref a) H'
theorem sc80 : FnScope ["program", "steps"] ["program", "steps"] (C8.fnScope (top 80)) := C8.fnScope_by (by decide +kernel)
theorem ok_places_upward (T : Txt K mg C) {f c0 P0 : Addr} {oc : Value} {od : Option Addr} {dV kV doc pm : Value} {an : Option Addr} {ct : Value} {osl : Array (Option Value)}
    (lk : K.lookup f = some ⟨oc, od, .func (PySem.W.fnOf "places_upward" "places_upward" (C8.fnArgs (top 80)) (C8.fnBody (top 80)) (C8.fnScope (top 80)) dV kV doc pm an (.ref c0) ct), osl⟩) (hcd : PySem.W.codeIn K (.ref c0) "places_upward" = true) (hm : mg "places_upward" = some (.ref f)) (kp : PySem.W.keepIn K (.ref f) = true)
    (b : L2.Binds K (PySem.W.fnOf "places_upward" "places_upward" (C8.fnArgs (top 80)) (C8.fnBody (top 80)) (C8.fnScope (top 80)) dV kV doc pm an (.ref c0) ct) ["program", "steps"] []) (TB : TabB base mg c0 P0) (hTb : Tb = [(P0, ("places_upward.<locals>.<lambda>" : Str))])
    (c_height_of : Cl P w K mg base 1 "height_of" (spHeight C Tb) []) : Cl P w K mg base 5 "places_upward" (spUpward P w C Tb) [] := by
  refine ⟨f, _, _, [], fn_of lk hcd sc80 (fun vs H Q E h => ?_) (fun A outer s H vs Q E hr h => ?_), hm, kp, b, .nil⟩
  · obtain ⟨G, v, Pl, d, xs, rfl, _⟩ := h
    rfl
  · obtain ⟨G, v, Pl, d, xs, rfl, hv, ok, hd, hal, hgd, hs, hT, k⟩ := h
    have hr3 : Room (1 + 3) (cxOf C8.CX0 P w K mg base ["program", "steps"] "places_upward" (C8.fnScope (top 80)) f (.ref c0) A outer s H E).nox.A := hr
    refine ⟨_, PSs.nox (pss_one (ps_ret (pe_sortlam (Tb := Tb) (N1 := ["place", "program"]) (pn := "place") (y0 := "program") (j0 := 0) (by rfl) T.b_sorted rfl (pa_cons (pv 1) pa_nil) hr3 TB rfl (by rw [hTb]; exact List.mem_singleton.mpr rfl) (by rw [hTb]; intro p hp _; rw [List.mem_singleton.mp hp]; rfl) (by rfl)
      (nscope_by (by decide +kernel)) (ndef_free (sc := C8.fnScope (top 80)) (fr := ["program"]) (by decide +kernel)) (by simp) rfl (fun _ _ _ _ => rfl) (fun A s H f c' hr' => (pe_un un_neg (C8.pe_c c_height_of hr' (by decide) (by rfl) (pa_cons (pv 1) (pa_cons (pv 0) pa_nil)))))))), ?_⟩
    refine ⟨_, rfl, d, xs, rfl, .inl hd, hT, fun s => -((Hgt Pl s : Nat) : Int), fun x hx H2 e2 T2 => ?_, fun H3 a L' e3 T3 nl h3 p1 p2 => ?_⟩
    · exact ⟨_, rfl, _, rfl, H2, v, .ref x.2.1, Pl, x.1, rfl, VProg.monoN e2 (VProg.mono hs hv), ⟨x.2.1, rfl, SpotAt.monoN e2 (SpotAt.mono hs (hal x hx))⟩, hgd x hx, ok, .refl _, fun G' H' f1 => ⟨_, rfl, rfl, f1.extN, f1.t T2⟩⟩
    · obtain ⟨L, q1, rfl⟩ := perm_lift p1.symm (xs.map fun x => (x.1, x.2.1)) (f := fun p : Spot × Addr => (-((Hgt Pl p.1 : Nat) : Int), p.2)) (by rw [List.map_map]; rfl)
      refine k a L H3 e3 T3 nl (by rw [h3, List.map_map]; rfl) q1 ?_
      rw [List.pairwise_map] at p2
      exact p2.imp fun {a b} h => by
        have h : -((Hgt Pl a.1 : Nat) : Int) ≤ -((Hgt Pl b.1 : Nat) : Int) := h
        omega
end
end K57
set_option Elab.async false
set_option linter.all false
set_option autoImplicit false
set_option maxRecDepth 100000
set_option maxHeartbeats 4000000
/-! K58C: counts. -/
namespace K57
open PySem PySem.Spec PyProof.Rows L2 LamX
theorem getA_map {β : Type} (f : Spot → β) {s : Spot} : ∀ {l : List Spot}, s ∈ l → getA (l.map fun s => (s, f s)) s = some (f s)
  | [], h => by cases h
  | x :: r, h => by
    by_cases e : x = s
    · rw [List.map_cons, getA_pos (by exact e), e]
    · rw [List.map_cons, getA_neg (by exact e)]
      rcases List.mem_cons.mp h with z | z
      · exact absurd z.symm e
      · exact getA_map f z
/-- all but one thing -/
def rem (p : Addr) (H : Hp) : Hp := fun b => if b = p then none else H b
theorem rem_self (p : Addr) (H : Hp) : rem p H p = none := if_pos rfl
theorem rem_ne {p b : Addr} {H : Hp} (h : b ≠ p) : rem p H b = H b := if_neg h
theorem rem_same (p : Addr) (H : Hp) : Same (rem p H) H := fun b o e => by
  by_cases z : b = p
  · rw [z, rem_self] at e; cases e
  · rw [rem_ne z] at e; exact e
theorem extN_rem {p : Addr} {H H' : Hp} (e : ExtN H H') (n : ¬ Live H p) : ExtN H (rem p H') := fun b o h no => by
  rw [rem_ne (fun z => n (by rw [← z]; exact ⟨o, h, no⟩))]
  exact e b o h no
section
variable {P : Program} {w : World} {K : PySem.W.Frag} {mg : Str → Option Value} {base : Heap} {C : Cs} {Tb : List (Addr × Str)}
/-- all steps stand in the dict at d -/
structure Stp (P : Program) (w : World) (Pl : Pl) (H : Hp) (d : Addr) (xs : PXs) : Prop where
  at_ : H d = some (PD P w d xs)
  cl : Closed Pl (xs.map (·.1))
  all : ∀ x ∈ xs, SpotAt H x.2.1 x.1 ∧ VSteps Pl H x.2.2 x.1
theorem Stp.monoN {Pl : Pl} {H H' : Hp} {d : Addr} {xs : PXs} (s : Stp P w Pl H d xs) (e : ExtN H H') : Stp P w Pl H' d xs := ⟨e _ _ s.at_ pd_nt, s.cl, fun x hx => ⟨SpotAt.monoN e (s.all x hx).1, VSteps.monoN e (s.all x hx).2⟩⟩
theorem Stp.mono {Pl : Pl} {H H' : Hp} {d : Addr} {xs : PXs} (s : Stp P w Pl H d xs) (e : Same H H') : Stp P w Pl H' d xs := s.monoN fun b o h _ => e b o h
theorem Stp.get {Pl : Pl} {H : Hp} {d : Addr} {xs : PXs} (s : Stp P w Pl H d xs) {p : Spot} (hp : p ∈ xs.map (·.1)) : ∃ b v, getP xs p = some v ∧ SpotAt H b p ∧ VSteps Pl H v p := by
  obtain ⟨x, hx, rfl⟩ := List.mem_map.mp hp
  refine ⟨x.2.1, x.2.2, ?_, (s.all x hx).1, (s.all x hx).2⟩
  rw [getP_eq]
  exact getA_of (by unfold kvP; rw [List.map_map]; exact s.cl.nd) (List.mem_map.mpr ⟨x, hx, rfl⟩)
/-- the counts of all places stand in the dict at a -/
structure Cnts (P : Program) (w : World) (Pl : Pl) (H : Hp) (a : Addr) (ys : PXs) (F : List Spot) : Prop where
  at_ : H a = some (PD P w a ys)
  all : AllAt H ys
  cnt : ∀ s ∈ F, getP ys s = some (nV (cnt Pl s))
theorem Cnts.monoN {Pl : Pl} {H H' : Hp} {a : Addr} {ys : PXs} {F : List Spot} (s : Cnts P w Pl H a ys F) (e : ExtN H H') : Cnts P w Pl H' a ys F := ⟨e _ _ s.at_ pd_nt, fun x hx => SpotAt.monoN e (s.all x hx), s.cnt⟩
def spCounts (P : Program) (w : World) (C : Cs) (Tb : List (Addr × Str)) : Sp := fun vs H Q _ => ∃ (v : V) (Pl : Pl) (d : Addr) (xs : PXs), vs = [v, .ref d] ∧ VProg C H v Pl ∧ PlOk Pl ∧ Stp P w Pl H d xs ∧ Tabs Tb H ∧
  ∀ (a : Addr) (ys : PXs) (H' : Hp), ExtN H H' → Tabs Tb H' → Cnts P w Pl H' a ys (xs.map (·.1)) → Q (.ref a) H'
theorem sc81 : FnScope ["program", "steps", "found", "place", "hand", "later"] ["program", "steps"] (C8.fnScope (top 81)) := C8.fnScope_by (by decide +kernel)
theorem ok_full_counts (T : Txt K mg C) {f : Addr} {fd : FuncData} (F : C8.Def K mg "full_counts" (top 81) f fd) (b : Binds K fd ["program", "steps"] []) (c_places_upward : Cl P w K mg base 5 "places_upward" (spUpward P w C Tb) []) : Cl P w K mg base 6 "full_counts" (spCounts P w C Tb) [] := by
  refine C8.cal0 F b .nil sc81 (fun vs H Q E h => ?_) (fun cdv A outer s H vs Q E hr h => ?_)
  · obtain ⟨v, Pl, d, xs, rfl, _⟩ := h
    rfl
  · obtain ⟨v, Pl, d, xs, rfl, hv, ok, st, hT, k⟩ := h
    have hu := hu_of hr
    have hp := hr.units
    refine ⟨_, ((pss_cons (ps_set (i := 2) sc81.nd rfl (Or.inr rfl) (pe_pnewK P w))
      (pss_cons (ps_for PassesOwn.never rfl (pi_list (C8.pe_c c_places_upward hr (by decide) (by rfl) (pa_cons (pv 0) (pa_cons (pv 1) pa_nil)))) (pg_name (i := 3) sc81.nd rfl (Or.inl rfl)) (pss_one (ps_pputK P w hp (pv 2) (pv 3) (pe_ifExp (pt_cmpR (op_neNil hu) (pe_pgetK P w hp (pv 1) (pv 3) (fun _ _ => rfl)) (pe_lst pa_nil) rfl) (pe_callB (cr_sum rfl) (by rfl) T.b_sum (by decide +kernel) (pa_cons (pe_lc (own := [("hand", 4), ("later", 5)]) (tt := tYes) rfl sc81.nd (pi_list (pe_pgetK P w hp (pv 1) (pv 3) (fun _ _ => rfl))) (blkOk_by (N := ["program", "steps", "found", "place", "hand", "later"]) (sc := C8.fnScope (top 81)) (by decide +kernel)) (fun _ _ _ _ _ => (pg_tupK K (n := 2) rfl (pgs_cons (pg_name (i := 4) sc81.nd rfl (Or.inl rfl)) (pgs_cons (pg_name (i := 5) sc81.nd rfl (Or.inl rfl)) pgs_nil)))) (fun _ _ _ _ _ => pts_nil) (fun _ _ _ _ _ => (pe_pgetK P w hp (pv 2) (pv 5) (fun _ _ => rfl)))) pa_nil)) pe_int))))
      (pss_one (ps_ret (pv 2)))))), ?_⟩
    refine fun fd nfd => ?_
    have e1 : Same H (upd H fd (PD P w fd [])) := upd_keep nfd
    have hfm : d ≠ fd := ne_of_none st.at_ nfd
    refine ⟨_, rfl, _, rfl, upd H fd (PD P w fd []), v, Pl, d, xs, rfl, VProg.mono e1 hv, ok, e1 _ _ st.at_, fun x hx => SpotAt.mono e1 (st.all x hx).1, fun x hx => st.cl.good _ (List.mem_map.mpr ⟨x, hx, rfl⟩), .refl _, hT.ext e1, fun a L H2 eN2 T2 na hL p1 p2 => ?_⟩
    have hfd2 : H2 fd = some (PD P w fd []) := eN2 _ _ upd_same pd_nt
    have st2 : Stp P w Pl (rem fd H2) d xs := st.monoN (extN_rem (fun b o h no => eN2 b o (e1 b o h) no) (not_live nfd))
    have eN02 : ExtN H H2 := fun b o h no => eN2 b o (e1 b o h) no
    have afd : a ≠ fd := fun z => by subst z; exact na ⟨_, upd_same, pd_nt⟩
    have hL2 : rem fd H2 a = some (.lst (L.map fun p => V.ref p.2)) := by rw [rem_ne afd]; exact hL
    have gfd : rem fd H2 fd = none := rem_self _ _
    have s2 := rem_same fd H2
    have hLs : (L.map (·.1)).Perm (xs.map (·.1)) := by
      have := p1.symm.map (·.1)
      rw [List.map_map] at this
      exact this
    have hpw : (L.map (·.1)).Pairwise fun a b => Hgt Pl b ≤ Hgt Pl a := by rw [List.pairwise_map]; exact p2
    have hspot : ∀ (i : Nat) (p : Spot × Addr), L[i]? = some p → SpotAt (rem fd H2) p.2 p.1 ∧ p.1 ∈ xs.map (·.1) := fun i p hi => by
      have hm : p ∈ xs.map fun x => (x.1, x.2.1) := p1.mem_iff.mpr (mem_of_get hi)
      obtain ⟨x, hx, rfl⟩ := List.mem_map.mp hm
      exact ⟨(st2.all x hx).1, List.mem_map.mpr ⟨x, hx, rfl⟩⟩
    generalize rem fd H2 = G2 at st2 hL2 gfd s2 hspot
    have hLl : L.length ≤ 1000000 := by
      have h1 := hLs.length_eq
      rw [List.length_map, List.length_map] at h1
      have := st.cl.sz
      rw [List.length_map] at this
      omega
    refine ⟨a, rfl, ⟨_, .of hL⟩, ?_⟩
    refine for_it (walk_list (a := a) (xs := L.map fun p => V.ref p.2)) (fun i σ' H' => ∃ x3 x4 x5 ys G', σ' = [some v, some (.ref d), some (.ref fd), x3, x4, x5] ∧ Fr Tb (fun b => b = fd) G2 H2 G' H' ∧ H' fd = some (PD P w fd ys) ∧ G' fd = none ∧ AllAt G' ys ∧ kvP ys = ((L.map (·.1)).take i).map fun s => (s, nV (cnt Pl s)))
      ⟨_, _, _, [], G2, rfl, .refl s2, hfd2, gfd, fun x hx => by simp at hx, rfl⟩ (fun i σ' H' hi ⟨x3, x4, x5, ys, G', _, fr, _⟩ => .of (fr.get hL2)) (fun i x σ' H3 H4 hi ⟨x3, x4, x5, ys, G3, eσ, fr, hfd, gfd3, hal, hkv⟩ y => ?_) (fun σ' H3 ⟨x3, x4, x5, ys, G3, eσ, fr, hfd, gfd3, hal, hkv⟩ => ?_)
    · subst eσ
      obtain ⟨eH, hx⟩ := y
      subst H4
      obtain ⟨p, hp0⟩ := get_of_lt (l := L) (i := i) (by simpa using hi)
      rw [List.getElem?_map, hp0] at hx
      have hx := Option.some.inj hx
      subst hx
      obtain ⟨hsp, hmem⟩ := hspot i p hp0
      obtain ⟨bk, vk, hgk, _, lk, us, rfl, hus, hall⟩ := st2.get hmem
      have hLi : (L.map (·.1))[i]? = some p.1 := by rw [List.getElem?_map, hp0]; rfl
      have good := st.cl.good _ hmem
      have hfdk : fd ≠ d := Ne.symm hfm
      have hyl : ys.length = i := by
        have := congrArg List.length hkv
        unfold kvP at this
        rw [List.length_map, List.length_map, List.length_take, List.length_map] at this
        rw [List.length_map] at hi
        omega
      have hlive : ¬ Live H fd := not_live nfd
      have hnotin : p.1 ∉ ys.map (·.1) := by
        have hke : ys.map (·.1) = (L.map (·.1)).take i := by
          have := congrArg (List.map (·.1)) hkv
          unfold kvP at this
          rw [List.map_map, List.map_map] at this
          have e3 : ((fun x : Spot × V => x.1) ∘ fun s => (s, nV (cnt Pl s))) = id := rfl
          rw [e3, List.map_id] at this
          exact this
        rw [hke]
        intro hin
        have nd : (L.map (·.1)).Nodup := hLs.nodup_iff.mpr st.cl.nd
        obtain ⟨j, hj⟩ := List.getElem?_of_mem hin
        have hji : j < i := by have := lt_of_get hj; rw [List.length_take] at this; omega
        rw [List.getElem?_take_of_lt hji] at hj
        have h1 := List.getElem?_eq_some_iff.mp hj
        have h2 := List.getElem?_eq_some_iff.mp hLi
        obtain ⟨h1a, h1b⟩ := h1
        obtain ⟨h2a, h2b⟩ := h2
        exact (List.pairwise_iff_getElem.mp nd) j i h1a h2a hji (by rw [h1b, h2b])
      have fin : ∀ (G4 H4 : Hp) (Kc : L2.St → Hp → Prop), Fr Tb X0 G3 H3 G4 H4 → (∀ σ' H', (∃ x3 x4 x5 ys G', σ' = [some v, some (.ref d), some (.ref fd), x3, x4, x5] ∧ Fr Tb (fun b => b = fd) G2 H2 G' H' ∧ H' fd = some (PD P w fd ys) ∧ G' fd = none ∧ AllAt G' ys ∧ kvP ys = ((L.map (·.1)).take (i + 1)).map fun s => (s, nV (cnt Pl s))) → Kc σ' H') →
          (∃ a xs b p', V.ref fd = .ref a ∧ V.ref p.2 = .ref b ∧ H4 a = some (PD P w a xs) ∧ AllAt H4 xs ∧ SpotAt H4 b p' ∧ xs.length < sizeLine ∧ Kc [some v, some (.ref d), some (.ref fd), some (.ref p.2), x4, x5] (upd H4 a (PD P w a (putP xs p' b (nV (cnt Pl p.1)))))) := by
        intro G4 H4 Kc f4 hK
        have hfd4 := f4.at (fun h => h) hfd pd_nt
        have gfd4 := f4.keep hfd gfd3 pd_nt
        have hsp4 := SpotAt.mono f4.g (SpotAt.mono fr.g hsp)
        refine ⟨fd, ys, p.2, p.1, rfl, rfl, hfd4, AllAt.mono (f4.g.trans f4.s) hal, SpotAt.mono f4.s hsp4, by rw [hyl, sizeLine_eq]; rw [List.length_map] at hi; omega, hK _ _ ?_⟩
        rw [putP_new hnotin]
        refine ⟨_, _, _, ys ++ [(p.1, p.2, nV (cnt Pl p.1))], G4, rfl, (fr.trans f4.of0).trans (Fr.mutX f4.s rfl gfd4 hfd4 pd_ne_code pd_nt pd_nt), upd_same, gfd4, fun x hx => ?_, ?_⟩
        · rcases List.mem_append.mp hx with hx | hx
          · exact AllAt.mono f4.g hal x hx
          · simp at hx
            subst hx
            exact hsp4
        · unfold kvP at hkv ⊢
          rw [List.map_append, hkv, List.take_add_one, hLi]
          simp
      have hst3 : Same G2 H3 := fr.g.trans fr.s
      have hdk3 : H3 d = some (PD P w d xs) := hst3 _ _ st2.at_
      have hal3 : AllAt H3 xs := fun x hx => SpotAt.mono hst3 (st2.all x hx).1
      have hsp3 := SpotAt.mono hst3 hsp
      refine ⟨_, rfl, _, rfl, d, xs, p.2, p.1, .ref lk, rfl, rfl, .inl hdk3, hal3, hsp3, hgk, Nat.zero_le _, fun e0 ne0 => ⟨lk, e0, us, rfl, rfl, .of (upd_keep ne0 _ _ (hst3 _ _ hus)), .of upd_same, _, rfl, ?_⟩⟩
      have fe := Fr.alloc' (T := Tb) (X := X0) (o := .lst []) fr.s ne0
      have hcan : us.length = (can Pl p.1).length := by rw [hall.1]; unfold stepsOf; simp
      by_cases hc : can Pl p.1 = []
      · have hus0 : us = [] := by rw [hc] at hcan; exact List.length_eq_zero_iff.mp hcan
        subst hus0
        refine iteF ⟨_, rfl, _, rfl, ?_⟩
        have e : V.int 1 = nV (cnt Pl p.1) := by rw [cnt_end ok good hc]; rfl
        have := fin _ _ _ fe (fun σ' H' h => h)
        rw [← e] at this
        exact this
      · have hne : us.isEmpty = false := by
          cases us with
          | nil => exact absurd (List.length_eq_zero_iff.mp hcan.symm) hc
          | cons _ _ => rfl
        rw [hne]
        have hst4 := Same.trans hst3 (upd_keep (o := .lst []) ne0)
        generalize upd H3 e0 (.lst []) = H5 at fe hst4 ⊢
        refine iteT ⟨_, rfl, _, rfl, d, xs, p.2, p.1, .ref lk, rfl, rfl, .inl (hst4 _ _ st2.at_), fun x hx => SpotAt.mono hst4 (st2.all x hx).1, SpotAt.mono hst4 hsp, hgk, lk, rfl, ⟨us, .of (hst4 _ _ hus)⟩, fun D hD => ?_⟩
        have c4 := can_le4 ok good
        refine lc_frY (T := Tb) (X := X0) (walk_list (a := lk) (xs := us)) G3 (INat ((can Pl p.1).map fun h => cnt Pl (step Pl p.1 h))) fe.s hD (fun h => h) (by rw [hcan]; exact Nat.le_trans c4 (by decide)) (fun H2 e => .of (e _ _ (fr.g _ _ hus))) rfl (fun _ _ _ _ _ h => h) INat.len (fun j y G6 H6 H7 acc N hj hI fr6 hDD gD y' k' => ?_) (fun G6 H6 acc hI fr6 sg hDD => ?_)
        · obtain ⟨eH, hy⟩ := y'
          subst H7
          obtain ⟨x0, hx0, ta, qb, rfl, hta, hqb⟩ := (hall.imp fun v x h => VStep.mono (fr.g.trans fr6.g) h).get' hy
          obtain ⟨h, hh, rfl⟩ : ∃ h, (can Pl p.1)[j]? = some h ∧ x0 = (h, step Pl p.1 h) := by
            unfold stepsOf at hx0
            rw [List.getElem?_map] at hx0
            cases q0 : (can Pl p.1)[j]? with
            | none => rw [q0] at hx0; simp at hx0
            | some h => rw [q0] at hx0; exact ⟨h, rfl, (Option.some.inj hx0).symm⟩
          have hfd6 := (fe.trans fr6).at (fun h => h) hfd pd_nt
          obtain ⟨j0, hj0, hLj⟩ := earlier ok st.cl hLs hpw hLi (mem_of_get hh)
          have hgq : getP ys (step Pl p.1 h) = some (nV (cnt Pl (step Pl p.1 h))) := by
            rw [getP_eq, hkv]
            refine getA_map _ (List.mem_of_getElem? (i := j0) ?_)
            rw [List.getElem?_take_of_lt hj0]
            exact hLj
          refine ⟨ta, _, rfl, .of (fr6.s _ _ hta), rfl, _, _, rfl, _, _, rfl, rfl, rfl, _, rfl, _, rfl, fd, ys, qb, step Pl p.1 h, _, rfl, rfl, .inl hfd6, AllAt.mono (fr6.g.trans fr6.s) hal, SpotAt.mono fr6.s hqb, hgq, ?_⟩
          exact k' _ _ _ (.refl fr6.s) (hI.step (by rw [List.getElem?_map, hh]; rfl))
        · refine ⟨D, ((can Pl p.1).map fun h => cnt Pl (step Pl p.1 h)).map fun n => ((n : Nat) : Int), rfl, .of ?_, ?_⟩
          · rw [hDD, show acc = _ from hI, List.take_of_length_le (by rw [List.length_map, hcan]; exact Nat.le_refl _), map_nV]
          · rw [sum_cast, ← cnt_step ok good hc]
            exact ⟨_, rfl, _, rfl, fin _ _ _ (fe.trans fr6) (fun σ' H' h => h)⟩
    · subst eσ
      refine ⟨_, rfl, k fd ys _ (fun b o h no => fr.e b o (fun z => by rw [z, nfd] at h; cases h) (eN02 b o h no) no) (fr.t T2) ⟨hfd, AllAt.mono fr.s hal, fun s hs => ?_⟩⟩
      rw [getP_eq, hkv, List.take_of_length_le (by rw [List.length_map, List.length_map]; exact Nat.le_refl _)]
      exact getA_map _ (hLs.mem_iff.mpr hs)
end
end K57
set_option Elab.async false
set_option linter.all false
set_option autoImplicit false
set_option maxRecDepth 100000
set_option maxHeartbeats 4000000
/-! K58D: how many, and which. -/
namespace K57
open PySem PySem.Spec PyProof.Rows L2 LamX
section
variable {P : Program} {w : World} {K : PySem.W.Frag} {mg : Str → Option Value} {base : Heap} {C : Cs} {Tb : List (Addr × Str)}
def spMany (C : Cs) (Tb : List (Addr × Str)) : Sp := fun vs H Q _ => ∃ (v : V) (Pl : Pl), vs = [v] ∧ VProg C H v Pl ∧ PlOk Pl ∧ Tabs Tb H ∧ ∀ H', ExtN H H' → Tabs Tb H' → Q (nV (cnt Pl (begin Pl))) H'
theorem sc82 : FnScope ["program"] ["program"] (C8.fnScope (top 82)) := C8.fnScope_by (by decide +kernel)
theorem fn_how_many (T : Txt K mg C) {f : Addr} {fd : FuncData} (F : C8.Def K mg "how_many_full" (top 82) f fd) (c_full_counts : Cl P w K mg base 6 "full_counts" (spCounts P w C Tb) []) (c_all_steps : Cl P w K mg base 4 "all_steps" (spAll P w C Tb) [])
    (c_first_place : Cl P w K mg base 1 "first_place" (spFirst C Tb) []) : FnOk P w K mg base C8.CX0 7 f fd ["program"] (spMany C Tb) := by
  refine C8.fn0 F.fn sc82 (fun vs H Q E h => ?_) (fun cdv A outer s H vs Q E hr h => ?_)
  · obtain ⟨v, Pl, rfl, _⟩ := h
    rfl
  · obtain ⟨v, Pl, rfl, hv, ok, hT, k⟩ := h
    have hp := hr.units
    refine ⟨_, ((pss_one (ps_ret (pe_pgetK P w hp (C8.pe_c c_full_counts hr (by decide) (by rfl) (pa_cons (pv 0) (pa_cons (C8.pe_c c_all_steps hr (by decide) (by rfl) (pa_cons (pv 0) pa_nil)) pa_nil))) (C8.pe_c c_first_place hr (by decide) (by rfl) (pa_cons (pv 0) pa_nil)) (fun _ _ => rfl))))), ?_⟩
    refine ⟨_, rfl, _, rfl, H, v, Pl, rfl, hv, ok, .refl _, fun d xs G1 H1 f1 hd cl all => ?_⟩
    refine ⟨v, Pl, d, xs, rfl, VProg.monoN f1.extN hv, ok, ⟨f1.s _ _ hd, cl, fun x hx => ⟨SpotAt.mono f1.s (all x hx).1, VSteps.mono f1.s (all x hx).2⟩⟩, f1.t hT, fun a ys H2 e2 T2 c2 => ?_⟩
    have e02 := f1.extN.trans e2
    refine ⟨_, rfl, H2, v, Pl, rfl, VProg.monoN e02 hv, ok, .refl _, fun v' G3 H3 f3 ⟨b0, eb, hb0⟩ => ?_⟩
    subst eb
    exact ⟨a, ys, b0, begin Pl, _, rfl, rfl, .inl (f3.extN _ _ c2.at_ pd_nt), (c2.monoN f3.extN).all, SpotAt.mono f3.s hb0, c2.cnt _ cl.beg, k H3 (e02.trans f3.extN) (f3.t T2)⟩
theorem ok_how_many (T : Txt K mg C) {f : Addr} {fd : FuncData} (F : C8.Def K mg "how_many_full" (top 82) f fd) (b : Binds K fd ["program"] []) (c_full_counts : Cl P w K mg base 6 "full_counts" (spCounts P w C Tb) []) (c_all_steps : Cl P w K mg base 4 "all_steps" (spAll P w C Tb) [])
    (c_first_place : Cl P w K mg base 1 "first_place" (spFirst C Tb) []) : Cl P w K mg base 7 "how_many_full" (spMany C Tb) [] := ⟨f, fd, _, _, fn_how_many T F c_full_counts c_all_steps c_first_place, F.mgf, F.kp, b, .nil⟩
theorem cutV_one (x : V) (r : List V) : cutV (x :: r) (some 1) none = r := by
  unfold cutV
  have e1 : HT.sIx (x :: r).length 0 (some 1) = 1 := by
    rw [show (1 : Int) = ((1 : Nat) : Int) from rfl, HT.sIx_nat]
    simp
  have e2 : HT.sIx (x :: r).length (x :: r).length none = (x :: r).length := rfl
  rw [e1, e2]
  simp
def spAt (C : Cs) (Tb : List (Addr × Str)) : Sp := fun vs H Q _ => ∃ (v : V) (Pl : Pl) (i : Nat) (ww : List Nat), vs = [v, nV i] ∧ VProg C H v Pl ∧ PlOk Pl ∧ Tabs Tb H ∧ (full Pl (begin Pl))[i]? = some ww ∧
  ∀ (a : Addr) (H' : Hp), ExtN H H' → Tabs Tb H' → ¬ Live H a → H' a = some (.lst (ww.map nV)) → Q (.ref a) H'
theorem sc83 : FnScope ["program", "place", "steps", "here", "left", "counts", "found", "further", "hand"] ["program", "place"] (C8.fnScope (top 83)) := C8.fnScope_by (by decide +kernel)
theorem fn_full_at (T : Txt K mg C) {f : Addr} {fd : FuncData} (F : C8.Def K mg "full_at" (top 83) f fd) (c_is_count : Cl P w K mg base 2 "is_count" spCount []) (c_full_counts : Cl P w K mg base 6 "full_counts" (spCounts P w C Tb) []) (c_all_steps : Cl P w K mg base 4 "all_steps" (spAll P w C Tb) [])
    (c_first_place : Cl P w K mg base 1 "first_place" (spFirst C Tb) []) : FnOk P w K mg base C8.CX0 7 f fd ["program", "place"] (spAt C Tb) := by
  refine C8.fn0 F.fn sc83 (fun vs H Q E h => ?_) (fun cdv A outer s H vs Q E hr h => ?_)
  · obtain ⟨v, Pl, i, ww, rfl, _⟩ := h
    rfl
  · obtain ⟨v, Pl, i, ww, rfl, hv, ok, hT, hw, k⟩ := h
    have hp := hr.units
    have hu := hu_of hr
    refine ⟨_, ((pss_cons (ps_if (pt_not (pt_val (C8.pe_c c_is_count hr (by decide) (by rfl) (pa_cons (pv 1) pa_nil)))) (pss_one ps_never) pss_nil)
      (pss_cons (ps_par3 (i := 2) (j := 3) (l := 4) rfl sc83.nd rfl rfl rfl (by decide) (by decide) (by decide) rfl rfl rfl (pa_cons (C8.pe_c c_all_steps hr (by decide) (by rfl) (pa_cons (pv 0) pa_nil)) (pa_cons (C8.pe_c c_first_place hr (by decide) (by rfl) (pa_cons (pv 0) pa_nil)) (pa_cons (pv 1) pa_nil))) rfl)
      (pss_cons (ps_set (i := 5) sc83.nd rfl (Or.inl rfl) (C8.pe_c c_full_counts hr (by decide) (by rfl) (pa_cons (pv 0) (pa_cons (pv 2) pa_nil))))
      (pss_cons (ps_if (pt_cmpR op_ge (pv 1) (pe_pgetK P w hp (pv 5) (pv 3) (fun _ _ => rfl)) (nomark _)) (pss_one ps_never) pss_nil)
      (pss_cons (ps_set (i := 6) sc83.nd rfl (Or.inl rfl) (pe_lst pa_nil))
      (pss_cons (ps_while PassesOwn.never (pt_cmpR (op_neNil hu) (pe_pgetK P w hp (pv 2) (pv 3) (fun _ _ => rfl)) (pe_lst pa_nil) rfl) (pss_cons (ps_set (i := 7) sc83.nd rfl (Or.inl rfl) (pe_callTy call_list_of (by rfl) T.b_list (by decide +kernel) (pa_cons (pe_pgetK P w hp (pv 2) (pv 3) (fun _ _ => rfl)) pa_nil)))
      (pss_cons (ps_while PassesOwn.never (pt_cmpR op_ge (pv 4) (pe_pgetK P w hp (pv 5) (pe_ix ix_tup (pe_ix ix_list (pv 7) pe_int (fun _ _ => rfl)) pe_int (fun _ _ => rfl)) (fun _ _ => rfl)) (nomark _)) (pss_cons (ps_aug (i := 4) sc83.nd rfl (Or.inl rfl) (pe_pgetK P w hp (pv 5) (pe_ix ix_tup (pe_ix ix_list (pv 7) pe_int (fun _ _ => rfl)) pe_int (fun _ _ => rfl)) (fun _ _ => rfl)) ip_sub)
      (pss_one (ps_set (i := 7) sc83.nd rfl (Or.inl rfl) (pe_slice sl_list (pv 7) (po_some pe_int) po_none)))))
      (pss_cons (ps_asg (pe_ix ix_list (pv 7) pe_int (fun _ _ => rfl)) (pg_tup rfl (pgs_cons (pg_name (i := 8) sc83.nd rfl (Or.inl rfl)) (pgs_cons (pg_name (i := 3) sc83.nd rfl (Or.inl rfl)) pgs_nil))))
      (pss_one (ps_expr (pe_bm PySem.F.plainAttrs_list PySem.F.slot_list_append PySem.F.type_list_append mt_append (pv 6) (pa_cons (pv 8) pa_nil))))))))
      (pss_one (ps_ret (pv 6)))))))))), ?_⟩
    refine ⟨_, rfl, _, rfl, ?_⟩
    rw [decide_eq_true (by omega)]
    refine ⟨_, rfl, iteF ?_⟩
    refine ⟨_, rfl, H, v, Pl, rfl, hv, ok, .refl _, fun d xs G1 H1 f1 hd cl all => ?_⟩
    have st1 : Stp P w Pl H1 d xs := ⟨f1.s _ _ hd, cl, fun x hx => ⟨SpotAt.mono f1.s (all x hx).1, VSteps.mono f1.s (all x hx).2⟩⟩
    refine ⟨_, rfl, H1, v, Pl, rfl, VProg.monoN f1.extN hv, ok, .refl _, fun v' G2 H2 f2 ⟨b0, eb, hb0⟩ => ?_⟩
    subst eb
    refine ⟨_, rfl, _, _, _, rfl, ?_⟩
    have st2 := st1.monoN f2.extN
    refine ⟨_, rfl, _, rfl, v, Pl, d, xs, rfl, VProg.monoN (f1.extN.trans f2.extN) hv, ok, st2, f2.t (f1.t hT), fun a ys H3 e3 T3 c3 => ?_⟩
    have st3 := st2.monoN e3
    have hb3 := SpotAt.monoN e3 (SpotAt.mono f2.s hb0)
    have hil : i < cnt Pl (begin Pl) := lt_of_get hw
    refine ⟨_, rfl, _, rfl, _, rfl, a, ys, b0, begin Pl, _, rfl, rfl, .inl c3.at_, c3.all, hb3, c3.cnt _ cl.beg, _, _, rfl, rfl, false, congrArg V.bl (decide_eq_false (by omega)), iteF ?_⟩
    have e03 : ExtN H H3 := (f1.extN.trans f2.extN).trans e3
    refine ⟨Nat.zero_le _, fun fl nfl => ?_⟩
    have fr0 : Fr Tb X0 H3 H3 H3 (upd H3 fl (.lst [])) := Fr.alloc' (.refl _) nfl
    refine ⟨fun m σ H' => ∃ p bp lft wd x7 x8 G, σ = [some v, some (nV i), some (.ref d), some (.ref bp), some (nV lft), some (.ref a), some (.ref fl), x7, x8] ∧ m = Mu Pl p ∧ p ∈ xs.map (·.1) ∧ SpotAt G bp p ∧ Fr Tb X0 H3 H3 G H' ∧ G fl = none ∧ H' fl = some (.lst (wd.map nV)) ∧ wd.length + Mu Pl p ≤ 9 ∧ lft < cnt Pl p ∧ ∀ w0, (full Pl p)[lft]? = some w0 → ww = wd ++ w0,
      ⟨_, begin Pl, b0, i, [], _, _, H3, rfl, rfl, cl.beg, hb3, fr0, nfl, upd_same, by have := mu9 ok (begin Pl); simp; omega, hil, fun w0 h => by rw [hw] at h; exact Option.some.inj h⟩, ?_⟩
    rintro m σ H4 ⟨p, bp, lft, wd, x7, x8, G, rfl, rfl, hp0, hbp, fr, gfl, hfl, hmu, hlt, hww⟩
    have good := cl.good p hp0
    obtain ⟨bk, vk, hgk, _, lk, us, rfl, hus, hall⟩ := st3.get hp0
    have s34 : Same H3 H4 := fr.g.trans fr.s
    have hcan : us.length = (can Pl p).length := by rw [hall.1]; unfold stepsOf; simp
    refine ⟨_, rfl, _, rfl, d, xs, bp, p, .ref lk, rfl, rfl, .inl (s34 _ _ st3.at_), fun x hx => SpotAt.mono s34 (st3.all x hx).1, SpotAt.mono fr.s hbp, hgk, Nat.zero_le _, fun e0 ne0 => ⟨lk, e0, us, rfl, rfl, .of (upd_keep ne0 _ _ (s34 _ _ hus)), .of upd_same, _, rfl, ?_⟩⟩
    have fe : Fr Tb X0 G H4 G (upd H4 e0 (.lst [])) := Fr.alloc' fr.s ne0
    have hfl5 := fe.at (fun h => h) hfl
    have fr5 := fr.trans fe
    generalize upd H4 e0 (.lst []) = H5 at fe hfl5 fr5 ⊢
    by_cases hc : can Pl p = []
    · have hus0 : us = [] := by rw [hc] at hcan; exact List.length_eq_zero_iff.mp hcan
      subst hus0
      refine iteF ⟨_, rfl, ?_⟩
      have h1 : cnt Pl p = 1 := cnt_end ok good hc
      have h2 : (full Pl p)[lft]? = some [] := by
        rw [full_eq ok good, if_pos hc]
        rw [h1] at hlt
        rw [show lft = 0 by omega]
        rfl
      have := hww [] h2
      refine k fl H5 (e03.trans fr5.extN) (fr5.t T3) (fun l => ?_) (by rw [hfl5, this, List.append_nil])
      obtain ⟨o, ho, no⟩ := l
      have := e03 _ _ ho no
      rw [nfl] at this
      cases this
    · have hne : us.isEmpty = false := by
        cases us with
        | nil => exact absurd (List.length_eq_zero_iff.mp hcan.symm) hc
        | cons _ _ => rfl
      rw [hne]
      refine iteT ⟨fun σ' H' => ∃ p' bp lft wd x7 x8 G, Mu Pl p' < Mu Pl p ∧ σ' = [some v, some (nV i), some (.ref d), some (.ref bp), some (nV lft), some (.ref a), some (.ref fl), x7, x8] ∧ p' ∈ xs.map (·.1) ∧ SpotAt G bp p' ∧ Fr Tb X0 H3 H3 G H' ∧ G fl = none ∧ H' fl = some (.lst (wd.map nV)) ∧ wd.length + Mu Pl p' ≤ 9 ∧ lft < cnt Pl p' ∧ ∀ w0, (full Pl p')[lft]? = some w0 → ww = wd ++ w0,
        fun σ' H' ⟨p', bp, lft, wd, x7, x8, G, h0, h1, h2, h3, h4, h5, h6, h7, h8, h9⟩ => ⟨Mu Pl p', h0, p', bp, lft, wd, x7, x8, G, h1, rfl, h2, h3, h4, h5, h6, h7, h8, h9⟩, ?_⟩
      have s35 : Same H3 H5 := fr5.g.trans fr5.s
      refine ⟨_, rfl, _, rfl, d, xs, bp, p, .ref lk, rfl, rfl, .inl (s35 _ _ st3.at_), fun x hx => SpotAt.mono s35 (st3.all x hx).1, SpotAt.mono fr5.s hbp, hgk, lk, us, rfl, .inl (.of (s35 _ _ hus)), fun l0 nl0 => ?_⟩
      have f6 := fr5.trans (Fr.alloc (o := .lst us) fr5.s nl0)
      have hfl6 : upd H5 l0 (.lst us) fl = some (.lst (wd.map nV)) := upd_keep nl0 _ _ hfl5
      have nlf : fl ≠ l0 := ne_of_none hfl5 nl0
      refine ⟨fun m σ' H' => ∃ l hs lft' G vsr x8, σ' = [some v, some (nV i), some (.ref d), some (.ref bp), some (nV lft'), some (.ref a), some (.ref fl), some (.ref l), x8] ∧ m = hs.length ∧ Fr Tb X0 H3 H3 G H' ∧ G fl = none ∧ H' fl = some (.lst (wd.map nV)) ∧ G l = some (.lst vsr) ∧ All2 (VStep G) vsr (hs.map fun h => (h, step Pl p h)) ∧ (∀ h ∈ hs, h ∈ can Pl p) ∧ lft' < (K57.fl Pl p hs).length ∧ (K57.fl Pl p hs)[lft']? = (full Pl p)[lft]?,
        ⟨_, l0, can Pl p, lft, upd G l0 (.lst us), us, _, rfl, rfl, f6, by rw [upd_ne nlf]; exact gfl, hfl6, upd_same, ?_, fun h hh => hh, ?_, ?_⟩, ?_⟩
      · have h1 := hall.imp fun v x h => VStep.mono (fr5.g.trans (same_upd (b := l0) (o := .lst us) fr5.s nl0)) h
        exact h1
      · rw [← full_fl ok good hc]
        exact hlt
      · rw [← full_fl ok good hc]
      · rintro m σ' H6 ⟨l, hs, lft', G6, vsr, x8', rfl, rfl, f6', gfl6, hfl6', hl6, hv6, hin6, hlt6, heq6⟩
        cases hs with
        | nil => simp [K57.fl] at hlt6
        | cons h r =>
          cases vsr with
          | nil => have := hv6.1; simp at this
          | cons v0 vr =>
            obtain ⟨ta, qb, e0', hta, hqb⟩ := hv6.2 0 v0 (h, step Pl p h) rfl rfl
            subst e0'
            have hvr : All2 (VStep G6) vr (r.map fun h => (h, step Pl p h)) := by
              have := hv6.drop 1
              simpa using this
            have cg := (mem_can.mp (hin6 h List.mem_cons_self)).2
            have hclq := cl.cl p hp0 h (hin6 h List.mem_cons_self)
            have s36 : Same H3 H6 := f6'.g.trans f6'.s
            have hlH : H6 l = some (.lst (.ref ta :: vr)) := f6'.s _ _ hl6
            have htaH := f6'.s _ _ hta
            have hc6 : H6 a = some (PD P w a ys) := s36 _ _ c3.at_
            have hal6 : AllAt H6 ys := AllAt.mono s36 c3.all
            have hqH : SpotAt H6 qb (step Pl p h) := SpotAt.mono f6'.s hqb
            have hgq := c3.cnt _ hclq
            have hwd : wd.length < sizeLine := Nat.lt_of_le_of_lt (m := 9) (by omega) (by decide)
            by_cases hge : cnt Pl (step Pl p h) ≤ lft'
            · refine ⟨_, rfl, _, rfl, _, rfl, _, _, _, _, rfl, rfl, .of hlH, atI_nat (j := 0) rfl, _, _, _, _, rfl, rfl, .of htaH, atI_nat (j := 1) rfl, a, ys, qb, step Pl p h, _, rfl, rfl, .inl hc6, hal6, hqH, hgq, _, _, rfl, rfl, true, congrArg V.bl (decide_eq_true (by omega)), iteT ?_⟩
              refine ⟨fun σ' H' => ∃ l lft' G vsr x8, σ' = [some v, some (nV i), some (.ref d), some (.ref bp), some (nV lft'), some (.ref a), some (.ref fl), some (.ref l), x8] ∧ Fr Tb X0 H3 H3 G H' ∧ G fl = none ∧ H' fl = some (.lst (wd.map nV)) ∧ G l = some (.lst vsr) ∧ All2 (VStep G) vsr (r.map fun h => (h, step Pl p h)) ∧ lft' < (K57.fl Pl p r).length ∧ (K57.fl Pl p r)[lft']? = (full Pl p)[lft]?,
                fun σ' H' ⟨l, lft', G, vsr, x8, h1, h2, h3, h4, h5, h6, h7, h8⟩ => ⟨r.length, by simp, l, r, lft', G, vsr, x8, h1, rfl, h2, h3, h4, h5, h6, fun k hk => hin6 k (List.mem_cons_of_mem _ hk), h7, h8⟩, ?_⟩
              refine ⟨_, rfl, _, rfl, _, rfl, _, _, _, _, rfl, rfl, .of hlH, atI_nat (j := 0) rfl, _, _, _, _, rfl, rfl, .of htaH, atI_nat (j := 1) rfl, a, ys, qb, step Pl p h, _, rfl, rfl, .inl hc6, hal6, hqH, hgq, _, _, rfl, rfl, ?_⟩
              refine ⟨_, rfl, _, rfl, l, _, rfl, .of hlH, fun l2 nl2 => ?_⟩
              rw [cutV_one]
              have nl2f : fl ≠ l2 := ne_of_none hfl6' nl2
              have f7 := f6'.trans (Fr.alloc (o := .lst vr) f6'.s nl2)
              have fl_e := fl_len Pl p h r
              have fl_g := fl_ge (P := Pl) (s := p) (h := h) (r := r) hge
              refine ⟨l2, lft' - cnt Pl (step Pl p h), _, vr, x8', ?_, f7, by rw [upd_ne nl2f]; exact gfl6, upd_keep nl2 _ _ hfl6', upd_same, hvr.imp fun v x h => VStep.mono (same_upd f6'.s nl2) h, by omega, by rw [← fl_g]; exact heq6⟩
              show [_, _, _, _, some (V.int (((lft' : Nat) : Int) - ((cnt Pl (step Pl p h) : Nat) : Int))), _, _, _, _] = _
              rw [show (((lft' : Nat) : Int) - ((cnt Pl (step Pl p h) : Nat) : Int)) = ((lft' - cnt Pl (step Pl p h) : Nat) : Int) by omega]
              rfl
            · refine ⟨_, rfl, _, rfl, _, rfl, _, _, _, _, rfl, rfl, .of hlH, atI_nat (j := 0) rfl, _, _, _, _, rfl, rfl, .of htaH, atI_nat (j := 1) rfl, a, ys, qb, step Pl p h, _, rfl, rfl, .inl hc6, hal6, hqH, hgq, _, _, rfl, rfl, false, congrArg V.bl (decide_eq_false (by omega)), iteF ?_⟩
              have hlt7 : lft' < cnt Pl (step Pl p h) := by omega
              refine ⟨_, rfl, _, _, _, _, rfl, rfl, .of hlH, atI_nat (j := 0) rfl, ta, _, rfl, .of htaH, rfl, _, _, rfl, _, _, rfl, rfl, ?_⟩
              refine ⟨_, rfl, .inl ⟨rfl, _, .of hfl6'⟩, _, rfl, fl, _, _, rfl, rfl, hfl6', by rw [List.length_map]; exact hwd, ?_⟩
              have hmd := step_wt ok good cg
              refine ⟨step Pl p h, qb, lft', wd ++ [h], _, _, G6, hmd, rfl, hclq, hqb, f6'.mut' (not_live nfl) gfl6 hfl6' lst_nt lst_nc lst_nt, gfl6, by rw [upd_same, List.map_append]; rfl, by simp; omega, hlt7, fun w0 h0 => ?_⟩
              have h8 := fl_lt (P := Pl) (s := p) (h := h) (r := r) hlt7
              rw [h0] at h8
              rw [hww _ (heq6.symm.trans h8)]
              simp
theorem ok_full_at (T : Txt K mg C) {f : Addr} {fd : FuncData} (F : C8.Def K mg "full_at" (top 83) f fd) (b : Binds K fd ["program", "place"] []) (c_is_count : Cl P w K mg base 2 "is_count" spCount []) (c_full_counts : Cl P w K mg base 6 "full_counts" (spCounts P w C Tb) []) (c_all_steps : Cl P w K mg base 4 "all_steps" (spAll P w C Tb) [])
    (c_first_place : Cl P w K mg base 1 "first_place" (spFirst C Tb) []) : Cl P w K mg base 7 "full_at" (spAt C Tb) [] := ⟨f, fd, _, _, fn_full_at T F c_is_count c_full_counts c_all_steps c_first_place, F.mgf, F.kp, b, .nil⟩
end
end K57
set_option Elab.async false
set_option linter.all false
set_option autoImplicit false
set_option maxRecDepth 100000
set_option maxHeartbeats 4000000
/-! K58E: the law's own stepping. -/
namespace K57
open PySem PySem.Spec PyProof.Rows L2 LamX
section
variable {P : Program} {w : World} {K : PySem.W.Frag} {mg : Str → Option Value} {base : Heap} {C : Cs} {Tb : List (Addr × Str)}
def spLBegin (Tb : List (Addr × Str)) : Sp := fun vs H Q _ => ∃ (G : Hp) (v : V) (Pl : Pl), vs = [v] ∧ VPl G v Pl ∧ PlOk Pl ∧ Same G H ∧ ∀ v' G' H', Fr Tb X0 G H G' H' → VSpot G' v' (begin Pl) → Q v' H'
theorem sc98 : FnScope ["_law_plan_here", "_law_lines", "_law_model_here", "_law_state"] ["_law_plan_here"] (C8.fnScope (top 98)) := C8.fnScope_by (by decide +kernel)
theorem ok_lbegin (T : Txt K mg C) {f : Addr} {fd : FuncData} (F : C8.Def K mg "_law_begin" (top 98) f fd) (b : Binds K fd ["_law_plan_here"] []) : Cl P w K mg base 1 "_law_begin" (spLBegin Tb) [] := by
  refine C8.cal0 F b .nil sc98 (fun vs H Q E h => ?_) (fun cdv A outer s H vs Q E hr h => ?_)
  · obtain ⟨G, v, Pl, rfl, _⟩ := h
    rfl
  · obtain ⟨G, v, Pl, rfl, ⟨a, t, sa, vs, ws, rfl, ha, ht, hT, hsa, hS⟩, ok, hs, k⟩ := h
    refine ⟨_, ((pss_one (ps_ret (pe_tup (pa_cons (pe_callTy call_tuple_of (by rfl) T.b_tuple (by decide +kernel) (pa_cons (pe_lc (own := [("_law_lines", 1)]) (tt := tYes) rfl sc98.nd (pi_list (pe_ix ix_tup (pv 0) pe_int (fun _ _ => rfl))) (blkOk_by (N := ["_law_plan_here", "_law_lines", "_law_model_here", "_law_state"]) (sc := C8.fnScope (top 98)) (by decide +kernel)) (fun _ _ _ _ _ => (pg_name (i := 1) sc98.nd rfl (Or.inl rfl))) (fun _ _ _ _ _ => pts_nil) (fun _ _ _ _ _ => pe_int)) pa_nil)) (pa_cons (pe_callTy call_tuple_of (by rfl) T.b_tuple (by decide +kernel) (pa_cons (pe_lc (own := [("_law_model_here", 2), ("_law_state", 3)]) (tt := tYes) rfl sc98.nd (pi_list (pe_ix ix_tup (pv 0) pe_int (fun _ _ => rfl))) (blkOk_by (N := ["_law_plan_here", "_law_lines", "_law_model_here", "_law_state"]) (sc := C8.fnScope (top 98)) (by decide +kernel)) (fun _ _ _ _ _ => (pg_tupK K (n := 2) rfl (pgs_cons (pg_name (i := 2) sc98.nd rfl (Or.inl rfl)) (pgs_cons (pg_name (i := 3) sc98.nd rfl (Or.inl rfl)) pgs_nil)))) (fun _ _ _ _ _ => pts_nil) (fun _ _ _ _ _ => (pv 3))) pa_nil)) pa_nil)))))), ?_⟩
    have t4 := ok.t4
    have s4 := ok.s4
    refine ⟨_, rfl, _, _, _, _, rfl, rfl, .of (hs _ _ ha), atI_nat (j := 1) rfl, sa, rfl, ⟨_, .of (hs _ _ hsa)⟩, fun D hD => ?_⟩
    refine lc_frY (T := Tb) (X := X0) (walk_list (a := sa) (xs := ws)) G (IEq fun _ => nV 0) hs hD (fun h => h) (by rw [hS.1]; exact Nat.le_trans s4 (by decide)) (fun H2 e => .of (e _ _ hsa)) rfl (fun _ _ _ _ _ h => h) IEq.len (fun i y G2 H2 H3 acc N hi hI fr hDD gD y' k' => ?_) (fun G2 H2 acc hI fr sg hDD => ?_)
    · obtain ⟨rfl, hy⟩ := y'
      exact ⟨rfl, k' _ _ _ (.refl fr.s) hI.step⟩
    · refine ⟨D, acc, rfl, .inl ⟨.of hDD, fun t1 nt1 => ?_⟩⟩
      have f2 := fr.trans (Fr.alloc (o := .tup acc) fr.s nt1)
      have ht1 : upd (upd G2 D (.lst acc)) t1 (.tup acc) t1 = some (.tup acc) := upd_same
      generalize upd (upd G2 D (.lst acc)) t1 (.tup acc) = G3 at f2 ht1
      refine ⟨_, rfl, _, _, _, _, rfl, rfl, .of (f2.get ha), atI_nat (j := 0) rfl, t, rfl, ⟨_, .of (f2.get ht)⟩, fun D2 hD2 => ?_⟩
      refine lc_frY (T := Tb) (X := X0) (walk_list (a := t) (xs := vs)) G3 (INat (Pl.ths.map (·.2))) f2.s hD2 (fun h => h) (by rw [hT.1]; exact Nat.le_trans t4 (by decide)) (fun H2 e => .of (e _ _ (f2.g _ _ ht))) rfl (fun _ _ _ _ _ h => h) INat.len (fun i y G4 H4 H5 acc2 N hi hI2 fr2 hDD2 gD2 y' k' => ?_) (fun G4 H4 acc2 hI2 fr2 sg2 hDD2 => ?_)
      · obtain ⟨rfl, hy⟩ := y'
        obtain ⟨b0, hb0, q, u, rfl, hq, hu⟩ := hT.get' hy
        refine ⟨q, _, rfl, .of ((f2.trans fr2).get hq), rfl, _, _, rfl, _, _, rfl, rfl, rfl, _, rfl, ?_⟩
        exact k' _ _ _ (.refl fr2.s) (hI2.step (x := b0.2) (by rw [List.getElem?_map, hb0]; rfl))
      · refine ⟨D2, acc2, rfl, .inl ⟨.of hDD2, fun t2 nt2 => ?_⟩⟩
        have f3 := f2.trans (fr2.trans (Fr.alloc (o := .tup acc2) fr2.s nt2))
        have h1 := (fr2.trans (Fr.alloc (o := .tup acc2) fr2.s nt2)).g _ _ ht1
        have ht2 : upd (upd G4 D2 (.lst acc2)) t2 (.tup acc2) t2 = some (.tup acc2) := upd_same
        generalize upd (upd G4 D2 (.lst acc2)) t2 (.tup acc2) = G5 at f3 h1 ht2
        refine ⟨len2, fun p np => k _ _ _ (f3.trans (Fr.alloc (o := .tup [.ref t1, .ref t2]) f3.s np)) ⟨p, rfl, t1, t2, upd_same, ?_, ?_⟩⟩
        · rw [same_upd f3.s np _ _ h1]
          congr 2
          rw [show acc = (List.range ws.length).map (fun _ => nV 0) from hI, hS.1, map_zero]
          rfl
        · rw [same_upd f3.s np _ _ ht2]
          congr 2
          rw [show acc2 = ((Pl.ths.map (·.2)).take vs.length).map nV from hI2, List.take_of_length_le (by rw [hT.1]; simp)]
          rfl
theorem nd_tagL {G : Hp} {v : V} {nd : Nd} (h : VNd G v nd) : ∃ a xs z, v = .ref a ∧ G a = some (.tup (.str z :: xs)) ∧ (!decide (V.str z = V.str "end")) = nd.inner := by
  cases nd with
  | look t br => obtain ⟨a, d, h1, h2, _⟩ := h; exact ⟨a, _, _, h1, h2, rfl⟩
  | act t j br => obtain ⟨a, d, h1, h2, _⟩ := h; exact ⟨a, _, _, h1, h2, rfl⟩
  | fin t => obtain ⟨a, h1, h2⟩ := h; exact ⟨a, _, _, h1, h2, rfl⟩
def spLCan (Tb : List (Addr × Str)) : Sp := fun vs H Q _ => ∃ (G : Hp) (v u : V) (Pl : Pl) (s : Spot), vs = [v, u] ∧ VPl G v Pl ∧ VSpot G u s ∧ Good Pl s ∧ PlOk Pl ∧ Same G H ∧ ∀ v' G' H', Fr Tb X0 G H G' H' → VW G' v' (can Pl s) → Q v' H'
theorem sc99 : FnScope ["_law_plan_here", "_law_spot", "_law_found", "_law_hand", "_law_at"] ["_law_plan_here", "_law_spot"] (C8.fnScope (top 99)) := C8.fnScope_by (by decide +kernel)
theorem ok_lcan (T : Txt K mg C) {f : Addr} {fd : FuncData} (F : C8.Def K mg "_law_can" (top 99) f fd) (b : Binds K fd ["_law_plan_here", "_law_spot"] []) : Cl P w K mg base 1 "_law_can" (spLCan Tb) [] := by
  refine C8.cal0 F b .nil sc99 (fun vs H Q E h => ?_) (fun cdv A outer s H vs Q E hr h => ?_)
  · obtain ⟨G, v, u, Pl, s, rfl, _⟩ := h
    rfl
  · obtain ⟨G, v, u, Pl, s, rfl, ⟨a, t, sa, vs, ws, rfl, ha, ht, hT, hsa, hS⟩, ⟨q, rfl, t1, t2, hq, ht1, ht2⟩, good, ok, hs, k⟩ := h
    refine ⟨_, ((pss_cons (ps_set (i := 2) sc99.nd rfl (Or.inl rfl) (pe_lst pa_nil))
      (pss_cons (ps_for PassesOwn.never rfl (pi_enumT (by rfl) T.b_enumerate (pa_cons (pe_ix ix_tup (pv 1) pe_int (fun _ _ => rfl)) pa_nil)) (pg_tup rfl (pgs_cons (pg_name (i := 3) sc99.nd rfl (Or.inl rfl)) (pgs_cons (pg_name (i := 4) sc99.nd rfl (Or.inl rfl)) pgs_nil))) (pss_one (ps_if (PW.pt (pw_and (pt_cmp (pc_notN (pv 4))) (pw_and1 (pt_cmpR op_ne (pe_ix ix_tup (pe_ix ix_list (pe_ix ix_list (pe_ix ix_tup (pv 0) pe_int (fun _ _ => rfl)) (pv 3) (fun _ _ => rfl)) (pv 4) (fun _ _ => rfl)) pe_int (fun _ _ => rfl)) pe_str (nomark _))))) (pss_one (ps_expr (pe_bm PySem.F.plainAttrs_list PySem.F.slot_list_append PySem.F.type_list_append mt_append (pv 2) (pa_cons (pv 3) pa_nil)))) pss_nil)))
      (pss_one (ps_ret (pv 2)))))), ?_⟩
    have l4 : s.1.length ≤ 4 := by rw [good.l1]; exact ok.s4
    refine ⟨Nat.zero_le _, fun fl nfl => ?_⟩
    have f1 : Fr Tb X0 G H G (upd H fl (.lst [])) := Fr.alloc' hs nfl
    have gfl := none_of_same hs nfl
    refine ⟨_, rfl, _, _, _, _, rfl, rfl, .of (f1.get hq), atI_nat (j := 0) rfl, t1, _, rfl, .of (f1.get ht1), ?_⟩
    refine for_it (walk_enumT (a := t1) (xs := s.1.map oV)) (fun i σ H' => ∃ x3 x4 G', σ = [some (.ref a), some (.ref q), some (.ref fl), x3, x4] ∧ Fr Tb X0 G H G' H' ∧ G' fl = none ∧ H' fl = some (.lst (((List.range i).filter (canGo Pl s)).map nV)))
      ⟨_, _, G, rfl, f1, gfl, upd_same⟩ (fun i σ H' hi ⟨x3, x4, G', _, fr, _⟩ => .of (fr.get ht1)) (fun i x σ H2 H3 hi ⟨x3, x4, G2, eσ, fr, gfl2, hfl⟩ y => ?_) (fun σ H2 ⟨x3, x4, G2, eσ, fr, gfl2, hfl⟩ => ?_)
    · subst eσ
      obtain ⟨tt, x1, x2, rfl, nt, rfl, e1, e2⟩ := y
      cases e1
      obtain ⟨o, ho⟩ := get_of_lt (l := s.1) (i := i) (by simpa using hi)
      have e3 : some (oV o) = some x2 := (get_oV ho).symm.trans e2
      cases e3
      have nft : fl ≠ tt := ne_of_none hfl nt
      have f3 := fr.trans (Fr.alloc (o := .tup [.int (i : Nat), oV o]) fr.s nt)
      have hfl3 : upd H2 tt (.tup [.int (i : Nat), oV o]) fl = some (.lst (((List.range i).filter (canGo Pl s)).map nV)) := upd_keep nt _ _ hfl
      have gfl3 : upd G2 tt (.tup [.int (i : Nat), oV o]) fl = none := by rw [upd_ne nft]; exact gfl2
      refine ⟨tt, _, rfl, .of upd_same, rfl, _, _, rfl, _, _, rfl, rfl, ?_⟩
      generalize upd H2 tt (.tup [.int (i : Nat), oV o]) = H4 at f3 hfl3 ⊢
      generalize upd G2 tt (.tup [.int (i : Nat), oV o]) = G4 at f3 gfl3
      cases o with
      | none =>
        have e : canGo Pl s i = false := by unfold canGo; rw [getD_some ho]
        refine ⟨_, rfl, false, rfl, ?_⟩
        exact ⟨_, _, G4, rfl, f3, gfl3, by rw [hfl3, List.range_succ, List.filter_append]; simp [e]⟩
      | some n =>
        obtain ⟨sc, hsc, hn⟩ := good.nd i n ho
        obtain ⟨nd, hnd⟩ := get_of_lt hn
        obtain ⟨v1, hv1, r, us, rfl, hr0, hR⟩ := hS.get hsc
        obtain ⟨v2, hv2, hN⟩ := hR.get hnd
        obtain ⟨na, nxs, z, rfl, hna, hz⟩ := nd_tagL hN
        have e : canGo Pl s i = nd.inner := by unfold canGo nodeAt; rw [getD_some ho, getD_some hsc]; show ((sc.getD n (.fin 0)).inner = _); rw [getD_some hnd]
        refine ⟨_, rfl, true, rfl, ?_⟩
        refine ⟨_, rfl, _, _, _, _, rfl, rfl, .of (f3.get ha), atI_nat (j := 1) rfl, _, rfl, _, _, _, _, rfl, rfl, .of (f3.get hsa), atI_nat hv1, _, rfl, _, _, _, _, rfl, rfl, .of (f3.get hr0), atI_nat hv2, _, _, _, _, rfl, rfl, .of (f3.get hna), atI_nat (j := 0) rfl, rfl, nd.inner, congrArg V.bl hz, ?_⟩
        cases hin : nd.inner with
        | false => exact ⟨_, _, G4, rfl, f3, gfl3, by rw [hfl3, List.range_succ, List.filter_append]; simp [e, hin]⟩
        | true =>
          have hsm : (((List.range i).filter (canGo Pl s)).map nV).length < sizeLine := by
            rw [List.length_map]
            have := List.length_filter_le (canGo Pl s) (List.range i)
            rw [List.length_range] at this
            rw [List.length_map] at hi
            rw [sizeLine_eq]
            omega
          refine ⟨_, rfl, .inl ⟨rfl, _, .of hfl3⟩, _, rfl, fl, _, _, rfl, rfl, hfl3, hsm, ?_⟩
          refine ⟨_, _, G4, rfl, f3.mut' (not_live nfl) gfl3 hfl3 lst_nt lst_nc lst_nt, gfl3, ?_⟩
          rw [upd_same, List.range_succ, List.filter_append, List.map_append]
          simp [e, hin, nV]
    · subst eσ
      refine ⟨_, rfl, k _ _ _ (fr.adopt' (not_live nfl) gfl2 hfl) ⟨fl, rfl, ?_⟩⟩
      rw [upd_same, List.length_map]
      rfl
end
end K57
set_option Elab.async false
set_option linter.all false
set_option autoImplicit false
set_option maxRecDepth 100000
set_option maxHeartbeats 4000000
/-! K58F: the law's own step. -/
namespace K57
open PySem PySem.Spec PyProof.Rows L2 LamX
theorem ixN_nat {n k : Nat} (h : k < n) : ixN n ((k : Nat) : Int) = some k := by
  unfold ixN
  rw [if_pos (by omega), if_pos (by omega)]
  simp
theorem nm_ne : ∀ i j : Fin 4, i.val ≠ j.val → eqV (.str (nmAt i.val)) (.str (nmAt j.val)) = false := by decide +kernel
theorem nm_eq : ∀ j : Fin 4, eqV (.str (nmAt j.val)) (.str (nmAt j.val)) = true := by decide +kernel
theorem names_flat : ∀ m : Fin 5, (names m.val).all flatV = true := by decide +kernel
section
variable {P : Program} {w : World} {K : PySem.W.Frag} {mg : Str → Option Value} {base : Heap} {C : Cs} {Tb : List (Addr × Str)}
def spLStep (Tb : List (Addr × Str)) : Sp := fun vs H Q _ => ∃ (G : Hp) (v u : V) (Pl : Pl) (s : Spot) (h : Nat), vs = [v, u, nV h] ∧ VPl G v Pl ∧ VSpot G u s ∧ Good Pl s ∧ PlOk Pl ∧ canGo Pl s h = true ∧ Same G H ∧ ∀ v' G' H', Fr Tb X0 G H G' H' → VSpot G' v' (step Pl s h) → Q v' H'
theorem sc100 : FnScope ["_law_plan_here", "_law_spot", "_law_hand", "_law_node_here", "_law_there", "_law_heard", "_law_names_now", "_law_rows_here", "_law_near"] ["_law_plan_here", "_law_spot", "_law_hand"] (C8.fnScope (top 100)) := C8.fnScope_by (by decide +kernel)
theorem ok_lstep (T : Txt K mg C) {f : Addr} {fd : FuncData} (F : C8.Def K mg "_law_step" (top 100) f fd) (b : Binds K fd ["_law_plan_here", "_law_spot", "_law_hand"] []) : Cl P w K mg base 1 "_law_step" (spLStep Tb) [] := by
  refine C8.cal0 F b .nil sc100 (fun vs H Q E h => ?_) (fun cdv A outer s H vs Q E hr h => ?_)
  · obtain ⟨G, v, u, Pl, s, h, rfl, _⟩ := h
    rfl
  · obtain ⟨G, v, u, Pl, s, h, rfl, ⟨a, t, sa, vs, ws, rfl, ha, ht, hT, hsa, hS⟩, ⟨q, rfl, t1, t2, hq, ht1, ht2⟩, good, ok, cg, hs, k⟩ := h
    obtain ⟨n, sc, nd, kk, at1⟩ := at_of ok good cg
    have hu := hu_of hr
    refine ⟨_, ((pss_cons (ps_set (i := 3) sc100.nd rfl (Or.inl rfl) (pe_ix ix_list (pe_ix ix_list (pe_ix ix_tup (pv 0) pe_int (fun _ _ => rfl)) (pv 2) (fun _ _ => rfl)) (pe_ix ix_tup (pe_ix ix_tup (pv 1) pe_int (fun _ _ => rfl)) (pv 2) (fun _ _ => rfl)) (fun _ _ => rfl)))
      (pss_cons (ps_set (i := 4) sc100.nd rfl (Or.inl rfl) (pe_callTy call_list_of (by rfl) T.b_list (by decide +kernel) (pa_cons (pe_ix ix_tup (pv 1) pe_int (fun _ _ => rfl)) pa_nil)))
      (pss_cons (ps_set (i := 5) sc100.nd rfl (Or.inl rfl) (pe_ix ix_list (pv 4) (pe_ix ix_tup (pv 3) pe_int (fun _ _ => rfl)) (fun _ _ => rfl)))
      (pss_cons (ps_if (pt_cmpR op_eq (pe_ix ix_tup (pv 3) pe_int (fun _ _ => rfl)) pe_str (nomark _)) (pss_cons (ps_asg (pe_ix ix_tup (pe_ix ix_list (pe_ix ix_tup (pv 0) pe_int (fun _ _ => rfl)) (pe_ix ix_tup (pv 3) pe_int (fun _ _ => rfl)) (fun _ _ => rfl)) pe_int (fun _ _ => rfl)) (pg_tup rfl (pgs_cons (pg_name (i := 6) sc100.nd rfl (Or.inl rfl)) (pgs_cons (pg_name (i := 7) sc100.nd rfl (Or.inl rfl)) pgs_nil))))
      (pss_one (ps_asg (pe_ix ix_list (pe_ix ix_list (pv 7) (pv 5) (fun _ _ => rfl)) (pe_bm PySem.F.plainAttrs_list PySem.F.slot_list_index PySem.F.type_list_index mt_index (pv 6) (pa_cons (pe_ix ix_tup (pv 3) pe_int (fun _ _ => rfl)) pa_nil)) (fun _ _ => rfl)) (pg_tup rfl (pgs_cons (pg_name (i := 5) sc100.nd rfl (Or.inl rfl)) (pgs_cons (pg_sub (pv 4) (pe_ix ix_tup (pv 3) pe_int (fun _ _ => rfl)) set_list) pgs_nil)))))) pss_nil)
      (pss_cons (ps_set (i := 8) sc100.nd rfl (Or.inl rfl) (pe_callTy call_list_of (by rfl) T.b_list (by decide +kernel) (pa_cons (pe_ix ix_tup (pv 1) pe_int (fun _ _ => rfl)) pa_nil)))
      (pss_cons (ps_asg (pe_dget1 hu (pe_ix ix_tup (pv 3) (pe_un un_neg pe_int) (fun _ _ => rfl)) (pv 5) ⟨rfl, rfl, rfl, rfl⟩) (pg_sub (pv 8) (pv 2) set_list))
      (pss_one (ps_ret (pe_tup (pa_cons (pe_callTy call_tuple_of (by rfl) T.b_tuple (by decide +kernel) (pa_cons (pv 8) pa_nil)) (pa_cons (pe_callTy call_tuple_of (by rfl) T.b_tuple (by decide +kernel) (pa_cons (pv 4) pa_nil)) pa_nil)))))))))))), ?_⟩
    have hl : h < s.1.length := lt_of_get at1.hn
    obtain ⟨v1, hv1, r, us, rfl, hr0, hR⟩ := hS.get at1.hs
    obtain ⟨v2, hv2, hN⟩ := hR.get at1.hd
    refine ⟨_, rfl, _, _, _, _, rfl, rfl, .of (hs _ _ ha), atI_nat (j := 1) rfl, _, rfl, _, _, _, _, rfl, rfl, .of (hs _ _ hsa), atI_nat hv1, _, rfl, _, _, _, _, rfl, rfl, .of (hs _ _ hq), atI_nat (j := 0) rfl, _, rfl, _, _, _, _, rfl, rfl, .of (hs _ _ ht1), atI_nat (get_oV at1.hn), _, _, _, _, rfl, rfl, .of (hs _ _ hr0), atI_nat hv2, ?_⟩
    refine ⟨_, rfl, _, _, _, _, rfl, rfl, .of (hs _ _ hq), atI_nat (j := 1) rfl, t2, s.2.map nV, rfl, .inr (.of (hs _ _ ht2)), fun th nth => ?_⟩
    have f1 : Fr Tb X0 G H G (upd H th (.lst (s.2.map nV))) := Fr.alloc' hs nth
    have hth : upd H th (.lst (s.2.map nV)) th = some (.lst (s.2.map nV)) := upd_same
    have gth := none_of_same hs nth
    generalize upd H th (.lst (s.2.map nV)) = H1 at f1 hth ⊢
    cases nd with
    | fin x => exact absurd at1.inn (by simp [Nd.inner])
    | look tt br =>
      obtain ⟨na, d, rfl, hna, hd⟩ := hN
      obtain ⟨m, b0, hm, hB⟩ := at1.ok
      obtain ⟨x, hx⟩ := get_of_lt (l := s.2) (i := tt) (by rw [good.l2]; exact lt_of_get hm)
      have est := step_look at1
      rw [getD_some hx] at est
      refine ⟨_, rfl, _, rfl, _, _, _, _, rfl, rfl, .of (f1.get hna), atI_nat (j := 1) rfl, _, _, _, _, rfl, rfl, .of hth, atI_nat (get_nV hx), ?_⟩
      refine ⟨_, rfl, _, _, _, _, rfl, rfl, .of (f1.get hna), atI_nat (j := 0) rfl, rfl, false, rfl, iteF ?_⟩
      refine ⟨_, rfl, _, _, _, _, rfl, rfl, .of (f1.get hq), atI_nat (j := 0) rfl, t1, s.1.map oV, rfl, .inr (.of (f1.get ht1)), fun nr nnr => ?_⟩
      have f2 := f1.trans (Fr.alloc' (o := .lst (s.1.map oV)) f1.s nnr)
      have hth2 : upd H1 nr (.lst (s.1.map oV)) th = some (.lst (s.2.map nV)) := upd_keep nnr _ _ hth
      have hnr2 : upd H1 nr (.lst (s.1.map oV)) nr = some (.lst (s.1.map oV)) := upd_same
      have gnr := none_of_same f1.s nnr
      have nlr := f1.nl nnr
      have ntn : th ≠ nr := ne_of_none hth nnr
      generalize upd H1 nr (.lst (s.1.map oV)) = H2 at f2 hth2 hnr2 ⊢
      refine ⟨_, rfl, _, rfl, _, _, _, _, rfl, rfl, .of (f2.get hna), atI_last (l := [.str "look", nV tt]), d, rfl, .inl ⟨_, .inl (f2.get hd)⟩, _, rfl, (br.lookup x).map nV, br_get (f2.get hd) (fun k => valV_brK br k) x, ?_⟩
      rw [getD_oV]
      refine ⟨_, rfl, _, rfl, nr, s.1.map oV, ((h : Nat) : Int), h, rfl, rfl, hnr2, ixN_nat (by simpa using hl), ?_⟩
      rw [map_set_oV]
      have f3 := f2.mut' (o := .lst ((s.1.set h (br.lookup x)).map oV)) nlr gnr hnr2 lst_nt lst_nc lst_nt
      have hth3 : upd H2 nr (.lst ((s.1.set h (br.lookup x)).map oV)) th = some (.lst (s.2.map nV)) := by rw [upd_ne ntn]; exact hth2
      have hnr3 : upd H2 nr (.lst ((s.1.set h (br.lookup x)).map oV)) nr = some (.lst ((s.1.set h (br.lookup x)).map oV)) := upd_same
      generalize upd H2 nr (.lst ((s.1.set h (br.lookup x)).map oV)) = H3 at f3 hth3 hnr3 ⊢
      refine ⟨_, rfl, nr, _, rfl, .inl ⟨.of hnr3, fun p1 np1 => ?_⟩⟩
      have f4 := f3.trans (Fr.alloc (o := .tup ((s.1.set h (br.lookup x)).map oV)) f3.s np1)
      refine ⟨_, rfl, th, _, rfl, .inl ⟨.of (upd_keep np1 _ _ hth3), fun p2 np2 => ?_⟩⟩
      have f5 := f4.trans (Fr.alloc (o := .tup (s.2.map nV)) f4.s np2)
      refine ⟨len2, fun p3 np3 => k _ _ _ (f5.trans (Fr.alloc (o := .tup [.ref p1, .ref p2]) f5.s np3)) ⟨p3, rfl, p1, p2, upd_same, ?_, ?_⟩⟩
      · rw [same_upd f5.s np3 _ _ (same_upd f4.s np2 _ _ upd_same), est]
      · rw [same_upd f5.s np3 _ _ upd_same, est]
    | act tt j br =>
      obtain ⟨na, d, rfl, hna, hd⟩ := hN
      obtain ⟨m, b0, hm, hj, hB⟩ := at1.ok
      obtain ⟨x, hx⟩ := get_of_lt (l := s.2) (i := tt) (by rw [good.l2]; exact lt_of_get hm)
      obtain ⟨m', b', hm', hxl⟩ := good.st tt x hx
      rw [hm] at hm'
      cases hm'
      have mok := (ok.th _ (mem_of_get hm)).1
      obtain ⟨⟨row, e1, e2⟩, _⟩ := ent_ok mok hxl hj
      have est := step_act at1
      rw [md_of hm, getD_some hx] at est
      obtain ⟨vb, hvb, qb, ub, rfl, hqb, hub⟩ := hT.get hm
      obtain ⟨ma, mn, mr, rfl, hma, hmn, rr, rs, rfl, hrr, hrs⟩ := hub
      obtain ⟨v5, hv5, r5, rs5, rfl, hr5, hrs5⟩ := hrs.get e1
      obtain ⟨v6, hv6, e6, rfl, he6⟩ := hrs5.get e2
      have m2 : m.many ≤ 2 := mok.m2
      refine ⟨_, rfl, _, rfl, _, _, _, _, rfl, rfl, .of (f1.get hna), atI_nat (j := 1) rfl, _, _, _, _, rfl, rfl, .of hth, atI_nat (get_nV hx), ?_⟩
      refine ⟨_, rfl, _, _, _, _, rfl, rfl, .of (f1.get hna), atI_nat (j := 0) rfl, rfl, true, rfl, iteT ?_⟩
      refine ⟨_, rfl, _, _, _, _, rfl, rfl, .of (f1.get ha), atI_nat (j := 0) rfl, _, rfl, _, _, _, _, rfl, rfl, .of (f1.get hna), atI_nat (j := 1) rfl, _, _, _, _, rfl, rfl, .of (f1.get ht), atI_nat hvb, _, _, _, _, rfl, rfl, .of (f1.get hqb), atI_nat (j := 0) rfl, ma, _, rfl, .of (f1.get hma), rfl, _, _, rfl, _, _, rfl, rfl, ?_⟩
      refine ⟨_, rfl, _, rfl, _, _, _, _, rfl, rfl, .of (f1.get hrr), atI_nat hv5, _, rfl, .inl ⟨rfl, _, .of (f1.get hmn)⟩, _, rfl, _, _, _, _, rfl, rfl, .of (f1.get hna), atI_nat (j := 2) rfl, mn, names m.many, .str (nmAt j), j, .str (nmAt j), rfl, rfl, .of (f1.get hmn), rfl, names_flat ⟨m.many, by omega⟩, names_at (by omega) hj, nm_eq ⟨j, by omega⟩, fun i z hi hz => ?_, ?_⟩
      · obtain ⟨i4, im, rfl⟩ := names_get hz
        exact nm_ne ⟨i, i4⟩ ⟨j, by omega⟩ (Nat.ne_of_lt hi)
      refine ⟨_, _, _, _, rfl, rfl, .of (f1.get hr5), atI_nat hv6, e6, _, rfl, .of (f1.get he6), rfl, _, _, rfl, _, _, rfl, ?_⟩
      refine ⟨_, rfl, _, rfl, _, _, _, _, rfl, rfl, .of (f1.get hna), atI_nat (j := 1) rfl, th, s.2.map nV, ((tt : Nat) : Int), tt, rfl, rfl, hth, ixN_nat (by rw [List.length_map]; exact lt_of_get hx), rfl, ?_⟩
      rw [map_set_nV]
      have f1' := f1.mut' (o := .lst ((s.2.set tt (m.ent x j).2).map nV)) (not_live nth) gth hth lst_nt lst_nc lst_nt
      have hth' : upd H1 th (.lst ((s.2.set tt (m.ent x j).2).map nV)) th = some (.lst ((s.2.set tt (m.ent x j).2).map nV)) := upd_same
      generalize upd H1 th (.lst ((s.2.set tt (m.ent x j).2).map nV)) = H1' at f1' hth' ⊢
      refine ⟨_, rfl, _, _, _, _, rfl, rfl, .of (f1'.get hq), atI_nat (j := 0) rfl, t1, s.1.map oV, rfl, .inr (.of (f1'.get ht1)), fun nr nnr => ?_⟩
      have f2 := f1'.trans (Fr.alloc' (o := .lst (s.1.map oV)) f1'.s nnr)
      have hth2 : upd H1' nr (.lst (s.1.map oV)) th = some (.lst ((s.2.set tt (m.ent x j).2).map nV)) := upd_keep nnr _ _ hth'
      have hnr2 : upd H1' nr (.lst (s.1.map oV)) nr = some (.lst (s.1.map oV)) := upd_same
      have gnr := none_of_same f1'.s nnr
      have nlr := f1'.nl nnr
      have ntn : th ≠ nr := ne_of_none hth' nnr
      generalize upd H1' nr (.lst (s.1.map oV)) = H2 at f2 hth2 hnr2 ⊢
      refine ⟨_, rfl, _, rfl, _, _, _, _, rfl, rfl, .of (f2.get hna), atI_last (l := [.str "do", nV tt, .str (nmAt j)]), d, rfl, .inl ⟨_, .inl (f2.get hd)⟩, _, rfl, (br.lookup (m.ent x j).1).map nV, br_get (f2.get hd) (fun k => valV_brK br k) (m.ent x j).1, ?_⟩
      rw [getD_oV]
      refine ⟨_, rfl, _, rfl, nr, s.1.map oV, ((h : Nat) : Int), h, rfl, rfl, hnr2, ixN_nat (by simpa using hl), ?_⟩
      rw [map_set_oV]
      have f3 := f2.mut' (o := .lst ((s.1.set h (br.lookup (m.ent x j).1)).map oV)) nlr gnr hnr2 lst_nt lst_nc lst_nt
      have hth3 : upd H2 nr (.lst ((s.1.set h (br.lookup (m.ent x j).1)).map oV)) th = some (.lst ((s.2.set tt (m.ent x j).2).map nV)) := by rw [upd_ne ntn]; exact hth2
      have hnr3 : upd H2 nr (.lst ((s.1.set h (br.lookup (m.ent x j).1)).map oV)) nr = some (.lst ((s.1.set h (br.lookup (m.ent x j).1)).map oV)) := upd_same
      generalize upd H2 nr (.lst ((s.1.set h (br.lookup (m.ent x j).1)).map oV)) = H3 at f3 hth3 hnr3 ⊢
      refine ⟨_, rfl, nr, _, rfl, .inl ⟨.of hnr3, fun p1 np1 => ?_⟩⟩
      have f4 := f3.trans (Fr.alloc (o := .tup ((s.1.set h (br.lookup (m.ent x j).1)).map oV)) f3.s np1)
      refine ⟨_, rfl, th, _, rfl, .inl ⟨.of (upd_keep np1 _ _ hth3), fun p2 np2 => ?_⟩⟩
      have f5 := f4.trans (Fr.alloc (o := .tup ((s.2.set tt (m.ent x j).2).map nV)) f4.s np2)
      refine ⟨len2, fun p3 np3 => k _ _ _ (f5.trans (Fr.alloc (o := .tup [.ref p1, .ref p2]) f5.s np3)) ⟨p3, rfl, p1, p2, upd_same, ?_, ?_⟩⟩
      · rw [same_upd f5.s np3 _ _ (same_upd f4.s np2 _ _ upd_same), est]
      · rw [same_upd f5.s np3 _ _ upd_same, est]
end
end K57
set_option Elab.async false
set_option linter.all false
set_option autoImplicit false
set_option maxRecDepth 100000
set_option maxHeartbeats 4000000
/-! K58G: levels. -/
namespace K57
open PySem PySem.Spec PyProof.Rows L2 LamX
def nVs (p : Spot × Nat) : Spot × V := (p.1, nV p.2)
theorem getA_nVs (s : Spot) : ∀ l : List (Spot × Nat), getA (l.map nVs) s = (getA l s).map nV
  | [] => rfl
  | p :: r => by
    by_cases e : p.1 = s
    · rw [List.map_cons, getA_pos (by exact e), getA_pos (by exact e)]
      rfl
    · rw [List.map_cons, getA_neg (by exact e), getA_neg (by exact e), getA_nVs s r]
theorem putA_nVs (s : Spot) (c : Nat) (l : List (Spot × Nat)) : putA (l.map nVs) s (nV c) = (putA l s c).map nVs := by
  cases h : getA l s with
  | none =>
    rw [putA_new _ (by rw [getA_nVs, h]; rfl), putA_new _ h]
    simp [nVs]
  | some x =>
    rw [putA_old (x := nV x) _ (by rw [getA_nVs, h]; rfl), putA_old _ h, List.map_map, List.map_map]
    apply List.map_congr_left
    intro p _
    show (if (nVs p).1 = s then ((nVs p).1, nV c) else nVs p) = nVs (if p.1 = s then (p.1, c) else p)
    by_cases e : p.1 = s
    · rw [if_pos e]
      exact if_pos (show (nVs p).1 = s from e)
    · rw [if_neg e]
      exact if_neg (show ¬ (nVs p).1 = s from e)
theorem upd_comm {H : Hp} {a b : Addr} {x y : HO} (h : a ≠ b) : upd (upd H a x) b y = upd (upd H b y) a x := by
  funext c
  by_cases h1 : c = b
  · subst h1
    rw [upd_same, upd_ne (Ne.symm h), upd_same]
  · rw [upd_ne h1]
    by_cases h2 : c = a
    · subst h2
      rw [upd_same, upd_same]
    · rw [upd_ne h2, upd_ne h2, upd_ne h1]
theorem SpotAt.lock {G : Hp} {d b : Addr} {u o : HO} {s : Spot} (hd : G d = some u) (nt : ∀ xs, u ≠ .tup xs) (h : SpotAt G b s) : SpotAt (upd G d o) b s := by
  obtain ⟨t1, t2, h1, h2, h3⟩ := h
  have ne : ∀ {c : Addr} {xs : List V}, G c = some (.tup xs) → c ≠ d := fun {c xs} hc z => by rw [z, hd] at hc; exact nt _ (Option.some.inj hc)
  exact ⟨t1, t2, by rw [upd_ne (ne h1)]; exact h1, by rw [upd_ne (ne h2)]; exact h2, by rw [upd_ne (ne h3)]; exact h3⟩
theorem pd_ntup {P : Program} {w : World} {a : Addr} {xs : PXs} : ∀ zs, PD P w a xs ≠ .tup zs := fun ps z => by
  unfold PD at z
  cases z
theorem walk_P {P : Program} {w : World} {d : Addr} {o : Obj} {xs : PXs} : Walk (ItP P w d o xs) xs.length (fun H => H d = some (.frz o (PD P w d xs))) (fun i H x H' => ∃ T s b v, xs[i]? = some (s, b, v) ∧ x = .ref T ∧ H T = none ∧ H' = upd H T (.tup [.ref b, v])) :=
  ⟨fun _ _ hi q => ⟨q, hi⟩, fun _ q => ⟨q, Nat.le_refl _⟩, fun _ _ _ _ _ _ y => y⟩
/-- a level stands in the dict at d -/
structure Lv (P : Program) (w : World) (Pl : Pl) (G : Hp) (d : Addr) (xs : PXs) (lv : List (Spot × Nat)) : Prop where
  at_ : G d = some (PD P w d xs)
  all : AllAt G xs
  kv : kvP xs = lv.map nVs
  good : ∀ p ∈ lv, Good Pl p.1
theorem Lv.mono {P : Program} {w : World} {Pl : Pl} {G G' : Hp} {d : Addr} {xs : PXs} {lv : List (Spot × Nat)} (h : Lv P w Pl G d xs lv) (e : Same G G') : Lv P w Pl G' d xs lv := ⟨e _ _ h.at_, AllAt.mono e h.all, h.kv, h.good⟩
theorem Lv.len {P : Program} {w : World} {Pl : Pl} {G : Hp} {d : Addr} {xs : PXs} {lv : List (Spot × Nat)} (h : Lv P w Pl G d xs lv) : xs.length = lv.length := by
  have := congrArg List.length h.kv
  unfold kvP at this
  simpa using this
theorem Lv.item {P : Program} {w : World} {Pl : Pl} {G : Hp} {d : Addr} {xs : PXs} {lv : List (Spot × Nat)} (h : Lv P w Pl G d xs lv) {i : Nat} {s : Spot} {b : Addr} {v : V} (hx : xs[i]? = some (s, b, v)) : ∃ c, lv[i]? = some (s, c) ∧ v = nV c ∧ SpotAt G b s := by
  have h1 : (kvP xs)[i]? = some (s, v) := by unfold kvP; rw [List.getElem?_map, hx]; rfl
  rw [h.kv, List.getElem?_map] at h1
  cases q : lv[i]? with
  | none => rw [q] at h1; simp at h1
  | some p =>
    rw [q] at h1
    have h2 : nVs p = (s, v) := Option.some.inj h1
    obtain ⟨p1, p2⟩ := p
    have e1 : p1 = s := congrArg Prod.fst h2
    have e2 : nV p2 = v := congrArg Prod.snd h2
    subst e1
    exact ⟨p2, rfl, e2.symm, h.all _ (mem_of_get hx)⟩
/-- the levels that are behind -/
def LvAll (P : Program) (w : World) (Pl : Pl) (G : Hp) (ds : List (Addr × PXs × List (Spot × Nat))) : Prop := ∀ e ∈ ds, Lv P w Pl G e.1 e.2.1 e.2.2
def doneS (Pl : Pl) (ds : List (Addr × PXs × List (Spot × Nat))) : Nat := (ds.map fun e => doneL Pl e.2.2).sum
section
variable {P : Program} {w : World} {K : PySem.W.Frag} {mg : Str → Option Value} {base : Heap} {C : Cs} {Tb : List (Addr × Str)}
def spLevels (P : Program) (w : World) (Tb : List (Addr × Str)) : Sp := fun vs H Q _ => ∃ (G : Hp) (v : V) (Pl : Pl), vs = [v] ∧ VPl G v Pl ∧ PlOk Pl ∧ Same G H ∧
  ∀ a ds G' H', Fr Tb X0 G H G' H' → G' a = some (.lst (ds.map fun e => V.ref e.1)) → LvAll P w Pl G' ds → doneS Pl ds = cnt Pl (begin Pl) → ds.length ≤ 11 → Q (.ref a) H'
theorem sc103 : FnScope ["_law_plan_here", "_law_level", "_law_found", "_law_longer", "_law_spot", "_law_many_here", "_law_hand", "_law_later"] ["_law_plan_here"] (C8.fnScope (top 103)) := C8.fnScope_by (by decide +kernel)
theorem ok_levels (T : Txt K mg C) {f : Addr} {fd : FuncData} (F : C8.Def K mg "_law_levels" (top 103) f fd) (b : Binds K fd ["_law_plan_here"] []) (c__law_begin : Cl P w K mg base 1 "_law_begin" (spLBegin Tb) []) (c__law_can : Cl P w K mg base 1 "_law_can" (spLCan Tb) []) (c__law_step : Cl P w K mg base 1 "_law_step" (spLStep Tb) []) :
    Cl P w K mg base 2 "_law_levels" (spLevels P w Tb) [] := by
  refine C8.cal0 F b .nil sc103 (fun vs H Q E h => ?_) (fun cdv A outer s H vs Q E hr h => ?_)
  · obtain ⟨G, v, Pl, rfl, _⟩ := h
    rfl
  · obtain ⟨G, v, Pl, rfl, hv, ok, hs, k⟩ := h
    have hu := hu_of hr
    have hp := hr.units
    refine ⟨_, ((pss_cons (ps_par (i := 1) (j := 2) rfl sc103.nd rfl rfl (by decide) rfl rfl (pa_cons (pe_poneK P w hp (C8.pe_c c__law_begin hr (by decide) (by rfl) (pa_cons (pv 0) pa_nil)) pe_int) (pa_cons (pe_lst pa_nil) pa_nil)) rfl)
      (pss_cons (ps_while PassesOwn.never (pt_cmpR (op_pneEK P w (Nat.lt_of_succ_lt hu)) (pv 1) (pe_pnewK P w) rfl) (pss_cons (ps_expr (pe_bm PySem.F.plainAttrs_list PySem.F.slot_list_append PySem.F.type_list_append mt_append (pv 2) (pa_cons (pv 1) pa_nil)))
      (pss_cons (ps_set (i := 3) sc103.nd rfl (Or.inl rfl) (pe_pnewK P w))
      (pss_cons (ps_lock (ps_for PassesOwn.never rfl (pi_pitemsK P w (pv 1)) (pg_tup rfl (pgs_cons (pg_name (i := 4) sc103.nd rfl (Or.inl rfl)) (pgs_cons (pg_name (i := 5) sc103.nd rfl (Or.inl rfl)) pgs_nil))) (pss_one (ps_for PassesOwn.never rfl (pi_list (C8.pe_c c__law_can hr (by decide) (by rfl) (pa_cons (pv 0) (pa_cons (pv 4) pa_nil)))) (pg_name (i := 6) sc103.nd rfl (Or.inl rfl)) (pss_cons (ps_set (i := 7) sc103.nd rfl (Or.inl rfl) (C8.pe_c c__law_step hr (by decide) (by rfl) (pa_cons (pv 0) (pa_cons (pv 4) (pa_cons (pv 6) pa_nil)))))
      (pss_one (ps_pputK P w hp (pv 3) (pv 7) (pe_op op_add (pe_pget2K P w hp (pv 3) (pv 7) pe_int ⟨rfl, rfl, rfl, rfl⟩) (pv 5)))))))))
      (pss_one (ps_set (i := 1) sc103.nd rfl (Or.inl rfl) (pv 3)))))))
      (pss_one (ps_ret (pv 2)))))), ?_⟩
    refine fun d0 nd0 => ?_
    have fa : Fr Tb X0 G H G (upd H d0 (PD P w d0 [])) := Fr.alloc' hs nd0 pd_nt
    have gd0 := none_of_same hs nd0
    refine ⟨_, rfl, G, v, Pl, rfl, hv, ok, fa.s, fun v' G1 H1 f1 ⟨b0, eb, hb0⟩ => ?_⟩
    subst eb
    have hd1 := f1.at (fun h => h) (upd_same (H := H) (a := d0) (o := PD P w d0 [])) pd_nt
    have gd1 := f1.keep (upd_same (H := H) (a := d0) (o := PD P w d0 [])) gd0 pd_nt
    refine ⟨b0, begin Pl, rfl, hd1, SpotAt.mono f1.s hb0, Nat.zero_le _, fun fl nfl => ?_⟩
    have f2 := (fa.trans f1).mut' (o := PD P w d0 [(begin Pl, b0, .int 1)]) (not_live nd0) gd1 hd1 pd_nt pd_ne_code pd_nt
    have nfl1 : H1 fl = none := by
      by_cases z : fl = d0
      · subst z; rw [upd_same] at nfl; cases nfl
      · rw [upd_ne z] at nfl; exact nfl
    have ndf : d0 ≠ fl := fun z => by subst z; rw [hd1] at nfl1; cases nfl1
    have hd2 : upd (upd H1 d0 (PD P w d0 [(begin Pl, b0, .int 1)])) fl (.lst []) d0 = some (PD P w d0 [(begin Pl, b0, .int 1)]) := by rw [upd_ne ndf]; exact upd_same
    have nlf : ¬ Live H fl := (fa.trans f1).nl nfl1
    have gfl1 := none_of_same f1.s nfl1
    have f3 := (f2.trans (Fr.alloc' (o := .lst []) f2.s nfl)).adopt' (not_live nd0) gd1 hd2
    have gfl3 : upd G1 d0 (PD P w d0 [(begin Pl, b0, .int 1)]) fl = none := by rw [upd_ne (Ne.symm ndf)]; exact gfl1
    have lv0 : Lv P w Pl (upd G1 d0 (PD P w d0 [(begin Pl, b0, .int 1)])) d0 [(begin Pl, b0, .int 1)] [(begin Pl, 1)] :=
      ⟨upd_same, fun x hx => by simp at hx; subst hx; exact SpotAt.mono (same_upd (.refl _) gd1) hb0, rfl, fun p hp => by simp at hp; subst hp; exact good_begin ok⟩
    refine ⟨_, _, rfl, ?_⟩
    refine ⟨fun m σ H' => ∃ n d xs lv ds G' x3 x4 x5 x6 x7, σ = [some v, some (.ref d), some (.ref fl), x3, x4, x5, x6, x7] ∧ m = 10 - n ∧ Fr Tb X0 G H G' H' ∧ G d = none ∧ Lv P w Pl G' d xs lv ∧ LvAll P w Pl G' ds ∧ G' fl = none ∧ H' fl = some (.lst (ds.map fun e => V.ref e.1)) ∧ doneS Pl ds + wsum (cnt Pl) lv = cnt Pl (begin Pl) ∧ (∀ p ∈ lv, Mu Pl p.1 + n ≤ 9) ∧ lv.length ≤ 4 ^ n ∧ n ≤ 10 ∧ ds.length = n,
      ⟨10, 0, d0, _, [(begin Pl, 1)], [], _, _, _, _, _, _, rfl, rfl, f3, gd0, lv0, fun e he => (by cases he), gfl3, upd_same, by simp [doneS, wsum], fun p hp => by simp at hp; subst hp; have := mu9 ok (begin Pl); omega, by simp, by omega, rfl⟩, ?_⟩
    rintro m σ H4 ⟨n, d, xs, lv, ds, G4, x3, x4, x5, x6, x7, rfl, rfl, fr, gd, hlv, hds, gfl, hfl, hsum, hmu, hl4, hn, hdn⟩
    refine ⟨_, rfl, fun e0 ne0 => ⟨d, e0, xs, rfl, rfl, upd_keep ne0 _ _ (fr.s _ _ hlv.at_), upd_same, _, rfl, ?_⟩⟩
    have fe : Fr Tb X0 G4 H4 G4 (upd H4 e0 (PD P w e0 [])) := Fr.alloc' fr.s ne0 pd_nt
    have hfl5 := fe.at (fun h => h) hfl
    have fr5 := fr.trans fe
    generalize upd H4 e0 (PD P w e0 []) = H5 at fe hfl5 fr5 ⊢
    have hll := hlv.len
    by_cases hx0 : xs = []
    · subst hx0
      have e0 : lv = [] := List.length_eq_zero_iff.mp (by rw [← hll]; rfl)
      subst e0
      refine iteF ⟨_, rfl, k fl ds _ _ (fr5.adopt' nlf gfl hfl5) upd_same (fun e he => (hds e he).mono (same_upd (.refl _) gfl)) ?_ (by omega)⟩
      simpa [wsum] using hsum
    · have hne : xs.isEmpty = false := by cases xs with | nil => exact absurd rfl hx0 | cons _ _ => rfl
      rw [hne]
      have hn9 : n ≤ 9 := by
        cases lv with
        | nil => exact absurd (List.length_eq_zero_iff.mp hll) hx0
        | cons p r => have := hmu p List.mem_cons_self; omega
      have hp4 : (4 : Nat) ^ n ≤ 262144 := Nat.le_trans (Nat.pow_le_pow_right (by decide) hn9) (by decide)
      have hp4' : (4 : Nat) ^ (n + 1) = 4 * 4 ^ n := by rw [Nat.pow_succ, Nat.mul_comm]
      refine iteT ⟨fun σ' H' => ∃ d xs lv ds G' x3 x4 x5 x6 x7, σ' = [some v, some (.ref d), some (.ref fl), x3, x4, x5, x6, x7] ∧ Fr Tb X0 G H G' H' ∧ G d = none ∧ Lv P w Pl G' d xs lv ∧ LvAll P w Pl G' ds ∧ G' fl = none ∧ H' fl = some (.lst (ds.map fun e => V.ref e.1)) ∧ doneS Pl ds + wsum (cnt Pl) lv = cnt Pl (begin Pl) ∧ (∀ p ∈ lv, Mu Pl p.1 + (n + 1) ≤ 9) ∧ lv.length ≤ 4 ^ (n + 1) ∧ ds.length = n + 1,
        fun σ' H' ⟨d, xs, lv, ds, G', x3, x4, x5, x6, x7, h1, h2, h3, h4, h5, h6, h7, h8, h9, h10, h11⟩ => ⟨10 - (n + 1), by omega, n + 1, d, xs, lv, ds, G', x3, x4, x5, x6, x7, h1, rfl, h2, h3, h4, h5, h6, h7, h8, h9, h10, by omega, h11⟩, ?_⟩
      refine ⟨_, rfl, .inl ⟨rfl, _, .of hfl5⟩, _, rfl, fl, _, _, rfl, rfl, hfl5, by rw [List.length_map, hdn, sizeLine_eq]; omega, ?_⟩
      have f6 := fr5.mut' (o := .lst ((ds.map fun e => V.ref e.1) ++ [.ref d])) nlf gfl hfl5 lst_nt lst_nc lst_nt
      have hfl6 : upd H5 fl (.lst ((ds.map fun e => V.ref e.1) ++ [.ref d])) fl = some (.lst ((ds.map fun e => V.ref e.1) ++ [.ref d])) := upd_same
      generalize upd H5 fl (.lst ((ds.map fun e => V.ref e.1) ++ [.ref d])) = H6 at f6 hfl6 ⊢
      refine fun l nl => ?_
      have ndl : d ≠ l := ne_of_none (f6.s _ _ hlv.at_) nl
      have nfl6 : fl ≠ l := ne_of_none hfl6 nl
      have gl4 := none_of_same f6.s nl
      have gl : G l = none := by
        cases q0 : G l with
        | none => rfl
        | some o => have := f6.g _ _ q0; rw [gl4] at this; cases this
      refine ⟨d, PD P w d xs, by rw [upd_ne ndl]; exact f6.s _ _ hlv.at_, trivial, fun od => ?_⟩
      have ecm : upd (upd H6 l (PD P w l [])) d (.frz od (PD P w d xs)) = upd (upd H6 d (.frz od (PD P w d xs))) l (PD P w l []) := upd_comm (Ne.symm ndl)
      rw [ecm]
      have nlL : upd H6 d (.frz od (PD P w d xs)) l = none := by rw [upd_ne (Ne.symm ndl)]; exact nl
      have sL : Same (upd G4 d (.frz od (PD P w d xs))) (upd H6 d (.frz od (PD P w d xs))) := same_upd2 f6.s
      have fL : Fr Tb X0 (upd G4 d (.frz od (PD P w d xs))) (upd H6 d (.frz od (PD P w d xs))) (upd G4 d (.frz od (PD P w d xs))) (upd (upd H6 d (.frz od (PD P w d xs))) l (PD P w l [])) := Fr.alloc' sL nlL pd_nt
      have vL : VPl (upd G4 d (.frz od (PD P w d xs))) v Pl := VPl.mono (fun b o hb => by
        rw [upd_ne (fun z => by rw [z, gd] at hb; cases hb)]
        exact f6.g _ _ hb) hv
      have glL : upd G4 d (.frz od (PD P w d xs)) l = none := by rw [upd_ne (Ne.symm ndl)]; exact gl4
      have lvL : ∀ {i : Nat} {s : Spot} {b : Addr} {v : V}, xs[i]? = some (s, b, v) → ∃ c, lv[i]? = some (s, c) ∧ v = nV c ∧ SpotAt (upd G4 d (.frz od (PD P w d xs))) b s := fun {i s b v} hx => by
        obtain ⟨c, h1, h2, h3⟩ := hlv.item hx
        exact ⟨c, h1, h2, SpotAt.lock hlv.at_ pd_ntup h3⟩
      have hdL : upd G4 d (.frz od (PD P w d xs)) d = some (.frz od (PD P w d xs)) := upd_same
      generalize hGL : upd G4 d (.frz od (PD P w d xs)) = GL at sL fL vL glL lvL hdL
      generalize hHL : upd H6 d (.frz od (PD P w d xs)) = HL at nlL sL fL ⊢
      refine ⟨_, rfl, d, od, xs, rfl, fL.s _ _ hdL, ?_⟩
      refine for_it walk_P (fun i σ' H' => ∃ x4 x5 x6 x7 G' ms mv, σ' = [some v, some (.ref d), some (.ref fl), some (.ref l), x4, x5, x6, x7] ∧ Fr Tb X0 GL HL G' H' ∧ H' l = some (PD P w l ms) ∧ G' l = none ∧ AllAt G' ms ∧ kvP ms = mv.map nVs ∧ (mv.map (·.1)).Nodup ∧ wsum (cnt Pl) mv = goL Pl (lv.take i) ∧ (∀ p ∈ mv, Good Pl p.1 ∧ Mu Pl p.1 + (n + 1) ≤ 9) ∧ mv.length ≤ 4 * i)
        ⟨_, _, _, _, GL, [], [], rfl, fL, upd_same, glL, fun x hx => (by cases hx), rfl, by simp, rfl, fun p hp => (by cases hp), by simp⟩
        (fun i σ' H' hi ⟨x4, x5, x6, x7, G', ms, mv, _, fr, _⟩ => fr.s _ _ (fr.g _ _ hdL)) (fun i x σ' H7 H8 hi ⟨x4, x5, x6, x7, G7, ms, mv, eσ, fr7, hl7, gl7, hal, hkv, hnd, hws, hgd, hlen⟩ y => ?_) (fun σ' H7 ⟨x4, x5, x6, x7, G7, ms, mv, eσ, fr7, hl7, gl7, hal, hkv, hnd, hws, hgd, hlen⟩ => ?_)
      · subst eσ
        obtain ⟨tt, sp, bq, vv, hx, rfl, nt, rfl⟩ := y
        obtain ⟨c, hlvi, rfl, hsp⟩ := lvL hx
        have hmem := mem_of_get hlvi
        have good : Good Pl sp := hlv.good _ hmem
        have hmsp : Mu Pl sp + n ≤ 9 := hmu _ hmem
        have nlt : l ≠ tt := ne_of_none hl7 nt
        have f8 := fr7.trans (Fr.alloc (o := .tup [.ref bq, nV c]) fr7.s nt)
        have hl8 : upd H7 tt (.tup [.ref bq, nV c]) l = some (PD P w l ms) := upd_keep nt _ _ hl7
        have gl8 : upd G7 tt (.tup [.ref bq, nV c]) l = none := by rw [upd_ne nlt]; exact gl7
        have hal8 := AllAt.mono (same_upd (b := tt) (o := .tup [.ref bq, nV c]) fr7.s nt) hal
        refine ⟨tt, _, rfl, .of upd_same, rfl, _, _, rfl, _, _, rfl, rfl, ?_⟩
        generalize upd H7 tt (.tup [.ref bq, nV c]) = H8 at f8 hl8 ⊢
        generalize upd G7 tt (.tup [.ref bq, nV c]) = G8 at f8 gl8 hal8
        have hsp8 := SpotAt.mono f8.g hsp
        refine ⟨_, rfl, _, rfl, G8, v, .ref bq, Pl, sp, rfl, VPl.mono f8.g vL, ⟨bq, rfl, hsp8⟩, good, ok, f8.s, fun v' G9 H9 f9 ⟨ca, ec, hca⟩ => ⟨ca, ec, ⟨_, .of (f9.s _ _ hca)⟩, ?_⟩⟩
        have f89 := f8.trans f9
        have hl9 := f9.at (fun h => h) hl8 pd_nt
        have gl9 := f9.keep hl8 gl8 pd_nt
        have hal9 := AllAt.mono f9.g hal8
        have c4 := can_le4 ok good
        refine for_it (walk_list (a := ca) (xs := (can Pl sp).map nV)) (fun j σ' H' => ∃ x6 x7 G' ms mv, σ' = [some v, some (.ref d), some (.ref fl), some (.ref l), some (.ref bq), some (nV c), x6, x7] ∧ Fr Tb X0 GL HL G' H' ∧ Same G9 G' ∧ H' l = some (PD P w l ms) ∧ G' l = none ∧ AllAt G' ms ∧ kvP ms = mv.map nVs ∧ (mv.map (·.1)).Nodup ∧ wsum (cnt Pl) mv = goL Pl (lv.take i) + c * (((can Pl sp).take j).map fun h => cnt Pl (step Pl sp h)).sum ∧ (∀ p ∈ mv, Good Pl p.1 ∧ Mu Pl p.1 + (n + 1) ≤ 9) ∧ mv.length ≤ 4 * i + j)
          ⟨_, _, G9, ms, mv, rfl, f89, .refl _, hl9, gl9, hal9, hkv, hnd, by rw [hws]; simp, hgd, by omega⟩ (fun j σ' H' hj ⟨x6, x7, G', ms, mv, _, fr, e, _⟩ => .of (fr.s _ _ (e _ _ hca))) (fun j x σ' H10 H11 hj ⟨x6, x7, G10, ms, mv, eσ, fr10, e10, hl10, gl10, hal10, hkv, hnd, hws, hgd, hlen⟩ y2 => ?_) (fun σ' H10 ⟨x6, x7, G10, ms, mv, eσ, fr10, e10, hl10, gl10, hal10, hkv, hnd, hws, hgd, hlen⟩ => ?_)
        · subst eσ
          obtain ⟨eH, hy⟩ := y2
          subst H11
          obtain ⟨h, hh⟩ := get_of_lt (l := can Pl sp) (i := j) (by simpa using hj)
          have e2 : some (nV h) = some x := (get_nV hh).symm.trans hy
          cases e2
          have cg := (mem_can.mp (mem_of_get hh)).2
          have e810 : Same G8 G10 := f9.g.trans e10
          refine ⟨_, rfl, _, rfl, _, rfl, G10, v, .ref bq, Pl, sp, h, rfl, VPl.mono (f8.g.trans e810) vL, ⟨bq, rfl, SpotAt.mono e810 hsp8⟩, good, ok, cg, fr10.s, fun v2 G11 H12 f11 ⟨qb, eq, hqb⟩ => ?_⟩
          subst eq
          have hl12 := f11.at (fun h => h) hl10 pd_nt
          have gl12 := f11.keep hl10 gl10 pd_nt
          have hal12 := AllAt.mono f11.g hal10
          have f12 := fr10.trans f11
          have halH : AllAt H12 ms := AllAt.mono f12.s hal12
          have hqH : SpotAt H12 qb (step Pl sp h) := SpotAt.mono f12.s hqb
          have hget : (getP ms (step Pl sp h)).getD (.int 0) = nV ((getA mv (step Pl sp h)).getD 0) := by
            rw [getP_eq, hkv, getA_nVs]
            cases getA mv (step Pl sp h) <;> rfl
          have hml : ms.length = mv.length := by
            have := congrArg List.length hkv
            unfold kvP at this
            simpa using this
          have hil : i < lv.length := lt_of_get hlvi
          have hj4 : j < 4 := Nat.lt_of_lt_of_le hj (by rw [List.length_map]; exact c4)
          refine ⟨_, rfl, l, ms, rfl, .inl hl12, _, rfl, ms, qb, step Pl sp h, rfl, .inl hl12, halH, hqH, ?_⟩
          rw [hget]
          refine ⟨_, rfl, _, _, rfl, rfl, _, rfl, _, rfl, l, ms, qb, step Pl sp h, rfl, rfl, hl12, halH, hqH, by rw [hml, sizeLine_eq]; omega, ?_⟩
          have eput : (V.int (((((getA mv (step Pl sp h)).getD 0 : Nat) : Nat) : Int) + ((c : Nat) : Int))) = nV ((getA mv (step Pl sp h)).getD 0 + c) := rfl
          refine ⟨_, _, G11, putP ms (step Pl sp h) qb (nV ((getA mv (step Pl sp h)).getD 0 + c)), putA mv (step Pl sp h) ((getA mv (step Pl sp h)).getD 0 + c), rfl, f12.mut' (not_live nlL) gl12 hl12 pd_nt pd_ne_code pd_nt, e10.trans f11.g, upd_same, gl12, AllAt.put hal12 hqb, by rw [putP_eq, hkv, putA_nVs], nodup_putA hnd, ?_, ?_, ?_⟩
          · rw [wsum_bump _ _ _ hnd, hws, sum_take hh, Nat.mul_add]
            omega
          · intro p hp
            have hk : p.1 ∈ (putA mv (step Pl sp h) ((getA mv (step Pl sp h)).getD 0 + c)).map (·.1) := List.mem_map.mpr ⟨p, hp, rfl⟩
            rw [keys_putA] at hk
            have hk2 : p.1 ∈ mv.map (·.1) ∨ p.1 = step Pl sp h := by
              split at hk
              · exact .inl hk
              · rcases List.mem_append.mp hk with z | z
                · exact .inl z
                · simp at z; exact .inr z
            rcases hk2 with z | z
            · obtain ⟨p', hp', e'⟩ := List.mem_map.mp z
              rw [← e']
              exact hgd p' hp'
            · rw [z]
              have := step_wt ok good cg
              exact ⟨good_step ok good cg, by omega⟩
          · have := length_putA mv (step Pl sp h) ((getA mv (step Pl sp h)).getD 0 + c)
            omega
        · subst eσ
          refine ⟨_, _, _, _, G10, ms, mv, rfl, fr10, hl10, gl10, hal10, hkv, hnd, ?_, hgd, by rw [List.length_map] at hlen; omega⟩
          rw [hws, List.length_map, List.take_length, goL_take ok good hlvi]
      · subst eσ
        rw [← hGL, ← hHL] at fr7
        have hfL : HL fl = some (.lst ((ds.map fun e => V.ref e.1) ++ [.ref d])) := by
          rw [← hHL, upd_ne (fun z => by rw [z] at gfl; rw [hlv.at_] at gfl; cases gfl)]
          exact hfl6
        have nfd : fl ≠ d := fun z => by rw [z] at gfl; rw [hlv.at_] at gfl; cases gfl
        obtain ⟨fU, hdF⟩ := Fr.unlock fr7 f6.s (f6.s _ _ hlv.at_) hlv.at_ pd_nt pd_ne_code
        have hfl7 : H7 fl = some (.lst ((ds.map fun e => V.ref e.1) ++ [.ref d])) := fr7.at (fun h => h) (by rw [hHL]; exact hfL)
        have gfl7 : G7 fl = none := fr7.keep (by rw [hHL]; exact hfL) (by rw [upd_ne nfd]; exact gfl)
        have hl7' : upd H7 d (PD P w d xs) l = some (PD P w l ms) := by rw [upd_ne (Ne.symm ndl)]; exact hl7
        have gl7' : upd G7 d (PD P w d xs) l = none := by rw [upd_ne (Ne.symm ndl)]; exact gl7
        have fT := (f6.trans fU).adopt' (f6.nl nl) gl7' hl7'
        have eN := same_upd (b := l) (o := PD P w l ms) (.refl (upd G7 d (PD P w d xs))) gl7'
        have hdG7 : G7 d = some (.frz od (PD P w d xs)) := fr7.g _ _ upd_same
        refine ⟨hdF, _, rfl, l, ms, mv, ds ++ [(d, xs, lv)], upd (upd G7 d (PD P w d xs)) l (PD P w l ms), _, _, _, _, _, rfl, fT, gl, ⟨upd_same, fun x hx => SpotAt.mono eN (SpotAt.lock hdG7 (fun zs z => by cases z) (hal x hx)), hkv, fun p hp => (hgd p hp).1⟩, fun e he => ?_, by rw [upd_ne nfl6, upd_ne nfd]; exact gfl7, by rw [upd_ne nfd, hfl7, List.map_append]; rfl, ?_, fun p hp => (hgd p hp).2, by omega, by simp; omega⟩
        · rcases List.mem_append.mp he with he | he
          · exact ((hds e he).mono fU.g).mono eN
          · simp at he
            subst he
            exact (hlv.mono fU.g).mono eN
        · have h1 := done_go ok (l := lv) fun p hp => hlv.good p hp
          rw [hll, List.take_length] at hws
          unfold doneS at hsum ⊢
          simp only [List.map_append, List.sum_append, List.map_cons, List.map_nil, List.sum_cons, List.sum_nil, Nat.add_zero]
          omega
end
end K57
set_option Elab.async false
set_option linter.all false
set_option autoImplicit false
set_option maxRecDepth 100000
set_option maxHeartbeats 4000000
/-! K58H: many, the first ones, the last one. -/
namespace K57
open PySem PySem.Spec PyProof.Rows L2 LamX
/-- all but what is no plain thing stays -/
def ExtE (H H' : Hp) : Prop := ∀ b o, H b = some o → (∀ φ, o ≠ .ext φ) → H' b = some o
section
variable {G G' : Hp} {v : V} (e : ExtE G G')
include e
theorem VEnt.monoE {x} (h : VEnt G v x) : VEnt G' v x := let ⟨a, h1, h2⟩ := h; ⟨a, h1, e _ _ h2 (fun _ z => by cases z)⟩
theorem VRow.monoE {x} (h : VRow G v x) : VRow G' v x := let ⟨a, vs, h1, h2, h3⟩ := h; ⟨a, vs, h1, e _ _ h2 (fun _ z => by cases z), h3.imp fun _ _ z => VEnt.monoE e z⟩
theorem VRows.monoE {x} (h : VRows G v x) : VRows G' v x := let ⟨a, vs, h1, h2, h3⟩ := h; ⟨a, vs, h1, e _ _ h2 (fun _ z => by cases z), h3.imp fun _ _ z => VRow.monoE e z⟩
theorem VMd.monoE {x} (h : VMd G v x) : VMd G' v x := let ⟨a, n, r, h1, h2, h3, h4⟩ := h; ⟨a, n, r, h1, e _ _ h2 (fun _ z => by cases z), e _ _ h3 (fun _ z => by cases z), VRows.monoE e h4⟩
theorem VBeg.monoE {x} (h : VBeg G v x) : VBeg G' v x := let ⟨a, u, h1, h2, h3⟩ := h; ⟨a, u, h1, e _ _ h2 (fun _ z => by cases z), VMd.monoE e h3⟩
theorem VNd.monoE {x} (h : VNd G v x) : VNd G' v x := by
  cases x with
  | look t br => obtain ⟨a, d, h1, h2, h3⟩ := h; exact ⟨a, d, h1, e _ _ h2 (fun _ z => by cases z), e _ _ h3 (fun _ z => by cases z)⟩
  | act t j br => obtain ⟨a, d, h1, h2, h3⟩ := h; exact ⟨a, d, h1, e _ _ h2 (fun _ z => by cases z), e _ _ h3 (fun _ z => by cases z)⟩
  | fin t => obtain ⟨a, h1, h2⟩ := h; exact ⟨a, h1, e _ _ h2 (fun _ z => by cases z)⟩
theorem VSc.monoE {x} (h : VSc G v x) : VSc G' v x := let ⟨a, vs, h1, h2, h3⟩ := h; ⟨a, vs, h1, e _ _ h2 (fun _ z => by cases z), h3.imp fun _ _ z => VNd.monoE e z⟩
theorem VPl.monoE {x} (h : VPl G v x) : VPl G' v x := let ⟨a, b, c, vs, ws, h1, h2, h3, h4, h5, h6⟩ := h; ⟨a, b, c, vs, ws, h1, e _ _ h2 (fun _ z => by cases z), e _ _ h3 (fun _ z => by cases z), h4.imp fun _ _ z => VBeg.monoE e z, e _ _ h5 (fun _ z => by cases z), h6.imp fun _ _ z => VSc.monoE e z⟩
end
theorem extE_lock {G : Hp} {d : Addr} {φ : Heap → Prop} {o : HO} (hd : G d = some (.ext φ)) : ExtE G (upd G d o) := fun b u hb nu => by
  rw [upd_ne (fun z => by rw [z, hd] at hb; exact nu _ (Option.some.inj hb).symm)]
  exact hb
section
variable {P : Program} {w : World} {K : PySem.W.Frag} {mg : Str → Option Value} {base : Heap} {C : Cs} {Tb : List (Addr × Str)}
def spLMany (Tb : List (Addr × Str)) : Sp := fun vs H Q _ => ∃ (G : Hp) (v : V) (Pl : Pl), vs = [v] ∧ VPl G v Pl ∧ PlOk Pl ∧ Same G H ∧ ∀ G' H', Fr Tb X0 G H G' H' → Q (nV (cnt Pl (begin Pl))) H'
theorem sc105 : FnScope ["_law_plan_here", "_law_found", "_law_level", "_law_spot", "_law_many_here"] ["_law_plan_here"] (C8.fnScope (top 105)) := C8.fnScope_by (by decide +kernel)
theorem ok_lmany (T : Txt K mg C) {f : Addr} {fd : FuncData} (F : C8.Def K mg "_law_many" (top 105) f fd) (b : Binds K fd ["_law_plan_here"] []) (c__law_levels : Cl P w K mg base 2 "_law_levels" (spLevels P w Tb) []) (c__law_can : Cl P w K mg base 1 "_law_can" (spLCan Tb) []) :
    Cl P w K mg base 3 "_law_many" (spLMany Tb) [] := by
  refine C8.cal0 F b .nil sc105 (fun vs H Q E h => ?_) (fun cdv A outer s H vs Q E hr h => ?_)
  · obtain ⟨G, v, Pl, rfl, _⟩ := h
    rfl
  · obtain ⟨G, v, Pl, rfl, hv, ok, hs, k⟩ := h
    have hu := hu_of hr
    refine ⟨_, ((pss_cons (ps_set (i := 1) sc105.nd rfl (Or.inl rfl) pe_int)
      (pss_cons (ps_for PassesOwn.never rfl (pi_list (C8.pe_c c__law_levels hr (by decide) (by rfl) (pa_cons (pv 0) pa_nil))) (pg_name (i := 2) sc105.nd rfl (Or.inl rfl)) (pss_one (ps_lock (ps_for PassesOwn.never rfl (pi_pitemsK P w (pv 2)) (pg_tup rfl (pgs_cons (pg_name (i := 3) sc105.nd rfl (Or.inl rfl)) (pgs_cons (pg_name (i := 4) sc105.nd rfl (Or.inl rfl)) pgs_nil))) (pss_one (ps_if (pt_cmpR (op_eqNil hu) (C8.pe_c c__law_can hr (by decide) (by rfl) (pa_cons (pv 0) (pa_cons (pv 3) pa_nil))) (pe_lst pa_nil) rfl) (pss_one (ps_set (i := 1) sc105.nd rfl (Or.inl rfl) (pe_op op_add (pv 1) (pv 4)))) pss_nil))))))
      (pss_one (ps_ret (pv 1)))))), ?_⟩
    refine ⟨_, rfl, G, v, Pl, rfl, hv, ok, hs, fun a ds G1 H1 f1 ha hds hsum hdl => ⟨a, rfl, ⟨_, .of (f1.s _ _ ha)⟩, ?_⟩⟩
    refine for_it (walk_list (a := a) (xs := ds.map fun e => V.ref e.1)) (fun i σ H' => ∃ x2 x3 x4 G', σ = [some v, some (nV (doneS Pl (ds.take i))), x2, x3, x4] ∧ Fr Tb X0 G1 H1 G' H') ⟨_, _, _, G1, rfl, .refl f1.s⟩ (fun i σ H' hi ⟨x2, x3, x4, G', _, fr⟩ => .of (fr.get ha)) (fun i x σ H2 H3 hi ⟨x2, x3, x4, G2, eσ, fr⟩ y => ?_) (fun σ H2 ⟨x2, x3, x4, G2, eσ, fr⟩ => ?_)
    · subst eσ
      obtain ⟨eH, hx⟩ := y
      subst H3
      obtain ⟨e, he⟩ := get_of_lt (l := ds) (i := i) (by simpa using hi)
      rw [List.getElem?_map, he] at hx
      have hx := Option.some.inj hx
      subst hx
      obtain ⟨d, xs, lv⟩ := e
      have hlv := (hds _ (mem_of_get he)).mono fr.g
      have hlv : Lv P w Pl G2 d xs lv := hlv
      have hll := hlv.len
      have e12 : Same G G2 := f1.g.trans fr.g
      refine ⟨d, PD P w d xs, fr.s _ _ hlv.at_, trivial, fun od => ?_⟩
      have sL : Same (upd G2 d (.frz od (PD P w d xs))) (upd H2 d (.frz od (PD P w d xs))) := same_upd2 fr.s
      have vL : VPl (upd G2 d (.frz od (PD P w d xs))) v Pl := VPl.monoE (extE_lock hlv.at_) (VPl.mono e12 hv)
      have lvL : ∀ {i : Nat} {s : Spot} {b : Addr} {v : V}, xs[i]? = some (s, b, v) → ∃ c, lv[i]? = some (s, c) ∧ v = nV c ∧ SpotAt (upd G2 d (.frz od (PD P w d xs))) b s := fun {i s b v} hx => by
        obtain ⟨c, h1, h2, h3⟩ := hlv.item hx
        exact ⟨c, h1, h2, SpotAt.lock hlv.at_ pd_ntup h3⟩
      have hdL : upd G2 d (.frz od (PD P w d xs)) d = some (.frz od (PD P w d xs)) := upd_same
      generalize hGL : upd G2 d (.frz od (PD P w d xs)) = GL at sL vL lvL hdL
      generalize hHL : upd H2 d (.frz od (PD P w d xs)) = HL at sL ⊢
      refine ⟨_, rfl, d, od, xs, rfl, sL _ _ hdL, ?_⟩
      refine for_it walk_P (fun j σ' H' => ∃ x3 x4 G', σ' = [some v, some (nV (doneS Pl (ds.take i) + doneL Pl (lv.take j))), some (.ref d), x3, x4] ∧ Fr Tb X0 GL HL G' H') ⟨_, _, GL, rfl, .refl sL⟩
        (fun j σ' H' hj ⟨x3, x4, G', _, fr⟩ => fr.get hdL) (fun j x σ' H7 H8 hj ⟨x3, x4, G7, eσ, fr7⟩ y => ?_) (fun σ' H7 ⟨x3, x4, G7, eσ, fr7⟩ => ?_)
      · subst eσ
        obtain ⟨tt, sp, bq, vv, hx, rfl, nt, rfl⟩ := y
        obtain ⟨c, hlvi, rfl, hsp⟩ := lvL hx
        have good : Good Pl sp := hlv.good _ (mem_of_get hlvi)
        have f8 := fr7.trans (Fr.alloc (o := .tup [.ref bq, nV c]) fr7.s nt)
        refine ⟨tt, _, rfl, .of upd_same, rfl, _, _, rfl, _, _, rfl, rfl, ?_⟩
        generalize upd H7 tt (.tup [.ref bq, nV c]) = H8 at f8 ⊢
        generalize upd G7 tt (.tup [.ref bq, nV c]) = G8 at f8
        refine ⟨_, rfl, _, rfl, G8, v, .ref bq, Pl, sp, rfl, VPl.mono f8.g vL, ⟨bq, rfl, SpotAt.mono f8.g hsp⟩, good, ok, f8.s, fun v' G9 H9 f9 ⟨ca, ec, hca⟩ => ?_⟩
        subst ec
        refine ⟨Nat.zero_le _, fun e0 ne0 => ?_⟩
        have f10 := (f8.trans f9).trans (Fr.alloc' (o := .lst []) f9.s ne0)
        have hdl := doneL_take (P := Pl) hlvi
        by_cases hc : can Pl sp = []
        · refine ⟨ca, e0, _, rfl, rfl, .of (upd_keep ne0 _ _ (f9.s _ _ hca)), .of upd_same, true, by rw [hc]; rfl, iteT ?_⟩
          refine ⟨_, rfl, _, rfl, _, _, rfl, rfl, ?_⟩
          refine ⟨some (.ref bq), some (nV c), G9, ?_, f10⟩
          rw [hdl, if_pos hc, ← Nat.add_assoc]
          rfl
        · refine ⟨ca, e0, _, rfl, rfl, .of (upd_keep ne0 _ _ (f9.s _ _ hca)), .of upd_same, false, by cases q0 : can Pl sp with | nil => exact absurd q0 hc | cons _ _ => rfl, iteF ?_⟩
          refine ⟨some (.ref bq), some (nV c), G9, ?_, f10⟩
          rw [hdl, if_neg hc]
          rfl
      · subst eσ
        rw [← hGL, ← hHL] at fr7
        obtain ⟨fU, hdF⟩ := Fr.unlock fr7 fr.s (fr.s _ _ hlv.at_) hlv.at_ pd_nt pd_ne_code
        refine ⟨hdF, some (.ref d), x3, x4, _, ?_, fr.trans fU⟩
        rw [hll, List.take_length, List.take_add_one, he]
        simp [doneS]
    · subst eσ
      refine ⟨_, rfl, ?_⟩
      rw [List.length_map, List.take_length, hsum]
      exact k _ _ (f1.trans fr)
end
end K57
set_option Elab.async false
set_option linter.all false
set_option autoImplicit false
set_option maxRecDepth 100000
set_option maxHeartbeats 4000000
/-! K58I: the first ones, the last one. -/
namespace K57
open PySem PySem.Spec PyProof.Rows L2 LamX
def VWs (G : Hp) (v : V) (x : List Nat × Spot) : Prop := ∃ a b c, v = .ref a ∧ G a = some (.tup [.ref b, .ref c]) ∧ G b = some (.lst (x.1.map nV)) ∧ SpotAt G c x.2
theorem VWs.mono {G G' : Hp} {v : V} {x : List Nat × Spot} (e : Same G G') (h : VWs G v x) : VWs G' v x := let ⟨a, b, c, h1, h2, h3, h4⟩ := h; ⟨a, b, c, h1, e _ _ h2, e _ _ h3, SpotAt.mono e h4⟩
theorem mWs (G G' : Hp) (v : V) (x : List Nat × Spot) (e : Same G G') (h : VWs G v x) : VWs G' v x := VWs.mono e h
theorem All2.dropLast {α : Type} {R : V → α → Prop} {vs : List V} {xs : List α} (a : All2 R vs xs) : All2 R vs.dropLast xs.dropLast := by
  rw [List.dropLast_eq_take, List.dropLast_eq_take, a.1]
  exact a.take _
theorem take_app {α : Type} {a b : List α} {n : Nat} (h : n ≤ a.length) : (a ++ b).take n = a.take n := by
  rw [List.take_append_of_le_length h]
theorem stack_last {st : List (List Nat × Spot)} (h : st ≠ []) : ∃ x, st = st.dropLast ++ [x] ∧ st[st.length - 1]? = some x := by
  refine ⟨st.getLast h, (List.dropLast_concat_getLast h).symm, ?_⟩
  rw [List.getLast_eq_getElem, List.getElem?_eq_getElem]
section
variable {P : Program} {w : World} {K : PySem.W.Frag} {mg : Str → Option Value} {base : Heap} {C : Cs} {Tb : List (Addr × Str)}
def spLLast (Tb : List (Addr × Str)) : Sp := fun vs H Q _ => ∃ (G : Hp) (v : V) (Pl : Pl), vs = [v] ∧ VPl G v Pl ∧ PlOk Pl ∧ Same G H ∧ ∀ v' ww G' H', Fr Tb X0 G H G' H' → (full Pl (begin Pl)).getLast? = some ww → VW G' v' ww → Q v' H'
theorem sc107 : FnScope ["_law_plan_here", "_law_walk", "_law_spot", "_law_turn", "_law_free"] ["_law_plan_here"] (C8.fnScope (top 107)) := C8.fnScope_by (by decide +kernel)
theorem ok_llast (T : Txt K mg C) {f : Addr} {fd : FuncData} (F : C8.Def K mg "_law_last" (top 107) f fd) (b : Binds K fd ["_law_plan_here"] []) (c__law_begin : Cl P w K mg base 1 "_law_begin" (spLBegin Tb) []) (c__law_can : Cl P w K mg base 1 "_law_can" (spLCan Tb) []) (c__law_step : Cl P w K mg base 1 "_law_step" (spLStep Tb) []) :
    Cl P w K mg base 2 "_law_last" (spLLast Tb) [] := by
  refine C8.cal0 F b .nil sc107 (fun vs H Q E h => ?_) (fun cdv A outer s H vs Q E hr h => ?_)
  · obtain ⟨G, v, Pl, rfl, _⟩ := h
    rfl
  · obtain ⟨G, v, Pl, rfl, hv, ok, hs, k⟩ := h
    have hu := hu_of hr
    refine ⟨_, ((pss_cons (ps_par (i := 1) (j := 2) rfl sc107.nd rfl rfl (by decide) rfl rfl (pa_cons (pe_lst pa_nil) (pa_cons (C8.pe_c c__law_begin hr (by decide) (by rfl) (pa_cons (pv 0) pa_nil)) pa_nil)) rfl)
      (pss_cons (ps_for PassesOwn.never rfl (pi_range1 (by rfl) T.b_range (pa_cons pe_int pa_nil)) (pg_name (i := 3) sc107.nd rfl (Or.inl rfl)) (pss_cons (ps_set (i := 4) sc107.nd rfl (Or.inl rfl) (C8.pe_c c__law_can hr (by decide) (by rfl) (pa_cons (pv 0) (pa_cons (pv 2) pa_nil))))
      (pss_one (ps_if (pt_cmpR (op_neNil hu) (pv 4) (pe_lst pa_nil) rfl) (pss_one (ps_par (i := 1) (j := 2) rfl sc107.nd rfl rfl (by decide) rfl rfl (pa_cons (pe_op op_cat (pv 1) (pe_lst (pa_cons (pe_ix ix_list (pv 4) (pe_un un_neg pe_int) (fun _ _ => rfl)) pa_nil))) (pa_cons (C8.pe_c c__law_step hr (by decide) (by rfl) (pa_cons (pv 0) (pa_cons (pv 2) (pa_cons (pe_ix ix_list (pv 4) (pe_un un_neg pe_int) (fun _ _ => rfl)) pa_nil)))) pa_nil)) rfl)) pss_nil))))
      (pss_one (ps_ret (pv 1)))))), ?_⟩
    refine ⟨Nat.zero_le _, fun l0 nl0 => ?_⟩
    have f0 : Fr Tb X0 G H (upd G l0 (.lst [])) (upd H l0 (.lst [])) := Fr.alloc hs nl0
    refine ⟨_, rfl, _, v, Pl, rfl, VPl.mono f0.g hv, ok, f0.s, fun v' G1 H1 f1 ⟨b0, eb, hb0⟩ => ?_⟩
    subst eb
    refine ⟨_, _, rfl, ?_⟩
    have f01 := f0.trans f1
    have hl1 : G1 l0 = some (.lst (([] : List Nat).map nV)) := f1.g _ _ upd_same
    refine ⟨13, rfl, by decide, by decide, ?_⟩
    refine for_range (lo := 0) (n := 13) (fun i σ H' => ∃ wl p bp wd x3 x4 G', σ = [some v, some (.ref wl), some (.ref bp), x3, x4] ∧ Fr Tb X0 G H G' H' ∧ G' wl = some (.lst (wd.map nV)) ∧ SpotAt G' bp p ∧ Good Pl p ∧ (can Pl p = [] ∨ Mu Pl p + i ≤ 9) ∧ wd.length ≤ i ∧ ∀ w0, (full Pl p).getLast? = some w0 → (full Pl (begin Pl)).getLast? = some (wd ++ w0))
      ⟨l0, begin Pl, b0, [], _, _, G1, rfl, f01, hl1, hb0, good_begin ok, .inr (by have := mu9 ok (begin Pl); omega), Nat.zero_le _, fun w0 h => h⟩ (fun i σ H2 hi ⟨wl, p, bp, wd, x3, x4, G2, eσ, fr, hwl, hbp, good, hmu, hwd, hw⟩ => ?_) (fun σ H2 ⟨wl, p, bp, wd, x3, x4, G2, eσ, fr, hwl, hbp, good, hmu, hwd, hw⟩ => ?_)
    · subst eσ
      refine ⟨_, rfl, _, rfl, G2, v, .ref bp, Pl, p, rfl, VPl.mono fr.g hv, ⟨bp, rfl, hbp⟩, good, ok, fr.s, fun v2 G3 H3 f3 ⟨ca, ec, hca⟩ => ?_⟩
      subst ec
      have fr3 := fr.trans f3
      refine ⟨_, rfl, Nat.zero_le _, fun e0 ne0 => ?_⟩
      have fr4 := fr3.trans (Fr.alloc' (o := .lst []) fr3.s ne0)
      by_cases hc : can Pl p = []
      · refine ⟨ca, e0, _, rfl, rfl, .of (upd_keep ne0 _ _ (f3.s _ _ hca)), .of upd_same, false, by rw [hc]; rfl, iteF ?_⟩
        exact ⟨wl, p, bp, wd, _, _, G3, rfl, fr4, f3.g _ _ hwl, SpotAt.mono f3.g hbp, good, .inl hc, by omega, hw⟩
      · obtain ⟨l1, h, hlast⟩ : ∃ l1 h, can Pl p = l1 ++ [h] := ⟨_, _, (List.dropLast_concat_getLast hc).symm⟩
        have hin : h ∈ can Pl p := by rw [hlast]; simp
        have cg := (mem_can.mp hin).2
        have hcaL : G3 ca = some (.lst (l1.map nV ++ [nV h])) := by rw [hca, hlast, List.map_append]; rfl
        refine ⟨ca, e0, _, rfl, rfl, .of (upd_keep ne0 _ _ (f3.s _ _ hca)), .of upd_same, true, by rw [hlast]; simp, iteT ?_⟩
        have hwl4 := fr4.s _ _ (f3.g _ _ hwl)
        have hca4 := fr4.s _ _ hcaL
        generalize upd H3 e0 (.lst []) = H4 at fr4 hwl4 hca4 ⊢
        refine ⟨_, rfl, _, rfl, _, rfl, _, _, _, _, rfl, rfl, .of hca4, atI_last, len1, fun q nq => ?_⟩
        have hqw : wl ≠ q := ne_of_none hwl4 nq
        have fr5 := fr4.trans (Fr.alloc' (o := .lst [nV h]) fr4.s nq)
        refine ⟨wl, q, wd.map nV, [nV h], rfl, rfl, upd_keep nq _ _ hwl4, upd_same, Nat.le_trans (m := 20) (by simp; omega) (by decide), fun nl nnl => ?_⟩
        have fr6 := fr5.trans (Fr.alloc (o := .lst (wd.map nV ++ [nV h])) fr5.s nnl)
        have hnl : upd G3 nl (.lst (wd.map nV ++ [nV h])) nl = some (.lst ((wd ++ [h]).map nV)) := by rw [upd_same, List.map_append]; rfl
        have e36 := same_upd (b := nl) (o := .lst (wd.map nV ++ [nV h])) fr5.s nnl
        have hca6 := fr6.s _ _ (e36 _ _ hcaL)
        generalize upd G3 nl (.lst (wd.map nV ++ [nV h])) = G6 at fr6 hnl e36
        generalize upd (upd H4 q (.lst [nV h])) nl (.lst (wd.map nV ++ [nV h])) = H6 at fr6 hca6 ⊢
        refine ⟨_, rfl, _, rfl, _, rfl, _, rfl, _, _, _, _, rfl, rfl, .of hca6, atI_last, G6, v, .ref bp, Pl, p, h, rfl, VPl.mono fr6.g hv, ⟨bp, rfl, SpotAt.mono (f3.g.trans e36) hbp⟩, good, ok, cg, fr6.s, fun v3 G7 H7 f7 ⟨q2, eq, hq2⟩ => ?_⟩
        subst eq
        have hmd := step_wt ok good cg
        refine ⟨_, _, rfl, nl, step Pl p h, q2, wd ++ [h], _, _, G7, rfl, fr6.trans f7, f7.g _ _ hnl, hq2, good_step ok good cg, ?_, by simp; omega, fun w0 h0 => ?_⟩
        · rcases hmu with z | z
          · exact absurd z hc
          · exact .inr (by omega)
        · have hls := last_step ok good (h := h) (by rw [hlast]; simp)
          rw [h0] at hls
          rw [hw _ hls]
          simp
    · subst eσ
      have hc : can Pl p = [] := by
        rcases hmu with z | z
        · exact z
        · exact absurd z (by omega)
      have hf : (full Pl p).getLast? = some [] := by rw [full_eq ok good, if_pos hc]; rfl
      have := hw [] hf
      rw [List.append_nil] at this
      exact ⟨_, rfl, k _ wd _ _ fr this ⟨wl, rfl, hwl⟩⟩
def spLFirst (Tb : List (Addr × Str)) : Sp := fun vs H Q _ => ∃ (G : Hp) (v : V) (Pl : Pl), vs = [v, .int 60] ∧ VPl G v Pl ∧ PlOk Pl ∧ Same G H ∧ ∀ a us G' H', Fr Tb X0 G H G' H' → G' a = some (.lst us) → All2 (VW G') us ((full Pl (begin Pl)).take 60) → Q (.ref a) H'
theorem mW (G G' : Hp) (v : V) (x : List Nat) (e : Same G G') (h : VW G v x) : VW G' v x := VW.mono e h
theorem sc106 : FnScope ["_law_plan_here", "_law_size", "_law_waiting", "_law_found", "_law_walk", "_law_spot", "_law_free", "_law_hand"] ["_law_plan_here", "_law_size"] (C8.fnScope (top 106)) := C8.fnScope_by (by decide +kernel)
theorem ok_lfirst (T : Txt K mg C) {f : Addr} {fd : FuncData} (F : C8.Def K mg "_law_first_ones" (top 106) f fd) (b : Binds K fd ["_law_plan_here", "_law_size"] []) (c__law_begin : Cl P w K mg base 1 "_law_begin" (spLBegin Tb) []) (c__law_can : Cl P w K mg base 1 "_law_can" (spLCan Tb) []) (c__law_step : Cl P w K mg base 1 "_law_step" (spLStep Tb) []) :
    Cl P w K mg base 2 "_law_first_ones" (spLFirst Tb) [] := by
  refine C8.cal0 F b .nil sc106 (fun vs H Q E h => ?_) (fun cdv A outer s H vs Q E hr h => ?_)
  · obtain ⟨G, v, Pl, rfl, _⟩ := h
    rfl
  · obtain ⟨G, v, Pl, rfl, hv, ok, hs, k⟩ := h
    have hu := hu_of hr
    refine ⟨_, ((pss_cons (ps_par (i := 2) (j := 3) rfl sc106.nd rfl rfl (by decide) rfl rfl (pa_cons (pe_lst (pa_cons (pe_tup (pa_cons (pe_lst pa_nil) (pa_cons (C8.pe_c c__law_begin hr (by decide) (by rfl) (pa_cons (pv 0) pa_nil)) pa_nil))) pa_nil)) (pa_cons (pe_lst pa_nil) pa_nil)) rfl)
      (pss_cons (ps_while PassesOwn.never (PW.pt (pw_and (pt_cmpR (op_neNil hu) (pv 2) (pe_lst pa_nil) rfl) (pw_and1 (pt_cmpR op_lt (pe_callB call_len_seq (by rfl) T.b_len (by decide +kernel) (pa_cons (pv 3) pa_nil)) (pv 1) (nomark _))))) (pss_cons (ps_asg (pe_bm0 PySem.F.plainAttrs_list PySem.F.slot_list_pop PySem.F.type_list_pop mt_pop (pv 2)) (pg_tup rfl (pgs_cons (pg_name (i := 4) sc106.nd rfl (Or.inr rfl)) (pgs_cons (pg_name (i := 5) sc106.nd rfl (Or.inr rfl)) pgs_nil))))
      (pss_cons (ps_set (i := 6) sc106.nd rfl (Or.inl rfl) (C8.pe_c c__law_can hr (by decide) (by rfl) (pa_cons (pv 0) (pa_cons (pv 5) pa_nil))))
      (pss_cons (ps_if (pt_cmpR (op_eqNil hu) (pv 6) (pe_lst pa_nil) rfl) (pss_one (ps_expr (pe_bm PySem.F.plainAttrs_list PySem.F.slot_list_append PySem.F.type_list_append mt_append (pv 3) (pa_cons (pv 4) pa_nil)))) pss_nil)
      (pss_one (ps_expr (pe_bm PySem.F.plainAttrs_list PySem.F.slot_list_extend PySem.F.type_list_extend mt_extend (pv 2) (pa_cons (pe_lc (own := [("_law_hand", 7)]) (tt := tYes) rfl sc106.nd (pi_list (pe_revL (pv 6))) (blkOk_by (N := ["_law_plan_here", "_law_size", "_law_waiting", "_law_found", "_law_walk", "_law_spot", "_law_free", "_law_hand"]) (sc := C8.fnScope (top 106)) (by decide +kernel)) (fun _ _ _ _ _ => (pg_name (i := 7) sc106.nd rfl (Or.inl rfl))) (fun _ _ _ _ _ => pts_nil) (fun _ _ _ _ _ => (pe_tup (pa_cons (pe_op op_cat (pv 4) (pe_lst (pa_cons (pv 7) pa_nil))) (pa_cons (C8.pe_c c__law_step hr (by decide) (by rfl) (pa_cons (pv 0) (pa_cons (pv 5) (pa_cons (pv 7) pa_nil)))) pa_nil))))) pa_nil))))))))
      (pss_one (ps_ret (pv 3)))))), ?_⟩
    refine ⟨Nat.zero_le _, fun l0 nl0 => ?_⟩
    have f0 : Fr Tb X0 G H (upd G l0 (.lst [])) (upd H l0 (.lst [])) := Fr.alloc hs nl0
    refine ⟨_, rfl, _, v, Pl, rfl, VPl.mono f0.g hv, ok, f0.s, fun v' G1 H1 f1 ⟨b0, eb, hb0⟩ => ?_⟩
    subst eb
    have f01 := f0.trans f1
    refine ⟨len2, fun tp ntp => ?_⟩
    have f2 := f01.trans (Fr.alloc (o := .tup [.ref l0, .ref b0]) f01.s ntp)
    have e1 := same_upd (b := tp) (o := .tup [.ref l0, .ref b0]) f01.s ntp
    have hws0 : VWs (upd G1 tp (.tup [.ref l0, .ref b0])) (.ref tp) ([], begin Pl) := ⟨tp, l0, b0, rfl, upd_same, e1 _ _ (f1.g _ _ upd_same), SpotAt.mono e1 hb0⟩
    generalize upd G1 tp (.tup [.ref l0, .ref b0]) = G2 at f2 hws0
    generalize upd H1 tp (.tup [.ref l0, .ref b0]) = H2 at f2 ⊢
    refine ⟨len1, fun wl nwl => ?_⟩
    have f3 : Fr Tb X0 G2 H2 G2 (upd H2 wl (.lst [.ref tp])) := Fr.alloc' f2.s nwl
    refine ⟨Nat.zero_le _, fun fl nfl => ?_⟩
    have f4 := f3.trans (Fr.alloc' (o := .lst []) f3.s nfl)
    have nwf : wl ≠ fl := fun z => by subst z; rw [upd_same] at nfl; cases nfl
    have nfl2 : H2 fl = none := by rw [upd_ne (Ne.symm nwf)] at nfl; exact nfl
    have gwl := none_of_same f2.s nwl
    have gfl := none_of_same f2.s nfl2
    have hwl4 : upd (upd H2 wl (.lst [.ref tp])) fl (.lst []) wl = some (.lst [.ref tp]) := upd_keep nfl _ _ upd_same
    refine ⟨_, _, rfl, ?_⟩
    refine ⟨fun m σ H' => ∃ us st ws fd x4 x5 x6 x7 G', σ = [some v, some (.int 60), some (.ref wl), some (.ref fl), x4, x5, x6, x7] ∧ m = stw Pl st ∧ Fr Tb X0 G2 H2 G' H' ∧ G' wl = none ∧ G' fl = none ∧ H' wl = some (.lst us) ∧ H' fl = some (.lst ws) ∧ All2 (VWs G') us st ∧ All2 (VW G') ws fd ∧ (∀ x ∈ st, Good Pl x.2 ∧ x.1.length + Mu Pl x.2 ≤ 9) ∧ fd ++ pend Pl st = full Pl (begin Pl) ∧ fd.length ≤ 60 ∧ stw Pl st ≤ 4000000,
      ⟨_, [.ref tp], [([], begin Pl)], [], [], _, _, _, _, G2, rfl, rfl, f4, gwl, gfl, hwl4, upd_same, All2.cons hws0 .nil, .nil, fun x hx => by simp at hx; subst hx; exact ⟨good_begin ok, by have := mu9 ok (begin Pl); simp; omega⟩, by simp [pend], by simp, ?_⟩, ?_⟩
    · have h1 : T4 (Mu Pl (begin Pl)) ≤ T4 9 := T4_mono (mu9 ok _)
      have h2 : T4 9 = 349525 := by decide
      simp only [stw, List.map_cons, List.map_nil, List.sum_cons, List.sum_nil]
      omega
    · rintro m σ H5 ⟨us, st, ws, fd, x4, x5, x6, x7, G5, rfl, rfl, fr, gwl5, gfl5, hwl5, hfl5, hus, hws, hst, hsum, hf60, hstz⟩
      refine ⟨_, rfl, Nat.zero_le _, fun e0 ne0 => ?_⟩
      have fe := fr.trans (Fr.alloc' (o := .lst []) fr.s ne0)
      have hwl6 : upd H5 e0 (.lst []) wl = some (.lst us) := upd_keep ne0 _ _ hwl5
      have hfl6 : upd H5 e0 (.lst []) fl = some (.lst ws) := upd_keep ne0 _ _ hfl5
      have hout : ∀ {fd : List (List Nat)}, fd = (full Pl (begin Pl)).take 60 → All2 (VW G5) ws fd → Q (.ref fl) (upd H5 e0 (.lst [])) := fun {fd} e a => by
        subst e
        have e9 := same_upd (b := fl) (o := .lst ws) (.refl G5) gfl5
        exact k fl ws _ _ (f2.trans (fe.adopt' (not_live nfl2) gfl5 hfl6)) upd_same (a.imp fun v x h => VW.mono e9 h)
      refine ⟨wl, e0, us, rfl, rfl, .of hwl6, .of upd_same, _, rfl, ?_⟩
      by_cases h0 : st = []
      · subst h0
        have hu0 : us = [] := List.length_eq_zero_iff.mp (by rw [hus.1]; rfl)
        subst hu0
        refine ⟨_, rfl, hout ?_ hws⟩
        rw [← hsum, pend_nil, List.append_nil, List.take_of_length_le hf60]
      · have hne : us.isEmpty = false := by
          cases us with
          | nil => exact absurd (List.length_eq_zero_iff.mp (by rw [← hus.1]; rfl)) h0
          | cons _ _ => rfl
        rw [hne]
        refine ⟨_, rfl, _, _, rfl, .inl (.of hfl6), _, rfl, _, _, rfl, rfl, decide (fd.length < 60), by show V.bl (decide (((ws.length : Nat) : Int) < 60)) = V.bl (decide (fd.length < 60)); rw [hws.1]; congr 1; exact decide_eq_decide.mpr ⟨by omega, by omega⟩, ?_⟩
        by_cases h60 : fd.length < 60
        · rw [decide_eq_true h60]
          refine ⟨fun σ' H' => ∃ us st' ws fd x4 x5 x6 x7 G', stw Pl st' < stw Pl st ∧ σ' = [some v, some (.int 60), some (.ref wl), some (.ref fl), x4, x5, x6, x7] ∧ Fr Tb X0 G2 H2 G' H' ∧ G' wl = none ∧ G' fl = none ∧ H' wl = some (.lst us) ∧ H' fl = some (.lst ws) ∧ All2 (VWs G') us st' ∧ All2 (VW G') ws fd ∧ (∀ x ∈ st', Good Pl x.2 ∧ x.1.length + Mu Pl x.2 ≤ 9) ∧ fd ++ pend Pl st' = full Pl (begin Pl) ∧ fd.length ≤ 60,
            fun σ' H' ⟨us, st', ws, fd, x4, x5, x6, x7, G', h0, h1, h2, h3, h4, h5, h6, h7, h8, h9, h10, h11⟩ => ⟨stw Pl st', h0, us, st', ws, fd, x4, x5, x6, x7, G', h1, rfl, h2, h3, h4, h5, h6, h7, h8, h9, h10, h11, by omega⟩, ?_⟩
          obtain ⟨⟨ww, p⟩, hsx, hlx⟩ := stack_last h0
          obtain ⟨y, hy, ta, wb, sb, rfl, hta, hwb, hsb⟩ := hus.get hlx
          rw [← hus.1] at hy
          have hgx := hst (ww, p) (mem_of_get hlx)
          obtain ⟨good, hwm⟩ := hgx
          have good : Good Pl p := good
          have hwm : ww.length + Mu Pl p ≤ 9 := hwm
          refine ⟨_, rfl, .inl ⟨rfl, _, .of hwl6⟩, wl, us, .ref ta, rfl, rfl, hwl6, hy, ?_⟩
          have nlwl : ¬ Live H2 wl := not_live nwl
          have nlfl : ¬ Live H2 fl := not_live nfl2
          have f7 := fe.mut' (o := .lst us.dropLast) nlwl gwl5 hwl6 lst_nt lst_nc lst_nt
          have hwl7 : upd (upd H5 e0 (.lst [])) wl (.lst us.dropLast) wl = some (.lst us.dropLast) := upd_same
          have hfl7 : upd (upd H5 e0 (.lst [])) wl (.lst us.dropLast) fl = some (.lst ws) := by rw [upd_ne (Ne.symm nwf)]; exact hfl6
          have hus7 := hus.dropLast
          clear hout
          generalize upd (upd H5 e0 (.lst [])) wl (.lst us.dropLast) = H7 at f7 hwl7 hfl7 ⊢
          refine ⟨ta, _, rfl, .of (f7.s _ _ hta), rfl, _, _, rfl, _, _, rfl, rfl, ?_⟩
          have vG5 : VPl G5 v Pl := VPl.mono (f2.g.trans fr.g) hv
          refine ⟨_, rfl, _, rfl, G5, v, .ref sb, Pl, p, rfl, vG5, ⟨sb, rfl, hsb⟩, good, ok, f7.s, fun v2 G8 H8 f8 ⟨ca, ec, hca⟩ => ?_⟩
          subst ec
          have fr8 := f7.trans f8
          have hwl8 := f8.at (fun h => h) hwl7
          have hfl8 := f8.at (fun h => h) hfl7
          have gwl8 := f8.keep hwl7 gwl5
          have gfl8 := f8.keep hfl7 gfl5
          have hus8 := hus7.imp fun v x h => VWs.mono f8.g h
          have hws8 := hws.imp fun v x h => VW.mono f8.g h
          have hwb8 := f8.g _ _ hwb
          have hsb8 := SpotAt.mono f8.g hsb
          have vG8 := VPl.mono f8.g vG5
          refine ⟨_, rfl, Nat.zero_le _, fun e1' ne1 => ?_⟩
          have fr9 := fr8.trans (Fr.alloc' (o := .lst []) fr8.s ne1)
          have hwl9 : upd H8 e1' (.lst []) wl = some (.lst us.dropLast) := upd_keep ne1 _ _ hwl8
          have hfl9 : upd H8 e1' (.lst []) fl = some (.lst ws) := upd_keep ne1 _ _ hfl8
          have hca9 : upd H8 e1' (.lst []) ca = some (.lst ((can Pl p).map nV)) := upd_keep ne1 _ _ (f8.s _ _ hca)
          have hcn : upd H8 e1' (.lst []) e1' = some (.lst []) := upd_same
          generalize upd H8 e1' (.lst []) = H9 at fr9 hwl9 hfl9 hca9 hcn ⊢
          have hpend : pend Pl st = (full Pl p).map (ww ++ ·) ++ pend Pl st.dropLast := by
            rw [hsx, pend_snoc]
            simp
          have hstw : stw Pl st = stw Pl st.dropLast + T4 (Mu Pl p) := by
            rw [hsx, stw_snoc]
            simp
          have hpl := stw_pushed ok good ww
          have hstl : st.dropLast.length ≤ stw Pl st.dropLast := stw_len Pl _
          by_cases hc : can Pl p = []
          case' pos =>
            refine ⟨ca, e1', _, rfl, rfl, .of hca9, .of hcn, true, by rw [hc]; rfl, iteT ?_⟩
            refine ⟨_, rfl, .inl ⟨rfl, _, .of hfl9⟩, _, rfl, fl, ws, .ref wb, rfl, rfl, hfl9, Nat.lt_of_le_of_lt (m := 60) (by rw [hws.1]; omega) (by decide), ?_⟩
            have fr10 := fr9.mut' (o := .lst (ws ++ [.ref wb])) nlfl gfl8 hfl9 lst_nt lst_nc lst_nt
            have hfl10 : upd H9 fl (.lst (ws ++ [.ref wb])) fl = some (.lst (ws ++ [.ref wb])) := upd_same
            have hwl10 : upd H9 fl (.lst (ws ++ [.ref wb])) wl = some (.lst us.dropLast) := by rw [upd_ne nwf]; exact hwl9
            have hws10 : All2 (VW G8) (ws ++ [.ref wb]) (fd ++ [ww]) := hws8.snoc ⟨wb, rfl, hwb8⟩
            have hl10 : (fd ++ [ww]).length ≤ 60 := by simp; omega
            have hsum10 : (fd ++ [ww]) ++ (pend Pl (pushed Pl ww p) ++ pend Pl st.dropLast) = full Pl (begin Pl) := by
              rw [← hsum, hpend, full_eq ok good, if_pos hc]
              unfold pushed
              rw [hc]
              simp [pend]
            generalize upd H9 fl (.lst (ws ++ [.ref wb])) = H10 at fr10 hfl10 hwl10 ⊢
            generalize ws ++ [.ref wb] = ws10 at hfl10 hws10
            generalize fd ++ [ww] = fd10 at hws10 hl10 hsum10
          case' neg =>
            refine ⟨ca, e1', _, rfl, rfl, .of hca9, .of hcn, false, by cases q0 : can Pl p with | nil => exact absurd q0 hc | cons _ _ => rfl, iteF ?_⟩
            have fr10 := fr9
            have hfl10 := hfl9
            have hwl10 := hwl9
            have hws10 := hws8
            have hl10 := hf60
            have hsum10 : fd ++ (pend Pl (pushed Pl ww p) ++ pend Pl st.dropLast) = full Pl (begin Pl) := by
              rw [← hsum, hpend, pend_pushed ok good hc]
            generalize H9 = H10 at fr10 hfl10 hwl10 ⊢
            generalize hwse : ws = ws10 at hfl10 hws10
            generalize hfde : fd = fd10 at hws10 hl10 hsum10
          all_goals
            have c4 := can_le4 ok good
            have hca10 : H10 ca = some (.lst ((can Pl p).map nV)) := fr10.s _ _ hca
            refine ⟨_, rfl, .inl ⟨rfl, _, .of hwl10⟩, _, rfl, ca, _, rfl, .of hca10, fun rl nrl => ?_⟩
            have fr11 := fr10.trans (Fr.alloc (o := .lst ((can Pl p).map nV).reverse) fr10.s nrl)
            have nwr : wl ≠ rl := ne_of_none hwl10 nrl
            have nfr : fl ≠ rl := ne_of_none hfl10 nrl
            have hwl11 : upd H10 rl (.lst ((can Pl p).map nV).reverse) wl = some (.lst us.dropLast) := upd_keep nrl _ _ hwl10
            have hfl11 : upd H10 rl (.lst ((can Pl p).map nV).reverse) fl = some (.lst ws10) := upd_keep nrl _ _ hfl10
            have hrl : upd G8 rl (.lst ((can Pl p).map nV).reverse) rl = some (.lst ((can Pl p).map nV).reverse) := upd_same
            have gwl11 : upd G8 rl (.lst ((can Pl p).map nV).reverse) wl = none := by rw [upd_ne nwr]; exact gwl8
            have gfl11 : upd G8 rl (.lst ((can Pl p).map nV).reverse) fl = none := by rw [upd_ne nfr]; exact gfl8
            have e811 := same_upd (b := rl) (o := .lst ((can Pl p).map nV).reverse) fr10.s nrl
            generalize upd G8 rl (.lst ((can Pl p).map nV).reverse) = G11 at fr11 hrl gwl11 gfl11 e811
            generalize upd H10 rl (.lst ((can Pl p).map nV).reverse) = H11 at fr11 hwl11 hfl11 ⊢
            refine ⟨rl, rfl, ⟨_, .of (fr11.s _ _ hrl)⟩, fun D hD => ?_⟩
            refine lc_frY (T := Tb) (X := X0) (walk_list (a := rl) (xs := ((can Pl p).map nV).reverse)) G11 (IAll VWs (pushed Pl ww p)) fr11.s hD (fun h => h) (by rw [List.length_reverse, List.length_map]; exact Nat.le_trans c4 (by decide)) (fun H2 e => .of (e _ _ hrl)) IAll.nil (IAll.mono mWs) IAll.len (fun j yy G12 H12 H13 acc N hj hI fr12 hDD gD y' k' => ?_) (fun G12 H12 acc hI fr12 sg hDD => ?_)
            · obtain ⟨eH, hyy⟩ := y'
              subst H13
              rw [List.length_reverse, List.length_map] at hj
              obtain ⟨h, hh⟩ := get_of_lt (l := (can Pl p).reverse) (i := j) (by rw [List.length_reverse]; exact hj)
              have e2 : some (nV h) = some yy := by
                rw [← hyy, ← List.map_reverse, List.getElem?_map, hh]
                rfl
              cases e2
              have hin : h ∈ can Pl p := List.mem_reverse.mp (mem_of_get hh)
              have cg := (mem_can.mp hin).2
              have e812 : Same G8 G12 := e811.trans fr12.g
              have hwb12 : H12 wb = some (.lst (ww.map nV)) := fr12.s _ _ (e812 _ _ hwb8)
              refine ⟨rfl, _, rfl, _, rfl, len1, fun q nq => ?_⟩
              have fr13 : Fr Tb X0 G12 H12 G12 (upd H12 q (.lst [nV h])) := Fr.alloc' (o := .lst [nV h]) fr12.s nq
              refine ⟨wb, q, ww.map nV, [nV h], rfl, rfl, upd_keep nq _ _ hwb12, upd_same, Nat.le_trans (m := 20) (by simp; omega) (by decide), fun nl nnl => ?_⟩
              have fr14 := fr13.trans (Fr.alloc (o := .lst (ww.map nV ++ [nV h])) fr13.s nnl)
              have hnl : upd G12 nl (.lst (ww.map nV ++ [nV h])) nl = some (.lst ((ww ++ [h]).map nV)) := by rw [upd_same, List.map_append]; rfl
              have e1214 := same_upd (b := nl) (o := .lst (ww.map nV ++ [nV h])) fr13.s nnl
              generalize upd G12 nl (.lst (ww.map nV ++ [nV h])) = G14 at fr14 hnl e1214
              generalize upd (upd H12 q (.lst [nV h])) nl (.lst (ww.map nV ++ [nV h])) = H14 at fr14 ⊢
              refine ⟨_, rfl, _, rfl, _, rfl, G14, v, .ref sb, Pl, p, h, rfl, VPl.mono (e812.trans e1214) vG8, ⟨sb, rfl, SpotAt.mono (e812.trans e1214) hsb8⟩, good, ok, cg, fr14.s, fun v3 G15 H15 f15 ⟨q2, eq, hq2⟩ => ⟨len2, fun t nt => ?_⟩⟩
              subst eq
              have f16 := (fr14.trans f15).trans (Fr.alloc (o := .tup [.ref nl, .ref q2]) f15.s nt)
              have e16 := same_upd (b := t) (o := .tup [.ref nl, .ref q2]) f15.s nt
              refine k' _ _ _ f16 (hI.step mWs f16.g (x := (ww ++ [h], step Pl p h)) (by unfold pushed; rw [List.getElem?_map, hh]; rfl) ⟨t, nl, q2, rfl, upd_same, e16 _ _ (f15.g _ _ hnl), SpotAt.mono e16 hq2⟩)
            · have hwl12 := fr12.at (fun h => h) hwl11
              have hfl12 := fr12.at (fun h => h) hfl11
              have gwl12 := fr12.keep hwl11 gwl11
              have gfl12 := fr12.keep hfl11 gfl11
              have hall : All2 (VWs (upd G12 D (.lst acc))) acc (pushed Pl ww p) := (hI.all (by unfold pushed; simp)).imp fun v x h => VWs.mono sg h
              have e8D := e811.trans fr12.g
              have hal : acc.length ≤ 4 := by rw [hall.1]; unfold pushed; simp; exact c4
              have hul : us.dropLast.length = st.dropLast.length := hus8.1
              refine ⟨wl, D, us.dropLast, acc, rfl, rfl, hwl12, hDD, Nat.le_trans (m := 5000000) (by omega) (by decide), ?_⟩
              refine ⟨us.dropLast ++ acc, st.dropLast ++ pushed Pl ww p, ws10, fd10, _, _, _, _, upd G12 D (.lst acc), by rw [stw_app]; omega, rfl, (fr11.trans fr12).mut' nlwl gwl12 hwl12 lst_nt lst_nc lst_nt, gwl12, gfl12, upd_same, by rw [upd_ne (Ne.symm nwf)]; exact hfl12, (hus8.imp fun v x h => VWs.mono e8D h).append hall, hws10.imp fun v x h => VW.mono e8D h, fun x hx => ?_, by rw [pend_app]; exact hsum10, hl10⟩
              rcases List.mem_append.mp hx with hx | hx
              · exact hst x (List.dropLast_subset st hx)
              · unfold pushed at hx
                obtain ⟨h, hh, rfl⟩ := List.mem_map.mp hx
                have hin : h ∈ can Pl p := List.mem_reverse.mp hh
                have cg := (mem_can.mp hin).2
                have := step_wt ok good cg
                exact ⟨good_step ok good cg, by simp; omega⟩
        · rw [decide_eq_false h60]
          refine ⟨_, rfl, hout ?_ hws⟩
          rw [← hsum, take_app (by omega), List.take_of_length_le hf60]
end
end K57
set_option Elab.async false
set_option linter.all false
set_option autoImplicit false
set_option maxRecDepth 100000
set_option maxHeartbeats 4000000
/-! K58J: the pot, a draw, a pick. -/
namespace K57
open PySem PySem.Spec PyProof.Rows L2 LamX
theorem Pot.mono {p : Addr} {H H' : Hp} (h : Pot p H) (e : Same H H') : Pot p H' := let ⟨a, b, h1, h2⟩ := h.ex; ⟨a, b, e _ _ h1, h2⟩
theorem Pot.ne {p q : Addr} {H : Hp} (h : Pot p H) (n : H q = none) : p ≠ q := fun z => by
  obtain ⟨a, b, h1, _⟩ := h.ex
  rw [z, n] at h1
  cases h1
theorem Pot.upd {p q : Addr} {H : Hp} {o : HO} (h : Pot p H) (n : p ≠ q) : Pot p (upd H q o) := let ⟨a, b, h1, h2⟩ := h.ex; ⟨a, b, by rw [upd_ne n]; exact h1, h2⟩
theorem Pot.fr {Tb : List (Addr × Str)} {p : Addr} {G H G' H' : Hp} (h : Pot p H) (f : Fr Tb X0 G H G' H') : Pot p H' := let ⟨a, b, h1, h2⟩ := h.ex; ⟨a, b, f.at (fun h => h) h1, h2⟩
theorem lc_pot {T : List (Addr × Str)} {p : Addr} {J : It} {n : Nat} {Gd : Hp → Prop} {Y : Nat → Hp → V → Hp → Prop} (w : Walk J n Gd Y) {g : TG} {tt : TT} {te : TE} {vs : List Nat} {σ : L2.St} {H1 : Hp} {D : Addr} {Qd : Hp → Prop} (G0 : Hp) (I : Nat → Hp → List V → Prop)
    (h0 : Same G0 H1) (gp : G0 p = none) (pot : Pot p H1) (nD : H1 D = none) (hl : n ≤ sizeLine) (gd : ∀ H, Same G0 H → Gd H) (I0 : I 0 G0 []) (mono : ∀ i G G' acc, Same G G' → I i G acc → I i G' acc) (len : ∀ i G acc, I i G acc → acc.length ≤ i)
    (hs : ∀ i x G H H' acc (N : V → Hp → Prop) (M : Hp → Prop), i < n → I i G acc → Fr T (fun b => b = p) G0 H1 G H → G p = none → Pot p H → H D = some (.lst acc) → G D = none → Y i H x H' → (∀ y G' H'', Fr T (fun b => b = p) G H G' H'' → Pot p H'' → I (i + 1) G' (acc ++ [y]) → N y H'') → (∀ G' H'', Fr T (fun b => b = p) G H G' H'' → Pot p H'' → I (i + 1) G' acc → M H'') →
      g x (wipe σ vs) H' fun σ2 H2 => wipe σ2 vs = wipe σ vs ∧ tt σ2 H2 fun b H3 => if b = true then te σ2 H3 N else M H3)
    (hd : ∀ G H acc, I n (upd G D (.lst acc)) acc → Fr T (fun b => b = p) G0 H1 (upd G D (.lst acc)) H → upd G D (.lst acc) D = some (.lst acc) → upd G D (.lst acc) p = none → Pot p H → H D = some (.lst acc) → Qd H) :
    ∃ W : Nat → Nat → Hp → Prop, (∃ m, W 0 m (upd H1 D (.lst []))) ∧ ∀ i m H, W i m H →
      (J.stop i H ∧ Qd H) ∨ (J.go i H ∧ ∃ Nx : Hp → Prop, (∀ H', Nx H' → ∃ m', m' < m ∧ W (i + 1) m' H') ∧ ∀ x H', J.yld i H x H' → g x (wipe σ vs) H' fun σ2 H2 => wipe σ2 vs = wipe σ vs ∧ tt σ2 H2 fun b H3 =>
        if b = true then te σ2 H3 fun y H4 => ∃ acc, H4 D = some (.lst acc) ∧ acc.length < sizeLine ∧ Nx (upd H4 D (.lst (acc ++ [y]))) else Nx H3) := by
  have pD : p ≠ D := pot.ne nD
  have nX : ¬ (fun b => b = p) D := fun z => pD z.symm
  refine lc_it w (fun i H => ∃ G acc, H D = some (.lst acc) ∧ G D = none ∧ G p = none ∧ Pot p H ∧ Fr T (fun b => b = p) G0 H1 G H ∧ I i G acc) ⟨G0, [], upd_same, none_of_same h0 nD, gp, pot.upd pD, Fr.alloc' h0 nD, I0⟩
    (fun i H _ ⟨G, acc, _, _, _, _, fr, _⟩ => gd H (fr.g.trans fr.s)) (fun i x H H' hi ⟨G, acc, hD, gD, gp, hp, fr, hI⟩ y => ?_) (fun H ⟨G, acc, hD, gD, gp, hp, fr, hI⟩ => ?_)
  · have gp' : ∀ G' H'', Fr T (fun b => b = p) G H G' H'' → G' p = none := fun G' H'' f => by
      obtain ⟨a, b, h1, _⟩ := hp.ex
      exact f.keep h1 gp
    refine hs i x G H H' acc _ _ hi hI fr gp hp hD gD y (fun z G' H'' fr' hp' hI' => ?_) (fun G' H'' fr' hp' hI' => ⟨G', acc, fr'.at nX hD, fr'.keep hD gD, gp' _ _ fr', hp', fr.trans fr', hI'⟩)
    have hD' := fr'.at nX hD
    have gD' := fr'.keep hD gD
    exact ⟨acc, hD', by have := len i G acc hI; omega, G', acc ++ [z], upd_same, gD', gp' _ _ fr', hp'.upd pD, (fr.trans fr').mut nD gD' hD' (fun q z => by cases z), hI'⟩
  · exact hd G H acc (mono _ _ _ _ (same_upd (.refl G) gD) hI) (fr.adopt nD gD hD) upd_same (by rw [upd_ne pD]; exact gp) hp hD
/-- the keeping of p -/
theorem Fr.gp {Tb : List (Addr × Str)} {X : Addr → Prop} {p : Addr} {G H G' H' : Hp} (f : Fr Tb X G H G' H') (gp : G p = none) (pot : Pot p H) : G' p = none := by
  obtain ⟨a, b, h1, _⟩ := pot.ex
  exact f.keep h1 gp
section
variable {P : Program} {w : World} {K : PySem.W.Frag} {mg : Str → Option Value} {base : Heap} {C : Cs} {Tb : List (Addr × Str)}
def spPot (K : PySem.W.Frag) (Tb : List (Addr × Str)) : Sp := fun vs H Q _ => ∃ (G : Hp) (l : Addr) (ns : List Int) (k : Nat), vs = [.ref l, nV k] ∧ SqL K G l (ns.map V.int) ∧ ns.length ≤ 100 ∧ (∀ x ∈ ns, x.natAbs < 2 ^ 1048577) ∧ k ≤ 2 ∧ Same G H ∧ ∀ (p : Addr) H', Fr Tb X0 G H G H' → G p = none → Pot p H' → ¬ Live H p → Q (.ref p) H'
theorem pot_b {x : Int} {k : Nat} (hk : k ≤ 2) (h0 : 0 ≤ x) : CMulW (x % 2147483529 + 23) ((2 * (k : Int) + 5) ^ 3) := by
  have h1 : (x % 2147483529 + 23).natAbs < 2 ^ 32 := by
    have a := Int.emod_nonneg x (b := 2147483529) (by decide)
    have b := Int.emod_lt_of_pos x (b := 2147483529) (by decide)
    have : (2 : Nat) ^ 32 = 4294967296 := by decide
    omega
  have h2 : ((2 * (k : Int) + 5) ^ 3).natAbs < 2 ^ 32 := by
    have : k = 0 ∨ k = 1 ∨ k = 2 := by omega
    rcases this with rfl | rfl | rfl <;> decide
  exact wide_mul h1 h2 (by decide) (by decide) (by decide)
theorem sc85 : FnScope ["_law_script_here", "_law_k", "_law_cell", "_law_first"] ["_law_script_here", "_law_k"] (C8.fnScope (top 85)) := C8.fnScope_by (by decide +kernel)
theorem ok_pot (T : Txt K mg C) {f : Addr} {fd : FuncData} (F : C8.Def K mg "_law_pot" (top 85) f fd) (b : Binds K fd ["_law_script_here", "_law_k"] []) :
    Cl P w K mg base 1 "_law_pot" (spPot K Tb) [] := by
  refine C8.cal0 F b .nil sc85 (fun vs H Q E h => ?_) (fun cdv A outer s H vs Q E hr h => ?_)
  · obtain ⟨G, l, ns, k, rfl, _⟩ := h
    rfl
  · obtain ⟨G, l, ns, k, rfl, hl, hlen, hb, hk, hs, kk⟩ := h
    refine ⟨_, ((pss_cons (ps_set (i := 2) sc85.nd rfl (Or.inl rfl) (pe_op op_add (pe_op op_mulW pe_int (pv 1)) pe_int))
      (pss_cons (ps_if (pt_cmpR op_lt (pv 1) (pe_callB call_len_seq (by rfl) T.b_len (by decide +kernel) (pa_cons (pv 0) pa_nil)) (nomark _)) (pss_one (ps_set (i := 2) sc85.nd rfl (Or.inl rfl) (pe_callB call_abs (by rfl) T.b_abs (by decide +kernel) (pa_cons (pe_ix ix_list (pv 0) (pv 1) (fun _ _ => rfl)) pa_nil)))) pss_nil)
      (pss_cons (ps_set (i := 3) sc85.nd rfl (Or.inl rfl) (pe_op op_add (pe_op op_mod (pe_callTy call_int1 (by rfl) T.b_int (by decide +kernel) (pa_cons (pv 2) pa_nil)) pe_int) pe_int))
      (pss_one (ps_ret (pe_lst (pa_cons (pe_callB (call_max2 rfl) (by rfl) T.b_max (by decide +kernel) (pa_cons pe_int (pa_cons (pe_op op_sub (pv 2) (pe_op op_pow pe_int pe_int)) pa_nil))) (pa_cons (pe_op op_add (pe_op op_mod (pe_callTy call_int1 (by rfl) T.b_int (by decide +kernel) (pa_cons (pe_op op_mulW (pv 3) (pe_op op_pow (pe_op op_add (pe_op op_mulW pe_int (pv 1)) pe_int) pe_int)) pa_nil)) pe_int) pe_int) pa_nil))))))))), ?_⟩
    have hlH := hs.seq hl
    have key : ∀ c : Int, 0 ≤ c → c.natAbs < 2 ^ 1048577 → ∀ a' (hq : ∀ q, H q = none → Q (.ref q) (upd H q (.lst [.int a', .int (((c % 2147483529 + 23) * (2 * (k : Int) + 5) ^ 3) % 2147483497 + 1)]))), True := fun _ _ _ _ _ => trivial
    have fin : ∀ c : Int, 0 ≤ c → c.natAbs < 2 ^ 1048577 → ∀ m : Int, m = (if c - 10 ^ 18 > 0 then c - 10 ^ 18 else 0) → ∀ q, H q = none → Q (.ref q) (upd H q (.lst [.int m, .int (((c % 2147483529 + 23) * (2 * (k : Int) + 5) ^ 3) % 2147483497 + 1)])) := by
      intro c h0 hc m hm q nq
      refine kk q _ (Fr.alloc' hs nq) (none_of_same hs nq) ⟨_, _, upd_same, ?_⟩ (not_live nq)
      have a := Int.emod_nonneg ((c % 2147483529 + 23) * (2 * (k : Int) + 5) ^ 3) (b := 2147483497) (by decide)
      have b := Int.emod_lt_of_pos ((c % 2147483529 + 23) * (2 * (k : Int) + 5) ^ 3) (b := 2147483497) (by decide)
      have e18 : (0 : Int) < 10 ^ 18 := by decide
      refine ⟨?_, ?_, by omega, by omega⟩
      · rw [hm]; split <;> omega
      · refine Nat.lt_of_le_of_lt ?_ hc
        rw [hm]; split <;> omega
    have m1 : CMulW 59 (k : Int) := by
      have : k = 0 ∨ k = 1 ∨ k = 2 := by omega
      rcases this with rfl | rfl | rfl <;> exact wide_mul (a := 10) (b := 10) (by decide) (by decide) (by decide) (by decide) (by decide)
    have m2 : CMulW 2 (k : Int) := by
      have : k = 0 ∨ k = 1 ∨ k = 2 := by omega
      rcases this with rfl | rfl | rfl <;> exact wide_mul (a := 10) (b := 10) (by decide) (by decide) (by decide) (by decide) (by decide)
    have p1 : CPow 10 18 := ⟨by decide, by decide, by decide⟩
    have p2 : CPow (2 * (k : Int) + 5) 3 := ⟨by decide, by decide, by
      have : (2 : Nat) ^ 64 = 18446744073709551616 := by decide
      omega⟩
    refine ⟨_, rfl, _, _, rfl, rfl, m1, _, _, rfl, rfl, ?_⟩
    refine ⟨_, rfl, _, rfl, l, _, rfl, .inl hlH, _, _, rfl, rfl, ?_⟩
    by_cases hlt : k < ns.length
    · refine ⟨true, congrArg V.bl (decide_eq_true (by rw [List.length_map]; omega)), iteT ?_⟩
      obtain ⟨x, hx⟩ := get_of_lt hlt
      have hxb := hb x (mem_of_get hx)
      refine ⟨_, rfl, _, rfl, _, _, _, _, rfl, rfl, hlH, atI_nat (j := k) (by rw [List.getElem?_map, hx]; rfl), _, rfl, ?_⟩
      have c0 : 0 ≤ (if x < 0 then -x else x) := by split <;> omega
      have cb : (if x < 0 then -x else x).natAbs < 2 ^ 1048577 := by
        have : (if x < 0 then -x else x).natAbs = x.natAbs := by split <;> omega
        rw [this]; exact hxb
      generalize (if x < 0 then -x else x) = c at c0 cb ⊢
      refine ⟨_, rfl, .inl ⟨_, rfl, _, _, rfl, rfl, (by decide : (0 : Int) < 2147483529), _, _, rfl, rfl, ?_⟩⟩
      refine ⟨_, rfl, _, _, rfl, rfl, p1, _, _, rfl, rfl, _, _, rfl, ?_⟩
      refine ⟨_, rfl, _, rfl, _, _, rfl, rfl, m2, _, _, rfl, rfl, _, _, rfl, rfl, p2, _, _, rfl, rfl, pot_b hk c0, .inl ⟨_, rfl, _, _, rfl, rfl, (by decide : (0 : Int) < 2147483497), _, _, rfl, rfl, len2, ?_⟩⟩
      exact fin c c0 cb _ rfl
    · refine ⟨false, congrArg V.bl (decide_eq_false (by rw [List.length_map]; omega)), iteF ?_⟩
      have c0 : 0 ≤ 59 * (k : Int) + 17 := by omega
      have cb : (59 * (k : Int) + 17).natAbs < 2 ^ 1048577 := by
        refine Nat.lt_of_lt_of_le (m := 2 ^ 10) ?_ (Nat.pow_le_pow_right (by decide) (by decide))
        have : (2 : Nat) ^ 10 = 1024 := by decide
        omega
      refine ⟨_, rfl, .inl ⟨_, rfl, _, _, rfl, rfl, (by decide : (0 : Int) < 2147483529), _, _, rfl, rfl, ?_⟩⟩
      refine ⟨_, rfl, _, _, rfl, rfl, p1, _, _, rfl, rfl, _, _, rfl, ?_⟩
      refine ⟨_, rfl, _, rfl, _, _, rfl, rfl, m2, _, _, rfl, rfl, _, _, rfl, rfl, p2, _, _, rfl, rfl, pot_b hk c0, .inl ⟨_, rfl, _, _, rfl, rfl, (by decide : (0 : Int) < 2147483497), _, _, rfl, rfl, len2, ?_⟩⟩
      exact fin _ c0 cb _ rfl
def spDraw (Tb : List (Addr × Str)) : Sp := fun vs H Q _ => ∃ (G : Hp) (p : Addr) (n : Nat), vs = [.ref p, nV n] ∧ 0 < n ∧ n < 1073741824 ∧ Same G H ∧ G p = none ∧ Pot p H ∧ ∀ (d : Nat) H', d < n → Fr Tb (fun b => b = p) G H G H' → Pot p H' → Q (nV d) H'
theorem sc86 : FnScope ["_law_pot_here", "_law_size", "_law_digit"] ["_law_pot_here", "_law_size"] (C8.fnScope (top 86)) := C8.fnScope_by (by decide +kernel)
theorem ok_draw (T : Txt K mg C) {f : Addr} {fd : FuncData} (F : C8.Def K mg "_law_draw" (top 86) f fd) (b : Binds K fd ["_law_pot_here", "_law_size"] []) :
    Cl P w K mg base 1 "_law_draw" (spDraw Tb) [] := by
  refine C8.cal0 F b .nil sc86 (fun vs H Q E h => ?_) (fun cdv A outer s H vs Q E hr h => ?_)
  · obtain ⟨G, p, n, rfl, _⟩ := h
    rfl
  · obtain ⟨G, p, n, rfl, h0, hn, hs, gp, pot, kk⟩ := h
    refine ⟨_, ((pss_cons (ps_if (pt_cmpR op_gt (pe_ix ix_list (pv 0) pe_int (fun _ _ => rfl)) pe_int (nomark _)) (pss_cons (ps_asg (pe_callB call_divmodW (by rfl) T.b_divmod (by decide +kernel) (pa_cons (pe_ix ix_list (pv 0) pe_int (fun _ _ => rfl)) (pa_cons (pv 1) pa_nil))) (pg_tup rfl (pgs_cons (pg_sub (pv 0) pe_int set_list) (pgs_cons (pg_name (i := 2) sc86.nd rfl (Or.inl rfl)) pgs_nil))))
      (pss_one (ps_ret (pv 2)))) pss_nil)
      (pss_cons (ps_asg (pe_op op_mod (pe_callTy call_int1 (by rfl) T.b_int (by decide +kernel) (pa_cons (pe_op op_add (pe_op op_mulW (pe_ix ix_list (pv 0) pe_int (fun _ _ => rfl)) pe_int) pe_int) pa_nil)) pe_int) (pg_sub (pv 0) pe_int set_list))
      (pss_one (ps_ret (pe_op op_mod (pe_callTy call_int1 (by rfl) T.b_int (by decide +kernel) (pa_cons (pe_op op_fdiv (pe_op op_mod (pe_callTy call_int1 (by rfl) T.b_int (by decide +kernel) (pa_cons (pe_op op_mulW (pe_ix ix_list (pv 0) pe_int (fun _ _ => rfl)) (pe_ix ix_list (pv 0) pe_int (fun _ _ => rfl))) pa_nil)) pe_int) pe_int) pa_nil)) (pv 1))))))), ?_⟩
    obtain ⟨a, c, hpp, a0, ab, c0, cb⟩ := pot.ex
    have hpz : ∀ d : Nat, (((d : Nat) : Int) % (n : Nat) : Int) = ((d % n : Nat) : Int) := fun d => rfl
    have hnn : CDivP a (n : Int) := ⟨by omega, PyProof.noPylong_small (by omega)⟩
    refine ⟨_, rfl, _, _, _, _, rfl, rfl, .of hpp, atI_nat (j := 0) rfl, _, _, rfl, rfl, ?_⟩
    by_cases ha : 0 < a
    · refine ⟨true, congrArg V.bl (decide_eq_true ha), iteT ?_⟩
      refine ⟨_, rfl, _, _, _, _, rfl, rfl, .of hpp, atI_nat (j := 0) rfl, _, rfl, _, _, rfl, hnn, fun t nt => ?_⟩
      have hpt : p ≠ t := pot.ne nt
      refine ⟨t, _, rfl, .of upd_same, rfl, _, _, rfl, _, rfl, p, _, _, 0, rfl, rfl, by rw [upd_ne hpt]; exact hpp, rfl, ?_⟩
      have f1 : Fr Tb (fun b => b = p) G H G (upd H t (.tup [.int (a / n), .int (a % n)])) := Fr.alloc' hs nt
      have hm0 := Int.emod_nonneg a (b := (n : Int)) (by omega)
      have hm1 := Int.emod_lt_of_pos a (b := (n : Int)) (by omega)
      have hq0 : 0 ≤ a / (n : Int) := Int.ediv_nonneg a0 (by omega)
      have hq1 : a / (n : Int) ≤ a := Int.ediv_le_self _ a0
      obtain ⟨d, hd⟩ : ∃ d : Nat, a % (n : Int) = ((d : Nat) : Int) := ⟨(a % (n : Int)).toNat, by omega⟩
      rw [hd] at f1 ⊢
      refine ⟨_, _, rfl, rfl, _, rfl, kk d _ (by omega) (f1.trans (Fr.mutX (X := fun b => b = p) (o := .lst [.int (a / n), .int c]) f1.s rfl gp (by rw [upd_ne hpt]; exact hpp) lst_nc lst_nt)) ⟨_, _, upd_same, hq0, ?_, c0, cb⟩⟩
      exact Nat.lt_of_le_of_lt (by omega) ab
    · refine ⟨false, congrArg V.bl (decide_eq_false ha), iteF ?_⟩
      have mw : ∀ {x y : Int}, 0 ≤ x → x < 2147483648 → 0 ≤ y → y < 2147483648 → CMulW x y := fun {x y} h1 h2 h3 h4 => by
        have e : (2 : Nat) ^ 31 = 2147483648 := by decide
        exact wide_mul (a := 31) (b := 31) (by omega) (by omega) (by decide) (by decide) (by decide)
      refine ⟨_, rfl, _, _, _, _, rfl, rfl, .of hpp, atI_nat (j := 1) rfl, _, _, rfl, rfl, mw c0 cb (by decide) (by decide), _, _, rfl, rfl, .inl ⟨_, rfl, _, _, rfl, rfl, (by decide : (0 : Int) < 2147483587), ?_⟩⟩
      have hm0 := Int.emod_nonneg (c * 48271 + 9973) (b := 2147483587) (by decide)
      have hm1 := Int.emod_lt_of_pos (c * 48271 + 9973) (b := 2147483587) (by decide)
      refine ⟨_, rfl, p, _, _, 1, rfl, rfl, hpp, rfl, ?_⟩
      have hpp' : upd H p (.lst [.int a, .int ((c * 48271 + 9973) % 2147483587)]) p = some (.lst [.int a, .int ((c * 48271 + 9973) % 2147483587)]) := upd_same
      have f1 : Fr Tb (fun b => b = p) G H G (upd H p (.lst [.int a, .int ((c * 48271 + 9973) % 2147483587)])) := Fr.mutX hs rfl gp hpp lst_nc lst_nt
      refine ⟨_, rfl, _, _, _, _, rfl, rfl, .of hpp', atI_nat (j := 1) rfl, _, rfl, _, _, _, _, rfl, rfl, .of hpp', atI_nat (j := 1) rfl, _, _, rfl, rfl, mw hm0 (by omega) hm0 (by omega), .inl ⟨_, rfl, _, _, rfl, rfl, (by decide : (0 : Int) < 2147483549), _, _, rfl, rfl, ⟨by decide, by decide⟩, ?_⟩⟩
      have hq0 := Int.emod_nonneg (((c * 48271 + 9973) % 2147483587) * ((c * 48271 + 9973) % 2147483587)) (b := 2147483549) (by decide)
      generalize (((c * 48271 + 9973) % 2147483587) * ((c * 48271 + 9973) % 2147483587)) % 2147483549 = q0 at hq0 ⊢
      have hq1 : 0 ≤ q0 / 19 := Int.ediv_nonneg hq0 (by decide)
      refine .inl ⟨_, rfl, _, rfl, _, _, rfl, rfl, (by omega : (0 : Int) < (n : Int)), ?_⟩
      have hz0 := Int.emod_nonneg (q0 / 19) (b := (n : Int)) (by omega)
      have hz1 := Int.emod_lt_of_pos (q0 / 19) (b := (n : Int)) (by omega)
      obtain ⟨d, hd⟩ : ∃ d : Nat, q0 / 19 % (n : Int) = ((d : Nat) : Int) := ⟨(q0 / 19 % (n : Int)).toNat, by omega⟩
      show Q (.int (q0 / 19 % (n : Int))) _
      rw [hd]
      exact kk d _ (by omega) f1 ⟨_, _, upd_same, a0, ab, hm0, by omega⟩
def spPick (Tb : List (Addr × Str)) : Sp := fun vs H Q _ => ∃ (G : Hp) (p l : Addr) (xs : List V), vs = [.ref p, .ref l] ∧ G l = some (.lst xs) ∧ 0 < xs.length ∧ xs.length < 1073741824 ∧ Same G H ∧ G p = none ∧ Pot p H ∧ ∀ (d : Nat) v H', xs[d]? = some v → Fr Tb (fun b => b = p) G H G H' → Pot p H' → Q v H'
theorem sc87 : FnScope ["_law_pot_here", "_law_pack"] ["_law_pot_here", "_law_pack"] (C8.fnScope (top 87)) := C8.fnScope_by (by decide +kernel)
theorem ok_pick (T : Txt K mg C) {f : Addr} {fd : FuncData} (F : C8.Def K mg "_law_pick" (top 87) f fd) (b : Binds K fd ["_law_pot_here", "_law_pack"] []) (c__law_draw : Cl P w K mg base 1 "_law_draw" (spDraw Tb) []) :
    Cl P w K mg base 2 "_law_pick" (spPick Tb) [] := by
  refine C8.cal0 F b .nil sc87 (fun vs H Q E h => ?_) (fun cdv A outer s H vs Q E hr h => ?_)
  · obtain ⟨G, p, l, xs, rfl, _⟩ := h
    rfl
  · obtain ⟨G, p, l, xs, rfl, hl, h0, hn, hs, gp, pot, kk⟩ := h
    refine ⟨_, ((pss_one (ps_ret (pe_ix ix_list (pv 1) (C8.pe_c c__law_draw hr (by decide) (by rfl) (pa_cons (pv 0) (pa_cons (pe_callB call_len_seq (by rfl) T.b_len (by decide +kernel) (pa_cons (pv 1) pa_nil)) pa_nil))) (fun _ _ => rfl))))), ?_⟩
    refine ⟨_, rfl, _, rfl, _, rfl, l, xs, rfl, .inl (.of (hs _ _ hl)), ?_⟩
    refine ⟨G, p, _, rfl, h0, hn, hs, gp, pot, fun d H' hd f1 pot' => ?_⟩
    obtain ⟨v, hv⟩ := get_of_lt hd
    exact ⟨_, _, _, _, rfl, rfl, .of (f1.s _ _ hl), atI_nat (j := d) hv, kk d v H' hv f1 pot'⟩
end
end K57
set_option Elab.async false
set_option linter.all false
set_option autoImplicit false
set_option maxRecDepth 100000
set_option maxHeartbeats 4000000
/-! K58K: rows, a model. -/
namespace K57
open PySem PySem.Spec PyProof.Rows L2 LamX
/-- some things, each right at its place -/
def ISome {α : Type} (R : Hp → V → α → Prop) (ok : Nat → α → Prop) : Nat → Hp → List V → Prop := fun i G acc => ∃ xs : List α, xs.length = i ∧ All2 (R G) acc xs ∧ ∀ (j : Nat) (x : α), xs[j]? = some x → ok j x
theorem ISome.nil {α : Type} {R : Hp → V → α → Prop} {ok : Nat → α → Prop} {G : Hp} : ISome R ok 0 G [] := ⟨[], rfl, .nil, fun j x h => by simp at h⟩
theorem ISome.mono {α : Type} {R : Hp → V → α → Prop} {ok : Nat → α → Prop} (m : ∀ G G' v x, Same G G' → R G v x → R G' v x) (i : Nat) (G G' : Hp) (acc : List V) (e : Same G G') (h : ISome R ok i G acc) : ISome R ok i G' acc := let ⟨xs, h1, h2, h3⟩ := h; ⟨xs, h1, h2.imp fun v x z => m _ _ v x e z, h3⟩
theorem ISome.len {α : Type} {R : Hp → V → α → Prop} {ok : Nat → α → Prop} (i : Nat) (G : Hp) (acc : List V) (h : ISome R ok i G acc) : acc.length ≤ i := by
  obtain ⟨xs, h1, h2, _⟩ := h
  rw [h2.1]; omega
theorem ISome.step {α : Type} {R : Hp → V → α → Prop} {ok : Nat → α → Prop} {i : Nat} {G G' : Hp} {acc : List V} {x : α} {v : V} (m : ∀ G G' v x, Same G G' → R G v x → R G' v x) (h : ISome R ok i G acc) (e : Same G G') (hv : R G' v x) (o : ok i x) : ISome R ok (i + 1) G' (acc ++ [v]) := by
  obtain ⟨xs, h1, h2, h3⟩ := ISome.mono m i G G' acc e h
  refine ⟨xs ++ [x], by simp [h1], h2.snoc hv, fun j y hj => ?_⟩
  rcases Nat.lt_or_ge j xs.length with hl | hl
  · rw [List.getElem?_append_left hl] at hj; exact h3 j y hj
  · rw [List.getElem?_append_right hl] at hj
    have : j - xs.length = 0 := by
      rcases Nat.eq_zero_or_pos (j - xs.length) with z | z
      · exact z
      · rw [List.getElem?_eq_none (by simp; omega)] at hj; cases hj
    rw [this] at hj
    cases hj
    rw [show j = i by omega]
    exact o
theorem mRow' (G G' : Hp) (v : V) (x : List (Nat × Nat)) (e : Same G G') (h : VRow G v x) : VRow G' v x := VRow.mono e h
theorem mNat (G G' : Hp) (v : V) (x : Nat) (e : Same G G') (h : v = nV x) : v = nV x := h
theorem min_nat (a b : Nat) : (if ((b : Nat) : Int) < ((a : Nat) : Int) then ((b : Nat) : Int) else ((a : Nat) : Int)) = ((min a b : Nat) : Int) := by
  split <;> omega
def RowOk (count many : Nat) (r : List (Nat × Nat)) : Prop := r.length = many ∧ ∀ e ∈ r, e.1 ≤ 9 ∧ e.2 < count
theorem len5 : 5 ≤ sizeLine := by rw [sizeLine_eq]; decide
theorem ent_of {G : Hp} {t : Addr} {a b : Int} {x y : Nat} (h : G t = some (.tup [.int a, .int b])) (ha : a = (x : Int)) (hb : b = (y : Int)) : VEnt G (.ref t) (x, y) := ⟨t, rfl, by rw [h, ha, hb]; rfl⟩
theorem lc_potY {T : List (Addr × Str)} {p : Addr} {J : It} {n : Nat} {Gd : Hp → Prop} {Y : Nat → Hp → V → Hp → Prop} (w : Walk J n Gd Y) {g : TG} {te : TE} {vs : List Nat} {σ : L2.St} {H1 : Hp} {D : Addr} {Qd : Hp → Prop} (G0 : Hp) (I : Nat → Hp → List V → Prop)
    (h0 : Same G0 H1) (gp : G0 p = none) (pot : Pot p H1) (nD : H1 D = none) (hl : n ≤ sizeLine) (gd : ∀ H, Same G0 H → Gd H) (I0 : I 0 G0 []) (mono : ∀ i G G' acc, Same G G' → I i G acc → I i G' acc) (len : ∀ i G acc, I i G acc → acc.length ≤ i)
    (hs : ∀ i x G H H' acc (N : V → Hp → Prop), i < n → I i G acc → Fr T (fun b => b = p) G0 H1 G H → G p = none → Pot p H → H D = some (.lst acc) → G D = none → Y i H x H' → (∀ y G' H'', Fr T (fun b => b = p) G H G' H'' → Pot p H'' → I (i + 1) G' (acc ++ [y]) → N y H'') →
      g x (wipe σ vs) H' fun σ2 H2 => wipe σ2 vs = wipe σ vs ∧ te σ2 H2 N)
    (hd : ∀ G H acc, I n (upd G D (.lst acc)) acc → Fr T (fun b => b = p) G0 H1 (upd G D (.lst acc)) H → upd G D (.lst acc) D = some (.lst acc) → upd G D (.lst acc) p = none → Pot p H → H D = some (.lst acc) → Qd H) :
    ∃ W : Nat → Nat → Hp → Prop, (∃ m, W 0 m (upd H1 D (.lst []))) ∧ ∀ i m H, W i m H →
      (J.stop i H ∧ Qd H) ∨ (J.go i H ∧ ∃ Nx : Hp → Prop, (∀ H', Nx H' → ∃ m', m' < m ∧ W (i + 1) m' H') ∧ ∀ x H', J.yld i H x H' → g x (wipe σ vs) H' fun σ2 H2 => wipe σ2 vs = wipe σ vs ∧ tYes σ2 H2 fun b H3 =>
        if b = true then te σ2 H3 fun y H4 => ∃ acc, H4 D = some (.lst acc) ∧ acc.length < sizeLine ∧ Nx (upd H4 D (.lst (acc ++ [y]))) else Nx H3) := by
  refine lc_pot (T := T) w G0 I h0 gp pot nD hl gd I0 mono len (fun i x G H H' acc N M hi hI fr g1 p1 hD gD y k _ => ?_) hd
  have kk : ∀ y G' H'', Fr T (fun b => b = p) G H G' H'' → Pot p H'' → I (i + 1) G' (acc ++ [y]) → N y H'' := k
  exact hs i x G H H' acc N hi hI fr g1 p1 hD gD y kk
theorem pick5 {d : Nat} {v : V} (h : [V.int 0, V.int 0, V.int 1, V.int 4, V.int 7][d]? = some v) : ∃ low : Nat, low ≤ 7 ∧ v = nV low := by
  match d, h with
  | 0, h => cases h; exact ⟨0, by omega, rfl⟩
  | 1, h => cases h; exact ⟨0, by omega, rfl⟩
  | 2, h => cases h; exact ⟨1, by omega, rfl⟩
  | 3, h => cases h; exact ⟨4, by omega, rfl⟩
  | 4, h => cases h; exact ⟨7, by omega, rfl⟩
  | d + 5, h => simp at h
section
variable {P : Program} {w : World} {K : PySem.W.Frag} {mg : Str → Option Value} {base : Heap} {C : Cs} {Tb : List (Addr × Str)}
def spRows (Tb : List (Addr × Str)) : Sp := fun vs H Q _ => ∃ (G : Hp) (p : Addr) (count many : Nat), vs = [.ref p, nV count, nV many] ∧ 1 ≤ count ∧ count ≤ 8 ∧ 1 ≤ many ∧ many ≤ 2 ∧ Same G H ∧ G p = none ∧ Pot p H ∧
  ∀ v G' H' rs, Fr Tb (fun b => b = p) G H G' H' → Pot p H' → VRows G' v rs → rs.length = count → (∀ r ∈ rs, RowOk count many r) → Q v H'
theorem sc88 : FnScope ["_law_pot_here", "_law_count", "_law_many_here", "_law_way", "_law_rows_here", "_law_low", "_law_state", "_law_later", "_law_k", "_law_near"] ["_law_pot_here", "_law_count", "_law_many_here"] (C8.fnScope (top 88)) := C8.fnScope_by (by decide +kernel)
theorem ok_rows (T : Txt K mg C) {f : Addr} {fd : FuncData} (F : C8.Def K mg "_law_rows" (top 88) f fd) (b : Binds K fd ["_law_pot_here", "_law_count", "_law_many_here"] []) (c__law_draw : Cl P w K mg base 1 "_law_draw" (spDraw Tb) []) (c__law_pick : Cl P w K mg base 2 "_law_pick" (spPick Tb) []) :
    Cl P w K mg base 3 "_law_rows" (spRows Tb) [] := by
  refine C8.cal0 F b .nil sc88 (fun vs H Q E h => ?_) (fun cdv A outer s H vs Q E hr h => ?_)
  · obtain ⟨G, p, count, many, rfl, _⟩ := h
    rfl
  · obtain ⟨G, p, count, many, rfl, c1, c8, m1, m2, hs, gp, pot, kk⟩ := h
    have hu := hu_of hr
    refine ⟨_, ((pss_cons (ps_asg (pe_tup (pa_cons (C8.pe_c c__law_draw hr (by decide) (by rfl) (pa_cons (pv 0) (pa_cons pe_int pa_nil))) (pa_cons (pe_lst pa_nil) (pa_cons (C8.pe_c c__law_pick hr (by decide) (by rfl) (pa_cons (pv 0) (pa_cons (pe_lst (pa_cons pe_int (pa_cons pe_int (pa_cons pe_int (pa_cons pe_int (pa_cons pe_int pa_nil)))))) pa_nil))) pa_nil)))) (pg_tup rfl (pgs_cons (pg_name (i := 3) sc88.nd rfl (Or.inl rfl)) (pgs_cons (pg_name (i := 4) sc88.nd rfl (Or.inl rfl)) (pgs_cons (pg_name (i := 5) sc88.nd rfl (Or.inr rfl)) pgs_nil)))))
      (pss_cons (ps_for PassesOwn.never rfl (pi_range1 (by rfl) T.b_range (pa_cons (pv 1) pa_nil)) (pg_name (i := 6) sc88.nd rfl (Or.inr rfl)) (pss_cons (ps_setLc (i := 7) (own := [("_law_k", 8)]) (tt := tYes) rfl sc88.nd rfl rfl (sw_true rfl rfl rfl (by decide +kernel)) (pi_range1 (by rfl) T.b_range (pa_cons (pv 2) pa_nil)) (blkOk_by (N := ["_law_pot_here", "_law_count", "_law_many_here", "_law_way", "_law_rows_here", "_law_low", "_law_state", "_law_later", "_law_k", "_law_near"]) (sc := C8.fnScope (top 88)) (by decide +kernel)) (fun _ _ _ _ _ => (pg_name (i := 8) sc88.nd rfl (Or.inl rfl))) (fun _ _ _ _ _ => pts_nil) (fun _ _ _ _ _ => (pe_callB (call_min2 rfl) (by rfl) T.b_min (by decide +kernel) (pa_cons (pe_op op_add (pv 8) pe_int) (pa_cons (pe_op op_sub (pv 1) pe_int) pa_nil)))))
      (pss_one (ps_if (pt_cmpR op_eq (pv 3) pe_int (nomark _)) (pss_one (ps_expr (pe_bm PySem.F.plainAttrs_list PySem.F.slot_list_append PySem.F.type_list_append mt_append (pv 4) (pa_cons (pe_lc (own := [("_law_k", 8)]) (tt := tYes) rfl sc88.nd (pi_range1 (by rfl) T.b_range (pa_cons (pv 2) pa_nil)) (blkOk_by (N := ["_law_pot_here", "_law_count", "_law_many_here", "_law_way", "_law_rows_here", "_law_low", "_law_state", "_law_later", "_law_k", "_law_near"]) (sc := C8.fnScope (top 88)) (by decide +kernel)) (fun _ _ _ _ _ => (pg_name (i := 8) sc88.nd rfl (Or.inl rfl))) (fun _ _ _ _ _ => pts_nil) (fun _ _ _ _ _ => (pe_tup (pa_cons (pe_callB (call_min2 rfl) (by rfl) T.b_min (by decide +kernel) (pa_cons (pe_op op_add (pv 6) (pv 5)) (pa_cons pe_int pa_nil))) (pa_cons (pe_op op_mod (pe_callTy call_int1 (by rfl) T.b_int (by decide +kernel) (pa_cons (pe_op op_add (pe_op op_add (pv 6) (pv 8)) pe_int) pa_nil)) (pv 1)) pa_nil))))) pa_nil)))) (pss_one (ps_if (pt_cmpR op_eq (pv 3) pe_int (nomark _)) (pss_one (ps_expr (pe_bm PySem.F.plainAttrs_list PySem.F.slot_list_append PySem.F.type_list_append mt_append (pv 4) (pa_cons (pe_lc (own := [("_law_near", 9)]) (tt := tYes) rfl sc88.nd (pi_list (pv 7)) (blkOk_by (N := ["_law_pot_here", "_law_count", "_law_many_here", "_law_way", "_law_rows_here", "_law_low", "_law_state", "_law_later", "_law_k", "_law_near"]) (sc := C8.fnScope (top 88)) (by decide +kernel)) (fun _ _ _ _ _ => (pg_name (i := 9) sc88.nd rfl (Or.inl rfl))) (fun _ _ _ _ _ => pts_nil) (fun _ _ _ _ _ => (pe_tup (pa_cons (pv 5) (pa_cons (pe_ifExp (pt_cmpR op_eq (pv 6) pe_int (nomark _)) (pv 9) (pv 6)) pa_nil))))) pa_nil)))) (pss_one (ps_if (pt_cmpR op_eq (pv 3) pe_int (nomark _)) (pss_one (ps_expr (pe_bm PySem.F.plainAttrs_list PySem.F.slot_list_append PySem.F.type_list_append mt_append (pv 4) (pa_cons (pe_lc (own := [("_law_near", 9)]) (tt := tYes) rfl sc88.nd (pi_list (pv 7)) (blkOk_by (N := ["_law_pot_here", "_law_count", "_law_many_here", "_law_way", "_law_rows_here", "_law_low", "_law_state", "_law_later", "_law_k", "_law_near"]) (sc := C8.fnScope (top 88)) (by decide +kernel)) (fun _ _ _ _ _ => (pg_name (i := 9) sc88.nd rfl (Or.inl rfl))) (fun _ _ _ _ _ => pts_nil) (fun _ _ _ _ _ => (pe_tup (pa_cons (pe_callB (call_min2 rfl) (by rfl) T.b_min (by decide +kernel) (pa_cons (pe_op op_add (pv 6) (pv 5)) (pa_cons pe_int pa_nil))) (pa_cons (pv 9) pa_nil))))) pa_nil)))) (pss_one (ps_if (pt_cmpR op_eq (pv 3) pe_int (nomark _)) (pss_one (ps_expr (pe_bm PySem.F.plainAttrs_list PySem.F.slot_list_append PySem.F.type_list_append mt_append (pv 4) (pa_cons (pe_lc (own := [("_law_near", 9)]) (tt := tYes) rfl sc88.nd (pi_list (pv 7)) (blkOk_by (N := ["_law_pot_here", "_law_count", "_law_many_here", "_law_way", "_law_rows_here", "_law_low", "_law_state", "_law_later", "_law_k", "_law_near"]) (sc := C8.fnScope (top 88)) (by decide +kernel)) (fun _ _ _ _ _ => (pg_name (i := 9) sc88.nd rfl (Or.inl rfl))) (fun _ _ _ _ _ => pts_nil) (fun _ _ _ _ _ => (pe_tup (pa_cons pe_int (pa_cons (pv 9) pa_nil))))) pa_nil)))) (pss_one (ps_expr (pe_bm PySem.F.plainAttrs_list PySem.F.slot_list_append PySem.F.type_list_append mt_append (pv 4) (pa_cons (pe_lc (own := [("_law_k", 8)]) (tt := tYes) rfl sc88.nd (pi_range1 (by rfl) T.b_range (pa_cons (pv 2) pa_nil)) (blkOk_by (N := ["_law_pot_here", "_law_count", "_law_many_here", "_law_way", "_law_rows_here", "_law_low", "_law_state", "_law_later", "_law_k", "_law_near"]) (sc := C8.fnScope (top 88)) (by decide +kernel)) (fun _ _ _ _ _ => (pg_name (i := 8) sc88.nd rfl (Or.inl rfl))) (fun _ _ _ _ _ => pts_nil) (fun _ _ _ _ _ => (pe_tup (pa_cons (pe_op op_add (pv 5) (C8.pe_c c__law_draw hr (by decide) (by rfl) (pa_cons (pv 0) (pa_cons pe_int pa_nil)))) (pa_cons (C8.pe_c c__law_draw hr (by decide) (by rfl) (pa_cons (pv 0) (pa_cons (pv 1) pa_nil))) pa_nil))))) pa_nil))))))))))))))
      (pss_one (ps_ret (pv 4)))))), ?_⟩
    refine ⟨_, rfl, G, p, 5, rfl, by decide, by decide, hs, gp, pot, fun way H1 hway f1 pot1 => ?_⟩
    refine ⟨Nat.zero_le _, fun rl nrl => ?_⟩
    have f2 : Fr Tb (fun b => b = p) G H G (upd H1 rl (.lst [])) := f1.trans (Fr.alloc' f1.s nrl)
    have pot2 : Pot p (upd H1 rl (.lst [])) := pot1.upd (pot1.ne nrl)
    refine ⟨_, rfl, len5, fun q nq => ?_⟩
    have f3 := f2.trans (Fr.alloc (o := .lst [.int 0, .int 0, .int 1, .int 4, .int 7]) f2.s nq)
    have pot3 : Pot p (upd (upd H1 rl (.lst [])) q (.lst [.int 0, .int 0, .int 1, .int 4, .int 7])) := pot2.upd (pot2.ne nq)
    have hq3 : upd G q (.lst [.int 0, .int 0, .int 1, .int 4, .int 7]) q = some (.lst [.int 0, .int 0, .int 1, .int 4, .int 7]) := upd_same
    have gp3 := f3.gp gp pot
    have hrl3 : upd (upd H1 rl (.lst [])) q (.lst [.int 0, .int 0, .int 1, .int 4, .int 7]) rl = some (.lst []) := upd_keep nq _ _ upd_same
    have nrq : rl ≠ q := ne_of_none upd_same nq
    have grl3 : upd G q (.lst [.int 0, .int 0, .int 1, .int 4, .int 7]) rl = none := by rw [upd_ne nrq]; exact none_of_same f1.s nrl
    have nrp : rl ≠ p := fun z => pot1.ne nrl z.symm
    have nrH : ¬ Live H rl := f1.nl nrl
    generalize upd G q (.lst [.int 0, .int 0, .int 1, .int 4, .int 7]) = G3 at f3 hq3 gp3 grl3
    generalize upd (upd H1 rl (.lst [])) q (.lst [.int 0, .int 0, .int 1, .int 4, .int 7]) = H3 at f3 pot3 hrl3 ⊢
    refine ⟨G3, p, q, _, rfl, hq3, by decide, by decide, f3.s, gp3, pot3, fun d v H4 hv f4 pot4 => ?_⟩
    obtain ⟨low, l7, rfl⟩ := pick5 hv
    refine ⟨len3, fun t nt => ?_⟩
    have hrl4 := f4.at nrp hrl3
    refine ⟨t, _, rfl, .of upd_same, rfl, _, _, rfl, _, _, rfl, _, _, rfl, rfl, ?_⟩
    have f5 := (f3.trans f4).trans (Fr.alloc' (o := .tup [nV way, .ref rl, nV low]) f4.s nt)
    have pot5 := pot4.upd (o := .tup [nV way, .ref rl, nV low]) (pot4.ne nt)
    have hrl5 : upd H4 t (.tup [nV way, .ref rl, nV low]) rl = some (.lst []) := upd_keep nt _ _ hrl4
    generalize upd H4 t (.tup [nV way, .ref rl, nV low]) = H5 at f5 pot5 hrl5 ⊢
    refine ⟨_, rfl, _, rfl, ?_, ?_, ?_⟩
    · omega
    · omega
    refine for_range (lo := 0) (n := count) (fun i σ H' => ∃ x6 x7 x8 x9 vs rs G', σ = [some (.ref p), some (nV count), some (nV many), some (nV way), some (.ref rl), some (nV low), x6, x7, x8, x9] ∧ Fr Tb (fun b => b = p) G H G' H' ∧ Pot p H' ∧ G' p = none ∧ G' rl = none ∧ H' rl = some (.lst vs) ∧ All2 (VRow G') vs rs ∧ rs.length = i ∧ ∀ r ∈ rs, RowOk count many r)
      ⟨_, _, _, _, [], [], G3, rfl, f5, pot5, gp3, grl3, hrl5, .nil, rfl, fun r h => by simp at h⟩ (fun i σ H6 hi ⟨x6, x7, x8, x9, vs, rs, G6, eσ, fr, pot6, gp6, grl6, hrl6, hvs, hlen, hok⟩ => ?_) (fun σ H6 ⟨x6, x7, x8, x9, vs, rs, G6, eσ, fr, pot6, gp6, grl6, hrl6, hvs, hlen, hok⟩ => ?_)
    · subst eσ
      refine ⟨_, rfl, _, rfl, ?_, ?_, fun D hD => ?_⟩
      · omega
      · omega
      refine lc_frY (T := Tb) (X := X0) walk_range G6 (ISome (fun _ v x => v = nV x) (fun _ x => x < count)) fr.s hD (fun z => z) (by rw [Int.toNat_natCast]; exact Nat.le_trans m2 len2) (fun H2 e => trivial) ISome.nil (ISome.mono mNat) ISome.len (fun j y G7 H7 H8 acc N hj hI fr7 hDD gD y' k' => ?_) (fun G7 H7 acc hI fr7 sg hDD => ?_)
      · obtain ⟨rfl, rfl⟩ := y'
        refine ⟨rfl, _, rfl, _, _, rfl, rfl, _, rfl, _, _, rfl, rfl, _, _, rfl, k' _ _ _ (.refl fr7.s) (hI.step mNat (.refl _) (x := min (j + 1) (count - 1)) ?_ (by omega))⟩
        show V.int _ = V.int _
        rw [← min_nat]
        congr 1
        split <;> split <;> omega
      obtain ⟨ls, hls, hal, hok2⟩ := hI
      rw [Int.toNat_natCast] at hls
      have eacc := all2_eq hal
      subst eacc
      have pot8 := pot6.fr fr7
      have gp8 := fr7.gp gp6 pot6
      have hrl8 := fr7.at (fun z => z) hrl6
      have grl8 := fr7.keep hrl6 grl6
      have hvs8 := hvs.imp fun v x h => VRow.mono fr7.g h
      have hD8 : upd G7 D (.lst (ls.map nV)) D = some (.lst (ls.map nV)) := upd_same
      have f8 : Fr Tb (fun b => b = p) G H (upd G7 D (.lst (ls.map nV))) H7 := fr.trans fr7.of0
      generalize upd G7 D (.lst (ls.map nV)) = G8 at f8 gp8 grl8 hvs8 hD8
      have vlen : vs.length < sizeLine := by rw [hvs.1, hlen]; exact Nat.lt_of_lt_of_le (Nat.lt_of_lt_of_le hi c8) (by rw [sizeLine_eq]; decide)
      have cpos : (0 : Int) < (count : Int) := by omega
      have fin : ∀ (x8 x9 : Option V) (D2 : Addr) (acc2 : List V) (G9 H9 : Hp), Fr Tb (fun b => b = p) G8 H7 G9 H9 → Pot p H9 → G9 p = none → ISome VEnt (fun _ e => e.1 ≤ 9 ∧ e.2 < count) many G9 acc2 → G9 D2 = some (.lst acc2) →
          ∃ x6 x7 x8' x9' vs' rs' G', [some (V.ref p), some (nV count), some (nV many), some (nV way), some (.ref rl), some (nV low), some (.int (0 + (i : Int))), some (.ref D), x8, x9] = [some (.ref p), some (nV count), some (nV many), some (nV way), some (.ref rl), some (nV low), x6, x7, x8', x9'] ∧ Fr Tb (fun b => b = p) G H G' (upd H9 rl (.lst (vs ++ [.ref D2]))) ∧ Pot p (upd H9 rl (.lst (vs ++ [.ref D2]))) ∧ G' p = none ∧ G' rl = none ∧ upd H9 rl (.lst (vs ++ [.ref D2])) rl = some (.lst vs') ∧ All2 (VRow G') vs' rs' ∧ rs'.length = i + 1 ∧ ∀ r ∈ rs', RowOk count many r := by
        intro x8 x9 D2 acc2 G9 H9 f9 p9 g9 hI hD2
        obtain ⟨es, he, hal2, hok3⟩ := hI
        have hrl9 := f9.at nrp hrl8
        have grl9 := f9.keep hrl8 grl8
        refine ⟨_, _, _, _, _, rs ++ [es], G9, rfl, (f8.trans f9).mut' nrH grl9 hrl9 lst_nt lst_nc lst_nt, p9.upd (Ne.symm nrp), g9, grl9, upd_same, (hvs8.imp fun v x h => VRow.mono f9.g h).snoc ⟨D2, acc2, rfl, hD2, hal2⟩, by simp [hlen], fun r hr => ?_⟩
        rcases List.mem_append.mp hr with z | z
        · exact hok r z
        · rw [List.mem_singleton.mp z]
          refine ⟨he, fun e hem => ?_⟩
          obtain ⟨j, hj⟩ := List.getElem?_of_mem hem
          exact hok3 j e hj
      refine ⟨_, rfl, ?_⟩
      rcases (show way = 0 ∨ way = 1 ∨ way = 2 ∨ way = 3 ∨ way = 4 by omega) with rfl | rfl | rfl | rfl | rfl
      · refine ⟨rfl, true, rfl, iteT ⟨_, rfl, .inl ⟨rfl, _, .of hrl8⟩, _, rfl, _, rfl, ?_, ?_, fun D2 hD2 => ?_⟩⟩
        · omega
        · omega
        refine lc_potY (T := Tb) walk_range G8 (ISome VEnt (fun _ e => e.1 ≤ 9 ∧ e.2 < count)) f8.s gp8 pot8 hD2 (by rw [Int.toNat_natCast]; exact Nat.le_trans m2 len2) (fun H2 e => trivial) ISome.nil (ISome.mono mEnt) ISome.len (fun j y G9 H9 H10 acc2 N hj hI fr9 gp9 pot9 hDD gD y' k' => ?_) (fun G9 H9 acc2 hI fr9 hD9 gp9 pot9 hDD => ?_)
        · obtain ⟨rfl, rfl⟩ := y'
          refine ⟨rfl, _, rfl, _, rfl, _, _, rfl, rfl, _, _, rfl, _, rfl, _, rfl, _, _, rfl, rfl, _, _, rfl, rfl, .inl ⟨_, rfl, _, rfl, _, _, rfl, rfl, cpos, len2, fun t nt => k' _ _ _ (Fr.alloc fr9.s nt) (pot9.upd (pot9.ne nt)) (hI.step mEnt (same_upd (.refl _) (none_of_same fr9.s nt)) (ent_of (x := min (i + low) 9) (y := (i + j + 1) % count) upd_same ?_ ?_) ⟨Nat.min_le_right _ _, Nat.mod_lt _ (by omega)⟩)⟩⟩
          · rw [← min_nat]
            split <;> split <;> omega
          · rw [Int.natCast_emod]
            congr 1
            omega
        · exact ⟨rl, _, _, rfl, rfl, fr9.at nrp hrl8, vlen, fin _ _ D2 acc2 _ H9 fr9 pot9 gp9 hI hD9⟩
      · refine ⟨rfl, false, rfl, iteF ⟨_, rfl, rfl, true, rfl, iteT ⟨_, rfl, .inl ⟨rfl, _, .of hrl8⟩, _, rfl, _, rfl, ⟨_, .of (f8.s _ _ hD8)⟩, fun D2 hD2 => ?_⟩⟩⟩
        refine lc_potY (T := Tb) (walk_list (a := D) (xs := ls.map nV)) G8 (ISome VEnt (fun _ e => e.1 ≤ 9 ∧ e.2 < count)) f8.s gp8 pot8 hD2 (by rw [List.length_map, hls]; exact Nat.le_trans m2 len2) (fun H2 e => .of (e _ _ hD8)) ISome.nil (ISome.mono mEnt) ISome.len (fun j y G9 H9 H10 acc2 N hj hI fr9 gp9 pot9 hDD gD y' k' => ?_) (fun G9 H9 acc2 hI fr9 hD9 gp9 pot9 hDD => ?_)
        · obtain ⟨rfl, hy⟩ := y'
          rw [List.length_map, hls] at hj
          obtain ⟨x, hx⟩ := get_of_lt (l := ls) (i := j) (by omega)
          have e2 : some (nV x) = some y := (get_nV hx).symm.trans hy
          cases e2
          have hxc := hok2 j x hx
          by_cases hi0 : i = 0
          · refine ⟨rfl, _, rfl, _, rfl, rfl, true, by subst hi0; rfl, iteT ⟨_, rfl, len2, fun t nt => k' _ _ _ (Fr.alloc fr9.s nt) (pot9.upd (pot9.ne nt)) (hI.step mEnt (same_upd (.refl _) (none_of_same fr9.s nt)) (ent_of (x := low) (y := x) upd_same rfl rfl) ⟨by omega, hxc⟩)⟩⟩
          · refine ⟨rfl, _, rfl, _, rfl, rfl, false, congrArg V.bl (decide_eq_false (fun z => hi0 (by have := V.int.inj z; omega))), iteF ⟨_, rfl, len2, fun t nt => k' _ _ _ (Fr.alloc fr9.s nt) (pot9.upd (pot9.ne nt)) (hI.step mEnt (same_upd (.refl _) (none_of_same fr9.s nt)) (ent_of (x := low) (y := i) upd_same rfl (by omega)) ⟨by omega, by omega⟩)⟩⟩
        · exact ⟨rl, _, _, rfl, rfl, fr9.at nrp hrl8, vlen, fin _ _ D2 acc2 _ H9 fr9 pot9 gp9 (by rw [List.length_map, hls] at hI; exact hI) hD9⟩
      · refine ⟨rfl, false, rfl, iteF ⟨_, rfl, rfl, false, rfl, iteF ⟨_, rfl, rfl, true, rfl, iteT ⟨_, rfl, .inl ⟨rfl, _, .of hrl8⟩, _, rfl, _, rfl, ⟨_, .of (f8.s _ _ hD8)⟩, fun D2 hD2 => ?_⟩⟩⟩⟩
        refine lc_potY (T := Tb) (walk_list (a := D) (xs := ls.map nV)) G8 (ISome VEnt (fun _ e => e.1 ≤ 9 ∧ e.2 < count)) f8.s gp8 pot8 hD2 (by rw [List.length_map, hls]; exact Nat.le_trans m2 len2) (fun H2 e => .of (e _ _ hD8)) ISome.nil (ISome.mono mEnt) ISome.len (fun j y G9 H9 H10 acc2 N hj hI fr9 gp9 pot9 hDD gD y' k' => ?_) (fun G9 H9 acc2 hI fr9 hD9 gp9 pot9 hDD => ?_)
        · obtain ⟨rfl, hy⟩ := y'
          rw [List.length_map, hls] at hj
          obtain ⟨x, hx⟩ := get_of_lt (l := ls) (i := j) (by omega)
          have e2 : some (nV x) = some y := (get_nV hx).symm.trans hy
          cases e2
          have hxc := hok2 j x hx
          refine ⟨rfl, _, rfl, _, rfl, _, _, rfl, rfl, _, _, rfl, _, rfl, len2, fun t nt => k' _ _ _ (Fr.alloc fr9.s nt) (pot9.upd (pot9.ne nt)) (hI.step mEnt (same_upd (.refl _) (none_of_same fr9.s nt)) (ent_of (x := min (i + low) 9) (y := x) upd_same ?_ rfl) ⟨Nat.min_le_right _ _, hxc⟩)⟩
          rw [← min_nat]
          split <;> split <;> omega
        · exact ⟨rl, _, _, rfl, rfl, fr9.at nrp hrl8, vlen, fin _ _ D2 acc2 _ H9 fr9 pot9 gp9 (by rw [List.length_map, hls] at hI; exact hI) hD9⟩
      · refine ⟨rfl, false, rfl, iteF ⟨_, rfl, rfl, false, rfl, iteF ⟨_, rfl, rfl, false, rfl, iteF ⟨_, rfl, rfl, true, rfl, iteT ⟨_, rfl, .inl ⟨rfl, _, .of hrl8⟩, _, rfl, _, rfl, ⟨_, .of (f8.s _ _ hD8)⟩, fun D2 hD2 => ?_⟩⟩⟩⟩⟩
        refine lc_potY (T := Tb) (walk_list (a := D) (xs := ls.map nV)) G8 (ISome VEnt (fun _ e => e.1 ≤ 9 ∧ e.2 < count)) f8.s gp8 pot8 hD2 (by rw [List.length_map, hls]; exact Nat.le_trans m2 len2) (fun H2 e => .of (e _ _ hD8)) ISome.nil (ISome.mono mEnt) ISome.len (fun j y G9 H9 H10 acc2 N hj hI fr9 gp9 pot9 hDD gD y' k' => ?_) (fun G9 H9 acc2 hI fr9 hD9 gp9 pot9 hDD => ?_)
        · obtain ⟨rfl, hy⟩ := y'
          rw [List.length_map, hls] at hj
          obtain ⟨x, hx⟩ := get_of_lt (l := ls) (i := j) (by omega)
          have e2 : some (nV x) = some y := (get_nV hx).symm.trans hy
          cases e2
          have hxc := hok2 j x hx
          exact ⟨rfl, _, rfl, len2, fun t nt => k' _ _ _ (Fr.alloc fr9.s nt) (pot9.upd (pot9.ne nt)) (hI.step mEnt (same_upd (.refl _) (none_of_same fr9.s nt)) (ent_of (x := 0) (y := x) upd_same rfl rfl) ⟨by omega, hxc⟩)⟩
        · exact ⟨rl, _, _, rfl, rfl, fr9.at nrp hrl8, vlen, fin _ _ D2 acc2 _ H9 fr9 pot9 gp9 (by rw [List.length_map, hls] at hI; exact hI) hD9⟩
      · refine ⟨rfl, false, rfl, iteF ⟨_, rfl, rfl, false, rfl, iteF ⟨_, rfl, rfl, false, rfl, iteF ⟨_, rfl, rfl, false, rfl, iteF ⟨_, rfl, .inl ⟨rfl, _, .of hrl8⟩, _, rfl, _, rfl, ?_, ?_, fun D2 hD2 => ?_⟩⟩⟩⟩⟩
        · omega
        · omega
        refine lc_potY (T := Tb) walk_range G8 (ISome VEnt (fun _ e => e.1 ≤ 9 ∧ e.2 < count)) f8.s gp8 pot8 hD2 (by rw [Int.toNat_natCast]; exact Nat.le_trans m2 len2) (fun H2 e => trivial) ISome.nil (ISome.mono mEnt) ISome.len (fun j y G9 H9 H10 acc2 N hj hI fr9 gp9 pot9 hDD gD y' k' => ?_) (fun G9 H9 acc2 hI fr9 hD9 gp9 pot9 hDD => ?_)
        · obtain ⟨rfl, rfl⟩ := y'
          refine ⟨rfl, _, rfl, _, rfl, G9, p, 3, rfl, by decide, by decide, fr9.s, gp9, pot9, fun d1 H10 hd1 f10 pot10 => ⟨_, _, rfl, rfl, _, rfl, _, rfl, G9, p, count, rfl, by omega, by omega, f10.s, gp9, pot10, fun d2 H11 hd2 f11 pot11 => ?_⟩⟩
          exact ⟨len2, fun t nt => k' _ _ _ ((f10.trans f11).trans (Fr.alloc f11.s nt)) (pot11.upd (pot11.ne nt)) (hI.step mEnt (same_upd (.refl _) (none_of_same f11.s nt)) (ent_of (x := low + d1) (y := d2) upd_same (by omega) rfl) ⟨by omega, hd2⟩)⟩
        · exact ⟨rl, _, _, rfl, rfl, fr9.at nrp hrl8, vlen, fin _ _ D2 acc2 _ H9 fr9 pot9 gp9 hI hD9⟩
    · subst eσ
      refine ⟨_, rfl, kk _ _ _ rs (fr.adopt' nrH grl6 hrl6) pot6 ⟨rl, vs, rfl, upd_same, hvs.imp fun v x h => VRow.mono (same_upd (.refl G6) grl6) h⟩ hlen hok⟩
def spModel (Tb : List (Addr × Str)) : Sp := fun vs H Q _ => ∃ (G : Hp) (p : Addr) (ms : Nat), vs = [.ref p, nV ms, .int 2] ∧ 1 ≤ ms ∧ ms ≤ 8 ∧ Same G H ∧ G p = none ∧ Pot p H ∧
  ∀ v G' H' m, Fr Tb (fun b => b = p) G H G' H' → Pot p H' → VMd G' v m → MdOk m → Q v H'
theorem sc89 : FnScope ["_law_pot_here", "_law_most_states", "_law_most_deeds", "_law_many_here"] ["_law_pot_here", "_law_most_states", "_law_most_deeds"] (C8.fnScope (top 89)) := C8.fnScope_by (by decide +kernel)
theorem ok_model (T : Txt K mg C) {f : Addr} {fd : FuncData} (F : C8.Def K mg "_law_model" (top 89) f fd) (b : Binds K fd ["_law_pot_here", "_law_most_states", "_law_most_deeds"] []) (c__law_draw : Cl P w K mg base 1 "_law_draw" (spDraw Tb) []) (c__law_rows : Cl P w K mg base 3 "_law_rows" (spRows Tb) []) :
    Cl P w K mg base 4 "_law_model" (spModel Tb) [] := by
  refine C8.cal0 F b .nil sc89 (fun vs H Q E h => ?_) (fun cdv A outer s H vs Q E hr h => ?_)
  · obtain ⟨G, p, ms, rfl, _⟩ := h
    rfl
  · obtain ⟨G, p, ms, rfl, h1, h8, hs, gp, pot, kk⟩ := h
    refine ⟨_, ((pss_cons (ps_set (i := 3) sc89.nd rfl (Or.inl rfl) (pe_op op_add pe_int (C8.pe_c c__law_draw hr (by decide) (by rfl) (pa_cons (pv 0) (pa_cons (pv 2) pa_nil)))))
      (pss_one (ps_ret (pe_tup (pa_cons (pe_slice sl_list (pe_lst (pa_cons pe_str (pa_cons pe_str (pa_cons pe_str (pa_cons pe_str pa_nil))))) po_none (po_some (pv 3))) (pa_cons (C8.pe_c c__law_rows hr (by decide) (by rfl) (pa_cons (pv 0) (pa_cons (pe_op op_add pe_int (C8.pe_c c__law_draw hr (by decide) (by rfl) (pa_cons (pv 0) (pa_cons (pv 1) pa_nil)))) (pa_cons (pv 3) pa_nil)))) pa_nil))))))), ?_⟩
    refine ⟨_, rfl, _, rfl, G, p, 2, rfl, by decide, by decide, hs, gp, pot, fun d H1 hd f1 pot1 => ?_⟩
    refine ⟨_, _, rfl, rfl, ?_⟩
    refine ⟨len4, fun nl nnl => ?_⟩
    have f2 := f1.trans (Fr.alloc' (o := .lst (nm.map V.str)) f1.s nnl)
    have pot2 : Pot p (upd H1 nl (.lst (nm.map V.str))) := pot1.upd (pot1.ne nnl)
    have hnl : upd H1 nl (.lst (nm.map V.str)) nl = some (.lst (nm.map V.str)) := upd_same
    refine ⟨_, rfl, _, rfl, nl, nm.map V.str, rfl, .of hnl, fun nl2 nnl2 => ?_⟩
    have ecut : cutV (nm.map V.str) none (some (1 + (d : Int))) = names (1 + d) := by
      rcases (show d = 0 ∨ d = 1 by omega) with rfl | rfl <;> rfl
    rw [ecut]
    have f3 := f2.trans (Fr.alloc (o := .lst (names (1 + d))) f2.s nnl2)
    have hn2 : upd G nl2 (.lst (names (1 + d))) nl2 = some (.lst (names (1 + d))) := upd_same
    have gp3 := f3.gp gp pot
    have pot3 := pot2.upd (o := .lst (names (1 + d))) (pot2.ne nnl2)
    have ex3 : ∃ G3 H3, G3 = upd G nl2 (.lst (names (1 + d))) ∧ H3 = upd (upd H1 nl (.lst (nm.map V.str))) nl2 (.lst (names (1 + d))) := ⟨_, _, rfl, rfl⟩
    obtain ⟨G3, H3, eG3, eH3⟩ := ex3
    have f3' : Fr Tb (fun b => b = p) G H G3 H3 := by rw [eG3, eH3]; exact f3
    rw [← eG3] at hn2 gp3
    rw [← eH3] at pot3
    refine ⟨_, rfl, _, rfl, _, rfl, G3, p, ms, rfl, by omega, by omega, ?_, gp3, ?_, fun d2 H4 hd2 f4 pot4 => ?_⟩
    · rw [eG3]; exact f3.s
    · rw [eH3] at pot3; exact pot3
    refine ⟨_, _, rfl, rfl, _, rfl, G3, p, 1 + d2, 1 + d, rfl, by omega, by omega, by omega, by omega, f4.s, gp3, pot4, fun v G5 H5 rs f5 pot5 hv hlen hok => ⟨len2, fun t nt => ?_⟩⟩
    have f45 : Fr Tb (fun b => b = p) G H G5 H5 := f3'.trans ((by rw [eH3]; exact f4 : Fr Tb (fun b => b = p) G3 H3 G3 H4).trans f5)
    have f6 := f45.trans (Fr.alloc (o := .tup [.ref nl2, v]) f5.s nt)
    have e6 := same_upd (b := t) (o := .tup [.ref nl2, v]) (.refl G5) (none_of_same f5.s nt)
    exact kk _ _ _ ⟨1 + d, rs⟩ f6 (pot5.upd (pot5.ne nt)) ⟨t, nl2, v, rfl, upd_same, e6 _ _ (f5.g _ _ hn2), VRows.mono e6 hv⟩ ⟨by simp, by show 1 + d ≤ 2; omega, by show 1 ≤ rs.length; omega, by show rs.length ≤ 8; omega, fun r hr => ⟨(hok r hr).1, fun e he => ⟨((hok r hr).2 e he).1, by show e.2 < rs.length; rw [hlen]; exact ((hok r hr).2 e he).2⟩⟩⟩
end
end K57
set_option Elab.async false
set_option linter.all false
set_option autoImplicit false
set_option maxRecDepth 100000
set_option maxHeartbeats 4000000
/-! K58L: a node. -/
namespace K57
open PySem PySem.Spec PyProof.Rows L2 LamX
theorem seq_join {t u : TS} {D : Ends} {σ : L2.St} {H : Hp} (J : L2.St → Hp → Prop) (h : ∀ D' : Ends, (∀ σ H, J σ H → D'.nx σ H) → t D' σ H) (hj : ∀ σ H, J σ H → u D σ H) : tSeq t u D σ H := h { D with nx := u D } hj
theorem nx_join {t u : TS} {D : Ends} {r : VK} {bk ct : L2.St → Hp → Prop} {σ : L2.St} {H : Hp} (J : L2.St → Hp → Prop) (h : ∀ D' : Ends, (∀ σ H, J σ H → D'.nx σ H) → t D' σ H) (hj : ∀ σ H, J σ H → u D σ H) : Ends.nx { nx := tSeq t u D, rt := r, bk := bk, ct := ct } σ H := h { D with nx := u D } hj
theorem sub_step {α : Type} {xs ks : List α} {i : Nat} {k : α} (h : xs.Sublist (ks.take i)) (hk : ks[i]? = some k) : (xs ++ [k]).Sublist (ks.take (i + 1)) := by
  rw [List.take_add_one, hk]
  exact h.append (List.Sublist.refl _)
theorem sub_skip {α : Type} {xs ks : List α} {i : Nat} (h : xs.Sublist (ks.take i)) : xs.Sublist (ks.take (i + 1)) := h.trans (List.take_sublist_take_left (by omega))
theorem paired_of {K : PySem.W.Frag} {G H : Hp} (s : Same G H) : ∀ {br : List (Nat × Nat)} {acc : List V}, All2 (VEnt G) acc br → ∃ ps : List Addr, acc = ps.map V.ref ∧ Paired (fun p (kv : Key × V) => SqT K H p [kV kv.1, kv.2]) ps (brK br) := by
  intro br
  induction br with
  | nil =>
    intro acc a
    have : acc = [] := List.length_eq_zero_iff.mp a.1
    exact ⟨[], by rw [this]; rfl, .nil⟩
  | cons e r ih =>
    intro acc a
    cases acc with
    | nil => exact absurd a.1 (by simp)
    | cons v vs =>
      obtain ⟨t, rfl, ht⟩ := a.2 0 v e rfl rfl
      have a2 := a.drop 1
      obtain ⟨ps, e1, hp⟩ := ih (acc := vs) (by simpa using a2)
      exact ⟨t :: ps, by rw [e1]; rfl, .cons (.of (s _ _ ht)) hp⟩
theorem brK_inj {br : List (Nat × Nat)} (h : (br.map (·.1)).Nodup) : ((brK br).map Prod.fst).Nodup := by
  have : (brK br).map Prod.fst = (br.map (·.1)).map fun k => (Sum.inl ((k : Nat) : Int) : Key) := by simp [brK]
  rw [this]
  exact List.pairwise_map.mpr (List.Pairwise.imp (fun hne z => hne (by have := Sum.inl.inj z; omega)) h)
theorem merge_new : ∀ {more acc : List (Key × V)}, ((acc ++ more).map Prod.fst).Nodup → mergeK acc more = acc ++ more := by
  intro more
  induction more with
  | nil => intro acc _; simp [mergeK]
  | cons p r ih =>
    intro acc h
    have e1 : mergeK acc (p :: r) = mergeK (putK acc p.1 p.2) r := rfl
    have hn : valV acc p.1 = none := by
      cases hv : valV acc p.1 with
      | none => rfl
      | some x =>
        exfalso
        have hin : p.1 ∈ acc.map Prod.fst := by
          unfold valV at hv
          cases hf : acc.find? (fun kv => decide (kv.1 = p.1)) with
          | none => rw [hf] at hv; cases hv
          | some q =>
            have h1 := List.mem_of_find?_eq_some hf
            have h2 := List.find?_some hf
            exact List.mem_map.mpr ⟨q, h1, by simpa using h2⟩
        rw [List.map_append, List.map_cons] at h
        exact (List.nodup_append.mp h).2.2 _ hin _ List.mem_cons_self rfl
    rw [e1, putK_new _ hn, ih (by rw [List.append_assoc]; exact h), List.append_assoc]
    rfl
theorem merge_brK {br : List (Nat × Nat)} (h : (br.map (·.1)).Nodup) : mergeK [] (brK br) = brK br := by
  rw [merge_new (by simpa using brK_inj h)]
  rfl
theorem ints_nat {ns : List Int} (p : ns.Pairwise (· < ·)) (h : ∀ k ∈ ns, 0 ≤ k) : ∃ ks : List Nat, ns = ks.map (fun k => ((k : Nat) : Int)) ∧ ks.Nodup := by
  refine ⟨ns.map Int.toNat, ?_, ?_⟩
  · rw [List.map_map]
    conv => lhs; rw [← List.map_id ns]
    exact List.map_congr_left fun k hk => by have := h k hk; simp; omega
  · exact List.pairwise_map.mpr (List.Pairwise.imp_of_mem (fun {a b} ha hb hlt z => by have := h a ha; have := h b hb; omega) p)
def NodeOk (ms : List Md) (at_ n : Nat) : Nd → Prop
  | .look t br => ∃ m, ms[t]? = some m ∧ BrOk br m.rows.length at_ n
  | .act t j br => ∃ m, ms[t]? = some m ∧ j < m.many ∧ BrOk br 10 at_ n
  | .fin _ => False
theorem mNd' (G G' : Hp) (v : V) (x : Nd) (e : Same G G') (h : VNd G v x) : VNd G' v x := VNd.mono e h
theorem mMd' (G G' : Hp) (v : V) (x : Md) (e : Same G G') (h : VMd G v x) : VMd G' v x := VMd.mono e h
section
variable {P : Program} {w : World} {K : PySem.W.Frag} {mg : Str → Option Value} {base : Heap} {C : Cs} {Tb : List (Addr × Str)}
def spLNode (Tb : List (Addr × Str)) : Sp := fun vs H Q _ => ∃ (G : Hp) (p ml : Addr) (mvs : List V) (ms : List Md) (at_ last : Nat), vs = [.ref p, .ref ml, nV at_, nV last] ∧ G ml = some (.lst mvs) ∧ All2 (VMd G) mvs ms ∧ (∀ m ∈ ms, MdOk m) ∧ 1 ≤ ms.length ∧ ms.length ≤ 4 ∧ at_ < last ∧ last ≤ 6 ∧ Same G H ∧ G p = none ∧ Pot p H ∧
  ∀ v G' H' nd, Fr Tb (fun b => b = p) G H G' H' → Pot p H' → VNd G' v nd → NodeOk ms at_ (last + 1) nd → Q v H'
theorem sc90 : FnScope ["_law_pot_here", "_law_models", "_law_at", "_law_last_here", "_law_spot", "_law_names_now", "_law_rows_here", "_law_keys", "_law_head", "_law_place", "_law_kept", "_law_row", "_law_key"] ["_law_pot_here", "_law_models", "_law_at", "_law_last_here"] (C8.fnScope (top 90)) := C8.fnScope_by (by decide +kernel)
theorem ok_lnode (T : Txt K mg C) {f : Addr} {fd : FuncData} (F : C8.Def K mg "_law_node" (top 90) f fd) (b : Binds K fd ["_law_pot_here", "_law_models", "_law_at", "_law_last_here"] []) (c__law_draw : Cl P w K mg base 1 "_law_draw" (spDraw Tb) []) :
    Cl P w K mg base 2 "_law_node" (spLNode Tb) [] := by
  refine C8.cal0 F b .nil sc90 (fun vs H Q E h => ?_) (fun cdv A outer s H vs Q E hr h => ?_)
  · obtain ⟨G, p, ml, mvs, ms, at_, last, rfl, _⟩ := h
    rfl
  · obtain ⟨G, p, ml, mvs, ms, at_, last, rfl, hml, hmvs, hmo, m1, m4, hal, hl6, hs, gp, pot, kk⟩ := h
    have hu := hu_of hr
    refine ⟨_, ((pss_cons (ps_set (i := 4) sc90.nd rfl (Or.inl rfl) (C8.pe_c c__law_draw hr (by decide) (by rfl) (pa_cons (pv 0) (pa_cons (pe_callB call_len_seq (by rfl) T.b_len (by decide +kernel) (pa_cons (pv 1) pa_nil)) pa_nil))))
      (pss_cons (ps_asg (pe_ix ix_list (pv 1) (pv 4) (fun _ _ => rfl)) (pg_tup rfl (pgs_cons (pg_name (i := 5) sc90.nd rfl (Or.inl rfl)) (pgs_cons (pg_name (i := 6) sc90.nd rfl (Or.inl rfl)) pgs_nil))))
      (pss_cons (ps_if (pt_cmpR op_eq (C8.pe_c c__law_draw hr (by decide) (by rfl) (pa_cons (pv 0) (pa_cons pe_int pa_nil))) pe_int (nomark _)) (pss_one (ps_par (i := 7) (j := 8) rfl sc90.nd rfl rfl (by decide) rfl rfl (pa_cons (pe_listRg rfl (by rfl) T.b_list (prg_1 (by rfl) T.b_range (pe_callB call_len_seq (by rfl) T.b_len (by decide +kernel) (pa_cons (pv 6) pa_nil)))) (pa_cons (pe_tup (pa_cons pe_str (pa_cons (pv 4) pa_nil))) pa_nil)) rfl)) (pss_cons (ps_set (i := 9) sc90.nd rfl (Or.inr rfl) (C8.pe_c c__law_draw hr (by decide) (by rfl) (pa_cons (pv 0) (pa_cons (pe_callB call_len_seq (by rfl) T.b_len (by decide +kernel) (pa_cons (pv 5) pa_nil)) pa_nil))))
      (pss_one (ps_par (i := 7) (j := 8) rfl sc90.nd rfl rfl (by decide) rfl rfl (pa_cons (pe_callB (cr_sortedSet rfl) (by rfl) T.b_sorted (by decide +kernel) (pa_cons (pe_callTy (cr_setInts rfl) (by rfl) T.b_set (by decide +kernel) (pa_cons (pe_lc (own := [("_law_row", 11)]) (tt := tYes) rfl sc90.nd (pi_list (pv 6)) (blkOk_by (N := ["_law_pot_here", "_law_models", "_law_at", "_law_last_here", "_law_spot", "_law_names_now", "_law_rows_here", "_law_keys", "_law_head", "_law_place", "_law_kept", "_law_row", "_law_key"]) (sc := C8.fnScope (top 90)) (by decide +kernel)) (fun _ _ _ _ _ => (pg_name (i := 11) sc90.nd rfl (Or.inl rfl))) (fun _ _ _ _ _ => pts_nil) (fun _ _ _ _ _ => (pe_ix (ix_tupK K) (pe_ix (ix_listK K) (pv 11) (pv 9) (fun _ _ => rfl)) pe_int (fun _ _ => rfl)))) pa_nil)) pa_nil)) (pa_cons (pe_tup (pa_cons pe_str (pa_cons (pv 4) (pa_cons (pe_ix ix_list (pv 5) (pv 9) (fun _ _ => rfl)) pa_nil)))) pa_nil)) rfl))))
      (pss_cons (ps_setLc (i := 10) (own := [("_law_key", 12)]) rfl sc90.nd rfl rfl (sw_true rfl rfl rfl (by decide +kernel)) (pi_list (pv 7)) (blkOk_by (N := ["_law_pot_here", "_law_models", "_law_at", "_law_last_here", "_law_spot", "_law_names_now", "_law_rows_here", "_law_keys", "_law_head", "_law_place", "_law_kept", "_law_row", "_law_key"]) (sc := C8.fnScope (top 90)) (by decide +kernel)) (fun _ _ _ _ _ => (pg_name (i := 12) sc90.nd rfl (Or.inl rfl))) (fun _ _ _ _ _ => pts_one (pt_cmpR op_gt (C8.pe_c c__law_draw hr (by decide) (by rfl) (pa_cons (pv 0) (pa_cons pe_int pa_nil))) pe_int (nomark _))) (fun _ _ _ _ _ => (pv 12)))
      (pss_cons (ps_set (i := 10) sc90.nd rfl (Or.inl rfl) (pe_ifExp (pt_cmpR (op_neNil hu) (pv 10) (pe_lst pa_nil) rfl) (pv 10) (pe_lst (pa_cons (pe_ix ix_list (pv 7) pe_int (fun _ _ => rfl)) pa_nil))))
      (pss_one (ps_ret (pe_op op_catA (pv 8) (pe_tup (pa_cons (pe_callTy (call_dictP rfl) (by rfl) T.b_dict (by decide +kernel) (pa_cons (pe_lc (own := [("_law_key", 12)]) (tt := tYes) rfl sc90.nd (pi_list (pv 10)) (blkOk_by (N := ["_law_pot_here", "_law_models", "_law_at", "_law_last_here", "_law_spot", "_law_names_now", "_law_rows_here", "_law_keys", "_law_head", "_law_place", "_law_kept", "_law_row", "_law_key"]) (sc := C8.fnScope (top 90)) (by decide +kernel)) (fun _ _ _ _ _ => (pg_name (i := 12) sc90.nd rfl (Or.inl rfl))) (fun _ _ _ _ _ => pts_nil) (fun _ _ _ _ _ => (pe_tup (pa_cons (pv 12) (pa_cons (pe_op op_add (pe_op op_add (pv 2) pe_int) (C8.pe_c c__law_draw hr (by decide) (by rfl) (pa_cons (pv 0) (pa_cons (pe_op op_sub (pv 3) (pv 2)) pa_nil)))) pa_nil))))) pa_nil)) pa_nil))))))))))), ?_⟩
    refine ⟨_, rfl, _, rfl, ml, mvs, rfl, .inl (.of (hs _ _ hml)), G, p, ms.length, by rw [hmvs.1]; rfl, by omega, by omega, hs, gp, pot, fun spot H1 hspot f1 pot1 => ?_⟩
    obtain ⟨m, hm⟩ := get_of_lt hspot
    obtain ⟨mv, hmv, hvm⟩ := hmvs.get hm
    have mok := hmo m (mem_of_get hm)
    have hvm0 := hvm
    obtain ⟨ma, na, ra, rfl, hma, hna, rl, rvs, rfl, hrl, hrvs⟩ := hvm
    refine ⟨_, rfl, _, rfl, _, _, _, _, rfl, rfl, .of (f1.s _ _ hml), atI_nat (j := spot) hmv, ma, _, rfl, .of (f1.s _ _ hma), rfl, _, _, rfl, _, _, rfl, rfl, ?_⟩
    refine nx_join (fun σ H2 => ∃ (x9 x10 x11 x12 : Option V) (kl ht : Addr) (ks : List Nat) (hd : List V) (G2 : Hp) (mk : List (Nat × Nat) → Nd), σ = [some (.ref p), some (.ref ml), some (nV at_), some (nV last), some (nV spot), some (.ref na), some (.ref rl), some (.ref kl), some (.ref ht), x9, x10, x11, x12] ∧ Fr Tb (fun b => b = p) G H G2 H2 ∧ Pot p H2 ∧ G2 kl = some (.lst (ks.map nV)) ∧ G2 ht = some (.tup hd) ∧ ks ≠ [] ∧ ks.length ≤ 10 ∧ ks.Nodup ∧ hd ≠ [] ∧ hd.length ≤ 3 ∧
      ∀ (br : List (Nat × Nat)) (G3 : Hp) (t d : Addr), br ≠ [] → (br.map (·.1)).Nodup → (∀ e ∈ br, e.1 ∈ ks ∧ at_ < e.2 ∧ e.2 < last + 1) → G3 t = some (.tup (hd ++ [.ref d])) → G3 d = some (.dK (brK br)) → VNd G3 (.ref t) (mk br) ∧ NodeOk ms at_ (last + 1) (mk br)) (fun D' hD' => ?_) ?_
    · refine ⟨_, rfl, G, p, 3, rfl, by decide, by decide, f1.s, gp, pot1, fun d0 H2 hd0 f2 pot2 => ?_⟩
      have mr8 := mok.r8
      have mr1 := mok.r1
      have hrl2 := f2.s _ _ hrl
      have m2 := mok.m2
      by_cases hz : d0 = 0
      · subst hz
        refine ⟨rfl, true, rfl, iteT ?_⟩
        refine ⟨_, rfl, rl, rvs, rfl, .inl (.of hrl2), _, rfl, ?_, fun kl nkl => ?_⟩
        · exact RgOk.of_le (by omega) (by have := hrvs.1; omega) (by omega) (by omega)
        have ekl : rgV 0 ((rvs.length : Nat) : Int) = (List.range m.rows.length).map nV := by
          unfold rgV
          rw [hrvs.1]
          simp [nV]
        rw [ekl]
        have f3 := (f1.trans f2).trans (Fr.alloc (o := .lst ((List.range m.rows.length).map nV)) f2.s nkl)
        have pot3 : Pot p (upd H2 kl (.lst ((List.range m.rows.length).map nV))) := pot2.upd (pot2.ne nkl)
        have hkl : upd G kl (.lst ((List.range m.rows.length).map nV)) kl = some (.lst ((List.range m.rows.length).map nV)) := upd_same
        refine ⟨_, rfl, len2, fun ht nht => ?_⟩
        have f4 := f3.trans (Fr.alloc (o := .tup [.str "look", nV spot]) f3.s nht)
        have e4 := same_upd (b := ht) (o := .tup [.str "look", nV spot]) (.refl _) (none_of_same f3.s nht)
        refine ⟨_, _, rfl, hD' _ _ ⟨_, _, _, _, kl, ht, List.range m.rows.length, [.str "look", nV spot], _, fun br => .look spot br, rfl, f4, pot3.upd (pot3.ne nht), e4 _ _ hkl, upd_same, ?_, ?_, List.nodup_range, by simp, by simp, fun br G3 t d bne bnd ball ht' hd' => ⟨⟨t, d, rfl, ht', hd'⟩, m, hm, bne, bnd, fun e he => ⟨List.mem_range.mp (ball e he).1, (ball e he).2⟩⟩⟩⟩
        · intro z
          have := congrArg List.length z
          rw [List.length_range] at this
          have e0 : m.rows.length = 0 := this
          omega
        · rw [List.length_range]; omega
      · refine ⟨rfl, false, congrArg V.bl (decide_eq_false (fun z => hz (by have := V.int.inj z; omega))), iteF ?_⟩
        have hna2 := f2.s _ _ hna
        have nlen : (names m.many).length = m.many := names_len (by omega)
        refine ⟨_, rfl, _, rfl, na, names m.many, rfl, .inl (.of hna2), G, p, m.many, by rw [nlen]; rfl, by have := mok.m1; omega, by omega, f2.s, gp, pot2, fun place H3 hpl f3 pot3 => ?_⟩
        have hrl3 := f3.s _ _ hrl
        refine ⟨_, rfl, _, rfl, ⟨_, .of hrl3⟩, fun D hD => ?_⟩
        refine lc_frY (T := Tb) (X := X0) (walk_list (a := rl) (xs := rvs)) G (ISome (fun _ v x => v = nV x) (fun _ x => x < 10)) f3.s hD (fun z => z) (by rw [hrvs.1]; exact Nat.le_trans mr8 (by rw [sizeLine_eq]; decide)) (fun H2 e => .of (e _ _ hrl)) ISome.nil (ISome.mono mNat) ISome.len (fun j y G4 H4 H5 acc N hj hI fr4 hDD gD y' k' => ?_) (fun G4 H4 acc hI fr4 sg hDD => ?_)
        · obtain ⟨rfl, hy⟩ := y'
          obtain ⟨r, hrj, hvr⟩ := hrvs.get' hy
          obtain ⟨rr, res, rfl, hrr, hres⟩ := hvr
          have rok := mok.row r (mem_of_get hrj)
          obtain ⟨e, he⟩ := get_of_lt (l := r) (i := place) (by omega)
          obtain ⟨ev, hev, hve⟩ := hres.get he
          obtain ⟨ea, rfl, hea⟩ := hve
          have s4 := fr4.g.trans fr4.s
          refine ⟨rfl, _, rfl, _, rfl, _, _, _, _, rfl, rfl, .of (s4 _ _ hrr), atI_nat (j := place) hev, _, _, _, _, rfl, rfl, .of (s4 _ _ hea), atI_nat (j := 0) rfl, k' _ _ _ (.refl fr4.s) (hI.step mNat (.refl _) (x := e.1) rfl (by have := (rok.2 e (mem_of_get he)).1; omega))⟩
        obtain ⟨xs, hxl, hxa, hxo⟩ := hI
        have eacc := all2_eq hxa
        subst eacc
        have pot4 := pot3.fr fr4
        have hxi : xs.map nV = (xs.map fun x => ((x : Nat) : Int)).map V.int := by rw [List.map_map]; rfl
        have hx8 : xs.length ≤ 8 := by rw [hxl, hrvs.1]; exact mr8
        refine ⟨D, xs.map fun x => ((x : Nat) : Int), rfl, .of (by rw [hDD, hxi]), by rw [List.length_map]; omega, fun sa c nsa hc => ?_⟩
        rw [List.length_map] at hc
        have fr5 := fr4.trans (Fr.alloc' (o := SetO w sa (fun j => decide (j ∈ xs.map fun x => ((x : Nat) : Int))) c) fr4.s nsa)
        have pot5 : Pot p (upd H4 sa (SetO w sa (fun j => decide (j ∈ xs.map fun x => ((x : Nat) : Int))) c)) := pot4.upd (pot4.ne nsa)
        refine ⟨sa, _, c, rfl, upd_same, by omega, fun ns kl pw hmem hlen nkl => ?_⟩
        have hns0 : ∀ k ∈ ns, ∃ x ∈ xs, k = ((x : Nat) : Int) := fun k hk => by
          have := of_decide_eq_true ((hmem k).mp hk)
          obtain ⟨x, h1, h2⟩ := List.mem_map.mp this
          exact ⟨x, h1, h2.symm⟩
        obtain ⟨ks, eks, knd⟩ := ints_nat pw (fun k hk => by obtain ⟨x, _, e⟩ := hns0 k hk; omega)
        have ekv : ns.map V.int = ks.map nV := by rw [eks, List.map_map]; rfl
        rw [ekv]
        have kxs : ∀ k ∈ ks, k ∈ xs := fun k hk => by
          obtain ⟨x, h1, h2⟩ := hns0 ((k : Nat) : Int) (by rw [eks]; exact List.mem_map.mpr ⟨k, hk, rfl⟩)
          rw [show k = x by omega]; exact h1
        have f6 := (((f1.trans f2).trans f3).trans fr5.of0).trans (Fr.alloc (o := .lst (ks.map nV)) fr5.s nkl)
        have pot6 : Pot p (upd _ kl (.lst (ks.map nV))) := pot5.upd (pot5.ne nkl)
        have e6 := same_upd (b := kl) (o := .lst (ks.map nV)) (.refl _) (none_of_same fr5.s nkl)
        have hkl : upd (upd G4 D (.lst (xs.map nV))) kl (.lst (ks.map nV)) kl = some (.lst (ks.map nV)) := upd_same
        have hna6 := f6.s _ _ (e6 _ _ (fr5.g _ _ hna))
        refine ⟨_, rfl, _, rfl, _, rfl, _, _, _, _, rfl, rfl, .of hna6, atI_nat (names_at (by omega) hpl), len3, fun ht nht => ?_⟩
        have f7 := f6.trans (Fr.alloc (o := .tup [.str "do", nV spot, .str (nmAt place)]) f6.s nht)
        have e7 := same_upd (b := ht) (o := .tup [.str "do", nV spot, .str (nmAt place)]) (.refl _) (none_of_same f6.s nht)
        refine ⟨_, _, rfl, hD' _ _ ⟨_, _, _, _, kl, ht, ks, [.str "do", nV spot, .str (nmAt place)], _, fun br => .act spot place br, rfl, f7, pot6.upd (pot6.ne nht), e7 _ _ hkl, upd_same, ?_, ?_, knd, by simp, by simp, fun br G3 t d bne bnd ball ht' hd' => ⟨⟨t, d, rfl, ht', hd'⟩, m, hm, hpl, bne, bnd, fun e he => ⟨?_, (ball e he).2⟩⟩⟩⟩
        · intro z
          subst z
          obtain ⟨x, hx⟩ := get_of_lt (l := xs) (i := 0) (by rw [hxl, hrvs.1]; omega)
          have := (hmem ((x : Nat) : Int)).mpr (decide_eq_true (List.mem_map.mpr ⟨x, mem_of_get hx, rfl⟩))
          rw [eks] at this
          simp at this
        · have : ks.length = c := by rw [← hlen, eks, List.length_map]
          omega
        · obtain ⟨j, hj⟩ := List.getElem?_of_mem (kxs _ (ball e he).1)
          exact hxo j _ hj
    · rintro σ H2 ⟨x9, x10, x11, x12, kl, ht, ks, hd, G2, mk, rfl, f2, pot2, hkl, hht, kne, k10, knd, hdn, hd3, fin⟩
      have gp2 := f2.gp gp pot
      refine ⟨_, rfl, _, rfl, ⟨_, .of (f2.s _ _ hkl)⟩, fun D hD => ?_⟩
      refine lc_pot (T := Tb) (walk_list (a := kl) (xs := ks.map nV)) G2 (fun i _ acc => ∃ xs : List Nat, acc = xs.map nV ∧ xs.Sublist (ks.take i)) f2.s gp2 pot2 hD (by rw [List.length_map]; exact Nat.le_trans k10 (by rw [sizeLine_eq]; decide)) (fun H2 e => .of (e _ _ hkl)) ⟨[], rfl, List.nil_sublist _⟩ (fun _ _ _ _ _ h => h) (fun i G acc ⟨xs, h1, h2⟩ => by rw [h1, List.length_map]; exact Nat.le_trans h2.length_le (by rw [List.length_take]; omega)) (fun j y G3 H3 H4 acc N M hj hI fr3 gp3 pot3 hDD gD y' k1 k0 => ?_) (fun G3 H3 acc hI fr3 hD3 gp3 pot3 hDD => ?_)
      · obtain ⟨rfl, hy⟩ := y'
        rw [List.length_map] at hj
        obtain ⟨x, hx⟩ := get_of_lt hj
        have e2 : some (nV x) = some y := (get_nV hx).symm.trans hy
        cases e2
        obtain ⟨xs, rfl, hsub⟩ := hI
        refine ⟨rfl, _, rfl, G3, p, 6, rfl, by decide, by decide, fr3.s, gp3, pot3, fun d H4 hd f4 pot4 => ⟨_, _, rfl, rfl, ?_⟩⟩
        by_cases hd0 : 0 < d
        · exact ⟨true, congrArg V.bl (decide_eq_true (by omega)), iteT ⟨_, rfl, k1 _ _ _ f4 pot4 ⟨xs ++ [x], by rw [List.map_append]; rfl, sub_step hsub hx⟩⟩⟩
        · exact ⟨false, congrArg V.bl (decide_eq_false (by omega)), iteF (k0 _ _ f4 pot4 ⟨xs, rfl, sub_skip hsub⟩)⟩
      · obtain ⟨xs, rfl, hsub⟩ := hI
        rw [List.length_map] at hsub
        rw [List.take_of_length_le (Nat.le_refl _)] at hsub
        have f3' := f2.trans fr3
        refine nx_join (fun σ H4 => ∃ (x11 x12 : Option V) (k2 : Addr) (ys : List Nat) (G4 : Hp), σ = [some (.ref p), some (.ref ml), some (nV at_), some (nV last), some (nV spot), some (.ref na), some (.ref rl), some (.ref kl), some (.ref ht), x9, some (.ref k2), x11, x12] ∧ Fr Tb (fun b => b = p) G H G4 H4 ∧ Pot p H4 ∧ G4 k2 = some (.lst (ys.map nV)) ∧ G4 ht = some (.tup hd) ∧ ys ≠ [] ∧ ys.Sublist ks) (fun D' hD' => ?_) ?_
        · refine ⟨_, rfl, Nat.zero_le _, fun e0 ne0 => ?_⟩
          have f4 := f3'.trans (Fr.alloc' (o := .lst []) fr3.s ne0)
          have pot4 : Pot p (upd H3 e0 (.lst [])) := pot3.upd (pot3.ne ne0)
          have hD4 : upd H3 e0 (.lst []) D = some (.lst (xs.map nV)) := upd_keep ne0 _ _ hDD
          have he0 : upd H3 e0 (.lst []) e0 = some (.lst []) := upd_same
          generalize upd H3 e0 (.lst []) = H4 at f4 pot4 hD4 he0 ⊢
          refine ⟨D, e0, _, rfl, rfl, .of hD4, .of he0, ?_⟩
          by_cases hx : xs = []
          · subst hx
            obtain ⟨k0, hk0⟩ : ∃ k0, ks[0]? = some k0 := get_of_lt (Nat.pos_of_ne_zero fun z => kne (List.length_eq_zero_iff.mp z))
            refine ⟨false, rfl, iteF ⟨_, rfl, _, _, _, _, rfl, rfl, .of (f4.s _ _ (fr3.g _ _ hkl)), atI_nat (get_nV hk0), len1, fun k2 nk2 => ?_⟩⟩
            have f5 := f4.trans (Fr.alloc (o := .lst [nV k0]) f4.s nk2)
            have e5 := same_upd (b := k2) (o := .lst [nV k0]) (.refl _) (none_of_same f4.s nk2)
            refine hD' _ _ ⟨_, _, k2, [k0], _, rfl, f5, pot4.upd (pot4.ne nk2), upd_same, e5 _ _ (fr3.g _ _ hht), by simp, ?_⟩
            exact List.singleton_sublist.mpr (mem_of_get hk0)
          · refine ⟨true, ?_, iteT ⟨_, rfl, hD' _ _ ⟨_, _, D, xs, _, rfl, f4, pot4, hD3, fr3.g _ _ hht, hx, hsub⟩⟩⟩
            cases xs with
            | nil => exact absurd rfl hx
            | cons _ _ => rfl
        · rintro σ H4 ⟨x11, x12, k2, ys, G4, rfl, f4, pot4, hk2, hht4, yne, ysub⟩
          have gp4 := f4.gp gp pot
          have ynd := knd.sublist ysub
          have y10 : ys.length ≤ 10 := Nat.le_trans ysub.length_le k10
          refine ⟨_, rfl, _, rfl, _, rfl, ⟨_, .of (f4.s _ _ hk2)⟩, fun D2 hD2 => ?_⟩
          refine lc_potY (T := Tb) (walk_list (a := k2) (xs := ys.map nV)) G4 (ISome VEnt (fun j e => ys[j]? = some e.1 ∧ at_ < e.2 ∧ e.2 < last + 1)) f4.s gp4 pot4 hD2 (by rw [List.length_map]; exact Nat.le_trans y10 (by rw [sizeLine_eq]; decide)) (fun H2 e => .of (e _ _ hk2)) ISome.nil (ISome.mono mEnt) ISome.len (fun j y G5 H5 H6 acc N hj hI fr5 gp5 pot5 hDD2 gD2 y' k' => ?_) (fun G5 H5 acc hI fr5 hD5 gp5 pot5 hDD2 => ?_)
          · obtain ⟨rfl, hy⟩ := y'
            rw [List.length_map] at hj
            obtain ⟨x, hx⟩ := get_of_lt hj
            have e2 : some (nV x) = some y := (get_nV hx).symm.trans hy
            cases e2
            have ecast : ((last : Nat) : Int) - ((at_ : Nat) : Int) = ((last - at_ : Nat) : Int) := by omega
            refine ⟨rfl, _, rfl, _, rfl, _, _, rfl, rfl, _, rfl, _, rfl, _, rfl, _, _, rfl, rfl, G5, p, last - at_, ?_, by omega, by omega, fr5.s, gp5, pot5, fun d H6 hd f6 pot6 => ⟨_, _, rfl, rfl, len2, fun t nt => k' _ _ _ (f6.trans (Fr.alloc f6.s nt)) (pot6.upd (pot6.ne nt)) (hI.step mEnt (same_upd (.refl _) (none_of_same f6.s nt)) (ent_of (x := x) (y := at_ + 1 + d) upd_same rfl (by omega)) ⟨hx, by show at_ < at_ + 1 + d; omega, by show at_ + 1 + d < last + 1; omega⟩)⟩⟩
            show [V.ref p, V.int (((last : Nat) : Int) - ((at_ : Nat) : Int))] = _
            rw [ecast]
            rfl
          · obtain ⟨br, hbl, hba, hbo⟩ := hI
            rw [List.length_map] at hbl
            obtain ⟨ps, eps, hps⟩ := paired_of (K := K) fr5.s hba
            have ebr : br.map (·.1) = ys := by
              refine List.ext_getElem? fun j => ?_
              rw [List.getElem?_map]
              by_cases hj : j < br.length
              · obtain ⟨e, he⟩ := get_of_lt hj
                rw [he, (hbo j e he).1]
                rfl
              · rw [List.getElem?_eq_none (by omega), List.getElem?_eq_none (by omega)]
                rfl
            have bnd : (br.map (·.1)).Nodup := by rw [ebr]; exact ynd
            refine ⟨D2, ps, brK br, rfl, .of (by rw [hDD2, eps]), hps, fun d nd => ?_⟩
            rw [merge_brK bnd]
            have f6 := (f4.trans fr5).trans (Fr.alloc (o := .dK (brK br)) fr5.s nd)
            have pot6 : Pot p (upd H5 d (.dK (brK br))) := pot5.upd (pot5.ne nd)
            have e6 := same_upd (b := d) (o := .dK (brK br)) (.refl _) (none_of_same fr5.s nd)
            have hd6 : upd (upd G5 D2 (.lst acc)) d (.dK (brK br)) d = some (.dK (brK br)) := upd_same
            have hht6 := e6 _ _ (fr5.g _ _ hht4)
            generalize upd (upd G5 D2 (.lst acc)) d (.dK (brK br)) = G6 at f6 hd6 hht6
            generalize upd H5 d (.dK (brK br)) = H6 at f6 pot6 ⊢
            refine ⟨len1, fun tq ntq => ?_⟩
            have f7 := f6.trans (Fr.alloc' (o := .tup [.ref d]) f6.s ntq)
            have pot7 : Pot p (upd H6 tq (.tup [.ref d])) := pot6.upd (pot6.ne ntq)
            have htq : upd H6 tq (.tup [.ref d]) tq = some (.tup [.ref d]) := upd_same
            generalize upd H6 tq (.tup [.ref d]) = H7 at f7 pot7 htq ⊢
            refine ⟨ht, tq, hd, [.ref d], rfl, rfl, .of (f7.s _ _ hht6), .of htq, Nat.le_trans (m := 4) (by simp; omega) len4, fun z => absurd z hdn, fun _ z => absurd z (by simp), fun _ _ t nt => ?_⟩
            have f8 := f7.trans (Fr.alloc (o := .tup (hd ++ [.ref d])) f7.s nt)
            have e8 := same_upd (b := t) (o := .tup (hd ++ [.ref d])) (.refl _) (none_of_same f7.s nt)
            have bne : br ≠ [] := fun z => yne (by rw [← ebr, z]; rfl)
            have bok : ∀ e ∈ br, e.1 ∈ ks ∧ at_ < e.2 ∧ e.2 < last + 1 := fun e he => by
              obtain ⟨j, hj⟩ := List.getElem?_of_mem he
              have := hbo j e hj
              exact ⟨ysub.subset (mem_of_get this.1), this.2⟩
            have := fin br (upd G6 t (.tup (hd ++ [.ref d]))) t d bne bnd bok upd_same (e8 _ _ hd6)
            exact kk _ _ _ (mk br) f8 (pot7.upd (pot7.ne nt)) this.1 this.2
end
end K57
set_option Elab.async false
set_option linter.all false
set_option autoImplicit false
set_option maxRecDepth 100000
set_option maxHeartbeats 4000000
/-! K58M: a script, a plan. -/
namespace K57
open PySem PySem.Spec PyProof.Rows L2 LamX
theorem pick3 {d : Nat} {v : V} (h : [V.int 3, V.int 3, V.int 8][d]? = some v) : ∃ x : Nat, 1 ≤ x ∧ x ≤ 8 ∧ v = nV x := by
  match d, h with
  | 0, h => cases h; exact ⟨3, by omega, by omega, rfl⟩
  | 1, h => cases h; exact ⟨3, by omega, by omega, rfl⟩
  | 2, h => cases h; exact ⟨8, by omega, by omega, rfl⟩
  | d + 3, h => simp at h
def LScOk (ms : List Md) (hands most : Nat) (sc : List Nd) : Prop := ∃ k, 1 ≤ k ∧ k ≤ most ∧ k < sc.length ∧ sc.length ≤ 7 ∧ ∀ (i : Nat) (nd : Nd), sc[i]? = some nd → (i < k → NodeOk ms i sc.length nd) ∧ (k ≤ i → ∃ h, h < hands ∧ nd = .fin h)
theorem mSc' (G G' : Hp) (v : V) (x : List Nd) (e : Same G G') (h : VSc G v x) : VSc G' v x := VSc.mono e h
theorem mBeg' (G G' : Hp) (v : V) (x : Md × Nat) (e : Same G G') (h : VBeg G v x) : VBeg G' v x := VBeg.mono e h
theorem scOk_of {ms : List Md} {ths : List (Md × Nat)} {hands most : Nat} {sc : List Nd} (e : ths.map (·.1) = ms) (h : LScOk ms hands most sc) : ∃ k, k ≤ most ∧ ScOk ths hands sc k := by
  obtain ⟨k, k1, km, kl, l7, hn⟩ := h
  have get : ∀ {t : Nat} {m : Md}, ms[t]? = some m → ∃ s, ths[t]? = some (m, s) := fun {t m} h => by
    rw [← e, List.getElem?_map] at h
    cases h2 : ths[t]? with
    | none => rw [h2] at h; cases h
    | some x => rw [h2] at h; cases h; exact ⟨x.2, rfl⟩
  refine ⟨k, km, k1, kl, l7, fun i nd h => ?_⟩
  obtain ⟨h1, h2⟩ := hn i nd h
  rcases Nat.lt_or_ge i k with z | z
  · have := h1 z
    cases nd with
    | look t br => obtain ⟨m, hm, hb⟩ := this; obtain ⟨s, hs⟩ := get hm; exact ⟨⟨m, s, hs, hb⟩, by simp [Nd.inner, z]⟩
    | act t j br => obtain ⟨m, hm, hj, hb⟩ := this; obtain ⟨s, hs⟩ := get hm; exact ⟨⟨m, s, hs, hj, hb⟩, by simp [Nd.inner, z]⟩
    | fin h => exact this.elim
  · obtain ⟨h, hh, rfl⟩ := h2 z
    exact ⟨hh, by simp [Nd.inner]; omega⟩
section
variable {P : Program} {w : World} {K : PySem.W.Frag} {mg : Str → Option Value} {base : Heap} {C : Cs} {Tb : List (Addr × Str)}
def spLScript (Tb : List (Addr × Str)) : Sp := fun vs H Q _ => ∃ (G : Hp) (p ml : Addr) (mvs : List V) (ms : List Md) (hands most : Nat), vs = [.ref p, .ref ml, nV hands, nV most] ∧ G ml = some (.lst mvs) ∧ All2 (VMd G) mvs ms ∧ (∀ m ∈ ms, MdOk m) ∧ 1 ≤ ms.length ∧ ms.length ≤ 4 ∧ 1 ≤ hands ∧ hands ≤ 4 ∧ 1 ≤ most ∧ most ≤ 3 ∧ Same G H ∧ G p = none ∧ Pot p H ∧
  ∀ v G' H' sc, Fr Tb (fun b => b = p) G H G' H' → Pot p H' → VSc G' v sc → LScOk ms hands most sc → Q v H'
theorem sc91 : FnScope ["_law_pot_here", "_law_models", "_law_hands_now", "_law_most", "_law_inner", "_law_ends", "_law_last_here", "_law_found", "_law_at", "_law_turn"] ["_law_pot_here", "_law_models", "_law_hands_now", "_law_most"] (C8.fnScope (top 91)) := C8.fnScope_by (by decide +kernel)
theorem ok_lscript (T : Txt K mg C) {f : Addr} {fd : FuncData} (F : C8.Def K mg "_law_script" (top 91) f fd) (b : Binds K fd ["_law_pot_here", "_law_models", "_law_hands_now", "_law_most"] []) (c__law_draw : Cl P w K mg base 1 "_law_draw" (spDraw Tb) []) (c__law_node : Cl P w K mg base 2 "_law_node" (spLNode Tb) []) :
    Cl P w K mg base 3 "_law_script" (spLScript Tb) [] := by
  refine C8.cal0 F b .nil sc91 (fun vs H Q E h => ?_) (fun cdv A outer s H vs Q E hr h => ?_)
  · obtain ⟨G, p, ml, mvs, ms, hands, most, rfl, _⟩ := h
    rfl
  · obtain ⟨G, p, ml, mvs, ms, hands, most, rfl, hml, hmvs, hmo, m1, m4, h1, h4, t1, t3, hs, gp, pot, kk⟩ := h
    refine ⟨_, ((pss_cons (ps_par (i := 4) (j := 5) rfl sc91.nd rfl rfl (by decide) rfl rfl (pa_cons (pe_op op_add pe_int (C8.pe_c c__law_draw hr (by decide) (by rfl) (pa_cons (pv 0) (pa_cons (pv 3) pa_nil)))) (pa_cons (pe_op op_add pe_int (C8.pe_c c__law_draw hr (by decide) (by rfl) (pa_cons (pv 0) (pa_cons pe_int pa_nil)))) pa_nil)) rfl)
      (pss_cons (ps_set (i := 6) sc91.nd rfl (Or.inr rfl) (pe_op op_sub (pe_op op_add (pv 4) (pv 5)) pe_int))
      (pss_cons (ps_setLc (i := 7) (own := [("_law_at", 8)]) (tt := tYes) rfl sc91.nd rfl rfl (sw_true rfl rfl rfl (by decide +kernel)) (pi_range1 (by rfl) T.b_range (pa_cons (pv 4) pa_nil)) (blkOk_by (N := ["_law_pot_here", "_law_models", "_law_hands_now", "_law_most", "_law_inner", "_law_ends", "_law_last_here", "_law_found", "_law_at", "_law_turn"]) (sc := C8.fnScope (top 91)) (by decide +kernel)) (fun _ _ _ _ _ => (pg_name (i := 8) sc91.nd rfl (Or.inl rfl))) (fun _ _ _ _ _ => pts_nil) (fun _ _ _ _ _ => (C8.pe_c c__law_node hr (by decide) (by rfl) (pa_cons (pv 0) (pa_cons (pv 1) (pa_cons (pv 8) (pa_cons (pv 6) pa_nil)))))))
      (pss_one (ps_ret (pe_op op_cat (pv 7) (pe_lc (own := [("_law_turn", 9)]) (tt := tYes) rfl sc91.nd (pi_range1 (by rfl) T.b_range (pa_cons (pv 5) pa_nil)) (blkOk_by (N := ["_law_pot_here", "_law_models", "_law_hands_now", "_law_most", "_law_inner", "_law_ends", "_law_last_here", "_law_found", "_law_at", "_law_turn"]) (sc := C8.fnScope (top 91)) (by decide +kernel)) (fun _ _ _ _ _ => (pg_name (i := 9) sc91.nd rfl (Or.inl rfl))) (fun _ _ _ _ _ => pts_nil) (fun _ _ _ _ _ => (pe_tup (pa_cons pe_str (pa_cons (C8.pe_c c__law_draw hr (by decide) (by rfl) (pa_cons (pv 0) (pa_cons (pv 2) pa_nil))) pa_nil)))))))))))), ?_⟩
    refine ⟨_, rfl, _, rfl, G, p, most, rfl, by omega, by omega, hs, gp, pot, fun d1 H1 hd1 f1 pot1 => ⟨_, _, rfl, rfl, _, rfl, G, p, 2, rfl, by decide, by decide, f1.s, gp, pot1, fun d2 H2 hd2 f2 pot2 => ⟨_, _, rfl, rfl, _, _, rfl, ?_⟩⟩⟩
    have f12 := f1.trans f2
    have elast : (1 + (d1 : Int)) + (1 + (d2 : Int)) - 1 = ((d1 + d2 + 1 : Nat) : Int) := by omega
    refine ⟨_, rfl, _, rfl, _, _, rfl, rfl, _, _, rfl, rfl, ?_⟩
    refine ⟨_, rfl, _, rfl, ?_, ?_, fun D hD => ?_⟩
    · omega
    · omega
    have etn : (1 + (d1 : Int)).toNat = 1 + d1 := by omega
    refine lc_potY (T := Tb) walk_range G (ISome VNd (fun i nd => NodeOk ms i (d1 + d2 + 2) nd)) f2.s gp pot2 hD (by rw [etn]; exact Nat.le_trans (m := 3) (by omega) len3) (fun H2 e => trivial) ISome.nil (ISome.mono mNd) ISome.len (fun j y G3 H3 H4 acc N hj hI fr3 gp3 pot3 hDD gD y' k' => ?_) (fun G3 H3 acc hI fr3 hD3 gp3 pot3 hDD => ?_)
    · obtain ⟨rfl, rfl⟩ := y'
      rw [etn] at hj
      refine ⟨rfl, _, rfl, _, rfl, _, rfl, _, rfl, G3, p, ml, mvs, ms, j, d1 + d2 + 1, ?_, fr3.g _ _ hml, hmvs.imp fun v x h => VMd.mono fr3.g h, hmo, m1, m4, by omega, by omega, fr3.s, gp3, pot3, fun v G4 H4 nd f4 pot4 hv ho => k' _ _ _ f4 pot4 (hI.step mNd f4.g hv ho)⟩
      show [V.ref p, V.ref ml, V.int (0 + (j : Int)), V.int ((1 + (d1 : Int)) + (1 + (d2 : Int)) - 1)] = _
      rw [elast, Int.zero_add]
      rfl
    · obtain ⟨ns, hnl, hna, hno⟩ := hI
      rw [etn] at hnl
      have f3 := f12.trans fr3
      generalize upd G3 D (.lst acc) = G4 at f3 hna hD3 gp3 fr3
      refine ⟨_, rfl, _, rfl, _, rfl, ?_, ?_, fun D2 hD2 => ?_⟩
      · omega
      · omega
      have etn2 : (1 + (d2 : Int)).toNat = 1 + d2 := by omega
      refine lc_potY (T := Tb) walk_range G4 (ISome VNd (fun i nd => ∃ h, h < hands ∧ nd = Nd.fin h)) fr3.s gp3 pot3 hD2 (by rw [etn2]; exact Nat.le_trans (m := 3) (by omega) len3) (fun H2 e => trivial) ISome.nil (ISome.mono mNd) ISome.len (fun j y G5 H5 H6 acc2 N hj hI fr5 gp5 pot5 hDD2 gD2 y' k' => ?_) (fun G5 H5 acc2 hI fr5 hD5 gp5 pot5 hDD2 => ?_)
      · obtain ⟨rfl, rfl⟩ := y'
        refine ⟨rfl, _, rfl, _, rfl, G5, p, hands, rfl, by omega, by omega, fr5.s, gp5, pot5, fun d H6 hd f6 pot6 => ⟨len2, fun t nt => k' _ _ _ (f6.trans (Fr.alloc f6.s nt)) (pot6.upd (pot6.ne nt)) (hI.step mNd (same_upd (.refl _) (none_of_same f6.s nt)) (x := Nd.fin d) ⟨t, rfl, upd_same⟩ ⟨d, hd, rfl⟩)⟩⟩
      · obtain ⟨es, hel, hea, heo⟩ := hI
        rw [etn2] at hel
        have f5 := f3.trans fr5
        generalize upd G5 D2 (.lst acc2) = G6 at f5 hea hD5 gp5 fr5
        have hlen : acc.length + acc2.length ≤ 5 := by rw [hna.1, hea.1]; omega
        refine ⟨D, D2, acc, acc2, rfl, rfl, fr5.s _ _ (fr5.g _ _ hD3), hDD2, Nat.le_trans hlen len5, fun l nl => ?_⟩
        have f6 := f5.trans (Fr.alloc (o := .lst (acc ++ acc2)) f5.s nl)
        have e6 := same_upd (b := l) (o := .lst (acc ++ acc2)) (.refl _) (none_of_same f5.s nl)
        refine kk _ _ _ (ns ++ es) f6 (pot5.upd (pot5.ne nl)) ⟨l, _, rfl, upd_same, (hna.imp fun v x h => VNd.mono (fr5.g.trans e6) h).append (hea.imp fun v x h => VNd.mono e6 h)⟩ ⟨1 + d1, by omega, by omega, by rw [List.length_append]; omega, by rw [List.length_append]; omega, fun i nd h => ⟨fun hi => ?_, fun hi => ?_⟩⟩
        · rw [List.getElem?_append_left (by omega)] at h
          have := hno i nd h
          rw [List.length_append, show ns.length + es.length = d1 + d2 + 2 by omega]
          exact this
        · rw [List.getElem?_append_right (by omega)] at h
          exact heo _ nd h
def spLPlan (Tb : List (Addr × Str)) : Sp := fun vs H Q _ => ∃ (G : Hp) (p : Addr) (hands most : Nat), vs = [.ref p, nV hands, nV most] ∧ 2 ≤ hands ∧ hands ≤ 4 ∧ 1 ≤ most ∧ most ≤ 3 ∧ hands * most ≤ 9 ∧ Same G H ∧ G p = none ∧ Pot p H ∧
  ∀ v G' H' Pl, Fr Tb (fun b => b = p) G H G' H' → Pot p H' → VPl G' v Pl → PlOk Pl → Q v H'
theorem sc92 : FnScope ["_law_pot_here", "_law_hands_now", "_law_most", "_law_models", "_law_begins", "_law_turn", "_law_model_here", "_law_hand"] ["_law_pot_here", "_law_hands_now", "_law_most"] (C8.fnScope (top 92)) := C8.fnScope_by (by decide +kernel)
theorem ok_lplan (T : Txt K mg C) {f : Addr} {fd : FuncData} (F : C8.Def K mg "_law_plan" (top 92) f fd) (b : Binds K fd ["_law_pot_here", "_law_hands_now", "_law_most"] []) (c__law_draw : Cl P w K mg base 1 "_law_draw" (spDraw Tb) []) (c__law_pick : Cl P w K mg base 2 "_law_pick" (spPick Tb) []) (c__law_model : Cl P w K mg base 4 "_law_model" (spModel Tb) []) (c__law_script : Cl P w K mg base 3 "_law_script" (spLScript Tb) []) :
    Cl P w K mg base 5 "_law_plan" (spLPlan Tb) [] := by
  refine C8.cal0 F b .nil sc92 (fun vs H Q E h => ?_) (fun cdv A outer s H vs Q E hr h => ?_)
  · obtain ⟨G, p, hands, most, rfl, _⟩ := h
    rfl
  · obtain ⟨G, p, hands, most, rfl, h2, h4, t1, t3, hm9, hs, gp, pot, kk⟩ := h
    refine ⟨_, ((pss_cons (ps_set (i := 3) sc92.nd rfl (Or.inr rfl) (pe_lc (own := [("_law_turn", 5)]) (tt := tYes) rfl sc92.nd (pi_range1 (by rfl) T.b_range (pa_cons (pe_op op_add pe_int (C8.pe_c c__law_draw hr (by decide) (by rfl) (pa_cons (pv 0) (pa_cons pe_int pa_nil)))) pa_nil)) (blkOk_by (N := ["_law_pot_here", "_law_hands_now", "_law_most", "_law_models", "_law_begins", "_law_turn", "_law_model_here", "_law_hand"]) (sc := C8.fnScope (top 92)) (by decide +kernel)) (fun _ _ _ _ _ => (pg_name (i := 5) sc92.nd rfl (Or.inl rfl))) (fun _ _ _ _ _ => pts_nil) (fun _ _ _ _ _ => (C8.pe_c c__law_model hr (by decide) (by rfl) (pa_cons (pv 0) (pa_cons (C8.pe_c c__law_pick hr (by decide) (by rfl) (pa_cons (pv 0) (pa_cons (pe_lst (pa_cons pe_int (pa_cons pe_int (pa_cons pe_int pa_nil)))) pa_nil))) (pa_cons pe_int pa_nil)))))))
      (pss_cons (ps_setLc (i := 4) (own := [("_law_model_here", 6)]) (tt := tYes) rfl sc92.nd rfl rfl (sw_true rfl rfl rfl (by decide +kernel)) (pi_list (pv 3)) (blkOk_by (N := ["_law_pot_here", "_law_hands_now", "_law_most", "_law_models", "_law_begins", "_law_turn", "_law_model_here", "_law_hand"]) (sc := C8.fnScope (top 92)) (by decide +kernel)) (fun _ _ _ _ _ => (pg_name (i := 6) sc92.nd rfl (Or.inl rfl))) (fun _ _ _ _ _ => pts_nil) (fun _ _ _ _ _ => (pe_tup (pa_cons (pv 6) (pa_cons (C8.pe_c c__law_draw hr (by decide) (by rfl) (pa_cons (pv 0) (pa_cons (pe_callB (call_len_seqK K) (by rfl) T.b_len (by decide +kernel) (pa_cons (pe_ix (ix_tupK K) (pv 6) pe_int (fun _ _ => rfl)) pa_nil)) pa_nil))) pa_nil)))))
      (pss_one (ps_ret (pe_tup (pa_cons (pv 4) (pa_cons (pe_lc (own := [("_law_hand", 7)]) (tt := tYes) rfl sc92.nd (pi_range1 (by rfl) T.b_range (pa_cons (pv 1) pa_nil)) (blkOk_by (N := ["_law_pot_here", "_law_hands_now", "_law_most", "_law_models", "_law_begins", "_law_turn", "_law_model_here", "_law_hand"]) (sc := C8.fnScope (top 92)) (by decide +kernel)) (fun _ _ _ _ _ => (pg_name (i := 7) sc92.nd rfl (Or.inl rfl))) (fun _ _ _ _ _ => pts_nil) (fun _ _ _ _ _ => (C8.pe_c c__law_script hr (by decide) (by rfl) (pa_cons (pv 0) (pa_cons (pv 3) (pa_cons (pv 1) (pa_cons (pv 2) pa_nil))))))) pa_nil)))))))), ?_⟩
    refine ⟨_, rfl, G, p, 4, rfl, by decide, by decide, hs, gp, pot, fun d1 H1 hd1 f1 pot1 => ⟨_, _, rfl, rfl, _, rfl, ?_, ?_, fun D hD => ?_⟩⟩
    · omega
    · omega
    have etn : (1 + (d1 : Int)).toNat = 1 + d1 := by omega
    refine lc_potY (T := Tb) walk_range G (ISome VMd (fun _ m => MdOk m)) f1.s gp pot1 hD (by rw [etn]; exact Nat.le_trans (m := 4) (by omega) len4) (fun H2 e => trivial) ISome.nil (ISome.mono mMd') ISome.len (fun j y G3 H3 H4 acc N hj hI fr3 gp3 pot3 hDD gD y' k' => ?_) (fun G3 H3 acc hI fr3 hD3 gp3 pot3 hDD => ?_)
    · obtain ⟨rfl, rfl⟩ := y'
      refine ⟨rfl, _, rfl, _, rfl, len3, fun q nq => ?_⟩
      have f4 : Fr Tb (fun b => b = p) G3 H4 (upd G3 q (.lst [.int 3, .int 3, .int 8])) (upd H4 q (.lst [.int 3, .int 3, .int 8])) := Fr.alloc fr3.s nq
      refine ⟨upd G3 q (.lst [.int 3, .int 3, .int 8]), p, q, _, rfl, upd_same, by decide, by decide, f4.s, f4.gp gp3 pot3, pot3.upd (pot3.ne nq), fun d v H5 hv f5 pot5 => ?_⟩
      obtain ⟨x, x1, x8, rfl⟩ := pick3 hv
      refine ⟨_, p, x, rfl, x1, x8, f5.s, f4.gp gp3 pot3, pot5, fun v G6 H6 m f6 pot6 hv hm => k' _ _ _ ((f4.trans f5).trans f6) pot6 (hI.step mMd' (f4.g.trans f6.g) hv hm)⟩
    · obtain ⟨ms, hml, hma, hmo⟩ := hI
      rw [etn] at hml
      have f3 := f1.trans fr3
      generalize upd G3 D (.lst acc) = G4 at f3 hma hD3 gp3 fr3
      refine ⟨_, rfl, _, rfl, ⟨_, .of hDD⟩, fun D2 hD2 => ?_⟩
      have acl : acc.length = ms.length := hma.1
      refine lc_potY (T := Tb) (walk_list (a := D) (xs := acc)) G4 (ISome VBeg (fun i x => ms[i]? = some x.1 ∧ x.2 < x.1.rows.length)) fr3.s gp3 pot3 hD2 (by rw [acl]; exact Nat.le_trans (m := 4) (by omega) len4) (fun H2 e => .of (e _ _ hD3)) ISome.nil (ISome.mono mBeg') ISome.len (fun j y G5 H5 H6 acc2 N hj hI fr5 gp5 pot5 hDD2 gD2 y' k' => ?_) (fun G5 H5 acc2 hI fr5 hD5 gp5 pot5 hDD2 => ?_)
      · obtain ⟨rfl, hy⟩ := y'
        obtain ⟨m, hm, hvm⟩ := hma.get' hy
        have mok := hmo j m hm
        have hvm5 := VMd.mono fr5.g hvm
        obtain ⟨ma, na, ra, rfl, hmA, hna, rl, rvs, rfl, hrl, hrvs⟩ := id hvm5
        have r1 := mok.r1
        have r8 := mok.r8
        refine ⟨rfl, _, rfl, _, rfl, _, rfl, _, _, _, _, rfl, rfl, .of (fr5.s _ _ hmA), atI_nat (j := 1) rfl, rl, rvs, rfl, .inl (.of (fr5.s _ _ hrl)), G5, p, m.rows.length, by rw [hrvs.1]; rfl, by omega, by omega, fr5.s, gp5, pot5, fun d H6 hd f6 pot6 => ⟨len2, fun t nt => ?_⟩⟩
        have e6 := same_upd (b := t) (o := .tup [.ref ma, nV d]) (.refl _) (none_of_same f6.s nt)
        exact k' _ _ _ (f6.trans (Fr.alloc f6.s nt)) (pot6.upd (pot6.ne nt)) (hI.step mBeg' e6 (x := (m, d)) ⟨t, .ref ma, rfl, upd_same, VMd.mono e6 hvm5⟩ ⟨hm, hd⟩)
      · obtain ⟨ths, htl, hta, hto⟩ := hI
        rw [acl] at htl
        have f5 := f3.trans fr5
        have hma5 := hma.imp fun v x h => VMd.mono fr5.g h
        have hD35 := fr5.g _ _ hD3
        generalize upd G5 D2 (.lst acc2) = G6 at f5 hta hD5 gp5 fr5 hma5 hD35
        have eths : ths.map (·.1) = ms := by
          refine List.ext_getElem? fun j => ?_
          rw [List.getElem?_map]
          by_cases hj : j < ths.length
          · obtain ⟨e, he⟩ := get_of_lt hj
            rw [he, (hto j e he).1]
            rfl
          · rw [List.getElem?_eq_none (by omega), List.getElem?_eq_none (by omega)]
            rfl
        have hmo' : ∀ m ∈ ms, MdOk m := fun m hm => by
          obtain ⟨j, hj⟩ := List.getElem?_of_mem hm
          exact hmo j m hj
        refine ⟨_, rfl, _, rfl, _, rfl, ?_, ?_, fun D3 hD3' => ?_⟩
        · omega
        · omega
        refine lc_potY (T := Tb) walk_range G6 (ISome VSc (fun _ sc => LScOk ms hands most sc)) fr5.s gp5 pot5 hD3' (by rw [Int.toNat_natCast]; exact Nat.le_trans h4 len4) (fun H2 e => trivial) ISome.nil (ISome.mono mSc') ISome.len (fun j y G7 H7 H8 acc3 N hj hI fr7 gp7 pot7 hDD3 gD3 y' k' => ?_) (fun G7 H7 acc3 hI fr7 hD7 gp7 pot7 hDD3 => ?_)
        · obtain ⟨rfl, rfl⟩ := y'
          refine ⟨rfl, _, rfl, _, rfl, _, rfl, _, rfl, G7, p, D, acc, ms, hands, most, rfl, fr7.g _ _ hD35, hma5.imp fun v x h => VMd.mono fr7.g h, hmo', by omega, by omega, by omega, h4, t1, t3, fr7.s, gp7, pot7, fun v G8 H8 sc f8 pot8 hv ho => k' _ _ _ f8 pot8 (hI.step mSc' f8.g hv ho)⟩
        · obtain ⟨scs, hsl, hsa, hso⟩ := hI
          rw [Int.toNat_natCast] at hsl
          have f7 := f5.trans fr7
          have hta7 := hta.imp fun v x h => VBeg.mono fr7.g h
          have hD57 := fr7.g _ _ hD5
          generalize upd G7 D3 (.lst acc3) = G8 at f7 hsa hD7 gp7 fr7 hta7 hD57
          refine ⟨len2, fun t nt => ?_⟩
          have f8 := f7.trans (Fr.alloc (o := .tup [.ref D2, .ref D3]) f7.s nt)
          have e8 := same_upd (b := t) (o := .tup [.ref D2, .ref D3]) (.refl _) (none_of_same f7.s nt)
          refine kk _ _ _ ⟨ths, scs⟩ f8 (pot7.upd (pot7.ne nt)) ⟨t, D2, D3, acc2, acc3, rfl, upd_same, e8 _ _ hD57, hta7.imp fun v x h => VBeg.mono e8 h, e8 _ _ hD7, hsa.imp fun v x h => VSc.mono e8 h⟩ ⟨by show 1 ≤ ths.length; omega, by show ths.length ≤ 4; omega, fun x hx => ?_, by show 2 ≤ scs.length; omega, by show scs.length ≤ 4; omega, most, by show scs.length * most ≤ 9; rw [hsl]; exact hm9, fun sc hsc => ?_⟩
          · obtain ⟨j, hj⟩ := List.getElem?_of_mem (show x ∈ ths from hx)
            have := hto j x hj
            exact ⟨hmo j _ this.1, this.2⟩
          · obtain ⟨j, hj⟩ := List.getElem?_of_mem (show sc ∈ scs from hsc)
            show ∃ k, k ≤ most ∧ ScOk ths scs.length sc k
            rw [hsl]
            exact scOk_of eths (hso j sc hj)
end
end K57
set_option Elab.async false
set_option linter.all false
set_option autoImplicit false
set_option maxRecDepth 100000
set_option maxHeartbeats 4000000
/-! K58N: marks, telling. -/
namespace K57
open PySem PySem.Spec PyProof.Rows L2 LamX
abbrev Side := List (Nat × Nat) × List (Nat × Nat)
def VSide (G : Hp) (v : V) (s : Side) : Prop := ∃ t a b vs ws, v = .ref t ∧ G t = some (.tup [.ref a, .ref b]) ∧ G a = some (.lst vs) ∧ All2 (VEnt G) vs s.1 ∧ G b = some (.lst ws) ∧ All2 (VEnt G) ws s.2
theorem VSide.mono {G G' : Hp} {v : V} {s : Side} (e : Same G G') (h : VSide G v s) : VSide G' v s := let ⟨t, a, b, vs, ws, h1, h2, h3, h4, h5, h6⟩ := h; ⟨t, a, b, vs, ws, h1, e _ _ h2, e _ _ h3, h4.imp fun _ _ z => VEnt.mono e z, e _ _ h5, h6.imp fun _ _ z => VEnt.mono e z⟩
structure SideOk (n : Nat) (s : Side) : Prop where
  l1 : s.1.length = 2
  l2 : s.2.length = 1
  ok : ∀ e ∈ s.1 ++ s.2, e.1 ≤ 9 ∧ e.2 < n
theorem ent_at {G : Hp} {rl : Addr} {rvs : List V} {m : Md} (mok : MdOk m) (hrvs : All2 (VRow G) rvs m.rows) {st j : Nat} (h1 : st < m.rows.length) (h2 : j < m.many) :
    ∃ (rr : Addr) (res : List V) (ea : Addr) (e : Nat × Nat), rvs[st]? = some (.ref rr) ∧ G rr = some (.lst res) ∧ res[j]? = some (.ref ea) ∧ G ea = some (.tup [nV e.1, nV e.2]) ∧ e.1 ≤ 9 ∧ e.2 < m.rows.length := by
  obtain ⟨r, hr⟩ := get_of_lt h1
  obtain ⟨rv, hrv, rr, res, rfl, hrr, hres⟩ := hrvs.get hr
  have rok := mok.row r (mem_of_get hr)
  obtain ⟨e, he⟩ := get_of_lt (l := r) (i := j) (by omega)
  obtain ⟨ev, hev, ea, rfl, hea⟩ := hres.get he
  exact ⟨rr, res, ea, e, hrv, hrr, hev, hea, rok.2 e (mem_of_get he)⟩
section
variable {P : Program} {w : World} {K : PySem.W.Frag} {mg : Str → Option Value} {base : Heap} {C : Cs} {Tb : List (Addr × Str)}
def spMarks (Tb : List (Addr × Str)) : Sp := fun vs H Q _ => ∃ (G : Hp) (rl : Addr) (rvs : List V) (m : Md) (st mine oth : Nat), vs = [.ref rl, nV st, nV mine, nV oth] ∧ G rl = some (.lst rvs) ∧ All2 (VRow G) rvs m.rows ∧ MdOk m ∧ st < m.rows.length ∧ mine < m.many ∧ oth < m.many ∧ Same G H ∧
  ∀ v G' H' s, Fr Tb X0 G H G' H' → VSide G' v s → SideOk m.rows.length s → Q v H'
theorem sc93 : FnScope ["_law_rows_here", "_law_state", "_law_mine", "_law_others", "_law_heard", "_law_near", "_law_far", "_law_back", "_law_again", "_law_end"] ["_law_rows_here", "_law_state", "_law_mine", "_law_others"] (C8.fnScope (top 93)) := C8.fnScope_by (by decide +kernel)
theorem ok_marks (T : Txt K mg C) {f : Addr} {fd : FuncData} (F : C8.Def K mg "_law_marks" (top 93) f fd) (b : Binds K fd ["_law_rows_here", "_law_state", "_law_mine", "_law_others"] []) :
    Cl P w K mg base 1 "_law_marks" (spMarks Tb) [] := by
  refine C8.cal0 F b .nil sc93 (fun vs H Q E h => ?_) (fun cdv A outer s H vs Q E hr h => ?_)
  · obtain ⟨G, rl, rvs, m, st, mine, oth, rfl, _⟩ := h
    rfl
  · obtain ⟨G, rl, rvs, m, st, mine, oth, rfl, hrl, hrvs, mok, h1, h2, h3, hs, kk⟩ := h
    refine ⟨_, ((pss_cons (ps_asg (pe_ix ix_list (pe_ix ix_list (pv 0) (pv 1) (fun _ _ => rfl)) (pv 2) (fun _ _ => rfl)) (pg_tup rfl (pgs_cons (pg_name (i := 4) sc93.nd rfl (Or.inl rfl)) (pgs_cons (pg_name (i := 5) sc93.nd rfl (Or.inl rfl)) pgs_nil))))
      (pss_cons (ps_set (i := 6) sc93.nd rfl (Or.inl rfl) (pe_ix ix_tup (pe_ix ix_list (pe_ix ix_list (pv 0) (pv 5) (fun _ _ => rfl)) (pv 3) (fun _ _ => rfl)) pe_int (fun _ _ => rfl)))
      (pss_cons (ps_set (i := 7) sc93.nd rfl (Or.inl rfl) (pe_ix ix_tup (pe_ix ix_list (pe_ix ix_list (pv 0) (pv 1) (fun _ _ => rfl)) (pv 3) (fun _ _ => rfl)) pe_int (fun _ _ => rfl)))
      (pss_cons (ps_asg (pe_ix ix_list (pe_ix ix_list (pv 0) (pv 7) (fun _ _ => rfl)) (pv 2) (fun _ _ => rfl)) (pg_tup rfl (pgs_cons (pg_name (i := 8) sc93.nd rfl (Or.inl rfl)) (pgs_cons (pg_name (i := 9) sc93.nd rfl (Or.inl rfl)) pgs_nil))))
      (pss_one (ps_ret (pe_tup (pa_cons (pe_lst (pa_cons (pe_tup (pa_cons (pv 4) (pa_cons (pv 5) pa_nil))) (pa_cons (pe_tup (pa_cons (pv 4) (pa_cons (pv 6) pa_nil))) pa_nil))) (pa_cons (pe_lst (pa_cons (pe_tup (pa_cons (pv 8) (pa_cons (pv 9) pa_nil))) pa_nil)) pa_nil)))))))))), ?_⟩
    have hrlH := hs _ _ hrl
    obtain ⟨r1, rs1, a1, e1, g1, g2, g3, g4, b1, c1⟩ := ent_at (rl := rl) mok hrvs h1 h2
    refine ⟨_, rfl, _, rfl, _, _, _, _, rfl, rfl, .of hrlH, atI_nat g1, _, rfl, _, _, _, _, rfl, rfl, .of (hs _ _ g2), atI_nat g3, a1, _, rfl, .of (hs _ _ g4), rfl, _, _, rfl, _, _, rfl, rfl, ?_⟩
    obtain ⟨r2, rs2, a2, e2, i1, i2, i3, i4, b2, c2⟩ := ent_at (rl := rl) mok hrvs c1 h3
    refine ⟨_, rfl, _, rfl, _, _, _, _, rfl, rfl, .of hrlH, atI_nat i1, _, rfl, _, _, _, _, rfl, rfl, .of (hs _ _ i2), atI_nat i3, _, _, _, _, rfl, rfl, .of (hs _ _ i4), atI_nat (j := 1) rfl, ?_⟩
    obtain ⟨r3, rs3, a3, e3, j1, j2, j3, j4, b3, c3⟩ := ent_at (rl := rl) mok hrvs h1 h3
    refine ⟨_, rfl, _, rfl, _, _, _, _, rfl, rfl, .of hrlH, atI_nat j1, _, rfl, _, _, _, _, rfl, rfl, .of (hs _ _ j2), atI_nat j3, _, _, _, _, rfl, rfl, .of (hs _ _ j4), atI_nat (j := 1) rfl, ?_⟩
    obtain ⟨r4, rs4, a4, e4, k1, k2, k3, k4, b4, c4⟩ := ent_at (rl := rl) mok hrvs c3 h2
    refine ⟨_, rfl, _, rfl, _, _, _, _, rfl, rfl, .of hrlH, atI_nat k1, _, rfl, _, _, _, _, rfl, rfl, .of (hs _ _ k2), atI_nat k3, a4, _, rfl, .of (hs _ _ k4), rfl, _, _, rfl, _, _, rfl, rfl, ?_⟩
    refine ⟨_, rfl, _, rfl, len2, fun t1 n1 => ?_⟩
    have f1 : Fr Tb X0 G H (upd G t1 (.tup [nV e1.1, nV e1.2])) (upd H t1 (.tup [nV e1.1, nV e1.2])) := Fr.alloc hs n1
    have q1 : upd G t1 (.tup [nV e1.1, nV e1.2]) t1 = some (.tup [nV e1.1, nV e1.2]) := upd_same
    generalize upd G t1 (.tup [nV e1.1, nV e1.2]) = G1 at f1 q1
    generalize upd H t1 (.tup [nV e1.1, nV e1.2]) = H1 at f1 ⊢
    refine ⟨_, rfl, _, rfl, len2, fun t2 n2 => ?_⟩
    have f2 := f1.trans (Fr.alloc (o := .tup [nV e1.1, nV e2.2]) f1.s n2)
    have q2 : upd G1 t2 (.tup [nV e1.1, nV e2.2]) t2 = some (.tup [nV e1.1, nV e2.2]) := upd_same
    have s2 := same_upd (b := t2) (o := .tup [nV e1.1, nV e2.2]) (.refl _) (none_of_same f1.s n2)
    have q1' := s2 _ _ q1
    generalize upd G1 t2 (.tup [nV e1.1, nV e2.2]) = G2 at f2 q2 q1' s2
    generalize upd H1 t2 (.tup [nV e1.1, nV e2.2]) = H2 at f2 ⊢
    refine ⟨len2, fun l1 n3 => ?_⟩
    have f3 := f2.trans (Fr.alloc (o := .lst [.ref t1, .ref t2]) f2.s n3)
    have q3 : upd G2 l1 (.lst [.ref t1, .ref t2]) l1 = some (.lst [.ref t1, .ref t2]) := upd_same
    have s3 := same_upd (b := l1) (o := .lst [.ref t1, .ref t2]) (.refl _) (none_of_same f2.s n3)
    have q1'' := s3 _ _ q1'
    have q2' := s3 _ _ q2
    generalize upd G2 l1 (.lst [.ref t1, .ref t2]) = G3 at f3 q3 q1'' q2' s3
    generalize upd H2 l1 (.lst [.ref t1, .ref t2]) = H3 at f3 ⊢
    refine ⟨_, rfl, _, rfl, len2, fun t3 n4 => ?_⟩
    have f4 := f3.trans (Fr.alloc (o := .tup [nV e4.1, nV e4.2]) f3.s n4)
    have q4 : upd G3 t3 (.tup [nV e4.1, nV e4.2]) t3 = some (.tup [nV e4.1, nV e4.2]) := upd_same
    have s4 := same_upd (b := t3) (o := .tup [nV e4.1, nV e4.2]) (.refl _) (none_of_same f3.s n4)
    generalize upd G3 t3 (.tup [nV e4.1, nV e4.2]) = G4 at f4 q4 s4
    generalize upd H3 t3 (.tup [nV e4.1, nV e4.2]) = H4 at f4 ⊢
    refine ⟨len1, fun l2 n5 => ?_⟩
    have f5 := f4.trans (Fr.alloc (o := .lst [.ref t3]) f4.s n5)
    have q5 : upd G4 l2 (.lst [.ref t3]) l2 = some (.lst [.ref t3]) := upd_same
    have s5 := same_upd (b := l2) (o := .lst [.ref t3]) (.refl _) (none_of_same f4.s n5)
    generalize upd G4 l2 (.lst [.ref t3]) = G5 at f5 q5 s5
    generalize upd H4 l2 (.lst [.ref t3]) = H5 at f5 ⊢
    refine ⟨len2, fun t n6 => ?_⟩
    have f6 := f5.trans (Fr.alloc (o := .tup [.ref l1, .ref l2]) f5.s n6)
    have s6 := same_upd (b := t) (o := .tup [.ref l1, .ref l2]) (.refl _) (none_of_same f5.s n6)
    have s36 := (s4.trans s5).trans s6
    refine kk _ _ _ ([(e1.1, e1.2), (e1.1, e2.2)], [(e4.1, e4.2)]) f6 ⟨t, l1, l2, _, _, rfl, upd_same, s36 _ _ q3, .cons ⟨t1, rfl, s36 _ _ q1''⟩ (.cons ⟨t2, rfl, s36 _ _ q2'⟩ .nil), s6 _ _ q5, .cons ⟨t3, rfl, (s5.trans s6) _ _ q4⟩ .nil⟩ ⟨rfl, rfl, fun e he => ?_⟩
    simp at he
    rcases he with rfl | rfl | rfl
    · exact ⟨b1, c1⟩
    · exact ⟨b1, c2⟩
    · exact ⟨b4, c4⟩
end
end K57
set_option Elab.async false
set_option linter.all false
set_option autoImplicit false
set_option maxRecDepth 100000
set_option maxHeartbeats 4000000
/-! K58O: the telling. -/
namespace K57
open PySem PySem.Spec PyProof.Rows L2 LamX
theorem key_inj {a b : Nat} : ((Sum.inl ((a : Nat) : Int) : Key) = Sum.inl ((b : Nat) : Int)) ↔ a = b := ⟨fun z => by have := Sum.inl.inj z; omega, fun z => by rw [z]⟩
theorem putK_brK (l : List (Nat × Nat)) (k v : Nat) : putK (brK l) (Sum.inl ((k : Nat) : Int)) (nV v) = brK (putA l k v) := by
  have e1 : (brK l).any (fun kv => decide (kv.1 = (Sum.inl ((k : Nat) : Int) : Key))) = l.any fun p => decide (p.1 = k) := by
    unfold brK
    rw [List.any_map]
    refine congrArg (List.any l) (funext fun p => ?_)
    exact decide_eq_decide.mpr key_inj
  unfold putK putA
  rw [e1]
  split
  · unfold brK
    rw [List.map_map, List.map_map]
    refine List.map_congr_left fun p _ => ?_
    show (if (Sum.inl ((p.1 : Nat) : Int) : Key) = Sum.inl ((k : Nat) : Int) then _ else _) = _
    by_cases h : p.1 = k
    · rw [if_pos (key_inj.mpr h)]; simp [h]
    · rw [if_neg (fun z => h (key_inj.mp z))]; simp [h]
  · unfold brK
    rw [List.map_append]
    rfl
theorem putA_P {R : Nat × Nat → Prop} {l : List (Nat × Nat)} {k v : Nat} (h : ∀ e ∈ l, R e) (hn : R (k, v)) : ∀ e ∈ putA l k v, R e := by
  intro e he
  unfold putA at he
  split at he
  · obtain ⟨p, hp, rfl⟩ := List.mem_map.mp he
    by_cases z : p.1 = k
    · rw [if_pos z, z]; exact hn
    · rw [if_neg z]; exact h p hp
  · rcases List.mem_append.mp he with z | z
    · exact h e z
    · rw [List.mem_singleton.mp z]; exact hn
theorem putA_ne (l : List (Nat × Nat)) (k v : Nat) : putA l k v ≠ [] := by
  intro z
  unfold putA at z
  split at z
  · rename_i h
    rw [List.map_eq_nil_iff] at z
    rw [z] at h
    simp at h
  · simp at z
theorem merge_ok {R : Nat × Nat → Prop} : ∀ (more acc : List (Nat × Nat)), (acc.map (·.1)).Nodup → (∀ e ∈ acc, R e) → (∀ e ∈ more, R e) → ∃ br, mergeK (brK acc) (brK more) = brK br ∧ (br.map (·.1)).Nodup ∧ (∀ e ∈ br, R e) ∧ (acc ≠ [] ∨ more ≠ [] → br ≠ []) := by
  intro more
  induction more with
  | nil => intro acc h1 h2 _; exact ⟨acc, rfl, h1, h2, fun z => z.elim id (fun z => absurd rfl z)⟩
  | cons e r ih =>
    intro acc h1 h2 h3
    obtain ⟨br, b1, b2, b3, b4⟩ := ih (putA acc e.1 e.2) (nodup_putA h1) (putA_P h2 (h3 e List.mem_cons_self)) (fun x hx => h3 x (List.mem_cons_of_mem _ hx))
    refine ⟨br, ?_, b2, b3, fun _ => b4 (.inl (putA_ne _ _ _))⟩
    rw [← b1, ← putK_brK]
    rfl
/-- the marks of this answer -/
def fil (xs : List (Nat × Nat)) (ans c : Nat) : List (Nat × Nat) := (xs.filter fun e => decide (e.1 = ans)).map fun e => (e.2, c)
def IFil (xs : List (Nat × Nat)) (ans c : Nat) : Nat → Hp → List V → Prop := fun i G acc => All2 (VEnt G) acc (fil (xs.take i) ans c)
theorem IFil.len {xs : List (Nat × Nat)} {ans c : Nat} (i : Nat) (G : Hp) (acc : List V) (h : IFil xs ans c i G acc) : acc.length ≤ i := by
  rw [h.1]
  unfold fil
  rw [List.length_map]
  exact Nat.le_trans (List.length_filter_le _ _) (by rw [List.length_take]; omega)
theorem IFil.yes {xs : List (Nat × Nat)} {ans c i : Nat} {G G' : Hp} {acc : List V} {e : Nat × Nat} {v : V} (h : IFil xs ans c i G acc) (s : Same G G') (he : xs[i]? = some e) (ea : e.1 = ans) (hv : VEnt G' v (e.2, c)) : IFil xs ans c (i + 1) G' (acc ++ [v]) := by
  unfold IFil fil
  rw [List.take_add_one, he, List.filter_append, List.map_append]
  refine All2.append (h.imp fun v x z => VEnt.mono s z) ?_
  simp [ea]
  exact .cons hv .nil
theorem IFil.no {xs : List (Nat × Nat)} {ans c i : Nat} {G G' : Hp} {acc : List V} {e : Nat × Nat} (h : IFil xs ans c i G acc) (s : Same G G') (he : xs[i]? = some e) (ea : e.1 ≠ ans) : IFil xs ans c (i + 1) G' acc := by
  unfold IFil fil
  rw [List.take_add_one, he, List.filter_append, List.map_append]
  have : (Option.toList (some e)).filter (fun e => decide (e.1 = ans)) = [] := by simp [ea]
  rw [this, List.map_nil, List.append_nil]
  exact h.imp fun v x z => VEnt.mono s z
theorem fil_mem {xs : List (Nat × Nat)} {ans c : Nat} {e : Nat × Nat} (h : e ∈ fil xs ans c) : ∃ x ∈ xs, x.1 = ans ∧ e = (x.2, c) := by
  obtain ⟨x, hx, rfl⟩ := List.mem_map.mp h
  obtain ⟨h1, h2⟩ := List.mem_filter.mp hx
  exact ⟨x, h1, of_decide_eq_true h2, rfl⟩
theorem fil_ne {xs : List (Nat × Nat)} {ans c : Nat} {x : Nat × Nat} (h : x ∈ xs) (e : x.1 = ans) : fil xs ans c ≠ [] := by
  intro z
  have : (x.2, c) ∈ fil xs ans c := List.mem_map.mpr ⟨x, List.mem_filter.mpr ⟨h, decide_eq_true e⟩, rfl⟩
  rw [z] at this
  simp at this
section
variable {P : Program} {w : World} {K : PySem.W.Frag} {mg : Str → Option Value} {base : Heap} {C : Cs} {Tb : List (Addr × Str)}
def spTelling (Tb : List (Addr × Str)) : Sp := fun vs H Q _ => ∃ (G : Hp) (sv : V) (m : Md) (j hand : Nat) (s : Side), vs = [.str (nmAt j), sv, nV hand] ∧ VSide G sv s ∧ MdOk m ∧ SideOk m.rows.length s ∧ j < m.many ∧ hand < 2 ∧ Same G H ∧
  ∀ v G' H' sc, Fr Tb X0 G H G' H' → VSc G' v sc → LScOk [m] 2 4 sc → Q v H'
theorem sc95 : FnScope ["_law_deed_now", "_law_side", "_law_hand", "_law_heard", "_law_last_here", "_law_answer", "_law_found", "_law_mine", "_law_mark", "_law_k"] ["_law_deed_now", "_law_side", "_law_hand"] (C8.fnScope (top 95)) := C8.fnScope_by (by decide +kernel)
theorem ok_telling (T : Txt K mg C) {f : Addr} {fd : FuncData} (F : C8.Def K mg "_law_telling" (top 95) f fd) (b : Binds K fd ["_law_deed_now", "_law_side", "_law_hand"] []) :
    Cl P w K mg base 1 "_law_telling" (spTelling Tb) [] := by
  refine C8.cal0 F b .nil sc95 (fun vs H Q E h => ?_) (fun cdv A outer s H vs Q E hr h => ?_)
  · obtain ⟨G, sv, m, j, hand, s, rfl, _⟩ := h
    rfl
  · obtain ⟨G, sv, m, j, hand, sd, rfl, hsv, mok, sok, hj, hh, hs, kk⟩ := h
    have hu := hu_of hr
    refine ⟨_, ((pss_cons (ps_set (i := 3) sc95.nd rfl (Or.inl rfl) (pe_callB (cr_sortedSet rfl) (by rfl) T.b_sorted (by decide +kernel) (pa_cons (pe_callTy (cr_setInts rfl) (by rfl) T.b_set (by decide +kernel) (pa_cons (pe_lc (own := [("_law_mark", 8)]) (tt := tYes) rfl sc95.nd (pi_list (pe_op op_cat (pe_ix ix_tup (pv 1) pe_int (fun _ _ => rfl)) (pe_ix ix_tup (pv 1) pe_int (fun _ _ => rfl)))) (blkOk_by (N := ["_law_deed_now", "_law_side", "_law_hand", "_law_heard", "_law_last_here", "_law_answer", "_law_found", "_law_mine", "_law_mark", "_law_k"]) (sc := C8.fnScope (top 95)) (by decide +kernel)) (fun _ _ _ _ _ => (pg_name (i := 8) sc95.nd rfl (Or.inl rfl))) (fun _ _ _ _ _ => pts_nil) (fun _ _ _ _ _ => (pe_ix (ix_tupK K) (pv 8) pe_int (fun _ _ => rfl)))) pa_nil)) pa_nil)))
      (pss_cons (ps_set (i := 4) sc95.nd rfl (Or.inr rfl) (pe_op op_add (pe_callB call_len_seq (by rfl) T.b_len (by decide +kernel) (pa_cons (pv 3) pa_nil)) pe_int))
      (pss_cons (ps_set (i := 6) sc95.nd rfl (Or.inl rfl) (pe_lst (pa_cons (pe_tup (pa_cons pe_str (pa_cons pe_int (pa_cons (pv 0) (pa_cons (pe_callTy (call_dictP rfl) (by rfl) T.b_dict (by decide +kernel) (pa_cons (pe_lc (own := [("_law_k", 9), ("_law_answer", 5)]) (tt := tYes) rfl sc95.nd (pi_enum (by rfl) T.b_enumerate (pa_cons (pv 3) pa_nil)) (blkOk_by (N := ["_law_deed_now", "_law_side", "_law_hand", "_law_heard", "_law_last_here", "_law_answer", "_law_found", "_law_mine", "_law_mark", "_law_k"]) (sc := C8.fnScope (top 95)) (by decide +kernel)) (fun _ _ _ _ _ => (pg_tupK K (n := 2) rfl (pgs_cons (pg_name (i := 9) sc95.nd rfl (Or.inl rfl)) (pgs_cons (pg_name (i := 5) sc95.nd rfl (Or.inl rfl)) pgs_nil)))) (fun _ _ _ _ _ => pts_nil) (fun _ _ _ _ _ => (pe_tup (pa_cons (pv 5) (pa_cons (pe_op op_add pe_int (pv 9)) pa_nil))))) pa_nil)) pa_nil))))) pa_nil)))
      (pss_cons (ps_for PassesOwn.never rfl (pi_list (pv 3)) (pg_name (i := 5) sc95.nd rfl (Or.inr rfl)) (pss_cons (ps_setLc (i := 7) (own := [("_law_mark", 8)]) rfl sc95.nd rfl rfl (sw_true rfl rfl rfl (by decide +kernel)) (pi_list (pe_ix ix_tup (pv 1) pe_int (fun _ _ => rfl))) (blkOk_by (N := ["_law_deed_now", "_law_side", "_law_hand", "_law_heard", "_law_last_here", "_law_answer", "_law_found", "_law_mine", "_law_mark", "_law_k"]) (sc := C8.fnScope (top 95)) (by decide +kernel)) (fun _ _ _ _ _ => (pg_name (i := 8) sc95.nd rfl (Or.inl rfl))) (fun _ _ _ _ _ => pts_one (pt_cmpR op_eq (pe_ix (ix_tupK K) (pv 8) pe_int (fun _ _ => rfl)) (pv 5) (nomark _))) (fun _ _ _ _ _ => (pe_tup (pa_cons (pe_ix (ix_tupK K) (pv 8) pe_int (fun _ _ => rfl)) (pa_cons (pv 4) pa_nil)))))
      (pss_one (ps_expr (pe_bm PySem.F.plainAttrs_list PySem.F.slot_list_append PySem.F.type_list_append mt_append (pv 6) (pa_cons (pe_tup (pa_cons pe_str (pa_cons pe_int (pa_cons (pe_callTy (call_dictP rfl) (by rfl) T.b_dict (by decide +kernel) (pa_cons (pe_op op_cat (pv 7) (pe_lc (own := [("_law_mark", 8)]) rfl sc95.nd (pi_list (pe_ix ix_tup (pv 1) pe_int (fun _ _ => rfl))) (blkOk_by (N := ["_law_deed_now", "_law_side", "_law_hand", "_law_heard", "_law_last_here", "_law_answer", "_law_found", "_law_mine", "_law_mark", "_law_k"]) (sc := C8.fnScope (top 95)) (by decide +kernel)) (fun _ _ _ _ _ => (pg_name (i := 8) sc95.nd rfl (Or.inl rfl))) (fun _ _ _ _ _ => pts_one (pt_cmpR op_eq (pe_ix (ix_tupK K) (pv 8) pe_int (fun _ _ => rfl)) (pv 5) (nomark _))) (fun _ _ _ _ _ => (pe_tup (pa_cons (pe_ix (ix_tupK K) (pv 8) pe_int (fun _ _ => rfl)) (pa_cons (pe_op op_add (pv 4) pe_int) pa_nil)))))) pa_nil)) pa_nil)))) pa_nil))))))
      (pss_one (ps_ret (pe_op op_cat (pv 6) (pe_lst (pa_cons (pe_tup (pa_cons pe_str (pa_cons (pv 2) pa_nil))) (pa_cons (pe_tup (pa_cons pe_str (pa_cons (pe_op op_sub pe_int (pv 2)) pa_nil))) pa_nil))))))))))), ?_⟩
    obtain ⟨tq, a1, a2, vs, ws, rfl, htq, ha1, hvs, ha2, hws⟩ := hsv
    refine ⟨_, rfl, _, _, _, _, rfl, rfl, .of (hs _ _ htq), atI_nat (j := 0) rfl, _, rfl, _, _, _, _, rfl, rfl, .of (hs _ _ htq), atI_nat (j := 1) rfl, a1, a2, vs, ws, rfl, rfl, hs _ _ ha1, hs _ _ ha2, Nat.le_trans (m := 3) (by rw [hvs.1, hws.1, sok.l1, sok.l2]; exact Nat.le_refl _) len3, fun cl ncl => ?_⟩
    have f1 : Fr Tb X0 G H (upd G cl (.lst (vs ++ ws))) (upd H cl (.lst (vs ++ ws))) := Fr.alloc hs ncl
    have hcl : upd G cl (.lst (vs ++ ws)) cl = some (.lst (vs ++ ws)) := upd_same
    have hall := (hvs.append hws).imp fun v x h => VEnt.mono f1.g h
    have xlen : (sd.1 ++ sd.2).length = 3 := by rw [List.length_append, sok.l1, sok.l2]
    generalize upd G cl (.lst (vs ++ ws)) = G1 at f1 hcl hall
    generalize upd H cl (.lst (vs ++ ws)) = H1 at f1 ⊢
    refine ⟨_, rfl, ⟨_, .of (f1.s _ _ hcl)⟩, fun D hD => ?_⟩
    refine lc_frY (T := Tb) (X := X0) (walk_list (a := cl) (xs := vs ++ ws)) G1 (ISome (fun _ v x => v = nV x) (fun i x => ∃ e, (sd.1 ++ sd.2)[i]? = some e ∧ x = e.1)) f1.s hD (fun z => z) (by rw [hall.1, xlen]; exact len3) (fun H2 e => .of (e _ _ hcl)) ISome.nil (ISome.mono mNat) ISome.len (fun i y G4 H4 H5 acc N hi hI fr4 hDD gD y' k' => ?_) (fun G4 H4 acc hI fr4 sg hDD => ?_)
    · obtain ⟨rfl, hy⟩ := y'
      obtain ⟨e, he, ea, rfl, hea⟩ := hall.get' hy
      exact ⟨rfl, _, rfl, _, _, _, _, rfl, rfl, .of (fr4.s _ _ (fr4.g _ _ hea)), atI_nat (j := 0) rfl, k' _ _ _ (.refl fr4.s) (hI.step mNat (.refl _) (x := e.1) rfl ⟨e, he, rfl⟩)⟩
    obtain ⟨xs, hxl, hxa, hxo⟩ := hI
    have eacc := all2_eq hxa
    subst eacc
    have hx3 : xs.length = 3 := by rw [hxl, hall.1, xlen]
    have hxi : xs.map nV = (xs.map fun x => ((x : Nat) : Int)).map V.int := by rw [List.map_map]; rfl
    refine ⟨D, xs.map fun x => ((x : Nat) : Int), rfl, .of (by rw [hDD, hxi]), by rw [List.length_map]; omega, fun sa c nsa hc => ?_⟩
    rw [List.length_map] at hc
    have f5 := (f1.trans fr4).trans (Fr.alloc' (o := SetO w sa (fun j => decide (j ∈ xs.map fun x => ((x : Nat) : Int))) c) fr4.s nsa)
    refine ⟨sa, _, c, rfl, upd_same, by omega, fun ns kl pw hmem hlen nkl => ?_⟩
    have hns0 : ∀ k ∈ ns, ∃ x ∈ xs, k = ((x : Nat) : Int) := fun k hk => by
      have := of_decide_eq_true ((hmem k).mp hk)
      obtain ⟨x, h1, h2⟩ := List.mem_map.mp this
      exact ⟨x, h1, h2.symm⟩
    obtain ⟨ks, eks, knd⟩ := ints_nat pw (fun k hk => by obtain ⟨x, _, e⟩ := hns0 k hk; omega)
    have ekv : ns.map V.int = ks.map nV := by rw [eks, List.map_map]; rfl
    rw [ekv]
    have kxs : ∀ k ∈ ks, k ∈ xs := fun k hk => by
      obtain ⟨x, h1, h2⟩ := hns0 ((k : Nat) : Int) (by rw [eks]; exact List.mem_map.mpr ⟨k, hk, rfl⟩)
      rw [show k = x by omega]; exact h1
    have xks : ∀ x ∈ xs, x ∈ ks := fun x hx => by
      have := (hmem ((x : Nat) : Int)).mpr (decide_eq_true (List.mem_map.mpr ⟨x, hx, rfl⟩))
      rw [eks] at this
      obtain ⟨y, h1, h2⟩ := List.mem_map.mp this
      have h2' : ((y : Nat) : Int) = ((x : Nat) : Int) := h2
      rw [show x = y by omega]; exact h1
    have kmark : ∀ k ∈ ks, ∃ e ∈ sd.1 ++ sd.2, e.1 = k := fun k hk => by
      obtain ⟨i, hi⟩ := List.getElem?_of_mem (kxs k hk)
      obtain ⟨e, he, ee⟩ := hxo i k hi
      exact ⟨e, mem_of_get he, ee.symm⟩
    have k3 : ks.length ≤ 3 := by
      have : ks.length = c := by rw [← hlen, eks, List.length_map]
      omega
    have k1 : 1 ≤ ks.length := by
      obtain ⟨x, hx⟩ := get_of_lt (l := xs) (i := 0) (by omega)
      exact List.length_pos_of_mem (xks x (mem_of_get hx))
    have f6 := f5.trans (Fr.alloc (o := .lst (ks.map nV)) f5.s nkl)
    have e6 := same_upd (b := kl) (o := .lst (ks.map nV)) (.refl _) (none_of_same f5.s nkl)
    have s16 := fr4.g.trans e6
    have hkl : upd (upd G4 D (.lst (xs.map nV))) kl (.lst (ks.map nV)) kl = some (.lst (ks.map nV)) := upd_same
    have htq6 := s16 _ _ (f1.g _ _ htq)
    have ha16 := s16 _ _ (f1.g _ _ ha1)
    have ha26 := s16 _ _ (f1.g _ _ ha2)
    have hvs6 := hvs.imp fun v x h => VEnt.mono (f1.g.trans s16) h
    have hws6 := hws.imp fun v x h => VEnt.mono (f1.g.trans s16) h
    generalize upd (upd G4 D (.lst (xs.map nV))) kl (.lst (ks.map nV)) = G6 at f6 hkl htq6 ha16 ha26 hvs6 hws6
    refine ⟨_, rfl, kl, _, rfl, .inl (.of (f6.s _ _ hkl)), _, _, rfl, rfl, ?_⟩
    have eL : (((ks.map nV).length : Nat) : Int) + 1 = ((ks.length + 1 : Nat) : Int) := by rw [List.length_map]; omega
    have ent_ok : ∀ {G : Hp} {t : Addr} {x y : Nat}, G t = some (.tup [nV x, nV y]) → VEnt G (.ref t) (x, y) := fun h => ⟨_, rfl, h⟩
    refine ⟨_, rfl, _, rfl, kl, _, rfl, .of (f6.s _ _ hkl), fun D0 hD0 => ?_⟩
    refine lc_frY (T := Tb) (X := X0) (walk_enum (a := kl) (xs := ks.map nV)) G6 (ISome VEnt (fun i e => ks[i]? = some e.1 ∧ e.2 = 1 + i)) f6.s hD0 (fun z => z) (by rw [List.length_map]; exact Nat.le_trans k3 len3) (fun H2 e => .of (e _ _ hkl)) ISome.nil (ISome.mono mEnt) ISome.len (fun i y G7 H7 H8 acc N hi hI fr7 hDD7 gD y' k' => ?_) (fun G7 H7 acc hI fr7 sg hDD7 => ?_)
    · obtain ⟨t, x1, x2, rfl, nt, rfl, e1, e2⟩ := y'
      cases e1
      rw [List.length_map] at hi
      obtain ⟨x, hx⟩ := get_of_lt hi
      have e3 : some (nV x) = some x2 := (get_nV hx).symm.trans e2
      cases e3
      have f8 : Fr Tb X0 G7 H7 G7 (upd H7 t (.tup [.int (i : Nat), nV x])) := Fr.alloc' fr7.s nt
      refine ⟨t, _, rfl, .of upd_same, rfl, _, _, rfl, _, _, rfl, rfl, rfl, _, rfl, _, rfl, _, _, rfl, rfl, len2, fun t2 nt2 => k' _ _ _ (f8.trans (Fr.alloc f8.s nt2)) (hI.step mEnt (same_upd (.refl _) (none_of_same f8.s nt2)) (ent_of (x := x) (y := 1 + i) upd_same rfl (by omega)) ⟨hx, rfl⟩)⟩
    obtain ⟨br0, hb0l, hb0a, hb0o⟩ := hI
    rw [List.length_map] at hb0l
    obtain ⟨ps0, eps0, hps0⟩ := paired_of (K := K) (sg.trans fr7.s) hb0a
    have ebr0 : br0.map (·.1) = ks := by
      refine List.ext_getElem? fun i => ?_
      rw [List.getElem?_map]
      by_cases hi : i < br0.length
      · obtain ⟨e, he⟩ := get_of_lt hi
        rw [he, (hb0o i e he).1]
        rfl
      · rw [List.getElem?_eq_none (by omega), List.getElem?_eq_none (by omega)]
        rfl
    have bnd0 : (br0.map (·.1)).Nodup := by rw [ebr0]; exact knd
    refine ⟨D0, ps0, brK br0, rfl, .of (by rw [hDD7, eps0]), hps0, fun d0 nd0 => ?_⟩
    rw [merge_brK bnd0]
    have f7 := (f6.trans fr7).trans (Fr.alloc (o := .dK (brK br0)) fr7.s nd0)
    have e7 := same_upd (b := d0) (o := .dK (brK br0)) (.refl _) (none_of_same fr7.s nd0)
    have s67 := fr7.g.trans e7
    have hd0 : upd (upd G7 D0 (.lst acc)) d0 (.dK (brK br0)) d0 = some (.dK (brK br0)) := upd_same
    refine ⟨len4, fun t0 nt0 => ?_⟩
    have f8 := f7.trans (Fr.alloc (o := .tup [.str "do", .int 0, .str (nmAt j), .ref d0]) f7.s nt0)
    have e8 := same_upd (b := t0) (o := .tup [.str "do", .int 0, .str (nmAt j), .ref d0]) (.refl _) (none_of_same f7.s nt0)
    have ht0 : VNd (upd (upd (upd G7 D0 (.lst acc)) d0 (.dK (brK br0))) t0 (.tup [.str "do", .int 0, .str (nmAt j), .ref d0])) (.ref t0) (.act 0 j br0) := ⟨t0, d0, rfl, upd_same, e8 _ _ hd0⟩
    have s68 := s67.trans e8
    have hkl8 := s68 _ _ hkl
    have htq8 := s68 _ _ htq6
    have ha18 := s68 _ _ ha16
    have ha28 := s68 _ _ ha26
    have hvs8 := hvs6.imp fun v x h => VEnt.mono s68 h
    have hws8 := hws6.imp fun v x h => VEnt.mono s68 h
    refine ⟨len1, fun fl nfl => ?_⟩
    have gfl := none_of_same f8.s nfl
    have f9 := f8.trans (Fr.alloc' (o := .lst [.ref t0]) f8.s nfl)
    have hnfl : ¬ Live H fl := f8.nl nfl
    generalize upd (upd (upd G7 D0 (.lst acc)) d0 (.dK (brK br0))) t0 (.tup [.str "do", .int 0, .str (nmAt j), .ref d0]) = G9 at f9 ht0 hkl8 htq8 ha18 ha28 hvs8 hws8 gfl
    have bok0 : BrOk br0 10 0 (ks.length + 3) := ⟨fun z => by rw [z] at hb0l; simp at hb0l; omega, bnd0, fun e he => by
      obtain ⟨i, hi⟩ := List.getElem?_of_mem he
      obtain ⟨q1, q2⟩ := hb0o i e hi
      obtain ⟨mk, hmk, emk⟩ := kmark _ (mem_of_get q1)
      have := (sok.ok mk hmk).1
      have := lt_of_get q1
      omega⟩
    refine ⟨_, rfl, _, rfl, ⟨_, .of (f9.s _ _ hkl8)⟩, ?_⟩
    refine for_it (walk_list (a := kl) (xs := ks.map nV)) (fun i σ H' => ∃ (x5 x7 x8 x9 : Option V) (us : List V) (nds : List Nd) (G' : Hp), σ = [some (.str (nmAt j)), some (.ref tq), some (nV hand), some (.ref kl), some (.int ((((ks.map nV).length : Nat) : Int) + 1)), x5, some (.ref fl), x7, x8, x9] ∧ Fr Tb X0 G H G' H' ∧ Same G9 G' ∧ G' fl = none ∧ H' fl = some (.lst us) ∧ All2 (VNd G') us nds ∧ nds.length = i + 1 ∧ ∀ (q : Nat) (nd : Nd), nds[q]? = some nd → NodeOk [m] q (ks.length + 3) nd)
      ⟨_, _, _, _, [.ref t0], [.act 0 j br0], G9, rfl, f9, .refl _, gfl, upd_same, .cons ht0 .nil, rfl, fun q nd h => ?_⟩ (fun i σ H' hi ⟨x5, x7, x8, x9, us, nds, G', e, fr, s9, _⟩ => .of (fr.s _ _ (s9 _ _ hkl8))) (fun i y σ Ha Hb hi ⟨x5, x7, x8, x9, us, nds, Ga, eσ, fr, s9, gfla, hfla, hus, hnl, hno⟩ y' => ?_) (fun σ Ha ⟨x5, x7, x8, x9, us, nds, Ga, eσ, fr, s9, gfla, hfla, hus, hnl, hno⟩ => ?_)
    · cases q with
      | zero => cases h; exact ⟨m, rfl, hj, bok0⟩
      | succ q => simp at h
    · subst eσ
      obtain ⟨rfl, hy⟩ := y'
      rw [List.length_map] at hi
      obtain ⟨x, hx⟩ := get_of_lt hi
      have e2 : some (nV x) = some y := (get_nV hx).symm.trans hy
      cases e2
      have htqa := s9 _ _ htq8
      have ha1a := s9 _ _ ha18
      refine ⟨_, rfl, _, _, _, _, rfl, rfl, .of (fr.s _ _ htqa), atI_nat (j := 0) rfl, _, rfl, ⟨_, .of (fr.s _ _ ha1a)⟩, fun D1 hD1 => ?_⟩
      have hvsa := hvs8.imp fun v x h => VEnt.mono s9 h
      have l2 : sd.1.length = 2 := sok.l1
      refine lc_fr (T := Tb) (X := X0) (walk_list (a := a1) (xs := vs)) Ga (IFil sd.1 x (ks.length + 1)) fr.s hD1 (fun z => z) (by rw [hvs.1, l2]; exact len2) (fun H2 e => .of (e _ _ ha1a)) .nil (fun i G G' acc e h => h.imp fun v x z => VEnt.mono e z) IFil.len (fun q y G7 H7 H8 acc1 N M hq hI fr7 hDD7 gD y' k1 k0 => ?_) (fun G7 H7 acc1 hI fr7 sg hDD7 => ?_)
      · obtain ⟨rfl, hy⟩ := y'
        obtain ⟨e, he, ea, rfl, hea⟩ := hvsa.get' hy
        have heaH := fr7.s _ _ (fr7.g _ _ hea)
        refine ⟨rfl, _, rfl, _, _, _, _, rfl, rfl, .of heaH, atI_nat (j := 0) rfl, _, rfl, rfl, ?_⟩
        by_cases hx0 : e.1 = x
        · refine ⟨true, congrArg V.bl (decide_eq_true (congrArg nV hx0)), iteT ⟨_, rfl, _, _, _, _, rfl, rfl, .of heaH, atI_nat (j := 1) rfl, _, rfl, len2, fun t nt => k1 _ _ _ (Fr.alloc fr7.s nt) (hI.yes (same_upd (.refl _) (none_of_same fr7.s nt)) he hx0 (ent_of upd_same rfl eL))⟩⟩
        · exact ⟨false, congrArg V.bl (decide_eq_false (fun z => hx0 (by have := V.int.inj z; omega))), iteF (k0 _ _ (.refl fr7.s) (hI.no (.refl _) he hx0))⟩
      have pairs1 : All2 (VEnt G7) acc1 (fil sd.1 x (ks.length + 1)) := by
        have := hI
        unfold IFil at this
        rw [hvs.1, List.take_of_length_le (Nat.le_refl _)] at this
        exact this
      have acc1l : acc1.length ≤ 2 := by
        have := IFil.len _ _ _ hI
        rw [hvs.1, l2] at this
        exact this
      have fr8 := fr.trans fr7
      have hfl7 := fr7.at (fun z => z) hfla
      have gfl7 := fr7.keep hfla gfla
      have hD7 : upd G7 D1 (.lst acc1) D1 = some (.lst acc1) := upd_same
      have pairs1' := pairs1.imp fun v e h => VEnt.mono sg h
      have s97 := s9.trans fr7.g
      have hus7 := hus.imp fun v e h => VNd.mono fr7.g h
      generalize upd G7 D1 (.lst acc1) = G8 at fr8 fr7 gfl7 hD7 pairs1' s97 hus7
      have ha28' := s97 _ _ ha28
      have hws8' := hws8.imp fun v e h => VEnt.mono s97 h
      have w1 : sd.2.length = 1 := sok.l2
      refine ⟨_, rfl, .inl ⟨rfl, _, .of hfl7⟩, _, rfl, _, rfl, _, _, _, _, rfl, rfl, .of (fr7.s _ _ (s97 _ _ htq8)), atI_nat (j := 1) rfl, _, rfl, ⟨_, .of (fr7.s _ _ ha28')⟩, fun D2 hD2 => ?_⟩
      have hfl7n : fl ≠ D2 := ne_of_none hfl7 hD2
      refine lc_fr (T := Tb) (X := X0) (walk_list (a := a2) (xs := ws)) G8 (IFil sd.2 x (ks.length + 2)) fr7.s hD2 (fun z => z) (by rw [hws.1, w1]; exact len1) (fun H2 e => .of (e _ _ ha28')) .nil (fun i G G' acc e h => h.imp fun v x z => VEnt.mono e z) IFil.len (fun q y Gb Hb Hc acc2 N M hq hI2 frb hDDb gD y' k1 k0 => ?_) (fun Gb Hb acc2 hI2 frb sgb hDDb => ?_)
      · obtain ⟨rfl, hy⟩ := y'
        obtain ⟨e, he, ea, rfl, hea⟩ := hws8'.get' hy
        have heaH := frb.s _ _ (frb.g _ _ hea)
        refine ⟨rfl, _, rfl, _, _, _, _, rfl, rfl, .of heaH, atI_nat (j := 0) rfl, _, rfl, rfl, ?_⟩
        by_cases hx0 : e.1 = x
        · refine ⟨true, congrArg V.bl (decide_eq_true (congrArg nV hx0)), iteT ⟨_, rfl, _, _, _, _, rfl, rfl, .of heaH, atI_nat (j := 1) rfl, _, rfl, _, _, rfl, rfl, len2, fun t nt => k1 _ _ _ (Fr.alloc frb.s nt) (hI2.yes (same_upd (.refl _) (none_of_same frb.s nt)) he hx0 (ent_of upd_same rfl (by omega)))⟩⟩
        · exact ⟨false, congrArg V.bl (decide_eq_false (fun z => hx0 (by have := V.int.inj z; omega))), iteF (k0 _ _ (.refl frb.s) (hI2.no (.refl _) he hx0))⟩
      have pairs2 : All2 (VEnt Gb) acc2 (fil sd.2 x (ks.length + 2)) := by
        have := hI2
        unfold IFil at this
        rw [hws.1, List.take_of_length_le (Nat.le_refl _)] at this
        exact this
      have acc2l : acc2.length ≤ 1 := by
        have := IFil.len _ _ _ hI2
        rw [hws.1, w1] at this
        exact this
      have frc := fr8.trans frb
      have hflb := frb.at (fun z => z) hfl7
      have gflb := frb.keep hfl7 gfl7
      have prs := (pairs1'.imp fun v e h => VEnt.mono frb.g h).append (pairs2.imp fun v e h => VEnt.mono sgb h)
      have husb := hus7.imp fun v e h => VNd.mono frb.g h
      have s9b := s97.trans frb.g
      have hD7b := frb.g _ _ hD7
      generalize upd Gb D2 (.lst acc2) = Gc at frc frb gflb prs husb s9b hD7b
      refine ⟨D1, D2, acc1, acc2, rfl, rfl, frb.s _ _ hD7b, hDDb, Nat.le_trans (m := 3) (by omega) len3, fun cc ncc => ?_⟩
      have frd := frc.trans (Fr.alloc' (o := .lst (acc1 ++ acc2)) frc.s ncc)
      have hccH : upd Hb cc (.lst (acc1 ++ acc2)) cc = some (.lst (acc1 ++ acc2)) := upd_same
      have hfld : upd Hb cc (.lst (acc1 ++ acc2)) fl = some (.lst us) := upd_keep ncc _ _ hflb
      generalize upd Hb cc (.lst (acc1 ++ acc2)) = Hd at frd hccH hfld ⊢
      obtain ⟨ps, eps, hps⟩ := paired_of (K := K) frd.s prs
      have kmk := kmark x (mem_of_get hx)
      obtain ⟨br, hbr, bnd, bP, bne⟩ := merge_ok (R := fun e => e.1 < m.rows.length ∧ ks.length < e.2 ∧ e.2 < ks.length + 3) (fil sd.1 x (ks.length + 1) ++ fil sd.2 x (ks.length + 2)) [] List.nodup_nil (fun e h => by simp at h) (fun e he => by
        rcases List.mem_append.mp he with z | z
        · obtain ⟨y, hy, _, rfl⟩ := fil_mem z
          exact ⟨(sok.ok y (List.mem_append_left _ hy)).2, by show ks.length < ks.length + 1; omega, by show ks.length + 1 < ks.length + 3; omega⟩
        · obtain ⟨y, hy, _, rfl⟩ := fil_mem z
          exact ⟨(sok.ok y (List.mem_append_right _ hy)).2, by show ks.length < ks.length + 2; omega, by show ks.length + 2 < ks.length + 3; omega⟩)
      have bne' : br ≠ [] := bne (.inr (fun z => by
        obtain ⟨e, he, ee⟩ := kmk
        obtain ⟨z1, z2⟩ := List.append_eq_nil_iff.mp z
        rcases List.mem_append.mp he with y | y
        · exact fil_ne y ee z1
        · exact fil_ne y ee z2))
      refine ⟨cc, ps, _, rfl, .of (by rw [hccH, eps]), hps, fun d nd => ?_⟩
      have hbr' : mergeK [] (brK (fil sd.1 x (ks.length + 1) ++ fil sd.2 x (ks.length + 2))) = brK br := hbr
      rw [hbr']
      have fre := frd.trans (Fr.alloc (o := .dK (brK br)) frd.s nd)
      have ee := same_upd (b := d) (o := .dK (brK br)) (.refl _) (none_of_same frd.s nd)
      have hd : upd Gc d (.dK (brK br)) d = some (.dK (brK br)) := upd_same
      have hfle : upd Hd d (.dK (brK br)) fl = some (.lst us) := upd_keep nd _ _ hfld
      have gfle : upd Gc d (.dK (brK br)) fl = none := by rw [upd_ne (ne_of_none hfld nd)]; exact gflb
      generalize upd Gc d (.dK (brK br)) = Ge at fre ee hd gfle
      generalize upd Hd d (.dK (brK br)) = He at fre hfle ⊢
      refine ⟨len3, fun t nt => ?_⟩
      have frf := fre.trans (Fr.alloc (o := .tup [.str "look", .int 0, .ref d]) fre.s nt)
      have ef := same_upd (b := t) (o := .tup [.str "look", .int 0, .ref d]) (.refl _) (none_of_same fre.s nt)
      have hflf : upd He t (.tup [.str "look", .int 0, .ref d]) fl = some (.lst us) := upd_keep nt _ _ hfle
      have gflf : upd Ge t (.tup [.str "look", .int 0, .ref d]) fl = none := by rw [upd_ne (ne_of_none hfle nt)]; exact gfle
      have hnd : VNd (upd Ge t (.tup [.str "look", .int 0, .ref d])) (.ref t) (.look 0 br) := ⟨t, d, rfl, upd_same, ef _ _ hd⟩
      have sef := ee.trans ef
      refine ⟨fl, _, _, rfl, rfl, hflf, ?_, ?_⟩
      · rw [hus.1, hnl]
        exact Nat.lt_of_lt_of_le (m := 5) (by omega) len5
      refine ⟨_, _, _, _, _, nds ++ [.look 0 br], _, rfl, frf.mut' hnfl gflf hflf lst_nt lst_nc lst_nt, s9b.trans sef, gflf, upd_same, (husb.imp fun v e h => VNd.mono sef h).snoc hnd, by simp [hnl], fun q nd hq => ?_⟩
      rcases Nat.lt_or_ge q nds.length with hl | hl
      · rw [List.getElem?_append_left hl] at hq
        exact hno q nd hq
      · rw [List.getElem?_append_right hl] at hq
        have : q - nds.length = 0 := by
          rcases Nat.eq_zero_or_pos (q - nds.length) with z | z
          · exact z
          · rw [List.getElem?_eq_none (by simp; omega)] at hq; cases hq
        rw [this] at hq
        cases hq
        exact ⟨m, rfl, bne', bnd, fun e he => by have := bP e he; omega⟩
    · subst eσ
      have sfin := fr.s
      refine ⟨_, rfl, _, rfl, len2, fun t1 n1 => ?_⟩
      have g1 := fr.trans (Fr.alloc (o := .tup [.str "end", nV hand]) fr.s n1)
      have s1 := same_upd (b := t1) (o := .tup [.str "end", nV hand]) (.refl _) (none_of_same fr.s n1)
      have q1 : upd Ga t1 (.tup [.str "end", nV hand]) t1 = some (.tup [.str "end", nV hand]) := upd_same
      have hfl1 : upd Ha t1 (.tup [.str "end", nV hand]) fl = some (.lst us) := upd_keep n1 _ _ hfla
      have gfl1 : upd Ga t1 (.tup [.str "end", nV hand]) fl = none := by rw [upd_ne (ne_of_none hfla n1)]; exact gfla
      generalize upd Ga t1 (.tup [.str "end", nV hand]) = G1' at g1 s1 q1 gfl1
      generalize upd Ha t1 (.tup [.str "end", nV hand]) = H1' at g1 hfl1 ⊢
      have eh : (1 : Int) - ((hand : Nat) : Int) = ((1 - hand : Nat) : Int) := by omega
      refine ⟨_, rfl, _, _, rfl, rfl, len2, fun t2 n2 => ?_⟩
      have g2 := g1.trans (Fr.alloc (o := .tup [.str "end", .int (1 - ((hand : Nat) : Int))]) g1.s n2)
      have s2 := same_upd (b := t2) (o := .tup [.str "end", .int (1 - ((hand : Nat) : Int))]) (.refl _) (none_of_same g1.s n2)
      have q2 : upd G1' t2 (.tup [.str "end", .int (1 - ((hand : Nat) : Int))]) t2 = some (.tup [.str "end", .int (1 - ((hand : Nat) : Int))]) := upd_same
      have hfl2 : upd H1' t2 (.tup [.str "end", .int (1 - ((hand : Nat) : Int))]) fl = some (.lst us) := upd_keep n2 _ _ hfl1
      generalize upd G1' t2 (.tup [.str "end", .int (1 - ((hand : Nat) : Int))]) = G2' at g2 s2 q2
      generalize upd H1' t2 (.tup [.str "end", .int (1 - ((hand : Nat) : Int))]) = H2' at g2 hfl2 ⊢
      refine ⟨len2, fun l2 n3 => ?_⟩
      have g3 := g2.trans (Fr.alloc' (o := .lst [.ref t1, .ref t2]) g2.s n3)
      have q3 : upd H2' l2 (.lst [.ref t1, .ref t2]) l2 = some (.lst [.ref t1, .ref t2]) := upd_same
      have hfl3 : upd H2' l2 (.lst [.ref t1, .ref t2]) fl = some (.lst us) := upd_keep n3 _ _ hfl2
      generalize upd H2' l2 (.lst [.ref t1, .ref t2]) = H3' at g3 q3 hfl3 ⊢
      rw [List.length_map] at hnl
      have usl : us.length = ks.length + 1 := by rw [hus.1, hnl]
      refine ⟨fl, l2, us, [.ref t1, .ref t2], rfl, rfl, hfl3, q3, Nat.le_trans (m := 20) (by rw [usl]; simp; omega) (by decide), fun l n4 => ?_⟩
      have g4 := g3.trans (Fr.alloc (o := .lst (us ++ [.ref t1, .ref t2])) g3.s n4)
      have s4 := same_upd (b := l) (o := .lst (us ++ [.ref t1, .ref t2])) (.refl _) (none_of_same g3.s n4)
      have v1 : VNd (upd G2' l (.lst (us ++ [.ref t1, .ref t2]))) (.ref t1) (.fin hand) := ⟨t1, rfl, s4 _ _ (s2 _ _ q1)⟩
      have v2 : VNd (upd G2' l (.lst (us ++ [.ref t1, .ref t2]))) (.ref t2) (.fin (1 - hand)) := ⟨t2, rfl, s4 _ _ (by rw [q2, eh]; rfl)⟩
      refine kk _ _ _ (nds ++ [.fin hand, .fin (1 - hand)]) g4 ⟨l, _, rfl, upd_same, (hus.imp fun v e h => VNd.mono ((s1.trans s2).trans s4) h).append (.cons v1 (.cons v2 .nil))⟩ ⟨ks.length + 1, by omega, by omega, by simp; omega, by simp; omega, fun q nd hq => ⟨fun hlt => ?_, fun hge => ?_⟩⟩
      · rw [List.getElem?_append_left (by omega)] at hq
        rw [List.length_append, hnl]
        exact hno q nd hq
      · rw [List.getElem?_append_right (by omega)] at hq
        match hz : q - nds.length, hq with
        | 0, hq => cases hq; exact ⟨hand, hh, rfl⟩
        | 1, hq => cases hq; exact ⟨1 - hand, by omega, rfl⟩
        | n + 2, hq => simp at hq
end
end K57
set_option Elab.async false
set_option linter.all false
set_option autoImplicit false
set_option maxRecDepth 100000
set_option maxHeartbeats 4000000
/-! K58P: the right plan. -/
namespace K57
open PySem PySem.Spec PyProof.Rows L2 LamX
theorem hD_of {A : Around} {k : Nat} (hr : Room k A) : A.units + 65 < cLine := by have := hr.un; omega
abbrev Tri := Nat × Nat × Nat
def VTri (G : Hp) (v : V) (t : Tri) : Prop := ∃ a, v = .ref a ∧ G a = some (.tup [nV t.1, nV t.2.1, nV t.2.2])
theorem VTri.mono {G G' : Hp} {v : V} {t : Tri} (e : Same G G') (h : VTri G v t) : VTri G' v t := let ⟨a, h1, h2⟩ := h; ⟨a, h1, e _ _ h2⟩
theorem mTri (G G' : Hp) (v : V) (x : Tri) (e : Same G G') (h : VTri G v x) : VTri G' v x := VTri.mono e h
theorem tri_of {G : Hp} {t : Addr} {a b c : Int} {x y z : Nat} (h : G t = some (.tup [.int a, .int b, .int c])) (ha : a = (x : Int)) (hb : b = (y : Int)) (hc : c = (z : Int)) : VTri G (.ref t) (x, y, z) := ⟨t, rfl, by rw [h, ha, hb, hc]; rfl⟩
theorem cutV_mem {xs : List V} {a b : Option Int} {v : V} (h : v ∈ cutV xs a b) : v ∈ xs := List.mem_of_mem_drop (List.mem_of_mem_take h)
theorem mBl (G G' : Hp) (v : V) (x : Bool) (e : Same G G') (h : v = V.bl x) : v = V.bl x := h
theorem dp_ent {K : PySem.W.Frag} {G H : Hp} {v : V} {e : Nat × Nat} (s : Same G H) (h : VEnt G v e) : Dp K H v (.tuple [.int (e.1 : Int), .int (e.2 : Int)]) := by
  obtain ⟨a, rfl, ha⟩ := h
  exact .tup (.of (s _ _ ha)) (.cons (.int _) (.cons (.int _) .nil))
theorem dp_ents {K : PySem.W.Frag} {G H : Hp} (s : Same G H) : ∀ {es : List (Nat × Nat)} {vs : List V}, All2 (VEnt G) vs es → DpAll K H vs (es.map fun e => .tuple [.int (e.1 : Int), .int (e.2 : Int)]) := by
  intro es
  induction es with
  | nil =>
    intro vs a
    have : vs = [] := List.length_eq_zero_iff.mp a.1
    rw [this]; exact .nil
  | cons e r ih =>
    intro vs a
    cases vs with
    | nil => exact absurd a.1 (by simp)
    | cons v vs => exact .cons (dp_ent s (a.2 0 v e rfl rfl)) (ih (by simpa using a.drop 1))
theorem two_of {α : Type} : ∀ {l : List α}, l.length = 2 → ∃ a b, l = [a, b]
  | [a, b], _ => ⟨a, b, rfl⟩
theorem one_of {α : Type} : ∀ {l : List α}, l.length = 1 → ∃ a, l = [a]
  | [a], _ => ⟨a, rfl⟩
def TriOk (m : Md) (t : Tri) : Prop := t.1 < m.rows.length ∧ t.2.1 < m.many ∧ t.2.2 < m.many
theorem plan_right_ok {m : Md} {st : Nat} {scs : List (List Nd)} (mok : MdOk m) (hst : st < m.rows.length) (hl : scs.length = 2) (h : ∀ sc ∈ scs, LScOk [m] 2 4 sc) : PlOk ⟨[(m, st)], scs⟩ := by
  refine ⟨by simp, by simp, fun x hx => ?_, by show 2 ≤ scs.length; omega, by show scs.length ≤ 4; omega, 4, by show scs.length * 4 ≤ 9; omega, fun sc hsc => ?_⟩
  · rw [List.mem_singleton.mp hx]; exact ⟨mok, hst⟩
  · show ∃ k, k ≤ 4 ∧ ScOk [(m, st)] scs.length sc k
    rw [hl]
    exact scOk_of rfl (h sc hsc)
section
variable {P : Program} {w : World} {K : PySem.W.Frag} {mg : Str → Option Value} {base : Heap} {C : Cs} {Tb : List (Addr × Str)}
def spLRight (Tb : List (Addr × Str)) : Sp := fun vs H Q _ => ∃ (G : Hp) (p : Addr) (mv : V) (m : Md), vs = [.ref p, mv] ∧ VMd G mv m ∧ MdOk m ∧ Same G H ∧ G p = none ∧ Pot p H ∧
  ∀ v G' H', Fr Tb (fun b => b = p) G H G' H' → Pot p H' → (v = .non ∨ ∃ Pl, VPl G' v Pl ∧ PlOk Pl) → Q v H'
theorem sc94 : FnScope ["_law_pot_here", "_law_model_here", "_law_names_now", "_law_rows_here", "_law_tries", "_law_state", "_law_mine", "_law_others", "_law_first", "_law_sides", "_law_deeds_now", "_law_side", "_law_hand"] ["_law_pot_here", "_law_model_here"] (C8.fnScope (top 94)) := C8.fnScope_by (by decide +kernel)
theorem ok_lright (T : Txt K mg C) {f : Addr} {fd : FuncData} (F : C8.Def K mg "_law_right_plan" (top 94) f fd) (b : Binds K fd ["_law_pot_here", "_law_model_here"] []) (c__law_draw : Cl P w K mg base 1 "_law_draw" (spDraw Tb) []) (c__law_marks : Cl P w K mg base 1 "_law_marks" (spMarks Tb) []) (c__law_telling : Cl P w K mg base 1 "_law_telling" (spTelling Tb) []) :
    Cl P w K mg base 2 "_law_right_plan" (spLRight Tb) [] := by
  refine C8.cal0 F b .nil sc94 (fun vs H Q E h => ?_) (fun cdv A outer s H vs Q E hr h => ?_)
  · obtain ⟨G, p, mv, m, rfl, _⟩ := h
    rfl
  · obtain ⟨G, p, mv, m, rfl, hmv, mok, hs, gp, pot, kk⟩ := h
    have hD := hD_of hr
    refine ⟨_, ((pss_cons (ps_asg (pv 1) (pg_tup rfl (pgs_cons (pg_name (i := 2) sc94.nd rfl (Or.inl rfl)) (pgs_cons (pg_name (i := 3) sc94.nd rfl (Or.inl rfl)) pgs_nil))))
      (pss_cons (ps_set (i := 4) sc94.nd rfl (Or.inl rfl) (pe_lst pa_nil))
      (pss_cons (ps_for PassesOwn.never rfl (pi_range1 (by rfl) T.b_range (pa_cons (pe_callB call_len_seq (by rfl) T.b_len (by decide +kernel) (pa_cons (pv 3) pa_nil)) pa_nil)) (pg_name (i := 5) sc94.nd rfl (Or.inr rfl)) (pss_one (ps_for PassesOwn.never rfl (pi_range1 (by rfl) T.b_range (pa_cons (pe_callB call_len_seq (by rfl) T.b_len (by decide +kernel) (pa_cons (pv 2) pa_nil)) pa_nil)) (pg_name (i := 6) sc94.nd rfl (Or.inr rfl)) (pss_one (ps_expr (pe_bm PySem.F.plainAttrs_list PySem.F.slot_list_extend PySem.F.type_list_extend mt_extend (pv 4) (pa_cons (pe_lc (own := [("_law_others", 7)]) (tt := tYes) rfl sc94.nd (pi_range1 (by rfl) T.b_range (pa_cons (pe_callB call_len_seq (by rfl) T.b_len (by decide +kernel) (pa_cons (pv 2) pa_nil)) pa_nil)) (blkOk_by (N := ["_law_pot_here", "_law_model_here", "_law_names_now", "_law_rows_here", "_law_tries", "_law_state", "_law_mine", "_law_others", "_law_first", "_law_sides", "_law_deeds_now", "_law_side", "_law_hand"]) (sc := C8.fnScope (top 94)) (by decide +kernel)) (fun _ _ _ _ _ => (pg_name (i := 7) sc94.nd rfl (Or.inl rfl))) (fun _ _ _ _ _ => pts_nil) (fun _ _ _ _ _ => (pe_tup (pa_cons (pv 5) (pa_cons (pv 6) (pa_cons (pv 7) pa_nil)))))) pa_nil)))))))
      (pss_cons (ps_set (i := 8) sc94.nd rfl (Or.inl rfl) (C8.pe_c c__law_draw hr (by decide) (by rfl) (pa_cons (pv 0) (pa_cons (pe_callB call_len_seq (by rfl) T.b_len (by decide +kernel) (pa_cons (pv 4) pa_nil)) pa_nil))))
      (pss_cons (ps_for PassesOwn.never rfl (pi_list (pe_op op_cat (pe_slice sl_list (pv 4) (po_some (pv 8)) po_none) (pe_slice sl_list (pv 4) po_none (po_some (pv 8))))) (pg_tup rfl (pgs_cons (pg_name (i := 5) sc94.nd rfl (Or.inr rfl)) (pgs_cons (pg_name (i := 6) sc94.nd rfl (Or.inr rfl)) (pgs_cons (pg_name (i := 7) sc94.nd rfl (Or.inl rfl)) pgs_nil)))) (pss_cons (ps_set (i := 9) sc94.nd rfl (Or.inr rfl) (pe_lst (pa_cons (C8.pe_c c__law_marks hr (by decide) (by rfl) (pa_cons (pv 3) (pa_cons (pv 5) (pa_cons (pv 6) (pa_cons (pv 7) pa_nil))))) (pa_cons (C8.pe_c c__law_marks hr (by decide) (by rfl) (pa_cons (pv 3) (pa_cons (pv 5) (pa_cons (pv 7) (pa_cons (pv 6) pa_nil))))) pa_nil))))
      (pss_one (ps_if (pt_val (pe_callB (cr_all rfl) (by rfl) T.b_all (by decide +kernel) (pa_cons (pe_lc (own := [("_law_side", 11)]) (tt := tYes) rfl sc94.nd (pi_list (pv 9)) (blkOk_by (N := ["_law_pot_here", "_law_model_here", "_law_names_now", "_law_rows_here", "_law_tries", "_law_state", "_law_mine", "_law_others", "_law_first", "_law_sides", "_law_deeds_now", "_law_side", "_law_hand"]) (sc := C8.fnScope (top 94)) (by decide +kernel)) (fun _ _ _ _ _ => (pg_name (i := 11) sc94.nd rfl (Or.inl rfl))) (fun _ _ _ _ _ => pts_nil) (fun _ _ _ _ _ => (pe_cmpR (op_notInDK K hD) (pe_ix (ix_listK K) (pe_ix (ix_tupK K) (pv 11) pe_int (fun _ _ => rfl)) pe_int (fun _ _ => rfl)) (pe_ix (ix_tupK K) (pv 11) pe_int (fun _ _ => rfl)) rfl))) pa_nil))) (pss_cons (ps_set (i := 10) sc94.nd rfl (Or.inr rfl) (pe_lst (pa_cons (pe_ix ix_list (pv 2) (pv 6) (fun _ _ => rfl)) (pa_cons (pe_ix ix_list (pv 2) (pv 7) (fun _ _ => rfl)) pa_nil))))
      (pss_one (ps_ret (pe_tup (pa_cons (pe_lst (pa_cons (pe_tup (pa_cons (pv 1) (pa_cons (pv 5) pa_nil))) pa_nil)) (pa_cons (pe_lc (own := [("_law_hand", 12)]) (tt := tYes) rfl sc94.nd (pi_range1 (by rfl) T.b_range (pa_cons pe_int pa_nil)) (blkOk_by (N := ["_law_pot_here", "_law_model_here", "_law_names_now", "_law_rows_here", "_law_tries", "_law_state", "_law_mine", "_law_others", "_law_first", "_law_sides", "_law_deeds_now", "_law_side", "_law_hand"]) (sc := C8.fnScope (top 94)) (by decide +kernel)) (fun _ _ _ _ _ => (pg_name (i := 12) sc94.nd rfl (Or.inl rfl))) (fun _ _ _ _ _ => pts_nil) (fun _ _ _ _ _ => (C8.pe_c c__law_telling hr (by decide) (by rfl) (pa_cons (pe_ix (ix_listK K) (pv 10) (pv 12) (fun _ _ => rfl)) (pa_cons (pe_ix (ix_listK K) (pv 9) (pv 12) (fun _ _ => rfl)) (pa_cons (pv 12) pa_nil)))))) pa_nil)))))) pss_nil))))
      (pss_one (ps_ret pe_non)))))))), ?_⟩
    obtain ⟨ma, na, ra, rfl, hma, hna, rl, rvs, rfl, hrl, hrvs⟩ := id hmv
    have r1 := mok.r1
    have r8 := mok.r8
    have y1 := mok.m1
    have y2 := mok.m2
    have nlen : (names m.many).length = m.many := names_len (by omega)
    refine ⟨_, rfl, ma, _, rfl, .of (hs _ _ hma), rfl, _, _, rfl, _, _, rfl, rfl, ?_⟩
    refine ⟨Nat.zero_le _, fun tl ntl => ?_⟩
    have f1 : Fr Tb X0 G H G (upd H tl (.lst [])) := Fr.alloc' hs ntl
    have gtl := none_of_same hs ntl
    have ltl : ¬ Live H tl := not_live ntl
    have hrl1 := f1.s _ _ hrl
    refine ⟨_, rfl, rl, rvs, rfl, .inl (.of hrl1), _, rfl, ?_, ?_, ?_⟩
    · rw [hrvs.1]; omega
    · rw [hrvs.1]; omega
    refine for_range (lo := 0) (n := rvs.length) (fun i σ H' => ∃ (x5 x6 x7 x8 x9 x10 x11 x12 : Option V) (us : List V) (ts : List Tri) (G' : Hp), σ = [some (.ref p), some (.ref ma), some (.ref na), some (.ref rl), some (.ref tl), x5, x6, x7, x8, x9, x10, x11, x12] ∧ Fr Tb X0 G H G' H' ∧ G' tl = none ∧ H' tl = some (.lst us) ∧ All2 (VTri G') us ts ∧ ts.length = i * (m.many * m.many) ∧ ∀ t ∈ ts, TriOk m t)
      ⟨_, _, _, _, _, _, _, _, [], [], G, rfl, f1, gtl, upd_same, .nil, by simp, fun t h => by simp at h⟩ (fun i σ H2 hi ⟨x5, x6, x7, x8, x9, x10, x11, x12, us, ts, G2, eσ, f2, gtl2, htl2, hus, htl, hto⟩ => ?_) (fun σ H2 ⟨x5, x6, x7, x8, x9, x10, x11, x12, us, ts, G2, eσ, f2, gtl2, htl2, hus, htl, hto⟩ => ?_)
    · subst eσ
      rw [hrvs.1] at hi
      refine ⟨_, rfl, na, names m.many, rfl, .inl (.of (f2.get hna)), _, rfl, ?_, ?_, ?_⟩
      · rw [nlen]; omega
      · rw [nlen]; omega
      refine for_range (lo := 0) (n := (names m.many).length) (fun j σ H' => ∃ (x6 x7 x8 x9 x10 x11 x12 : Option V) (us : List V) (ts : List Tri) (G' : Hp), σ = [some (.ref p), some (.ref ma), some (.ref na), some (.ref rl), some (.ref tl), some (.int (0 + (i : Int))), x6, x7, x8, x9, x10, x11, x12] ∧ Fr Tb X0 G H G' H' ∧ G' tl = none ∧ H' tl = some (.lst us) ∧ All2 (VTri G') us ts ∧ ts.length = i * (m.many * m.many) + j * m.many ∧ ∀ t ∈ ts, TriOk m t)
        ⟨_, _, _, _, _, _, _, us, ts, G2, rfl, f2, gtl2, htl2, hus, by omega, hto⟩ (fun j σ H3 hj ⟨x6, x7, x8, x9, x10, x11, x12, us, ts, G3, eσ, f3, gtl3, htl3, hus, htl, hto⟩ => ?_) (fun σ H3 ⟨x6, x7, x8, x9, x10, x11, x12, us, ts, G3, eσ, f3, gtl3, htl3, hus, htl, hto⟩ => ?_)
      · subst eσ
        rw [nlen] at hj
        refine ⟨_, rfl, .inl ⟨rfl, _, .of htl3⟩, _, rfl, na, names m.many, rfl, .inl (.of (f3.get hna)), _, rfl, ?_, ?_, fun D hD' => ?_⟩
        · rw [nlen]; omega
        · rw [nlen]; omega
        refine lc_frY (T := Tb) (X := X0) walk_range G3 (ISome VTri (fun _ t => TriOk m t)) f3.s hD' (fun z => z) (by rw [nlen, Int.toNat_natCast]; exact Nat.le_trans y2 len2) (fun H2 e => trivial) ISome.nil (ISome.mono mTri) ISome.len (fun q y G4 H4 H5 acc N hq hI fr4 hDD gD y' k' => ?_) (fun G4 H4 acc hI fr4 sg hDD => ?_)
        · obtain ⟨rfl, rfl⟩ := y'
          rw [nlen, Int.toNat_natCast] at hq
          exact ⟨rfl, _, rfl, _, rfl, _, rfl, len3, fun t nt => k' _ _ _ (Fr.alloc fr4.s nt) (hI.step mTri (same_upd (.refl _) (none_of_same fr4.s nt)) (tri_of (x := i) (y := j) (z := q) upd_same (by omega) (by omega) (by omega)) ⟨hi, hj, hq⟩)⟩
        · obtain ⟨t2, h2l, h2a, h2o⟩ := hI
          rw [nlen, Int.toNat_natCast] at h2l
          have f4 := f3.trans fr4
          have htl4 := fr4.at (fun z => z) htl3
          have gtl4 := fr4.keep htl3 gtl3
          have hus4 := hus.imp fun v x h => VTri.mono fr4.g h
          have h2a' := h2a.imp fun v x h => VTri.mono sg h
          generalize upd G4 D (.lst acc) = G5 at f4 gtl4 hus4 h2a' fr4
          have hl32 : ts.length ≤ 30 := by
            rw [htl]
            have h3 : i * (m.many * m.many) ≤ 7 * 4 := Nat.mul_le_mul (by omega) (Nat.mul_le_mul y2 y2)
            have h4 : j * m.many ≤ 1 * 2 := Nat.mul_le_mul (by omega) y2
            omega
          refine ⟨tl, D, us, acc, rfl, rfl, htl4, hDD, ?_, ?_⟩
          · rw [hus.1, h2a.1, h2l]; exact Nat.le_trans (m := 32) (by omega) (by rw [sizeLine_eq]; decide)
          · refine ⟨_, _, _, _, _, _, _, _, ts ++ t2, G5, rfl, f4.mut' ltl gtl4 htl4 lst_nt lst_nc lst_nt, gtl4, upd_same, hus4.append h2a', ?_, fun t ht => ?_⟩
            · rw [List.length_append, htl, h2l, Nat.add_mul, Nat.one_mul, Nat.add_assoc]
            · rcases List.mem_append.mp ht with z | z
              · exact hto t z
              · obtain ⟨q, hq⟩ := List.getElem?_of_mem z
                exact h2o q t hq
      · subst eσ
        refine ⟨_, _, _, _, _, _, _, _, us, ts, G3, rfl, f3, gtl3, htl3, hus, ?_, hto⟩
        rw [htl, nlen, Nat.add_mul, Nat.one_mul]
    · subst eσ
      have htl' : ts.length = m.rows.length * (m.many * m.many) := by rw [htl, hrvs.1]
      have hpos : 0 < ts.length := by rw [htl']; exact Nat.mul_pos (by omega) (Nat.mul_pos (by omega) (by omega))
      have h32 : ts.length ≤ 8 * (2 * 2) := by rw [htl']; exact Nat.mul_le_mul r8 (Nat.mul_le_mul y2 y2)
      have fA := f2.adopt' ltl gtl2 htl2
      have e3 := same_upd (b := tl) (o := .lst us) (.refl G2) gtl2
      have hus3 := hus.imp fun v x h => VTri.mono e3 h
      have htl3 : upd G2 tl (.lst us) tl = some (.lst us) := upd_same
      generalize upd G2 tl (.lst us) = G3 at fA hus3 htl3
      have pot2 := pot.fr fA
      have gp3 := fA.gp gp pot
      refine ⟨_, rfl, _, rfl, tl, us, rfl, .inl (.of (fA.s _ _ htl3)), G3, p, ts.length, by rw [hus.1]; rfl, hpos, by omega, fA.s, gp3, pot2, fun d H3 hd fB potB => ?_⟩
      have fC := (fA.of0 (Y := fun b => b = p)).trans fB
      refine ⟨_, rfl, _, rfl, _, rfl, tl, us, rfl, .of (fC.s _ _ htl3), fun c1 nc1 => ?_⟩
      have fD := fC.trans (Fr.alloc' (o := .lst (cutV us (some (d : Int)) none)) fC.s nc1)
      have potD := potB.upd (o := .lst (cutV us (some (d : Int)) none)) (potB.ne nc1)
      have hc1 : upd H3 c1 (.lst (cutV us (some (d : Int)) none)) c1 = some (.lst (cutV us (some (d : Int)) none)) := upd_same
      refine ⟨_, rfl, _, rfl, _, rfl, tl, us, rfl, .of (fD.s _ _ htl3), fun c2 nc2 => ?_⟩
      have fE := fD.trans (Fr.alloc' (o := .lst (cutV us none (some (d : Int)))) fD.s nc2)
      have potE := potD.upd (o := .lst (cutV us none (some (d : Int)))) (potD.ne nc2)
      have hc1' := upd_keep (o := .lst (cutV us none (some (d : Int)))) nc2 _ _ hc1
      have hul : us.length ≤ 32 := by rw [hus.1]; omega
      refine ⟨c1, c2, _, _, rfl, rfl, hc1', upd_same, Nat.le_trans (m := 64) (by have := cutV_length us (some (d : Int)) none; have := cutV_length us none (some (d : Int)); omega) (by rw [sizeLine_eq]; decide), fun cl ncl => ?_⟩
      have cmem : ∀ v ∈ cutV us (some (d : Int)) none ++ cutV us none (some (d : Int)), v ∈ us := fun v hv => by
        rcases List.mem_append.mp hv with z | z
        · exact cutV_mem z
        · exact cutV_mem z
      obtain ⟨cs, ecs⟩ : ∃ cs, cs = cutV us (some (d : Int)) none ++ cutV us none (some (d : Int)) := ⟨_, rfl⟩
      rw [← ecs] at cmem
      rw [← ecs]
      have fF := fE.trans (Fr.alloc (o := .lst cs) fE.s ncl)
      have potF := potE.upd (o := .lst cs) (potE.ne ncl)
      have hcl : upd G3 cl (.lst cs) cl = some (.lst cs) := upd_same
      have e34 := same_upd (b := cl) (o := .lst cs) (.refl G3) (none_of_same fE.s ncl)
      have s04 := fA.g.trans e34
      have hus4 := hus3.imp fun v x h => VTri.mono e34 h
      refine ⟨_, rfl, ⟨_, .of upd_same⟩, ?_⟩
      generalize upd G3 cl (.lst cs) = G4 at fF hcl e34 s04 hus4
      refine for_it (walk_list (a := cl) (xs := cs)) (fun i σ H' => ∃ (x5 x6 x7 x9 x10 x11 x12 : Option V) (G' : Hp), σ = [some (.ref p), some (.ref ma), some (.ref na), some (.ref rl), some (.ref tl), x5, x6, x7, some (nV d), x9, x10, x11, x12] ∧ Fr Tb (fun b => b = p) G H G' H' ∧ Pot p H' ∧ Same G4 G')
        ⟨_, _, _, _, _, _, _, G4, rfl, fF, potF, .refl _⟩ (fun i σ H' hi ⟨x5, x6, x7, x9, x10, x11, x12, G', e, fr, pt, s4⟩ => .of (fr.s _ _ (s4 _ _ hcl))) (fun i y σ Ha Hb hi ⟨x5, x6, x7, x9, x10, x11, x12, Ga, eσ, fr, pt, s4⟩ y' => ?_) (fun σ Ha ⟨x5, x6, x7, x9, x10, x11, x12, Ga, eσ, fr, pt, s4⟩ => ?_)
      · subst eσ
        obtain ⟨rfl, hy⟩ := y'
        obtain ⟨q, hq⟩ := List.getElem?_of_mem (cmem y (mem_of_get hy))
        obtain ⟨t, ht, ta, rfl, hta⟩ := hus4.get' hq
        obtain ⟨o1, o2, o3⟩ := hto t (mem_of_get ht)
        have gpa := fr.gp gp pot
        have hrla := fr.g _ _ hrl
        refine ⟨ta, _, rfl, .of (fr.s _ _ (s4 _ _ hta)), rfl, _, _, rfl, _, _, rfl, _, _, rfl, rfl, ?_⟩
        refine ⟨_, rfl, _, rfl, _, rfl, _, rfl, Ga, rl, rvs, m, t.1, t.2.1, t.2.2, rfl, hrla, hrvs.imp fun v x h => VRow.mono fr.g h, mok, o1, o2, o3, fr.s, fun v1 G5 H5 sd1 f5 hv1 ok1 => ?_⟩
        have fr5 := fr.trans f5.of0
        refine ⟨_, rfl, _, rfl, _, rfl, _, rfl, G5, rl, rvs, m, t.1, t.2.2, t.2.1, rfl, fr5.g _ _ hrl, hrvs.imp fun v x h => VRow.mono fr5.g h, mok, o1, o3, o2, f5.s, fun v2 G6 H6 sd2 f6 hv2 ok2 => ⟨len2, fun sl nsl => ?_⟩⟩
        have fr6 := fr5.trans f6.of0
        have fr7 := fr6.trans (Fr.alloc (o := .lst [v1, v2]) f6.s nsl)
        have e7 := same_upd (b := sl) (o := .lst [v1, v2]) (.refl G6) (none_of_same f6.s nsl)
        have pt7 : Pot p (upd H6 sl (.lst [v1, v2])) := ((pt.fr f5).fr f6).upd (((pt.fr f5).fr f6).ne nsl)
        have hsl : upd G6 sl (.lst [v1, v2]) sl = some (.lst [v1, v2]) := upd_same
        have hsd : All2 (fun v s => VSide (upd G6 sl (.lst [v1, v2])) v s ∧ SideOk m.rows.length s) [v1, v2] [sd1, sd2] := .cons ⟨VSide.mono (f6.g.trans e7) hv1, ok1⟩ (.cons ⟨VSide.mono e7 hv2, ok2⟩ .nil)
        have s47 := s4.trans (f5.g.trans (f6.g.trans e7))
        generalize upd G6 sl (.lst [v1, v2]) = G7 at fr7 hsl hsd s47
        generalize upd H6 sl (.lst [v1, v2]) = H7 at fr7 pt7 ⊢
        refine ⟨_, rfl, _, rfl, ⟨_, .of (fr7.s _ _ hsl)⟩, fun D hDD => ?_⟩
        refine lc_frY (T := Tb) (X := X0) (walk_list (a := sl) (xs := [v1, v2])) G7 (ISome (fun _ v x => v = V.bl x) (fun _ _ => True)) fr7.s hDD (fun z => z) len2 (fun H2 e => .of (e _ _ hsl)) ISome.nil (ISome.mono mBl) ISome.len (fun q y G8 H8 H9 acc N hq hI fr8 hD8 gD y' k' => ?_) (fun G8 H8 acc hI fr8 sg hD8 => ?_)
        · obtain ⟨rfl, hy⟩ := y'
          obtain ⟨sd, _, ⟨tq, a1, a2, ws1, ws2, rfl, htq, ha1, hw1, ha2, hw2⟩, sok⟩ := hsd.get' hy
          have s8 := fr8.g.trans fr8.s
          obtain ⟨e1, e2, q1⟩ := two_of sok.l1
          obtain ⟨e3, q2⟩ := one_of sok.l2
          rw [q1] at hw1
          rw [q2] at hw2
          obtain ⟨w3, hw3, hve3⟩ := hw2.get (i := 0) rfl
          exact ⟨rfl, _, rfl, _, _, _, _, rfl, rfl, .of (s8 _ _ htq), atI_nat (j := 1) rfl, _, _, _, _, rfl, rfl, .of (s8 _ _ ha2), atI_nat (j := 0) hw3, _, rfl, _, _, _, _, rfl, rfl, .of (s8 _ _ htq), atI_nat (j := 0) rfl, _, _, dp_ent s8 hve3, .lst (.of (s8 _ _ ha1)) (dp_ents s8 hw1), rfl, rfl, k' _ _ _ (.refl fr8.s) (hI.step mBl (.refl _) (x := _) rfl trivial)⟩
        · obtain ⟨bs, hbl, hba, _⟩ := hI
          have eacc := all2_eq hba
          subst eacc
          have fr9 := fr7.trans fr8.of0
          have pt9 := pt7.fr fr8
          have hsl9 := fr8.g _ _ hsl
          have hsd9 := hsd.imp fun v s h => And.intro (VSide.mono fr8.g h.1) h.2
          refine ⟨D, bs, rfl, .of hD8, bs.all id, rfl, ?_⟩
          cases hb : bs.all id with
          | false => exact iteF ⟨_, _, _, _, _, _, _, _, rfl, fr9, pt9, s47.trans fr8.g⟩
          | true =>
            refine iteT ?_
            have hna9 := fr9.get hna
            refine ⟨_, rfl, _, rfl, _, _, _, _, rfl, rfl, .of hna9, atI_nat (names_at (by omega) o2), _, rfl, _, rfl, _, _, _, _, rfl, rfl, .of hna9, atI_nat (names_at (by omega) o3), len2, fun dl ndl => ?_⟩
            have fra := fr9.trans (Fr.alloc (o := .lst [.str (nmAt t.2.1), .str (nmAt t.2.2)]) fr9.s ndl)
            have pta := pt9.upd (o := .lst [.str (nmAt t.2.1), .str (nmAt t.2.2)]) (pt9.ne ndl)
            have ea := same_upd (b := dl) (o := .lst [.str (nmAt t.2.1), .str (nmAt t.2.2)]) (.refl _) (none_of_same fr9.s ndl)
            have hdl : upd (upd G8 D (.lst (bs.map V.bl))) dl (.lst [.str (nmAt t.2.1), .str (nmAt t.2.2)]) dl = some (.lst [.str (nmAt t.2.1), .str (nmAt t.2.2)]) := upd_same
            have hsla := ea _ _ hsl9
            have hsda := hsd9.imp fun v s h => And.intro (VSide.mono ea h.1) h.2
            generalize upd (upd G8 D (.lst (bs.map V.bl))) dl (.lst [.str (nmAt t.2.1), .str (nmAt t.2.2)]) = G9 at fra hdl hsla hsda
            generalize upd H8 dl (.lst [.str (nmAt t.2.1), .str (nmAt t.2.2)]) = H9 at fra pta ⊢
            refine ⟨_, rfl, _, rfl, len2, fun t1 nt1 => ?_⟩
            have frb := fra.trans (Fr.alloc (o := .tup [.ref ma, nV t.1]) fra.s nt1)
            have ptb := pta.upd (o := .tup [.ref ma, nV t.1]) (pta.ne nt1)
            have eb := same_upd (b := t1) (o := .tup [.ref ma, nV t.1]) (.refl _) (none_of_same fra.s nt1)
            have ht1 : upd G9 t1 (.tup [.ref ma, nV t.1]) t1 = some (.tup [.ref ma, nV t.1]) := upd_same
            have hdlb := eb _ _ hdl
            have hslb := eb _ _ hsla
            have hsdb := hsda.imp fun v s h => And.intro (VSide.mono eb h.1) h.2
            generalize upd G9 t1 (.tup [.ref ma, nV t.1]) = Gb at frb ht1 hdlb hslb hsdb
            generalize upd H9 t1 (.tup [.ref ma, nV t.1]) = Hb at frb ptb ⊢
            refine ⟨len1, fun l1 nl1 => ?_⟩
            have frc := frb.trans (Fr.alloc (o := .lst [.ref t1]) frb.s nl1)
            have ptc := ptb.upd (o := .lst [.ref t1]) (ptb.ne nl1)
            have ec := same_upd (b := l1) (o := .lst [.ref t1]) (.refl _) (none_of_same frb.s nl1)
            have hl1 : upd Gb l1 (.lst [.ref t1]) l1 = some (.lst [.ref t1]) := upd_same
            have ht1c := ec _ _ ht1
            have hdlc := ec _ _ hdlb
            have hslc := ec _ _ hslb
            have hsdc := hsdb.imp fun v s h => And.intro (VSide.mono ec h.1) h.2
            generalize upd Gb l1 (.lst [.ref t1]) = Gc at frc hl1 ht1c hdlc hslc hsdc
            generalize upd Hb l1 (.lst [.ref t1]) = Hc at frc ptc ⊢
            refine ⟨_, rfl, by decide, by decide, fun D2 hD2 => ?_⟩
            refine lc_frY (T := Tb) (X := X0) walk_range Gc (ISome VSc (fun _ sc => LScOk [m] 2 4 sc)) frc.s hD2 (fun z => z) len2 (fun H2 e => trivial) ISome.nil (ISome.mono mSc') ISome.len (fun q y Gd Hd He acc2 N hq hI frd hDd gDd y' k' => ?_) (fun Gd Hd acc2 hI frd sgd hDd => ?_)
            · obtain ⟨rfl, rfl⟩ := y'
              have sdH := frd.g.trans frd.s
              rcases (show q = 0 ∨ q = 1 from by have : q < 2 := hq; omega) with rfl | rfl
              · obtain ⟨h1, h2⟩ := hsdc.2 0 v1 sd1 rfl rfl
                exact ⟨rfl, _, rfl, _, rfl, _, _, _, _, rfl, rfl, .of (sdH _ _ hdlc), atI_nat (j := 0) rfl, _, rfl, _, rfl, _, _, _, _, rfl, rfl, .of (sdH _ _ hslc), atI_nat (j := 0) rfl, _, rfl, Gd, v1, m, t.2.1, 0, sd1, rfl, VSide.mono frd.g h1, mok, h2, o2, by decide, frd.s, fun v Ge Hf sc fre hv ho => k' _ _ _ fre (hI.step mSc' fre.g hv ho)⟩
              · obtain ⟨h1, h2⟩ := hsdc.2 1 v2 sd2 rfl rfl
                exact ⟨rfl, _, rfl, _, rfl, _, _, _, _, rfl, rfl, .of (sdH _ _ hdlc), atI_nat (j := 1) rfl, _, rfl, _, rfl, _, _, _, _, rfl, rfl, .of (sdH _ _ hslc), atI_nat (j := 1) rfl, _, rfl, Gd, v2, m, t.2.2, 1, sd2, rfl, VSide.mono frd.g h1, mok, h2, o3, by decide, frd.s, fun v Ge Hf sc fre hv ho => k' _ _ _ fre (hI.step mSc' fre.g hv ho)⟩
            · obtain ⟨scs, hsl2, hsa, hso⟩ := hI
              have frf := frc.trans frd.of0
              have ptf := ptc.fr frd
              have hD2g : upd Gd D2 (.lst acc2) D2 = some (.lst acc2) := upd_same
              have hsa' := hsa.imp fun v x h => VSc.mono sgd h
              have hl1f := frd.g _ _ hl1
              have ht1f := frd.g _ _ ht1c
              have hmvf := VMd.mono frf.g hmv
              generalize upd Gd D2 (.lst acc2) = Gf at frf hD2g hsa' hl1f ht1f hmvf
              refine ⟨len2, fun tt ntt => ?_⟩
              have frg := frf.trans (Fr.alloc (o := .tup [.ref l1, .ref D2]) frf.s ntt)
              have eg := same_upd (b := tt) (o := .tup [.ref l1, .ref D2]) (.refl _) (none_of_same frf.s ntt)
              refine kk _ _ _ frg (ptf.upd (ptf.ne ntt)) (.inr ⟨⟨[(m, t.1)], scs⟩, ⟨tt, l1, D2, _, _, rfl, upd_same, eg _ _ hl1f, .cons ⟨t1, .ref ma, rfl, eg _ _ ht1f, VMd.mono eg hmvf⟩ .nil, eg _ _ hD2g, hsa'.imp fun v x h => VSc.mono eg h⟩, plan_right_ok mok o1 hsl2 fun sc hsc => ?_⟩)
              obtain ⟨q, hq⟩ := List.getElem?_of_mem hsc
              exact hso q sc hq
      · subst eσ
        exact kk _ _ _ fr pt (.inl rfl)
end
end K57
set_option Elab.async false
set_option linter.all false
set_option autoImplicit false
set_option maxRecDepth 100000
set_option maxHeartbeats 4000000
/-! K58Q: any plan. -/
namespace K57
open PySem PySem.Spec PyProof.Rows L2 LamX
theorem pick01 {d : Nat} {v : V} (h : [V.int 0, V.int 0, V.int 1, V.int 1, V.int 2][d]? = some v) : ∃ low : Nat, low ≤ 2 ∧ v = nV low := by
  match d, h with
  | 0, h => cases h; exact ⟨0, by omega, rfl⟩
  | 1, h => cases h; exact ⟨0, by omega, rfl⟩
  | 2, h => cases h; exact ⟨1, by omega, rfl⟩
  | 3, h => cases h; exact ⟨1, by omega, rfl⟩
  | 4, h => cases h; exact ⟨2, by omega, rfl⟩
  | d + 5, h => simp at h
section
variable {P : Program} {w : World} {K : PySem.W.Frag} {mg : Str → Option Value} {base : Heap} {C : Cs} {Tb : List (Addr × Str)}
def spBent (Tb : List (Addr × Str)) : Sp := fun vs H Q _ => ∃ (G : Hp) (p : Addr) (v : V) (Pl : Pl), vs = [.ref p, v] ∧ VPl G v Pl ∧ PlOk Pl ∧ Same G H ∧ G p = none ∧ Pot p H ∧
  ∀ v G' H' Pl', Fr Tb (fun b => b = p) G H G' H' → Pot p H' → VPl G' v Pl' → PlOk Pl' → Q v H'
def spAny (Tb : List (Addr × Str)) : Sp := fun vs H Q _ => ∃ (G : Hp) (p : Addr), vs = [.ref p] ∧ Same G H ∧ G p = none ∧ Pot p H ∧
  ∀ v G' H' Pl', Fr Tb (fun b => b = p) G H G' H' → Pot p H' → VPl G' v Pl' → PlOk Pl' → Q v H'
theorem sc97 : FnScope ["_law_pot_here", "_law_plan_here", "_law_hands_now"] ["_law_pot_here"] (C8.fnScope (top 97)) := C8.fnScope_by (by decide +kernel)
theorem ok_any (T : Txt K mg C) {f : Addr} {fd : FuncData} (F : C8.Def K mg "_law_any_plan" (top 97) f fd) (b : Binds K fd ["_law_pot_here"] []) (c__law_draw : Cl P w K mg base 1 "_law_draw" (spDraw Tb) []) (c__law_pick : Cl P w K mg base 2 "_law_pick" (spPick Tb) []) (c__law_model : Cl P w K mg base 4 "_law_model" (spModel Tb) []) (c__law_right_plan : Cl P w K mg base 2 "_law_right_plan" (spLRight Tb) []) (c__law_plan : Cl P w K mg base 5 "_law_plan" (spLPlan Tb) []) (c__law_bent : Cl P w K mg base 3 "_law_bent" (spBent Tb) []) :
    Cl P w K mg base 6 "_law_any_plan" (spAny Tb) [] := by
  refine C8.cal0 F b .nil sc97 (fun vs H Q E h => ?_) (fun cdv A outer s H vs Q E hr h => ?_)
  · obtain ⟨G, p, rfl, _⟩ := h
    rfl
  · obtain ⟨G, p, rfl, hs, gp, pot, kk⟩ := h
    refine ⟨_, ((pss_cons (ps_par (i := 1) (j := 2) rfl sc97.nd rfl rfl (by decide) rfl rfl (pa_cons pe_non (pa_cons (pe_op op_add pe_int (C8.pe_c c__law_pick hr (by decide) (by rfl) (pa_cons (pv 0) (pa_cons (pe_lst (pa_cons pe_int (pa_cons pe_int (pa_cons pe_int (pa_cons pe_int (pa_cons pe_int pa_nil)))))) pa_nil)))) pa_nil)) rfl)
      (pss_cons (ps_if (pt_cmpR op_eq (C8.pe_c c__law_draw hr (by decide) (by rfl) (pa_cons (pv 0) (pa_cons pe_int pa_nil))) pe_int (nomark _)) (pss_one (ps_set (i := 1) sc97.nd rfl (Or.inl rfl) (C8.pe_c c__law_right_plan hr (by decide) (by rfl) (pa_cons (pv 0) (pa_cons (C8.pe_c c__law_model hr (by decide) (by rfl) (pa_cons (pv 0) (pa_cons (C8.pe_c c__law_pick hr (by decide) (by rfl) (pa_cons (pv 0) (pa_cons (pe_lst (pa_cons pe_int (pa_cons pe_int (pa_cons pe_int pa_nil)))) pa_nil))) (pa_cons pe_int pa_nil)))) pa_nil))))) pss_nil)
      (pss_cons (ps_if (pt_cmp (pc_isN (pv 1))) (pss_one (ps_ret (C8.pe_c c__law_plan hr (by decide) (by rfl) (pa_cons (pv 0) (pa_cons (pv 2) (pa_cons (pe_ifExp (pt_cmpR op_lt (pv 2) pe_int (nomark _)) pe_int pe_int) pa_nil)))))) pss_nil)
      (pss_one (ps_ret (pe_ifExp (pt_cmpR op_eq (C8.pe_c c__law_draw hr (by decide) (by rfl) (pa_cons (pv 0) (pa_cons pe_int pa_nil))) pe_int (nomark _)) (C8.pe_c c__law_bent hr (by decide) (by rfl) (pa_cons (pv 0) (pa_cons (pv 1) pa_nil))) (pv 1)))))))), ?_⟩
    refine ⟨_, rfl, len5, fun q nq => ?_⟩
    have f1 : Fr Tb (fun b => b = p) G H (upd G q (.lst [.int 0, .int 0, .int 1, .int 1, .int 2])) (upd H q (.lst [.int 0, .int 0, .int 1, .int 1, .int 2])) := Fr.alloc hs nq
    refine ⟨_, p, q, _, rfl, upd_same, by decide, by decide, f1.s, f1.gp gp pot, pot.upd (pot.ne nq), fun d v H1 hv f2 pot2 => ?_⟩
    obtain ⟨x, x2, rfl⟩ := pick01 hv
    have f12 := f1.trans f2
    generalize upd G q (.lst [.int 0, .int 0, .int 1, .int 1, .int 2]) = G1 at f12
    refine ⟨_, _, rfl, rfl, _, _, rfl, ?_⟩
    refine nx_join (fun σ H3 => ∃ (pv : V) (G3 : Hp), σ = [some (.ref p), some pv, some (.int (2 + (x : Int)))] ∧ Fr Tb (fun b => b = p) G H G3 H3 ∧ Pot p H3 ∧ (pv = .non ∨ ∃ Pl, VPl G3 pv Pl ∧ PlOk Pl)) (fun D' hD' => ?_) ?_
    · refine ⟨_, rfl, G1, p, 2, rfl, by decide, by decide, f12.s, f12.gp gp pot, pot2, fun d0 H2 hd0 f3 pot3 => ?_⟩
      by_cases hz : d0 = 0
      · subst hz
        refine ⟨rfl, true, rfl, iteT ?_⟩
        have f13 := f12.trans f3
        refine ⟨_, rfl, _, rfl, _, rfl, len3, fun q2 nq2 => ?_⟩
        have f4 := f13.trans (Fr.alloc (o := .lst [.int 3, .int 3, .int 8]) f13.s nq2)
        have pot4 := pot3.upd (o := .lst [.int 3, .int 3, .int 8]) (pot3.ne nq2)
        refine ⟨_, p, q2, _, rfl, upd_same, by decide, by decide, f4.s, f4.gp gp pot, pot4, fun d v H5 hv f5 pot5 => ?_⟩
        obtain ⟨y, y1, y8, rfl⟩ := pick3 hv
        have f6 := f4.trans f5
        refine ⟨_, p, y, rfl, y1, y8, f5.s, f6.gp gp pot, pot5, fun v G7 H7 m f7 pot7 hv hm => ?_⟩
        have f8 := f6.trans f7
        refine ⟨G7, p, v, m, rfl, hv, hm, f7.s, f8.gp gp pot, pot7, fun v2 G9 H9 f9 pot9 hres => ?_⟩
        exact hD' _ _ ⟨v2, G9, rfl, f8.trans f9, pot9, hres⟩
      · refine ⟨rfl, false, congrArg V.bl (decide_eq_false (fun z => hz (by have := V.int.inj z; omega))), iteF ?_⟩
        exact hD' _ _ ⟨.non, G1, rfl, f12.trans f3, pot3, .inl rfl⟩
    · rintro σ H3 ⟨pv, G3, rfl, f3, pot3, hres⟩
      have gp3 := f3.gp gp pot
      rcases hres with rfl | ⟨Pl, hPl, ok⟩
      · refine ⟨_, rfl, true, rfl, iteT ?_⟩
        rcases (show x = 0 ∨ x = 1 ∨ x = 2 by omega) with rfl | rfl | rfl
        · exact ⟨_, rfl, _, rfl, _, rfl, _, _, rfl, rfl, true, rfl, iteT ⟨G3, p, 2, 3, rfl, by decide, by decide, by decide, by decide, by decide, f3.s, gp3, pot3, fun v G4 H4 Pl f4 pot4 hv ok => kk v G4 H4 Pl (f3.trans f4) pot4 hv ok⟩⟩
        · exact ⟨_, rfl, _, rfl, _, rfl, _, _, rfl, rfl, true, rfl, iteT ⟨G3, p, 3, 3, rfl, by decide, by decide, by decide, by decide, by decide, f3.s, gp3, pot3, fun v G4 H4 Pl f4 pot4 hv ok => kk v G4 H4 Pl (f3.trans f4) pot4 hv ok⟩⟩
        · exact ⟨_, rfl, _, rfl, _, rfl, _, _, rfl, rfl, false, rfl, iteF ⟨G3, p, 4, 2, rfl, by decide, by decide, by decide, by decide, by decide, f3.s, gp3, pot3, fun v G4 H4 Pl f4 pot4 hv ok => kk v G4 H4 Pl (f3.trans f4) pot4 hv ok⟩⟩
      · have hne : pv ≠ .non := by
          obtain ⟨a, b, c, vs, ws, rfl, _⟩ := hPl
          exact fun z => by cases z
        refine ⟨_, rfl, false, congrArg V.bl (decide_eq_false hne), iteF ?_⟩
        refine ⟨_, rfl, G3, p, 2, rfl, by decide, by decide, f3.s, gp3, pot3, fun d0 H2 hd0 f4 pot4 => ?_⟩
        have f5 := f3.trans f4
        by_cases hz : d0 = 0
        · subst hz
          refine ⟨rfl, true, rfl, iteT ⟨_, rfl, _, rfl, G3, p, pv, Pl, rfl, hPl, ok, f4.s, gp3, pot4, fun v G6 H6 Pl' f6 pot6 hv ok' => kk v G6 H6 Pl' (f5.trans f6) pot6 hv ok'⟩⟩
        · refine ⟨rfl, false, congrArg V.bl (decide_eq_false (fun z => hz (by have := V.int.inj z; omega))), iteF ⟨_, rfl, kk pv G3 H2 Pl f5 pot4 hPl ok⟩⟩
end
end K57
set_option Elab.async false
set_option linter.all false
set_option autoImplicit false
set_option maxRecDepth 100000
set_option maxHeartbeats 2000000
/-! K58S: the text of a list of ints; defs that are called where nothing is being shown; keywords alone. -/
namespace K57
open PySem PySem.Spec PyProof.Rows L2
/-- the text of a list of ints -/
def repT (ns : List Int) : Str := (PyData.list (ns.map PyData.int)).shown
theorem reads_ints {h : Heap} : ∀ {ns : List Int} {us : List Value}, Vals (ns.map V.int) us → ReadsAll h us (ns.map PyData.int) []
  | [], us, r => by
    cases r
    exact .nil
  | n :: m, us, r => by
    cases r with
    | cons a b =>
      obtain ⟨t, rfl⟩ := a
      exact .cons (.int n t) (reads_ints b)
theorem log_small {i : Int} (h : i.natAbs < 10 ^ 12) : i.natAbs.log2 < 41 := by
  by_cases z : i.natAbs = 0
  · rw [z]; decide
  · exact (Nat.log2_lt z).mpr (Nat.lt_of_lt_of_le h (by decide))
theorem show_ints : ∀ ns : List Int, (∀ i ∈ ns, i.natAbs < 10 ^ 12) → PyData.showableAll (ns.map PyData.int) = true
  | [], _ => rfl
  | n :: m, h => by
    have h1 := log_small (h n List.mem_cons_self)
    rw [List.map_cons, PyData.showableAll, PyData.showable, Bool.and_eq_true]
    exact ⟨decide_eq_true (by omega), show_ints m fun i hi => h i (List.mem_cons_of_mem _ hi)⟩
theorem short_ints : ∀ ns : List Int, (∀ i ∈ ns, i.natAbs < 10 ^ 12) → PyData.leavesShortAll 13 (ns.map PyData.int) = true
  | [], _ => rfl
  | n :: m, h => by
    rw [List.map_cons, PyData.leavesShortAll, PyData.leavesShort, Bool.and_eq_true]
    exact ⟨decide_eq_true (PyData.shown_int_le (h n List.mem_cons_self)), short_ints m fun i hi => h i (List.mem_cons_of_mem _ hi)⟩
theorem weight_ints : ∀ ns : List Int, (∀ i ∈ ns, i.natAbs < 10 ^ 12) → PyData.weightAll (ns.map PyData.int) ≤ 50 * ns.length
  | [], _ => Nat.le_refl _
  | n :: m, h => by
    have h1 := log_small (h n List.mem_cons_self)
    have h2 := weight_ints m fun i hi => h i (List.mem_cons_of_mem _ hi)
    rw [List.map_cons, PyData.weightAll, List.length_cons]
    have h3 : PyData.weight (.int n) ≤ 42 := by
      rw [PyData.weight]
      split <;> omega
    omega
theorem depth_ints : ∀ ns : List Int, PyData.depthAll (ns.map PyData.int) = 0
  | [] => rfl
  | n :: m => by
    rw [List.map_cons, PyData.depthAll, depth_ints m, PyData.depth]
    rfl
theorem repT_len {ns : List Int} (h : ∀ i ∈ ns, i.natAbs < 10 ^ 12) (hl : ns.length ≤ 1000) : (repT ns).length ≤ sizeLine := by
  refine PyData.shown_fits (B := 13) (by decide) (by decide) ?_ ?_
  · rw [PyData.leavesShort]; exact short_ints ns h
  · rw [PyData.weight]
    have := weight_ints ns h
    have e : (2 : Nat) ^ 20 = 1048576 := by decide
    omega
theorem noDict_ints : ∀ ns : List Int, PyData.hasDictAll (ns.map PyData.int) = false
  | [] => rfl
  | n :: m => by
    rw [List.map_cons, PyData.hasDictAll, noDict_ints m, PyData.hasDict]
    rfl
section
variable {X : Cx}
theorem call_reprI (hg : X.A.guards = some []) (hu : X.A.units + 64 < cLine) : CallR X (.builtin "repr") (fun xs H Q => ∃ (a : Addr) (ns : List Int), xs = [.ref a] ∧ SqL X.K H a (ns.map V.int) ∧ (∀ i ∈ ns, i.natAbs < 10 ^ 12) ∧ ns.length ≤ 1000 ∧ Q (.str (repT ns)) H) := by
  intro pins s σ H xs us Q I r h
  obtain ⟨a, ns, rfl, hq, hi, hl, q⟩ := h
  obtain ⟨u, rfl, rx⟩ := vals1 r
  cases rx
  obtain ⟨its, rv, ⟨o, n, e, hc, _, hd⟩, _⟩ := I.list hq
  have rd : Reads s.heap (.ref a) (.list (ns.map PyData.int)) [a] := .list e hc hd (reads_ints rv)
  refine repr_of_reads' rd (by rw [PyData.showable]; exact show_ints ns hi) (fun z => ?_) hg ?_ (fun _ _ z => z) (fun h' u tk hk => ⟨.str (repT ns), H, I.kept (t' := tk) hk, ⟨_, rfl⟩, q⟩) (repT_len hi hl)
  · rw [PyData.hasDict, noDict_ints] at z
    cases z
  · rw [PyData.depth, depth_ints]
    omega
end
/-! ### where nothing is being shown -/
/-- a def's promise at the places where no text of an object is under way -/
structure FnG (P : Program) (w : World) (K : PySem.W.Frag) (mg : Str → Option Value) (base : Heap) (k : Nat) (f : Addr) (fd : FuncData) (ps : List Str) (sp : Sp) : Prop where
  size : ∀ vs H Q E, sp vs H Q E → vs.length = ps.length
  go : ∀ (A : Around) (outer : List Env) (s : Shared) (H : Hp) (args : Args) (us : List Value) (vs : List V) (Q : VK) (E : XK), A.guards = some [] → Room k A → Env0 P w K mg base A outer s H → BindsTo s fd args (ps.zip us) → Vals vs us → sp vs H Q E →
    codeAny (model P w) A (.call (.ref f) args) (CR C8.CX0 outer P w H s Q E) s
section
variable {P : Program} {w : World} {K : PySem.W.Frag} {mg : Str → Option Value} {base : Heap}
theorem fnG_of {x qual : Str} {st : Stmt} {f : Addr} {fd : FuncData} {N ps : List Str} {k : Nat} {sp : Sp} (F : C8.Fun K x qual st f fd) (S : FnScope N ps (C8.fnScope st)) (len : ∀ vs H Q E, sp vs H Q E → vs.length = ps.length)
    (body : ∀ (cdv : Value) (A : Around) (outer : List Env) (s : Shared) (H : Hp) (vs : List V) (Q : VK) (E : XK), A.guards = some [] → Room k (A.deeper (envOfC qual (C8.fnScope st) s.heap.objs.size f cdv)) → sp vs H Q E →
      ∃ t, PSs (cxOf C8.CX0 P w K mg base N qual (C8.fnScope st) f cdv A outer s H E).nox (C8.fnBody st) t ∧ t { nx := fun _ H' => Q .non H', rt := Q } (start N vs) H) : FnG P w K mg base (k + 1) f fd ps sp := by
  obtain ⟨oc, od, dV, kV, doc, pm, an, cdv, ct, osl, rfl, lk, code⟩ := F.ex
  constructor
  · exact len
  intro A outer s H args us vs Q E gu room e0 binds rel wish
  have up : ∀ b o, base.get? b = some o → s.heap.get? b = some o := fun b o z => (e0.bs b o z).1
  have kin : K.In s.heap := e0.mod.kin.keeps up
  apply codeAny_call_function room.depth (kin _ _ lk) rfl S.co S.gen rfl (PySem.W.codeRec_of kin code)
  apply binds
  apply wpAny_newFunctionEnv_cells S.kind
  · rintro ⟨n, v⟩ mem
    cases S.par n (List.of_mem_zip mem).1 with
    | inl loc => exact Or.inl loc
    | inr cell => exact Or.inr ⟨cell, PySem.W.cellsFrom_some _ _ _ (Or.inl cell)⟩
  rintro env rfl s1 inside
  refine ⟨(e0.mod.nolimit.keeps up).keeps inside.toInCall.keep, codeAny_func ?_⟩
  obtain ⟨t, run, now⟩ := body cdv A outer s H vs Q E gu (room.deeper _) wish
  have inv := inv_start (CX := C8.CX0) (P := P) (w := w) (N := N) (qual := qual) (f := f) (cd := cdv) (E := E) S room.hd e0 (len _ _ _ _ wish) rel inside
  have after := run.nox.run [] s1 (start N vs) H _ inv now
  refine wpAny_mono after ?_ (fun e s' z => z)
  rintro (_ | _ | _ | u) s' res
  · obtain ⟨σ', H', J, q⟩ := res
    exact ⟨.non, H', J.os, J.bare, J.base, J.hok, rfl, q⟩
  · exact res.elim fun _ z => z.elim fun _ z => z.2.elim
  · exact res.elim fun _ z => z.elim fun _ z => z.2.elim
  · obtain ⟨v, σ', H', J, rv, q⟩ := res
    exact ⟨v, H', J.os, J.bare, J.base, J.hok, rv, q⟩
/-- .. by its name -/
structure CalG (P : Program) (w : World) (K : PySem.W.Frag) (mg : Str → Option Value) (base : Heap) (k : Nat) (x : Str) (sp : Sp) : Prop where
  ex : ∃ (f : Addr) (fd : FuncData) (ps : List Str), FnG P w K mg base k f fd ps sp ∧ mg x = some (.ref f) ∧ PySem.W.keepIn K (.ref f) = true ∧ Binds K fd ps []
/-- a def called by keywords alone, and all of them -/
structure CalK (P : Program) (w : World) (K : PySem.W.Frag) (mg : Str → Option Value) (base : Heap) (k : Nat) (x : Str) (ks : List Str) (gV : List V → List V) (sp : Sp) : Prop where
  ex : ∃ (f : Addr) (fd : FuncData) (ps : List Str) (g : List Value → List Value), FnOk P w K mg base C8.CX0 k f fd ps sp ∧ mg x = some (.ref f) ∧ PySem.W.keepIn K (.ref f) = true ∧
    (∀ (s : Shared) (ws : List Value), ws.length = ks.length → BindsTo s fd ⟨[], ks.zip ws⟩ (ps.zip (g ws))) ∧ ∀ {zs : List V} {ws : List Value}, Vals zs ws → Vals (gV zs) (g ws)
end
def tKw (n : Nat) (gV : List V → List V) (sp : Sp) (tk : TA) : TE := fun σ H Q => tk σ H fun zs H2 => zs.length = n ∧ sp (gV zs) H2 Q C8.E0
section
variable {X : Cx} {k j : Nat} {x : Str} {sp : Sp} {p pos : Pos} {e : Expr} {es : List Expr} {t tk : TA} {kws : List Keyword} {ks : List Str} {gV : List V → List V}
theorem pe_cG (c : CalG X.prog X.w X.K X.mg X.base k x sp) (gu : X.A.guards = some []) (hr : Room j X.A) (hk : k ≤ j) (hg : Gl X x) (ha : PA X (e :: es) t)
    (hdb : (x == ("__debug__" : Str)) = false := by decide) (he : starEach (e :: es) X.env = (false, eval e X.env) :: starEach es X.env := by rfl) (hpl : (backTo pos (starEach es X.env)).any (·.1) = false := by rfl) :
    PE X (.Call (.Name x p) (e :: es) [] pos) (tCall sp [] C8.E0 t) := by
  obtain ⟨f, fd, ps, F, hm, kp, b⟩ := c.ex
  constructor
  intro pins s σ H Q I h
  apply wpAny_Call_Name_kw
  refine ld_glob I hg hm (PySem.W.callWith_K (h₀ := X.base) I.ok.mod.kin kp (thn (ha.run pos pins s σ H _ I h) ?_) he hpl) hdb
  rintro us s1 ⟨vs, H1, I1, r, q⟩
  refine ⟨I1.kIn, ?_⟩
  have len : (us ++ ([] : List Value)).length = ps.length := by
    rw [← (r.append .nil).length]
    exact F.size _ _ _ _ q
  refine wpAny_call (codeAny_mono (F.go X.A X.stack s1 H1 ⟨us, []⟩ (us ++ []) (vs ++ []) Q C8.E0 gu (hr.mono hk) I1.env0 (b s1 us I1.kIn len) (r.append .nil) q) ?_)
  rintro (e | _ | _ | _ | u) s' res
  · exact res.elim
  · exact res.elim
  · exact res.elim
  · exact res.elim
  · exact I1.after res
theorem pe_cK (c : CalK X.prog X.w X.K X.mg X.base k x ks gV sp) (hr : Room j X.A) (hk : k ≤ j) (hg : Gl X x) (hkw : PK X kws tk)
    (hall : (backToKw pos (keywordEach kws X.env)).all (·.1.isSome) = true := by rfl) (hks : (backToKw pos (keywordEach kws X.env)).filterMap (·.1) = ks := by rfl) (hdb : (x == ("__debug__" : Str)) = false := by decide)
    (hpl : ((backTo pos (starEach [] X.env)).any (·.1) || (backToKw pos (keywordEach kws X.env)).any (·.1.isNone)) = false := by rfl) :
    PE X (.Call (.Name x p) [] kws pos) (tKw ks.length gV sp tk) := by
  obtain ⟨f, fd, ps, g, F, hm, kp, b, rel⟩ := c.ex
  constructor
  intro pins s σ H Q I h
  apply wpAny_Call_Name_kw
  refine ld_glob I hg hm (PySem.W.callWith_KW0 (h₀ := X.base) I.ok.mod.kin kp hall (thn (hkw.run pos pins s σ H _ I h) ?_) hpl) hdb
  rintro ws s1 ⟨zs, H1, I1, r, l, q⟩
  refine ⟨I1.kIn, ?_⟩
  rw [hks]
  refine wpAny_call (codeAny_mono (F.run X.A X.stack s1 H1 ⟨[] ++ [], ks.zip ws⟩ (g ws) (gV zs) Q C8.E0 (hr.mono hk) I1.env0 (b s1 ws (r.length.symm.trans l)) (rel r) q) ?_)
  rintro (e | _ | _ | _ | u) s' res
  · exact res.elim
  · exact res.elim
  · exact res.elim
  · exact res.elim
  · exact I1.after res
end
end K57
set_option Elab.async false
set_option linter.all false
set_option autoImplicit false
set_option maxRecDepth 100000
set_option maxHeartbeats 4000000
/-! K58T: a plan is right: def 108. -/
namespace K57
open PySem PySem.Spec PyProof.Rows L2 LamX
/-! ### without the tables -/
def unT (G : Hp) : Hp := fun b => match G b with
  | some (.tbl _) => none
  | o => o
theorem unT_some {G : Hp} {b : Addr} {o : HO} (h : unT G b = some o) : G b = some o ∧ ∀ ps, o ≠ .tbl ps := by
  unfold unT at h
  cases q : G b with
  | none => rw [q] at h; cases h
  | some u =>
    rw [q] at h
    cases u <;> first
      | (cases h; done)
      | (cases h; exact ⟨rfl, fun ps z => by cases z⟩)
theorem unT_of {G : Hp} {b : Addr} {o : HO} (h : G b = some o) (n : ∀ ps, o ≠ .tbl ps) : unT G b = some o := by
  unfold unT
  rw [h]
  cases o <;> first
    | rfl
    | exact absurd rfl (n _)
theorem unT_ext (G : Hp) : ExtN G (unT G) := fun b o h n => unT_of h n
theorem unT_nt (G : Hp) : ∀ b ps, unT G b ≠ some (.tbl ps) := fun b ps h => (unT_some h).2 ps rfl
theorem unT_same {G H : Hp} (s : Same G H) : Same (unT G) H := fun b o h => s b o (unT_some h).1
theorem unT_none {G : Hp} {b : Addr} (h : G b = none) : unT G b = none := by
  unfold unT
  rw [h]
section
variable {G G' : Hp} (e : ExtN G G')
include e
theorem VRow.monoN {v x} (h : VRow G v x) : VRow G' v x := let ⟨a, vs, h1, h2, h3⟩ := h; ⟨a, vs, h1, e _ _ h2 (fun _ z => by cases z), h3.imp fun _ _ z => VEnt.monoN e z⟩
theorem VRows.monoN {v x} (h : VRows G v x) : VRows G' v x := let ⟨a, vs, h1, h2, h3⟩ := h; ⟨a, vs, h1, e _ _ h2 (fun _ z => by cases z), h3.imp fun _ _ z => VRow.monoN e z⟩
theorem VMd.monoN {v x} (h : VMd G v x) : VMd G' v x := let ⟨a, n, r, h1, h2, h3, h4⟩ := h; ⟨a, n, r, h1, e _ _ h2 (fun _ z => by cases z), e _ _ h3 (fun _ z => by cases z), VRows.monoN e h4⟩
theorem VBeg.monoN {v x} (h : VBeg G v x) : VBeg G' v x := let ⟨a, u, h1, h2, h3⟩ := h; ⟨a, u, h1, e _ _ h2 (fun _ z => by cases z), VMd.monoN e h3⟩
theorem VNd.monoN {v x} (h : VNd G v x) : VNd G' v x := by
  cases x with
  | look t br => obtain ⟨a, d, h1, h2, h3⟩ := h; exact ⟨a, d, h1, e _ _ h2 (fun _ z => by cases z), e _ _ h3 (fun _ z => by cases z)⟩
  | act t j br => obtain ⟨a, d, h1, h2, h3⟩ := h; exact ⟨a, d, h1, e _ _ h2 (fun _ z => by cases z), e _ _ h3 (fun _ z => by cases z)⟩
  | fin t => obtain ⟨a, h1, h2⟩ := h; exact ⟨a, h1, e _ _ h2 (fun _ z => by cases z)⟩
theorem VSc.monoN {v x} (h : VSc G v x) : VSc G' v x := let ⟨a, vs, h1, h2, h3⟩ := h; ⟨a, vs, h1, e _ _ h2 (fun _ z => by cases z), h3.imp fun _ _ z => VNd.monoN e z⟩
theorem VPl.monoN {v x} (h : VPl G v x) : VPl G' v x := let ⟨a, b, c, vs, ws, h1, h2, h3, h4, h5, h6⟩ := h; ⟨a, b, c, vs, ws, h1, e _ _ h2 (fun _ z => by cases z), e _ _ h3 (fun _ z => by cases z), h4.imp fun _ _ z => VBeg.monoN e z, e _ _ h5 (fun _ z => by cases z), h6.imp fun _ _ z => VSc.monoN e z⟩
theorem VW.monoN {v x} (h : VW G v x) : VW G' v x := let ⟨a, h1, h2⟩ := h; ⟨a, h1, e _ _ h2 (fun _ z => by cases z)⟩
end
/-- all that stands but the pot and the tables stays -/
def ExtP (p : Addr) (H H' : Hp) : Prop := ∀ b o, b ≠ p → H b = some o → (∀ ps, o ≠ .tbl ps) → H' b = some o
theorem ExtP.trans {p : Addr} {H H1 H2 : Hp} (a : ExtP p H H1) (b : ExtP p H1 H2) : ExtP p H H2 := fun c o n h k => b c o n (a c o n h k) k
theorem ExtP.ofN {p : Addr} {H H' : Hp} (a : ExtN H H') : ExtP p H H' := fun b o _ h n => a b o h n
/-- from H0 to H: G is what is known of H -/
structure Sn (Tb : List (Addr × Str)) (p : Addr) (G H0 H : Hp) : Prop where
  s : Same G H
  t : Tabs Tb H
  pot : Pot p H
  x : ExtP p H0 H
  nt : ∀ b ps, G b ≠ some (.tbl ps)
  gp : G p = none
section
variable {Tb : List (Addr × Str)} {p t : Addr} {G H0 H H' : Hp} {o : HO}
theorem Pot.monoN (h : Pot p H) (e : ExtN H H') : Pot p H' := let ⟨a, b, h1, h2⟩ := h.ex; ⟨a, b, e _ _ h1 (fun _ z => by cases z), h2⟩
theorem Sn.ext (n : Sn Tb p G H0 H) (e : ExtN H H') (T : Tabs Tb H') : Sn Tb p G H0 H' :=
  ⟨fun b o h => e b o (n.s b o h) fun ps z => n.nt b ps (by rw [← z]; exact h), T, n.pot.monoN e, n.x.trans (.ofN e), n.nt, n.gp⟩
theorem Sn.fr {G' : Hp} (n : Sn Tb p G H0 H) (f : Fr Tb X0 G H G' H') : Sn Tb p G H0 H' := n.ext f.extN (f.t n.t)
theorem Sn.drw (n : Sn Tb p G H0 H) (f : Fr Tb (fun b => b = p) G H G H') (P : Pot p H') : Sn Tb p G H0 H' :=
  ⟨f.s, f.t n.t, P, n.x.trans f.e, n.nt, n.gp⟩
theorem Sn.new (n : Sn Tb p G H0 H) (q : H t = none) : Sn Tb p G H0 (upd H t o) := n.ext (fun b u h _ => upd_keep q b u h) (n.t.ext (upd_keep q))
theorem Sn.told (n : Sn Tb p G H0 H) (l : ¬ Live H t) : t ≠ p ∧ G t = none ∧ ¬ Live H0 t := by
  have h1 : t ≠ p := fun z => by
    obtain ⟨a, b, h, _⟩ := n.pot.ex
    exact l ⟨_, by rw [z]; exact h, fun ps z => by cases z⟩
  refine ⟨h1, ?_, fun ⟨u, hu, nu⟩ => l ⟨u, n.x t u h1 hu nu, nu⟩⟩
  cases q : G t with
  | none => rfl
  | some u => exact absurd ⟨u, n.s t u q, fun ps z => n.nt t ps (by rw [← z]; exact q)⟩ l
theorem Sn.set {xs ys : List V} (n : Sn Tb p G H0 H) (l : t ≠ p ∧ G t = none ∧ ¬ Live H0 t) (h : H t = some (.lst xs)) : Sn Tb p G H0 (upd H t (.lst ys)) := by
  refine ⟨fun b o hb => ?_, tabs_set n.t h lst_nt lst_nc, n.pot.upd (Ne.symm l.1), fun b o nb hb no => ?_, n.nt, n.gp⟩
  · rw [upd_ne (fun z => by rw [z, l.2.1] at hb; cases hb)]
    exact n.s b o hb
  · rw [upd_ne (fun z => l.2.2 ⟨o, by rw [← z]; exact hb, no⟩)]
    exact n.x b o nb hb no
end
/-! ### how many there can be -/
theorem cnt_le {P : Pl} (W : PlOk P) : ∀ (n : Nat) (s : Spot), Good P s → Mu P s ≤ n → cnt P s ≤ 4 ^ n
  | 0, s, G, h => by
    rw [cnt_end W G (can_nil W G (Nat.le_zero.mp h))]
    decide
  | n + 1, s, G, h => by
    by_cases c : can P s = []
    · rw [cnt_end W G c]
      exact Nat.pow_pos (by decide)
    · rw [cnt_step W G c]
      have each : ∀ l : List Nat, (∀ x ∈ l, x ∈ can P s) → (l.map fun x => cnt P (step P s x)).sum ≤ l.length * 4 ^ n := by
        intro l
        induction l with
        | nil => intro _; simp
        | cons a r ih =>
          intro hl
          have ha := (mem_can.mp (hl a List.mem_cons_self)).2
          have h1 := cnt_le W n (step P s a) (good_step W G ha) (by have := step_wt W G ha; omega)
          have h2 := ih fun x hx => hl x (List.mem_cons_of_mem _ hx)
          rw [List.map_cons, List.sum_cons, List.length_cons, Nat.succ_mul]
          omega
      refine Nat.le_trans (each _ fun x h => h) ?_
      rw [Nat.pow_succ, Nat.mul_comm]
      exact Nat.mul_le_mul_left _ (can_le4 W G)
theorem cnt_small {P : Pl} (W : PlOk P) : cnt P (begin P) ≤ 262144 := cnt_le W 9 _ (good_begin W) (mu9 W _)
theorem dpAll_nat {K : PySem.W.Frag} {H : Hp} : ∀ l : List Nat, DpAll K H (l.map nV) ((l.map fun n => ((n : Nat) : Int)).map PyData.int)
  | [] => .nil
  | n :: r => .cons (.int _) (dpAll_nat r)
theorem eqv_nat (l : List Nat) : PyData.eqv (.list ((l.map fun n => ((n : Nat) : Int)).map PyData.int)) (.list ((l.map fun n => ((n : Nat) : Int)).map PyData.int)) = true :=
  SeqAt.eqv_refl _ (SeqAt.canLay_of_shaped (PySem.W.ke_shaped_ints _))
theorem nat_ints (l : List Nat) : l.map nV = (l.map fun n => ((n : Nat) : Int)).map V.int := by rw [List.map_map]; rfl
theorem small_nat {l : List Nat} (h : ∀ x ∈ l, x ≤ 262144) : ∀ i ∈ l.map (fun n => ((n : Nat) : Int)), i.natAbs < 10 ^ 12 := fun i hi => by
  obtain ⟨x, hx, rfl⟩ := List.mem_map.mp hi
  have := h x hx
  have e : (10 : Nat) ^ 12 = 1000000000000 := by decide
  omega
theorem run_small {P : Pl} (W : PlOk P) : ∀ (l : List Nat) (s : Spot), Good P s → okRun P s l → ∀ x ∈ l, x ≤ 262144
  | [], _, _, _, x, h => by simp at h
  | h :: r, s, G, o, x, hx => by
    have c := mem_can.mp o.1
    rcases List.mem_cons.mp hx with z | z
    · have := G.l1
      have := W.s4
      have := c.1
      omega
    · exact run_small W r (step P s h) (good_step W G c.2) o.2 x z
section
variable {Tb : List (Addr × Str)} {p t : Addr} {G H0 H H' : Hp} {xs : List V}
theorem Sn.put (n : Sn Tb p G H0 H) (q : H t = none) : Sn Tb p (upd G t (.lst xs)) H0 (upd H t (.lst xs)) := by
  have m := n.new (o := .lst xs) q
  refine ⟨same_upd2 n.s, m.t, m.pot, m.x, fun b ps z => ?_, ?_⟩
  · by_cases e : b = t
    · subst e
      rw [upd_same] at z
      cases z
    · rw [upd_ne e] at z
      exact n.nt b ps z
  · rw [upd_ne (n.pot.ne q)]
    exact n.gp
theorem same_with {o : HO} (s : Same G H) (h : H t = some o) : Same (upd G t o) H := fun b u e => by
  by_cases z : b = t
  · subst z
    rw [upd_same] at e
    rw [← e]
    exact h
  · rw [upd_ne z] at e
    exact s b u e
end
section
variable {P : Program} {w : World} {K : PySem.W.Frag} {mg : Str → Option Value} {base : Heap} {C : Cs} {Tb : List (Addr × Str)}
def spPR (Tb : List (Addr × Str)) : Sp := fun vs H Q _ => ∃ (G : Hp) (p : Addr) (v : V) (Pl : Pl), vs = [.ref p, v] ∧ VPl G v Pl ∧ PlOk Pl ∧ Same G H ∧ G p = none ∧ Pot p H ∧ Tabs Tb H ∧ ∀ H', ExtP p H H' → Tabs Tb H' → Pot p H' → Q (.bl true) H'
theorem sc108 : FnScope ["_law_pot_here", "_law_plan_here", "_law_program", "_law_many_here", "_law_first", "_law_at", "_law_told", "_law_near"] ["_law_pot_here", "_law_plan_here"] (C8.fnScope (top 108)) := C8.fnScope_by (by decide +kernel)
theorem ok_pright (T : Txt K mg C) {f : Addr} {fd : FuncData} (F : C8.Def K mg "_law_plan_right" (top 108) f fd) (b : Binds K fd ["_law_pot_here", "_law_plan_here"] []) (c__law_made : Cl P w K mg base 11 "_law_made" (spMade C Tb) []) (c__law_many : Cl P w K mg base 3 "_law_many" (spLMany Tb) []) (c__law_first_ones : Cl P w K mg base 2 "_law_first_ones" (spLFirst Tb) [])
    (c_how_many_full : Cl P w K mg base 7 "how_many_full" (spMany C Tb) []) (k_how_many_full : CalK P w K mg base 7 "how_many_full" ["program"] id (spMany C Tb)) (c_full_at : Cl P w K mg base 7 "full_at" (spAt C Tb) []) (k_full_at : CalK P w K mg base 7 "full_at" ["place", "program"] List.reverse (spAt C Tb))
    (c_can_step : Cl P w K mg base 7 "can_step" (spCanStep C Tb) []) (c__law_last : Cl P w K mg base 2 "_law_last" (spLLast Tb) []) (c__law_draw : Cl P w K mg base 1 "_law_draw" (spDraw Tb) []) :
    CalG P w K mg base 12 "_law_plan_right" (spPR Tb) := by
  refine ⟨f, fd, _, fnG_of F.fn sc108 (fun vs H Q E h => ?_) (fun cdv A outer s H vs Q E gu hr h => ?_), F.mgf, F.kp, b⟩
  · obtain ⟨G, p, v, Pl, rfl, _⟩ := h
    rfl
  · obtain ⟨G, p, v, Pl, rfl, hv, ok, hs, gp, pot, hT, kk⟩ := h
    have hu := hu_of hr
    have hp := hr.units
    have hq := hr.units0
    refine ⟨_, ((pss_cons (ps_par3 (i := 2) (j := 3) (l := 4) rfl sc108.nd rfl rfl rfl (by decide) (by decide) (by decide) rfl rfl rfl (pa_cons (C8.pe_c c__law_made hr (by decide) (by rfl) (pa_cons (pv 1) pa_nil)) (pa_cons (C8.pe_c c__law_many hr (by decide) (by rfl) (pa_cons (pv 1) pa_nil)) (pa_cons (C8.pe_c c__law_first_ones hr (by decide) (by rfl) (pa_cons (pv 1) (pa_cons pe_int pa_nil))) pa_nil))) rfl)
      (pss_cons (ps_if (pt_cmpR op_ne (pe_callB (call_reprI gu hp) (by rfl) T.b_repr (by decide +kernel) (pa_cons (pe_lst (pa_cons (C8.pe_c c_how_many_full hr (by decide) (by rfl) (pa_cons (pv 2) pa_nil)) (pa_cons (pe_cK k_how_many_full hr (by decide) (by rfl) (pk_cons (pv 2) pk_nil)) pa_nil))) pa_nil)) (pe_callB (call_reprI gu hp) (by rfl) T.b_repr (by decide +kernel) (pa_cons (pe_lst (pa_cons (pv 3) (pa_cons (pv 3) pa_nil))) pa_nil)) (nomark _)) (pss_one (ps_ret pe_bl)) pss_nil)
      (pss_cons (ps_if (PW.pt (pw_and (pt_cmpR op_le (pv 3) pe_int (nomark _)) (pw_and1 (pt_cmpR op_ne (pe_callB call_len_seq (by rfl) T.b_len (by decide +kernel) (pa_cons (pv 4) pa_nil)) (pv 3) (nomark _))))) (pss_one (ps_ret pe_bl)) pss_nil)
      (pss_cons (ps_for PassesOwn.never rfl (pi_list (pe_lst (pa_cons pe_int (pa_cons (pe_op op_sub (pe_callB call_len_seq (by rfl) T.b_len (by decide +kernel) (pa_cons (pv 4) pa_nil)) pe_int) (pa_cons (C8.pe_c c__law_draw hr (by decide) (by rfl) (pa_cons (pv 0) (pa_cons (pe_callB call_len_seq (by rfl) T.b_len (by decide +kernel) (pa_cons (pv 4) pa_nil)) pa_nil))) (pa_cons (C8.pe_c c__law_draw hr (by decide) (by rfl) (pa_cons (pv 0) (pa_cons (pe_callB call_len_seq (by rfl) T.b_len (by decide +kernel) (pa_cons (pv 4) pa_nil)) pa_nil))) pa_nil)))))) (pg_name (i := 5) sc108.nd rfl (Or.inl rfl)) (pss_cons (ps_set (i := 6) sc108.nd rfl (Or.inl rfl) (C8.pe_c c_full_at hr (by decide) (by rfl) (pa_cons (pv 2) (pa_cons (pv 5) pa_nil))))
      (pss_cons (ps_if (PW.pt (pw_or (pt_cmpR op_ne (pe_callB (call_reprI gu hp) (by rfl) T.b_repr (by decide +kernel) (pa_cons (pv 6) pa_nil)) (pe_callB (call_reprI gu hp) (by rfl) T.b_repr (by decide +kernel) (pa_cons (pe_ix ix_list (pv 4) (pv 5) (fun _ _ => rfl)) pa_nil)) (nomark _)) (pw_or1 (pt_cmpR (op_neNil hu) (C8.pe_c c_can_step hr (by decide) (by rfl) (pa_cons (pv 2) (pa_cons (pv 6) pa_nil))) (pe_lst pa_nil) rfl)))) (pss_one (ps_ret pe_bl)) pss_nil)
      (pss_cons (ps_expr (pe_bm PySem.F.plainAttrs_list PySem.F.slot_list_append PySem.F.type_list_append mt_append (pv 6) (pa_cons pe_int pa_nil)))
      (pss_one (ps_if (pt_cmpR op_ne (pe_callB (call_reprI gu hp) (by rfl) T.b_repr (by decide +kernel) (pa_cons (pe_cK k_full_at hr (by decide) (by rfl) (pk_cons (pv 5) (pk_cons (pv 2) pk_nil))) pa_nil)) (pe_callB (call_reprI gu hp) (by rfl) T.b_repr (by decide +kernel) (pa_cons (pe_ix ix_list (pv 4) (pv 5) (fun _ _ => rfl)) pa_nil)) (nomark _)) (pss_one (ps_ret pe_bl)) pss_nil))))))
      (pss_cons (ps_if (pt_cmpR (op_neD hp) (C8.pe_c c_full_at hr (by decide) (by rfl) (pa_cons (pv 2) (pa_cons (pe_op op_sub (pv 3) pe_int) pa_nil))) (C8.pe_c c__law_last hr (by decide) (by rfl) (pa_cons (pv 1) pa_nil)) rfl) (pss_one (ps_ret pe_bl)) pss_nil)
      (pss_cons (ps_set (i := 5) sc108.nd rfl (Or.inl rfl) (C8.pe_c c__law_draw hr (by decide) (by rfl) (pa_cons (pv 0) (pa_cons (pv 3) pa_nil))))
      (pss_cons (ps_set (i := 7) sc108.nd rfl (Or.inl rfl) (C8.pe_c c_full_at hr (by decide) (by rfl) (pa_cons (pv 2) (pa_cons (pv 5) pa_nil))))
      (pss_cons (ps_if (PW.pt (pw_and (pt_cmpR op_gt (pv 5) pe_int (nomark _)) (pw_and1 (pt_not (pt_cmpR (op_ltL hq) (C8.pe_c c_full_at hr (by decide) (by rfl) (pa_cons (pv 2) (pa_cons (pe_op op_sub (pv 5) pe_int) pa_nil))) (pv 7) (nomark _)))))) (pss_one (ps_ret pe_bl)) pss_nil)
      (pss_one (ps_ret (pe_or (pe_cmpR op_eq (pe_op op_add (pv 5) pe_int) (pv 3) (nomark _)) (pe_one (pe_cmpR (op_ltL hq) (pv 7) (C8.pe_c c_full_at hr (by decide) (by rfl) (pa_cons (pv 2) (pa_cons (pe_op op_add (pv 5) pe_int) pa_nil))) (nomark _))))))))))))))), ?_⟩
    refine ⟨_, rfl, G, v, Pl, rfl, hv, ok, hs, fun v1 G1 H1 f1 hv1 => ?_⟩
    refine ⟨_, rfl, G1, v, Pl, rfl, VPl.mono f1.g hv, ok, f1.s, fun G2 H2 f2 => ?_⟩
    refine ⟨_, rfl, G2, v, Pl, rfl, VPl.mono (f1.g.trans f2.g) hv, ok, f2.s, fun fa us G3 H3 f3 hfa hus => ⟨_, _, _, rfl, ?_⟩⟩
    have f123 := (f1.trans f2).trans f3
    have sn : Sn Tb p (unT G3) H H3 := ⟨unT_same f3.s, f123.t hT, ((pot.fr f1).fr f2).fr f3, .ofN f123.extN, unT_nt G3, unT_none (f123.gp gp pot)⟩
    have hv3 := VPl.monoN (unT_ext G3) (VPl.mono f123.g hv)
    have hp3 := VProg.monoN (unT_ext G3) (VProg.mono (f2.g.trans f3.g) hv1)
    have hw3 := hus.imp fun v x z => VW.monoN (unT_ext G3) z
    have ha3 : unT G3 fa = some (.lst us) := unT_of hfa lst_nt
    generalize unT G3 = D at hv3 hp3 hw3 ha3 sn
    clear f123 f1 f2 f3 hv hv1 hus hfa gp pot hT hs
    have c1 := cnt1 ok (good_begin ok)
    have cs := cnt_small ok
    have ulen : us.length = min 60 (cnt Pl (begin Pl)) := by rw [hw3.1, List.length_take]; rfl
    have full_ok : ∀ (i : Nat) (ww : List Nat), (full Pl (begin Pl))[i]? = some ww → okRun Pl (begin Pl) ww ∧ can Pl (run Pl (begin Pl) ww) = [] ∧ ww.length ≤ 9 := fun i ww h => full_run ok 9 _ ww (good_begin ok) (mu9 ok _) (mem_of_get h)
    have wsm : ∀ (i : Nat) (ww : List Nat), (full Pl (begin Pl))[i]? = some ww → ∀ j ∈ ww.map (fun n => ((n : Nat) : Int)), j.natAbs < 10 ^ 12 := fun i ww h => small_nat (run_small ok ww _ (good_begin ok) (full_ok i ww h).1)
    have wln : ∀ (i : Nat) (ww : List Nat), (full Pl (begin Pl))[i]? = some ww → (ww.map (fun n => ((n : Nat) : Int))).length ≤ 1000 := fun i ww h => by rw [List.length_map]; have := (full_ok i ww h).2.2; omega
    have c2 : ∀ j ∈ [((cnt Pl (begin Pl) : Nat) : Int), ((cnt Pl (begin Pl) : Nat) : Int)], j.natAbs < 10 ^ 12 := small_nat (l := [cnt Pl (begin Pl), cnt Pl (begin Pl)]) fun x hx => by
      rcases List.mem_cons.mp hx with z | z
      · omega
      · have := List.mem_singleton.mp z; omega
    refine ⟨_, rfl, v1, Pl, rfl, VProg.mono sn.s hp3, ok, sn.t, fun H4 e4 T4 => ?_⟩
    have n4 := sn.ext e4 T4
    refine ⟨_, rfl, rfl, v1, Pl, rfl, VProg.mono n4.s hp3, ok, T4, fun H5 e5 T5 => ⟨len2, fun q1 nq1 => ?_⟩⟩
    have n6 := (n4.ext e5 T5).new (o := .lst [nV (cnt Pl (begin Pl)), nV (cnt Pl (begin Pl))]) nq1
    refine ⟨q1, [((cnt Pl (begin Pl) : Nat) : Int), ((cnt Pl (begin Pl) : Nat) : Int)], rfl, .of upd_same, c2, (by show 2 ≤ 1000; decide), ?_⟩
    refine ⟨_, rfl, _, rfl, len2, fun q2 nq2 => ?_⟩
    have n7 := n6.new (o := .lst [nV (cnt Pl (begin Pl)), nV (cnt Pl (begin Pl))]) nq2
    refine ⟨q2, [((cnt Pl (begin Pl) : Nat) : Int), ((cnt Pl (begin Pl) : Nat) : Int)], rfl, .of upd_same, c2, (by show 2 ≤ 1000; decide), rfl, false, by simp, iteF ?_⟩
    generalize upd (upd H5 q1 (.lst [nV (cnt Pl (begin Pl)), nV (cnt Pl (begin Pl))])) q2 (.lst [nV (cnt Pl (begin Pl)), nV (cnt Pl (begin Pl))]) = H7 at n7 ⊢
    clear n6 nq2 nq1 n4 T4 e4 T5 e5
    refine nx_join (fun σ H' => σ = [some (.ref p), some v, some v1, some (nV (cnt Pl (begin Pl))), some (.ref fa), none, none, none] ∧ H' = H7) (fun D' hD' => ?_) ?_
    · have stay := hD' _ _ ⟨rfl, rfl⟩
      by_cases h60 : cnt Pl (begin Pl) ≤ 60
      · refine ⟨_, rfl, _, _, rfl, rfl, true, congrArg V.bl (decide_eq_true (by omega)), iteT ?_⟩
        refine ⟨_, rfl, fa, us, rfl, .inl (.of (n7.s _ _ ha3)), _, rfl, rfl, false, ?_, iteF stay⟩
        rw [ulen, Nat.min_eq_right h60]
        show V.bl (!decide (nV (cnt Pl (begin Pl)) = nV (cnt Pl (begin Pl)))) = V.bl false
        simp
      · exact ⟨_, rfl, _, _, rfl, rfl, false, congrArg V.bl (decide_eq_false (by omega)), iteF (iteF stay)⟩
    rintro σ H' ⟨rfl, rfl⟩
    have u1 : 0 < us.length := by omega
    have ent : ∀ x, x < us.length → ∃ ww u, (full Pl (begin Pl))[x]? = some ww ∧ us[x]? = some u ∧ VW D u ww := fun x hx => by
      obtain ⟨u, hu⟩ := get_of_lt hx
      obtain ⟨ww, h1, h2⟩ := hw3.get' hu
      refine ⟨ww, u, ?_, hu, h2⟩
      rw [List.getElem?_take_of_lt (by omega)] at h1
      exact h1
    refine ⟨_, rfl, fa, us, rfl, .inl (.of (n7.s _ _ ha3)), _, _, rfl, rfl, ?_⟩
    refine ⟨_, rfl, _, rfl, fa, us, rfl, .inl (.of (n7.s _ _ ha3)), D, p, us.length, rfl, u1, by omega, n7.s, n7.gp, n7.pot, fun d1 H8 hd1 f8 pot8 => ?_⟩
    have n8 := n7.drw f8 pot8
    refine ⟨_, rfl, _, rfl, fa, us, rfl, .inl (.of (n8.s _ _ ha3)), D, p, us.length, rfl, u1, by omega, n8.s, n8.gp, n8.pot, fun d2 H9 hd2 f9 pot9 => ⟨len4, fun l nl => ?_⟩⟩
    have n9 := n8.drw f9 pot9
    have el : [V.int 0, V.int (((us.length : Nat) : Int) - 1), nV d1, nV d2] = [0, us.length - 1, d1, d2].map nV := by
      rw [show (((us.length : Nat) : Int) - 1) = ((us.length - 1 : Nat) : Int) by omega]
      rfl
    rw [el]
    have hix : ∀ i x, [0, us.length - 1, d1, d2][i]? = some x → x < us.length := fun i x h => by
      have := mem_of_get h
      simp at this
      omega
    have gl : D l = none := none_of_same n9.s nl
    have n10 := n9.put (xs := [0, us.length - 1, d1, d2].map nV) nl
    have sd := same_upd (b := l) (o := .lst ([0, us.length - 1, d1, d2].map nV)) (.refl D) gl
    have hv4 := VPl.mono sd hv3
    have hp4 := VProg.mono sd hp3
    have ha4 := sd _ _ ha3
    have ent4 : ∀ x, x < us.length → ∃ ww u, (full Pl (begin Pl))[x]? = some ww ∧ us[x]? = some u ∧ VW (upd D l (.lst ([0, us.length - 1, d1, d2].map nV))) u ww := fun x hx => by
      obtain ⟨ww, u, h1, h2, h3⟩ := ent x hx
      exact ⟨ww, u, h1, h2, VW.mono sd h3⟩
    have hl4 : upd D l (.lst ([0, us.length - 1, d1, d2].map nV)) l = some (.lst ([0, us.length - 1, d1, d2].map nV)) := upd_same
    clear ent hw3 hv3 hp3 ha3 n7 n8 n9 sn el gl f8 f9 pot8 pot9 hd1 hd2
    generalize [0, us.length - 1, d1, d2] = ixs at hix n10 hv4 hp4 ha4 ent4 hl4 sd ⊢
    generalize upd D l (.lst (ixs.map nV)) = D1 at n10 hv4 hp4 ha4 ent4 hl4 sd
    refine ⟨l, rfl, ⟨_, .of (n10.s _ _ hl4)⟩, ?_⟩
    refine for_it (walk_list (a := l) (xs := ixs.map nV)) (fun i σ H' => ∃ x5 x6, σ = [some (.ref p), some v, some v1, some (nV (cnt Pl (begin Pl))), some (.ref fa), x5, x6, none] ∧ Sn Tb p D1 H H') ⟨_, _, rfl, n10⟩ (fun i σ H' hi ⟨x5, x6, _, n⟩ => .of (n.s _ _ hl4)) (fun i y σ H11 H12 hi ⟨x5, x6, eσ, n11⟩ y' => ?_) (fun σ H11 ⟨x5, x6, eσ, n11⟩ => ?_)
    · obtain ⟨rfl, hy⟩ := y'
      subst eσ
      rw [List.length_map] at hi
      obtain ⟨x, hx⟩ := get_of_lt hi
      have e2 : some (nV x) = some y := (get_nV hx).symm.trans hy
      cases e2
      obtain ⟨ww, u, hfu, hus, ua, eu, hua⟩ := ent4 x (hix i x hx)
      subst eu
      have fo := full_ok x ww hfu
      have w1 := wsm x ww hfu
      have w2 := wln x ww hfu
      have nI : (ww.map nV) = (ww.map fun n => ((n : Nat) : Int)).map V.int := nat_ints ww
      refine ⟨_, rfl, _, rfl, v1, Pl, x, ww, rfl, VProg.mono n11.s hp4, ok, n11.t, hfu, fun t H13 e13 T13 l13 ht => ?_⟩
      have lt := n11.told l13
      have n13 := n11.ext e13 T13
      refine ⟨_, rfl, t, _, rfl, .of (by rw [ht, nI]), w1, w2, ?_⟩
      refine ⟨_, rfl, _, rfl, _, _, _, _, rfl, rfl, .of (n13.s _ _ ha4), atI_nat hus, ua, _, rfl, .of (by rw [n13.s _ _ hua, nI]), w1, w2, rfl, false, by simp, iteF ?_⟩
      refine ⟨_, rfl, _, rfl, upd D1 t (.lst (ww.map nV)), v1, Pl, .ref t, ww, rfl, VProg.mono (same_upd (.refl _) lt.2.1) hp4, ok, ⟨t, rfl, upd_same⟩, fo.1, fo.2.2, same_with n13.s ht, fun v' G14 H14 f14 ⟨b, eb, hb⟩ => ?_⟩
      subst eb
      rw [fo.2.1] at hb
      have ht14 := f14.extN _ _ ht lst_nt
      have n14 := n13.ext f14.extN (f14.t n13.t)
      refine ⟨Nat.zero_le _, fun e0 ne0 => ⟨b, e0, [], rfl, rfl, .of (upd_keep ne0 _ _ (f14.s _ _ hb)), .of upd_same, _, rfl, iteF ?_⟩⟩
      have n15 := n14.new (o := .lst []) ne0
      have ht15 := upd_keep (o := .lst []) ne0 _ _ ht14
      refine ⟨_, rfl, .inl ⟨rfl, _, .of ht15⟩, t, _, _, rfl, rfl, ht15, by rw [List.length_map]; exact Nat.lt_of_le_of_lt (m := 9) fo.2.2 (by rw [sizeLine_eq]; decide), ?_⟩
      have n16 := n15.set (ys := ww.map nV ++ [.int 0]) lt ht15
      refine ⟨_, rfl, _, rfl, rfl, v1, Pl, x, ww, rfl, VProg.mono n16.s hp4, ok, n16.t, hfu, fun t2 H17 e17 T17 l17 ht17 => ?_⟩
      have n17 := n16.ext e17 T17
      refine ⟨t2, _, rfl, .of (by rw [ht17, nI]), w1, w2, ?_⟩
      refine ⟨_, rfl, _, rfl, _, _, _, _, rfl, rfl, .of (n17.s _ _ ha4), atI_nat hus, ua, _, rfl, .of (by rw [n17.s _ _ hua, nI]), w1, w2, rfl, false, by simp, iteF ?_⟩
      exact ⟨_, _, rfl, n17⟩
    · subst eσ
      have hlast : ∀ ww, (full Pl (begin Pl)).getLast? = some ww → (full Pl (begin Pl))[cnt Pl (begin Pl) - 1]? = some ww := fun ww h => by
        rw [List.getLast?_eq_getElem?] at h
        exact h
      have hall : ∀ i, i < cnt Pl (begin Pl) → ∃ ww, (full Pl (begin Pl))[i]? = some ww := fun i h => get_of_lt h
      obtain ⟨wl, hwl⟩ := hall (cnt Pl (begin Pl) - 1) (by omega)
      refine ⟨_, rfl, _, rfl, _, _, rfl, rfl, v1, Pl, cnt Pl (begin Pl) - 1, wl, ?_, VProg.mono n11.s hp4, ok, n11.t, hwl, fun t H13 e13 T13 l13 ht => ?_⟩
      · show [v1, V.int (((cnt Pl (begin Pl) : Nat) : Int) - 1)] = _
        rw [show (((cnt Pl (begin Pl) : Nat) : Int) - 1) = ((cnt Pl (begin Pl) - 1 : Nat) : Int) by omega]
        rfl
      have n13 := n11.ext e13 T13
      refine ⟨_, rfl, D1, v, Pl, rfl, hv4, ok, n13.s, fun v' w2 G14 H14 f14 hgl ⟨b, eb, hb⟩ => ?_⟩
      subst eb
      have e12 : w2 = wl := by
        have := hlast w2 hgl
        rw [hwl] at this
        exact (Option.some.inj this).symm
      subst e12
      have n14 := n13.fr f14
      have nI := nat_ints w2
      refine ⟨_, _, .lst (.of (by rw [f14.extN _ _ ht lst_nt])) (dpAll_nat w2), .lst (.of (f14.s _ _ hb)) (dpAll_nat w2), PySem.W.ke_shaped_ints _, PySem.W.ke_shaped_ints _, false, ?_, iteF ?_⟩
      · rw [eqv_nat]
        rfl
      refine ⟨_, rfl, _, rfl, D1, p, cnt Pl (begin Pl), rfl, c1, by omega, n14.s, n14.gp, n14.pot, fun d H15 hd f15 pot15 => ?_⟩
      have n15 := n14.drw f15 pot15
      obtain ⟨wd, hwd⟩ := hall d hd
      refine ⟨_, rfl, _, rfl, v1, Pl, d, wd, rfl, VProg.mono n15.s hp4, ok, n15.t, hwd, fun tn H16 e16 T16 l16 htn => ?_⟩
      have n16 := n15.ext e16 T16
      refine nx_join (fun σ H' => σ = [some (.ref p), some v, some v1, some (nV (cnt Pl (begin Pl))), some (.ref fa), some (nV d), x6, some (.ref tn)] ∧ Sn Tb p D1 H H' ∧ H' tn = some (.lst (wd.map nV))) (fun D' hD' => ?_) ?_
      · by_cases h0 : 0 < d
        · obtain ⟨wp, hwp⟩ := hall (d - 1) (by omega)
          refine ⟨_, rfl, _, _, rfl, rfl, true, congrArg V.bl (decide_eq_true (by omega)), iteT ?_⟩
          refine ⟨_, rfl, _, rfl, _, _, rfl, rfl, v1, Pl, d - 1, wp, ?_, VProg.mono n16.s hp4, ok, n16.t, hwp, fun tp H17 e17 T17 l17 htp => ?_⟩
          · show [v1, V.int (((d : Nat) : Int) - 1)] = _
            rw [show (((d : Nat) : Int) - 1) = ((d - 1 : Nat) : Int) by omega]
            rfl
          have htn17 := e17 _ _ htn lst_nt
          refine ⟨_, rfl, tp, tn, wp, wd, rfl, rfl, .of htp, .of htn17, true, congrArg V.bl (full_lt (by omega) hwp hwd), iteF ?_⟩
          exact hD' _ _ ⟨rfl, n16.ext e17 T17, htn17⟩
        · exact ⟨_, rfl, _, _, rfl, rfl, false, congrArg V.bl (decide_eq_false (by omega)), iteF (iteF (hD' _ _ ⟨rfl, n16, htn⟩))⟩
      · rintro σ H18 ⟨rfl, n18, htn18⟩
        refine ⟨_, rfl, _, _, rfl, rfl, _, rfl, rfl, ?_⟩
        by_cases he : d + 1 = cnt Pl (begin Pl)
        · have e1 : decide (V.int (((d : Nat) : Int) + 1) = nV (cnt Pl (begin Pl))) = true := decide_eq_true (congrArg V.int (by omega))
          rw [e1]
          exact ⟨_, rfl, iteT (kk H18 n18.x n18.t n18.pot)⟩
        · have e1 : decide (V.int (((d : Nat) : Int) + 1) = nV (cnt Pl (begin Pl))) = false := decide_eq_false (fun z => he (by have := V.int.inj z; omega))
          rw [e1]
          refine ⟨_, rfl, iteF ?_⟩
          obtain ⟨wx, hwx⟩ := hall (d + 1) (by omega)
          refine ⟨_, rfl, _, rfl, _, rfl, _, _, rfl, rfl, v1, Pl, d + 1, wx, ?_, VProg.mono n18.s hp4, ok, n18.t, hwx, fun tx H19 e19 T19 l19 htx => ?_⟩
          · show [v1, V.int (((d : Nat) : Int) + 1)] = _
            rw [show (((d : Nat) : Int) + 1) = ((d + 1 : Nat) : Int) by omega]
            rfl
          have n19 := n18.ext e19 T19
          refine ⟨tn, tx, wd, wx, rfl, rfl, .of (e19 _ _ htn18 lst_nt), .of htx, ?_⟩
          rw [full_lt (by omega) hwd hwx]
          exact kk H19 n19.x n19.t n19.pot
end
end K57
set_option Elab.async false
set_option linter.all false
set_option autoImplicit false
set_option maxRecDepth 100000
set_option maxHeartbeats 4000000
/-! K58U: right, and the law: defs 109, 110. -/
namespace K57
open PySem PySem.Spec PyProof.Rows L2 LamX
section
variable {P : Program} {w : World} {K : PySem.W.Frag} {mg : Str → Option Value} {base : Heap} {C : Cs} {Tb : List (Addr × Str)}
def spR (Tb : List (Addr × Str)) : Sp := fun vs H Q _ => ∃ p : Addr, vs = [.ref p] ∧ Pot p H ∧ Tabs Tb H ∧ ∀ H', ExtP p H H' → Tabs Tb H' → Pot p H' → Q (.bl true) H'
theorem sc109 : FnScope ["_law_pot_here", "_law_turn"] ["_law_pot_here"] (C8.fnScope (top 109)) := C8.fnScope_by (by decide +kernel)
theorem ok_right (T : Txt K mg C) {f : Addr} {fd : FuncData} (F : C8.Def K mg "_law_right" (top 109) f fd) (b : Binds K fd ["_law_pot_here"] []) (g__law_plan_right : CalG P w K mg base 12 "_law_plan_right" (spPR Tb)) (c__law_any_plan : Cl P w K mg base 6 "_law_any_plan" (spAny Tb) []) :
    CalG P w K mg base 13 "_law_right" (spR Tb) := by
  refine ⟨f, fd, _, fnG_of F.fn sc109 (fun vs H Q E h => ?_) (fun cdv A outer s H vs Q E gu hr h => ?_), F.mgf, F.kp, b⟩
  · obtain ⟨p, rfl, _⟩ := h
    rfl
  · obtain ⟨p, rfl, pot, hT, kk⟩ := h
    refine ⟨_, ((pss_cons (ps_for PassesOwn.never rfl (pi_range1 (by rfl) T.b_range (pa_cons pe_int pa_nil)) (pg_name (i := 1) sc109.nd rfl (Or.inl rfl)) (pss_one (ps_if (pt_not (pt_val (pe_cG g__law_plan_right gu hr (by decide) (by rfl) (pa_cons (pv 0) (pa_cons (C8.pe_c c__law_any_plan hr (by decide) (by rfl) (pa_cons (pv 0) pa_nil)) pa_nil))))) (pss_one (ps_ret pe_bl)) pss_nil)))
      (pss_one (ps_ret pe_bl)))), ?_⟩
    refine ⟨4, rfl, by decide, by decide, ?_⟩
    refine for_range (lo := 0) (n := 4) (fun i σ H' => ∃ x1, σ = [some (.ref p), x1] ∧ ExtP p H H' ∧ Tabs Tb H' ∧ Pot p H') ⟨_, rfl, fun b o _ h _ => h, hT, pot⟩ (fun i σ H1 hi ⟨x1, eσ, e1, T1, pot1⟩ => ?_) (fun σ H1 ⟨x1, eσ, e1, T1, pot1⟩ => ?_)
    · subst eσ
      refine ⟨_, rfl, _, rfl, fun _ => none, p, rfl, fun b o z => (by cases z), rfl, pot1, fun v G2 H2 Pl f2 pot2 hv ok => ?_⟩
      refine ⟨G2, p, v, Pl, rfl, hv, ok, f2.s, f2.gp rfl pot1, pot2, f2.t T1, fun H3 x3 T3 pot3 => ?_⟩
      exact ⟨_, rfl, iteF ⟨_, rfl, (e1.trans f2.e).trans x3, T3, pot3⟩⟩
    · subst eσ
      exact kk H1 e1 T1 pot1
/-- where the script lies, and what keeps it there -/
theorem held {K : PySem.W.Frag} {H : Hp} {a : Addr} {xs : List V} (h : SqL K H a xs) : ∃ S : Hp → Prop, S H ∧ (∀ H', S H' → SqL K H' a xs ∧ ∃ G, Same G H' ∧ SqL K G a xs) ∧
    ∀ H' H'', S H' → (∀ o, Live H a → Live H' a → H' a = some o → (∀ ps, o ≠ .tbl ps) → H'' a = some o) → S H'' := by
  rcases h with (h | ⟨o, h⟩) | h
  · refine ⟨fun H' => H' a = some (.lst xs), h, fun H' e => ⟨.inl (.inl e), _, same_one e, .inl (.inl upd_same)⟩, fun H' H'' e k => k _ ⟨_, h, fun _ z => by cases z⟩ ⟨_, e, fun _ z => by cases z⟩ e (fun _ z => by cases z)⟩
  · refine ⟨fun H' => H' a = some (.frz o (.lst xs)), h, fun H' e => ⟨.inl (.inr ⟨o, e⟩), _, same_one e, .inl (.inr ⟨o, upd_same⟩)⟩, fun H' H'' e k => k _ ⟨_, h, fun _ z => by cases z⟩ ⟨_, e, fun _ z => by cases z⟩ e (fun _ z => by cases z)⟩
  · exact ⟨fun _ => True, trivial, fun H' _ => ⟨.inr h, fun _ => none, fun _ _ z => (by cases z), .inr h⟩, fun _ _ _ _ => trivial⟩
def spLaw (K : PySem.W.Frag) (Tb : List (Addr × Str)) : Sp := fun vs H Q _ => ∃ (a : Addr) (ns : List Int), vs = [.ref a] ∧ SqL K H a (ns.map V.int) ∧ ns.length ≤ 63 ∧ (∀ x ∈ ns, x.natAbs < 2 ^ 1048577) ∧ Tabs Tb H ∧ ∀ H', Q (.bl true) H'
theorem sc110 : FnScope ["_law_script_here", "_law_k"] ["_law_script_here"] (C8.fnScope (top 110)) := C8.fnScope_by (by decide +kernel)
theorem ok_law (T : Txt K mg C) {f : Addr} {fd : FuncData} (F : C8.Fun K "law" "law" (top 110) f fd) (g__law_right : CalG P w K mg base 13 "_law_right" (spR Tb)) (c__law_pot : Cl P w K mg base 1 "_law_pot" (spPot K Tb) []) :
    FnG P w K mg base 14 f fd ["_law_script_here"] (spLaw K Tb) := by
  refine fnG_of F sc110 (fun vs H Q E h => ?_) (fun cdv A outer s H vs Q E gu hr h => ?_)
  · obtain ⟨a, ns, rfl, _⟩ := h
    rfl
  · obtain ⟨a, ns, rfl, hS, hlen, hb, hT, kk⟩ := h
    refine ⟨_, ((pss_one (ps_ret (pe_callB (cr_all rfl) (by rfl) T.b_all (by decide +kernel) (pa_cons (pe_lc (own := [("_law_k", 1)]) (tt := tYes) rfl sc110.nd (pi_range1 (by rfl) T.b_range (pa_cons (pe_callB (call_max2 rfl) (by rfl) T.b_max (by decide +kernel) (pa_cons pe_int (pa_cons (pe_callB (call_min2 rfl) (by rfl) T.b_min (by decide +kernel) (pa_cons (pe_callB call_len_seq (by rfl) T.b_len (by decide +kernel) (pa_cons (pv 0) pa_nil)) (pa_cons pe_int pa_nil))) pa_nil))) pa_nil)) (blkOk_by (N := ["_law_script_here", "_law_k"]) (sc := C8.fnScope (top 110)) (by decide +kernel)) (fun _ _ _ _ _ => (pg_name (i := 1) sc110.nd rfl (Or.inl rfl))) (fun _ _ _ _ _ => pts_nil) (fun _ _ _ _ _ => (pe_cG g__law_right gu hr (by decide) (by rfl) (pa_cons (C8.pe_c c__law_pot hr (by decide) (by rfl) (pa_cons (pv 0) (pa_cons (pv 1) pa_nil))) pa_nil)))) pa_nil))))), ?_⟩
    obtain ⟨S, s0, sq, sx⟩ := held hS
    refine ⟨_, rfl, a, _, rfl, .inl (sq _ s0).1, _, _, rfl, _, _, rfl, ?_⟩
    rw [List.length_map]
    have hn : ∃ n : Nat, (if (if (3 : Int) < ((ns.length : Nat) : Int) then 3 else ((ns.length : Nat) : Int)) > 1 then (if (3 : Int) < ((ns.length : Nat) : Int) then 3 else ((ns.length : Nat) : Int)) else 1) = ((n : Nat) : Int) ∧ n ≤ 3 := by
      refine ⟨(if (if (3 : Int) < ((ns.length : Nat) : Int) then 3 else ((ns.length : Nat) : Int)) > 1 then (if (3 : Int) < ((ns.length : Nat) : Int) then 3 else ((ns.length : Nat) : Int)) else 1).toNat, ?_, ?_⟩
      · split <;> split <;> omega
      · split <;> split <;> omega
    obtain ⟨n, en, hn3⟩ := hn
    rw [en]
    refine ⟨_, rfl, ?_, ?_, fun D hD => ?_⟩
    · omega
    · omega
    refine lc_it walk_range (fun i H' => H' D = some (.lst ((List.replicate i true).map V.bl)) ∧ S H' ∧ Tabs Tb H') ⟨upd_same, ?_, hT.ext (upd_keep hD)⟩ (fun i H' _ _ => trivial) (fun i y H1 H2 hi ⟨hDD, s1, T1⟩ y' => ?_) (fun H1 ⟨hDD, s1, T1⟩ => ?_)
    · exact sx _ _ s0 fun o l _ ho _ => upd_keep hD _ _ ho
    · obtain ⟨rfl, rfl⟩ := y'
      rw [Int.toNat_natCast] at hi
      obtain ⟨_, G, sG, qG⟩ := sq _ s1
      refine ⟨rfl, _, rfl, _, rfl, G, a, ns, i, ?_, qG, by omega, hb, by omega, sG, fun p H3 f3 gp pot lp => ?_⟩
      · show [V.ref a, V.int (0 + ((i : Nat) : Int))] = _
        rw [Int.zero_add]
        rfl
      have T3 := f3.t T1
      have hD3 := f3.at (fun h => h) hDD
      have s3 := sx _ _ s1 fun o _ _ ho no => f3.e _ _ (fun h => h) ho no
      have nDp : D ≠ p := fun z => lp ⟨_, by rw [← z]; exact hDD, lst_nt⟩
      refine ⟨p, rfl, pot, T3, fun H4 x4 T4 pot4 => ?_⟩
      have hD4 := x4 _ _ nDp hD3 lst_nt
      refine ⟨_, hD4, ?_, ?_, ?_, tabs_set T4 hD4 lst_nt lst_nc⟩
      · rw [List.length_map, List.length_replicate]
        exact Nat.lt_of_lt_of_le (m := 5) (by omega) len5
      · rw [upd_same, List.replicate_succ', List.map_append]
        rfl
      · refine sx _ _ s1 fun o l0 l1 ho no => ?_
        have ha0 : a ≠ D := fun z => (not_live hD) (by rw [← z]; exact l0)
        have hap : a ≠ p := fun z => lp (by rw [← z]; exact l1)
        rw [upd_ne ha0]
        exact x4 _ _ hap (f3.e _ _ (fun h => h) ho no) no
    · rw [Int.toNat_natCast] at hDD
      refine ⟨D, List.replicate n true, rfl, .of hDD, ?_⟩
      rw [all_true]
      exact kk _
end
end K57
set_option Elab.async false
set_option linter.all false
set_option autoImplicit false
set_option maxRecDepth 100000
set_option maxHeartbeats 4000000
/-! K58W: the law's call from the head, where nothing is being shown. -/
namespace K57
open PySem PySem.Spec PyProof.Rows L2 LamX
/-- the abstract heap at the call: a table, the script if it is tracked -/
def hp0 (p0 a : Addr) (u : Option HO) : Hp := fun b => if b = p0 then some (.tbl #[]) else if b = a then u else none
section
variable {p0 a b : Addr} {u : Option HO}
theorem hp0_tab : hp0 p0 a u p0 = some (.tbl #[]) := if_pos rfl
theorem hp0_scr (n : a ≠ p0) : hp0 p0 a u a = u := (if_neg n).trans (if_pos rfl)
theorem hp0_no (n : b ≠ p0) (m : b ≠ a) : hp0 p0 a u b = none := (if_neg n).trans (if_neg m)
theorem law_go {P : Program} {w : World} {K : PySem.W.Frag} {mg mb : Str → Option Value} {k : Nat} {fa c0 : Addr} {fd : FuncData} {x : Str} {sp : Sp} {s : Shared} {vs : List Value} {ns : List Int}
    (kin : K.In s.heap) (gl : s.heap.Ns mainGlobals mg) (bl : s.heap.Ns builtinsNs mb) (bb : ∀ x : Str, x ≠ "__name__" → mb x = bootBuiltins x) (lim : s.heap.NoLimit) (ng : s.gens = #[])
    (tab : s.heap.get? p0 = some { cls := .none, data := .fields #[] }) (tk : K.lookup p0 = none) (code : PySem.W.CodeHd s.heap c0 p0)
    (bm : ∃ (m : Addr) (o : Obj), mg "__builtins__" = some (.ref m) ∧ m ≠ builtinsNs ∧ s.heap.get? m = some o ∧ o.cls = .type "module" ∧ o.dict = some builtinsNs ∧ o.data = .plain)
    (scr : s.heap.get? a = some { cls := .type "list", data := .seq vs.toArray }) (hin : IntsAre vs ns) (len : ns.length ≤ sizeLine) (room : Room k callerA)
    (F : ∀ base : Heap, K.In base → base.Ns mainGlobals mg → TabB base mg c0 p0 → FnG P w K mg base k fa fd [x] sp) (bind : ∀ (t : Shared) (u : Value), BindsTo t fd ⟨[u], []⟩ [(x, u)])
    (wish : ∀ H : Hp, H p0 = some (.tbl #[]) → SqL K H a (ns.map V.int) → sp [.ref a] H (fun v _ => v = .bl true) fun _ _ _ => False) :
    codeAny (model P w) callerA (.call (.ref fa) ⟨[.ref a], []⟩) (fun r s' => r = .ok (.ret (.bool true)) ∧ OldK s.heap s'.heap ∧ s'.os = s.os ∧ AllBare s'.gens) s := by
  have nap : a ≠ p0 := fun z => by
    rw [z, tab] at scr
    cases scr
  -- the script: tracked where K does not know it
  have pick : ∃ u : Option HO, (∀ H : Hp, H a = u → SqL K H a (ns.map V.int)) ∧ (u = none ∨ u = some (.frz { cls := .type "list", data := .seq vs.toArray } (.lst (ns.map V.int)))) ∧ (u ≠ none → K.lookup a = none) := by
    cases q : K.lookup a with
    | none => exact ⟨_, fun H e => .inl (.inr ⟨_, e⟩), .inr rfl, fun _ => rfl⟩
    | some o =>
      have e := kin a o q
      rw [scr] at e
      cases e
      exact ⟨none, fun H _ => .inr ⟨_, vs.toArray, _, q, rfl, rfl, rfl, by rw [List.size_toArray, hin.length]; exact len, by simpa using vals_ints hin⟩, .inl rfl, fun z => absurd rfl z⟩
  obtain ⟨u, su, ou, ku⟩ := pick
  -- what is no list and no empty record is not tracked
  have out : ∀ {b : Addr} {o : Obj}, s.heap.get? b = some o → (∀ ys n, o.data ≠ .seq ys n) → o.data ≠ .fields #[] → hp0 p0 a u b = none := fun {b o} e d1 d2 => by
    refine hp0_no (fun z => ?_) fun z => ?_
    · rw [z, tab] at e
      cases e
      exact d2 rfl
    · rw [z, scr] at e
      cases e
      exact d1 _ _ rfl
  have outD : ∀ {b : Addr} {m : Str → Option Value}, s.heap.Ns b m → (hidT s.heap (hp0 p0 a u)).Ns b m := fun {b m} ⟨o, es, ep, e, d, r⟩ =>
    ⟨o, es, ep, hidT_get e (out e (fun ys n z => by rw [d] at z; cases z) fun z => by rw [d] at z; cases z), d, r⟩
  have kb : K.In (hidT s.heap (hp0 p0 a u)) := fun b o e => by
    refine hidT_get (kin b o e) ?_
    by_cases z : b = p0
    · rw [z, tk] at e
      cases e
    · by_cases z2 : b = a
      · subst z2
        rw [hp0_scr nap]
        rcases ou with h | h
        · exact h
        · rw [ku (by rw [h]; exact Option.some_ne_none _)] at e
          cases e
      · exact hp0_no z z2
  have gb := outD gl
  have tb : TabB (hidT s.heap (hp0 p0 a u)) mg c0 p0 := by
    refine ⟨?_, ?_, fun z => ?_⟩
    · obtain ⟨o, us, file, tf, flags, tg, inF, text, tt, e1, r1, r2, r3, rest⟩ := code
      refine ⟨o, us, file, tf, flags, tg, inF, text, tt, hidT_get e1 (out e1 (fun ys n z => by rw [r2] at z; cases z) fun z => ?_), r1, r2, r3, rest⟩
      rw [r2] at z
      cases z
      simp at r3
    · obtain ⟨m, o, b1, b2, b3, b4, b5, b6⟩ := bm
      refine ⟨m, o, b1, b2, fun z => ?_, fun z => ?_, hidT_get b3 (out b3 (fun ys n z => by rw [b6] at z; cases z) fun z => by rw [b6] at z; cases z), b4, b5, b6⟩
      · obtain ⟨o', es, ep, e, d, _⟩ := gl
        rw [z, e] at b3
        cases b3
        rw [d] at b6
        cases b6
      · rw [z, tab] at b3
        cases b3
        cases b6
    · obtain ⟨o, es, ep, e, d, _⟩ := gl
      rw [z, tab] at e
      cases e
      cases d
  have hok : HOk P w (hp0 p0 a u) s.heap := fun b o e => by
    by_cases z : b = p0
    · subst z
      rw [hp0_tab] at e
      cases e
      exact tab
    · by_cases z2 : b = a
      · subst z2
        rw [hp0_scr nap] at e
        rcases ou with h | h
        · rw [h] at e; cases e
        · rw [h] at e
          cases e
          exact ⟨scr, by rw [List.length_map]; exact len, vs, _, vals_ints hin, scr⟩
      · rw [hp0_no z z2] at e
        cases e
  have e0 : Env0 P w K mg (hidT s.heap (hp0 p0 a u)) callerA [] s (hp0 p0 a u) :=
    ⟨rfl, ⟨kb, gb, ⟨mb, outD bl, bb⟩, let ⟨mc, h1, h2⟩ := lim; ⟨mc, outD h1, h2⟩⟩, fun b o e => of_hidT e, Nat.le_of_eq (hidT_size _ _), trivial, fun b z => absurd (show b ∈ ([] : List Addr) from z) (by simp), hok, .of_eq ng⟩
  have run := (F _ kb gb tb).go callerA [] s (hp0 p0 a u) ⟨[.ref a], []⟩ [.ref a] [.ref a] _ _ rfl room e0 (bind s (.ref a)) (.cons rfl .nil) (wish _ hp0_tab (su _ (hp0_scr nap)))
  refine codeAny_mono run ?_
  rintro (e | _ | _ | _ | r) s' res
  · exact res.elim
  · exact res.elim
  · exact res.elim
  · exact res.elim
  obtain ⟨v, H', os, bare, un, hok', rel, q⟩ := res
  cases (show v = .bl true from q)
  cases (show r = Value.bool true from rel)
  have stay : ∀ b o, b ≠ p0 → s.heap.get? b = some o → s'.heap.get? b = some o := fun b o nb e => by
    by_cases z2 : b = a
    · subst z2
      rcases ou with h | h
      · exact un.keep _ o e ((hp0_scr nap).trans h) (fun z => absurd (show _ ∈ ([] : List Addr) from z) (by simp)) (by simp)
      · have f2 := un.frzs _ _ _ ((hp0_scr nap).trans h)
        have g2 := (hok' _ _ f2).1
        rw [scr] at e
        rw [← e]
        exact g2
    · exact un.keep b o e (hp0_no nb z2) (fun z => absurd (show b ∈ ([] : List Addr) from z) (by simp)) (by simp)
  obtain ⟨more, grown⟩ := un.tbls p0 #[] hp0_tab
  have tab' : s'.heap.get? p0 = some { cls := .none, data := .fields (#[] ++ more) } := hok' p0 _ grown
  refine ⟨rfl, ⟨fun b o e => ?_, fun b o e => ?_⟩, os, bare⟩
  · by_cases z : b = p0
    · subst z
      rw [tab] at e
      cases e
      exact .inr (.inl ⟨(code.tab tab).isCodeTable, rfl, #[], more, rfl, tab'⟩)
    · exact .inl (stay b o z e)
  · by_cases z : b = p0
    · subst z
      exact ⟨_, tab'⟩
    · exact ⟨o, stay b o z e⟩
end
end K57
set_option Elab.async false
set_option linter.all false
set_option autoImplicit false
set_option maxRecDepth 100000
set_option maxHeartbeats 4000000
/-! K58R: the bent plan, lemmas. -/
namespace K57
open PySem PySem.Spec PyProof.Rows L2 LamX
theorem scOk_set {ths : List (Md × Nat)} {hands : Nat} {sc : List Nd} {k at_ : Nat} {nd nd' : Nd} (h : ScOk ths hands sc k) (e : sc[at_]? = some nd) (o : NdOk ths hands at_ sc.length nd') (i : nd'.inner = nd.inner) : ScOk ths hands (sc.set at_ nd') k := by
  refine ⟨h.k1, by rw [List.length_set]; exact h.kl, by rw [List.length_set]; exact h.l, fun j x hx => ?_⟩
  rw [List.length_set]
  rcases set_get hx with ⟨rfl, rfl⟩ | ⟨_, hj⟩
  · exact ⟨o, by rw [i]; exact (h.nd _ nd e).2⟩
  · exact h.nd j x hj
theorem plOk_set {Pl : Pl} {hand : Nat} {sc sc' : List Nd} (ok : PlOk Pl) (e : Pl.scs[hand]? = some sc) (h : ∀ k, ScOk Pl.ths Pl.scs.length sc k → ScOk Pl.ths Pl.scs.length sc' k) : PlOk ⟨Pl.ths, Pl.scs.set hand sc'⟩ := by
  obtain ⟨M, hM, hsc⟩ := ok.sc
  refine ⟨ok.t1, ok.t4, ok.th, by rw [List.length_set]; exact ok.s2, by rw [List.length_set]; exact ok.s4, M, by rw [List.length_set]; exact hM, fun x hx => ?_⟩
  show ∃ k, k ≤ M ∧ ScOk Pl.ths (Pl.scs.set hand sc').length x k
  rw [List.length_set]
  rcases List.mem_or_eq_of_mem_set hx with z | rfl
  · exact hsc x z
  · obtain ⟨k, hk, hs⟩ := hsc sc (mem_of_get e)
    exact ⟨k, hk, h k hs⟩
theorem nd_view {G : Hp} {v : V} {nd : Nd} (h : VNd G v nd) (hn : nd.inner = true) : ∃ (a d : Addr) (z : Str) (rest : List V) (br : List (Nat × Nat)) (mk : List (Nat × Nat) → Nd), v = .ref a ∧ z ≠ "end" ∧ rest.length ≤ 3 ∧ G a = some (.tup (.str z :: rest ++ [.ref d])) ∧ G d = some (.dK (brK br)) ∧ nd = mk br ∧ (∀ b, (mk b).inner = true) ∧
    (∀ (br' : List (Nat × Nat)) (G' : Hp) (t d' : Addr), G' t = some (.tup (.str z :: rest ++ [.ref d'])) → G' d' = some (.dK (brK br')) → VNd G' (.ref t) (mk br')) ∧
    ∀ (ths : List (Md × Nat)) (hands at_ n : Nat), (∀ x ∈ ths, MdOk x.1 ∧ x.2 < x.1.rows.length) → NdOk ths hands at_ n (mk br) → ∃ kk, kk ≤ 10 ∧ BrOk br kk at_ n ∧ ∀ b, BrOk b kk at_ n → NdOk ths hands at_ n (mk b) := by
  cases nd with
  | look t br =>
    obtain ⟨a, d, rfl, h1, h2⟩ := h
    refine ⟨a, d, "look", [nV t], br, fun b => .look t b, rfl, by decide, by simp, h1, h2, rfl, fun _ => rfl, fun br' G' t' d' z1 z2 => ⟨t', d', rfl, z1, z2⟩, fun ths hands at_ n mok o => ?_⟩
    obtain ⟨m, s, hm, hb⟩ := o
    exact ⟨m.rows.length, by have := (mok _ (mem_of_get hm)).1.r8; simp at this; omega, hb, fun b hb' => ⟨m, s, hm, hb'⟩⟩
  | act t j br =>
    obtain ⟨a, d, rfl, h1, h2⟩ := h
    refine ⟨a, d, "do", [nV t, .str (nmAt j)], br, fun b => .act t j b, rfl, by decide, by simp, h1, h2, rfl, fun _ => rfl, fun br' G' t' d' z1 z2 => ⟨t', d', rfl, z1, z2⟩, fun ths hands at_ n mok o => ?_⟩
    obtain ⟨m, s, hm, hj, hb⟩ := o
    exact ⟨10, Nat.le_refl _, hb, fun b hb' => ⟨m, s, hm, hj, hb'⟩⟩
  | fin h => cases hn
theorem lookup_of {k : Nat} : ∀ {br : List (Nat × Nat)}, k ∈ br.map (·.1) → ∃ v, br.lookup k = some v
  | [], h => by simp at h
  | (a, b) :: r, h => by
    by_cases e : k = a
    · subst e; exact ⟨b, by simp [List.lookup]⟩
    · have h2 : k ∈ r.map (·.1) := by
        rcases List.mem_cons.mp (by simpa using h : k ∈ a :: r.map (·.1)) with z | z
        · exact absurd z e
        · exact z
      obtain ⟨v, hv⟩ := lookup_of h2
      exact ⟨v, by rw [List.lookup, show (k == a) = false from beq_eq_false_iff_ne.mpr e]; exact hv⟩
theorem keys_of {br : List (Nat × Nat)} {ys : List Int} (h : ys.Perm (br.map fun e => ((e.1 : Nat) : Int))) (nd : (br.map (·.1)).Nodup) : ∃ kn : List Nat, ys.map V.int = kn.map nV ∧ kn.Nodup ∧ (∀ x ∈ kn, x ∈ br.map (·.1)) ∧ kn.length = br.length := by
  have h0 : ∀ y ∈ ys, ∃ e ∈ br, y = ((e.1 : Nat) : Int) := fun y hy => by
    obtain ⟨e, he, z⟩ := List.mem_map.mp (h.mem_iff.mp hy)
    exact ⟨e, he, z.symm⟩
  have hn : ys.Nodup := by
    rw [h.nodup_iff]
    have : (br.map fun e => ((e.1 : Nat) : Int)) = (br.map (·.1)).map fun k => ((k : Nat) : Int) := by simp
    rw [this]
    exact List.pairwise_map.mpr (List.Pairwise.imp (fun hne z => hne (by omega)) nd)
  have e1 : ys = (ys.map Int.toNat).map fun k => ((k : Nat) : Int) := by
    rw [List.map_map]
    conv => lhs; rw [← List.map_id ys]
    exact List.map_congr_left fun y hy => by obtain ⟨e, _, z⟩ := h0 y hy; simp; omega
  refine ⟨ys.map Int.toNat, ?_, ?_, fun x hx => ?_, by rw [List.length_map, h.length_eq, List.length_map]⟩
  · conv => lhs; rw [e1]
    rw [List.map_map]
    rfl
  · exact List.pairwise_map.mpr (List.Pairwise.imp_of_mem (fun {a b} ha hb hne z => hne (by obtain ⟨e, _, z1⟩ := h0 a ha; obtain ⟨f, _, z2⟩ := h0 b hb; omega)) hn)
  · obtain ⟨y, hy, rfl⟩ := List.mem_map.mp hx
    obtain ⟨e, he, z⟩ := h0 y hy
    exact List.mem_map.mpr ⟨e, he, by omega⟩
theorem other_of : ∀ {l : List Nat}, l.Nodup → 1 < l.length → ∀ k, ∃ x ∈ l, x ≠ k
  | [], _, h, _ => by simp at h
  | [_], _, h, _ => by simp at h
  | a :: b :: r, nd, _, k => by
    by_cases e : a = k
    · exact ⟨b, by simp, fun z => (List.nodup_cons.mp nd).1 (by rw [e, ← z]; simp)⟩
    · exact ⟨a, by simp, e⟩
/-- copies of the scripts, in H alone -/
structure Cop (p : Addr) (H0 : Hp) (D : Addr) (as : List Addr) (scs : List (List Nd)) (G H : Hp) : Prop where
  hD : H D = some (.lst (as.map V.ref))
  gD : G D = none
  len : as.length = scs.length
  nd : as.Nodup
  nDp : D ≠ p
  lD : ¬ Live H0 D
  st : ∀ a ∈ as, a ≠ D ∧ a ≠ p ∧ ¬ Live H0 a ∧ G a = none
  at_ : ∀ (j : Nat) (a : Addr) (sc : List Nd), as[j]? = some a → scs[j]? = some sc → ∃ vs, H a = some (.lst vs) ∧ All2 (VNd G) vs sc
theorem Cop.fr {Tb : List (Addr × Str)} {p : Addr} {H0 : Hp} {D : Addr} {as : List Addr} {scs : List (List Nd)} {G H G' H' : Hp} (c : Cop p H0 D as scs G H) (f : Fr Tb (fun b => b = p) G H G' H') : Cop p H0 D as scs G' H' := by
  refine ⟨f.at c.nDp c.hD, f.keep c.hD c.gD, c.len, c.nd, c.nDp, c.lD, fun a ha => ?_, fun j a sc ha hs => ?_⟩
  · obtain ⟨h1, h2, h3, h4⟩ := c.st a ha
    obtain ⟨j, hj⟩ := List.getElem?_of_mem ha
    obtain ⟨sc, hs⟩ := get_of_lt (l := scs) (i := j) (by rw [← c.len]; exact lt_of_get hj)
    obtain ⟨vs, hv, _⟩ := c.at_ j a sc hj hs
    exact ⟨h1, h2, h3, f.keep hv h4⟩
  · obtain ⟨vs, hv, h⟩ := c.at_ j a sc ha hs
    exact ⟨vs, f.at (c.st a (mem_of_get ha)).2.1 hv, h.imp fun v x z => VNd.mono f.g z⟩
theorem Cop.ne {p : Addr} {H0 : Hp} {D : Addr} {as : List Addr} {scs : List (List Nd)} {G H : Hp} {b : Addr} (c : Cop p H0 D as scs G H) (n : H b = none) : b ≠ D ∧ b ∉ as := by
  refine ⟨fun z => (by rw [z, c.hD] at n; cases n), fun hb => ?_⟩
  obtain ⟨j, hj⟩ := List.getElem?_of_mem hb
  obtain ⟨sc, hs⟩ := get_of_lt (l := scs) (i := j) (by rw [← c.len]; exact lt_of_get hj)
  obtain ⟨vs, hv, _⟩ := c.at_ j b sc hj hs
  rw [n] at hv
  cases hv
theorem Cop.upd {p : Addr} {H0 : Hp} {D : Addr} {as : List Addr} {scs : List (List Nd)} {G H : Hp} {b : Addr} {o : HO} (c : Cop p H0 D as scs G H) (n : b ≠ D ∧ b ∉ as) : Cop p H0 D as scs G (upd H b o) :=
  ⟨by rw [upd_ne (Ne.symm n.1)]; exact c.hD, c.gD, c.len, c.nd, c.nDp, c.lD, c.st, fun j a sc ha hs => by
    obtain ⟨vs, hv, h⟩ := c.at_ j a sc ha hs
    exact ⟨vs, by rw [upd_ne (show a ≠ b from fun z => n.2 (by rw [← z]; exact mem_of_get ha))]; exact hv, h⟩⟩
theorem Cop.adopt {p : Addr} {H0 : Hp} {D : Addr} {as : List Addr} {scs : List (List Nd)} {G H : Hp} {b : Addr} {o : HO} (c : Cop p H0 D as scs G H) (n : b ≠ D ∧ b ∉ as) (g : G b = none) : Cop p H0 D as scs (L2.upd G b o) H :=
  ⟨c.hD, by rw [upd_ne (Ne.symm n.1)]; exact c.gD, c.len, c.nd, c.nDp, c.lD, fun a ha => ⟨(c.st a ha).1, (c.st a ha).2.1, (c.st a ha).2.2.1, by rw [upd_ne (show a ≠ b from fun z => n.2 (by rw [← z]; exact ha))]; exact (c.st a ha).2.2.2⟩, fun j a sc ha hs => by
    obtain ⟨vs, hv, h⟩ := c.at_ j a sc ha hs
    exact ⟨vs, hv, h.imp fun v x z => VNd.mono (same_upd (.refl _) g) z⟩⟩
theorem adopt_all {T : List (Addr × Str)} {X : Addr → Prop} {G0 H0 H : Hp} : ∀ (as : List Addr) (scs : List (List Nd)) (G : Hp), Fr T X G0 H0 G H → as.length = scs.length → as.Nodup → (∀ a ∈ as, ¬ Live H0 a ∧ G a = none) →
    (∀ (j : Nat) (a : Addr) (sc : List Nd), as[j]? = some a → scs[j]? = some sc → ∃ vs, H a = some (.lst vs) ∧ All2 (VNd G) vs sc) → ∃ G', Fr T X G0 H0 G' H ∧ Same G G' ∧ All2 (VSc G') (as.map V.ref) scs ∧ ∀ b, b ∉ as → G b = none → G' b = none := by
  intro as
  induction as with
  | nil =>
    intro scs G f h _ _ _
    have : scs = [] := List.length_eq_zero_iff.mp h.symm
    subst this
    exact ⟨G, f, .refl _, .nil, fun _ _ h => h⟩
  | cons a r ih =>
    intro scs G f h nd st at_
    cases scs with
    | nil => simp at h
    | cons sc rs =>
      obtain ⟨vs, hv, ha⟩ := at_ 0 a sc rfl rfl
      obtain ⟨l1, g1⟩ := st a List.mem_cons_self
      have f1 := f.adopt' l1 g1 hv
      have e1 := same_upd (b := a) (o := .lst vs) (.refl G) g1
      rw [List.nodup_cons] at nd
      obtain ⟨G', f2, s2, a2, n2⟩ := ih rs (upd G a (.lst vs)) f1 (by simpa using h) nd.2 (fun b hb => ⟨(st b (List.mem_cons_of_mem _ hb)).1, by rw [upd_ne (show b ≠ a from fun z => nd.1 (by rw [← z]; exact hb))]; exact (st b (List.mem_cons_of_mem _ hb)).2⟩) (fun j b sc' hb hs => by
        obtain ⟨vs', h1, h2⟩ := at_ (j + 1) b sc' (by simpa using hb) (by simpa using hs)
        exact ⟨vs', h1, h2.imp fun v x z => VNd.mono e1 z⟩)
      refine ⟨G', f2, e1.trans s2, .cons ⟨a, vs, rfl, s2 _ _ upd_same, ha.imp fun v x z => VNd.mono (e1.trans s2) z⟩ a2, fun b hb gb => n2 b (fun z => hb (List.mem_cons_of_mem _ z)) ?_⟩
      rw [upd_ne (show b ≠ a from fun z => hb (by rw [z]; exact List.mem_cons_self))]
      exact gb
section
variable {P : Program} {w : World} {K : PySem.W.Frag} {mg : Str → Option Value} {base : Heap} {C : Cs} {Tb : List (Addr × Str)}
theorem sc96 : FnScope ["_law_pot_here", "_law_plan_here", "_law_scripts_now", "_law_hand", "_law_at", "_law_node_here", "_law_keys", "_law_key", "_law_way", "_law_ways", "_law_lines", "_law_near"] ["_law_pot_here", "_law_plan_here"] (C8.fnScope (top 96)) := C8.fnScope_by (by decide +kernel)
theorem ok_bent (T : Txt K mg C) {f : Addr} {fd : FuncData} (F : C8.Def K mg "_law_bent" (top 96) f fd) (b : Binds K fd ["_law_pot_here", "_law_plan_here"] []) (c__law_draw : Cl P w K mg base 1 "_law_draw" (spDraw Tb) []) (c__law_pick : Cl P w K mg base 2 "_law_pick" (spPick Tb) []) :
    Cl P w K mg base 3 "_law_bent" (spBent Tb) [] := by
  refine C8.cal0 F b .nil sc96 (fun vs H Q E h => ?_) (fun cdv A outer s H vs Q E hr h => ?_)
  · obtain ⟨G, p, v, Pl, rfl, _⟩ := h
    rfl
  · obtain ⟨G, p, v, Pl, rfl, hv, ok, hs, gp, pot, kk⟩ := h
    have hu := hu_of hr
    refine ⟨_, ((pss_cons (ps_setLc (i := 2) (own := [("_law_lines", 10)]) (tt := tYes) rfl sc96.nd rfl rfl (sw_true rfl rfl rfl (by decide +kernel)) (pi_list (pe_ix ix_tup (pv 1) pe_int (fun _ _ => rfl))) (blkOk_by (N := ["_law_pot_here", "_law_plan_here", "_law_scripts_now", "_law_hand", "_law_at", "_law_node_here", "_law_keys", "_law_key", "_law_way", "_law_ways", "_law_lines", "_law_near"]) (sc := C8.fnScope (top 96)) (by decide +kernel)) (fun _ _ _ _ _ => (pg_name (i := 10) sc96.nd rfl (Or.inl rfl))) (fun _ _ _ _ _ => pts_nil) (fun _ _ _ _ _ => (pe_callTy (call_list_ofK K) (by rfl) T.b_list (by decide +kernel) (pa_cons (pv 10) pa_nil))))
      (pss_cons (ps_set (i := 3) sc96.nd rfl (Or.inl rfl) (C8.pe_c c__law_draw hr (by decide) (by rfl) (pa_cons (pv 0) (pa_cons (pe_callB call_len_seq (by rfl) T.b_len (by decide +kernel) (pa_cons (pv 2) pa_nil)) pa_nil))))
      (pss_cons (ps_set (i := 4) sc96.nd rfl (Or.inl rfl) (C8.pe_c c__law_draw hr (by decide) (by rfl) (pa_cons (pv 0) (pa_cons (pe_callB call_len_seq (by rfl) T.b_len (by decide +kernel) (pa_cons (pe_ix ix_list (pv 2) (pv 3) (fun _ _ => rfl)) pa_nil)) pa_nil))))
      (pss_cons (ps_set (i := 5) sc96.nd rfl (Or.inr rfl) (pe_ix ix_list (pe_ix ix_list (pv 2) (pv 3) (fun _ _ => rfl)) (pv 4) (fun _ _ => rfl)))
      (pss_cons (ps_if (pt_cmpR op_eq (pe_ix ix_tup (pv 5) pe_int (fun _ _ => rfl)) pe_str (nomark _)) (pss_cons (ps_asg (pe_tup (pa_cons pe_str (pa_cons (C8.pe_c c__law_draw hr (by decide) (by rfl) (pa_cons (pv 0) (pa_cons (pe_callB call_len_seq (by rfl) T.b_len (by decide +kernel) (pa_cons (pv 2) pa_nil)) pa_nil))) pa_nil))) (pg_sub (pe_ix ix_list (pv 2) (pv 3) (fun _ _ => rfl)) (pv 4) set_list))
      (pss_one (ps_ret (pe_tup (pa_cons (pe_ix ix_tup (pv 1) pe_int (fun _ _ => rfl)) (pa_cons (pv 2) pa_nil)))))) pss_nil)
      (pss_cons (ps_set (i := 6) sc96.nd rfl (Or.inl rfl) (pe_callB (call_sortedDI rfl) (by rfl) T.b_sorted (by decide +kernel) (pa_cons (pe_ix ix_tup (pv 5) (pe_un un_neg pe_int) (fun _ _ => rfl)) pa_nil)))
      (pss_cons (ps_asg (pe_tup (pa_cons (C8.pe_c c__law_pick hr (by decide) (by rfl) (pa_cons (pv 0) (pa_cons (pv 6) pa_nil))) (pa_cons (C8.pe_c c__law_draw hr (by decide) (by rfl) (pa_cons (pv 0) (pa_cons pe_int pa_nil))) pa_nil))) (pg_tup rfl (pgs_cons (pg_name (i := 7) sc96.nd rfl (Or.inr rfl)) (pgs_cons (pg_name (i := 8) sc96.nd rfl (Or.inl rfl)) pgs_nil))))
      (pss_cons (ps_set (i := 9) sc96.nd rfl (Or.inl rfl) (pe_callTy (call_dictP rfl) (by rfl) T.b_dict (by decide +kernel) (pa_cons (pe_lc (own := [("_law_near", 11)]) (tt := tYes) rfl sc96.nd (pi_list (pv 6)) (blkOk_by (N := ["_law_pot_here", "_law_plan_here", "_law_scripts_now", "_law_hand", "_law_at", "_law_node_here", "_law_keys", "_law_key", "_law_way", "_law_ways", "_law_lines", "_law_near"]) (sc := C8.fnScope (top 96)) (by decide +kernel)) (fun _ _ _ _ _ => (pg_name (i := 11) sc96.nd rfl (Or.inl rfl))) (fun _ _ _ _ _ => pts_nil) (fun _ _ _ _ _ => (pe_tup (pa_cons (pv 11) (pa_cons (pe_dget hu (pe_ix (ix_tupK K) (pv 5) (pe_un un_neg pe_int) (fun _ _ => rfl)) (pv 11) (fun _ _ => rfl)) pa_nil))))) pa_nil)))
      (pss_cons (ps_dput hu (pv 9) (pv 7) (pe_op op_add (pe_op op_add (pv 4) pe_int) (C8.pe_c c__law_draw hr (by decide) (by rfl) (pa_cons (pv 0) (pa_cons (pe_op op_sub (pe_op op_sub (pe_callB call_len_seq (by rfl) T.b_len (by decide +kernel) (pa_cons (pe_ix ix_list (pv 2) (pv 3) (fun _ _ => rfl)) pa_nil)) (pv 4)) pe_int) pa_nil)))) rfl)
      (pss_cons (ps_if (PW.pt (pw_and (pt_cmpR op_eq (pv 8) pe_int (nomark _)) (pw_and1 (pt_cmpR op_gt (pe_callB call_len_seq (by rfl) T.b_len (by decide +kernel) (pa_cons (pv 6) pa_nil)) pe_int (nomark _))))) (pss_one (ps_set (i := 9) sc96.nd rfl (Or.inl rfl) (pe_callTy (call_dictP rfl) (by rfl) T.b_dict (by decide +kernel) (pa_cons (pe_lc (own := [("_law_near", 11)]) rfl sc96.nd (pi_list (pv 6)) (blkOk_by (N := ["_law_pot_here", "_law_plan_here", "_law_scripts_now", "_law_hand", "_law_at", "_law_node_here", "_law_keys", "_law_key", "_law_way", "_law_ways", "_law_lines", "_law_near"]) (sc := C8.fnScope (top 96)) (by decide +kernel)) (fun _ _ _ _ _ => (pg_name (i := 11) sc96.nd rfl (Or.inl rfl))) (fun _ _ _ _ _ => pts_one (pt_cmpR op_ne (pv 11) (pv 7) (nomark _))) (fun _ _ _ _ _ => (pe_tup (pa_cons (pv 11) (pa_cons (pe_dget hu (pe_ix (ix_tupK K) (pv 5) (pe_un un_neg pe_int) (fun _ _ => rfl)) (pv 11) (fun _ _ => rfl)) pa_nil))))) pa_nil)))) pss_nil)
      (pss_cons (ps_asg (pe_op op_catA (pe_slice sl_tupA (pv 5) po_none (po_some (pe_un un_neg pe_int))) (pe_tup (pa_cons (pv 9) pa_nil))) (pg_sub (pe_ix ix_list (pv 2) (pv 3) (fun _ _ => rfl)) (pv 4) set_list))
      (pss_one (ps_ret (pe_tup (pa_cons (pe_ix ix_tup (pv 1) pe_int (fun _ _ => rfl)) (pa_cons (pv 2) pa_nil))))))))))))))))), ?_⟩
    obtain ⟨pa, bl, sl, bvs, ws, rfl, hpa, hbl, hbv, hsl, hws⟩ := hv
    have s4 := ok.s4
    have s2 := ok.s2
    refine ⟨_, rfl, _, _, _, _, rfl, rfl, .of (hs _ _ hpa), atI_nat (j := 1) rfl, _, rfl, ⟨_, .of (hs _ _ hsl)⟩, fun D hD => ?_⟩
    have gD := none_of_same hs hD
    refine lc_it (walk_list (a := sl) (xs := ws)) (fun i H' => ∃ as : List Addr, H' D = some (.lst (as.map V.ref)) ∧ Fr Tb X0 G H G H' ∧ as.length = i ∧ as.Nodup ∧ (∀ a ∈ as, a ≠ D ∧ ¬ Live H a ∧ G a = none) ∧ ∀ (j : Nat) (a : Addr) (sc : List Nd), as[j]? = some a → Pl.scs[j]? = some sc → ∃ vs, H' a = some (.lst vs) ∧ All2 (VNd G) vs sc)
      ⟨[], upd_same, Fr.alloc' hs hD, rfl, List.nodup_nil, fun a h => by simp at h, fun j a sc h => by simp at h⟩ (fun i H' _ ⟨as, _, fr, _⟩ => .of (fr.s _ _ hsl)) (fun i y H1 H2 hi ⟨as, hDD, fr, hal, hnd, hst, hat⟩ y' => ?_) (fun H1 ⟨as, hDD, fr, hal, hnd, hst, hat⟩ => ?_)
    · obtain ⟨rfl, hy⟩ := y'
      obtain ⟨sc, hsc, lj, vsj, rfl, hlj, hvj⟩ := hws.get' hy
      have hd1 : ∀ a ∈ as, ∃ o, H2 a = some o := fun a ha => by
        obtain ⟨j, hj⟩ := List.getElem?_of_mem ha
        obtain ⟨sc, hs2⟩ := get_of_lt (l := Pl.scs) (i := j) (by have := lt_of_get hj; have := lt_of_get hsc; omega)
        obtain ⟨vs, h1, _⟩ := hat j a sc hj hs2
        exact ⟨_, h1⟩
      refine ⟨rfl, _, rfl, lj, vsj, rfl, .inl (.of (fr.s _ _ hlj)), fun l nl => ⟨as.map V.ref, upd_keep nl _ _ hDD, ?_, as ++ [l], ?_, ?_, by simp [hal], ?_, ?_, ?_⟩⟩
      · rw [List.length_map, hal]
        exact Nat.lt_of_lt_of_le (m := 5) (by rw [hws.1] at hi; omega) len5
      · rw [upd_same, List.map_append]; rfl
      · exact (fr.trans (Fr.alloc' (o := .lst vsj) fr.s nl)).mut hD gD (upd_keep nl _ _ hDD) (fun q z => by cases z)
      · refine List.nodup_append.mpr ⟨hnd, by simp, fun a ha b hb z => ?_⟩
        obtain ⟨o, ho⟩ := hd1 a ha
        rw [z, List.mem_singleton.mp hb, nl] at ho
        cases ho
      · intro a ha
        rcases List.mem_append.mp ha with z | z
        · exact hst a z
        · rw [List.mem_singleton.mp z]
          exact ⟨fun z => (by rw [z, hDD] at nl; cases nl), fr.nl nl, none_of_same fr.s nl⟩
      · intro j a sc' hj hs'
        rcases Nat.lt_or_ge j as.length with hl | hl
        · rw [List.getElem?_append_left hl] at hj
          obtain ⟨vs, h1, h2⟩ := hat j a sc' hj hs'
          exact ⟨vs, by rw [upd_ne (hst a (mem_of_get hj)).1]; exact upd_keep nl _ _ h1, h2⟩
        · have hj1 : j = i := by
            have := lt_of_get hj
            rw [List.length_append, List.length_singleton] at this
            omega
          subst hj1
          rw [List.getElem?_append_right hl, show j - as.length = 0 by omega] at hj
          cases hj
          rw [hsc] at hs'
          cases hs'
          exact ⟨vsj, by rw [upd_ne (show l ≠ D from fun z => by rw [z, hDD] at nl; cases nl)]; exact upd_same, hvj⟩
    · have cop : Cop p H D as Pl.scs G H1 := ⟨hDD, gD, by rw [hal, hws.1], hnd, fun z => (pot.ne hD) z.symm, not_live hD, fun a ha => ⟨(hst a ha).1, fun z => by
        obtain ⟨_, _, hp, _⟩ := pot.ex
        exact (hst a ha).2.1 ⟨_, by rw [z]; exact hp, fun ps z => by cases z⟩, (hst a ha).2⟩, hat⟩
      have pot1 := pot.fr fr
      have f1 : Fr Tb (fun b => b = p) G H G H1 := fr.of0
      have asl : as.length = Pl.scs.length := cop.len
      clear hat hst hDD hnd
      refine ⟨_, rfl, _, rfl, D, as.map V.ref, rfl, .inl (.of cop.hD), G, p, Pl.scs.length, by rw [List.length_map, asl]; rfl, by omega, by omega, fr.s, gp, pot1, fun hand H2 hhand f2 pot2 => ?_⟩
      have cop2 := cop.fr f2
      obtain ⟨sc, hsc⟩ := get_of_lt hhand
      obtain ⟨sa, hsa⟩ := get_of_lt (l := as) (i := hand) (by omega)
      obtain ⟨vs, hvs, hvsc⟩ := cop2.at_ hand sa sc hsa hsc
      obtain ⟨k, hk9, sok⟩ : ∃ k, True ∧ ScOk Pl.ths Pl.scs.length sc k := by
        obtain ⟨M, hM, hall⟩ := ok.sc
        obtain ⟨k, _, h⟩ := hall sc (mem_of_get hsc)
        exact ⟨k, trivial, h⟩
      have kl := sok.kl
      have k1 := sok.k1
      have l7 := sok.l
      have hsaV : (as.map V.ref)[hand]? = some (.ref sa) := by rw [List.getElem?_map, hsa]; rfl
      refine ⟨_, rfl, _, rfl, _, rfl, _, _, _, _, rfl, rfl, .of cop2.hD, atI_nat hsaV, sa, vs, rfl, .inl (.of hvs), G, p, sc.length, by rw [hvsc.1]; rfl, by omega, by omega, f2.s, gp, pot2, fun at_ H3 hat f3 pot3 => ?_⟩
      have cop3 := cop2.fr f3
      have hvs3 := f3.at (cop2.st sa (mem_of_get hsa)).2.1 hvs
      obtain ⟨nd, hnd⟩ := get_of_lt hat
      obtain ⟨nv, hnv, hvn⟩ := hvsc.get hnd
      have f13 := (f1.trans f2).trans f3
      refine ⟨_, rfl, _, rfl, _, _, _, _, rfl, rfl, .of cop3.hD, atI_nat hsaV, _, rfl, _, _, _, _, rfl, rfl, .of hvs3, atI_nat hnv, ?_⟩
      obtain ⟨ndo, ndi⟩ := sok.nd at_ nd hnd
      have hpsa : pa ≠ sa := fun z => (cop.st sa (mem_of_get hsa)).2.2.1 ⟨_, by rw [← z]; exact hs _ _ hpa, fun ps z => by cases z⟩
      have fin : ∀ (G5 H5 : Hp) (tv : V) (nd' : Nd), Fr Tb (fun b => b = p) G H G5 H5 → Cop p H D as Pl.scs G5 H5 → Pot p H5 → H5 sa = some (.lst vs) → VNd G5 tv nd' → NdOk Pl.ths Pl.scs.length at_ sc.length nd' → nd'.inner = nd.inner → ∀ t, upd H5 sa (.lst (vs.set at_ tv)) t = none → Q (.ref t) (upd (upd H5 sa (.lst (vs.set at_ tv))) t (.tup [.ref bl, .ref D])) := by
        intro G5 H5 tv nd' f5 c5 p5 hv5 htv o i t nt
        obtain ⟨saD, sap, lsa, gsa⟩ := c5.st sa (mem_of_get hsa)
        have f6 := f5.mut' (o := .lst (vs.set at_ tv)) lsa gsa hv5 lst_nt lst_nc lst_nt
        obtain ⟨vs', hv', ha'⟩ := c5.at_ hand sa sc hsa hsc
        rw [hv5] at hv'
        cases hv'
        obtain ⟨G7, f7, s7, a7, n7⟩ := adopt_all as (Pl.scs.set hand (sc.set at_ nd')) G5 f6 (by rw [List.length_set]; exact c5.len) c5.nd (fun a ha => (c5.st a ha).2.2) (fun j a sc' hj hs' => by
          rcases set_get hs' with ⟨rfl, rfl⟩ | ⟨hne, hj2⟩
          · rw [hsa] at hj
            cases hj
            exact ⟨_, upd_same, ha'.set htv⟩
          · have hna : a ≠ sa := fun z => hne ((List.getElem?_inj (lt_of_get hj) c5.nd).mp (by rw [hj, hsa, z]))
            obtain ⟨vs2, h1, h2⟩ := c5.at_ j a sc' hj hj2
            exact ⟨vs2, by rw [upd_ne hna]; exact h1, h2⟩)
        have gD7 := n7 D (fun z => (c5.st D z).1 rfl) c5.gD
        have hD7 : upd H5 sa (.lst (vs.set at_ tv)) D = some (.lst (as.map V.ref)) := by rw [upd_ne (Ne.symm saD)]; exact c5.hD
        have f8 := f7.adopt' c5.lD gD7 hD7
        have e8 := same_upd (b := D) (o := .lst (as.map V.ref)) (.refl G7) gD7
        have f9 := f8.trans (Fr.alloc (o := .tup [.ref bl, .ref D]) f8.s nt)
        have e9 := same_upd (b := t) (o := .tup [.ref bl, .ref D]) (.refl _) (none_of_same f8.s nt)
        have p6 : Pot p (upd H5 sa (.lst (vs.set at_ tv))) := p5.upd (Ne.symm sap)
        exact kk _ _ _ ⟨Pl.ths, Pl.scs.set hand (sc.set at_ nd')⟩ f9 (p6.upd (p6.ne nt)) ⟨t, bl, D, bvs, as.map V.ref, rfl, upd_same, f9.g _ _ hbl, hbv.imp fun v x h => VBeg.mono f9.g h, e9 _ _ upd_same, a7.imp fun v x h => VSc.mono (e8.trans e9) h⟩ (plOk_set ok hsc fun k h => scOk_set h hnd o i)
      cases hin : nd.inner with
      | false =>
        cases nd with
        | look t br => cases hin
        | act t j br => cases hin
        | fin h0 =>
          obtain ⟨na, rfl, hna⟩ := hvn
          have hge : ¬ at_ < k := fun z => by have := ndi.mpr z; cases this
          refine ⟨_, rfl, _, _, _, _, rfl, rfl, .of ((f2.g.trans f3.g |> fun e => f3.s) _ _ (f3.g _ _ hna)), atI_nat (j := 0) rfl, rfl, true, rfl, iteT ?_⟩
          refine ⟨_, rfl, _, rfl, D, as.map V.ref, rfl, .inl (.of cop3.hD), G, p, Pl.scs.length, by rw [List.length_map, asl]; rfl, by omega, by omega, f3.s, gp, pot3, fun h' H4 hh' f4 pot4 => ⟨len2, fun t nt => ?_⟩⟩
          have f4' := f4.trans (Fr.alloc (o := .tup [.str "end", nV h']) f4.s nt)
          have cop4 := cop3.fr f4'
          have hvs4 := f4'.at (cop3.st sa (mem_of_get hsa)).2.1 hvs3
          refine ⟨_, rfl, _, rfl, _, _, _, _, rfl, rfl, .of cop4.hD, atI_nat hsaV, _, rfl, sa, vs, _, at_, rfl, rfl, hvs4, ixN_nat (by rw [hvsc.1]; exact hat), ?_⟩
          have hpaH := f4'.s _ _ (f4'.g _ _ (f3.g _ _ (f2.g _ _ hpa)))
          refine ⟨_, rfl, _, _, _, _, rfl, rfl, .of ((upd_ne hpsa).trans hpaH), atI_nat (j := 0) rfl, _, rfl, len2, fun t2 nt2 => ?_⟩
          exact fin _ _ (.ref t) (.fin h') (f13.trans f4') cop4 (pot4.upd (pot4.ne nt)) hvs4 ⟨t, rfl, upd_same⟩ hh' rfl t2 nt2
      | true =>
        obtain ⟨na, d, z, rest, br, mk, rfl, hz, hr3, hna, hd, rfl, hmi, hview, hok⟩ := nd_view hvn hin
        obtain ⟨kk2, kk10, hbr, hmk⟩ := hok Pl.ths Pl.scs.length at_ sc.length ok.th ndo
        have hlt : at_ < k := ndi.mp hin
        have hb10 : br.length ≤ 10 := Nat.le_trans hbr.len kk10
        have hnaH := f3.s _ _ hna
        refine ⟨_, rfl, _, _, _, _, rfl, rfl, .of hnaH, atI_nat (j := 0) rfl, rfl, false, congrArg V.bl (decide_eq_false fun e => hz (V.str.inj e)), iteF ?_⟩
        refine ⟨_, rfl, _, rfl, _, _, _, _, rfl, rfl, .of hnaH, atI_last, d, brK br, br.map fun e => ((e.1 : Nat) : Int), rfl, .inl (f3.s _ _ hd), brK_keys br, by rw [List.length_map]; omega, fun ys q hperm hord nq => ?_⟩
        obtain ⟨kn, ekn, knd, kin, knl⟩ := keys_of hperm hbr.nd
        rw [ekn]
        have kpos : 0 < kn.length := by
          rw [knl]
          exact Nat.pos_of_ne_zero fun z => hbr.ne (List.length_eq_zero_iff.mp z)
        have f4 : Fr Tb (fun b => b = p) G H3 (upd G q (.lst (kn.map nV))) (upd H3 q (.lst (kn.map nV))) := Fr.alloc f3.s nq
        have pot4 := pot3.upd (o := .lst (kn.map nV)) (pot3.ne nq)
        have hq : upd G q (.lst (kn.map nV)) q = some (.lst (kn.map nV)) := upd_same
        have gp4 := f4.gp gp pot3
        have cop4 := cop3.fr f4
        have hvs4 := f4.at (cop3.st sa (mem_of_get hsa)).2.1 hvs3
        have f14 := f13.trans f4
        have hna4 := f4.g _ _ hna
        have hd4 := f4.g _ _ hd
        generalize upd G q (.lst (kn.map nV)) = G4 at f4 hq gp4 cop4 f14 hna4 hd4
        generalize upd H3 q (.lst (kn.map nV)) = H4 at f4 pot4 cop4 hvs4 f14 ⊢
        refine ⟨_, rfl, _, rfl, G4, p, q, kn.map nV, rfl, hq, by rw [List.length_map]; exact kpos, by rw [List.length_map]; omega, f14.s, gp4, pot4, fun d1 v H5 hv f5 pot5 => ?_⟩
        obtain ⟨key, hkey, rfl⟩ : ∃ key, kn[d1]? = some key ∧ v = nV key := by
          rw [List.getElem?_map] at hv
          cases h : kn[d1]? with
          | none => rw [h] at hv; cases hv
          | some x => rw [h] at hv; cases hv; exact ⟨x, rfl, rfl⟩
        refine ⟨_, rfl, G4, p, 2, rfl, by decide, by decide, f5.s, gp4, pot5, fun way H6 hway f6 pot6 => ⟨len2, fun t nt => ?_⟩⟩
        have f7 := f6.trans (Fr.alloc' (o := .tup [nV key, nV way]) f6.s nt)
        have pot7 := pot6.upd (o := .tup [nV key, nV way]) (pot6.ne nt)
        refine ⟨t, _, rfl, .of upd_same, rfl, _, _, rfl, _, _, rfl, rfl, ?_⟩
        have f57 := f5.trans f7
        have cop7 := cop4.fr f57
        have hvs7 := f57.at (cop4.st sa (mem_of_get hsa)).2.1 hvs4
        have f17 := f14.trans f57
        generalize upd H6 t (.tup [nV key, nV way]) = H7 at f57 pot7 cop7 hvs7 f17 ⊢
        refine ⟨_, rfl, _, rfl, ⟨_, .of (f57.s _ _ hq)⟩, fun D2 hD2 => ?_⟩
        refine lc_frY (T := Tb) (X := X0) (walk_list (a := q) (xs := kn.map nV)) G4 (ISome VEnt (fun i e => kn[i]? = some e.1 ∧ at_ < e.2 ∧ e.2 < sc.length)) f57.s hD2 (fun z => z) (by rw [List.length_map, knl]; exact Nat.le_trans hb10 (by rw [sizeLine_eq]; decide)) (fun H2 e => .of (e _ _ hq)) ISome.nil (ISome.mono mEnt) ISome.len (fun j y Ga Ha Hb acc N hj hI fra hDD gD y' k' => ?_) (fun Ga Ha acc hI fra sg hDD => ?_)
        · obtain ⟨rfl, hy⟩ := y'
          rw [List.length_map] at hj
          obtain ⟨x, hx⟩ := get_of_lt hj
          have e2 : some (nV x) = some y := (get_nV hx).symm.trans hy
          cases e2
          obtain ⟨v0, hv0⟩ := lookup_of (kin x (mem_of_get hx))
          have hbo := hbr.ok _ (lookup_mem hv0)
          have sa4 := fra.g.trans fra.s
          exact ⟨rfl, _, rfl, _, rfl, _, rfl, _, _, _, _, rfl, rfl, .of (sa4 _ _ hna4), atI_last, _, rfl, d, nV v0, rfl, .inl ⟨brK br, Sum.inl ((x : Nat) : Int), .inl (sa4 _ _ hd4), rfl, by rw [valV_brK, hv0]; rfl⟩, len2, fun t nt => k' _ _ _ (Fr.alloc fra.s nt) (hI.step mEnt (same_upd (.refl _) (none_of_same fra.s nt)) (ent_of (x := x) (y := v0) upd_same rfl rfl) ⟨hx, hbo.2⟩)⟩
        obtain ⟨br1, hb1l, hb1a, hb1o⟩ := hI
        rw [List.length_map] at hb1l
        obtain ⟨ps1, eps1, hps1⟩ := paired_of (K := K) (sg.trans fra.s) hb1a
        have ebr1 : br1.map (·.1) = kn := by
          refine List.ext_getElem? fun i => ?_
          rw [List.getElem?_map]
          by_cases hi : i < br1.length
          · obtain ⟨e, he⟩ := get_of_lt hi
            rw [he, (hb1o i e he).1]
            rfl
          · rw [List.getElem?_eq_none (by omega), List.getElem?_eq_none (by omega)]
            rfl
        have bnd1 : (br1.map (·.1)).Nodup := by rw [ebr1]; exact knd
        refine ⟨D2, ps1, brK br1, rfl, .of (by rw [hDD, eps1]), hps1, fun dn ndn => ?_⟩
        rw [merge_brK bnd1]
        have gdn := none_of_same fra.s ndn
        have ldn : ¬ Live H dn := (f17.trans fra.of0).nl ndn
        have copa := cop7.fr fra.of0
        have pota := pot7.fr fra
        have ndd := copa.ne ndn
        have hvsa := fra.at (fun z => z) hvs7
        have ndsa := ne_of_none hvsa ndn
        have f8 := fra.trans (Fr.alloc' (o := .dK (brK br1)) fra.s ndn)
        have hdn : upd Ha dn (.dK (brK br1)) dn = some (.dK (brK br1)) := upd_same
        have ndp := pota.ne ndn
        have f18 := f17.trans f8.of0
        have cop8 := cop7.fr f8.of0
        have pot8 := pot7.fr f8
        have hvs8 := f8.at (fun z => z) hvs7
        have s45 := fra.g
        generalize upd Ha dn (.dK (brK br1)) = H8 at f8 hdn f18 cop8 pot8 hvs8 ⊢
        generalize upd Ga D2 (.lst acc) = G5 at f8 f18 cop8 gdn s45
        have gp5 := f18.gp gp pot
        refine ⟨_, rfl, _, _, rfl, rfl, _, rfl, _, rfl, _, rfl, _, _, _, _, rfl, rfl, .of cop8.hD, atI_nat hsaV, sa, vs, rfl, .inl (.of hvs8), _, rfl, _, _, rfl, rfl, _, _, rfl, rfl, G5, p, sc.length - at_ - 1, ?_, by omega, by omega, f8.s, gp5, pot8, fun d2 H9 hd2 f9 pot9 => ?_⟩
        · show [V.ref p, V.int (((vs.length : Nat) : Int) - (at_ : Int) - 1)] = _
          rw [hvsc.1, show ((sc.length : Nat) : Int) - (at_ : Int) - 1 = ((sc.length - at_ - 1 : Nat) : Int) by omega]
          rfl
        have hdn9 := f9.at (Ne.symm ndp) hdn
        have cop9 := cop8.fr f9
        have hvs9 := f9.at (cop8.st sa (mem_of_get hsa)).2.1 hvs8
        have f19 := f18.trans f9
        refine ⟨_, _, rfl, rfl, _, rfl, _, rfl, dn, _, rfl, .inl ⟨brK br1, Sum.inl ((key : Nat) : Int), hdn9, rfl, ?_, rfl⟩, ?_⟩
        · unfold brK
          rw [List.length_map]
          exact Nat.lt_of_lt_of_le (m := 20) (by omega) (by rw [sizeLine_eq]; decide)
        have ev : ((at_ : Int) + 1 + (d2 : Int)) = ((at_ + 1 + d2 : Nat) : Int) := by omega
        have ep : putK (brK br1) (Sum.inl ((key : Nat) : Int)) (.int ((at_ : Int) + 1 + (d2 : Int))) = brK (putA br1 key (at_ + 1 + d2)) := by
          rw [ev]; exact putK_brK br1 key (at_ + 1 + d2)
        have bok2 : BrOk (putA br1 key (at_ + 1 + d2)) kk2 at_ sc.length := by
          refine ⟨putA_ne _ _ _, nodup_putA bnd1, putA_P (R := fun e => e.1 < kk2 ∧ at_ < e.2 ∧ e.2 < sc.length) (fun e he => ?_) ?_⟩
          · obtain ⟨i, hi⟩ := List.getElem?_of_mem he
            have := hb1o i e hi
            obtain ⟨e', he', z'⟩ := List.mem_map.mp (kin _ (mem_of_get this.1))
            exact ⟨by rw [← z']; exact (hbr.ok e' he').1, this.2⟩
          · obtain ⟨e', he', z'⟩ := List.mem_map.mp (kin _ (mem_of_get hkey))
            exact ⟨by show key < kk2; rw [← z']; exact (hbr.ok e' he').1, by show at_ < at_ + 1 + d2; omega, by show at_ + 1 + d2 < sc.length; omega⟩
        refine nx_join (fun σ H' => ∃ (x10 x11 : Option V) (dw : Addr) (br3 : List (Nat × Nat)) (G' : Hp), σ = [some (.ref p), some (.ref pa), some (.ref D), some (nV hand), some (nV at_), some (.ref na), some (.ref q), some (nV key), some (nV way), some (.ref dw), x10, x11] ∧ Fr Tb (fun b => b = p) G H G' H' ∧ Cop p H D as Pl.scs G' H' ∧ Pot p H' ∧ H' sa = some (.lst vs) ∧ G' dw = some (.dK (brK br3)) ∧ BrOk br3 kk2 at_ sc.length ∧ G' na = some (.tup (.str z :: rest ++ [.ref d]))) (fun D' hD' => ?_) ?_
        · have eo : HO.dK (putK (brK br1) (Sum.inl ((key : Nat) : Int)) (.int ((at_ : Int) + 1 + (d2 : Int)))) = .dK (brK (putA br1 key (at_ + 1 + d2))) := congrArg HO.dK ep
          have dkt : ∀ {kvs : List (Key × V)} ps, HO.dK kvs ≠ .tbl ps := fun ps z => by cases z
          have dkc : ∀ {kvs : List (Key × V)} {a : Addr} q, HO.dK kvs ≠ LamX.CodeO a q := fun ps z => by cases z
          show tIfS _ _ _ D' _ (L2.upd H9 dn (.dK (putK (brK br1) (Sum.inl ((key : Nat) : Int)) (.int ((at_ : Int) + 1 + (d2 : Int))))))
          rw [eo]
          have f110 := f19.mut' (o := .dK (brK (putA br1 key (at_ + 1 + d2)))) ldn gdn hdn9 dkt dkc dkt
          have cop10 := cop9.upd (o := .dK (brK (putA br1 key (at_ + 1 + d2)))) ndd
          have pot10 := pot9.upd (o := .dK (brK (putA br1 key (at_ + 1 + d2)))) ndp
          have hvs10 : L2.upd H9 dn (.dK (brK (putA br1 key (at_ + 1 + d2)))) sa = some (.lst vs) := by rw [upd_ne ndsa]; exact hvs9
          have hdn10 : L2.upd H9 dn (.dK (brK (putA br1 key (at_ + 1 + d2)))) dn = some (.dK (brK (putA br1 key (at_ + 1 + d2)))) := upd_same
          generalize L2.upd H9 dn (.dK (brK (putA br1 key (at_ + 1 + d2)))) = H10 at f110 cop10 pot10 hvs10 hdn10 ⊢
          have e5 := same_upd (b := dn) (o := .dK (brK (putA br1 key (at_ + 1 + d2)))) (.refl G5) gdn
          have stay : D'.nx [some (.ref p), some (.ref pa), some (.ref D), some (nV hand), some (nV at_), some (.ref na), some (.ref q), some (nV key), some (nV way), some (.ref dn), none, none] H10 := hD' _ _ ⟨_, _, dn, putA br1 key (at_ + 1 + d2), _, rfl, f110.adopt' ldn gdn hdn10, cop10.adopt ndd gdn, pot10, hvs10, upd_same, bok2, e5 _ _ (s45 _ _ hna4)⟩
          by_cases hw0 : way = 0
          · subst hw0
            refine ⟨_, rfl, rfl, true, rfl, iteT ?_⟩
            refine ⟨_, rfl, q, _, rfl, .inl (.of (f110.s _ _ (s45 _ _ hq))), _, _, rfl, rfl, ?_⟩
            by_cases hk1 : 1 < kn.length
            · refine ⟨true, congrArg V.bl (decide_eq_true (by rw [List.length_map]; omega)), iteT ?_⟩
              have hq5 := s45 _ _ hq
              refine ⟨_, rfl, _, rfl, ⟨_, .of (f110.s _ _ hq5)⟩, fun D3 hD3 => ?_⟩
              refine lc_fr (T := Tb) (X := X0) (walk_list (a := q) (xs := kn.map nV)) G5 (fun i G acc => ∃ bb : List (Nat × Nat), All2 (VEnt G) acc bb ∧ (bb.map Prod.fst).Sublist (kn.take i) ∧ (∀ e ∈ bb, e.1 ∈ kn ∧ at_ < e.2 ∧ e.2 < sc.length) ∧ ∀ x ∈ kn.take i, x ≠ key → x ∈ bb.map Prod.fst) f110.s hD3 (fun z => z) (by rw [List.length_map, knl]; exact Nat.le_trans hb10 (by rw [sizeLine_eq]; decide)) (fun H2 e => .of (e _ _ hq5)) ⟨[], .nil, by simp, by simp, by simp⟩ (fun i G G' acc e ⟨bb, h1, h2⟩ => ⟨bb, h1.imp fun v x z => VEnt.mono e z, h2⟩) (fun i G acc ⟨bb, h1, h2, _⟩ => by
                have := h2.length_le
                rw [List.length_map, List.length_take] at this
                rw [h1.1]; omega) (fun j y Gx Hx Hy acc2 N M hj hI frx hDx gDx y' k1 k0 => ?_) (fun Gx Hx acc2 hI frx sgx hDx => ?_)
              · obtain ⟨rfl, hy⟩ := y'
                rw [List.length_map] at hj
                obtain ⟨x, hx⟩ := get_of_lt hj
                have e2 : some (nV x) = some y := (get_nV hx).symm.trans hy
                cases e2
                obtain ⟨bb, b1, b2, b3, b4⟩ := hI
                by_cases hxk : x = key
                · refine ⟨rfl, _, rfl, _, rfl, rfl, false, ?_, iteF (k0 _ _ (.refl frx.s) ⟨bb, b1, sub_skip b2, b3, fun u hu hne => ?_⟩)⟩
                  · subst hxk; simp
                  · rw [List.take_add_one, hx] at hu
                    rcases List.mem_append.mp hu with z | z
                    · exact b4 u z hne
                    · exact absurd ((List.mem_singleton.mp z).trans hxk) hne
                · obtain ⟨v0, hv0⟩ := lookup_of (kin x (mem_of_get hx))
                  have hbo := hbr.ok _ (lookup_mem hv0)
                  have sx := s45.trans (frx.g.trans frx.s)
                  refine ⟨rfl, _, rfl, _, rfl, rfl, true, ?_, iteT ⟨_, rfl, _, rfl, _, rfl, _, _, _, _, rfl, rfl, .of (sx _ _ hna4), atI_last, _, rfl, d, nV v0, rfl, .inl ⟨brK br, Sum.inl ((x : Nat) : Int), .inl (sx _ _ hd4), rfl, by rw [valV_brK, hv0]; rfl⟩, len2, fun t nt => k1 _ _ _ (Fr.alloc frx.s nt) ⟨bb ++ [(x, v0)], (b1.imp fun v y z => VEnt.mono (same_upd (.refl _) (none_of_same frx.s nt)) z).snoc (ent_of upd_same rfl rfl), by rw [List.map_append]; exact sub_step b2 hx, fun e he => ?_, fun u hu hne => ?_⟩⟩⟩
                  · show V.bl (!decide (nV x = nV key)) = V.bl true
                    rw [decide_eq_false (fun z => hxk (by have := V.int.inj z; omega))]
                    rfl
                  · rcases List.mem_append.mp he with z | z
                    · exact b3 e z
                    · rw [List.mem_singleton.mp z]
                      exact ⟨mem_of_get hx, hbo.2⟩
                  · rw [List.map_append]
                    rw [List.take_add_one, hx] at hu
                    rcases List.mem_append.mp hu with z | z
                    · exact List.mem_append_left _ (b4 u z hne)
                    · exact List.mem_append_right _ (by rw [List.mem_singleton.mp z]; simp)
              · obtain ⟨bb, c1, c2, c3, c4⟩ := hI
                have tk : kn.take (kn.map nV).length = kn := by rw [List.length_map, List.take_length]
                rw [tk] at c2 c4
                have bnd3 : (bb.map (·.1)).Nodup := knd.sublist c2
                obtain ⟨ps3, eps3, hps3⟩ := paired_of (K := K) (sgx.trans frx.s) c1
                refine ⟨D3, ps3, brK bb, rfl, .of (by rw [hDx, eps3]), hps3, fun dm ndm => ?_⟩
                rw [merge_brK bnd3]
                have gdm := none_of_same frx.s ndm
                have fx := f110.trans frx.of0
                have copx := cop10.fr (frx.of0 (Y := fun b => b = p))
                have potx := pot10.fr frx
                have hvsx := frx.at (fun z => z) hvs10
                have bok3 : BrOk bb kk2 at_ sc.length := by
                  refine ⟨fun z => ?_, bnd3, fun e he => ?_⟩
                  · obtain ⟨x, hx, hne⟩ := other_of knd hk1 key
                    have := c4 x hx hne
                    rw [z] at this
                    simp at this
                  · obtain ⟨h1, h2, h3⟩ := c3 e he
                    obtain ⟨e', he', z'⟩ := List.mem_map.mp (kin _ h1)
                    exact ⟨by rw [← z']; exact (hbr.ok e' he').1, h2, h3⟩
                have ga : Fr Tb (fun b => b = p) (upd Gx D3 (.lst acc2)) Hx (upd (upd Gx D3 (.lst acc2)) dm (.dK (brK bb))) (upd Hx dm (.dK (brK bb))) := Fr.alloc frx.s ndm
                exact hD' _ _ ⟨_, _, dm, bb, _, rfl, fx.trans ga, copx.fr ga, potx.upd (potx.ne ndm), upd_keep ndm _ _ hvsx, upd_same, bok3, ga.g _ _ (frx.g _ _ (s45 _ _ hna4))⟩
            · exact ⟨false, congrArg V.bl (decide_eq_false (by rw [List.length_map]; omega)), iteF stay⟩
          · exact ⟨_, rfl, rfl, false, congrArg V.bl (decide_eq_false (fun z => hw0 (by have := V.int.inj z; omega))), iteF (iteF stay)⟩
        · rintro σ Hj ⟨x10, x11, dw, br3, Gj, rfl, fj, copj, potj, hvsj, hdw, bok3, hnaj⟩
          refine ⟨_, rfl, _, rfl, _, rfl, na, _, rfl, .of (fj.s _ _ hnaj), fun h => absurd h.2 sIx_last, fun _ c nc => ?_⟩
          rw [cutV_last]
          have g1 : Fr Tb (fun b => b = p) Gj Hj Gj (upd Hj c (.tup (.str z :: rest))) := Fr.alloc' fj.s nc
          have hc1 : upd Hj c (.tup (.str z :: rest)) c = some (.tup (.str z :: rest)) := upd_same
          refine ⟨_, rfl, len1, fun tq ntq => ?_⟩
          have g2 := g1.trans (Fr.alloc' (o := .tup [.ref dw]) g1.s ntq)
          have hc2 := upd_keep (o := .tup [.ref dw]) ntq _ _ hc1
          refine ⟨c, tq, (.str z :: rest), [.ref dw], rfl, rfl, .of hc2, .of upd_same, Nat.le_trans (m := 5) (by simp; omega) len5, fun z => absurd z (by simp), fun _ z => absurd z (by simp), fun _ _ t nt => ?_⟩
          have g3 := g2.trans (Fr.alloc (o := .tup (.str z :: rest ++ [.ref dw])) g2.s nt)
          have e3 := same_upd (b := t) (o := .tup (.str z :: rest ++ [.ref dw])) (.refl Gj) (none_of_same g2.s nt)
          have copk := copj.fr g3
          have potk : Pot p (upd (upd (upd Hj c (.tup (.str z :: rest))) tq (.tup [.ref dw])) t (.tup (.str z :: rest ++ [.ref dw]))) := by
            have q1 := potj.upd (o := .tup (.str z :: rest)) (potj.ne nc)
            have q2 := q1.upd (o := .tup [.ref dw]) (q1.ne ntq)
            exact q2.upd (q2.ne nt)
          have hvsk := g3.at (copj.st sa (mem_of_get hsa)).2.1 hvsj
          have hpak := g3.s _ _ (g3.g _ _ (fj.g _ _ hpa))
          refine ⟨_, rfl, _, rfl, _, _, _, _, rfl, rfl, .of copk.hD, atI_nat hsaV, _, rfl, sa, vs, _, at_, rfl, rfl, hvsk, ixN_nat (by rw [hvsc.1]; exact hat), ?_⟩
          refine ⟨_, rfl, _, _, _, _, rfl, rfl, .of ((upd_ne hpsa).trans hpak), atI_nat (j := 0) rfl, _, rfl, len2, fun t2 nt2 => ?_⟩
          exact fin _ _ (.ref t) (mk br3) (fj.trans g3) copk potk hvsk (hview br3 _ t dw upd_same (e3 _ _ hdw)) (hmk br3 bok3) (by rw [hmi, hin]) t2 nt2
end
end K57
set_option Elab.async false
set_option linter.all false
set_option autoImplicit false
set_option maxRecDepth 100000
set_option maxHeartbeats 4000000
/-! K58X: all defs together. -/
namespace K57
open PySem PySem.Spec PyProof.Rows L2 LamX
section
variable {K : PySem.W.Frag} {mg : Str → Option Value} {base h : Heap}
theorem Says.at_ (c : Says K h) (i : Nat) {f : He.Fa} (e : facL[i]? = some f) : f.ok K = true := c.fac f (List.mem_of_getElem? e)
theorem Says.df (c : Says K h) (j : Nat) {d : He.DefD} (e : defL[j]? = some d) : ∃ fd, FunD K d.name d.qual d.params d.body d.scope (d.dvs K) (d.kws K) (He.fAd K d.at_) fd :=
  He.DefD.funD (c.dok d (List.mem_of_getElem? e)).2 (c.dok d (List.mem_of_getElem? e)).1
theorem Says.fn (c : Says K h) (j : Nat) {at_ : Str × Option Str} {x y : Str} {st : Stmt} (e : defL[j]? = some ⟨at_, x, y, C8.fnArgs st, C8.fnBody st, C8.fnScope st, [], []⟩) :
    ∃ fd, C8.Fun K x y st (He.fAd K at_) fd ∧ fd.defaults = .none ∧ PySem.W.keepIn K (.ref (He.fAd K at_)) = true := by
  obtain ⟨fd, F⟩ := c.df j e
  obtain ⟨oc, od, dV, kV, doc, pm, an, cdv, ct, osl, rfl, lk, hcd, hD, _⟩ := F.ex
  refine ⟨_, ⟨oc, od, dV, kV, doc, pm, an, cdv, ct, osl, rfl, lk, hcd⟩, ?_, F.kp⟩
  rcases hD with ⟨_, z⟩ | ⟨z, _⟩
  · exact z
  · exact absurd rfl z
theorem Says.def_ (c : Says K h) (X : K.In base) (G : base.Ns mainGlobals mg) (i j : Nat) {x : Str} {st : Stmt} {ps : List Str} (e : defL[j]? = some ⟨(x, none), x, x, C8.fnArgs st, C8.fnBody st, C8.fnScope st, [], []⟩) (g : facL[i]? = some (.glo x))
    (b : ∀ (kV doc pm : Value) (an : Option Addr) (cdv ct : Value) (us : List Value), us.length = ps.length → bindArgs (PySem.W.fnOf x x (C8.fnArgs st) (C8.fnBody st) (C8.fnScope st) .none kV doc pm an cdv ct) ⟨us, []⟩ = pure (ps.zip us)) :
    ∃ f fd, C8.Def K mg x st f fd ∧ Binds K fd ps [] := by
  obtain ⟨fd, F, df, kp⟩ := c.fn j e
  exact ⟨_, fd, ⟨F, He.glo_ok X G (c.at_ i g), kp⟩, F.binds df b⟩
theorem Says.int (c : Says K h) (X : K.In base) (G : base.Ns mainGlobals mg) (i : Nat) {x : Str} {n : Int} (g : facL[i]? = some (.int x n)) : ∃ u, mg x = some u ∧ RelV (.int n) u := by
  obtain ⟨t, e⟩ := He.int_ok X G (c.at_ i g)
  exact ⟨_, e, t, rfl⟩
theorem Says.str (c : Says K h) (X : K.In base) (G : base.Ns mainGlobals mg) (i : Nat) {x z : Str} (g : facL[i]? = some (.str x z)) : ∃ u, mg x = some u ∧ RelV (.str z) u := by
  obtain ⟨t, e⟩ := He.str_ok X G (c.at_ i g)
  exact ⟨_, e, t, rfl⟩
theorem Says.ref (c : Says K h) (X : K.In base) (G : base.Ns mainGlobals mg) (i : Nat) {x : Str} (g : facL[i]? = some (.glo x)) : ∃ u, mg x = some u ∧ RelV (.ref (He.ga K x)) u := ⟨_, He.glo_ok X G (c.at_ i g), rfl⟩
def csOf (K : PySem.W.Frag) : Cs := ⟨He.ga K "Thing", He.ga K "Program", He.ga K "Parts", He.ga K "Sheets"⟩
theorem Says.exs (c : Says K h) : (PySem.W.findIn K (.ref (He.ga K "Thing")) "states" = some (some (.ref (prA K))) ∧ PySem.W.specialIn K (.ref (prA K)) "__get__" = some (some (.builtin "property.__get__")) ∧ PySem.W.takesIn K (.ref (prA K)) = some true ∧ isSome1 (PySem.W.recIn K (prA K) "property") = true ∧ cdAt K (gtA K) "Thing.states" = true) ∧
    (PySem.W.findIn K (.ref (He.ga K "Thing")) "__class__" = some (some (.builtin "object.__class__")) ∧ PySem.W.specialIn K (.builtin "object.__class__") "__get__" = some (some (.builtin "getset_descriptor.__get__")) ∧ PySem.W.takesIn K (.builtin "object.__class__") = some true ∧ PySem.W.mroIn K (He.ga K "Thing") (.type "object") = some true) ∧
    PySem.W.kitOne K (.ref (He.ga K "Thing")) (.ref (He.ga K "Thing")) = some true ∧ PySem.W.kitOne K (.type "list") (.ref (He.ga K "Parts")) = some false ∧ PySem.W.kitOne K (.type "list") (.ref (He.ga K "Sheets")) = some false := by
  have e := c.more
  unfold exB at e
  obtain ⟨a1, e⟩ := He.ba e
  obtain ⟨a2, e⟩ := He.ba e
  obtain ⟨a3, e⟩ := He.ba e
  obtain ⟨a4, e⟩ := He.ba e
  obtain ⟨a5, e⟩ := He.ba e
  obtain ⟨a6, e⟩ := He.ba e
  obtain ⟨a7, e⟩ := He.ba e
  obtain ⟨a8, e⟩ := He.ba e
  obtain ⟨a9, e⟩ := He.ba e
  obtain ⟨b1, e⟩ := He.ba e
  obtain ⟨b2, b3⟩ := He.ba e
  exact ⟨⟨He.eqO_ok a1, He.eqO_ok a2, eqB_ok a3, a4, a5⟩, ⟨He.eqO_ok a6, He.eqO_ok a7, eqB_ok a8, eqB_ok a9⟩, eqB_ok b1, eqB_ok b2, eqB_ok b3⟩
theorem txt_of (c : Says K h) (X : K.In base) (G : base.Ns mainGlobals mg) : Txt K mg (csOf K) := by
  obtain ⟨_, e2, e3, e4, e5⟩ := c.exs
  exact {
    b_isinstance := He.free_ok X G (c.at_ 0 rfl)
    b_int := He.free_ok X G (c.at_ 1 rfl)
    b_bool := He.free_ok X G (c.at_ 2 rfl)
    b_str := He.free_ok X G (c.at_ 3 rfl)
    b_list := He.free_ok X G (c.at_ 4 rfl)
    b_tuple := He.free_ok X G (c.at_ 5 rfl)
    b_dict := He.free_ok X G (c.at_ 6 rfl)
    b_set := He.free_ok X G (c.at_ 7 rfl)
    b_len := He.free_ok X G (c.at_ 8 rfl)
    b_all := He.free_ok X G (c.at_ 9 rfl)
    b_any := He.free_ok X G (c.at_ 10 rfl)
    b_sum := He.free_ok X G (c.at_ 11 rfl)
    b_max := He.free_ok X G (c.at_ 12 rfl)
    b_min := He.free_ok X G (c.at_ 13 rfl)
    b_abs := He.free_ok X G (c.at_ 14 rfl)
    b_divmod := He.free_ok X G (c.at_ 15 rfl)
    b_range := He.free_ok X G (c.at_ 16 rfl)
    b_enumerate := He.free_ok X G (c.at_ 17 rfl)
    b_sorted := He.free_ok X G (c.at_ 18 rfl)
    b_repr := He.free_ok X G (c.at_ 19 rfl)
    c_LETTERS := c.str X G 20 rfl
    c_DO := c.str X G 21 rfl
    c_LOOK := c.str X G 22 rfl
    c_END := c.str X G 23 rfl
    c_LONGEST_NAME := c.int X G 24 rfl
    c_GREATEST_ANSWER := c.int X G 25 rfl
    c_MOST_DEEDS := c.int X G 26 rfl
    c_MOST_STATES := c.int X G 27 rfl
    c_MOST_THINGS := c.int X G 28 rfl
    c_MOST_HANDS := c.int X G 29 rfl
    c_MOST_NODES := c.int X G 30 rfl
    c_Parts := c.ref X G 31 rfl
    c_Thing := c.ref X G 34 rfl
    c_Sheets := c.ref X G 37 rfl
    k_Parts := He.cls_ok (c.at_ 32 rfl)
    k_Thing := He.cls_ok (c.at_ 35 rfl)
    k_Sheets := He.cls_ok (c.at_ 38 rfl)
    k_Program := He.cls_ok (c.at_ 41 rfl)
    i_Thing := ⟨He.cls_ok (c.at_ 35 rfl), e2.1, e2.2.1, e2.2.2.1, e2.2.2.2, e3⟩
    n_Parts := e4
    n_Sheets := e5
    f_Parts1 := He.noat_ok (c.at_ 43 rfl)
    f_Parts2 := He.noat_ok (c.at_ 44 rfl)
    f_Thing1 := He.noat_ok (c.at_ 45 rfl)
    f_Thing2 := He.noat_ok (c.at_ 46 rfl)
    f_Sheets1 := He.noat_ok (c.at_ 47 rfl)
    f_Sheets2 := He.noat_ok (c.at_ 48 rfl)
    f_Sheets3 := He.noat_ok (c.at_ 49 rfl)
    f_Prog1 := He.noat_ok (c.at_ 50 rfl)
    f_Prog2 := He.noat_ok (c.at_ 51 rfl)
    f_Prog3 := He.noat_ok (c.at_ 52 rfl) }
theorem dat24 (c : Says K h) (X : K.In base) (G : base.Ns mainGlobals mg) : ∃ f fd, C8.Def K mg "is_integer" (top 24) f fd ∧ Binds K fd ["value"] [] := c.def_ X G 53 0 rfl rfl fun _ _ _ _ _ _ us hl => match us, hl with
  | [_], _ => rfl
theorem dat25 (c : Says K h) (X : K.In base) (G : base.Ns mainGlobals mg) : ∃ f fd, C8.Def K mg "is_count" (top 25) f fd ∧ Binds K fd ["value"] [] := c.def_ X G 54 1 rfl rfl fun _ _ _ _ _ _ us hl => match us, hl with
  | [_], _ => rfl
theorem dat26 (c : Says K h) (X : K.In base) (G : base.Ns mainGlobals mg) : ∃ f fd, C8.Def K mg "is_below" (top 26) f fd ∧ Binds K fd ["value", "limit"] [] := c.def_ X G 55 2 rfl rfl fun _ _ _ _ _ _ us hl => match us, hl with
  | [_, _], _ => rfl
theorem dat27 (c : Says K h) (X : K.In base) (G : base.Ns mainGlobals mg) : ∃ f fd, C8.Def K mg "is_answer" (top 27) f fd ∧ Binds K fd ["value"] [] := c.def_ X G 56 3 rfl rfl fun _ _ _ _ _ _ us hl => match us, hl with
  | [_], _ => rfl
theorem dat28 (c : Says K h) (X : K.In base) (G : base.Ns mainGlobals mg) : ∃ f fd, C8.Def K mg "is_name" (top 28) f fd ∧ Binds K fd ["value"] [] := c.def_ X G 57 4 rfl rfl fun _ _ _ _ _ _ us hl => match us, hl with
  | [_], _ => rfl
theorem dat29 (c : Says K h) (X : K.In base) (G : base.Ns mainGlobals mg) : ∃ f fd, C8.Def K mg "is_list" (top 29) f fd ∧ Binds K fd ["value"] [] := c.def_ X G 58 5 rfl rfl fun _ _ _ _ _ _ us hl => match us, hl with
  | [_], _ => rfl
theorem dat30 (c : Says K h) (X : K.In base) (G : base.Ns mainGlobals mg) : ∃ f fd, C8.Def K mg "is_entry" (top 30) f fd ∧ Binds K fd ["states", "value"] [] := c.def_ X G 59 6 rfl rfl fun _ _ _ _ _ _ us hl => match us, hl with
  | [_, _], _ => rfl
theorem dat31 (c : Says K h) (X : K.In base) (G : base.Ns mainGlobals mg) : ∃ f fd, C8.Def K mg "is_row" (top 31) f fd ∧ Binds K fd ["deeds", "states", "value"] [] := c.def_ X G 60 7 rfl rfl fun _ _ _ _ _ _ us hl => match us, hl with
  | [_, _, _], _ => rfl
theorem dat32 (c : Says K h) (X : K.In base) (G : base.Ns mainGlobals mg) : ∃ f fd, C8.Def K mg "want_names_of_deeds" (top 32) f fd ∧ Binds K fd ["deeds"] [] := c.def_ X G 61 8 rfl rfl fun _ _ _ _ _ _ us hl => match us, hl with
  | [_], _ => rfl
theorem dat33 (c : Says K h) (X : K.In base) (G : base.Ns mainGlobals mg) : ∃ f fd, C8.Def K mg "want_few_deeds" (top 33) f fd ∧ Binds K fd ["deeds"] [] := c.def_ X G 62 9 rfl rfl fun _ _ _ _ _ _ us hl => match us, hl with
  | [_], _ => rfl
theorem dat34 (c : Says K h) (X : K.In base) (G : base.Ns mainGlobals mg) : ∃ f fd, C8.Def K mg "want_parts" (top 34) f fd ∧ Binds K fd ["deeds", "rows"] [] := c.def_ X G 63 10 rfl rfl fun _ _ _ _ _ _ us hl => match us, hl with
  | [_, _], _ => rfl
theorem dat38 (c : Says K h) (X : K.In base) (G : base.Ns mainGlobals mg) : ∃ f fd, C8.Def K mg "is_state" (top 38) f fd ∧ Binds K fd ["thing", "value"] [] := c.def_ X G 64 11 rfl rfl fun _ _ _ _ _ _ us hl => match us, hl with
  | [_, _], _ => rfl
theorem dat39 (c : Says K h) (X : K.In base) (G : base.Ns mainGlobals mg) : ∃ f fd, C8.Def K mg "is_deed" (top 39) f fd ∧ Binds K fd ["thing", "value"] [] := c.def_ X G 65 12 rfl rfl fun _ _ _ _ _ _ us hl => match us, hl with
  | [_, _], _ => rfl
theorem dat42 (c : Says K h) (X : K.In base) (G : base.Ns mainGlobals mg) : ∃ f fd, C8.Def K mg "place_of" (top 42) f fd ∧ Binds K fd ["thing", "deed"] [] := c.def_ X G 66 13 rfl rfl fun _ _ _ _ _ _ us hl => match us, hl with
  | [_, _], _ => rfl
theorem dat43 (c : Says K h) (X : K.In base) (G : base.Ns mainGlobals mg) : ∃ f fd, C8.Def K mg "step_at" (top 43) f fd ∧ Binds K fd ["thing", "state", "place"] [] := c.def_ X G 67 14 rfl rfl fun _ _ _ _ _ _ us hl => match us, hl with
  | [_, _, _], _ => rfl
theorem dat52 (c : Says K h) (X : K.In base) (G : base.Ns mainGlobals mg) : ∃ f fd, C8.Def K mg "is_begun_thing" (top 52) f fd ∧ Binds K fd ["value"] [] := c.def_ X G 68 15 rfl rfl fun _ _ _ _ _ _ us hl => match us, hl with
  | [_], _ => rfl
theorem dat53 (c : Says K h) (X : K.In base) (G : base.Ns mainGlobals mg) : ∃ f fd, C8.Def K mg "are_branches" (top 53) f fd ∧ Binds K fd ["value", "keys", "number", "many"] [] := c.def_ X G 69 16 rfl rfl fun _ _ _ _ _ _ us hl => match us, hl with
  | [_, _, _, _], _ => rfl
theorem dat54 (c : Says K h) (X : K.In base) (G : base.Ns mainGlobals mg) : ∃ f fd, C8.Def K mg "is_thing_number" (top 54) f fd ∧ Binds K fd ["things", "value"] [] := c.def_ X G 70 17 rfl rfl fun _ _ _ _ _ _ us hl => match us, hl with
  | [_, _], _ => rfl
theorem dat55 (c : Says K h) (X : K.In base) (G : base.Ns mainGlobals mg) : ∃ f fd, C8.Def K mg "is_do" (top 55) f fd ∧ Binds K fd ["things", "number", "many", "value"] [] := c.def_ X G 71 18 rfl rfl fun _ _ _ _ _ _ us hl => match us, hl with
  | [_, _, _, _], _ => rfl
theorem dat56 (c : Says K h) (X : K.In base) (G : base.Ns mainGlobals mg) : ∃ f fd, C8.Def K mg "is_look" (top 56) f fd ∧ Binds K fd ["things", "number", "many", "value"] [] := c.def_ X G 72 19 rfl rfl fun _ _ _ _ _ _ us hl => match us, hl with
  | [_, _, _, _], _ => rfl
theorem dat57 (c : Says K h) (X : K.In base) (G : base.Ns mainGlobals mg) : ∃ f fd, C8.Def K mg "is_node" (top 57) f fd ∧ Binds K fd ["things", "hands", "number", "many", "value"] [] := c.def_ X G 73 20 rfl rfl fun _ _ _ _ _ _ us hl => match us, hl with
  | [_, _, _, _, _], _ => rfl
theorem dat58 (c : Says K h) (X : K.In base) (G : base.Ns mainGlobals mg) : ∃ f fd, C8.Def K mg "is_script" (top 58) f fd ∧ Binds K fd ["things", "hands", "value"] [] := c.def_ X G 74 21 rfl rfl fun _ _ _ _ _ _ us hl => match us, hl with
  | [_, _, _], _ => rfl
theorem dat59 (c : Says K h) (X : K.In base) (G : base.Ns mainGlobals mg) : ∃ f fd, C8.Def K mg "want_things" (top 59) f fd ∧ Binds K fd ["things"] [] := c.def_ X G 75 22 rfl rfl fun _ _ _ _ _ _ us hl => match us, hl with
  | [_], _ => rfl
theorem dat60 (c : Says K h) (X : K.In base) (G : base.Ns mainGlobals mg) : ∃ f fd, C8.Def K mg "want_scripts" (top 60) f fd ∧ Binds K fd ["things", "scripts"] [] := c.def_ X G 76 23 rfl rfl fun _ _ _ _ _ _ us hl => match us, hl with
  | [_, _], _ => rfl
theorem dat61 (c : Says K h) (X : K.In base) (G : base.Ns mainGlobals mg) : ∃ f fd, C8.Def K mg "want_limits" (top 61) f fd ∧ Binds K fd ["things", "scripts"] [] := c.def_ X G 77 24 rfl rfl fun _ _ _ _ _ _ us hl => match us, hl with
  | [_, _], _ => rfl
theorem dat62 (c : Says K h) (X : K.In base) (G : base.Ns mainGlobals mg) : ∃ f fd, C8.Def K mg "copied" (top 62) f fd ∧ Binds K fd ["node"] [] := c.def_ X G 78 25 rfl rfl fun _ _ _ _ _ _ us hl => match us, hl with
  | [_], _ => rfl
theorem dat67 (c : Says K h) (X : K.In base) (G : base.Ns mainGlobals mg) : ∃ f fd, C8.Def K mg "first_place" (top 67) f fd ∧ Binds K fd ["program"] [] := c.def_ X G 79 26 rfl rfl fun _ _ _ _ _ _ us hl => match us, hl with
  | [_], _ => rfl
theorem dat68 (c : Says K h) (X : K.In base) (G : base.Ns mainGlobals mg) : ∃ f fd, C8.Def K mg "node_at" (top 68) f fd ∧ Binds K fd ["program", "place", "hand"] [] := c.def_ X G 80 27 rfl rfl fun _ _ _ _ _ _ us hl => match us, hl with
  | [_, _, _], _ => rfl
theorem dat69 (c : Says K h) (X : K.In base) (G : base.Ns mainGlobals mg) : ∃ f fd, C8.Def K mg "is_lost" (top 69) f fd ∧ Binds K fd ["place", "hand"] [] := c.def_ X G 81 28 rfl rfl fun _ _ _ _ _ _ us hl => match us, hl with
  | [_, _], _ => rfl
theorem dat70 (c : Says K h) (X : K.In base) (G : base.Ns mainGlobals mg) : ∃ f fd, C8.Def K mg "can_go" (top 70) f fd ∧ Binds K fd ["program", "place", "hand"] [] := c.def_ X G 82 29 rfl rfl fun _ _ _ _ _ _ us hl => match us, hl with
  | [_, _, _], _ => rfl
theorem dat71 (c : Says K h) (X : K.In base) (G : base.Ns mainGlobals mg) : ∃ f fd, C8.Def K mg "steppers" (top 71) f fd ∧ Binds K fd ["program", "place"] [] := c.def_ X G 83 30 rfl rfl fun _ _ _ _ _ _ us hl => match us, hl with
  | [_, _], _ => rfl
theorem dat72 (c : Says K h) (X : K.In base) (G : base.Ns mainGlobals mg) : ∃ f fd, C8.Def K mg "put_in" (top 72) f fd ∧ Binds K fd ["row", "position", "value"] [] := c.def_ X G 84 31 rfl rfl fun _ _ _ _ _ _ us hl => match us, hl with
  | [_, _, _], _ => rfl
theorem dat73 (c : Says K h) (X : K.In base) (G : base.Ns mainGlobals mg) : ∃ f fd, C8.Def K mg "place_behind" (top 73) f fd ∧ Binds K fd ["program", "place", "hand"] [] := c.def_ X G 85 32 rfl rfl fun _ _ _ _ _ _ us hl => match us, hl with
  | [_, _, _], _ => rfl
theorem dat74 (c : Says K h) (X : K.In base) (G : base.Ns mainGlobals mg) : ∃ f fd, C8.Def K mg "is_stepping" (top 74) f fd ∧ Binds K fd ["program", "place", "value"] [] := c.def_ X G 86 33 rfl rfl fun _ _ _ _ _ _ us hl => match us, hl with
  | [_, _, _], _ => rfl
theorem dat75 (c : Says K h) (X : K.In base) (G : base.Ns mainGlobals mg) : ∃ f fd, C8.Def K mg "places_along" (top 75) f fd ∧ Binds K fd ["program", "weaving"] [] := c.def_ X G 87 34 rfl rfl fun _ _ _ _ _ _ us hl => match us, hl with
  | [_, _], _ => rfl
theorem dat76 (c : Says K h) (X : K.In base) (G : base.Ns mainGlobals mg) : ∃ f fd, C8.Def K mg "want_weaving" (top 76) f fd ∧ Binds K fd ["program", "weaving"] [] := c.def_ X G 88 35 rfl rfl fun _ _ _ _ _ _ us hl => match us, hl with
  | [_, _], _ => rfl
theorem dat77 (c : Says K h) (X : K.In base) (G : base.Ns mainGlobals mg) : ∃ f fd, C8.Def K mg "can_step" (top 77) f fd ∧ Binds K fd ["program", "weaving"] [] := c.def_ X G 89 36 rfl rfl fun _ _ _ _ _ _ us hl => match us, hl with
  | [_, _], _ => rfl
theorem dat78 (c : Says K h) (X : K.In base) (G : base.Ns mainGlobals mg) : ∃ f fd, C8.Def K mg "all_steps" (top 78) f fd ∧ Binds K fd ["program"] [] := c.def_ X G 90 37 rfl rfl fun _ _ _ _ _ _ us hl => match us, hl with
  | [_], _ => rfl
theorem dat79 (c : Says K h) (X : K.In base) (G : base.Ns mainGlobals mg) : ∃ f fd, C8.Def K mg "height_of" (top 79) f fd ∧ Binds K fd ["program", "place"] [] := c.def_ X G 91 38 rfl rfl fun _ _ _ _ _ _ us hl => match us, hl with
  | [_, _], _ => rfl
theorem dat80 (c : Says K h) (X : K.In base) (G : base.Ns mainGlobals mg) : ∃ f fd, C8.Def K mg "places_upward" (top 80) f fd ∧ Binds K fd ["program", "steps"] [] := c.def_ X G 92 39 rfl rfl fun _ _ _ _ _ _ us hl => match us, hl with
  | [_, _], _ => rfl
theorem dat81 (c : Says K h) (X : K.In base) (G : base.Ns mainGlobals mg) : ∃ f fd, C8.Def K mg "full_counts" (top 81) f fd ∧ Binds K fd ["program", "steps"] [] := c.def_ X G 93 40 rfl rfl fun _ _ _ _ _ _ us hl => match us, hl with
  | [_, _], _ => rfl
theorem dat82 (c : Says K h) (X : K.In base) (G : base.Ns mainGlobals mg) : ∃ f fd, C8.Def K mg "how_many_full" (top 82) f fd ∧ Binds K fd ["program"] [] := c.def_ X G 94 41 rfl rfl fun _ _ _ _ _ _ us hl => match us, hl with
  | [_], _ => rfl
theorem dat83 (c : Says K h) (X : K.In base) (G : base.Ns mainGlobals mg) : ∃ f fd, C8.Def K mg "full_at" (top 83) f fd ∧ Binds K fd ["program", "place"] [] := c.def_ X G 95 42 rfl rfl fun _ _ _ _ _ _ us hl => match us, hl with
  | [_, _], _ => rfl
theorem dat85 (c : Says K h) (X : K.In base) (G : base.Ns mainGlobals mg) : ∃ f fd, C8.Def K mg "_law_pot" (top 85) f fd ∧ Binds K fd ["_law_script_here", "_law_k"] [] := c.def_ X G 96 43 rfl rfl fun _ _ _ _ _ _ us hl => match us, hl with
  | [_, _], _ => rfl
theorem dat86 (c : Says K h) (X : K.In base) (G : base.Ns mainGlobals mg) : ∃ f fd, C8.Def K mg "_law_draw" (top 86) f fd ∧ Binds K fd ["_law_pot_here", "_law_size"] [] := c.def_ X G 97 44 rfl rfl fun _ _ _ _ _ _ us hl => match us, hl with
  | [_, _], _ => rfl
theorem dat87 (c : Says K h) (X : K.In base) (G : base.Ns mainGlobals mg) : ∃ f fd, C8.Def K mg "_law_pick" (top 87) f fd ∧ Binds K fd ["_law_pot_here", "_law_pack"] [] := c.def_ X G 98 45 rfl rfl fun _ _ _ _ _ _ us hl => match us, hl with
  | [_, _], _ => rfl
theorem dat88 (c : Says K h) (X : K.In base) (G : base.Ns mainGlobals mg) : ∃ f fd, C8.Def K mg "_law_rows" (top 88) f fd ∧ Binds K fd ["_law_pot_here", "_law_count", "_law_many_here"] [] := c.def_ X G 99 46 rfl rfl fun _ _ _ _ _ _ us hl => match us, hl with
  | [_, _, _], _ => rfl
theorem dat89 (c : Says K h) (X : K.In base) (G : base.Ns mainGlobals mg) : ∃ f fd, C8.Def K mg "_law_model" (top 89) f fd ∧ Binds K fd ["_law_pot_here", "_law_most_states", "_law_most_deeds"] [] := c.def_ X G 100 47 rfl rfl fun _ _ _ _ _ _ us hl => match us, hl with
  | [_, _, _], _ => rfl
theorem dat90 (c : Says K h) (X : K.In base) (G : base.Ns mainGlobals mg) : ∃ f fd, C8.Def K mg "_law_node" (top 90) f fd ∧ Binds K fd ["_law_pot_here", "_law_models", "_law_at", "_law_last_here"] [] := c.def_ X G 101 48 rfl rfl fun _ _ _ _ _ _ us hl => match us, hl with
  | [_, _, _, _], _ => rfl
theorem dat91 (c : Says K h) (X : K.In base) (G : base.Ns mainGlobals mg) : ∃ f fd, C8.Def K mg "_law_script" (top 91) f fd ∧ Binds K fd ["_law_pot_here", "_law_models", "_law_hands_now", "_law_most"] [] := c.def_ X G 102 49 rfl rfl fun _ _ _ _ _ _ us hl => match us, hl with
  | [_, _, _, _], _ => rfl
theorem dat92 (c : Says K h) (X : K.In base) (G : base.Ns mainGlobals mg) : ∃ f fd, C8.Def K mg "_law_plan" (top 92) f fd ∧ Binds K fd ["_law_pot_here", "_law_hands_now", "_law_most"] [] := c.def_ X G 103 50 rfl rfl fun _ _ _ _ _ _ us hl => match us, hl with
  | [_, _, _], _ => rfl
theorem dat93 (c : Says K h) (X : K.In base) (G : base.Ns mainGlobals mg) : ∃ f fd, C8.Def K mg "_law_marks" (top 93) f fd ∧ Binds K fd ["_law_rows_here", "_law_state", "_law_mine", "_law_others"] [] := c.def_ X G 104 51 rfl rfl fun _ _ _ _ _ _ us hl => match us, hl with
  | [_, _, _, _], _ => rfl
theorem dat94 (c : Says K h) (X : K.In base) (G : base.Ns mainGlobals mg) : ∃ f fd, C8.Def K mg "_law_right_plan" (top 94) f fd ∧ Binds K fd ["_law_pot_here", "_law_model_here"] [] := c.def_ X G 105 52 rfl rfl fun _ _ _ _ _ _ us hl => match us, hl with
  | [_, _], _ => rfl
theorem dat95 (c : Says K h) (X : K.In base) (G : base.Ns mainGlobals mg) : ∃ f fd, C8.Def K mg "_law_telling" (top 95) f fd ∧ Binds K fd ["_law_deed_now", "_law_side", "_law_hand"] [] := c.def_ X G 106 53 rfl rfl fun _ _ _ _ _ _ us hl => match us, hl with
  | [_, _, _], _ => rfl
theorem dat96 (c : Says K h) (X : K.In base) (G : base.Ns mainGlobals mg) : ∃ f fd, C8.Def K mg "_law_bent" (top 96) f fd ∧ Binds K fd ["_law_pot_here", "_law_plan_here"] [] := c.def_ X G 107 54 rfl rfl fun _ _ _ _ _ _ us hl => match us, hl with
  | [_, _], _ => rfl
theorem dat97 (c : Says K h) (X : K.In base) (G : base.Ns mainGlobals mg) : ∃ f fd, C8.Def K mg "_law_any_plan" (top 97) f fd ∧ Binds K fd ["_law_pot_here"] [] := c.def_ X G 108 55 rfl rfl fun _ _ _ _ _ _ us hl => match us, hl with
  | [_], _ => rfl
theorem dat98 (c : Says K h) (X : K.In base) (G : base.Ns mainGlobals mg) : ∃ f fd, C8.Def K mg "_law_begin" (top 98) f fd ∧ Binds K fd ["_law_plan_here"] [] := c.def_ X G 109 56 rfl rfl fun _ _ _ _ _ _ us hl => match us, hl with
  | [_], _ => rfl
theorem dat99 (c : Says K h) (X : K.In base) (G : base.Ns mainGlobals mg) : ∃ f fd, C8.Def K mg "_law_can" (top 99) f fd ∧ Binds K fd ["_law_plan_here", "_law_spot"] [] := c.def_ X G 110 57 rfl rfl fun _ _ _ _ _ _ us hl => match us, hl with
  | [_, _], _ => rfl
theorem dat100 (c : Says K h) (X : K.In base) (G : base.Ns mainGlobals mg) : ∃ f fd, C8.Def K mg "_law_step" (top 100) f fd ∧ Binds K fd ["_law_plan_here", "_law_spot", "_law_hand"] [] := c.def_ X G 111 58 rfl rfl fun _ _ _ _ _ _ us hl => match us, hl with
  | [_, _, _], _ => rfl
theorem dat103 (c : Says K h) (X : K.In base) (G : base.Ns mainGlobals mg) : ∃ f fd, C8.Def K mg "_law_levels" (top 103) f fd ∧ Binds K fd ["_law_plan_here"] [] := c.def_ X G 112 59 rfl rfl fun _ _ _ _ _ _ us hl => match us, hl with
  | [_], _ => rfl
theorem dat104 (c : Says K h) (X : K.In base) (G : base.Ns mainGlobals mg) : ∃ f fd, C8.Def K mg "_law_made" (top 104) f fd ∧ Binds K fd ["_law_plan_here"] [] := c.def_ X G 113 60 rfl rfl fun _ _ _ _ _ _ us hl => match us, hl with
  | [_], _ => rfl
theorem dat105 (c : Says K h) (X : K.In base) (G : base.Ns mainGlobals mg) : ∃ f fd, C8.Def K mg "_law_many" (top 105) f fd ∧ Binds K fd ["_law_plan_here"] [] := c.def_ X G 114 61 rfl rfl fun _ _ _ _ _ _ us hl => match us, hl with
  | [_], _ => rfl
theorem dat106 (c : Says K h) (X : K.In base) (G : base.Ns mainGlobals mg) : ∃ f fd, C8.Def K mg "_law_first_ones" (top 106) f fd ∧ Binds K fd ["_law_plan_here", "_law_size"] [] := c.def_ X G 115 62 rfl rfl fun _ _ _ _ _ _ us hl => match us, hl with
  | [_, _], _ => rfl
theorem dat107 (c : Says K h) (X : K.In base) (G : base.Ns mainGlobals mg) : ∃ f fd, C8.Def K mg "_law_last" (top 107) f fd ∧ Binds K fd ["_law_plan_here"] [] := c.def_ X G 116 63 rfl rfl fun _ _ _ _ _ _ us hl => match us, hl with
  | [_], _ => rfl
theorem dat108 (c : Says K h) (X : K.In base) (G : base.Ns mainGlobals mg) : ∃ f fd, C8.Def K mg "_law_plan_right" (top 108) f fd ∧ Binds K fd ["_law_pot_here", "_law_plan_here"] [] := c.def_ X G 117 64 rfl rfl fun _ _ _ _ _ _ us hl => match us, hl with
  | [_, _], _ => rfl
theorem dat109 (c : Says K h) (X : K.In base) (G : base.Ns mainGlobals mg) : ∃ f fd, C8.Def K mg "_law_right" (top 109) f fd ∧ Binds K fd ["_law_pot_here"] [] := c.def_ X G 118 65 rfl rfl fun _ _ _ _ _ _ us hl => match us, hl with
  | [_], _ => rfl
theorem ini35 (c : Says K h) (X : K.In base) (G : base.Ns mainGlobals mg) : ∃ fd, Mk K (He.ga K "Parts") (He.ma K (He.ga K "Parts") "__init__") ∧ mg "Parts" = some (.ref (He.ga K "Parts")) ∧ C8.Fun K "__init__" "Parts.__init__" (mt 35 0) (He.ma K (He.ga K "Parts") "__init__") fd ∧ Binds K fd ["self", "deeds", "rows"] [] := by
  obtain ⟨fd, F, df, _⟩ := c.fn 67 (at_ := ("Parts", some "__init__")) (x := "__init__") (y := "Parts.__init__") (st := mt 35 0) rfl
  exact ⟨fd, He.mkr_ok (c.at_ 33 rfl), He.glo_ok X G (c.at_ 31 rfl), F, F.binds df fun _ _ _ _ _ _ us hl => match us, hl with
  | [_, _, _], _ => rfl⟩
theorem ini36 (c : Says K h) (X : K.In base) (G : base.Ns mainGlobals mg) : ∃ fd, Mk K (He.ga K "Thing") (He.ma K (He.ga K "Thing") "__init__") ∧ mg "Thing" = some (.ref (He.ga K "Thing")) ∧ C8.Fun K "__init__" "Thing.__init__" (mt 36 0) (He.ma K (He.ga K "Thing") "__init__") fd ∧ Binds K fd ["self", "deeds", "rows"] [] := by
  obtain ⟨fd, F, df, _⟩ := c.fn 68 (at_ := ("Thing", some "__init__")) (x := "__init__") (y := "Thing.__init__") (st := mt 36 0) rfl
  exact ⟨fd, He.mkr_ok (c.at_ 36 rfl), He.glo_ok X G (c.at_ 34 rfl), F, F.binds df fun _ _ _ _ _ _ us hl => match us, hl with
  | [_, _, _], _ => rfl⟩
theorem ini63 (c : Says K h) (X : K.In base) (G : base.Ns mainGlobals mg) : ∃ fd, Mk K (He.ga K "Sheets") (He.ma K (He.ga K "Sheets") "__init__") ∧ mg "Sheets" = some (.ref (He.ga K "Sheets")) ∧ C8.Fun K "__init__" "Sheets.__init__" (mt 63 0) (He.ma K (He.ga K "Sheets") "__init__") fd ∧ Binds K fd ["self", "things", "scripts"] [] := by
  obtain ⟨fd, F, df, _⟩ := c.fn 69 (at_ := ("Sheets", some "__init__")) (x := "__init__") (y := "Sheets.__init__") (st := mt 63 0) rfl
  exact ⟨fd, He.mkr_ok (c.at_ 39 rfl), He.glo_ok X G (c.at_ 37 rfl), F, F.binds df fun _ _ _ _ _ _ us hl => match us, hl with
  | [_, _, _], _ => rfl⟩
theorem ini64 (c : Says K h) (X : K.In base) (G : base.Ns mainGlobals mg) : ∃ fd, Mk K (He.ga K "Program") (He.ma K (He.ga K "Program") "__init__") ∧ mg "Program" = some (.ref (He.ga K "Program")) ∧ C8.Fun K "__init__" "Program.__init__" (mt 64 0) (He.ma K (He.ga K "Program") "__init__") fd ∧ Binds K fd ["self", "things", "scripts"] [] := by
  obtain ⟨fd, F, df, _⟩ := c.fn 70 (at_ := ("Program", some "__init__")) (x := "__init__") (y := "Program.__init__") (st := mt 64 0) rfl
  exact ⟨fd, He.mkr_ok (c.at_ 42 rfl), He.glo_ok X G (c.at_ 40 rfl), F, F.binds df fun _ _ _ _ _ _ us hl => match us, hl with
  | [_, _, _], _ => rfl⟩
/-- the property's getter -/
theorem get_fn (c : Says K h) : ∃ fd, C8.Fun K "states" "Thing.states" (mt 36 2) (gtA K) fd ∧ fd.defaults = .none := by
  obtain ⟨⟨_, _, _, _, cd⟩, _⟩ := c.exs
  have e := c.get
  unfold fnAt at e
  unfold cdAt at cd
  cases lk : K.lookup (gtA K) with
  | none => rw [lk] at cd; cases cd
  | some ob =>
    obtain ⟨oc, od, dt, osl⟩ := ob
    rw [lk] at cd e
    cases dt with
    | func fd =>
      obtain ⟨n1, n2, n3, n4, n5, n6, n7, n8, n9, n10, n11, n12, n13, n14, n15⟩ := fd
      have e2 : (some (n1, n2, n3, n4, n5, n6, n7, n15) : He.FnW) = some (("states" : Str), ("Thing.states" : Str), C8.fnArgs (mt 36 2), FuncBody.stmts (C8.fnBody (mt 36 2)), C8.fnScope (mt 36 2), mainGlobals, [], builtinsNs) := e
      simp only [Option.some.injEq, Prod.mk.injEq] at e2
      obtain ⟨h1, h2, h3, h4, h5, h6, h7, h8⟩ := e2
      subst h1 h2 h3 h4 h5 h6 h7 h8
      obtain ⟨k1, k2⟩ := He.ba cd
      refine ⟨_, ⟨oc, od, n8, n9, n10, n11, n12, n13, n14, osl, rfl, lk, k1⟩, ?_⟩
      cases n8 with
      | none => rfl
      | _ => cases k2
    | _ => cases cd
theorem pu_at (c : Says K h) (X : K.In base) (G : base.Ns mainGlobals mg) : ∃ oc od kV doc pm an ct osl, K.lookup (He.ga K "places_upward") = some ⟨oc, od, .func (PySem.W.fnOf "places_upward" "places_upward" (C8.fnArgs (top 80)) (C8.fnBody (top 80)) (C8.fnScope (top 80)) .none kV doc pm an (.ref (He.cT K ("places_upward", none)).1) ct), osl⟩ ∧
    PySem.W.codeIn K (.ref (He.cT K ("places_upward", none)).1) "places_upward" = true ∧ mg "places_upward" = some (.ref (He.ga K "places_upward")) ∧ PySem.W.keepIn K (.ref (He.ga K "places_upward")) = true := by
  obtain ⟨fd, F, df, kp⟩ := c.fn 39 (at_ := ("places_upward", none)) (x := "places_upward") (y := "places_upward") (st := top 80) rfl
  obtain ⟨oc, od, dV, kV, doc, pm, an, cdv, ct, osl, rfl, lk, hcd⟩ := F.ex
  have e : dV = .none := df
  subst e
  obtain ⟨cc, rfl⟩ := He.codeIn_ref hcd
  have ec : (He.cT K ("places_upward", none)).1 = cc := He.codeOf_eq lk rfl
  rw [ec]
  exact ⟨oc, od, kV, doc, pm, an, ct, osl, lk, hcd, He.glo_ok X G (c.at_ 92 rfl), kp⟩
end
theorem law_fn {P : Program} {w : World} {K : PySem.W.Frag} {mg : Str → Option Value} {base h : Heap} {fd : FuncData} (c : Says K h) (X : K.In base) (G : base.Ns mainGlobals mg) (TB : TabB base mg (He.cT K ("places_upward", none)).1 (He.cT K ("places_upward", none)).2)
    (FL : C8.Fun K "law" "law" (top 110) (He.ga K "law") fd) : FnG P w K mg base 14 (He.ga K "law") fd ["_law_script_here"] (spLaw K [((He.cT K ("places_upward", none)).2, ("places_upward.<locals>.<lambda>" : Str))]) := by
  have T := txt_of c X G
  obtain ⟨oc, od, kV, doc, pm, an, ct, osl, lk, hcd, hm80, kp80⟩ := pu_at c X G
  generalize hTb : [((He.cT K ("places_upward", none)).2, ("places_upward.<locals>.<lambda>" : Str))] = Tb
  obtain ⟨f24, fd24, D24, B24⟩ := dat24 c X G
  have c_is_integer : Cl P w K mg base 1 "is_integer" spInt [] := ok_is_integer T D24 B24 
  obtain ⟨f25, fd25, D25, B25⟩ := dat25 c X G
  have c_is_count : Cl P w K mg base 2 "is_count" spCount [] := ok_is_count T D25 B25 c_is_integer
  obtain ⟨f26, fd26, D26, B26⟩ := dat26 c X G
  have c_is_below : Cl P w K mg base 3 "is_below" spBelow [] := ok_is_below T D26 B26 c_is_count
  obtain ⟨f27, fd27, D27, B27⟩ := dat27 c X G
  have c_is_answer : Cl P w K mg base 4 "is_answer" spAnswer [] := ok_is_answer T D27 B27 c_is_below
  obtain ⟨f28, fd28, D28, B28⟩ := dat28 c X G
  have c_is_name : Cl P w K mg base 1 "is_name" (spName Tb) [] := ok_is_name T D28 B28 
  obtain ⟨f29, fd29, D29, B29⟩ := dat29 c X G
  have c_is_list : Cl P w K mg base 1 "is_list" (spList Tb) [] := ok_is_list T D29 B29 
  obtain ⟨f30, fd30, D30, B30⟩ := dat30 c X G
  have c_is_entry : Cl P w K mg base 5 "is_entry" spEntry [] := ok_is_entry T D30 B30 c_is_answer c_is_below
  obtain ⟨f31, fd31, D31, B31⟩ := dat31 c X G
  have c_is_row : Cl P w K mg base 6 "is_row" (spRow Tb) [] := ok_is_row T D31 B31 c_is_list c_is_entry
  obtain ⟨f32, fd32, D32, B32⟩ := dat32 c X G
  have c_want_names_of_deeds : Cl P w K mg base 2 "want_names_of_deeds" (spDeeds Tb) [] := ok_want_names T D32 B32 c_is_list c_is_name
  obtain ⟨f33, fd33, D33, B33⟩ := dat33 c X G
  have c_want_few_deeds : Cl P w K mg base 1 "want_few_deeds" (spDeeds Tb) [] := ok_want_few T D33 B33 
  obtain ⟨f34, fd34, D34, B34⟩ := dat34 c X G
  have c_want_parts : Cl P w K mg base 7 "want_parts" (spParts Tb) [] := ok_want_parts T D34 B34 c_is_list c_want_names_of_deeds c_is_row c_want_few_deeds
  obtain ⟨fd35, M35, m35, F35, B35⟩ := ini35 c X G
  have c_Parts : C8.Mak P w K mg base 1 "Parts" (csOf K).parts (spPartsI (csOf K) Tb) [] := ok_Parts T M35 m35 F35 B35 
  obtain ⟨fd36, M36, m36, F36, B36⟩ := ini36 c X G
  have c_Thing : C8.Mak P w K mg base 8 "Thing" (csOf K).thing (spThingI (csOf K) Tb) [] := ok_ThingI T M36 m36 F36 B36 c_want_parts c_Parts
  obtain ⟨f38, fd38, D38, B38⟩ := dat38 c X G
  have c_is_state : Cl P w K mg base 4 "is_state" (spIsState (csOf K)) [] := ok_is_state T D38 B38 c_is_below
  obtain ⟨fds, FS, dfs⟩ := get_fn c
  have p_states : Prp P w K mg base 1 (csOf K).thing "states" (spStates (csOf K)) := by
    obtain ⟨⟨e1, e2, e3, e4, _⟩, _⟩ := c.exs
    refine ⟨prA K, gtA K, fds, ["self"], T.k_Thing, ⟨e1, e2, e3, ?_⟩, ok_states T FS, FS.binds dfs fun _ _ _ _ _ _ us hl => match us, hl with
      | [_], _ => rfl⟩
    unfold gtA gtL
    unfold isSome1 at e4
    cases q : PySem.W.recIn K (prA K) "property" with
    | none => rw [q] at e4; cases e4
    | some l =>
      rw [q] at e4
      cases l with
      | nil => cases e4
      | cons a r => cases a with
        | ref g => exact ⟨r, rfl⟩
        | _ => cases e4
  obtain ⟨f39, fd39, D39, B39⟩ := dat39 c X G
  have c_is_deed : Cl P w K mg base 1 "is_deed" (spIsDeed (csOf K)) [] := ok_is_deed T D39 B39 
  obtain ⟨f42, fd42, D42, B42⟩ := dat42 c X G
  have c_place_of : Cl P w K mg base 1 "place_of" (spPlaceOf (csOf K)) [] := ok_place_of T D42 B42 
  obtain ⟨f43, fd43, D43, B43⟩ := dat43 c X G
  have c_step_at : Cl P w K mg base 1 "step_at" (spStepAt (csOf K)) [] := ok_step_at T D43 B43 
  obtain ⟨f52, fd52, D52, B52⟩ := dat52 c X G
  have c_is_begun_thing : Cl P w K mg base 5 "is_begun_thing" (spBegun (csOf K)) [] := ok_is_begun T D52 B52 c_is_state
  obtain ⟨f53, fd53, D53, B53⟩ := dat53 c X G
  have c_are_branches : Cl P w K mg base 4 "are_branches" (spBranches Tb) [] := ok_are_branches T D53 B53 c_is_below
  obtain ⟨f54, fd54, D54, B54⟩ := dat54 c X G
  have c_is_thing_number : Cl P w K mg base 4 "is_thing_number" (spThNum (csOf K)) [] := ok_is_thing_number T D54 B54 c_is_below
  obtain ⟨f55, fd55, D55, B55⟩ := dat55 c X G
  have c_is_do : Cl P w K mg base 5 "is_do" (spDo (csOf K) Tb) [] := ok_is_do T D55 B55 c_is_thing_number c_is_deed c_are_branches
  obtain ⟨f56, fd56, D56, B56⟩ := dat56 c X G
  have c_is_look : Cl P w K mg base 5 "is_look" (spLook (csOf K) Tb) [] := ok_is_look T D56 B56 c_is_thing_number p_states c_are_branches
  obtain ⟨f57, fd57, D57, B57⟩ := dat57 c X G
  have c_is_node : Cl P w K mg base 6 "is_node" (spNode (csOf K) Tb) [] := ok_is_node T D57 B57 c_is_do c_is_look c_is_below
  obtain ⟨f58, fd58, D58, B58⟩ := dat58 c X G
  have c_is_script : Cl P w K mg base 7 "is_script" (spScript (csOf K) Tb) [] := ok_is_script T D58 B58 c_is_list c_is_node
  obtain ⟨f59, fd59, D59, B59⟩ := dat59 c X G
  have c_want_things : Cl P w K mg base 6 "want_things" (spThings (csOf K) Tb) [] := ok_want_things T D59 B59 c_is_list c_is_begun_thing
  obtain ⟨f60, fd60, D60, B60⟩ := dat60 c X G
  have c_want_scripts : Cl P w K mg base 8 "want_scripts" (spScripts (csOf K) Tb) [] := ok_want_scripts T D60 B60 c_is_list c_is_script
  obtain ⟨f61, fd61, D61, B61⟩ := dat61 c X G
  have c_want_limits : Cl P w K mg base 1 "want_limits" (spScripts (csOf K) Tb) [] := ok_want_limits T D61 B61 
  obtain ⟨f62, fd62, D62, B62⟩ := dat62 c X G
  have c_copied : Cl P w K mg base 1 "copied" (spCopied Tb) [] := ok_copied T D62 B62 
  obtain ⟨fd63, M63, m63, F63, B63⟩ := ini63 c X G
  have c_Sheets : C8.Mak P w K mg base 2 "Sheets" (csOf K).sheets (spSheetsI (csOf K) Tb) [] := ok_Sheets T M63 m63 F63 B63 c_copied
  obtain ⟨fd64, M64, m64, F64, B64⟩ := ini64 c X G
  have c_Program : C8.Mak P w K mg base 9 "Program" (csOf K).prog (spProgI (csOf K) Tb) [] := ok_ProgI T M64 m64 F64 B64 c_want_things c_want_scripts c_want_limits c_Sheets
  obtain ⟨f104, fd104, D104, B104⟩ := dat104 c X G
  have c__law_made : Cl P w K mg base 11 "_law_made" (spMade (csOf K) Tb) [] := ok_made T D104 B104 c_Thing c_Program
  obtain ⟨f67, fd67, D67, B67⟩ := dat67 c X G
  have c_first_place : Cl P w K mg base 1 "first_place" (spFirst (csOf K) Tb) [] := ok_first_place T D67 B67 
  obtain ⟨f68, fd68, D68, B68⟩ := dat68 c X G
  have c_node_at : Cl P w K mg base 1 "node_at" (spNodeAt (csOf K)) [] := ok_node_at T D68 B68 
  obtain ⟨f69, fd69, D69, B69⟩ := dat69 c X G
  have c_is_lost : Cl P w K mg base 1 "is_lost" spLost [] := ok_is_lost T D69 B69 
  obtain ⟨f70, fd70, D70, B70⟩ := dat70 c X G
  have c_can_go : Cl P w K mg base 2 "can_go" (spCanGo (csOf K)) [] := ok_can_go T D70 B70 c_is_lost c_node_at
  obtain ⟨f71, fd71, D71, B71⟩ := dat71 c X G
  have c_steppers : Cl P w K mg base 3 "steppers" (spSteppers (csOf K) Tb) [] := ok_steppers T D71 B71 c_can_go
  obtain ⟨f72, fd72, D72, B72⟩ := dat72 c X G
  have c_put_in : Cl P w K mg base 1 "put_in" (spPutIn Tb) [] := ok_put_in T D72 B72 
  obtain ⟨f73, fd73, D73, B73⟩ := dat73 c X G
  have c_place_behind : Cl P w K mg base 2 "place_behind" (spBehind (csOf K) Tb) [] := ok_place_behind T D73 B73 c_node_at c_step_at c_place_of c_put_in
  obtain ⟨f74, fd74, D74, B74⟩ := dat74 c X G
  have c_is_stepping : Cl P w K mg base 4 "is_stepping" (spStepping (csOf K)) [] := ok_is_stepping T D74 B74 c_is_below c_can_go
  obtain ⟨f75, fd75, D75, B75⟩ := dat75 c X G
  have c_places_along : Cl P w K mg base 5 "places_along" (spAlong (csOf K) Tb) [] := ok_places_along T D75 B75 c_is_list c_first_place c_is_stepping c_place_behind
  obtain ⟨f76, fd76, D76, B76⟩ := dat76 c X G
  have c_want_weaving : Cl P w K mg base 6 "want_weaving" (spWantW (csOf K) Tb) [] := ok_want_weaving T D76 B76 c_places_along
  obtain ⟨f77, fd77, D77, B77⟩ := dat77 c X G
  have c_can_step : Cl P w K mg base 7 "can_step" (spCanStep (csOf K) Tb) [] := ok_can_step T D77 B77 c_want_weaving c_steppers
  obtain ⟨f78, fd78, D78, B78⟩ := dat78 c X G
  have c_all_steps : Cl P w K mg base 4 "all_steps" (spAll P w (csOf K) Tb) [] := ok_all_steps T D78 B78 c_first_place c_steppers c_place_behind
  obtain ⟨f79, fd79, D79, B79⟩ := dat79 c X G
  have c_height_of : Cl P w K mg base 1 "height_of" (spHeight (csOf K) Tb) [] := ok_height_of T D79 B79 
  have c_places_upward : Cl P w K mg base 5 "places_upward" (spUpward P w (csOf K) Tb) [] := ok_places_upward T lk hcd hm80 kp80 (Binds.all fun us hl => match us, hl with
    | [_, _], _ => rfl) TB hTb.symm c_height_of
  obtain ⟨f81, fd81, D81, B81⟩ := dat81 c X G
  have c_full_counts : Cl P w K mg base 6 "full_counts" (spCounts P w (csOf K) Tb) [] := ok_full_counts T D81 B81 c_places_upward
  obtain ⟨fd82, F82, df82, kp82⟩ := c.fn 41 (at_ := ("how_many_full", none)) (x := "how_many_full") (y := "how_many_full") (st := top 82) rfl
  have D82 : C8.Def K mg "how_many_full" (top 82) (He.ga K "how_many_full") fd82 := ⟨F82, He.glo_ok X G (c.at_ 94 rfl), kp82⟩
  have B82 : Binds K fd82 ["program"] [] := F82.binds df82 fun _ _ _ _ _ _ us hl => match us, hl with
    | [_], _ => rfl
  have k_how_many_full : CalK P w K mg base 7 "how_many_full" ["program"] id (spMany (csOf K) Tb) := by
    obtain ⟨oc, od, dV, kV, doc, pm, an, cdv, ct, osl, rfl, lk, hcd⟩ := F82.ex
    have e : dV = .none := df82
    subst e
    refine ⟨_, _, _, id, fn_how_many T D82 c_full_counts c_all_steps c_first_place, D82.mgf, D82.kp, fun s ws hl => ?_, fun r => r⟩
    match ws, hl with
    | [_], _ => exact .of_eq rfl
  have c_how_many_full : Cl P w K mg base 7 "how_many_full" (spMany (csOf K) Tb) [] := ok_how_many T D82 B82 c_full_counts c_all_steps c_first_place
  obtain ⟨fd83, F83, df83, kp83⟩ := c.fn 42 (at_ := ("full_at", none)) (x := "full_at") (y := "full_at") (st := top 83) rfl
  have D83 : C8.Def K mg "full_at" (top 83) (He.ga K "full_at") fd83 := ⟨F83, He.glo_ok X G (c.at_ 95 rfl), kp83⟩
  have B83 : Binds K fd83 ["program", "place"] [] := F83.binds df83 fun _ _ _ _ _ _ us hl => match us, hl with
    | [_, _], _ => rfl
  have k_full_at : CalK P w K mg base 7 "full_at" ["place", "program"] List.reverse (spAt (csOf K) Tb) := by
    obtain ⟨oc, od, dV, kV, doc, pm, an, cdv, ct, osl, rfl, lk, hcd⟩ := F83.ex
    have e : dV = .none := df83
    subst e
    refine ⟨_, _, _, List.reverse, fn_full_at T D83 c_is_count c_full_counts c_all_steps c_first_place, D83.mgf, D83.kp, fun s ws hl => ?_, fun r => r.reverse⟩
    match ws, hl with
    | [_, _], _ => exact .of_eq rfl
  have c_full_at : Cl P w K mg base 7 "full_at" (spAt (csOf K) Tb) [] := ok_full_at T D83 B83 c_is_count c_full_counts c_all_steps c_first_place
  obtain ⟨f98, fd98, D98, B98⟩ := dat98 c X G
  have c__law_begin : Cl P w K mg base 1 "_law_begin" (spLBegin Tb) [] := ok_lbegin T D98 B98 
  obtain ⟨f99, fd99, D99, B99⟩ := dat99 c X G
  have c__law_can : Cl P w K mg base 1 "_law_can" (spLCan Tb) [] := ok_lcan T D99 B99 
  obtain ⟨f100, fd100, D100, B100⟩ := dat100 c X G
  have c__law_step : Cl P w K mg base 1 "_law_step" (spLStep Tb) [] := ok_lstep T D100 B100 
  obtain ⟨f103, fd103, D103, B103⟩ := dat103 c X G
  have c__law_levels : Cl P w K mg base 2 "_law_levels" (spLevels P w Tb) [] := ok_levels T D103 B103 c__law_begin c__law_can c__law_step
  obtain ⟨f105, fd105, D105, B105⟩ := dat105 c X G
  have c__law_many : Cl P w K mg base 3 "_law_many" (spLMany Tb) [] := ok_lmany T D105 B105 c__law_levels c__law_can
  obtain ⟨f107, fd107, D107, B107⟩ := dat107 c X G
  have c__law_last : Cl P w K mg base 2 "_law_last" (spLLast Tb) [] := ok_llast T D107 B107 c__law_begin c__law_can c__law_step
  obtain ⟨f106, fd106, D106, B106⟩ := dat106 c X G
  have c__law_first_ones : Cl P w K mg base 2 "_law_first_ones" (spLFirst Tb) [] := ok_lfirst T D106 B106 c__law_begin c__law_can c__law_step
  obtain ⟨f85, fd85, D85, B85⟩ := dat85 c X G
  have c__law_pot : Cl P w K mg base 1 "_law_pot" (spPot K Tb) [] := ok_pot T D85 B85 
  obtain ⟨f86, fd86, D86, B86⟩ := dat86 c X G
  have c__law_draw : Cl P w K mg base 1 "_law_draw" (spDraw Tb) [] := ok_draw T D86 B86 
  obtain ⟨f87, fd87, D87, B87⟩ := dat87 c X G
  have c__law_pick : Cl P w K mg base 2 "_law_pick" (spPick Tb) [] := ok_pick T D87 B87 c__law_draw
  obtain ⟨f88, fd88, D88, B88⟩ := dat88 c X G
  have c__law_rows : Cl P w K mg base 3 "_law_rows" (spRows Tb) [] := ok_rows T D88 B88 c__law_draw c__law_pick
  obtain ⟨f89, fd89, D89, B89⟩ := dat89 c X G
  have c__law_model : Cl P w K mg base 4 "_law_model" (spModel Tb) [] := ok_model T D89 B89 c__law_draw c__law_rows
  obtain ⟨f90, fd90, D90, B90⟩ := dat90 c X G
  have c__law_node : Cl P w K mg base 2 "_law_node" (spLNode Tb) [] := ok_lnode T D90 B90 c__law_draw
  obtain ⟨f91, fd91, D91, B91⟩ := dat91 c X G
  have c__law_script : Cl P w K mg base 3 "_law_script" (spLScript Tb) [] := ok_lscript T D91 B91 c__law_draw c__law_node
  obtain ⟨f92, fd92, D92, B92⟩ := dat92 c X G
  have c__law_plan : Cl P w K mg base 5 "_law_plan" (spLPlan Tb) [] := ok_lplan T D92 B92 c__law_draw c__law_pick c__law_model c__law_script
  obtain ⟨f93, fd93, D93, B93⟩ := dat93 c X G
  have c__law_marks : Cl P w K mg base 1 "_law_marks" (spMarks Tb) [] := ok_marks T D93 B93 
  obtain ⟨f95, fd95, D95, B95⟩ := dat95 c X G
  have c__law_telling : Cl P w K mg base 1 "_law_telling" (spTelling Tb) [] := ok_telling T D95 B95 
  obtain ⟨f94, fd94, D94, B94⟩ := dat94 c X G
  have c__law_right_plan : Cl P w K mg base 2 "_law_right_plan" (spLRight Tb) [] := ok_lright T D94 B94 c__law_draw c__law_marks c__law_telling
  obtain ⟨f96, fd96, D96, B96⟩ := dat96 c X G
  have c__law_bent : Cl P w K mg base 3 "_law_bent" (spBent Tb) [] := ok_bent T D96 B96 c__law_draw c__law_pick
  obtain ⟨f97, fd97, D97, B97⟩ := dat97 c X G
  have c__law_any_plan : Cl P w K mg base 6 "_law_any_plan" (spAny Tb) [] := ok_any T D97 B97 c__law_draw c__law_pick c__law_model c__law_right_plan c__law_plan c__law_bent
  obtain ⟨f108, fd108, D108, B108⟩ := dat108 c X G
  have g__law_plan_right : CalG P w K mg base 12 "_law_plan_right" (spPR Tb) := ok_pright T D108 B108 c__law_made c__law_many c__law_first_ones c_how_many_full k_how_many_full c_full_at k_full_at c_can_step c__law_last c__law_draw
  obtain ⟨f109, fd109, D109, B109⟩ := dat109 c X G
  have g__law_right : CalG P w K mg base 13 "_law_right" (spR Tb) := ok_right T D109 B109 g__law_plan_right c__law_any_plan
  exact ok_law T FL g__law_right c__law_pot
end K57
set_option Elab.async false
set_option linter.all false
set_option autoImplicit false
set_option maxRecDepth 100000
set_option maxHeartbeats 4000000
/-! K58Y: the law, from the head. -/
namespace K57
open PySem PySem.Spec PyProof.Rows L2 LamX
theorem small_bits {z : Int} (hz : Builtin.Int.intBits z ≤ 1048576) : z.natAbs < 2 ^ 1048577 := by
  by_cases e : z.natAbs = 0
  · rw [e]
    exact Nat.pow_pos (by decide)
  · refine (Nat.log2_lt e).mp ?_
    unfold Builtin.Int.intBits at hz
    rw [if_neg (fun q => e (by rw [beq_iff_eq.mp q]; rfl))] at hz
    omega
theorem tabs0 {H : Hp} {p0 : Addr} {q : Str} (e : H p0 = some (.tbl #[])) : Tabs [(p0, q)] H := fun p hp => by
  rw [List.mem_singleton.mp hp]
  exact ⟨#[], e, trivial, fun pos cv z => by cases z⟩
theorem walk_law {q : Program} {loose : List Str} {XP : (Str → Option Value) → Heap → Prop} {d : DefRec} (hn : d.name = "law") (hdf : d.params.defaults = []) :
    PySem.W.WalkO q loose XP hkL.says (PySem.Challenge.rw_settlesfirst_k57_whole_full_weavings).row.toRowW d [] (fun f vs => PySem.call f vs) := by
  refine Att.attach_callB (l := PySem.Challenge.rw_settlesfirst_k57_whole_full_weavings) (n := 63) rfl hdf fun w s₀ s₁ mg mb fa o pm cd doc a vs ns G Y ho hd hcd hmg hobj hints hlen hbits hg => ?_
  obtain ⟨K, KX, c⟩ := Y
  rw [hn] at hmg
  obtain ⟨fd, FL, df, _⟩ := c.fn 66 (at_ := ("law", none)) (x := "law") (y := "law") (st := top 110) rfl
  have e := hmg.symm.trans (He.glo_ok KX G.T.g (c.at_ 119 rfl))
  cases e
  have one : (("places_upward" : Str), (none : Option Str)) ∈ tabD := List.mem_singleton.mpr rfl
  refine law_go KX G.T.g G.T.b G.T.builtins G.T.nolimit hg (c.empty _ one) (c.out _ one) (PySem.W.codeHd_of_K KX (c.hd _ one)) G.T.bmain hobj hints (Nat.le_trans hlen (by decide)) ⟨rfl, by decide, by decide⟩
    (fun base kb gb tb => law_fn c kb gb tb FL) ?_ (fun H ht hS => ⟨a, ns, rfl, hS, hlen, fun x hx => small_bits (hbits x hx), tabs0 ht, fun _ => rfl⟩)
  intro t u
  obtain ⟨oc, od, dV, kV, doc', pm', an, cdv, ct, osl, rfl, _, _⟩ := FL.ex
  have e : dV = .none := df
  subst e
  exact .of_eq rfl
end K57
open PySem PySem.W PySem.Calls PyProof.Rows
set_option maxRecDepth 100000 in
set_option maxHeartbeats 0 in
theorem PySem.Challenge.cw_settlesfirst_k57_whole_full_weavings_holds : PySem.Challenge.rw_settlesfirst_k57_whole_full_weavings.Holds := by
  w_on; o_law
  refine HandSHeadRun.head_any (r := OpenLaw.row PySem.Challenge.rw_settlesfirst_k57_whole_full_weavings) (q := view (OpenLaw.row PySem.Challenge.rw_settlesfirst_k57_whole_full_weavings).prog [110]) (H := K57.hkL) (ob := K57.obL) (M := 20000) (loose := K57.nmAll) (d := HandSHeadRun.topDef (OpenLaw.row PySem.Challenge.rw_settlesfirst_k57_whole_full_weavings).prog 110) (kwd := []) K57.obL_eq
    (by kernel_rfl) (fun s => by kernel_rfl) K57.run_head (by kernel_rfl) (by kernel_rfl) (by kernel_rfl) (by rfl) (by first | assumption | decide +kernel) (by decide +kernel) ⟨rfl, rfl, rfl, rfl, rfl, by decide +kernel⟩ ?hw ?hc
  case hw => w_witness2
  case hc => exact K57.walk_law (by kernel_rfl) (by kernel_rfl)
